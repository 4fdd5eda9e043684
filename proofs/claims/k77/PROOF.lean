import PyProof.Rows.All
import Wide.All
import OpenK.AllK
import Wide.FinOn
import PySem.PyData
import KE.SortData
import PyProof.ReprReads
import HandS.ForMost
import HandS.Deep
import KE.KDictKeyed
import KE.KeyNested
import HandS.Lambda
import HandS.Wide
import HandS.IsInst
import HandS.TupAny
import HandS.TupMul
import PyProof.AutoIntOps
import HandS.Dict
import KE.KSortedM
import KE.KDictCopyH
import HandS.TryOnly
import HandS.Star
import KE.KDictItemsList
import HandS.DictTup
import KE.KDictDisplayH
import HandS.RaiseMore
import HandS.Conv
import HandS.Iter
import HandS.ExcValue
import HandS.ExcIs
import HandS.ExcField
import KE.KExcIs
import HandS.ExcInit
import HandS.ExcSuper
import KE.KExcSuper
import HandS.SetFor
import PyProof.Rows.CountFlat
import PyProof.ReprRoads
import PyProof.StrLawsRepr
import PyProof.Rows.RegStrFacts
import HandS.EndTab
import KE.KNestM
import KE.KLam
import KE.RegKSuper
import PySem.Challenge.RW_doorsleep_k77_learning_refused
section ZPDCore
set_option linter.all false
set_option maxRecDepth 100000
namespace PD
open PySem

/-- a datum: frozen trees, and places in the store -/
inductive D where
  | non | bl (b : Bool) | int (i : Int) | str (x : Str)
  | tup (ds : List D) | lst (ds : List D) | dct (kvs : List (D × D))
  | ref (i : Nat) | scr (ns : List Int)
  deriving Inhabited
/-- what stands at a place of the store -/
inductive O where
  | lst (ds : List D) | dct (kvs : List (D × D)) | ins (c : Nat) (fs : List (Nat × D)) | tbl
abbrev Store := List O
inductive Res (α : Type) where
  | ok (a : α) (st : Store) | exc (c : Nat) (v : D) (st : Store) | bad
abbrev M (α : Type) := Store → Res α
@[inline] def ret {α : Type} (a : α) : M α := fun st => .ok a st
def bnd {α β : Type} (m : M α) (f : α → M β) : M β := fun st => match m st with
  | .ok a st' => f a st'
  | .exc c v st' => .exc c v st'
  | .bad => .bad
def fail {α : Type} : M α := fun _ => .bad
def opt {α : Type} : Option α → M α
  | some a => ret a
  | none => fail
@[simp] theorem ret_ap {α : Type} (a : α) (st : Store) : ret a st = .ok a st := rfl
@[simp] theorem fail_ap {α : Type} (st : Store) : (fail : M α) st = .bad := rfl
@[simp] theorem opt_some {α : Type} (a : α) : opt (some a) = ret a := rfl
@[simp] theorem opt_none {α : Type} : opt (none : Option α) = fail := rfl
theorem bnd_ok {α β : Type} {m : M α} {f : α → M β} {st st' : Store} {a : α} (h : m st = .ok a st') : bnd m f st = f a st' := by unfold bnd; rw [h]
theorem bnd_ap {α β : Type} (m : M α) (f : α → M β) (st : Store) : bnd m f st = match m st with | .ok a st' => f a st' | .exc c v st' => .exc c v st' | .bad => .bad := rfl
@[simp] theorem bnd_ret {α β : Type} (a : α) (f : α → M β) : bnd (ret a) f = f a := rfl
@[simp] theorem bnd_fail {α β : Type} (f : α → M β) : bnd fail f = fail := rfl

mutual
/-- a plain datum as the library's -/
def D.py : D → PyData
  | .bl b => .bool b
  | .int i => .int i
  | .str x => .str x
  | .tup ds => .tuple (D.pys ds)
  | .lst ds => .list (D.pys ds)
  | _ => .none
def D.pys : List D → List PyData
  | [] => []
  | d :: ds => d.py :: D.pys ds
end
mutual
/-- any datum but places as the library's -/
def D.pd : D → PyData
  | .bl b => .bool b
  | .int i => .int i
  | .str x => .str x
  | .tup ds => .tuple (D.pds ds)
  | .lst ds => .list (D.pds ds)
  | .dct kvs => .dict (D.pdk kvs)
  | _ => .none
def D.pds : List D → List PyData
  | [] => []
  | d :: ds => d.pd :: D.pds ds
def D.pdk : List (D × D) → List (PyData × PyData)
  | [] => []
  | (k, d) :: r => (k.pd, d.pd) :: D.pdk r
end
def D.leafB : D → Bool
  | .int _ | .str _ => true
  | _ => false
mutual
/-- may be shown -/
def D.shw : D → Bool
  | .non | .bl _ => true
  | .int i => decide (i.natAbs.log2 < 1920)
  | .str x => x.cps.all fun c => decide (c < 1114112)
  | .tup ds | .lst ds => D.shws ds
  | .dct kvs => D.shwk kvs
  | .ref _ | .scr _ => false
def D.shws : List D → Bool
  | [] => true
  | d :: ds => d.shw && D.shws ds
def D.shwk : List (D × D) → Bool
  | [] => true
  | (k, d) :: r => k.leafB && k.shw && d.shw && D.shwk r
end
mutual
/-- no text is longer -/
def D.shl : D → Nat
  | .non => 4
  | .bl _ => 5
  | .int _ => 1921
  | .str x => 10 * x.length + 2
  | .tup ds | .lst ds => D.shls ds + 3
  | .dct kvs => D.shlk kvs + 2
  | .ref _ | .scr _ => 0
def D.shls : List D → Nat
  | [] => 0
  | d :: ds => d.shl + 2 + D.shls ds
def D.shlk : List (D × D) → Nat
  | [] => 0
  | (k, d) :: r => k.shl + 2 + d.shl + 2 + D.shlk r
end
/-! ### pure operations -/
mutual
/-- no place, no dict, no script within -/
def D.plain : D → Bool
  | .non | .bl _ | .int _ => true
  | .str x => x.cps.all fun c => decide (c < 1114112)
  | .tup ds | .lst ds => D.plainAll ds
  | .dct _ | .ref _ | .scr _ => false
def D.plainAll : List D → Bool
  | [] => true
  | d :: ds => d.plain && D.plainAll ds
end
mutual
def D.depth : D → Nat
  | .non | .bl _ | .int _ | .str _ | .dct _ | .ref _ | .scr _ => 0
  | .tup ds | .lst ds => D.depthAll ds + 1
def D.depthAll : List D → Nat
  | [] => 0
  | d :: ds => max d.depth (D.depthAll ds)
end
mutual
/-- == of plain data -/
def D.eqv : D → D → Bool
  | .non, .non => true
  | .bl a, .bl b => a == b
  | .bl a, .int j => (if a then 1 else 0) == j
  | .int i, .bl b => i == (if b then 1 else 0)
  | .int i, .int j => i == j
  | .str x, .str y => x == y
  | .lst xs, .lst ys => D.eqvAll xs ys
  | .tup xs, .tup ys => D.eqvAll xs ys
  | _, _ => false
def D.eqvAll : List D → List D → Bool
  | [], [] => true
  | x :: xs, y :: ys => D.eqv x y && D.eqvAll xs ys
  | _, _ => false
end
/-- data that == , in, a dict's key are told of -/
def D.eqOk (d : D) : Bool := d.plain && decide (d.depth ≤ 60)
def LIM : Nat := 1000000

inductive Bop where | add | sub | mul | fdiv | mod | pow
  deriving DecidableEq
def gMul (i j : Int) : Bool := decide (-(2 ^ 64) < i ∧ i < 2 ^ 64) || decide (-(2 ^ 64) < j ∧ j < 2 ^ 64)
def gPow (i j : Int) : Bool := decide (0 ≤ j ∧ j ≤ 1000) && decide (i.natAbs < 2 ^ 4000)
def binD : Bop → D → D → Option D
  | .add, .int i, .int j => some (.int (i + j))
  | .add, .lst a, .lst b => if a.length + b.length ≤ LIM then some (.lst (a ++ b)) else none
  | .add, .tup a, .tup b => if a.length + b.length ≤ LIM then some (.tup (a ++ b)) else none
  | .add, .str a, .str b => if a.length + b.length ≤ LIM then some (.str (a ++ b)) else none
  | .sub, .int i, .int j => some (.int (i - j))
  | .mul, .int i, .int j => if gMul i j then some (.int (i * j)) else none
  | .mul, .tup a, .int j => if 1 ≤ j ∧ j ≤ 1000 ∧ a.length ≤ 1000 then some (.tup (List.replicate j.toNat a).flatten) else none
  | .fdiv, .int i, .int j => if 0 < j ∧ j < 1073741824 then some (.int (i / j)) else none
  | .mod, .int i, .int j => if 0 < j then some (.int (i % j)) else none
  | .pow, .int i, .int j => if gPow i j then some (.int (i ^ j.toNat)) else none
  | _, _, _ => none

inductive Cop where | eq | ne | lt | le | gt | ge | is_ | isnot | in_ | notin
  deriving DecidableEq
def D.isNon : D → Bool
  | .non => true
  | _ => false
/-- the place of a key that is equal -/
def findK (k : D) : List (D × D) → Option D
  | [] => none
  | (x, y) :: r => if D.eqv x k then some y else findK k r
def putK (k v : D) : List (D × D) → List (D × D)
  | [] => [(k, v)]
  | (x, y) :: r => if D.eqv x k then (x, v) :: r else (x, y) :: putK k v r
mutual
def D.hash : D → Bool
  | .non | .bl _ | .int _ | .str _ => true
  | .tup ds => D.hashAll ds
  | _ => false
def D.hashAll : List D → Bool
  | [] => true
  | d :: ds => d.hash && D.hashAll ds
end
def D.isTup : D → Bool
  | .tup _ => true
  | _ => false
def headTup : List (D × D) → Bool
  | [] => true
  | (x, _) :: _ => x.isTup
/-- a key that a dict may be asked for: a tuple of dInts, texts, dBools, None, nested to depth 7 -/
def dKey (k : D) (kvs : List (D × D)) : Bool := k.isTup && k.hash && decide (k.depth ≤ 7) && headTup kvs
def cmpD : Cop → D → D → Option Bool
  | .eq, a, b => if a.eqOk && b.eqOk then some (a.eqv b) else none
  | .ne, a, b => if a.eqOk && b.eqOk then some (!a.eqv b) else none
  | .lt, .int i, .int j => some (decide (i < j))
  | .le, .int i, .int j => some (decide (i ≤ j))
  | .gt, .int i, .int j => some (decide (j < i))
  | .ge, .int i, .int j => some (decide (j ≤ i))
  | .is_, a, .non => some a.isNon
  | .isnot, a, .non => some (!a.isNon)
  | .in_, a, .tup ds => if a.eqOk && (D.tup ds).eqOk then some (ds.any fun z => z.eqv a) else none
  | .notin, a, .tup ds => if a.eqOk && (D.tup ds).eqOk then some (!ds.any fun z => z.eqv a) else none
  | .in_, a, .lst ds => if a.eqOk && (D.lst ds).eqOk then some (ds.any fun z => z.eqv a) else none
  | .notin, a, .lst ds => if a.eqOk && (D.lst ds).eqOk then some (!ds.any fun z => z.eqv a) else none
  | .in_, a, .dct kvs => if dKey a kvs then some (findK a kvs).isSome else none
  | .notin, a, .dct kvs => if dKey a kvs then some (!(findK a kvs).isSome) else none
  | _, _, _ => none
/-- the frozen look of a datum -/
def view (st : Store) : D → D
  | .ref i => match st[i]? with
    | some (.lst ds) => .lst ds
    | some (.dct kvs) => .dct kvs
    | _ => .ref i
  | d => d

/-- an index: from behind if below 0 -/
def ixN (n : Nat) (i : Int) : Option Nat := if 0 ≤ i then (if i < n then some i.toNat else none) else if -(n : Int) ≤ i then some (i + n).toNat else none
def atI {α : Type} (xs : List α) (i : Int) : Option α := (ixN xs.length i).bind fun j => xs[j]?
def idxD : D → D → Option D
  | .lst ds, .int i => atI ds i
  | .tup ds, .int i => atI ds i
  | .scr ns, .int i => (atI ns i).map .int
  | .dct kvs, k => if dKey k kvs then findK k kvs else none
  | _, _ => none
/-- a slice's border -/
def sIx (n d : Nat) : Option Int → Nat
  | none => d
  | some i => if i < 0 then (max (i + n) 0).toNat else (min i n).toNat
def cutL {α : Type} (xs : List α) (lo hi : Option Int) : List α := (xs.drop (sIx xs.length 0 lo)).take (sIx xs.length xs.length hi - sIx xs.length 0 lo)
def slcD : D → Option Int → Option Int → Option D
  | .lst ds, lo, hi => some (.lst (cutL ds lo hi))
  | .tup ds, lo, hi => some (.tup (cutL ds lo hi))
  | _, _, _ => none

inductive Ty where | int | bool | str | tuple | list | dict
  deriving DecidableEq
def isTy : Ty → D → Option Bool
  | _, .ref _ | _, .scr _ => none
  | t, .dct [] | t, .dct ((.str _, _) :: _) => some (decide (t = .dict))
  | _, .dct _ => none
  | .int, .int _ | .int, .bl _ | .bool, .bl _ | .str, .str _ | .tuple, .tup _ | .list, .lst _ => some true
  | _, _ => some false
/-- all are dInts -/
def dInts : List D → Option (List Int)
  | [] => some []
  | .int i :: r => (dInts r).map (i :: ·)
  | _ :: _ => none
def dBools : List D → Option (List Bool)
  | [] => some []
  | .bl i :: r => (dBools r).map (i :: ·)
  | _ :: _ => none
def insI (x : Int) : List Int → List Int
  | [] => [x]
  | y :: r => if x ≤ y then x :: y :: r else y :: insI x r
def sortI : List Int → List Int
  | [] => []
  | x :: r => insI x (sortI r)
def maxI : List Int → Int
  | [] => 0
  | [x] => x
  | x :: r => max x (maxI r)
def minI : List Int → Int
  | [] => 0
  | [x] => x
  | x :: r => min x (minI r)
mutual
/-- < of data alike in form: dInts, texts of a like kind aside; tuples by their first unlike items -/
def D.ltv : D → D → Bool
  | .int i, .int j => decide (i < j)
  | .tup xs, .tup ys => D.ltvAll xs ys
  | _, _ => false
def D.ltvAll : List D → List D → Bool
  | [], [] => false
  | [], _ :: _ => true
  | _ :: _, [] => false
  | x :: xs, y :: ys => if D.eqv x y then D.ltvAll xs ys else D.ltv x y
end
def rangeD (lo hi : Int) : List D := (List.range (hi - lo).toNat).map fun (k : Nat) => .int (lo + k)
def gRng (i : Int) : Bool := decide (-1000000 ≤ i ∧ i ≤ 1000000)

/-- rows that may be sorted -/
def rowsOk (ds : List D) : Bool := D.plainAll ds && D.eqOk (.lst ds) && (ds.all fun a => ds.all fun b => PySem.W.alike a.py b.py) && (ds.all fun d => match d with | .tup (_ :: _) => true | _ => false) && decide (ds.length ≤ LIM)
def sortRows (ds : List D) : List D := ds.mergeSort (PySem.W.dataLe false D.py)
/-- built-in functions that read -/
inductive Bi where | len | abs | int | max | min | sum | all | any | list | tuple | sorted | sortedRows | isi (t : Ty) | repr | reprA
  deriving DecidableEq
def biD : Bi → List D → Option D
  | .len, [.lst ds] => some (.int ds.length)
  | .len, [.tup ds] => some (.int ds.length)
  | .len, [.scr ds] => some (.int ds.length)
  | .len, [.dct kvs] => some (.int kvs.length)
  | .abs, [.int i] => some (.int (if i < 0 then -i else i))
  | .int, [.int i] => some (.int i)
  | .int, [.bl b] => some (.int (if b then 1 else 0))
  | .max, [.int i, .int j] => some (.int (if j > i then j else i))
  | .min, [.int i, .int j] => some (.int (if j < i then j else i))
  | .max, [.lst ds] => match dInts ds with
    | some ns => if ns = [] then none else some (.int (maxI ns))
    | none => none
  | .min, [.lst ds] => match dInts ds with
    | some ns => if ns = [] then none else some (.int (minI ns))
    | none => none
  | .sum, [.lst ds] => (dInts ds).map fun ns => .int ns.sum
  | .all, [.lst ds] => (dBools ds).map fun bs => .bl (bs.all id)
  | .any, [.lst ds] => (dBools ds).map fun bs => .bl (bs.any id)
  | .list, [.lst ds] => some (.lst ds)
  | .list, [.tup ds] => some (.lst ds)
  | .list, [.dct kvs] => if headTup kvs then some (.lst (kvs.map (·.1))) else none
  | .tuple, [.lst ds] => some (.tup ds)
  | .tuple, [.tup ds] => some (.tup ds)
  | .sorted, [.lst ds] => match dInts ds with
    | some ns => if ns.length < 64 then some (.lst ((sortI ns).map .int)) else none
    | none => none
  | .isi t, [d] => (isTy t d).map .bl
  | .repr, [.int i] => if i.natAbs < 2 ^ 64 then some (.str (Str.ofString (toString i))) else none
  | .reprA, [d] => if d.shw && decide (d.pd.depth ≤ 60) && decide (d.shl ≤ LIM) then some (.str d.pd.shown) else none
  | .sortedRows, [.lst ds] => if rowsOk ds then some (.lst (sortRows ds)) else none
  | _, _ => none

/-! ### the trees -/
inductive X where
  | nil | cons (h t : X)
  | var (i : Nat) | peek (i : Nat) | lit (d : D) | glob (g : Nat)
  | tup (es : X) | lst (es : X) | new (es : X) | newd | star (e : X)
  | bin (o : Bop) (a b : X) | neg (a : X) | not_ (a : X) | and_ (es : X) | or_ (es : X) | ite (t a b : X)
  | cmp (o : Cop) (a b : X) | cmp2 (o o' : Cop) (a b c : X)
  | call (f : Nat) (as : X) | mk (c : Nat) (as : X) | cm (m : Nat) (o as : X) | bif (b : Bi) (as : X)
  | get (o k : X) | items (o : X)
  | fld (o : X) (f : Nat) | idx (a i : X) | slc (a lo hi : X)
  | rng (as : X) | src (e : X) | lrg (r : X) | lc (own : List Nat) (tg it t elt : X)
  -- what a name takes
  | pl (e : X) | own (e : X) | ownd (ks vs : X)
  -- statements
  | asg (i : Nat) (e : X) | tgt (tg e : X) | par (i j : Nat) (a b : X)
  | setI (o i e : X) | setF (o : X) (f : Nat) (e : X) | aug (i : Nat) (o : Bop) (e : X) | augF (o : X) (f : Nat) (b : Bop) (e : X)
  | app (i : Nat) (e : X) | ext (i : Nat) (e : X) | popo (j i : Nat) | popi (j i : Nat) (k : X) | putd (i : Nat) (k v : X) | freeze (i : Nat)
  | raise (c : Nat) (e : X) | xcall (f : Nat) (as : X) | q (s : X) | ifx (t b b' : X) | met (g : Nat) (ws : List (Nat × Str)) (as : X) | dct0 | dct1 (k : Str) (e : X) | puti (i : Nat) (k v : X)
  | ex (e : X) | if_ (t b b' : X) | for_ (tg it b : X) | while_ (t b : X) | rt (e : X) | rtN | pass_ | brk | cnt | never
  | tv (i : Nat) | tt (ts : X)
  deriving Inhabited

inductive Sl where | no | v (d : D) | ol (ds : List D) | od (kvs : List (D × D))
  deriving Inhabited
abbrev Env := List Sl
inductive Out where | nx (e : Env) | rt (d : D) | bk (e : Env) | ct (e : Env)

structure FD where
  np : Nat
  ns : Nat
  body : X
structure Prog where
  fn : Nat → FD
  mth : Nat → Nat → Option Nat
  ini : Nat → Option Nat
  glb : Nat → Option D
  hf : Nat → Nat → Bool
  fuel : Nat
abbrev Calls := Nat → List D → M D

/-! a target takes a datum -/
mutual
def bindT : X → D → Env → Option Env
  | .tv i, d, env => some (env.set i (.v d))
  | .tt ts, .tup ds, env => bindTs ts ds env
  | .tt ts, .lst ds, env => bindTs ts ds env
  | _, _, _ => none
def bindTs : X → List D → Env → Option Env
  | .nil, [], env => some env
  | .cons t ts, d :: ds, env => (bindT t d env).bind (bindTs ts ds)
  | _, _, _ => none
end
def wipe (env : Env) : List Nat → Env
  | [] => env
  | v :: vs => (wipe env vs).set v .no
/-- the items that a for walks -/
def itemsD : D → Option (List D)
  | .lst ds | .tup ds => some ds
  | _ => none
def mapL (f : D → M (Option D)) : List D → M (List D)
  | [] => ret []
  | d :: ds => bnd (f d) fun r => bnd (mapL f ds) fun rs => ret (match r with | some x => x :: rs | none => rs)
def forL (f : D → Env → M Out) : List D → Env → M Out
  | [], env => ret (.nx env)
  | d :: ds, env => bnd (f d env) fun o => match o with
    | .nx e | .ct e => forL f ds e
    | .bk e => ret (.nx e)
    | .rt x => ret (.rt x)
def whileL (t : Env → M Bool) (b : Env → M Out) : Nat → Env → M Out
  | 0, _ => fail
  | n + 1, env => bnd (t env) fun c => if c then bnd (b env) fun o => match o with
      | .nx e | .ct e => whileL t b n e
      | .bk e => ret (.nx e)
      | .rt x => ret (.rt x)
    else ret (.nx env)
def blD : D → M Bool
  | .bl b => ret b
  | _ => fail
def intO : D → Option (Option Int)
  | .int i => some (some i)
  | _ => none
def getF (f : Nat) : List (Nat × D) → Option D
  | [] => none
  | (g, d) :: r => if g = f then some d else getF f r
def putF (f : Nat) (d : D) : List (Nat × D) → List (Nat × D)
  | [] => [(f, d)]
  | (g, x) :: r => if g = f then (g, d) :: r else (g, x) :: putF f d r
def rdF (f : Nat) : D → M D
  | .ref i => fun st => match st[i]? with
    | some (.ins _ fs) => match getF f fs with
      | some d => .ok d st
      | none => .bad
    | _ => .bad
  | _ => fail
def wrF (hf : Nat → Nat → Bool) (f : Nat) (d : D) : D → M Unit
  | .ref i => fun st => match st[i]? with
    | some (.ins c fs) => if fs.length ≤ 100 ∧ hf c f = true then .ok () (st.set i (.ins c (putF f d fs))) else .bad
    | _ => .bad
  | _ => fail
def wrI (k d : D) : D → M Unit
  | .ref i => fun st => match st[i]? with
    | some (.lst ds) => match k with
      | .int n => match ixN ds.length n with
        | some j => .ok () (st.set i (.lst (ds.set j d)))
        | none => .bad
      | _ => .bad
    | some (.dct kvs) => if dKey k kvs && decide (kvs.length < LIM) then .ok () (st.set i (.dct (putK k d kvs))) else .bad
    | _ => .bad
  | _ => fail
def alloc (o : O) : M D := fun st => .ok (.ref st.length) (st ++ [o])
def clsOf : D → M (Nat × Nat)
  | .ref i => fun st => match st[i]? with
    | some (.ins c _) => .ok (c, i) st
    | _ => .bad
  | _ => fail

def vw (d : D) : M D := fun st => .ok (view st d) st
def vws (ds : List D) : M (List D) := fun st => .ok (ds.map (view st)) st
def dctT : D → Bool
  | .dct kvs => headTup kvs
  | _ => false
def dItems (kvs : List (D × D)) : D := .lst (kvs.map fun p => .tup [p.1, p.2])
/-- an error is no answer here -/
def noX {α : Type} (m : M α) : M α := fun st => match m st with
  | .ok a st' => .ok a st'
  | _ => .bad
/-- asked where the table of code objects stands first in the store -/
def tab0 {α : Type} (m : M α) : M α := fun (st : Store) => match st[0]? with
  | some O.tbl => m st
  | _ => .bad
def isStrK : D → Bool
  | .str _ => true
  | _ => false
/-- what a def tells of a call: (word of the error, its value) -/
def metR (ws : List (Nat × Str)) : Res D → Res D
  | .ok _ st => .ok (.tup [.str "none", .non]) st
  | .exc c v st => match ws.lookup c with
    | some w => .ok (.tup [.str w, v]) st
    | none => .bad
  | .bad => .bad
section
variable (P : Prog) (cf : Calls)
mutual
def evE : X → Env → M D
  | .var i, env => match env[i]? with
    | some (.v d) => ret d
    | _ => fail
  | .peek i, env => match env[i]? with
    | some (.ol ds) => ret (.lst ds)
    | some (.od kvs) => ret (.dct kvs)
    | _ => fail
  | .lit d, _ => ret d
  | .glob g, _ => opt (P.glb g)
  | .tup es, env => bnd (evA es env) fun ds => if ds.length ≤ LIM then ret (.tup ds) else fail
  | .lst es, env => bnd (evA es env) fun ds => if ds.length ≤ LIM then ret (.lst ds) else fail
  | .new es, env => bnd (evA es env) fun ds => if ds.length ≤ LIM then alloc (.lst ds) else fail
  | .newd, _ => alloc (.dct [])
  | .bin o a b, env => bnd (evE a env) fun x => bnd (evE b env) fun y => bnd (vw x) fun x => bnd (vw y) fun y => opt (binD o x y)
  | .neg a, env => bnd (evE a env) fun x => match x with
    | .int i => ret (.int (-i))
    | _ => fail
  | .not_ a, env => bnd (bnd (evE a env) blD) fun b => ret (.bl (!b))
  | .and_ es, env => evAnd es env
  | .or_ es, env => evOr es env
  | .ite t a b, env => bnd (bnd (evE t env) blD) fun c => if c then evE a env else evE b env
  | .cmp o a b, env => bnd (evE a env) fun x => bnd (evE b env) fun y => bnd (vw x) fun x => bnd (vw y) fun y => bnd (opt (cmpD o x y)) fun r => ret (.bl r)
  | .cmp2 o o' a b c, env => bnd (evE a env) fun x => bnd (evE b env) fun y => bnd (opt (cmpD o x y)) fun r =>
      if r then bnd (evE c env) fun z => bnd (opt (cmpD o' y z)) fun r => ret (.bl r) else ret (.bl false)
  | .call f as, env => bnd (evA as env) fun ds => cf f ds
  | .mk c as, env => bnd (evA as env) fun ds => bnd (alloc (.ins c [])) fun r => match P.ini c with
    | some f => bnd (cf f (r :: ds)) fun x => match x with
      | .non => ret r
      | _ => fail
    | none => fail
  | .cm m o as, env => bnd (evE o env) fun x => bnd (clsOf x) fun c => match P.mth c.1 m with
    | some f => bnd (evA as env) fun ds => cf f (x :: ds)
    | none => fail
  | .bif b as, env => bnd (evV as env) fun ds => bnd (vws ds) fun ds => opt (biD b ds)
  | .get o k, env => bnd (evE o env) fun x => bnd (vw x) fun x0 => if dctT x0 then bnd (evE k env) fun y => bnd (vw x) fun x => (match x with
    | .dct kvs => if dKey y kvs then ret ((findK y kvs).getD .non) else fail
    | _ => fail) else fail
  | .fld o f, env => bnd (evE o env) fun x => rdF f x
  | .idx a i, env => bnd (evE a env) fun x => bnd (evE i env) fun y => bnd (vw x) fun x => opt (idxD x y)
  | .slc a lo hi, env => bnd (evE a env) fun x => bnd (evO lo env) fun l => bnd (evO hi env) fun h => bnd (vw x) fun x => opt (slcD x l h)
  | .lrg r, env => bnd (evIt r env) fun ds => ret (.lst ds)
  | .dct0, _ => ret (.dct [])
  | .dct1 k e, env => bnd (evE e env) fun d => ret (.dct [(.str k, d)])
  | .met g ws as, env => tab0 (bnd (noX (evA as env)) fun ds st => metR ws (cf g ds st))
  | .lc own tg it t elt, env => bnd (evIt it env) fun ds => if ds.length ≤ LIM then
      bnd (mapL (fun d => match bindT tg d (wipe env own) with
        | some e => bnd (bnd (evE t e) blD) fun c => if c then bnd (evE elt e) fun y => ret (some y) else ret none
        | none => fail) ds) fun rs => ret (.lst rs)
      else fail
  | _, _ => fail
/-- arguments, items of a display (a star for a list within) -/
def evA : X → Env → M (List D)
  | .nil, _ => ret []
  | .cons (.star e) r, env => bnd (evIt e env) fun ds => bnd (evA r env) fun es => ret (ds ++ es)
  | .cons e r, env => bnd (evE e env) fun d => bnd (evA r env) fun ds => ret (d :: ds)
  | _, _ => fail
/-- arguments that may be peeked at -/
def evV : X → Env → M (List D)
  | .nil, _ => ret []
  | .cons e r, env => bnd (evE e env) fun d => bnd (evV r env) fun ds => ret (d :: ds)
  | _, _ => fail
def evO : X → Env → M (Option Int)
  | .nil, _ => ret none
  | .cons e _, env => bnd (evE e env) fun d => opt (intO d)
  | _, _ => fail
/-- what a for, a star walks -/
def evIt : X → Env → M (List D)
  | .rng (.cons a .nil), env => bnd (evE a env) fun x => match x with
    | .int j => if gRng j then ret (rangeD 0 j) else fail
    | _ => fail
  | .rng (.cons a (.cons b .nil)), env => bnd (evE a env) fun x => bnd (evE b env) fun y => match x, y with
    | .int i, .int j => if gRng i && gRng j then ret (rangeD i j) else fail
    | _, _ => fail
  | .items o, env => bnd (evE o env) fun x => bnd (vw x) fun x => match x with
    | .dct kvs => if headTup kvs then ret (kvs.map fun p => .tup [p.1, p.2]) else fail
    | _ => fail
  | .src e, env => bnd (evE e env) fun x => opt (itemsD x)
  | _, _ => fail
def evAnd : X → Env → M D
  | .cons e .nil, env => evE e env
  | .cons e r, env => bnd (bnd (evE e env) blD) fun c => if c then evAnd r env else ret (.bl false)
  | _, _ => fail
def evOr : X → Env → M D
  | .cons e .nil, env => evE e env
  | .cons e r, env => bnd (bnd (evE e env) blD) fun c => if c then ret (.bl true) else evOr r env
  | _, _ => fail
end
def evSl : X → Env → M Sl
  | .pl e, env => bnd (evE P cf e env) fun d => ret (.v d)
  | .own e, env => bnd (evE P cf e env) fun d => match d with
    | .lst ds => ret (.ol ds)
    | _ => fail
  | .ownd .nil .nil, _ => ret (.od [])
  | .ownd (.cons k .nil) (.cons v .nil), env => bnd (evE P cf k env) fun x => bnd (evE P cf v env) fun y => if dKey x [] then ret (.od [(x, y)]) else fail
  | _, _ => fail
def augOk : D → Bool
  | .int _ => true
  | _ => false
mutual
def evS : X → Env → M Out
  | .asg i e, env => bnd (evSl P cf e env) fun s => ret (.nx (env.set i s))
  | .tgt tg e, env => bnd (evE P cf e env) fun d => bnd (opt (bindT tg d env)) fun e => ret (.nx e)
  | .par i j a b, env => bnd (evSl P cf a env) fun x => bnd (evSl P cf b env) fun y => ret (.nx ((env.set i x).set j y))
  | .setI o i e, env => bnd (evE P cf e env) fun d => bnd (evE P cf o env) fun x => bnd (evE P cf i env) fun k => bnd (wrI k d x) fun _ => ret (.nx env)
  | .setF o f e, env => bnd (evE P cf e env) fun d => bnd (evE P cf o env) fun x => bnd (wrF P.hf f d x) fun _ => ret (.nx env)
  | .aug i o e, env => match env[i]? with
    | some (.v d) => bnd (evE P cf e env) fun y => if augOk d then bnd (opt (binD o d y)) fun r => ret (.nx (env.set i (.v r))) else fail
    | _ => fail
  | .augF o f b e, env => bnd (evE P cf o env) fun x => bnd (clsOf x) fun c1 => bnd (rdF f x) fun d => bnd (evE P cf e env) fun y => bnd (clsOf x) fun c2 => if augOk d && c1.1 == c2.1 then bnd (opt (binD b d y)) fun r => bnd (wrF P.hf f r x) fun _ => ret (.nx env) else fail
  | .app i e, env => bnd (evE P cf e env) fun d => match env[i]? with
    | some (.ol ds) => if ds.length < LIM then ret (.nx (env.set i (.ol (ds ++ [d])))) else fail
    | _ => fail
  | .ext i e, env => bnd (evE P cf e env) fun d => match env[i]?, d with
    | some (.ol ds), .lst es => if ds.length + es.length ≤ LIM then ret (.nx (env.set i (.ol (ds ++ es)))) else fail
    | _, _ => fail
  | .popo j i, env => match env[i]? with
    | some (.ol ds) => match ds[ds.length - 1]? with
      | some d => ret (.nx ((env.set i (.ol ds.dropLast)).set j (.v d)))
      | none => fail
    | _ => fail
  | .popi j i k, env => bnd (evE P cf k env) fun x => match env[i]?, x with
    | some (.ol ds), .int n => if ds.length ≤ LIM then (match ixN ds.length n with
      | some m => match ds[m]? with
        | some d => ret (.nx ((env.set i (.ol (ds.eraseIdx m))).set j (.v d)))
        | none => fail
      | none => fail) else fail
    | _, _ => fail
  | .putd i k v, env => bnd (evE P cf v env) fun d => bnd (evE P cf k env) fun x => match env[i]? with
    | some (.od kvs) => if dKey x kvs && decide (kvs.length < LIM) then ret (.nx (env.set i (.od (putK x d kvs)))) else fail
    | _ => fail
  | .freeze i, env => match env[i]? with
    | some (.ol ds) => ret (.nx (env.set i (.v (.lst ds))))
    | some (.od kvs) => ret (.nx (env.set i (.v (.dct kvs))))
    | _ => fail
  | .raise c e, env => bnd (noX (evE P cf e env)) fun d st => .exc c d st
  | .xcall f as, env => bnd (noX (evA P cf as env)) fun ds => bnd (cf f ds) fun _ => ret (.nx env)
  | .q s, env => noX (evS s env)
  | .ifx t b b', env => bnd (noX (bnd (evE P cf t env) blD)) fun c => if c then evB b env else evB b' env
  | .puti i k v, env => bnd (evE P cf v env) fun d => bnd (evE P cf k env) fun x => match env[i]?, x with
    | some (.ol ds), .int n => match ixN ds.length n with
      | some j => ret (.nx (env.set i (.ol (ds.set j d))))
      | none => fail
    | _, _ => fail
  | .ex e, env => bnd (evE P cf e env) fun _ => ret (.nx env)
  | .if_ t b b', env => bnd (bnd (evE P cf t env) blD) fun c => if c then evB b env else evB b' env
  | .for_ tg it b, env => bnd (evIt P cf it env) fun ds => forL (fun d e => match bindT tg d e with
      | some e => evB b e
      | none => fail) ds env
  | .while_ t b, env => whileL (fun e => bnd (evE P cf t e) blD) (fun e => evB b e) P.fuel env
  | .rt e, env => bnd (evE P cf e env) fun d => ret (.rt d)
  | .rtN, _ => ret (.rt .non)
  | .pass_, env => ret (.nx env)
  | .brk, env => ret (.bk env)
  | .cnt, env => ret (.ct env)
  | _, _ => fail
def evB : X → Env → M Out
  | .nil, env => ret (.nx env)
  | .cons s b, env => bnd (evS s env) fun o => match o with
    | .nx e => evB b e
    | o => ret o
  | _, _ => fail
end
/-- a def called -/
def runF (fd : FD) (ds : List D) : M D :=
  if ds.length = fd.np then bnd (evB P cf fd.body (ds.map .v ++ List.replicate (fd.ns - fd.np) .no)) fun o => match o with
    | .rt d => ret d
    | .nx _ => ret .non
    | _ => fail
  else fail
end
def callN (P : Prog) : Nat → Calls
  | 0 => fun _ _ => fail
  | n + 1 => fun f ds => runF P (callN P n) (P.fn f) ds
end PD
end ZPDCore
section ZPDRep
set_option Elab.async false
set_option linter.all false
set_option maxRecDepth 100000
set_option maxHeartbeats 1000000
namespace PD
open PySem L2

/-- where things stand -/
structure Tb where
  P : Program
  w : World
  K : PySem.W.Frag
  mg : Str → Option Value
  ca : Nat → Addr
  nm : Nat → Str
  hf : Nat → Nat → Bool
  /-- the table of a def's code objects, the name of its lambdas -/
  tb : Addr
  tq : Str

def leafK : D → Option Key
  | .int i => some (.inl i)
  | .str x => some (.inr x)
  | _ => none
mutual
def nkL : D → Option NestedKey
  | .non => some .none
  | .bl b => some (.num (if b then 1 else 0))
  | .int i => some (.num i)
  | .str x => some (.text x)
  | .tup ds => (nkLs ds).map .tup
  | _ => none
def nkLs : List D → Option (List NestedKey)
  | [] => some []
  | d :: ds => match nkL d, nkLs ds with
    | some k, some ks => some (k :: ks)
    | _, _ => none
end
/-- a dict with tuples as keys, its entries as they stand -/
def nDct (P : Program) (w : World) (ob : Obj) (es : List (NestedKey × Addr × V)) (a : Addr) : HO := .ext fun h =>
  es.length ≤ sizeLine ∧ (a == sysModules) = false ∧ ∃ xs : List (NestedKey × Addr × Value), Paired (fun (p : NestedKey × Addr × V) (q : NestedKey × Addr × Value) => p.1 = q.1 ∧ p.2.1 = q.2.1 ∧ RelV p.2.2 q.2.2) es xs ∧
    ∃ ents ep, h.get? a = some ob ∧ ob.ExactDict ∧ ob.data = .dict ents ep ∧ ents.toList = xs.map (entryOfKey (nestedKind P w)) ∧ (xs.map (·.1)).Nodup

def TupAt (T : Tb) (H : Hp) (F : Addr → Prop) (a : Addr) (xs : List V) : Prop := (H a = some (.tup xs) ∧ ¬ F a) ∨
    ∃ (o : Obj) (its : Array Value) (n : Nat), T.K.lookup a = some o ∧ o.cls = .type "tuple" ∧ o.data = .seq its n ∧ its.size ≤ sizeLine ∧ Vals xs its.toList
theorem TupAt.sq {T : Tb} {H : Hp} {F : Addr → Prop} {a : Addr} {xs : List V} (h : TupAt T H F a xs) : SqT T.K H a xs := by
  rcases h with h | h
  · exact .inl (.inl h.1)
  · exact .inr h

def ScrAt (T : Tb) (H : Hp) (F : Addr → Prop) (a : Addr) (xs : List V) : Prop := (Rd H a (.lst xs) ∧ ¬ F a) ∨
    ∃ (o : Obj) (its : Array Value) (n : Nat), T.K.lookup a = some o ∧ o.cls = .type "list" ∧ o.dict = none ∧ o.data = .seq its n ∧ its.size ≤ sizeLine ∧ Vals xs its.toList
theorem ScrAt.sq {T : Tb} {H : Hp} {F : Addr → Prop} {a : Addr} {xs : List V} (h : ScrAt T H F a xs) : SqL T.K H a xs := by
  rcases h with h | h
  · exact .inl h.1
  · exact .inr h

section
variable (T : Tb) (H : Hp) (F : Addr → Prop) (μ : List Addr)
mutual
/-- the value that a datum is -/
def Rep : D → V → Prop
  | .non, v => v = .non
  | .bl b, v => v = .bl b
  | .int i, v => v = .int i
  | .str x, v => v = .str x
  | .tup ds, v => ∃ a xs, v = .ref a ∧ TupAt T H F a xs ∧ Reps ds xs
  | .lst ds, v => ∃ a xs, v = .ref a ∧ H a = some (.lst xs) ∧ ¬ F a ∧ Reps ds xs
  | .dct kvs, v => ∃ a, v = .ref a ∧ ¬ F a ∧ ((∃ es, H a = some (.dK es) ∧ KVl kvs es) ∨ ∃ es ob, es ≠ [] ∧ H a = some (nDct T.P T.w ob es a) ∧ KVn kvs es)
  | .ref i, v => ∃ a, v = .ref a ∧ μ[i]? = some a
  | .scr ns, v => ∃ a, v = .ref a ∧ ScrAt T H F a (ns.map V.int)
def Reps : List D → List V → Prop
  | [], xs => xs = []
  | d :: ds, xs => ∃ x r, xs = x :: r ∧ Rep d x ∧ Reps ds r
def KVl : List (D × D) → List (Key × V) → Prop
  | [], es => es = []
  | (k, d) :: r, es => ∃ q x r', es = (q, x) :: r' ∧ leafK k = some q ∧ Rep d x ∧ KVl r r'
def KVn : List (D × D) → List (NestedKey × Addr × V) → Prop
  | [], es => es = []
  | (k, d) :: r, es => ∃ n q x r', es = (n, q, x) :: r' ∧ (nkL k = some n ∧ n.depth ≤ 8) ∧ Rep k (.ref q) ∧ Rep d x ∧ KVn r r'
end
def LstC (a : Addr) (ds : List D) : Prop := ∃ xs, H a = some (.lst xs) ∧ Reps T H F μ ds xs
def DctC (a : Addr) (kvs : List (D × D)) : Prop := (∃ es, H a = some (.dK es) ∧ KVl T H F μ kvs es) ∨ ∃ es ob, es ≠ [] ∧ H a = some (nDct T.P T.w ob es a) ∧ KVn T H F μ kvs es
/-- as Rep, the outermost list or dict perhaps one of the frame's own -/
def Pk : D → V → Prop
  | .lst ds, v => ∃ a, v = .ref a ∧ a ∉ μ ∧ LstC T H F μ a ds
  | .dct kvs, v => ∃ a, v = .ref a ∧ a ∉ μ ∧ DctC T H F μ a kvs
  | d, v => Rep T H F μ d v
/-- as it looks just now -/
def Top : D → V → Prop
  | .lst ds, v => ∃ a, v = .ref a ∧ LstC T H F μ a ds
  | .dct kvs, v => ∃ a, v = .ref a ∧ DctC T H F μ a kvs
  | d, v => Rep T H F μ d v
/-- the fields of an instance -/
def Flds : List (Nat × D) → List (Str × V) → Prop
  | [], xs => xs = []
  | (f, d) :: r, xs => ∃ x r', xs = (T.nm f, x) :: r' ∧ Rep T H F μ d x ∧ Flds r r'
def ORep (a : Addr) : O → Prop
  | .lst ds => LstC T H F μ a ds
  | .dct kvs => DctC T H F μ a kvs
  | .ins c fs => ∃ dx xs, H a = some (.ins (T.ca c) dx xs) ∧ dx ∉ μ ∧ H dx = some (.own a) ∧ Flds T H F μ fs xs ∧ Cls T.K (T.ca c) ∧ ∀ p ∈ fs, T.hf c p.1 = true
  | .tbl => a = T.tb ∧ ∃ ps : Array Value, H a = some (.tbl ps) ∧ TriplesOk ps.toList ∧ ∀ (pos : Pos) (cv : Value), codeAmong pos ps.toList = some cv → ∃ c, cv = .ref c ∧ H c = some (LamX.CodeO c T.tq) ∧ ¬ F c
end

/-- what was known stays, but at places that may change -/
def Keep (μ : List Addr) (H H' : Hp) : Prop := ∀ a o, H a = some o → a ∉ μ → H' a = some o
theorem Keep.refl {μ : List Addr} {H : Hp} : Keep μ H H := fun _ _ h _ => h
section
variable {T : Tb} {H H' : Hp} {F F' : Addr → Prop} {μ μ' : List Addr}
structure Mv (H H' : Hp) (F F' : Addr → Prop) (μ μ' : List Addr) : Prop where
  kp : ∀ a o, H a = some o → ¬ F a → H' a = some o
  fb : ∀ a, F' a → F a ∨ H a = none
  mu : μ <+: μ'
theorem prefix_get {α : Type} {l l' : List α} (h : l <+: l') {i : Nat} {a : α} (e : l[i]? = some a) : l'[i]? = some a := by
  obtain ⟨t, rfl⟩ := h
  obtain ⟨hl, _⟩ := List.getElem?_eq_some_iff.mp e
  rw [List.getElem?_append_left hl]; exact e
theorem TupAt.mv {a : Addr} {xs : List V} (m : Mv H H' F F' μ μ') (h : TupAt T H F a xs) : TupAt T H' F' a xs := by
  rcases h with ⟨h1, h2⟩ | h
  · refine .inl ⟨m.kp _ _ h1 h2, fun z => ?_⟩
    rcases m.fb _ z with z | z
    · exact h2 z
    · rw [h1] at z; cases z
  · exact .inr h
theorem Mv.no (m : Mv H H' F F' μ μ') {a : Addr} {o : HO} (h1 : H a = some o) (h2 : ¬ F a) : ¬ F' a := fun z => by
  rcases m.fb _ z with z | z
  · exact h2 z
  · rw [h1] at z; cases z
mutual
theorem Rep.mv (m : Mv H H' F F' μ μ') : ∀ (d : D) (v : V), Rep T H F μ d v → Rep T H' F' μ' d v
  | .non, _, h => by simp only [Rep] at h ⊢; exact h
  | .bl _, _, h => by simp only [Rep] at h ⊢; exact h
  | .int _, _, h => by simp only [Rep] at h ⊢; exact h
  | .str _, _, h => by simp only [Rep] at h ⊢; exact h
  | .tup ds, _, h => by
    simp only [Rep] at h ⊢
    obtain ⟨a, xs, e, h1, h2⟩ := h
    exact ⟨a, xs, e, h1.mv m, Reps.mv m ds xs h2⟩
  | .lst ds, _, h => by
    simp only [Rep] at h ⊢
    obtain ⟨a, xs, e, h1, h2, h3⟩ := h
    exact ⟨a, xs, e, m.kp _ _ h1 h2, m.no h1 h2, Reps.mv m ds xs h3⟩
  | .dct kvs, _, h => by
    simp only [Rep] at h ⊢
    obtain ⟨a, e, h2, h⟩ := h
    rcases h with ⟨es, h1, h3⟩ | ⟨es, ob, n, h1, h3⟩
    · exact ⟨a, e, m.no h1 h2, .inl ⟨es, m.kp _ _ h1 h2, KVl.mv m kvs es h3⟩⟩
    · exact ⟨a, e, m.no h1 h2, .inr ⟨es, ob, n, m.kp _ _ h1 h2, KVn.mv m kvs es h3⟩⟩
  | .ref i, _, h => by
    simp only [Rep] at h ⊢
    obtain ⟨a, e, h1⟩ := h
    exact ⟨a, e, prefix_get m.mu h1⟩
  | .scr ns, _, h => by
    simp only [Rep] at h ⊢
    obtain ⟨a, e, h⟩ := h
    refine ⟨a, e, ?_⟩
    rcases h with ⟨h | ⟨o, h⟩, h2⟩ | h
    · exact .inl ⟨.inl (m.kp _ _ h h2), m.no h h2⟩
    · exact .inl ⟨.inr ⟨o, m.kp _ _ h h2⟩, m.no h h2⟩
    · exact .inr h
theorem Reps.mv (m : Mv H H' F F' μ μ') : ∀ (ds : List D) (xs : List V), Reps T H F μ ds xs → Reps T H' F' μ' ds xs
  | [], _, h => by simp only [Reps] at h ⊢; exact h
  | d :: ds, _, h => by
    simp only [Reps] at h ⊢
    obtain ⟨x, r, e, h1, h2⟩ := h
    exact ⟨x, r, e, Rep.mv m d x h1, Reps.mv m ds r h2⟩
theorem KVl.mv (m : Mv H H' F F' μ μ') : ∀ (kvs : List (D × D)) (es : List (Key × V)), KVl T H F μ kvs es → KVl T H' F' μ' kvs es
  | [], _, h => by simp only [KVl] at h ⊢; exact h
  | (k, d) :: r, _, h => by
    simp only [KVl] at h ⊢
    obtain ⟨q, x, r', e, h0, h1, h2⟩ := h
    exact ⟨q, x, r', e, h0, Rep.mv m d x h1, KVl.mv m r r' h2⟩
theorem KVn.mv (m : Mv H H' F F' μ μ') : ∀ (kvs : List (D × D)) (es : List (NestedKey × Addr × V)), KVn T H F μ kvs es → KVn T H' F' μ' kvs es
  | [], _, h => by simp only [KVn] at h ⊢; exact h
  | (k, d) :: r, _, h => by
    simp only [KVn] at h ⊢
    obtain ⟨n, q, x, r', e, h0, h3, h1, h2⟩ := h
    exact ⟨n, q, x, r', e, h0, Rep.mv m k _ h3, Rep.mv m d x h1, KVn.mv m r r' h2⟩
end
theorem Rep.top (hF : ∀ a ∈ μ, F a) : ∀ {d : D} {v : V}, Rep T H F μ d v → Pk T H F μ d v
  | .non, _, h | .bl _, _, h | .int _, _, h | .str _, _, h | .tup _, _, h | .ref _, _, h | .scr _, _, h => h
  | .lst ds, _, h => by
    simp only [Rep] at h
    obtain ⟨a, xs, e, h1, h2, h3⟩ := h
    exact ⟨a, e, fun z => h2 (hF a z), xs, h1, h3⟩
  | .dct kvs, _, h => by
    simp only [Rep] at h
    obtain ⟨a, e, h2, h⟩ := h
    exact ⟨a, e, fun z => h2 (hF a z), h⟩
/-- an expression moves on: places may change, new ones come; privates stay -/
theorem LstC.mv (m : Mv H H' F F' μ μ') {a : Addr} {ds : List D} (k : ∀ o, H a = some o → H' a = some o) (h : LstC T H F μ a ds) : LstC T H' F' μ' a ds := by
  obtain ⟨xs, h1, h2⟩ := h
  exact ⟨xs, k _ h1, Reps.mv m ds xs h2⟩
theorem DctC.mv (m : Mv H H' F F' μ μ') {a : Addr} {kvs : List (D × D)} (k : ∀ o, H a = some o → H' a = some o) (h : DctC T H F μ a kvs) : DctC T H' F' μ' a kvs := by
  rcases h with ⟨es, h1, h3⟩ | ⟨es, ob, n, h1, h3⟩
  · exact .inl ⟨es, k _ h1, KVl.mv m kvs es h3⟩
  · exact .inr ⟨es, ob, n, k _ h1, KVn.mv m kvs es h3⟩
theorem Flds.mv (m : Mv H H' F F' μ μ') : ∀ {fs : List (Nat × D)} {xs : List (Str × V)}, Flds T H F μ fs xs → Flds T H' F' μ' fs xs
  | [], _, h => h
  | (f, d) :: r, _, ⟨x, r', e, h1, h2⟩ => ⟨x, r', e, Rep.mv m d x h1, Flds.mv m h2⟩
theorem LstC.some {a : Addr} {ds : List D} (h : LstC T H F μ a ds) : H a ≠ none := by
  obtain ⟨xs, h1, _⟩ := h
  rw [h1]; simp
theorem DctC.some {a : Addr} {kvs : List (D × D)} (h : DctC T H F μ a kvs) : H a ≠ none := by
  rcases h with ⟨es, h1, _⟩ | ⟨es, _, _, h1, _⟩ <;> (rw [h1]; simp)
theorem ORep.some {a : Addr} {o : O} (h : ORep T H F μ a o) : H a ≠ none := by
  cases o with
  | lst ds => exact LstC.some h
  | dct kvs => exact DctC.some h
  | ins c fs => obtain ⟨dx, xs, h1, _⟩ := h; rw [h1]; simp
  | tbl => obtain ⟨_, ps, h1, _⟩ := h; rw [h1]; simp
theorem ORep.mv (m : Mv H H' F F' μ μ') {a : Addr} {o : O} (k : ∀ u, H a = Option.some u → H' a = Option.some u) (hn : ∀ b, b ∈ μ' → b ∈ μ ∨ H b = none) (hk : ∀ b u, H b = Option.some (.own u) → b ∉ μ → H' b = Option.some (.own u)) (h : ORep T H F μ a o) : ORep T H' F' μ' a o := by
  cases o with
  | lst ds => exact LstC.mv m k h
  | dct kvs => exact DctC.mv m k h
  | ins c fs =>
    obtain ⟨dx, xs, h1, hd, h2, h3, h4⟩ := h
    refine ⟨dx, xs, k _ h1, fun z => ?_, hk _ _ h2 hd, Flds.mv m h3, h4⟩
    rcases hn _ z with z | z
    · exact hd z
    · rw [h2] at z; cases z
  | tbl =>
    obtain ⟨h0, ps, h1, h2, h3⟩ := h
    refine ⟨h0, ps, k _ h1, h2, fun pos cv hc => ?_⟩
    obtain ⟨c, e, h4, h5⟩ := h3 pos cv hc
    exact ⟨c, e, m.kp _ _ h4 h5, m.no h4 h5⟩
end

/-! ### states -/
/-- the store: each place's object -/
structure StR (T : Tb) (F : Addr → Prop) (μ : List Addr) (H : Hp) (st : Store) : Prop where
  len : μ.length = st.length
  nd : μ.Nodup
  ob : ∀ (i : Nat) (o : O) (a : Addr), st[i]? = some o → μ[i]? = some a → ORep T H F μ a o
def SlR (T : Tb) (F : Addr → Prop) (μ : List Addr) (H : Hp) : Sl → Option V → Prop
  | .no, _ => True
  | .v d, x => ∃ v, x = some v ∧ Rep T H F μ d v
  | .ol ds, x => ∃ a, x = some (.ref a) ∧ F a ∧ a ∉ μ ∧ LstC T H F μ a ds
  | .od kvs, x => ∃ a, x = some (.ref a) ∧ F a ∧ a ∉ μ ∧ DctC T H F μ a kvs
structure EnR (T : Tb) (F : Addr → Prop) (μ : List Addr) (H : Hp) (σ : L2.St) (env : Env) : Prop where
  len : env.length = σ.length
  at_ : ∀ (i : Nat) (s : Sl) (x : Option V), env[i]? = some s → σ[i]? = some x → SlR T F μ H s x
abbrev FF (G : Addr → Prop) (μ : List Addr) : Addr → Prop := fun a => a ∈ μ ∨ G a
structure GoodT (T : Tb) (G : Addr → Prop) (μ : List Addr) (H : Hp) (st : Store) : Prop where
  dom : ∀ a, G a → H a ≠ none
  dis : ∀ a ∈ μ, ¬ G a
  sto : StR T (FF G μ) μ H st
structure Good (T : Tb) (G : Addr → Prop) (μ : List Addr) (H : Hp) (σ : L2.St) (env : Env) (st : Store) : Prop extends GoodT T G μ H st where
  en : EnR T (FF G μ) μ H σ env
/-- behind an expression -/
structure Post (T : Tb) (G : Addr → Prop) (μ : List Addr) (H : Hp) (μ' : List Addr) (H' : Hp) (st' : Store) : Prop where
  mu : μ <+: μ'
  new : ∀ a ∈ μ', a ∈ μ ∨ H a = none
  keep : Keep μ H H'
  sto : StR T (FF G μ') μ' H' st'

section
variable {T : Tb} {G : Addr → Prop} {H H' H2 : Hp} {μ μ' μ2 : List Addr} {σ : L2.St} {env : Env} {st st' st2 : Store}
theorem Post.mv (p : Post T G μ H μ' H' st') : Mv H H' (FF G μ) (FF G μ') μ μ' where
  kp := fun a o h n => p.keep a o h fun z => n (.inl z)
  fb := fun a z => by
    rcases z with z | z
    · rcases p.new a z with z | z
      · exact .inl (.inl z)
      · exact .inr z
    · exact .inl (.inr z)
  mu := p.mu
theorem SlR.mv (p : Post T G μ H μ' H' st') (dom : ∀ a, G a → H a ≠ none) {s : Sl} {x : Option V} (h : SlR T (FF G μ) μ H s x) : SlR T (FF G μ') μ' H' s x := by
  have nn : ∀ {a : Addr}, FF G μ a → a ∉ μ → H a ≠ none → FF G μ' a ∧ a ∉ μ' := fun {a} f n hs => by
    refine ⟨?_, fun z => ?_⟩
    · rcases f with f | f
      · exact absurd f n
      · exact .inr f
    · rcases p.new a z with z | z
      · exact n z
      · exact hs z
  cases s with
  | no => trivial
  | v d => obtain ⟨v, e, h⟩ := h; exact ⟨v, e, Rep.mv p.mv d v h⟩
  | ol ds =>
    obtain ⟨a, e, f, n, h⟩ := h
    exact ⟨a, e, (nn f n h.some).1, (nn f n h.some).2, h.mv p.mv fun o q => p.keep a o q n⟩
  | od ds =>
    obtain ⟨a, e, f, n, h⟩ := h
    exact ⟨a, e, (nn f n h.some).1, (nn f n h.some).2, h.mv p.mv fun o q => p.keep a o q n⟩
theorem GoodT.post (g : GoodT T G μ H st) (p : Post T G μ H μ' H' st') : GoodT T G μ' H' st' where
  dom := fun a ga => by
    have h := g.dom a ga
    cases e : H a with
    | none => exact absurd e h
    | some o => rw [p.keep a o e fun z => g.dis a z ga]; simp
  dis := fun a ha ga => by
    rcases p.new a ha with z | z
    · exact g.dis a z ga
    · exact g.dom a ga z
  sto := p.sto
theorem Good.post (g : Good T G μ H σ env st) (p : Post T G μ H μ' H' st') : Good T G μ' H' σ env st' where
  toGoodT := g.toGoodT.post p
  en := ⟨g.en.len, fun i s x h1 h2 => (g.en.at_ i s x h1 h2).mv p g.dom⟩
theorem Post.refl (g : GoodT T G μ H st) : Post T G μ H μ H st := ⟨List.prefix_refl _, fun _ h => .inl h, Keep.refl, g.sto⟩
theorem Post.trans (p : Post T G μ H μ' H' st') (q : Post T G μ' H' μ2 H2 st2) : Post T G μ H μ2 H2 st2 where
  mu := p.mu.trans q.mu
  new := fun a ha => by
    rcases q.new a ha with z | z
    · exact p.new a z
    · by_cases m : a ∈ μ
      · exact .inl m
      · cases e : H a with
        | none => exact .inr rfl
        | some o => rw [p.keep a o e m] at z; cases z
  keep := fun a o h n => q.keep a o (p.keep a o h n) fun z => by
    rcases p.new a z with z | z
    · exact n z
    · rw [h] at z; cases z
  sto := q.sto
/-- a state in which all stands as it stood, and more -/
theorem Post.more (g : GoodT T G μ H st) (k : ∀ a o, H a = some o → H' a = some o) : Post T G μ H μ H' st where
  mu := List.prefix_refl _
  new := fun _ h => .inl h
  keep := fun a o h _ => k a o h
  sto := ⟨g.sto.len, g.sto.nd, fun i o a h1 h2 => (g.sto.ob i o a h1 h2).mv ⟨fun a o h _ => k a o h, fun _ z => .inl z, List.prefix_refl _⟩ (fun u q => k a u q) (fun _ h => .inl h) fun b u q _ => k b _ q⟩
end
end PD
end ZPDRep
section ZPDExpr
set_option Elab.async false
set_option linter.all false
set_option maxRecDepth 100000
set_option maxHeartbeats 1000000
namespace PD
open PySem L2

theorem bnd_inv {α β : Type} {m : M α} {f : α → M β} {st st2 : Store} {b : β} (h : bnd m f st = .ok b st2) : ∃ a st1, m st = .ok a st1 ∧ f a st1 = .ok b st2 := by
  unfold bnd at h
  cases e : m st with
  | ok a st1 => rw [e] at h; exact ⟨a, st1, rfl, h⟩
  | exc c v st1 => rw [e] at h; cases h
  | bad => rw [e] at h; cases h
theorem ret_inv {α : Type} {a b : α} {st st2 : Store} (h : ret a st = .ok b st2) : a = b ∧ st = st2 := by
  cases h; exact ⟨rfl, rfl⟩
theorem opt_inv {α : Type} {o : Option α} {b : α} {st st2 : Store} (h : opt o st = .ok b st2) : o = some b ∧ st = st2 := by
  cases o with
  | none => cases h
  | some a => cases h; exact ⟨rfl, rfl⟩

def FreshL (T : Tb) (F : Addr → Prop) (μ : List Addr) (H H' : Hp) (d : D) (v : V) : Prop := ∀ ds, d = .lst ds → ∃ p xs, v = .ref p ∧ H p = none ∧ H' p = some (.lst xs) ∧ Reps T H' (fun a => F a ∨ a = p) μ ds xs
abbrev GP (G : Addr → Prop) (p : Addr) : Addr → Prop := fun a => G a ∨ a = p
/-- a list that nothing else knows of -/
def FreshN (T : Tb) (G : Addr → Prop) (H : Hp) (μ' : List Addr) (H' : Hp) (st' : Store) (d : D) (v : V) : Prop := ∀ ds, d = .lst ds → ∃ p xs, v = .ref p ∧ H p = none ∧ H' p = some (.lst xs) ∧ Reps T H' (FF (GP G p) μ') μ' ds xs ∧ StR T (FF (GP G p) μ') μ' H' st'
/-- an expression's result: fr: a new list; pk: perhaps one of the frame's own -/
structure RS (T : Tb) (fr pk : Bool) (G : Addr → Prop) (H : Hp) (μ' : List Addr) (H' : Hp) (st' : Store) (d : D) (v : V) : Prop where
  rep : pk = false → Rep T H' (FF G μ') μ' d v
  pkr : Pk T H' (FF G μ') μ' d v
  fre : fr = true → FreshN T G H μ' H' st' d v
def rdE (T : Tb) (fr pk : Bool) (ev : Env → M D) : TE := fun σ H Q => ∃ G μ env st d st', Good T G μ H σ env st ∧ ev env st = .ok d st' ∧
  ∀ v H' μ', Post T G μ H μ' H' st' → RS T fr pk G H μ' H' st' d v → Q v H'
/-- a list of expressions -/
def Pks (T : Tb) (H : Hp) (F : Addr → Prop) (μ : List Addr) : List D → List V → Prop
  | [], xs => xs = []
  | d :: ds, xs => ∃ x r, xs = x :: r ∧ Pk T H F μ d x ∧ Pks T H F μ ds r
def rdA (T : Tb) (ev : Env → M (List D)) : TA := fun σ H Q => ∃ G μ env st ds st', Good T G μ H σ env st ∧ ev env st = .ok ds st' ∧
  ∀ vs H' μ', Post T G μ H μ' H' st' → Reps T H' (FF G μ') μ' ds vs → Q vs H'
def rdV (T : Tb) (ev : Env → M (List D)) : TA := fun σ H Q => ∃ G μ env st ds st', Good T G μ H σ env st ∧ ev env st = .ok ds st' ∧
  ∀ vs H' μ', Post T G μ H μ' H' st' → Pks T H' (FF G μ') μ' ds vs → Q vs H'
def rdT (T : Tb) (ev : Env → M Bool) : TT := fun σ H Q => ∃ G μ env st b st', Good T G μ H σ env st ∧ ev env st = .ok b st' ∧
  ∀ H' μ', Post T G μ H μ' H' st' → Q b H'
def rdO (T : Tb) (ev : Env → M (Option Int)) : TO := fun σ H Q => ∃ G μ env st o st', Good T G μ H σ env st ∧ ev env st = .ok o st' ∧
  ∀ H' μ', Post T G μ H μ' H' st' → Q o H'

section
variable {X : Cx} {e : Expr} {t t' : TE}
theorem PE.imp (h : PE X e t) (k : ∀ σ H Q, t' σ H Q → t σ H Q) : PE X e t' := ⟨fun pins s σ H Q I q => h.run pins s σ H Q I (k σ H Q q)⟩
theorem PA.imp {es : List Expr} {t t' : TA} (h : PA X es t) (k : ∀ σ H Q, t' σ H Q → t σ H Q) : PA X es t' := ⟨fun pos pins s σ H Q I q => h.run pos pins s σ H Q I (k σ H Q q)⟩
theorem PT.imp {t t' : TT} (h : PT X e t) (k : ∀ σ H Q, t' σ H Q → t σ H Q) : PT X e t' := ⟨fun pins s σ H Q I q => h.run pins s σ H Q I (k σ H Q q)⟩
theorem PW.imp {t t' : TT} (h : PW X e t) (k : ∀ σ H Q, t' σ H Q → t σ H Q) : PW X e t' := ⟨fun w pins s σ H Q I q => h.run w pins s σ H Q I (k σ H Q q)⟩
theorem PO.imp {o : Option Expr} {t t' : TO} (h : PO X o t) (k : ∀ σ H Q, t' σ H Q → t σ H Q) : PO X o t' := ⟨fun pins s σ H Q I q => h.run pins s σ H Q I (k σ H Q q)⟩
theorem PS.imp {st : Stmt} {t t' : TS} (h : PS X st t) (k : ∀ D σ H, t' D σ H → t D σ H) : PS X st t' := ⟨fun pins s σ H D I q => h.run pins s σ H D I (k D σ H q)⟩
theorem PSs.imp {st : List Stmt} {t t' : TS} (h : PSs X st t) (k : ∀ D σ H, t' D σ H → t D σ H) : PSs X st t' := ⟨fun pins s σ H D I q => h.run pins s σ H D I (k D σ H q)⟩
end

section
variable {T : Tb} {G : Addr → Prop} {H H' H2 : Hp} {μ μ' μ2 : List Addr} {σ : L2.St} {env : Env} {st st' st2 : Store} {d : D} {v : V} {fr pk : Bool}
theorem ff_mu {G : Addr → Prop} {μ : List Addr} : ∀ a ∈ μ, FF G μ a := fun _ h => .inl h
/-- a representation that is none of the frame's own -/
theorem RS.of (h : Rep T H' (FF G μ') μ' d v) (f : fr = true → FreshN T G H μ' H' st' d v) : RS T fr pk G H μ' H' st' d v := ⟨fun _ => h, h.top ff_mu, f⟩
theorem RS.of0 (h : Rep T H' (FF G μ') μ' d v) : RS T false pk G H μ' H' st' d v := .of h fun z => nomatch z
/-- a peeked value stays through an expression -/
theorem Pk.mv (p : Post T G μ H μ' H' st') : ∀ {d : D} {v : V}, Pk T H (FF G μ) μ d v → Pk T H' (FF G μ') μ' d v
  | .non, _, h | .bl _, _, h | .int _, _, h | .str _, _, h | .tup _, _, h | .ref _, _, h | .scr _, _, h => Rep.mv p.mv _ _ h
  | .lst ds, _, ⟨a, e, n, h⟩ => ⟨a, e, fun z => by
      rcases p.new a z with z | z
      · exact n z
      · exact h.some z, h.mv p.mv fun o q => p.keep a o q n⟩
  | .dct ds, _, ⟨a, e, n, h⟩ => ⟨a, e, fun z => by
      rcases p.new a z with z | z
      · exact n z
      · exact h.some z, h.mv p.mv fun o q => p.keep a o q n⟩
theorem Pks.mv (p : Post T G μ H μ' H' st') : ∀ {ds : List D} {vs : List V}, Pks T H (FF G μ) μ ds vs → Pks T H' (FF G μ') μ' ds vs
  | [], _, h => h
  | d :: ds, _, ⟨x, r, e, h1, h2⟩ => ⟨x, r, e, Pk.mv p h1, Pks.mv p h2⟩
/-- the look of a value -/
theorem Pk.view (g : StR T (FF G μ) μ H st) : ∀ {d : D} {v : V}, Pk T H (FF G μ) μ d v → Top T H (FF G μ) μ (view st d) v
  | .non, _, h | .bl _, _, h | .int _, _, h | .str _, _, h | .tup _, _, h | .scr _, _, h => h
  | .lst ds, _, ⟨a, e, _, h⟩ => ⟨a, e, h⟩
  | .dct ds, _, ⟨a, e, _, h⟩ => ⟨a, e, h⟩
  | .ref i, v, h => by
    have h' := h
    simp only [Pk, Rep] at h'
    obtain ⟨a, e, m⟩ := h'
    have hw : PD.view st (.ref i) = match st[i]? with
      | some (.lst ds) => .lst ds
      | some (.dct kvs) => .dct kvs
      | _ => .ref i := rfl
    cases q : st[i]? with
    | none => rw [hw, q]; exact h
    | some o =>
      have z := g.ob i o a q m
      cases o with
      | lst ds => rw [hw, q]; exact ⟨a, e, z⟩
      | dct ds => rw [hw, q]; exact ⟨a, e, z⟩
      | tbl => rw [hw, q]; exact h
      | ins c fs => rw [hw, q]; exact h
theorem Reps.length : ∀ {ds : List D} {xs : List V}, Reps T H (FF G μ) μ ds xs → xs.length = ds.length
  | [], _, h => by simp only [Reps] at h; subst h; rfl
  | d :: ds, _, h => by
    simp only [Reps] at h
    obtain ⟨x, r, e, _, h2⟩ := h
    subst e
    simp [Reps.length h2]
theorem Reps.get : ∀ {ds : List D} {xs : List V} {i : Nat} {d : D}, Reps T H (FF G μ) μ ds xs → ds[i]? = some d → ∃ x, xs[i]? = some x ∧ Rep T H (FF G μ) μ d x
  | [], _, _, _, _, e => by simp at e
  | d :: ds, _, i, d', h, e => by
    simp only [Reps] at h
    obtain ⟨x, r, e', h1, h2⟩ := h
    subst e'
    cases i with
    | zero => simp at e; subst e; exact ⟨x, rfl, h1⟩
    | succ i => exact Reps.get (i := i) h2 (by simpa using e)
theorem Reps.append : ∀ {ds es : List D} {xs ys : List V}, Reps T H (FF G μ) μ ds xs → Reps T H (FF G μ) μ es ys → Reps T H (FF G μ) μ (ds ++ es) (xs ++ ys)
  | [], _, _, _, h, k => by simp only [Reps] at h; subst h; exact k
  | d :: ds, _, _, _, h, k => by
    simp only [Reps] at h
    obtain ⟨x, r, e', h1, h2⟩ := h
    subst e'
    exact ⟨x, _, rfl, h1, Reps.append h2 k⟩
theorem Reps.take : ∀ {ds : List D} {xs : List V} (n : Nat), Reps T H (FF G μ) μ ds xs → Reps T H (FF G μ) μ (ds.take n) (xs.take n)
  | _, _, 0, _ => by simp [Reps]
  | [], _, n + 1, h => by simp only [Reps] at h; subst h; simp [Reps]
  | d :: ds, _, n + 1, h => by
    simp only [Reps] at h
    obtain ⟨x, r, e', h1, h2⟩ := h
    subst e'
    exact ⟨x, _, rfl, h1, Reps.take n h2⟩
theorem Reps.drop : ∀ {ds : List D} {xs : List V} (n : Nat), Reps T H (FF G μ) μ ds xs → Reps T H (FF G μ) μ (ds.drop n) (xs.drop n)
  | _, _, 0, h => h
  | [], _, n + 1, h => by simp only [Reps] at h; subst h; simp [Reps]
  | d :: ds, _, n + 1, h => by
    simp only [Reps] at h
    obtain ⟨x, r, e', h1, h2⟩ := h
    subst e'
    exact Reps.drop n h2
theorem Reps.set : ∀ {ds : List D} {xs : List V} {d : D} {x : V} (j : Nat), Reps T H (FF G μ) μ ds xs → Rep T H (FF G μ) μ d x → Reps T H (FF G μ) μ (ds.set j d) (xs.set j x)
  | [], _, _, _, j, h, _ => by simp only [Reps] at h; subst h; simp [Reps]
  | d :: ds, _, _, _, 0, h, k => by
    simp only [Reps] at h
    obtain ⟨x, r, e', h1, h2⟩ := h
    subst e'
    exact ⟨_, _, rfl, k, h2⟩
  | d :: ds, _, _, _, j + 1, h, k => by
    simp only [Reps] at h
    obtain ⟨x, r, e', h1, h2⟩ := h
    subst e'
    exact ⟨_, _, rfl, h1, Reps.set j h2 k⟩
/-- what is read stays when more comes -/
theorem mvMore (k : ∀ a o, H a = some o → H' a = some o) (F : Addr → Prop) : Mv H H' F F μ μ := ⟨fun a o h _ => k a o h, fun _ z => .inl z, List.prefix_refl _⟩
theorem upd_more {p : Addr} {o : HO} (h : H p = none) : ∀ a u, H a = some u → upd H p o a = some u := fun a u e => by
  rw [upd_ne (ne_of_none e h)]; exact e
theorem mvGP {p : Addr} (k : ∀ a o, H a = some o → H' a = some o) (hp : H p = none) : Mv H H' (FF G μ) (FF (GP G p) μ) μ μ := ⟨fun a o h _ => k a o h, fun a z => by
  rcases z with z | z | z
  · exact .inl (.inl z)
  · exact .inl (.inr z)
  · subst z; exact .inr hp, List.prefix_refl _⟩
theorem StR.gp {p : Addr} (s : StR T (FF G μ) μ H st) (k : ∀ a o, H a = some o → H' a = some o) (hp : H p = none) : StR T (FF (GP G p) μ) μ H' st :=
  ⟨s.len, s.nd, fun i o a h1 h2 => (s.ob i o a h1 h2).mv (mvGP k hp) (fun u q => k a u q) (fun _ h => .inl h) fun b u q _ => k b _ q⟩
/-- a new address is none of those that may not be -/
theorem GoodT.fresh (g : GoodT T G μ H st) {p : Addr} (h : H p = none) : ¬ FF G μ p := fun z => by
  rcases z with z | z
  · obtain ⟨i, hi⟩ := List.getElem?_of_mem z
    have hl : i < st.length := by rw [← g.sto.len]; exact (List.getElem?_eq_some_iff.mp hi).1
    exact (g.sto.ob i st[i] p (by simp [hl]) hi).some h
  · exact g.dom p z h
end

/-! ### names and constants -/
section
variable {X : Cx} {T : Tb} {pos : Pos}
theorem se_var {i : Nat} {x : Str} (hN : X.N[i]? = some x) (hv : Vis X.env.scope x) (hd : (x == ("__debug__" : Str)) = false) (hcd : (x == ("__classdict__" : Str)) = false) :
    PE X (.Name x pos) (rdE T false false fun env => match env[i]? with
      | some (.v d) => ret d
      | _ => fail) := by
  refine PE.imp (pe_var hN hv hd hcd) fun σ H Q ⟨G, μ, env, st, d, st', g, e, q⟩ => ?_
  cases h : env[i]? with
  | none => simp only [h] at e; cases e
  | some s =>
    simp only [h] at e
    have hl : i < σ.length := by rw [← g.en.len]; exact (List.getElem?_eq_some_iff.mp h).1
    cases s with
    | v d' =>
      obtain ⟨rfl, rfl⟩ := ret_inv e
      obtain ⟨v, hv, r⟩ := g.en.at_ i _ σ[i] h (by simp [hl])
      exact ⟨v, by rw [← hv]; simp [hl], q v H μ (Post.refl g.toGoodT) (.of0 r)⟩
    | no => cases e
    | ol _ => cases e
    | od _ => cases e
theorem se_peek {i : Nat} {x : Str} (hN : X.N[i]? = some x) (hv : Vis X.env.scope x) (hd : (x == ("__debug__" : Str)) = false) (hcd : (x == ("__classdict__" : Str)) = false) :
    PE X (.Name x pos) (rdE T false true fun env => match env[i]? with
      | some (.ol ds) => ret (.lst ds)
      | some (.od kvs) => ret (.dct kvs)
      | _ => fail) := by
  refine PE.imp (pe_var hN hv hd hcd) fun σ H Q ⟨G, μ, env, st, d, st', g, e, q⟩ => ?_
  cases h : env[i]? with
  | none => simp only [h] at e; cases e
  | some s =>
    simp only [h] at e
    have hl : i < σ.length := by rw [← g.en.len]; exact (List.getElem?_eq_some_iff.mp h).1
    cases s with
    | v d' => cases e
    | no => cases e
    | ol ds =>
      obtain ⟨rfl, rfl⟩ := ret_inv e
      obtain ⟨a, hv, f, n, r⟩ := g.en.at_ i _ σ[i] h (by simp [hl])
      exact ⟨.ref a, by rw [← hv]; simp [hl], q _ H μ (Post.refl g.toGoodT) ⟨(fun z => nomatch z), ⟨a, rfl, n, r⟩, (fun z => nomatch z)⟩⟩
    | od ds =>
      obtain ⟨rfl, rfl⟩ := ret_inv e
      obtain ⟨a, hv, f, n, r⟩ := g.en.at_ i _ σ[i] h (by simp [hl])
      exact ⟨.ref a, by rw [← hv]; simp [hl], q _ H μ (Post.refl g.toGoodT) ⟨(fun z => nomatch z), ⟨a, rfl, n, r⟩, (fun z => nomatch z)⟩⟩
/-- a written scalar -/
def constD : Const → Option D
  | .none => some .non
  | .bool b => some (.bl b)
  | .int i => some (.int i)
  | .str x => some (.str x)
  | _ => none
theorem se_lit {c : Const} {j : Nat} {d : D} (h : constD c = some d) : PE X (.Constant c j pos) (rdE T false false fun _ => ret d) := by
  cases c <;> simp only [constD, Option.some.injEq, reduceCtorEq] at h
  all_goals subst h
  · exact PE.imp pe_non fun σ H Q ⟨G, μ, env, st, d, st', g, e, q⟩ => by
      obtain ⟨rfl, rfl⟩ := ret_inv e
      exact q _ H μ (Post.refl g.toGoodT) (.of0 rfl)
  · exact PE.imp pe_bl fun σ H Q ⟨G, μ, env, st, d, st', g, e, q⟩ => by
      obtain ⟨rfl, rfl⟩ := ret_inv e
      exact q _ H μ (Post.refl g.toGoodT) (.of0 rfl)
  · exact PE.imp pe_int fun σ H Q ⟨G, μ, env, st, d, st', g, e, q⟩ => by
      obtain ⟨rfl, rfl⟩ := ret_inv e
      exact q _ H μ (Post.refl g.toGoodT) (.of0 rfl)
  · exact PE.imp pe_str fun σ H Q ⟨G, μ, env, st, d, st', g, e, q⟩ => by
      obtain ⟨rfl, rfl⟩ := ret_inv e
      exact q _ H μ (Post.refl g.toGoodT) (.of0 rfl)
/-- a module's constant -/
theorem se_glob {x : Str} {v : V} {u : Value} {d : Option D} (hg : Gl X x) (hm : X.mg x = some u) (r : RelV v u) (hd : (x == ("__debug__" : Str)) = false) (hr : ∀ d', d = some d' → ∀ H F μ, Rep T H F μ d' v) :
    PE X (.Name x pos) (rdE T false false fun _ => opt d) := by
  refine PE.imp (pe_glob hg hm r hd) fun σ H Q ⟨G, μ, env, st, d', st', g, e, q⟩ => ?_
  obtain ⟨h, rfl⟩ := opt_inv e
  exact q _ H μ (Post.refl g.toGoodT) (.of0 (hr _ h _ _ _))
end
end PD
end ZPDExpr
section ZPDOps
set_option Elab.async false
set_option linter.all false
set_option maxRecDepth 100000
set_option maxHeartbeats 1000000
namespace PD
open PySem L2

section
variable {T : Tb} {G : Addr → Prop} {H H' : Hp} {μ μ' : List Addr} {st st' : Store}
/-- new behind, new ahead -/
theorem Post.back (g : GoodT T G μ H st) (p : Post T G μ H μ' H' st') {a : Addr} (h : H' a = none) : H a = none := by
  cases e : H a with
  | none => rfl
  | some o =>
    by_cases m : a ∈ μ
    · obtain ⟨i, hi⟩ := List.getElem?_of_mem m
      have hi' := prefix_get p.mu hi
      have hl : i < st'.length := by rw [← p.sto.len]; exact (List.getElem?_eq_some_iff.mp hi').1
      exact absurd h (p.sto.ob i st'[i] a (by simp [hl]) hi').some
    · rw [p.keep a o e m] at h; cases h
end
/-- the answer r comes: all stands as it stood, and more -/
def Ans (T : Tb) (fr : Bool) (F : Addr → Prop) (μ : List Addr) (H : Hp) (r : D) (Q : VK) : Prop := ∀ v H', (∀ a o, H a = some o → H' a = some o) → Rep T H' F μ r v → (fr = true → FreshL T F μ H H' r v) → Q v H'
def rOp (T : Tb) (fr : Bool) (f : D → D → Option D) : R2 := fun x y H Q => ∃ G μ st a b r, GoodT T G μ H st ∧ Top T H (FF G μ) μ a x ∧ Top T H (FF G μ) μ b y ∧ f a b = some r ∧ Ans T fr (FF G μ) μ H r Q
section
variable {T : Tb} {G : Addr → Prop} {H H' : Hp} {μ μ' : List Addr} {st st' : Store} {fr : Bool} {Q : VK}
theorem Ans.int {i : Int} (h : Ans T fr (FF G μ) μ H (.int i) Q) : Q (.int i) H := h _ H (fun _ _ z => z) rfl fun _ _ z => nomatch z
theorem Ans.bl {i : Bool} (h : Ans T fr (FF G μ) μ H (.bl i) Q) : Q (.bl i) H := h _ H (fun _ _ z => z) rfl fun _ _ z => nomatch z
theorem Ans.str {i : Str} (h : Ans T fr (FF G μ) μ H (.str i) Q) : Q (.str i) H := h _ H (fun _ _ z => z) rfl fun _ _ z => nomatch z
theorem Ans.lst (g : GoodT T G μ H st) {ds : List D} {xs : List V} (h : Ans T fr (FF G μ) μ H (.lst ds) Q) (r : Reps T H (FF G μ) μ ds xs) : ∀ p, H p = none → Q (.ref p) (upd H p (.lst xs)) := fun p hp =>
  h _ _ (upd_more hp) ⟨p, xs, rfl, upd_same, g.fresh hp, Reps.mv (mvMore (upd_more hp) _) ds xs r⟩ fun _ es e => by
    cases e
    exact ⟨p, xs, rfl, hp, upd_same, Reps.mv ⟨fun a o h _ => upd_more hp a o h, fun a z => by
      rcases z with z | z
      · exact .inl z
      · subst z; exact .inr hp, List.prefix_refl _⟩ _ xs r⟩
theorem Ans.tup (g : GoodT T G μ H st) {ds : List D} {xs : List V} (h : Ans T fr (FF G μ) μ H (.tup ds) Q) (r : Reps T H (FF G μ) μ ds xs) : ∀ p, H p = none → Q (.ref p) (upd H p (.tup xs)) := fun p hp =>
  h _ _ (upd_more hp) ⟨p, xs, rfl, .inl ⟨upd_same, g.fresh hp⟩, Reps.mv (mvMore (upd_more hp) _) ds xs r⟩ fun _ _ z => nomatch z
theorem Ans.same {ds : D} {v : V} (h : Ans T fr (FF G μ) μ H ds Q) (r : Rep T H (FF G μ) μ ds v) (n : ∀ es, ds ≠ .lst es) : Q v H := h v H (fun _ _ z => z) r fun _ es e => absurd e (n es)
theorem lim_line {n : Nat} (h : n ≤ LIM) : n ≤ sizeLine := by unfold LIM at h; rw [sizeLine_eq]; omega
theorem Reps.nil_iff {ds : List D} {xs : List V} (h : Reps T H (FF G μ) μ ds xs) : xs = [] ↔ ds = [] := by
  have := h.length
  constructor <;> intro e <;> subst e <;> simp at this <;> first | exact List.eq_nil_of_length_eq_zero this.symm | exact this
theorem Reps.rep {ds : List D} {xs : List V} (h : Reps T H (FF G μ) μ ds xs) : ∀ n : Nat, Reps T H (FF G μ) μ (List.replicate n ds).flatten (List.replicate n xs).flatten
  | 0 => by simp [Reps]
  | n + 1 => by
    rw [List.replicate_succ, List.replicate_succ, List.flatten_cons, List.flatten_cons]
    exact h.append (Reps.rep h n)
end

section
variable {X : Cx} {T : Tb}
theorem o_add (hK : X.K = T.K) : OpR X (binaryOp .Add) (rOp T true (binD .add)) := by
  intro pins s σ H x y v u Q I rx ry ⟨G, μ, st, a, b, r, g, ha, hb, e, q⟩
  cases a <;> cases b <;> simp only [binD, Option.ite_none_right_eq_some, Option.some.injEq, reduceCtorEq] at e
  · subst e
    exact op_add pins s σ H x y v u Q I rx ry ⟨_, _, ha, hb, q.int⟩
  · obtain ⟨hz, rfl⟩ := e
    simp only [Top, Rep] at ha hb
    subst ha hb
    exact (show OpR X (binaryOp .Add) _ from op_add_str) pins s σ H _ _ v u Q I rx ry ⟨_, _, rfl, rfl, lim_line hz, q.str⟩
  · obtain ⟨hz, rfl⟩ := e
    simp only [Top, Rep] at ha hb
    obtain ⟨a, xs, rfl, ha, ra⟩ := ha
    obtain ⟨b, ys, rfl, hb, rb⟩ := hb
    refine op_catA pins s σ H _ _ v u Q I rx ry ⟨a, b, xs, ys, rfl, rfl, hK ▸ ha.sq, hK ▸ hb.sq, by rw [ra.length, rb.length]; exact lim_line hz, fun z => ?_, fun _ z => ?_, fun _ _ => q.tup g (ra.append rb)⟩
    · have z' := ra.nil_iff.mp z
      subst z'
      exact q.same ⟨b, ys, rfl, hb, rb⟩ fun _ z => nomatch z
    · have z' := rb.nil_iff.mp z
      subst z'
      rw [List.append_nil] at q
      exact q.same ⟨a, xs, rfl, ha, ra⟩ fun _ z => nomatch z
  · obtain ⟨hz, rfl⟩ := e
    obtain ⟨a, rfl, xs, ha, ra⟩ := ha
    obtain ⟨b, rfl, ys, hb, rb⟩ := hb
    exact op_cat pins s σ H _ _ v u Q I rx ry ⟨a, b, xs, ys, rfl, rfl, ha, hb, by rw [ra.length, rb.length]; exact lim_line hz, q.lst g (ra.append rb)⟩
theorem o_sub : OpR X (binaryOp .Sub) (rOp T true (binD .sub)) := by
  intro pins s σ H x y v u Q I rx ry ⟨G, μ, st, a, b, r, g, ha, hb, e, q⟩
  cases a <;> cases b <;> simp only [binD, Option.some.injEq, reduceCtorEq] at e
  subst e
  exact op_sub pins s σ H x y v u Q I rx ry ⟨_, _, ha, hb, q.int⟩
theorem o_fdiv : OpR X (binaryOp .FloorDiv) (rOp T true (binD .fdiv)) := by
  intro pins s σ H x y v u Q I rx ry ⟨G, μ, st, a, b, r, g, ha, hb, e, q⟩
  cases a <;> cases b <;> simp only [binD, Option.ite_none_right_eq_some, Option.some.injEq, reduceCtorEq] at e
  obtain ⟨hz, rfl⟩ := e
  exact op_fdiv pins s σ H x y v u Q I rx ry ⟨_, _, ha, hb, hz, q.int⟩
theorem o_mod : OpR X (binaryOp .Mod) (rOp T true (binD .mod)) := by
  intro pins s σ H x y v u Q I rx ry ⟨G, μ, st, a, b, r, g, ha, hb, e, q⟩
  cases a <;> cases b <;> simp only [binD, Option.ite_none_right_eq_some, Option.some.injEq, reduceCtorEq] at e
  obtain ⟨hz, rfl⟩ := e
  exact op_mod pins s σ H x y v u Q I rx ry ⟨_, _, ha, hb, hz, q.int⟩
theorem o_pow : OpR X (binaryOp .Pow) (rOp T true (binD .pow)) := by
  intro pins s σ H x y v u Q I rx ry ⟨G, μ, st, a, b, r, g, ha, hb, e, q⟩
  cases a <;> cases b <;> simp only [binD, Option.ite_none_right_eq_some, Option.some.injEq, reduceCtorEq] at e
  rename_i i j
  obtain ⟨hz, rfl⟩ := e
  simp only [Top, Rep] at ha hb
  subst ha hb
  obtain ⟨t, rfl⟩ := rx
  obtain ⟨t', rfl⟩ := ry
  simp only [gPow, Bool.and_eq_true, decide_eq_true_eq] at hz
  obtain ⟨⟨h0, h1⟩, h2⟩ := hz
  have fin : ∀ k : Int, k = i ^ j.toNat → (PySem.Made.int k).post (EP X pins σ Q) s := fun k e => ⟨.int k, H, I.tok _, ⟨_, rfl⟩, by rw [e]; exact q.int⟩
  by_cases hj : j = 0
  · subst hj
    exact PySem.AutoIntOps.pow_0 (by decide) rfl (fin 1 (by simp))
  · have nj : ¬ (j == 0) = true := by simpa using hj
    have pj : 0 < j.toNat := by omega
    by_cases h01 : i = 0 ∨ i = 1
    · refine PySem.AutoIntOps.pow_1 h0 nj (by rcases h01 with e | e <;> simp [e]) (fin i ?_)
      rcases h01 with e | e
      · subst e; rw [Int.zero_pow (by omega)]
      · subst e; rw [Int.one_pow]
    · have n01 : ¬ (i == 0 || i == 1) = true := by simpa using h01
      by_cases hm : i = -1
      · subst hm
        refine PySem.AutoIntOps.pow_2 h0 nj n01 rfl (fin _ ?_)
        obtain ⟨n, rfl⟩ : ∃ n : Nat, j = n := ⟨j.toNat, by omega⟩
        rw [Int.toNat_natCast]
        clear fin q I nj pj hj h0 h1
        induction n using Nat.strongRecOn with
        | _ n ih =>
          match n with
          | 0 => rfl
          | 1 => rfl
          | n + 2 =>
            have := ih n (by omega)
            rw [Int.pow_succ, Int.pow_succ, ← this]
            have e : ((n + 2 : Nat) : Int) % 2 = (n : Int) % 2 := by omega
            rw [e]
            split <;> rfl
      · refine PySem.AutoIntOps.pow_4 h0 nj n01 (by simpa using hm) ?_ (fin _ rfl)
        have hb : Builtin.Int.intBits i ≤ 4001 := by
          unfold Builtin.Int.intBits
          split
          · omega
          · have hi : i.natAbs ≠ 0 := by omega
            have := (Nat.log2_lt hi).mpr h2
            omega
        have e : bitsLine = 134217728 := by decide
        unfold Builtin.Int.intTooBig
        rw [e]
        have : ((Builtin.Int.intBits i : Nat) : Int) * j ≤ 4001 * 1000 := by
          have a1 : ((Builtin.Int.intBits i : Nat) : Int) * j ≤ 4001 * j := Int.mul_le_mul_of_nonneg_right (by omega) h0
          omega
        simp only [decide_eq_true_eq]
        omega
end
end PD
end ZPDOps
section ZPDMul
set_option Elab.async false
set_option linter.all false
set_option maxRecDepth 100000
set_option maxHeartbeats 4000000
namespace PD
open PySem PySem.Spec L2 PyProof.Rows

/-- t * n where nothing is to be done: t itself -/
theorem tup_mul_same (l : Addr) (items : Array Value) (n : Nat) (dd : Option Addr) (sl : Array (Option Value)) (x : Int) (u : Tok)
    (k0 : (decide (x < -(2 ^ 63)) || decide (x ≥ 2 ^ 63)) = false) (k1 : (items.isEmpty || x == 1) = true) :
    Meets (Builtin.«tuple.__mul__» ⟨[.ref l, .int x u], []⟩) (fun _ R s => s.heap.get? l = some { cls := .type "tuple", dict := dd, data := .seq items n, slots := sl } ∧ R (.ok (.ret (Value.ref l))) s) :=
  .of_wp fun prog w A R s h => by
    obtain ⟨hp, g, d, tk, os⟩ := s
    obtain ⟨hl, h⟩ := h
    have f1 := AutoSeq1.idx_int
    wp_walk using wpAny_loadPart' hl
    repeat (first
      | (refine wpAny_ite_false (decide_eq_false (by rw [k0]; exact Bool.false_ne_true)) ?_; wp_walk using wpAny_loadPart' hl)
      | (refine wpAny_ite_true (decide_eq_true k1) ?_; wp_walk using wpAny_loadPart' hl))
    exact ⟨_, rfl, h⟩
section
variable {X : Cx} {T : Tb}
def rMulSame (K : PySem.W.Frag) : R2 := fun x y H Q => ∃ l k xs, x = .ref l ∧ y = .int k ∧ SqT K H l xs ∧ -(2 ^ 63) ≤ k ∧ k < 2 ^ 63 ∧ (xs = [] ∨ k = 1) ∧ Q (.ref l) H
theorem op_mulSame : OpR X (binaryOp .Mult) (rMulSame X.K) := by
  intro pins s σ H x y v u Q I rx ry ⟨l, k, xs, e1, e2, hT, b1, b2, hk, q⟩
  subst e1 e2
  cases rx
  obtain ⟨t, rfl⟩ := ry
  obtain ⟨its, r, ⟨⟨cls, dd, data, sl⟩, ho, hc, n, hd⟩, _⟩ := I.tuple hT
  simp only at hc hd
  subst hc hd
  have k0 : (decide (k < -(2 ^ 63)) || decide (k ≥ 2 ^ 63)) = false := by
    simp only [Bool.or_eq_false_iff, decide_eq_false_iff_not]; omega
  have k1 : (its.toArray.isEmpty || k == 1) = true := by
    rcases hk with e | e
    · subst e
      cases r
      rfl
    · subst e
      simp
  refine wpAny_binaryOp_repeat_ref (T := "tuple") (U := "int") (by decide) ⟨_, ho, rfl⟩ (fun s' => typeIs_int s' k t) noFill_tuple_mul F.fills_int_mul F.slot_int_rmul repeat_tuple F.slot_int_index.lookup ?_
  refine call_meets F.slot_int_rmul (typeIs_int s k t) F.entry_int_rmul (F.args_int_rmul_2 _ _) (int_rmul_tuple k t l its.toArray n dd sl) ⟨ho, rfl, ⟨_, ho, rfl⟩, ?_⟩
  exact call_meets F.slot_tuple_mul ⟨_, ho, rfl⟩ F.entry_tuple_mul (F.args_tuple_mul_2 _ _) (tup_mul_same l its.toArray n dd sl k t k0 k1) ⟨ho, .ref l, H, I, rfl, q⟩
theorem o_mul (hK : X.K = T.K) : OpR X (binaryOp .Mult) (rOp T true (binD .mul)) := by
  intro pins s σ H x y v u Q I rx ry ⟨G, μ, st, a, b, r, g, ha, hb, e, q⟩
  cases a <;> cases b <;> simp only [binD, Option.ite_none_right_eq_some, Option.some.injEq, reduceCtorEq] at e
  · obtain ⟨hz, rfl⟩ := e
    simp only [gMul, Bool.or_eq_true, decide_eq_true_eq] at hz
    exact op_mul pins s σ H x y v u Q I rx ry ⟨_, _, ha, hb, hz, q.int⟩
  · obtain ⟨⟨h1, h2, h3⟩, rfl⟩ := e
    rename_i ds j
    simp only [Top, Rep] at ha hb
    obtain ⟨a, xs, rfl, ha, ra⟩ := ha
    subst hb
    by_cases hk : xs = [] ∨ j = 1
    · refine op_mulSame pins s σ H _ _ v u Q I rx ry ⟨a, j, xs, rfl, rfl, hK ▸ ha.sq, by omega, by omega, hk, q.same ⟨a, xs, rfl, ha, ?_⟩ fun _ z => nomatch z⟩
      rcases hk with e | e
      · have e' := ra.nil_iff.mp e
        subst e e'
        have : ∀ n : Nat, (List.replicate n ([] : List D)).flatten = [] := fun n => by simp
        rw [this]; exact ra
      · subst e
        simpa using ra
    · have hne : xs ≠ [] := fun z => hk (.inl z)
      exact op_repT pins s σ H _ _ v u Q I rx ry ⟨a, j, xs, rfl, rfl, hK ▸ ha.sq, hne, by omega, h2, by rw [ra.length]; exact h3, q.tup g (ra.rep _)⟩
end
end PD
end ZPDMul
section ZPDCmp
set_option Elab.async false
set_option linter.all false
set_option maxRecDepth 100000
set_option maxHeartbeats 1000000
namespace PD
open PySem L2

theorem pys_map : ∀ ds : List D, D.pys ds = ds.map D.py
  | [] => rfl
  | d :: ds => by simp only [D.pys, List.map_cons, pys_map ds]
mutual
theorem py_eqv : ∀ a b : D, a.plain = true → b.plain = true → PyData.eqv a.py b.py = a.eqv b
  | .non, b, _, hb => by cases b <;> simp_all [D.plain, D.py, D.eqv, PyData.eqv]
  | .bl x, b, _, hb => by cases b <;> simp_all [D.plain, D.py, D.eqv, PyData.eqv]
  | .int x, b, _, hb => by cases b <;> simp_all [D.plain, D.py, D.eqv, PyData.eqv]
  | .str x, b, _, hb => by cases b <;> simp_all [D.plain, D.py, D.eqv, PyData.eqv]
  | .tup ds, b, ha, hb => by
    cases b with
    | tup es => simp only [D.plain] at ha hb; simp only [D.py, D.eqv, PyData.eqv]; exact pys_eqv ds es ha hb
    | _ => simp_all [D.plain, D.py, D.eqv, PyData.eqv]
  | .lst ds, b, ha, hb => by
    cases b with
    | lst es => simp only [D.plain] at ha hb; simp only [D.py, D.eqv, PyData.eqv]; exact pys_eqv ds es ha hb
    | _ => simp_all [D.plain, D.py, D.eqv, PyData.eqv]
  | .dct _, _, ha, _ => by simp [D.plain] at ha
  | .ref _, _, ha, _ => by simp [D.plain] at ha
  | .scr _, _, ha, _ => by simp [D.plain] at ha
theorem pys_eqv : ∀ a b : List D, D.plainAll a = true → D.plainAll b = true → PyData.eqvAll (D.pys a) (D.pys b) = D.eqvAll a b
  | [], [], _, _ => by simp only [D.pys, D.eqvAll, PyData.eqvAll]
  | [], _ :: _, _, _ => by simp only [D.pys, D.eqvAll, PyData.eqvAll]
  | _ :: _, [], _, _ => by simp only [D.pys, D.eqvAll, PyData.eqvAll]
  | x :: xs, y :: ys, ha, hb => by
    simp only [D.plainAll, Bool.and_eq_true] at ha hb
    simp only [D.pys, D.eqvAll, PyData.eqvAll, py_eqv x y ha.1 hb.1, pys_eqv xs ys ha.2 hb.2]
end
mutual
theorem py_depth : ∀ a : D, a.plain = true → a.py.depth = a.depth
  | .non, _ | .bl _, _ | .int _, _ | .str _, _ => by simp only [D.py, D.depth, PyData.depth]
  | .tup ds, h => by simp only [D.plain] at h; simp only [D.py, D.depth, PyData.depth, pys_depth ds h]
  | .lst ds, h => by simp only [D.plain] at h; simp only [D.py, D.depth, PyData.depth, pys_depth ds h]
  | .dct _, ha | .ref _, ha | .scr _, ha => by simp [D.plain] at ha
theorem pys_depth : ∀ a : List D, D.plainAll a = true → PyData.depthAll (D.pys a) = D.depthAll a
  | [], _ => by simp only [D.pys, D.depthAll, PyData.depthAll]
  | x :: xs, h => by
    simp only [D.plainAll, Bool.and_eq_true] at h
    simp only [D.pys, D.depthAll, PyData.depthAll, py_depth x h.1, pys_depth xs h.2]
end
mutual
theorem py_lay : ∀ a : D, a.plain = true → a.py.canLay0 = true
  | .non, _ | .bl _, _ | .int _, _ => by simp only [D.py, PyData.canLay0]
  | .str x, h => by
    simp only [D.plain] at h
    simp only [D.py, PyData.canLay0, PyData.strOk]
    exact h
  | .tup ds, h => by simp only [D.plain] at h; simp only [D.py, PyData.canLay0, pys_lay ds h]
  | .lst ds, h => by simp only [D.plain] at h; simp only [D.py, PyData.canLay0, pys_lay ds h]
  | .dct _, ha | .ref _, ha | .scr _, ha => by simp [D.plain] at ha
theorem pys_lay : ∀ a : List D, D.plainAll a = true → PyData.canLayAll0 (D.pys a) = true
  | [], _ => by simp only [D.pys, PyData.canLayAll0]
  | x :: xs, h => by
    simp only [D.plainAll, Bool.and_eq_true] at h
    simp only [D.pys, PyData.canLayAll0, py_lay x h.1, pys_lay xs h.2, Bool.and_self]
end
theorem eqOk_shaped {d : D} (h : d.eqOk = true) : d.plain = true ∧ SeqAt.shaped d.py = true := by
  simp only [D.eqOk, Bool.and_eq_true, decide_eq_true_eq] at h
  refine ⟨h.1, ?_⟩
  show (d.py.canLay0 && decide (d.py.depth ≤ 64)) = true
  rw [py_lay d h.1, py_depth d h.1, Bool.true_and]
  exact decide_eq_true (by omega)

section
variable {T : Tb} {H : Hp} {F : Addr → Prop} {μ : List Addr}
mutual
theorem Rep.dp : ∀ (d : D) (v : V), d.plain = true → Rep T H F μ d v → Dp T.K H v d.py
  | .non, _, _, h => by simp only [Rep] at h; subst h; simp only [D.py]; exact .non
  | .bl b, _, _, h => by simp only [Rep] at h; subst h; simp only [D.py]; exact .bl b
  | .int b, _, _, h => by simp only [Rep] at h; subst h; simp only [D.py]; exact .int b
  | .str b, _, _, h => by simp only [Rep] at h; subst h; simp only [D.py]; exact .str b
  | .tup ds, _, p, h => by
    simp only [Rep] at h
    simp only [D.plain] at p
    obtain ⟨a, xs, rfl, h1, h2⟩ := h
    simp only [D.py]
    exact .tup h1.sq (Reps.dp ds xs p h2)
  | .lst ds, _, p, h => by
    simp only [Rep] at h
    simp only [D.plain] at p
    obtain ⟨a, xs, rfl, h1, _, h2⟩ := h
    simp only [D.py]
    exact .lst (SqL.of h1) (Reps.dp ds xs p h2)
  | .dct _, _, ha, _ | .ref _, _, ha, _ | .scr _, _, ha, _ => by simp [D.plain] at ha
theorem Reps.dp : ∀ (ds : List D) (vs : List V), D.plainAll ds = true → Reps T H F μ ds vs → DpAll T.K H vs (D.pys ds)
  | [], _, _, h => by simp only [Reps] at h; subst h; simp only [D.pys]; exact .nil
  | d :: ds, _, p, h => by
    simp only [Reps] at h
    simp only [D.plainAll, Bool.and_eq_true] at p
    obtain ⟨x, r, rfl, h1, h2⟩ := h
    simp only [D.pys]
    exact .cons (Rep.dp d x p.1 h1) (Reps.dp ds r p.2 h2)
end
theorem Top.dp : ∀ {d : D} {v : V}, d.plain = true → Top T H F μ d v → Dp T.K H v d.py
  | .non, _, p, h | .bl _, _, p, h | .int _, _, p, h | .str _, _, p, h | .tup _, _, p, h => Rep.dp (F := F) (μ := μ) _ _ p h
  | .lst ds, _, p, ⟨a, e, xs, h1, h2⟩ => by
    subst e
    simp only [D.plain] at p
    simp only [D.py]
    exact .lst (SqL.of h1) (Reps.dp ds xs p h2)
  | .dct _, _, ha, _ | .ref _, _, ha, _ | .scr _, _, ha, _ => by simp [D.plain] at ha
end
theorem any_eqv {a : D} (ha : a.plain = true) : ∀ {ds : List D}, D.plainAll ds = true → ((D.pys ds).any fun z => PyData.eqv z a.py) = ds.any fun z => z.eqv a
  | [], _ => by simp only [D.pys, List.any_nil]
  | d :: ds, h => by
    simp only [D.plainAll, Bool.and_eq_true] at h
    simp only [D.pys, List.any_cons, py_eqv d a h.1 ha, any_eqv ha h.2]
/-- a comparison by values: its readings -/
def rCp (T : Tb) (f : D → D → Option Bool) : R2 := fun x y H Q => ∃ G μ st a b r, GoodT T G μ H st ∧ Top T H (FF G μ) μ a x ∧ Top T H (FF G μ) μ b y ∧ f a b = some r ∧ Q (.bl r) H
section
variable {X : Cx} {T : Tb}
theorem isNon_rep {T : Tb} {H : Hp} {F : Addr → Prop} {μ : List Addr} : ∀ {d : D} {v : V}, Top T H F μ d v → decide (v = .non) = d.isNon
  | .non, _, h => by simp only [Top, Rep] at h; subst h; rfl
  | .bl _, _, h | .int _, _, h | .str _, _, h => by simp only [Top, Rep] at h; subst h; rfl
  | .tup _, _, h => by simp only [Top, Rep] at h; obtain ⟨a, xs, rfl, _⟩ := h; rfl
  | .lst _, _, h => by obtain ⟨a, rfl, _⟩ := h; rfl
  | .dct _, _, h => by obtain ⟨a, rfl, _⟩ := h; rfl
  | .ref _, _, h => by simp only [Top, Rep] at h; obtain ⟨a, rfl, _⟩ := h; rfl
  | .scr _, _, h => by simp only [Top, Rep] at h; obtain ⟨a, rfl, _⟩ := h; rfl
theorem c_eq (hK : X.K = T.K) (hu : X.A.units + 64 < cLine) : OpR X (compareOp .Eq) (rCp T (cmpD .eq)) := by
  intro pins s σ H x y v u Q I rx ry ⟨G, μ, st, a, b, r, g, ha, hb, e, q⟩
  simp only [cmpD, Option.ite_none_right_eq_some, Option.some.injEq, Bool.and_eq_true] at e
  obtain ⟨⟨h1, h2⟩, rfl⟩ := e
  obtain ⟨p1, s1⟩ := eqOk_shaped h1
  obtain ⟨p2, s2⟩ := eqOk_shaped h2
  exact op_eqD hu pins s σ H x y v u Q I rx ry ⟨_, _, hK ▸ ha.dp p1, hK ▸ hb.dp p2, s1, s2, by rw [py_eqv a b p1 p2]; exact q⟩
theorem c_ne (hK : X.K = T.K) (hu : X.A.units + 64 < cLine) : OpR X (compareOp .NotEq) (rCp T (cmpD .ne)) := by
  intro pins s σ H x y v u Q I rx ry ⟨G, μ, st, a, b, r, g, ha, hb, e, q⟩
  simp only [cmpD, Option.ite_none_right_eq_some, Option.some.injEq, Bool.and_eq_true] at e
  obtain ⟨⟨h1, h2⟩, rfl⟩ := e
  obtain ⟨p1, s1⟩ := eqOk_shaped h1
  obtain ⟨p2, s2⟩ := eqOk_shaped h2
  exact op_neD hu pins s σ H x y v u Q I rx ry ⟨_, _, hK ▸ ha.dp p1, hK ▸ hb.dp p2, s1, s2, by rw [py_eqv a b p1 p2]; exact q⟩
theorem c_lt : OpR X (compareOp .Lt) (rCp T (cmpD .lt)) := by
  intro pins s σ H x y v u Q I rx ry ⟨G, μ, st, a, b, r, g, ha, hb, e, q⟩
  cases a <;> cases b <;> simp only [cmpD, Option.some.injEq, reduceCtorEq] at e
  subst e
  exact op_lt pins s σ H x y v u Q I rx ry ⟨_, _, ha, hb, q⟩
theorem c_le : OpR X (compareOp .LtE) (rCp T (cmpD .le)) := by
  intro pins s σ H x y v u Q I rx ry ⟨G, μ, st, a, b, r, g, ha, hb, e, q⟩
  cases a <;> cases b <;> simp only [cmpD, Option.some.injEq, reduceCtorEq] at e
  subst e
  exact op_le pins s σ H x y v u Q I rx ry ⟨_, _, ha, hb, q⟩
theorem c_gt : OpR X (compareOp .Gt) (rCp T (cmpD .gt)) := by
  intro pins s σ H x y v u Q I rx ry ⟨G, μ, st, a, b, r, g, ha, hb, e, q⟩
  cases a <;> cases b <;> simp only [cmpD, Option.some.injEq, reduceCtorEq] at e
  subst e
  exact op_gt pins s σ H x y v u Q I rx ry ⟨_, _, ha, hb, q⟩
theorem c_ge : OpR X (compareOp .GtE) (rCp T (cmpD .ge)) := by
  intro pins s σ H x y v u Q I rx ry ⟨G, μ, st, a, b, r, g, ha, hb, e, q⟩
  cases a <;> cases b <;> simp only [cmpD, Option.some.injEq, reduceCtorEq] at e
  subst e
  exact op_ge pins s σ H x y v u Q I rx ry ⟨_, _, ha, hb, q⟩
theorem c_is : OpR X (compareOp .Is) (rCp T (cmpD .is_)) := by
  intro pins s σ H x y v u Q I rx ry ⟨G, μ, st, a, b, r, g, ha, hb, e, q⟩
  cases b <;> simp only [cmpD, Option.some.injEq, reduceCtorEq] at e
  subst e
  exact op_isN pins s σ H x y v u Q I rx ry ⟨hb, by rw [isNon_rep ha]; exact q⟩
theorem c_isnot : OpR X (compareOp .IsNot) (rCp T (cmpD .isnot)) := by
  intro pins s σ H x y v u Q I rx ry ⟨G, μ, st, a, b, r, g, ha, hb, e, q⟩
  cases b <;> simp only [cmpD, Option.some.injEq, reduceCtorEq] at e
  subst e
  exact op_notN pins s σ H x y v u Q I rx ry ⟨hb, by rw [isNon_rep ha]; exact q⟩
/-- in, not in of a tuple's data -/
theorem op_inDT (hu : X.A.units + 65 < cLine) : OpR X (compareOp .In) (fun x y H Q => ∃ d ds, Dp X.K H x d ∧ Dp X.K H y (.tuple ds) ∧ SeqAt.shaped d = true ∧ SeqAt.shaped (.tuple ds) = true ∧ Q (.bl (ds.any fun z => PyData.eqv z d)) H) := by
  intro pins s σ H x y v u Q I rx ry ⟨d, ds, hd, he, sd, se, q⟩
  obtain ⟨as, r1⟩ := Dp.reads I d x v hd rx
  obtain ⟨bs, r2⟩ := Dp.reads I (.tuple ds) y u he ry
  have hl := SeqAt.canLay_of_shaped se
  simp only [PyData.canLay0] at hl
  exact SeqAt.in_tuple_reads r2 r1 hl (SeqAt.canLay_of_shaped sd) (PyProof.Rows.room_in_shaped sd hu) ⟨.bl _, H, I, rfl, q⟩
theorem op_notInDT (hu : X.A.units + 65 < cLine) : OpR X (compareOp .NotIn) (fun x y H Q => ∃ d ds, Dp X.K H x d ∧ Dp X.K H y (.tuple ds) ∧ SeqAt.shaped d = true ∧ SeqAt.shaped (.tuple ds) = true ∧ Q (.bl (!ds.any fun z => PyData.eqv z d)) H) := by
  intro pins s σ H x y v u Q I rx ry ⟨d, ds, hd, he, sd, se, q⟩
  obtain ⟨as, r1⟩ := Dp.reads I d x v hd rx
  obtain ⟨bs, r2⟩ := Dp.reads I (.tuple ds) y u he ry
  have hl := SeqAt.canLay_of_shaped se
  simp only [PyData.canLay0] at hl
  exact SeqAt.notIn_tuple_reads r2 r1 hl (SeqAt.canLay_of_shaped sd) (PyProof.Rows.room_in_shaped sd hu) ⟨.bl _, H, I, rfl, q⟩
end
end PD
end ZPDCmp
section ZPDDict
set_option Elab.async false
set_option linter.all false
set_option maxRecDepth 100000
set_option maxHeartbeats 1000000
namespace PD
open PySem L2

/-! ### keys -/
mutual
theorem nk_some : ∀ d : D, d.hash = true → ∃ n, nkL d = some n ∧ n.depth = d.depth
  | .non, _ => ⟨.none, rfl, rfl⟩
  | .bl b, _ => ⟨_, rfl, rfl⟩
  | .int b, _ => ⟨_, rfl, rfl⟩
  | .str b, _ => ⟨_, rfl, rfl⟩
  | .tup ds, h => by
    simp only [D.hash] at h
    obtain ⟨ns, e, hd⟩ := nks_some ds h
    exact ⟨.tup ns, by simp only [nkL, e, Option.map_some], by simp only [NestedKey.depth, D.depth, hd]⟩
  | .lst _, h | .dct _, h | .ref _, h | .scr _, h => by simp [D.hash] at h
theorem nks_some : ∀ ds : List D, D.hashAll ds = true → ∃ n, nkLs ds = some n ∧ NestedKey.depthAll n = D.depthAll ds
  | [], _ => ⟨[], rfl, rfl⟩
  | d :: ds, h => by
    simp only [D.hashAll, Bool.and_eq_true] at h
    obtain ⟨n, e, hd⟩ := nk_some d h.1
    obtain ⟨ns, es, hds⟩ := nks_some ds h.2
    exact ⟨n :: ns, by simp only [nkLs, e, es], by simp only [NestedKey.depthAll, D.depthAll, hd, hds]⟩
end
mutual
theorem nk_eqv : ∀ (a b : D) (n m : NestedKey), nkL a = some n → nkL b = some m → a.eqv b = decide (n = m)
  | .non, b, n, m, ha, hb => by
    simp only [nkL, Option.some.injEq] at ha
    subst ha
    cases b <;> simp only [nkL, Option.some.injEq, Option.map_eq_some_iff, reduceCtorEq] at hb <;> first | subst hb | obtain ⟨_, _, rfl⟩ := hb
    all_goals simp [D.eqv]
  | .bl x, b, n, m, ha, hb => by
    simp only [nkL, Option.some.injEq] at ha
    subst ha
    cases b <;> simp only [nkL, Option.some.injEq, Option.map_eq_some_iff, reduceCtorEq] at hb <;> first | subst hb | obtain ⟨_, _, rfl⟩ := hb
    all_goals first | simp [D.eqv] | skip
    · rename_i y; cases x <;> cases y <;> rfl
    · rename_i y; cases x <;> simp [Bool.beq_eq_decide_eq]
  | .int x, b, n, m, ha, hb => by
    simp only [nkL, Option.some.injEq] at ha
    subst ha
    cases b <;> simp only [nkL, Option.some.injEq, Option.map_eq_some_iff, reduceCtorEq] at hb <;> first | subst hb | obtain ⟨_, _, rfl⟩ := hb
    all_goals simp [D.eqv, Bool.beq_eq_decide_eq]
  | .str x, b, n, m, ha, hb => by
    simp only [nkL, Option.some.injEq] at ha
    subst ha
    cases b <;> simp only [nkL, Option.some.injEq, Option.map_eq_some_iff, reduceCtorEq] at hb <;> first | subst hb | obtain ⟨_, _, rfl⟩ := hb
    all_goals simp [D.eqv, Bool.beq_eq_decide_eq]
  | .tup ds, b, n, m, ha, hb => by
    simp only [nkL, Option.map_eq_some_iff] at ha
    obtain ⟨ns, e, rfl⟩ := ha
    cases b <;> simp only [nkL, Option.some.injEq, Option.map_eq_some_iff, reduceCtorEq] at hb <;> first | subst hb | obtain ⟨ms, e', rfl⟩ := hb
    all_goals first | (simp [D.eqv]; done) | skip
    rename_i es
    simp only [D.eqv, nks_eqv ds es ns ms e e', NestedKey.tup.injEq]
  | .lst _, _, _, _, h, _ | .dct _, _, _, _, h, _ | .ref _, _, _, _, h, _ | .scr _, _, _, _, h, _ => by simp [nkL] at h
theorem nks_eqv : ∀ (a b : List D) (n m : List NestedKey), nkLs a = some n → nkLs b = some m → D.eqvAll a b = decide (n = m)
  | [], [], n, m, ha, hb => by simp only [nkLs, Option.some.injEq] at ha hb; subst ha hb; simp [D.eqvAll]
  | [], y :: ys, n, m, ha, hb => by
    simp only [nkLs, Option.some.injEq] at ha hb
    subst ha
    cases e1 : nkL y <;> cases e2 : nkLs ys <;> simp [e1, e2] at hb
    subst hb
    simp [D.eqvAll]
  | x :: xs, [], n, m, ha, hb => by
    simp only [nkLs, Option.some.injEq] at ha hb
    subst hb
    cases e1 : nkL x <;> cases e2 : nkLs xs <;> simp [e1, e2] at ha
    subst ha
    simp [D.eqvAll]
  | x :: xs, y :: ys, n, m, ha, hb => by
    simp only [nkLs] at ha hb
    cases e1 : nkL x <;> cases e2 : nkLs xs <;> simp [e1, e2] at ha
    cases e3 : nkL y <;> cases e4 : nkLs ys <;> simp [e3, e4] at hb
    subst ha hb
    rw [D.eqvAll, nk_eqv x y _ _ e1 e3, nks_eqv xs ys _ _ e2 e4]
    simp [Bool.decide_and]
end

section
variable {X : Cx} {T : Tb} {pins : List (Addr × Obj)} {σ : L2.St} {H : Hp} {s : Shared} {F : Addr → Prop} {μ : List Addr}
mutual
theorem Rep.nk (I : Inv X pins σ H s) (hK : X.K = T.K) : ∀ (d : D) (v : V) (n : NestedKey) (u : Value), nkL d = some n → Rep T H F μ d v → RelV v u → NestedIs s.heap n u
  | .non, _, _, _, e, h, r => by
    simp only [nkL, Option.some.injEq] at e; simp only [Rep] at h; subst e h; cases r; exact .none
  | .bl b, _, _, _, e, h, r => by
    simp only [nkL, Option.some.injEq] at e; simp only [Rep] at h; subst e h; cases r; exact .bool rfl
  | .int b, _, _, _, e, h, r => by
    simp only [nkL, Option.some.injEq] at e; simp only [Rep] at h; subst e h; obtain ⟨t, rfl⟩ := r; exact .int b t
  | .str b, _, _, _, e, h, r => by
    simp only [nkL, Option.some.injEq] at e; simp only [Rep] at h; subst e h; obtain ⟨t, rfl⟩ := r; exact .text b t
  | .tup ds, _, _, _, e, h, r => by
    simp only [nkL, Option.map_eq_some_iff] at e
    simp only [Rep] at h
    obtain ⟨ns, e, rfl⟩ := e
    obtain ⟨a, xs, rfl, h1, h2⟩ := h
    cases r
    obtain ⟨its, rv, ⟨o, ho, hc, k, hd⟩, _⟩ := I.tuple (hK ▸ h1.sq)
    exact .tup ho hc hd (by simpa using Reps.nk I hK ds xs ns its e h2 rv)
  | .lst _, _, _, _, e, _, _ | .dct _, _, _, _, e, _, _ | .ref _, _, _, _, e, _, _ | .scr _, _, _, _, e, _, _ => by simp [nkL] at e
theorem Reps.nk (I : Inv X pins σ H s) (hK : X.K = T.K) : ∀ (ds : List D) (vs : List V) (n : List NestedKey) (us : List Value), nkLs ds = some n → Reps T H F μ ds vs → Vals vs us → NestedAll s.heap n us
  | [], _, _, _, e, h, r => by
    simp only [nkLs, Option.some.injEq] at e; simp only [Reps] at h; subst e h; cases r; exact .nil
  | d :: ds, _, _, _, e, h, r => by
    simp only [nkLs] at e
    simp only [Reps] at h
    obtain ⟨x, q, rfl, h1, h2⟩ := h
    cases r with
    | cons r1 r2 =>
      cases e1 : nkL d <;> cases e2 : nkLs ds <;> simp [e1, e2] at e
      subst e
      exact .cons (Rep.nk I hK d x _ _ e1 h1 r1) (Reps.nk I hK ds q _ _ e2 h2 r2)
end
abbrev NK (X : Cx) := nestedKind X.prog X.w
theorem dKey_is (I : Inv X pins σ H s) (hK : X.K = T.K) {k : D} {kvs : List (D × D)} {v : V} {u : Value} (h : dKey k kvs = true) (hr : Rep T H F μ k v) (r : RelV v u) :
    ∃ n a, nkL k = some n ∧ v = .ref a ∧ u = .ref a ∧ (NK X).is s.heap n a := by
  simp only [dKey, Bool.and_eq_true, decide_eq_true_eq] at h
  obtain ⟨⟨⟨h1, h2⟩, h3⟩, _⟩ := h
  obtain ⟨n, e, hd⟩ := nk_some k h2
  cases k <;> simp only [D.isTup, Bool.false_eq_true] at h1
  have hr' := hr
  simp only [Rep] at hr'
  obtain ⟨a, xs, rfl, _⟩ := hr'
  have r' := r
  cases r'
  exact ⟨n, a, e, rfl, rfl, Rep.nk I hK _ _ n _ e hr r, by omega⟩
/-- an entry of the dict as it stands: key, place, value -/
def EnP : NestedKey × Addr × V → NestedKey × Addr × Value → Prop := fun p q => p.1 = q.1 ∧ p.2.1 = q.2.1 ∧ RelV p.2.2 q.2.2
theorem KVn.keys (I : Inv X pins σ H s) (hK : X.K = T.K) : ∀ {kvs : List (D × D)} {es : List (NestedKey × Addr × V)} {xs : List (NestedKey × Addr × Value)}, KVn T H F μ kvs es → Paired EnP es xs → ∀ x ∈ xs, (NK X).is s.heap x.1 x.2.1
  | [], _, _, h, p, x, hx => by simp only [KVn] at h; subst h; cases p; cases hx
  | (k, d) :: r, _, _, h, p, x, hx => by
    simp only [KVn] at h
    obtain ⟨n, q, y, r', rfl, ⟨e, hd⟩, h1, h2, h3⟩ := h
    cases p with
    | cons p1 p2 =>
      rcases List.mem_cons.mp hx with z | z
      · subst z
        obtain ⟨e1, e2, _⟩ := p1
        simp only at e1 e2
        rw [← e1, ← e2]
        exact ⟨Rep.nk I hK k _ n _ e h1 rfl, hd⟩
      · exact KVn.keys I hK h3 p2 x z
theorem exact_empty {h : Heap} {a : Addr} {P : Program} {w : World} (x : h.DictOf (mixKind P w) a []) : h.DictOfH (nestedKind P w) a [] := by
  obtain ⟨o, es, ep, h1, h2, h3, _, h4, _⟩ := x
  refine ⟨o, es, ep, h1, h2, h3, ?_, fun _ z => (nomatch z), List.nodup_nil⟩
  cases e : es.toList with
  | nil => rfl
  | cons a b => rw [e] at h4; cases h4
/-- the dict as the library tells it -/
theorem DctC.of (I : Inv X pins σ H s) (hP : X.prog = T.P) (hw : X.w = T.w) (hK : X.K = T.K) {a : Addr} {kvs : List (D × D)} (h : DctC T H F μ a kvs) (ht : headTup kvs = true) :
    ∃ es xs, KVn T H F μ kvs es ∧ Paired EnP es xs ∧ s.heap.DictOfH (NK X) a xs ∧ (a == sysModules) = false ∧ es.length ≤ sizeLine ∧ Mut (H a) := by
  rcases h with ⟨es, h1, h2⟩ | ⟨es, ob, hn, h1, h2⟩
  · cases kvs with
    | nil =>
      simp only [KVl] at h2
      subst h2
      obtain ⟨_, hs, vs, kv, hd⟩ := I.hok a _ h1
      cases kv
      exact ⟨[], [], by simp only [KVn], .nil, exact_empty hd, hs, Nat.zero_le _, by rw [h1]; trivial⟩
    | cons p r =>
      obtain ⟨k, d⟩ := p
      simp only [KVl] at h2
      obtain ⟨q, x, r', _, e, _⟩ := h2
      cases k <;> simp [headTup, D.isTup, leafK] at ht e
  · obtain ⟨⟨hl, hs, xs, hp, ents, ep, h3, h4, h5, h6, h7⟩, _⟩ := I.hok a _ h1
    rw [hP.symm, hw.symm] at h6
    exact ⟨es, xs, h2, hp, ⟨ob, ents, ep, h3, h4, h5, h6, KVn.keys I hK h2 hp, h7⟩, hs, hl, by rw [h1]; trivial⟩
theorem findK_at {k : D} {n : NestedKey} (hn : nkL k = some n) : ∀ {kvs : List (D × D)} {es : List (NestedKey × Addr × V)} {xs : List (NestedKey × Addr × Value)}, KVn T H F μ kvs es → Paired EnP es xs →
    match findK k kvs with
    | some d => ∃ p v, atKey xs n = some p ∧ RelV v p.2 ∧ Rep T H F μ d v
    | none => atKey xs n = none
  | [], _, _, h, p => by simp only [KVn] at h; subst h; cases p; rfl
  | (x, d) :: r, _, _, h, p => by
    simp only [KVn] at h
    obtain ⟨m, q, y, r', rfl, ⟨e, hd⟩, h1, h2, h3⟩ := h
    cases p with
    | @cons _ z _ zs p1 p2 =>
      obtain ⟨z1, z2, z3⟩ := z
      obtain ⟨e1, e2, e3⟩ := p1
      simp only at e1 e2 e3
      subst e1 e2
      have ih := findK_at hn h3 p2
      unfold findK
      rw [nk_eqv x k m n e hn]
      by_cases c : m = n
      · subst c
        simp only [decide_true, if_true]
        exact ⟨(q, z3), y, by simp [atKey], e3, h2⟩
      · rw [decide_eq_false c]
        simp only [Bool.false_eq_true, if_false]
        have : atKey ((m, q, z3) :: zs) n = atKey zs n := by simp [atKey, c]
        rw [this]
        exact ih
end
/-- what is stored -/
def storedE (es : List (NestedKey × Addr × V)) (n : NestedKey) (a : Addr) (v : V) : List (NestedKey × Addr × V) := match es with
  | [] => [(n, a, v)]
  | (m, q, x) :: r => if m = n then (m, q, v) :: r else (m, q, x) :: storedE r n a v
theorem storedH_cons {m n : NestedKey} {q a : Addr} {x v : Value} {r : List (NestedKey × Addr × Value)} (hd : ((m, q, x) :: r |>.map (·.1)).Nodup) :
    storedH ((m, q, x) :: r) n a v = if m = n then (m, q, v) :: r else (m, q, x) :: storedH r n a v := by
  by_cases c : m = n
  · subst c
    rw [if_pos rfl]
    have h1 : atKey ((m, q, x) :: r) m = some (q, x) := by simp [atKey]
    have hn : m ∉ r.map (·.1) := by
      rw [List.map_cons, List.nodup_cons] at hd
      exact hd.1
    rw [storedH_old h1, List.map_cons, map_putAt_of_not_mem r m v hn]
    simp [putAt]
  · rw [if_neg c]
    have h1 : atKey ((m, q, x) :: r) n = atKey r n := by simp [atKey, c]
    cases e : atKey r n with
    | none => rw [storedH_new (h1.trans e), storedH_new e, List.cons_append]
    | some p =>
      rw [storedH_old (h1.trans e), storedH_old e, List.map_cons]
      simp [putAt, c]
section
variable {T : Tb} {H : Hp} {F : Addr → Prop} {μ : List Addr}
theorem stored_pair {n : NestedKey} {a : Addr} {v : V} {u : Value} (rv : RelV v u) : ∀ {es : List (NestedKey × Addr × V)} {xs : List (NestedKey × Addr × Value)}, Paired EnP es xs → (xs.map (·.1)).Nodup → Paired EnP (storedE es n a v) (storedH xs n a u)
  | [], _, p, _ => by cases p; exact .cons ⟨rfl, rfl, rv⟩ .nil
  | (m, q, x) :: r, _, p, hd => by
    cases p with
    | @cons _ z _ zs p1 p2 =>
      obtain ⟨z1, z2, z3⟩ := z
      obtain ⟨e1, e2, e3⟩ := p1
      simp only at e1 e2 e3
      subst e1 e2
      rw [storedH_cons hd]
      unfold storedE
      by_cases c : m = n
      · rw [if_pos c, if_pos c]
        exact .cons ⟨rfl, rfl, rv⟩ p2
      · rw [if_neg c, if_neg c]
        exact .cons ⟨rfl, rfl, e3⟩ (stored_pair rv p2 (List.nodup_cons.mp (by simpa using hd)).2)
theorem KVn.put {k d : D} {n : NestedKey} {a : Addr} {v : V} (hn : nkL k = some n) (hd : n.depth ≤ 8) (hk : Rep T H F μ k (.ref a)) (hv : Rep T H F μ d v) : ∀ {kvs : List (D × D)} {es : List (NestedKey × Addr × V)}, KVn T H F μ kvs es → KVn T H F μ (putK k d kvs) (storedE es n a v)
  | [], _, h => by
    simp only [KVn] at h
    subst h
    simp only [putK, storedE, KVn]
    exact ⟨n, a, v, [], rfl, ⟨hn, hd⟩, hk, hv, rfl⟩
  | (x, y) :: r, _, h => by
    simp only [KVn] at h
    obtain ⟨m, q, z, r', rfl, ⟨e, hd'⟩, h1, h2, h3⟩ := h
    unfold putK storedE
    rw [nk_eqv x k m n e hn]
    by_cases c : m = n
    · subst c
      simp only [decide_true, if_true, KVn]
      exact ⟨m, q, v, r', rfl, ⟨e, hd'⟩, h1, hv, h3⟩
    · rw [decide_eq_false c, if_neg c]
      simp only [Bool.false_eq_true, if_false, KVn]
      exact ⟨m, q, z, _, rfl, ⟨e, hd'⟩, h1, h2, KVn.put hn hd hk hv h3⟩
theorem storedE_ne (es : List (NestedKey × Addr × V)) (n : NestedKey) (a : Addr) (v : V) : storedE es n a v ≠ [] := by
  cases es with
  | nil => simp [storedE]
  | cons p r => obtain ⟨m, q, x⟩ := p; unfold storedE; split <;> simp
theorem storedE_len : ∀ (es : List (NestedKey × Addr × V)) (n : NestedKey) (a : Addr) (v : V), (storedE es n a v).length ≤ es.length + 1
  | [], _, _, _ => by simp [storedE]
  | (m, q, x) :: r, n, a, v => by
    unfold storedE
    split
    · simp
    · have := storedE_len r n a v
      simp only [List.length_cons]
      omega
theorem KVn.length : ∀ {kvs : List (D × D)} {es : List (NestedKey × Addr × V)}, KVn T H F μ kvs es → es.length = kvs.length
  | [], _, h => by simp only [KVn] at h; subst h; rfl
  | (k, d) :: r, _, h => by
    simp only [KVn] at h
    obtain ⟨n, q, y, r', rfl, _, _, _, h3⟩ := h
    simp [KVn.length h3]
end
end PD
end ZPDDict
section ZPDDict2
set_option Elab.async false
set_option linter.all false
set_option maxRecDepth 100000
set_option maxHeartbeats 1000000
namespace PD
open PySem PySem.Spec L2 PyProof.Rows

section
variable {X : Cx} {T : Tb}
/-- the context's facts -/
structure XT (T : Tb) (X : Cx) : Prop where
  P : X.prog = T.P
  w : X.w = T.w
  K : X.K = T.K
  m : X.mg = T.mg
  u : X.A.units + 200 < cLine
  c : X.calm = true
theorem dKey_head {k : D} {kvs : List (D × D)} (h : dKey k kvs = true) : headTup kvs = true := by
  simp only [dKey, Bool.and_eq_true] at h
  exact h.2
theorem c_in (h : XT T X) : OpR X (compareOp .In) (rCp T (cmpD .in_)) := by
  intro pins s σ H x y v u Q I rx ry ⟨G, μ, st, a, b, r, g, ha, hb, e, q⟩
  have hu := h.u
  cases b <;> simp only [cmpD, Option.ite_none_right_eq_some, Option.some.injEq, Bool.and_eq_true, reduceCtorEq] at e
  · obtain ⟨⟨h1, h2⟩, rfl⟩ := e
    obtain ⟨p1, s1⟩ := eqOk_shaped h1
    obtain ⟨p2, s2⟩ := eqOk_shaped h2
    have hb' := Top.dp p2 hb
    simp only [D.plain] at p2
    simp only [D.py] at hb' s2
    exact op_inDT (by omega) pins s σ H x y v u Q I rx ry ⟨_, _, h.K ▸ ha.dp p1, h.K ▸ hb', s1, s2, by rw [any_eqv p1 p2]; exact q⟩
  · obtain ⟨⟨h1, h2⟩, rfl⟩ := e
    obtain ⟨p1, s1⟩ := eqOk_shaped h1
    obtain ⟨p2, s2⟩ := eqOk_shaped h2
    have hb' := Top.dp p2 hb
    simp only [D.plain] at p2
    simp only [D.py] at hb' s2
    exact op_inD (by omega) pins s σ H x y v u Q I rx ry ⟨_, _, h.K ▸ ha.dp p1, h.K ▸ hb', s1, s2, by rw [any_eqv p1 p2]; exact q⟩
  · rename_i kvs
    obtain ⟨h1, rfl⟩ := e
    obtain ⟨d, rfl, hb⟩ := hb
    cases ry
    have ht := dKey_head h1
    obtain ⟨es, xs, kv, pr, hd, hs, _, _⟩ := DctC.of I h.P h.w h.K hb ht
    have hr : Rep T H (FF G μ) μ a x := by
      cases a <;> simp [dKey, D.isTup] at h1
      exact ha
    obtain ⟨n, ad, hn, rfl, rfl, hk⟩ := dKey_is I h.K h1 hr rx
    have hf := findK_at hn kv pr
    refine wpAny_in_heap (show (NK X).room X.A.in1 by show X.A.units + 1 + 8 < cLine; omega) hk hs hd ⟨.bl (atKey xs n).isSome, H, I.tok _, rfl, ?_⟩
    cases hq : findK a kvs with
    | none => simp only [hq] at hf q; rw [hf]; exact q
    | some d' => simp only [hq] at hf q; obtain ⟨p, v, e1, _⟩ := hf; rw [e1]; exact q
theorem c_notin (h : XT T X) : OpR X (compareOp .NotIn) (rCp T (cmpD .notin)) := by
  intro pins s σ H x y v u Q I rx ry ⟨G, μ, st, a, b, r, g, ha, hb, e, q⟩
  have hu := h.u
  cases b <;> simp only [cmpD, Option.ite_none_right_eq_some, Option.some.injEq, Bool.and_eq_true, reduceCtorEq] at e
  · obtain ⟨⟨h1, h2⟩, rfl⟩ := e
    obtain ⟨p1, s1⟩ := eqOk_shaped h1
    obtain ⟨p2, s2⟩ := eqOk_shaped h2
    have hb' := Top.dp p2 hb
    simp only [D.plain] at p2
    simp only [D.py] at hb' s2
    exact op_notInDT (by omega) pins s σ H x y v u Q I rx ry ⟨_, _, h.K ▸ ha.dp p1, h.K ▸ hb', s1, s2, by rw [any_eqv p1 p2]; exact q⟩
  · obtain ⟨⟨h1, h2⟩, rfl⟩ := e
    obtain ⟨p1, s1⟩ := eqOk_shaped h1
    obtain ⟨p2, s2⟩ := eqOk_shaped h2
    have hb' := Top.dp p2 hb
    simp only [D.plain] at p2
    simp only [D.py] at hb' s2
    exact op_notInD (by omega) pins s σ H x y v u Q I rx ry ⟨_, _, h.K ▸ ha.dp p1, h.K ▸ hb', s1, s2, by rw [any_eqv p1 p2]; exact q⟩
  · rename_i kvs
    obtain ⟨h1, rfl⟩ := e
    obtain ⟨d, rfl, hb⟩ := hb
    cases ry
    have ht := dKey_head h1
    obtain ⟨es, xs, kv, pr, hd, hs, _, _⟩ := DctC.of I h.P h.w h.K hb ht
    have hr : Rep T H (FF G μ) μ a x := by
      cases a <;> simp [dKey, D.isTup] at h1
      exact ha
    obtain ⟨n, ad, hn, rfl, rfl, hk⟩ := dKey_is I h.K h1 hr rx
    have hf := findK_at hn kv pr
    refine notIn_keyed (knd := NK X) (kvs := pairsH xs) (show (NK X).room X.A.in1 by show X.A.units + 1 + 8 < cLine; omega) hk hs ⟨xs, hd, rfl⟩ ⟨.bl (!(valueAt (pairsH xs) n).isSome), H, I.tok _, rfl, ?_⟩
    rw [valueAt_pairsH, Option.isSome_map]
    cases hq : findK a kvs with
    | none => simp only [hq] at hf q; rw [hf]; exact q
    | some d' => simp only [hq] at hf q; obtain ⟨p, v, e1, _⟩ := hf; rw [e1]; exact q

/-! ### an item -/
def rIxD (T : Tb) : R2 := fun x y H Q => ∃ G μ st a b r, GoodT T G μ H st ∧ Top T H (FF G μ) μ a x ∧ Rep T H (FF G μ) μ b y ∧ idxD a b = some r ∧ ∀ v, Rep T H (FF G μ) μ r v → Q v H
theorem atI_of {ds : List D} {xs : List V} {i : Int} {d : D} {T : Tb} {H : Hp} {G : Addr → Prop} {μ : List Addr} (h : Reps T H (FF G μ) μ ds xs) (e : PD.atI ds i = some d) : ∃ v, L2.atI xs i = some v ∧ Rep T H (FF G μ) μ d v := by
  unfold PD.atI at e
  obtain ⟨j, h1, h2⟩ := Option.bind_eq_some_iff.mp e
  obtain ⟨v, h3, h4⟩ := h.get h2
  refine ⟨v, ?_, h4⟩
  unfold L2.atI
  have : L2.ixN xs.length i = some j := by rw [h.length]; exact h1
  rw [this]
  exact h3
theorem x_idx (h : XT T X) : IxR X (rIxD T) := by
  intro value slice pins s σ H x y v u Q I rx ry ⟨G, μ, st, a, b, r, g, ha, hb, e, q⟩ hs
  have hu := h.u
  cases a <;> cases b <;> simp only [idxD, Option.ite_none_right_eq_some, Option.map_eq_some_iff, reduceCtorEq] at e
  all_goals first
    | (obtain ⟨h1, h2⟩ := e
       simp [dKey, D.isTup] at h1; done)
    | skip
  · simp only [Top, Rep] at ha hb
    obtain ⟨a, xs, rfl, h1, h2⟩ := ha
    subst hb
    obtain ⟨v', e1, e2⟩ := atI_of h2 e
    exact ix_tup value slice pins s σ H _ _ v u Q I rx ry ⟨a, xs, _, v', rfl, rfl, h.K ▸ h1.sq, e1, q v' e2⟩ hs
  · simp only [Rep] at hb
    obtain ⟨a, rfl, xs, h1, h2⟩ := ha
    subst hb
    obtain ⟨v', e1, e2⟩ := atI_of h2 e
    exact ix_list value slice pins s σ H _ _ v u Q I rx ry ⟨a, xs, _, v', rfl, rfl, SqL.of h1, e1, q v' e2⟩ hs
  · obtain ⟨h1, h2⟩ := e
    obtain ⟨d, rfl, ha⟩ := ha
    cases rx
    have ht := dKey_head h1
    obtain ⟨es, xs, kv, pr, hd, hsys, _, _⟩ := DctC.of I h.P h.w h.K ha ht
    obtain ⟨n, ad, hn, rfl, rfl, hk⟩ := dKey_is I h.K h1 hb ry
    have hf := findK_at hn kv pr
    rw [h2] at hf
    obtain ⟨p, v, e1, e2, e3⟩ := hf
    refine tail_any (ops := [.ref d, .ref ad]) hd.typeIs PySem.F.slot_dict_getitem.lookup (wpAny_getItem_heap (show (NK X).room X.A.in1 by show X.A.units + 1 + 8 < cLine; omega) hk hd e1 ?_) hs
    exact ⟨v, H, I.tok _, e2, q v e3⟩
  · simp only [Top, Rep] at ha hb
    obtain ⟨a, rfl, h1⟩ := ha
    subst hb
    rename_i ns i
    obtain ⟨z, h2, rfl⟩ := e
    unfold PD.atI at h2
    obtain ⟨j, h3, h4⟩ := Option.bind_eq_some_iff.mp h2
    refine ix_list value slice pins s σ H _ _ v u Q I rx ry ⟨a, _, _, .int z, rfl, rfl, h.K ▸ h1.sq, ?_, q (.int z) (by simp only [Rep])⟩ hs
    unfold L2.atI
    have : L2.ixN (ns.map V.int).length i = some j := by rw [List.length_map]; exact h3
    rw [this]
    show (ns.map V.int)[j]? = _
    rw [List.getElem?_map, h4]
    rfl
end
end PD
end ZPDDict2
section ZPDStore
set_option Elab.async false
set_option linter.all false
set_option maxRecDepth 100000
set_option maxHeartbeats 1000000
namespace PD
open PySem PySem.Spec L2 PyProof.Rows

section
variable {T : Tb} {G : Addr → Prop} {H H' : Hp} {μ μ' : List Addr} {st st' : Store} {σ : L2.St} {env : Env}
theorem nodup_get {α : Type} {l : List α} (h : l.Nodup) {i j : Nat} {a : α} (h1 : l[i]? = some a) (h2 : l[j]? = some a) : i = j :=
  (List.getElem?_inj (List.getElem?_eq_some_iff.mp h1).1 h).mp (h1.trans h2.symm)
/-- an object at a place that may change, changed: what is read of the others stays -/
theorem mvUpd {F : Addr → Prop} {a : Addr} {o : HO} (ha : F a) : Mv H (upd H a o) F F μ μ :=
  ⟨fun b u e n => by rw [upd_ne (by rintro rfl; exact n ha)]; exact e, fun _ z => .inl z, List.prefix_refl _⟩
/-- a place's object changed -/
theorem Post.put (g : GoodT T G μ H st) {i : Nat} {a : Addr} {o : HO} {u : O} (hi : μ[i]? = some a) (hn : H a ≠ some (.own a) ∧ ∀ b, H a ≠ some (.own b)) (h : ORep T (upd H a o) (FF G μ) μ a u) : Post T G μ H μ (upd H a o) (st.set i u) where
  mu := List.prefix_refl _
  new := fun _ z => .inl z
  keep := fun b w e n => by rw [upd_ne (by rintro rfl; exact n (List.mem_of_getElem? hi))]; exact e
  sto := by
    refine ⟨by rw [List.length_set]; exact g.sto.len, g.sto.nd, fun j w b h1 h2 => ?_⟩
    by_cases c : j = i
    · subst c
      rw [hi] at h2
      cases h2
      have hl : j < st.length := by
        have := (List.getElem?_eq_some_iff.mp h1).1
        rwa [List.length_set] at this
      rw [List.getElem?_set_self hl] at h1
      cases h1
      exact h
    · rw [List.getElem?_set_ne (fun z => c z.symm)] at h1
      have hb : b ≠ a := fun z => c (nodup_get g.sto.nd h2 (z ▸ hi))
      have ma : FF G μ a := .inl (List.mem_of_getElem? hi)
      refine (g.sto.ob j w b h1 h2).mv (mvUpd ma) (fun q e => by rw [upd_ne hb]; exact e) (fun _ z => .inl z) fun c q e nc => ?_
      rw [upd_ne (by rintro rfl; exact nc (List.mem_of_getElem? hi))]
      exact e
/-- a new place -/
theorem Post.new_ (g : GoodT T G μ H st) {p : Addr} (hp : H p = none) {u : O} (hk : ∀ a o, H a = some o → H' a = some o) (h : ORep T H' (FF G (μ ++ [p])) (μ ++ [p]) p u) (hs : H' p ≠ none) : Post T G μ H (μ ++ [p]) H' (st ++ [u]) where
  mu := ⟨[p], rfl⟩
  new := fun a z => by
    rcases List.mem_append.mp z with z | z
    · exact .inl z
    · simp at z; subst z; exact .inr hp
  keep := fun a o e _ => hk a o e
  sto := by
    have np : p ∉ μ := fun z => (g.fresh hp) (.inl z)
    refine ⟨by simp [g.sto.len], ?_, fun j w b h1 h2 => ?_⟩
    · rw [List.nodup_append]
      refine ⟨g.sto.nd, by simp, fun a ha b hb => ?_⟩
      simp at hb
      subst hb
      exact fun z => np (z ▸ ha)
    · by_cases c : j < st.length
      · rw [List.getElem?_append_left c] at h1
        rw [List.getElem?_append_left (by rw [g.sto.len]; exact c)] at h2
        refine (g.sto.ob j w b h1 h2).mv ⟨fun a o e _ => hk a o e, fun a z => ?_, ⟨[p], rfl⟩⟩ (fun q e => hk _ _ e) (fun a z => ?_) fun a q e _ => hk _ _ e
        · rcases z with z | z
          · rcases List.mem_append.mp z with z | z
            · exact .inl (.inl z)
            · simp at z; subst z; exact .inr hp
          · exact .inl (.inr z)
        · rcases List.mem_append.mp z with z | z
          · exact .inl z
          · simp at z; subst z; exact .inr hp
      · have hj : j = st.length := by
          have := (List.getElem?_eq_some_iff.mp h1).1
          simp at this
          omega
        subst hj
        rw [List.getElem?_append_right (Nat.le_refl _)] at h1
        rw [List.getElem?_append_right (by rw [g.sto.len]; exact Nat.le_refl _)] at h2
        simp [g.sto.len] at h1 h2
        subst h1 h2
        exact h
theorem mvNew (hk : ∀ a o, H a = some o → H' a = some o) {p : Addr} (hp : H p = none) : Mv H H' (FF G μ) (FF G (μ ++ [p])) μ (μ ++ [p]) :=
  ⟨fun a o e _ => hk a o e, fun a z => by
    rcases z with z | z
    · rcases List.mem_append.mp z with z | z
      · exact .inl (.inl z)
      · simp at z; subst z; exact .inr hp
    · exact .inl (.inr z), ⟨[p], rfl⟩⟩
end

/-! ### displays and places -/
section
variable {X : Cx} {T : Tb} {pos : Pos} {es : List Expr} {eva : Env → M (List D)}
theorem ite_inv {α : Type} {c : Prop} [Decidable c] {a : M α} {st st2 : Store} {b : α} (h : (if c then a else fail) st = .ok b st2) : c ∧ a st = .ok b st2 := by
  by_cases hc : c
  · rw [if_pos hc] at h; exact ⟨hc, h⟩
  · rw [if_neg hc] at h; cases h
theorem se_tup {k : Nat} (ha : PA X es (rdA T eva)) : PE X (.Tuple es k pos) (rdE T false false fun env => bnd (eva env) fun ds => if ds.length ≤ LIM then ret (.tup ds) else fail) := by
  refine PE.imp (pe_tup ha) fun σ H Q ⟨G, μ, env, st, d, st', g, e, q⟩ => ?_
  obtain ⟨ds, st1, e1, e2⟩ := bnd_inv e
  obtain ⟨hz, e2⟩ := ite_inv e2
  obtain ⟨rfl, rfl⟩ := ret_inv e2
  refine ⟨G, μ, env, st, ds, st1, g, e1, fun vs H1 μ1 p1 r1 => ⟨by rw [r1.length]; exact lim_line hz, fun p hp => ?_⟩⟩
  have g1 := g.toGoodT.post p1
  refine q _ _ μ1 (p1.trans (Post.more g1 (upd_more hp))) (.of0 ⟨p, vs, rfl, .inl ⟨upd_same, g1.fresh hp⟩, Reps.mv (mvMore (upd_more hp) _) ds vs r1⟩)
theorem se_lst (ha : PA X es (rdA T eva)) : PE X (.List es pos) (rdE T true false fun env => bnd (eva env) fun ds => if ds.length ≤ LIM then ret (.lst ds) else fail) := by
  refine PE.imp (pe_lst ha) fun σ H Q ⟨G, μ, env, st, d, st', g, e, q⟩ => ?_
  obtain ⟨ds, st1, e1, e2⟩ := bnd_inv e
  obtain ⟨hz, e2⟩ := ite_inv e2
  obtain ⟨rfl, rfl⟩ := ret_inv e2
  refine ⟨G, μ, env, st, ds, st1, g, e1, fun vs H1 μ1 p1 r1 => ⟨by rw [r1.length]; exact lim_line hz, fun p hp => ?_⟩⟩
  have g1 := g.toGoodT.post p1
  refine q _ _ μ1 (p1.trans (Post.more g1 (upd_more hp))) (.of ⟨p, vs, rfl, upd_same, g1.fresh hp, Reps.mv (mvMore (upd_more hp) _) ds vs r1⟩ fun _ _ e => by
    cases e
    exact ⟨p, vs, rfl, Post.back g.toGoodT p1 hp, upd_same, Reps.mv (mvGP (upd_more hp) hp) ds vs r1, p1.sto.gp (upd_more hp) hp⟩)
theorem se_new (ha : PA X es (rdA T eva)) : PE X (.List es pos) (rdE T false false fun env => bnd (eva env) fun ds => if ds.length ≤ LIM then alloc (.lst ds) else fail) := by
  refine PE.imp (pe_lst ha) fun σ H Q ⟨G, μ, env, st, d, st', g, e, q⟩ => ?_
  obtain ⟨ds, st1, e1, e2⟩ := bnd_inv e
  obtain ⟨hz, e2⟩ := ite_inv e2
  unfold alloc at e2
  cases e2
  refine ⟨G, μ, env, st, ds, st1, g, e1, fun vs H1 μ1 p1 r1 => ⟨by rw [r1.length]; exact lim_line hz, fun p hp => ?_⟩⟩
  have g1 := g.toGoodT.post p1
  refine q _ _ (μ1 ++ [p]) (p1.trans (Post.new_ g1 hp (upd_more hp) ⟨vs, upd_same, Reps.mv (mvNew (upd_more hp) hp) ds vs r1⟩ (by rw [upd_same]; simp))) (.of0 ⟨p, rfl, ?_⟩)
  rw [List.getElem?_append_right (by rw [g1.sto.len]; exact Nat.le_refl _)]
  simp [g1.sto.len]
theorem se_newd : PE X (.Dict [] [] pos) (rdE T false false fun _ => alloc (.dct [])) := by
  refine PE.imp pe_dnewK fun σ H Q ⟨G, μ, env, st, d, st', g, e, q⟩ => ?_
  unfold alloc at e
  cases e
  intro p hp
  refine q _ _ (μ ++ [p]) (Post.new_ g.toGoodT hp (upd_more hp) (.inl ⟨[], upd_same, by simp only [KVl]⟩) (by rw [upd_same]; simp)) (.of0 ⟨p, rfl, ?_⟩)
  rw [List.getElem?_append_right (by rw [g.sto.len]; exact Nat.le_refl _)]
  simp [g.sto.len]
/-- argument lists -/
theorem sa_nil : PA X [] (rdA T fun _ => ret []) := by
  refine PA.imp pa_nil fun σ H Q ⟨G, μ, env, st, d, st', g, e, q⟩ => ?_
  obtain ⟨rfl, rfl⟩ := ret_inv e
  exact q [] H μ (Post.refl g.toGoodT) (by simp only [Reps])
theorem sa_cons {e : Expr} {fr : Bool} {ev : Env → M D} (he : PE X e (rdE T fr false ev)) (ha : PA X es (rdA T eva)) (hs : starEach (e :: es) X.env = (false, eval e X.env) :: starEach es X.env) :
    PA X (e :: es) (rdA T fun env => bnd (ev env) fun d => bnd (eva env) fun ds => ret (d :: ds)) := by
  refine PA.imp (pa_cons he ha hs) fun σ H Q ⟨G, μ, env, st, d, st', g, e, q⟩ => ?_
  obtain ⟨d, st1, e1, k2⟩ := bnd_inv e
  obtain ⟨ds, st2, e2, k3⟩ := bnd_inv k2
  obtain ⟨rfl, rfl⟩ := ret_inv k3
  clear e k2 k3
  refine ⟨G, μ, env, st, d, st1, g, e1, fun v H1 μ1 p1 r1 => ⟨G, μ1, env, st1, ds, st2, g.post p1, e2, fun vs H2 μ2 p2 r2 => ?_⟩⟩
  exact q (v :: vs) H2 μ2 (p1.trans p2) ⟨v, vs, rfl, Rep.mv p2.mv d v (r1.rep rfl), r2⟩
theorem sv_nil : PA X [] (rdV T fun _ => ret []) := by
  refine PA.imp pa_nil fun σ H Q ⟨G, μ, env, st, d, st', g, e, q⟩ => ?_
  obtain ⟨rfl, rfl⟩ := ret_inv e
  exact q [] H μ (Post.refl g.toGoodT) (by simp only [Pks])
theorem sv_cons {e : Expr} {fr pk : Bool} {ev : Env → M D} (he : PE X e (rdE T fr pk ev)) (ha : PA X es (rdV T eva)) (hs : starEach (e :: es) X.env = (false, eval e X.env) :: starEach es X.env) :
    PA X (e :: es) (rdV T fun env => bnd (ev env) fun d => bnd (eva env) fun ds => ret (d :: ds)) := by
  refine PA.imp (pa_cons he ha hs) fun σ H Q ⟨G, μ, env, st, d, st', g, e, q⟩ => ?_
  obtain ⟨d, st1, e1, k2⟩ := bnd_inv e
  obtain ⟨ds, st2, e2, k3⟩ := bnd_inv k2
  obtain ⟨rfl, rfl⟩ := ret_inv k3
  clear e k2 k3
  refine ⟨G, μ, env, st, d, st1, g, e1, fun v H1 μ1 p1 r1 => ⟨G, μ1, env, st1, ds, st2, g.post p1, e2, fun vs H2 μ2 p2 r2 => ?_⟩⟩
  exact q (v :: vs) H2 μ2 (p1.trans p2) ⟨v, vs, rfl, Pk.mv p2 r1.pkr, r2⟩
end
/-! ### operators on expressions -/
section
variable {X : Cx} {T : Tb} {pos : Pos} {a b : Expr} {eva evb : Env → M D} {fa pa fb pb : Bool}
theorem vw_inv {d d' : D} {st st2 : Store} (h : vw d st = .ok d' st2) : d' = view st d ∧ st2 = st := by
  unfold vw at h; cases h; exact ⟨rfl, rfl⟩
theorem Ans.q {T : Tb} {fr : Bool} {G : Addr → Prop} {μ : List Addr} {H : Hp} {r : D} {Q : VK} {fr0 : Bool} {H0 : Hp} {μ0 : List Addr} {st0 st : Store} (g0 : GoodT T G μ0 H0 st0) (p : Post T G μ0 H0 μ H st)
    (q : ∀ v H' μ', Post T G μ0 H0 μ' H' st → RS T fr0 false G H0 μ' H' st r v → Q v H') (hf : fr0 = true → fr = true) : Ans T fr (FF G μ) μ H r Q := fun v H' k rep f => by
  have g := g0.post p
  exact q v H' μ (p.trans (Post.more g k)) (.of rep fun z => fun ds e => by
    obtain ⟨pp, xs, e1, e2, e3, e4⟩ := f (hf z) ds e
    refine ⟨pp, xs, e1, Post.back g0 p e2, e3, Reps.mv ⟨fun _ _ e _ => e, fun a z => ?_, List.prefix_refl _⟩ ds xs e4, p.sto.gp k e2⟩
    rcases z with z | z | z
    · exact .inl (.inl (.inl z))
    · exact .inl (.inl (.inr z))
    · exact .inl (.inr z))
theorem se_bin {op : Operator} {f : D → D → Option D} (ho : OpR X (binaryOp op) (rOp T true f)) (ha : PE X a (rdE T fa pa eva)) (hb : PE X b (rdE T fb pb evb)) :
    PE X (.BinOp a op b pos) (rdE T true false fun env => bnd (eva env) fun x => bnd (evb env) fun y => bnd (vw x) fun x => bnd (vw y) fun y => opt (f x y)) := by
  refine PE.imp (pe_op ho ha hb) fun σ H Q ⟨G, μ, env, st, d, st', g, e, q⟩ => ?_
  obtain ⟨x, st1, e1, k2⟩ := bnd_inv e
  obtain ⟨y, st3, e2, k3⟩ := bnd_inv k2
  obtain ⟨x', st4, k4, k5⟩ := bnd_inv k3
  obtain ⟨rfl, rfl⟩ := vw_inv k4
  obtain ⟨y', st5, k6, k7⟩ := bnd_inv k5
  obtain ⟨rfl, rfl⟩ := vw_inv k6
  obtain ⟨e5, rfl⟩ := opt_inv k7
  clear e k2 k3 k4 k5 k6 k7
  refine ⟨G, μ, env, st, x, st1, g, e1, fun v H1 μ1 p1 r1 => ⟨G, μ1, env, st1, y, _, g.post p1, e2, fun u H2 μ2 p2 r2 => ?_⟩⟩
  have p12 := p1.trans p2
  have g2 := (g.post p1).post p2
  exact ⟨G, μ2, _, _, _, _, g2.toGoodT, (Pk.mv p2 r1.pkr).view g2.sto, r2.pkr.view g2.sto, e5, Ans.q g.toGoodT p12 q id⟩
theorem se_cmp {op : CmpOp} {f : D → D → Option Bool} (ho : OpR X (compareOp op) (rCp T f)) (ha : PE X a (rdE T fa pa eva)) (hb : PE X b (rdE T fb pb evb)) (hm : behindInMarks op b = false) :
    PE X (.Compare a [op] [b] pos) (rdE T false false fun env => bnd (eva env) fun x => bnd (evb env) fun y => bnd (vw x) fun x => bnd (vw y) fun y => bnd (opt (f x y)) fun r => ret (.bl r)) := by
  refine PE.imp (pe_cmpR ho ha hb hm) fun σ H Q ⟨G, μ, env, st, d, st', g, e, q⟩ => ?_
  obtain ⟨x, st1, e1, k2⟩ := bnd_inv e
  obtain ⟨y, st3, e2, k3⟩ := bnd_inv k2
  obtain ⟨x', st4, k4, k5⟩ := bnd_inv k3
  obtain ⟨rfl, rfl⟩ := vw_inv k4
  obtain ⟨y', st5, k6, k7⟩ := bnd_inv k5
  obtain ⟨rfl, rfl⟩ := vw_inv k6
  obtain ⟨r, st6, k8, k9⟩ := bnd_inv k7
  obtain ⟨e5, rfl⟩ := opt_inv k8
  obtain ⟨rfl, rfl⟩ := ret_inv k9
  clear e k2 k3 k4 k5 k6 k7 k8 k9
  refine ⟨G, μ, env, st, x, st1, g, e1, fun v H1 μ1 p1 r1 => ⟨G, μ1, env, st1, y, _, g.post p1, e2, fun u H2 μ2 p2 r2 => ?_⟩⟩
  have g2 := (g.post p1).post p2
  exact ⟨G, μ2, _, _, _, _, g2.toGoodT, (Pk.mv p2 r1.pkr).view g2.sto, r2.pkr.view g2.sto, e5, q _ _ μ2 (p1.trans p2) (.of0 (by simp only [Rep]))⟩
end
end PD
end ZPDStore
section ZPDBi
set_option Elab.async false
set_option linter.all false
set_option maxRecDepth 100000
set_option maxHeartbeats 1000000
namespace PD
open PySem PySem.Spec L2 PyProof.Rows

/-- looks of arguments -/
def Tops (T : Tb) (H : Hp) (F : Addr → Prop) (μ : List Addr) : List D → List V → Prop
  | [], xs => xs = []
  | d :: ds, xs => ∃ x r, xs = x :: r ∧ Top T H F μ d x ∧ Tops T H F μ ds r
theorem Pks.views {T : Tb} {G : Addr → Prop} {μ : List Addr} {H : Hp} {st : Store} (g : StR T (FF G μ) μ H st) : ∀ {ds : List D} {vs : List V}, Pks T H (FF G μ) μ ds vs → Tops T H (FF G μ) μ (ds.map (view st)) vs
  | [], _, h => h
  | d :: ds, _, ⟨x, r, e, h1, h2⟩ => ⟨x, r, e, h1.view g, Pks.views g h2⟩
def rBi (T : Tb) (f : List D → Option D) : List V → Hp → VK → Prop := fun vs H Q => ∃ G μ st ds r, GoodT T G μ H st ∧ Tops T H (FF G μ) μ ds vs ∧ f ds = some r ∧ Ans T true (FF G μ) μ H r Q

theorem insI_perm (x : Int) : ∀ l : List Int, (insI x l).Perm (x :: l)
  | [] => .refl _
  | y :: r => by
    unfold insI
    split
    · exact .refl _
    · exact ((insI_perm x r).cons y).trans (.swap x y r)
theorem sortI_perm : ∀ l : List Int, (sortI l).Perm l
  | [] => .refl _
  | x :: r => (insI_perm x _).trans ((sortI_perm r).cons x)
theorem insI_up (x : Int) : ∀ l : List Int, l.Pairwise (· ≤ ·) → (insI x l).Pairwise (· ≤ ·)
  | [], _ => by simp [insI]
  | y :: r, h => by
    unfold insI
    rw [List.pairwise_cons] at h
    split
    · rename_i hxy
      rw [List.pairwise_cons]
      refine ⟨fun z hz => ?_, List.pairwise_cons.mpr h⟩
      rcases List.mem_cons.mp hz with e | e
      · subst e; exact hxy
      · exact Int.le_trans hxy (h.1 z e)
    · rename_i hxy
      rw [List.pairwise_cons]
      refine ⟨fun z hz => ?_, insI_up x r h.2⟩
      rcases List.mem_cons.mp ((insI_perm x r).mem_iff.mp hz) with e | e
      · subst e; omega
      · exact h.1 z e
theorem sortI_up : ∀ l : List Int, (sortI l).Pairwise (· ≤ ·)
  | [] => .nil
  | x :: r => insI_up x _ (sortI_up r)
theorem maxI_mem : ∀ {l : List Int}, l ≠ [] → maxI l ∈ l ∧ ∀ y ∈ l, y ≤ maxI l
  | [x], _ => by simp [maxI]
  | x :: y :: r, _ => by
    obtain ⟨h1, h2⟩ := maxI_mem (l := y :: r) (by simp)
    have e : maxI (x :: y :: r) = max x (maxI (y :: r)) := rfl
    rw [e]
    refine ⟨?_, fun z hz => ?_⟩
    · by_cases c : x ≤ maxI (y :: r)
      · rw [Int.max_eq_right c]; exact List.mem_cons_of_mem _ h1
      · rw [Int.max_eq_left (by omega)]; exact List.mem_cons_self
    · rcases List.mem_cons.mp hz with q | q
      · subst q; omega
      · have := h2 z q; omega
theorem minI_mem : ∀ {l : List Int}, l ≠ [] → minI l ∈ l ∧ ∀ y ∈ l, minI l ≤ y
  | [x], _ => by simp [minI]
  | x :: y :: r, _ => by
    obtain ⟨h1, h2⟩ := minI_mem (l := y :: r) (by simp)
    have e : minI (x :: y :: r) = min x (minI (y :: r)) := rfl
    rw [e]
    refine ⟨?_, fun z hz => ?_⟩
    · by_cases c : x ≤ minI (y :: r)
      · rw [Int.min_eq_left c]; exact List.mem_cons_self
      · rw [Int.min_eq_right (by omega)]; exact List.mem_cons_of_mem _ h1
    · rcases List.mem_cons.mp hz with q | q
      · subst q; omega
      · have := h2 z q; omega

section
variable {T : Tb} {G : Addr → Prop} {H : Hp} {μ : List Addr}
theorem ints_rep : ∀ {ds : List D} {xs : List V} {ns : List Int}, Reps T H (FF G μ) μ ds xs → dInts ds = some ns → xs = ns.map V.int
  | [], _, _, h, e => by simp only [Reps] at h; simp only [dInts, Option.some.injEq] at e; subst h e; rfl
  | d :: ds, _, _, h, e => by
    simp only [Reps] at h
    obtain ⟨x, r, rfl, h1, h2⟩ := h
    cases d <;> simp only [dInts, Option.map_eq_some_iff, reduceCtorEq] at e
    obtain ⟨ms, e1, rfl⟩ := e
    simp only [Rep] at h1
    subst h1
    rw [ints_rep h2 e1]
    rfl
theorem bools_rep : ∀ {ds : List D} {xs : List V} {ns : List Bool}, Reps T H (FF G μ) μ ds xs → dBools ds = some ns → xs = ns.map V.bl
  | [], _, _, h, e => by simp only [Reps] at h; simp only [dBools, Option.some.injEq] at e; subst h e; rfl
  | d :: ds, _, _, h, e => by
    simp only [Reps] at h
    obtain ⟨x, r, rfl, h1, h2⟩ := h
    cases d <;> simp only [dBools, Option.map_eq_some_iff, reduceCtorEq] at e
    obtain ⟨ms, e1, rfl⟩ := e
    simp only [Rep] at h1
    subst h1
    rw [bools_rep h2 e1]
    rfl
theorem rep_ints : ∀ ns : List Int, Reps T H (FF G μ) μ (ns.map .int) (ns.map V.int)
  | [] => by simp [Reps]
  | n :: r => ⟨_, _, rfl, by simp only [Rep], rep_ints r⟩
theorem tops1 {d : D} {vs : List V} (h : Tops T H (FF G μ) μ [d] vs) : ∃ v, vs = [v] ∧ Top T H (FF G μ) μ d v := by
  obtain ⟨x, r, rfl, h1, h2⟩ := h
  have : r = [] := h2
  subst this
  exact ⟨x, rfl, h1⟩
theorem tops2 {d d' : D} {vs : List V} (h : Tops T H (FF G μ) μ [d, d'] vs) : ∃ v v', vs = [v, v'] ∧ Top T H (FF G μ) μ d v ∧ Top T H (FF G μ) μ d' v' := by
  obtain ⟨x, r, rfl, h1, h2⟩ := h
  obtain ⟨v', rfl, h3⟩ := tops1 h2
  exact ⟨x, v', rfl, h1, h3⟩
end
section
variable {X : Cx} {T : Tb}
theorem b_len (h : XT T X) : CallR X (.builtin "len") (rBi T (biD .len)) := by
  intro pins s σ H vs us Q I r ⟨G, μ, st, ds, d, g, t, e, q⟩
  match ds, e with
  | [.lst ds], e =>
    obtain rfl := Option.some.inj e
    obtain ⟨v, rfl, a, rfl, xs, h1, h2⟩ := tops1 t
    exact call_len_seq pins s σ H _ us Q I r ⟨a, xs, rfl, .inl (SqL.of h1), by rw [h2.length]; exact q.int⟩
  | [.tup ds], e =>
    obtain rfl := Option.some.inj e
    obtain ⟨v, rfl, t1⟩ := tops1 t
    obtain ⟨a, xs, rfl, h1, h2⟩ := t1
    exact call_len_seq pins s σ H _ us Q I r ⟨a, xs, rfl, .inr (h.K ▸ h1.sq), by rw [h2.length]; exact q.int⟩
  | [.scr ns], e =>
    obtain rfl := Option.some.inj e
    obtain ⟨v, rfl, t1⟩ := tops1 t
    obtain ⟨a, rfl, h1⟩ := t1
    exact call_len_seq pins s σ H _ us Q I r ⟨a, _, rfl, .inl (h.K ▸ h1.sq), by rw [List.length_map]; exact q.int⟩
  | [.dct kvs], e =>
    obtain rfl := Option.some.inj e
    obtain ⟨v, rfl, a, rfl, h1⟩ := tops1 t
    rcases h1 with ⟨es, h1, h2⟩ | ⟨es, ob, hn, h1, h2⟩
    · have hl : ∀ {kvs : List (D × D)} {es : List (Key × V)}, KVl T H (FF G μ) μ kvs es → es.length = kvs.length := by
        intro kvs
        induction kvs with
        | nil => intro es h; simp only [KVl] at h; subst h; rfl
        | cons p r ih =>
          intro es h
          obtain ⟨k, d⟩ := p
          simp only [KVl] at h
          obtain ⟨_, _, r', rfl, _, _, h3⟩ := h
          simp [ih h3]
      exact call_lenD pins s σ H _ us Q I r ⟨a, es, rfl, h1, by rw [hl h2]; exact q.int⟩
    · have ht : headTup kvs = true := by
        cases kvs with
        | nil => rfl
        | cons p r' =>
          obtain ⟨k, d⟩ := p
          obtain ⟨n, qq, x, r'', _, ⟨e1, _⟩, hk, _⟩ := h2
          cases k with
          | tup _ => rfl
          | non => cases (show V.ref qq = V.non from hk)
          | bl b => cases (show V.ref qq = V.bl b from hk)
          | int b => cases (show V.ref qq = V.int b from hk)
          | str b => cases (show V.ref qq = V.str b from hk)
          | lst _ => simp [nkL] at e1
          | dct _ => simp [nkL] at e1
          | ref _ => simp [nkL] at e1
          | scr _ => simp [nkL] at e1
      obtain ⟨es', xs, kv, pr, hd, hs, hl, _⟩ := DctC.of I h.P h.w h.K (.inr ⟨es, ob, hn, h1, h2⟩) ht
      have hlx : (pairsH xs).length = kvs.length := by rw [pairsH_length, ← pr.length, kv.length]
      cases r with
      | cons r1 r2 =>
        cases r1
        cases r2
        refine PyProof.Rows.call_len_slot (n := (pairsH xs).length) hd.typeIs PySem.F.slot_dict_len (fun Q' hq => len_keyed hs ⟨xs, hd, rfl⟩ hq) (by omega) ?_ ?_
        · rw [pairsH_length, ← pr.length]; have := sizeLine_eq; omega
        · exact ⟨.int (pairsH xs).length, H, I.tok _, ⟨_, rfl⟩, by rw [hlx]; exact q.int⟩
theorem b_abs : CallR X (.builtin "abs") (rBi T (biD .abs)) := by
  intro pins s σ H vs us Q I r ⟨G, μ, st, ds, d, g, t, e, q⟩
  match ds, e with
  | [.int i], e =>
    obtain rfl := Option.some.inj e
    obtain ⟨v, rfl, t1⟩ := tops1 t
    obtain rfl : v = V.int i := t1
    exact call_abs pins s σ H _ us Q I r ⟨i, rfl, q.int⟩
theorem b_int : CallR X (.type "int") (rBi T (biD .int)) := by
  intro pins s σ H vs us Q I r ⟨G, μ, st, ds, d, g, t, e, q⟩
  match ds, e with
  | [.int i], e =>
    obtain rfl := Option.some.inj e
    obtain ⟨v, rfl, t1⟩ := tops1 t
    obtain rfl : v = V.int i := t1
    exact call_int1 pins s σ H _ us Q I r (.inl ⟨i, rfl, q.int⟩)
  | [.bl i], e =>
    obtain rfl := Option.some.inj e
    obtain ⟨v, rfl, t1⟩ := tops1 t
    obtain rfl : v = V.bl i := t1
    exact call_int1 pins s σ H _ us Q I r (.inr ⟨i, rfl, q.int⟩)
theorem b_max (h : XT T X) : CallR X (.builtin "max") (rBi T (biD .max)) := by
  intro pins s σ H vs us Q I r ⟨G, μ, st, ds, d, g, t, e, q⟩
  match ds, e with
  | [.int i, .int j], e =>
    obtain rfl := Option.some.inj e
    obtain ⟨v, v', rfl, t1, t2⟩ := tops2 t
    simp only [Top, Rep] at t1 t2; subst t1 t2
    exact call_max2 h.c pins s σ H _ us Q I r ⟨i, j, rfl, q.int⟩
  | [.lst ds], e =>
    simp only [biD] at e
    cases e1 : dInts ds with
    | none => rw [e1] at e; cases e
    | some ns =>
      rw [e1] at e
      simp only [Option.ite_none_left_eq_some, Option.some.injEq] at e
      obtain ⟨hn, rfl⟩ := e
      obtain ⟨v, rfl, a, rfl, xs, h1, h2⟩ := tops1 t
      have ex := ints_rep h2 e1
      subst ex
      obtain ⟨m1, m2⟩ := maxI_mem hn
      refine cr_max h.c pins s σ H _ us Q I r ⟨a, ns, rfl, SqL.of h1, List.length_pos_iff.mpr hn, fun m hm hy => ?_⟩
      have : m = maxI ns := Int.le_antisymm (m2 m hm) (hy _ m1)
      rw [this]; exact q.int
theorem b_min (h : XT T X) : CallR X (.builtin "min") (rBi T (biD .min)) := by
  intro pins s σ H vs us Q I r ⟨G, μ, st, ds, d, g, t, e, q⟩
  match ds, e with
  | [.int i, .int j], e =>
    obtain rfl := Option.some.inj e
    obtain ⟨v, v', rfl, t1, t2⟩ := tops2 t
    simp only [Top, Rep] at t1 t2; subst t1 t2
    exact call_min2 h.c pins s σ H _ us Q I r ⟨i, j, rfl, q.int⟩
  | [.lst ds], e =>
    simp only [biD] at e
    cases e1 : dInts ds with
    | none => rw [e1] at e; cases e
    | some ns =>
      rw [e1] at e
      simp only [Option.ite_none_left_eq_some, Option.some.injEq] at e
      obtain ⟨hn, rfl⟩ := e
      obtain ⟨v, rfl, a, rfl, xs, h1, h2⟩ := tops1 t
      have ex := ints_rep h2 e1
      subst ex
      obtain ⟨m1, m2⟩ := minI_mem hn
      refine cr_min h.c pins s σ H _ us Q I r ⟨a, ns, rfl, SqL.of h1, List.length_pos_iff.mpr hn, fun m hm hy => ?_⟩
      have : m = minI ns := Int.le_antisymm (hy _ m1) (m2 m hm)
      rw [this]; exact q.int
theorem b_sum (h : XT T X) : CallR X (.builtin "sum") (rBi T (biD .sum)) := by
  intro pins s σ H vs us Q I r ⟨G, μ, st, ds, d, g, t, e, q⟩
  match ds, e with
  | [.lst ds], e =>
    simp only [biD, Option.map_eq_some_iff] at e
    obtain ⟨ns, e1, rfl⟩ := e
    obtain ⟨v, rfl, a, rfl, xs, h1, h2⟩ := tops1 t
    have ex := ints_rep h2 e1
    subst ex
    exact cr_sum h.c pins s σ H _ us Q I r ⟨a, ns, rfl, SqL.of h1, q.int⟩
theorem b_all (h : XT T X) : CallR X (.builtin "all") (rBi T (biD .all)) := by
  intro pins s σ H vs us Q I r ⟨G, μ, st, ds, d, g, t, e, q⟩
  match ds, e with
  | [.lst ds], e =>
    simp only [biD, Option.map_eq_some_iff] at e
    obtain ⟨ns, e1, rfl⟩ := e
    obtain ⟨v, rfl, a, rfl, xs, h1, h2⟩ := tops1 t
    have ex := bools_rep h2 e1
    subst ex
    exact cr_all h.c pins s σ H _ us Q I r ⟨a, ns, rfl, SqL.of h1, q.bl⟩
theorem b_any (h : XT T X) : CallR X (.builtin "any") (rBi T (biD .any)) := by
  intro pins s σ H vs us Q I r ⟨G, μ, st, ds, d, g, t, e, q⟩
  match ds, e with
  | [.lst ds], e =>
    simp only [biD, Option.map_eq_some_iff] at e
    obtain ⟨ns, e1, rfl⟩ := e
    obtain ⟨v, rfl, a, rfl, xs, h1, h2⟩ := tops1 t
    have ex := bools_rep h2 e1
    subst ex
    exact cr_any h.c pins s σ H _ us Q I r ⟨a, ns, rfl, SqL.of h1, q.bl⟩
theorem b_sorted : CallR X (.builtin "sorted") (rBi T (biD .sorted)) := by
  intro pins s σ H vs us Q I r ⟨G, μ, st, ds, d, g, t, e, q⟩
  match ds, e with
  | [.lst ds], e =>
    simp only [biD] at e
    cases e1 : dInts ds with
    | none => rw [e1] at e; cases e
    | some ns =>
      rw [e1] at e
      simp only [Option.ite_none_right_eq_some, Option.some.injEq] at e
      obtain ⟨hn, rfl⟩ := e
      obtain ⟨v, rfl, a, rfl, xs, h1, h2⟩ := tops1 t
      have ex := ints_rep h2 e1
      subst ex
      refine cr_sorted pins s σ H _ us Q I r ⟨a, ns, rfl, SqL.of h1, hn, fun ns' p hp hu hf => ?_⟩
      have : ns' = sortI ns := PySem.W.ksm_same (hp.trans (sortI_perm ns).symm) hu (sortI_up ns)
      subst this
      exact q.lst g (rep_ints _) p hf
theorem b_tuple (h : XT T X) : CallR X (.type "tuple") (rBi T (biD .tuple)) := by
  intro pins s σ H vs us Q I r ⟨G, μ, st, ds, d, g, t, e, q⟩
  match ds, e with
  | [.lst ds], e =>
    obtain rfl := Option.some.inj e
    obtain ⟨v, rfl, a, rfl, xs, h1, h2⟩ := tops1 t
    exact call_tuple_of pins s σ H _ us Q I r ⟨a, xs, rfl, .inl ⟨SqL.of h1, q.tup g h2⟩⟩
  | [.tup ds], e =>
    obtain rfl := Option.some.inj e
    obtain ⟨v, rfl, t1⟩ := tops1 t
    have t' : Rep T H (FF G μ) μ (.tup ds) v := t1
    obtain ⟨a, xs, rfl, h1, h2⟩ := t1
    exact call_tuple_of pins s σ H _ us Q I r ⟨a, xs, rfl, .inr ⟨h.K ▸ h1.sq, q.same t' fun _ z => nomatch z⟩⟩
theorem kvn_keys {T : Tb} {G : Addr → Prop} {H : Hp} {μ : List Addr} : ∀ {kvs : List (D × D)} {es : List (NestedKey × Addr × V)}, KVn T H (FF G μ) μ kvs es → Reps T H (FF G μ) μ (kvs.map (·.1)) (es.map fun p => V.ref p.2.1)
  | [], _, h => by obtain rfl : _ = [] := h; simp [Reps]
  | (k, d) :: r, _, h => by
    obtain ⟨n, q, x, r', rfl, _, h1, _, h3⟩ := h
    exact ⟨V.ref q, _, rfl, h1, kvn_keys h3⟩
theorem paired_get {α β : Type} {R : α → β → Prop} : ∀ {xs : List α} {ys : List β}, xs.length = ys.length → (∀ (i : Nat) (x : α) (y : β), xs[i]? = some x → ys[i]? = some y → R x y) → Paired R xs ys
  | [], [], _, _ => .nil
  | x :: xs, y :: ys, hl, h => .cons (h 0 x y rfl rfl) (paired_get (by simpa using hl) fun i a b h1 h2 => h (i + 1) a b (by simpa using h1) (by simpa using h2))
  | [], _ :: _, hl, _ => by simp at hl
  | _ :: _, [], hl, _ => by simp at hl
theorem paired_at {α β : Type} {R : α → β → Prop} : ∀ {xs : List α} {ys : List β} {i : Nat} {x : α} {y : β}, Paired R xs ys → xs[i]? = some x → ys[i]? = some y → R x y
  | _, _, _, _, _, .nil, h, _ => by simp at h
  | _, _, 0, _, _, .cons r _, h1, h2 => by simp at h1 h2; subst h1 h2; exact r
  | _, _, i + 1, _, _, .cons _ t, h1, h2 => paired_at (i := i) t (by simpa using h1) (by simpa using h2)
/-- list(d) -/
theorem list_dict (h : XT T X) {pins : List (Addr × Obj)} {s : Shared} {σ : L2.St} {H : Hp} {G : Addr → Prop} {μ : List Addr} {Q : VK} {a : Addr} {kvs : List (D × D)} (I : Inv X pins σ H s) (hd : DctC T H (FF G μ) μ a kvs) (ht : headTup kvs = true)
    (q : ∀ xs, Reps T H (FF G μ) μ (kvs.map (·.1)) xs → ∀ p, H p = none → Q (.ref p) (upd H p (.lst xs))) : wpAny (model X.prog X.w) X.A (call (.type "list") [.ref a]) (EP X pins σ Q) X.xe s := by
  obtain ⟨es, xs, kv, pr, hm, hs, hl, _⟩ := DctC.of I h.P h.w h.K hd ht
  obtain ⟨ents, ep, hr, hsz, he⟩ := hm.raw
  have hn : ents.size ≤ sizeLine := by rw [hsz, ← pr.length]; exact hl
  refine PySem.W.kdl_call (PySem.KdlSrc.rawDict (es := ents) (ep := ep) hs) (I.ok.hd h.c) hr hn fun h' tk acc c k1 k2 k3 => ?_
  have hf : H s.heap.objs.size = none := I.hok.fresh (Nat.le_refl _)
  have hv : Vals (es.map fun p => V.ref p.2.1) acc.toList := by
    obtain ⟨k4, k5⟩ := k3
    have ql : acc.toList.length = acc.size := by simp
    refine paired_get (by rw [List.length_map, ql, k4, hsz, pr.length]) fun i x y hx hy => ?_
    rw [List.getElem?_map] at hx
    obtain ⟨e, he1, rfl⟩ := Option.map_eq_some_iff.mp hx
    obtain ⟨hi, rfl⟩ := k5 i y (by simpa using hy)
    obtain ⟨z, hz1, hz2, _, _⟩ := he i hi
    have := paired_at pr he1 hz1
    rw [hz2]
    show Value.ref z.2.1 = Value.ref e.2.1
    rw [this.2.1]
  refine ⟨.ref s.heap.objs.size, _, I.laid (t' := tk) (o := .lst (es.map fun p => V.ref p.2.1)) k1 (Nat.le_refl _) ?_, rfl, q _ (kvn_keys kv) _ hf⟩
  exact ⟨by rw [List.length_map]; exact hl, acc.toList, c, hv, by simpa using k2⟩
theorem b_list (h : XT T X) : CallR X (.type "list") (rBi T (biD .list)) := by
  intro pins s σ H vs us Q I r ⟨G, μ, st, ds, d, g, t, e, q⟩
  match ds, e with
  | [.lst ds], e =>
    obtain rfl := Option.some.inj e
    obtain ⟨v, rfl, a, rfl, xs, h1, h2⟩ := tops1 t
    exact call_list_of pins s σ H _ us Q I r ⟨a, xs, rfl, .inl (SqL.of h1), q.lst g h2⟩
  | [.tup ds], e =>
    obtain rfl := Option.some.inj e
    obtain ⟨v, rfl, t1⟩ := tops1 t
    obtain ⟨a, xs, rfl, h1, h2⟩ := t1
    exact call_list_of pins s σ H _ us Q I r ⟨a, xs, rfl, .inr (h.K ▸ h1.sq), q.lst g h2⟩
  | [.dct kvs], e =>
    simp only [biD, Option.ite_none_right_eq_some, Option.some.injEq] at e
    obtain ⟨ht, rfl⟩ := e
    obtain ⟨v, rfl, a, rfl, h1⟩ := tops1 t
    cases r with
    | cons r1 r2 =>
      cases r1
      cases r2
      exact list_dict h I h1 ht fun xs rx => q.lst g rx
end
end PD
end ZPDBi
section ZPDIter
set_option Elab.async false
set_option linter.all false
set_option maxRecDepth 100000
set_option maxHeartbeats 1000000
namespace PD
open PySem PySem.Spec L2 PyProof.Rows

/-- what is walked: the data ds, one by one -/
structure JW (T : Tb) (pk : Bool) (G : Addr → Prop) (μ1 : List Addr) (H1 : Hp) (J : It) (ds : List D) : Prop where
  stay : ∃ stay : Hp → Prop, stay H1 ∧ (∀ H2, (∀ a o, H1 a = some o → ¬ (if pk = true then a ∈ μ1 else FF G μ1 a) → H2 a = some o) → stay H2) ∧
    (∀ i d H2, stay H2 → ds[i]? = some d → J.go i H2 ∧ ∀ x H3, J.yld i H2 x H3 → (∀ a o, H2 a = some o → H3 a = some o) ∧ ∀ F2 μ2, Mv H1 H2 (FF G μ1) F2 μ1 μ2 → Rep T H3 F2 μ2 d x) ∧
    (∀ H2, stay H2 → J.stop ds.length H2)
def rdI (T : Tb) (pk : Bool) (ev : Env → M (List D)) : TI := fun σ H R => ∃ G μ env st ds st', Good T G μ H σ env st ∧ ev env st = .ok ds st' ∧
  ∀ J H' μ', Post T G μ H μ' H' st' → JW T pk G μ' H' J ds → R J H'
theorem PI.imp {X : Cx} {tg e : Expr} {t t' : TI} (h : PI X tg e t) (k : ∀ σ H R, t' σ H R → t σ H R) : PI X tg e t' := ⟨fun pins s σ H R I q => h.run pins s σ H R I (k σ H R q)⟩
theorem Reps.mvGet {T : Tb} {H H' : Hp} {F F' : Addr → Prop} {μ μ' : List Addr} : ∀ {ds : List D} {xs : List V} {i : Nat} {d : D}, Reps T H F μ ds xs → ds[i]? = some d → Mv H H' F F' μ μ' → ∃ x, xs[i]? = some x ∧ Rep T H' F' μ' d x
  | [], _, _, _, _, e, _ => by simp at e
  | d :: ds, _, i, d', h, e, m => by
    obtain ⟨x, r, rfl, h1, h2⟩ := h
    cases i with
    | zero => simp at e; subst e; exact ⟨x, rfl, Rep.mv m _ _ h1⟩
    | succ i => exact Reps.mvGet (i := i) h2 (by simpa using e) m

section
variable {X : Cx} {T : Tb} {tg e : Expr} {fr pk : Bool} {ev : Env → M D}
theorem jw_list {G : Addr → Prop} {μ : List Addr} {H : Hp} {a : Addr} {xs : List V} {ds : List D} (K : PySem.W.Frag) (h1 : H a = some (.lst xs)) (h2 : Reps T H (FF G μ) μ ds xs) (hp : (pk = true → a ∉ μ) ∧ (pk = false → ¬ FF G μ a)) : JW T pk G μ H (Itl K a) ds := by
  refine ⟨fun H2 => H2 a = some (.lst xs), h1, fun H2 k => k a _ h1 ?_, fun i d H2 hs hd => ?_, fun H2 hs => ⟨xs, SqL.of hs, by rw [h2.length]; exact Nat.le_refl _⟩⟩
  · cases pk
    · simpa using hp.2 rfl
    · simpa using hp.1 rfl
  · obtain ⟨x, hx, _⟩ := h2.get hd
    refine ⟨⟨xs, x, SqL.of hs, hx⟩, fun y H3 ⟨e3, hy⟩ => ?_⟩
    subst e3
    have ey := hy xs (SqL.of hs)
    rw [hx] at ey
    obtain rfl := Option.some.inj ey
    refine ⟨fun _ _ z => z, fun F2 μ2 m => ?_⟩
    obtain ⟨x', hx', r⟩ := Reps.mvGet h2 hd m
    rw [hx] at hx'
    obtain rfl := Option.some.inj hx'
    exact r
theorem jw_tup {G : Addr → Prop} {μ : List Addr} {H : Hp} {a : Addr} {xs : List V} {ds : List D} (h1 : TupAt T H (FF G μ) a xs) (h2 : Reps T H (FF G μ) μ ds xs) : JW T pk G μ H (Itt T.K a) ds := by
  refine ⟨fun H2 => SqT T.K H2 a xs, h1.sq, fun H2 k => ?_, fun i d H2 hs hd => ?_, fun H2 hs => ⟨xs, hs, by rw [h2.length]; exact Nat.le_refl _⟩⟩
  · rcases h1 with ⟨q, n⟩ | q
    · refine .inl (.inl (k a _ q fun z => n ?_))
      cases pk
      · simpa using z
      · exact .inl (by simpa using z)
    · exact .inr q
  · obtain ⟨x, hx, _⟩ := h2.get hd
    refine ⟨⟨xs, x, hs, hx⟩, fun y H3 ⟨e3, hy⟩ => ?_⟩
    subst e3
    have ey := hy xs hs
    rw [hx] at ey
    obtain rfl := Option.some.inj ey
    refine ⟨fun _ _ z => z, fun F2 μ2 m => ?_⟩
    obtain ⟨x', hx', r⟩ := Reps.mvGet h2 hd m
    rw [hx] at hx'
    obtain rfl := Option.some.inj hx'
    exact r
/-- for x in e, e a list or a tuple -/
theorem si_src (h : XT T X) (he : PE X e (rdE T fr pk ev)) : PI X tg e (rdI T pk fun env => bnd (ev env) fun x => opt (itemsD x)) := by
  refine ⟨fun pins s σ H R I ⟨G, μ, env, st, ds, st', g, e1, q⟩ => ?_⟩
  obtain ⟨x, st1, k1, k2⟩ := bnd_inv e1
  obtain ⟨k3, rfl⟩ := opt_inv k2
  cases x <;> simp only [itemsD, Option.some.injEq, reduceCtorEq] at k3
  · subst k3
    refine (pi_tup he).run pins s σ H R I ⟨G, μ, env, st, _, _, g, k1, fun v H1 μ1 p1 r1 => ?_⟩
    obtain ⟨a, xs, rfl, h1, h2⟩ := (show Rep T H1 (FF G μ1) μ1 _ v from r1.pkr)
    rw [h.K]
    exact ⟨a, rfl, ⟨xs, h1.sq⟩, q _ H1 μ1 p1 (jw_tup h1 h2)⟩
  · subst k3
    refine (pi_list he).run pins s σ H R I ⟨G, μ, env, st, _, _, g, k1, fun v H1 μ1 p1 r1 => ?_⟩
    have hr := r1.rep
    obtain ⟨a, rfl, n, xs, h1, h2⟩ := r1.pkr
    refine ⟨a, rfl, ⟨xs, SqL.of h1⟩, q _ H1 μ1 p1 (jw_list X.K h1 h2 ⟨fun _ => n, fun z => ?_⟩)⟩
    obtain ⟨a', xs', e', _, h4, _⟩ := hr z
    cases e'
    exact h4
theorem jw_range {G : Addr → Prop} {μ : List Addr} {H : Hp} (lo : Int) (n : Nat) : JW T pk G μ H (Itr lo n) ((List.range n).map fun (k : Nat) => D.int (lo + k)) := by
  refine ⟨fun _ => True, trivial, fun _ _ => trivial, fun i d H2 _ hd => ?_, fun H2 _ => by simp [Itr]⟩
  rw [List.getElem?_map] at hd
  obtain ⟨k, hk, rfl⟩ := Option.map_eq_some_iff.mp hd
  obtain ⟨hl, rfl⟩ := List.getElem?_eq_some_iff.mp hk
  simp at hl
  refine ⟨hl, fun x H3 ⟨e3, hx⟩ => ?_⟩
  subst e3 hx
  refine ⟨fun _ _ z => z, fun _ _ _ => ?_⟩
  simp only [Rep, List.getElem_range]
theorem si_range1 {a : Expr} {p pos : Pos} (hg : Gl X "range") (hm : X.mg "range" = none) (he : PE X a (rdE T fr pk ev)) (hs : starEach [a] X.env = [(false, eval a X.env)]) :
    PI X tg (.Call (.Name "range" p) [a] [] pos) (rdI T pk fun env => bnd (ev env) fun x => match x with
      | .int j => if gRng j then ret (rangeD 0 j) else fail
      | _ => fail) := by
  refine PI.imp (pi_range1 hg hm (pa_cons he pa_nil hs) hs) fun σ H R ⟨G, μ, env, st, ds, st', g, e1, q⟩ => ?_
  obtain ⟨x, st1, k1, k2⟩ := bnd_inv e1
  cases x <;> simp only [fail_ap, reduceCtorEq] at k2
  rename_i j
  obtain ⟨hz, k3⟩ := ite_inv k2
  obtain ⟨rfl, rfl⟩ := ret_inv k3
  simp only [gRng, decide_eq_true_eq] at hz
  refine ⟨G, μ, env, st, _, _, g, k1, fun v H1 μ1 p1 r1 => ?_⟩
  obtain rfl : v = V.int j := r1.pkr
  refine ⟨j, rfl, by omega, by omega, q _ H1 μ1 p1 ?_⟩
  have : rangeD 0 j = (List.range j.toNat).map fun (k : Nat) => D.int (0 + k) := by unfold rangeD; rw [Int.sub_zero]
  rw [this]
  exact jw_range 0 _
theorem si_range2 {a b : Expr} {p pos : Pos} {fr' pk' : Bool} {ev' : Env → M D} (hg : Gl X "range") (hm : X.mg "range" = none) (he : PE X a (rdE T fr pk ev)) (he' : PE X b (rdE T fr' pk' ev'))
    (hs : starEach [a, b] X.env = [(false, eval a X.env), (false, eval b X.env)]) (hs2 : starEach [b] X.env = [(false, eval b X.env)]) :
    PI X tg (.Call (.Name "range" p) [a, b] [] pos) (rdI T pk fun env => bnd (ev env) fun x => bnd (ev' env) fun y => match x, y with
      | .int i, .int j => if gRng i && gRng j then ret (rangeD i j) else fail
      | _, _ => fail) := by
  refine PI.imp (pi_range2 hg hm (pa_cons he (pa_cons he' pa_nil hs2) (by rw [hs, hs2])) hs hs2) fun σ H R ⟨G, μ, env, st, ds, st', g, e1, q⟩ => ?_
  obtain ⟨x, st1, k1, k2⟩ := bnd_inv e1
  obtain ⟨y, st2, k3, k4⟩ := bnd_inv k2
  cases x <;> cases y <;> simp only [fail_ap, reduceCtorEq] at k4
  rename_i i j
  obtain ⟨hz, k5⟩ := ite_inv k4
  obtain ⟨rfl, rfl⟩ := ret_inv k5
  simp only [gRng, Bool.and_eq_true, decide_eq_true_eq] at hz
  refine ⟨G, μ, env, st, _, _, g, k1, fun v H1 μ1 p1 r1 => ⟨G, μ1, env, _, _, _, g.post p1, k3, fun u H2 μ2 p2 r2 => ?_⟩⟩
  obtain rfl : v = V.int i := r1.pkr
  obtain rfl : u = V.int j := r2.pkr
  exact ⟨i, j, rfl, by omega, q _ H2 μ2 (p1.trans p2) (jw_range i _)⟩
end

/-! ### targets -/
mutual
def slotsT : X → List Nat
  | .tv i => [i]
  | .tt ts => slotsTs ts
  | _ => []
def slotsTs : X → List Nat
  | .cons t ts => slotsT t ++ slotsTs ts
  | _ => []
end
/-- a target's reading: behind it the same state but for the slots -/
def rdG (T : Tb) (f : D → Env → Option Env) (sl : List Nat) : TG := fun v σ H Q => ∃ G μ env st d env', Good T G μ H σ env st ∧ Rep T H (FF G μ) μ d v ∧ f d env = some env' ∧
  ∀ σ', Good T G μ H σ' env' st → (σ'.length = σ.length ∧ ∀ i, i ∉ sl → σ'[i]? = σ[i]?) → (∀ i, i ∉ sl → env'[i]? = env[i]?) → (∀ i, i ∈ sl → (∃ d, env'[i]? = some (.v d)) ∨ env'[i]? = none) → Q σ' H
def rdGs (T : Tb) (f : List D → Env → Option Env) (sl : List Nat) : TGs := fun vs σ H Q => ∃ G μ env st ds env', Good T G μ H σ env st ∧ Reps T H (FF G μ) μ ds vs ∧ f ds env = some env' ∧
  ∀ σ', Good T G μ H σ' env' st → (σ'.length = σ.length ∧ ∀ i, i ∉ sl → σ'[i]? = σ[i]?) → (∀ i, i ∉ sl → env'[i]? = env[i]?) → (∀ i, i ∈ sl → (∃ d, env'[i]? = some (.v d)) ∨ env'[i]? = none) → Q σ' H
section
variable {X : Cx} {T : Tb} {tg e : Expr} {pos : Pos}
theorem PG.imp {t t' : TG} (h : PG X tg t) (k : ∀ v σ H Q, t' v σ H Q → t v σ H Q) : PG X tg t' := ⟨fun pins s σ H v u Q I r q => h.run pins s σ H v u Q I r (k v σ H Q q)⟩
theorem PGs.imp {ts : List Expr} {t t' : TGs} (h : PGs X ts t) (k : ∀ v σ H Q, t' v σ H Q → t v σ H Q) : PGs X ts t' := ⟨fun pins s σ H v u Q I r q => h.run pins s σ H v u Q I r (k v σ H Q q)⟩
/-- a slot takes a datum -/
theorem Good.setV {G : Addr → Prop} {μ : List Addr} {H : Hp} {σ : L2.St} {env : Env} {st : Store} {d : D} {v : V} (g : Good T G μ H σ env st) (r : Rep T H (FF G μ) μ d v) (i : Nat) : Good T G μ H (σ.set i (some v)) (env.set i (.v d)) st where
  toGoodT := g.toGoodT
  en := by
    refine ⟨by rw [List.length_set, List.length_set]; exact g.en.len, fun j s x h1 h2 => ?_⟩
    by_cases c : i = j
    · subst c
      have hl : i < env.length := by
        have := (List.getElem?_eq_some_iff.mp h1).1
        rwa [List.length_set] at this
      have hl' : i < σ.length := by rw [← g.en.len]; exact hl
      rw [List.getElem?_set_self hl] at h1
      rw [List.getElem?_set_self hl'] at h2
      cases h1
      cases h2
      exact ⟨v, rfl, r⟩
    · rw [List.getElem?_set_ne c] at h1 h2
      exact g.en.at_ j s x h1 h2
theorem sg_name {i : Nat} {x : Str} (hN : X.N.Nodup) (hi : X.N[i]? = some x) (hx : Loc X.env.scope x) (hf : X.fn x = true ∨ X.env.scope.names.lookup x = some .local) :
    PG X (.Name x pos) (rdG T (fun d env => some (env.set i (.v d))) [i]) := by
  refine PG.imp (pg_name hN hi hx hf) fun v σ H Q ⟨G, μ, env, st, d, env', g, r, e, q⟩ => ?_
  obtain rfl := Option.some.inj e
  refine q _ (g.setV r i) ⟨by rw [List.length_set], fun j hj => ?_⟩ (fun j hj => ?_) fun j hj => ?_
  · rw [List.getElem?_set_ne (fun z => hj (by simp [z]))]
  · rw [List.getElem?_set_ne (fun z => hj (by simp [z]))]
  · simp at hj
    subst hj
    by_cases c : j < env.length
    · exact .inl ⟨d, List.getElem?_set_self c⟩
    · exact .inr (by simp; omega)
theorem sg_nil : PGs X [] (rdGs T (fun ds env => match ds with | [] => some env | _ => none) []) := by
  refine PGs.imp pgs_nil fun v σ H Q ⟨G, μ, env, st, ds, env', g, r, e, q⟩ => ?_
  cases ds with
  | cons _ _ => cases e
  | nil =>
    obtain rfl := Option.some.inj e
    obtain rfl : v = [] := r
    exact ⟨rfl, q σ g ⟨rfl, fun _ _ => rfl⟩ (fun _ _ => rfl) fun i hi => nomatch hi⟩
theorem sg_cons {es : List Expr} {f : D → Env → Option Env} {fs : List D → Env → Option Env} {sl sls : List Nat} (h1 : PG X e (rdG T f sl)) (h2 : PGs X es (rdGs T fs sls))
    (hs : (assignEach (e :: es) X.env).map (·.2) = assign e X.env :: (assignEach es X.env).map (·.2)) : PGs X (e :: es) (rdGs T (fun ds env => match ds with | d :: ds => (f d env).bind (fs ds) | [] => none) (sl ++ sls)) := by
  refine PGs.imp (pgs_cons h1 h2 hs) fun vs σ H Q ⟨G, μ, env, st, ds, env', g, r, e, q⟩ => ?_
  cases ds with
  | nil => cases e
  | cons d ds =>
    obtain ⟨v, vr, rfl, r1, r2⟩ := r
    obtain ⟨env1, e1, e2⟩ := Option.bind_eq_some_iff.mp e
    refine ⟨v, vr, rfl, G, μ, env, st, d, env1, g, r1, e1, fun σ1 g1 s1 v1 o1 => ⟨G, μ, env1, st, ds, env', g1, r2, e2, fun σ2 g2 s2 v2 o2 => ?_⟩⟩
    refine q σ2 g2 ⟨s2.1.trans s1.1, fun i hi => ?_⟩ (fun i hi => ?_) fun i hi => ?_
    · simp at hi
      rw [s2.2 i hi.2, s1.2 i hi.1]
    · simp at hi
      rw [v2 i hi.2, v1 i hi.1]
    · by_cases c : i ∈ sls
      · exact o2 i c
      · rcases List.mem_append.mp hi with z | z
        · rw [v2 i c]; exact o1 i z
        · exact absurd z c
theorem sg_tup {es : List Expr} {k : Nat} {fs : List D → Env → Option Env} {sls : List Nat} (h : XT T X) (h1 : PGs X es (rdGs T fs sls)) (n : Nat) (hn : (assignEach es X.env).length = n) (hst : (assignEach es X.env).findIdx? (·.1) = none)
    (hl : ∀ ds env env', fs ds env = some env' → ds.length = n) : PG X (.Tuple es k pos) (rdG T (fun d env => match d with | .tup ds | .lst ds => fs ds env | _ => none) sls) := by
  refine ⟨fun pins s σ H v u Q I r ⟨G, μ, env, st, d, env', g, rp, e, q⟩ => ?_⟩
  cases d <;> simp only [reduceCtorEq] at e
  · rename_i ds
    obtain ⟨a, xs, rfl, t1, t2⟩ := rp
    exact (pg_tup h.c h1 hn hst).run pins s σ H _ u Q I r ⟨a, xs, rfl, h.K ▸ t1.sq, by rw [t2.length]; exact hl _ _ _ e, G, μ, env, st, ds, env', g, t2, e, q⟩
  · rename_i ds
    obtain ⟨a, xs, rfl, t1, _, t2⟩ := rp
    exact (pg_lst h.c h1 hn hst).run pins s σ H _ u Q I r ⟨a, xs, rfl, .inl (.inl t1), by rw [t2.length]; exact hl _ _ _ e, G, μ, env, st, ds, env', g, t2, e, q⟩
end
end PD
end ZPDIter
section ZPDComp
set_option Elab.async false
set_option linter.all false
set_option maxRecDepth 100000
set_option maxHeartbeats 1000000
namespace PD
open PySem PySem.Spec L2 PyProof.Rows

theorem wipe_get (σ : L2.St) : ∀ (vs : List Nat) (i : Nat), (L2.wipe σ vs)[i]? = if i ∈ vs then (if i < σ.length then some none else none) else σ[i]?
  | [], i => by simp [L2.wipe]
  | v :: vs, i => by
    unfold L2.wipe
    have ih := wipe_get σ vs i
    have hl := wipe_length σ vs
    by_cases c : v = i
    · subst c
      rw [List.getElem?_set]
      simp only [if_true, hl, List.mem_cons, true_or]
    · rw [List.getElem?_set_ne c, ih]
      simp [List.mem_cons, fun z : i = v => c z.symm, eq_comm (a := i)]
      have : ¬ v = i := c
      simp [this]
theorem wipeE_len (env : Env) : ∀ vs : List Nat, (PD.wipe env vs).length = env.length
  | [] => rfl
  | v :: vs => by unfold PD.wipe; rw [List.length_set, wipeE_len env vs]
theorem wipeE_get (env : Env) : ∀ (vs : List Nat) (i : Nat) (s : Sl), (PD.wipe env vs)[i]? = some s → (i ∈ vs ∧ s = .no) ∨ (i ∉ vs ∧ env[i]? = some s)
  | [], i, s, h => .inr ⟨by simp, h⟩
  | v :: vs, i, s, h => by
    unfold PD.wipe at h
    by_cases c : v = i
    · subst c
      have hl : v < (PD.wipe env vs).length := by
        have := (List.getElem?_eq_some_iff.mp h).1
        rwa [List.length_set] at this
      rw [List.getElem?_set_self hl] at h
      cases h
      exact .inl ⟨by simp, rfl⟩
    · rw [List.getElem?_set_ne c] at h
      rcases wipeE_get env vs i s h with ⟨h1, h2⟩ | ⟨h1, h2⟩
      · exact .inl ⟨List.mem_cons_of_mem _ h1, h2⟩
      · exact .inr ⟨by simp [h1]; exact fun z => c z.symm, h2⟩
theorem wipe_eq {σ σ' : L2.St} {vs : List Nat} (hl : σ'.length = σ.length) (h : ∀ i, i ∉ vs → σ'[i]? = σ[i]?) : L2.wipe σ' vs = L2.wipe σ vs := by
  refine List.ext_getElem? fun i => ?_
  rw [wipe_get, wipe_get, hl]
  by_cases c : i ∈ vs
  · rw [if_pos c, if_pos c]
  · rw [if_neg c, if_neg c, h i c]
theorem Good.wiped {T : Tb} {G : Addr → Prop} {μ : List Addr} {H : Hp} {σ : L2.St} {env : Env} {st : Store} (g : Good T G μ H σ env st) (vs : List Nat) : Good T G μ H (L2.wipe σ vs) (PD.wipe env vs) st where
  toGoodT := g.toGoodT
  en := by
    refine ⟨by rw [wipe_length, wipeE_len]; exact g.en.len, fun i s x h1 h2 => ?_⟩
    rw [wipe_get] at h2
    rcases wipeE_get env vs i s h1 with ⟨c, rfl⟩ | ⟨c, h3⟩
    · trivial
    · rw [if_neg c] at h2
      exact g.en.at_ i s x h3 h2
/-- one address more that may not be touched -/
theorem Good.guard {T : Tb} {G : Addr → Prop} {μ : List Addr} {H : Hp} {σ : L2.St} {env : Env} {st : Store} (g : Good T G μ H σ env st) {p : Addr} (o : HO) (hp : H p = none) : Good T (fun a => G a ∨ a = p) μ (upd H p o) σ env st := by
  have m : Mv H (upd H p o) (FF G μ) (FF (fun a => G a ∨ a = p) μ) μ μ := ⟨fun a u e _ => upd_more hp a u e, fun a z => by
    rcases z with z | z | z
    · exact .inl (.inl z)
    · exact .inl (.inr z)
    · subst z; exact .inr hp, List.prefix_refl _⟩
  have np : p ∉ μ := fun z => (g.fresh hp) (.inl z)
  refine ⟨⟨fun a z => ?_, fun a ha z => ?_, ⟨g.sto.len, g.sto.nd, fun i u a h1 h2 => (g.sto.ob i u a h1 h2).mv m (fun q e => upd_more hp _ _ e) (fun _ z => .inl z) fun b q e _ => upd_more hp _ _ e⟩⟩, ⟨g.en.len, fun i s x h1 h2 => ?_⟩⟩
  · rcases z with z | z
    · have := g.dom a z
      cases e : H a with
      | none => exact absurd e this
      | some u => rw [upd_more hp a u e]; simp
    · subst z; rw [upd_same]; simp
  · rcases z with z | z
    · exact g.dis a ha z
    · subst z; exact np ha
  · have h := g.en.at_ i s x h1 h2
    cases s with
    | no => trivial
    | v d => obtain ⟨v, e, r⟩ := h; exact ⟨v, e, Rep.mv m d v r⟩
    | ol ds =>
      obtain ⟨a, e, f, n, r⟩ := h
      refine ⟨a, e, ?_, n, r.mv m fun u q => upd_more hp _ _ q⟩
      rcases f with f | f
      · exact .inl f
      · exact .inr (.inl f)
    | od ds =>
      obtain ⟨a, e, f, n, r⟩ := h
      refine ⟨a, e, ?_, n, r.mv m fun u q => upd_more hp _ _ q⟩
      rcases f with f | f
      · exact .inl f
      · exact .inr (.inl f)

theorem SlR.mv2 {T : Tb} {H H' : Hp} {F F' : Addr → Prop} {μ μ' : List Addr} (m : Mv H H' F F' μ μ') (k : ∀ a o, H a = some o → a ∉ μ → H' a = some o) (nn : ∀ a, F a → H a ≠ none → a ∉ μ → F' a ∧ a ∉ μ') {s : Sl} {x : Option V} (h : SlR T F μ H s x) : SlR T F' μ' H' s x := by
  cases s with
  | no => trivial
  | v d => obtain ⟨v, e, h⟩ := h; exact ⟨v, e, Rep.mv m d v h⟩
  | ol ds =>
    obtain ⟨a, e, f, n, h⟩ := h
    exact ⟨a, e, (nn a f h.some n).1, (nn a f h.some n).2, h.mv m fun o q => k a o q n⟩
  | od ds =>
    obtain ⟨a, e, f, n, h⟩ := h
    exact ⟨a, e, (nn a f h.some n).1, (nn a f h.some n).2, h.mv m fun o q => k a o q n⟩
/-- fewer that may not be touched -/
theorem Post.weak {T : Tb} {G G' : Addr → Prop} {μ μ' : List Addr} {H H' : Hp} {st' : Store} (p : Post T G' μ H μ' H' st') (hg : ∀ a, G a → G' a) : Post T G μ H μ' H' st' where
  mu := p.mu
  new := p.new
  keep := p.keep
  sto := ⟨p.sto.len, p.sto.nd, fun i o a h1 h2 => (p.sto.ob i o a h1 h2).mv ⟨fun _ _ e _ => e, fun a z => by
    rcases z with z | z
    · exact .inl (.inl z)
    · exact .inl (.inr (hg a z)), List.prefix_refl _⟩ (fun _ e => e) (fun _ z => .inl z) fun _ _ e _ => e⟩
/-- the frame's own D beside: from H1, where it stood not -/
theorem Good.lift {T : Tb} {G : Addr → Prop} {D : Addr} {μ μ' : List Addr} {H H' : Hp} {σ : L2.St} {env : Env} {st st' : Store} (g : Good T G μ H σ env st) (p : Post T (fun a => G a ∨ a = D) μ H μ' H' st') (h0 : H D = none) (hd : D ∉ μ') (hs : H' D ≠ none) : Good T (fun a => G a ∨ a = D) μ' H' σ env st' where
  dom := fun a z => by
    rcases z with z | rfl
    · have h := g.dom a z
      cases e : H a with
      | none => exact absurd e h
      | some o => rw [p.keep a o e fun y => g.dis a y z]; simp
    · exact hs
  dis := fun a ha z => by
    rcases z with z | rfl
    · rcases p.new a ha with y | y
      · exact g.dis a y z
      · exact g.dom a z y
    · exact hd ha
  sto := p.sto
  en := ⟨g.en.len, fun i s x h1 h2 => (g.en.at_ i s x h1 h2).mv2 ⟨fun a o e n => p.keep a o e fun z => n (.inl z), fun a z => by
    rcases z with z | z | rfl
    · rcases p.new a z with z | z
      · exact .inl (.inl z)
      · exact .inr z
    · exact .inl (.inr z)
    · exact .inr h0, p.mu⟩ p.keep fun a f hn na => by
      rcases f with f | f
      · exact absurd f na
      · refine ⟨.inr (.inl f), fun z => ?_⟩
        rcases p.new a z with z | z
        · exact na z
        · exact hn z⟩
section
variable {X : Cx} {T : Tb} {tg iter elt : Expr} {ifs : List Expr} {scope : Scope} {own : List (Str × Nat)} {pos : Pos} {pk fe : Bool} {evi : Env → M (List D)} {ft : D → Env → Option Env} {slt : List Nat} {evt : Env → M Bool} {eve : Env → M D}
def lcStep (own : List Nat) (ft : D → Env → Option Env) (evt : Env → M Bool) (eve : Env → M D) (env : Env) (d : D) : M (Option D) := match ft d (PD.wipe env own) with
  | some e => bnd (evt e) fun c => if c then bnd (eve e) fun y => ret (some y) else ret none
  | none => fail
abbrev evLc (own : List Nat) (evi : Env → M (List D)) (ft : D → Env → Option Env) (evt : Env → M Bool) (eve : Env → M D) : Env → M D := fun env => bnd (evi env) fun ds => if ds.length ≤ LIM then bnd (mapL (lcStep own ft evt eve env) ds) fun rs => ret (.lst rs) else fail
theorem lcR (hsl : ∀ i ∈ slt, i ∈ own.map (·.2)) {σ : L2.St} {H : Hp} {Q : VK} (hh : rdE T true false (evLc (own.map (·.2)) evi ft evt eve) σ H Q) :
    tLc (rdI T pk evi) (rdG T ft slt) (rdT T evt) (rdE T fe false eve) (own.map (·.2)) σ H Q := by
  obtain ⟨G, μ, env, st, d, st', g, e, q⟩ := hh
  obtain ⟨ds, st1, e1, k1⟩ := bnd_inv e
  obtain ⟨hz, k2⟩ := ite_inv k1
  obtain ⟨rs, st2, e2, k3⟩ := bnd_inv k2
  obtain ⟨rfl, rfl⟩ := ret_inv k3
  clear e k1 k2 k3
  refine ⟨G, μ, env, st, ds, st1, g, e1, fun J H1 μ1 p1 jw D hD => ?_⟩
  have g1 := g.post p1
  have nD1 : D ∉ μ1 := fun z => (g1.fresh hD) (.inl z)
  have gD := g1.guard (.lst []) hD
  obtain ⟨stay, js, jk, jy, je⟩ := jw.stay
  -- the state behind i items
  let G' : Addr → Prop := fun a => G a ∨ a = D
  refine ⟨fun i m H2 => m = ds.length - i ∧ i ≤ ds.length ∧ ∃ μ2 sti acc xs rest, Post T G' μ1 H1 μ2 H2 sti ∧ D ∉ μ2 ∧ H2 D = some (.lst xs) ∧ Reps T H2 (FF G' μ2) μ2 acc xs ∧ xs.length ≤ i ∧
      mapL (lcStep (own.map (·.2)) ft evt eve env) (ds.drop i) sti = .ok rest st2 ∧ acc ++ rest = rs, ⟨ds.length, by simp, Nat.zero_le _, μ1, st1, [], [], rs, ⟨List.prefix_refl _, fun _ z => .inl z, fun a o ea _ => upd_more hD a o ea, gD.sto⟩, nD1, upd_same, by simp only [Reps], Nat.le_refl _, by simpa using e2, rfl⟩, ?_⟩
  rintro i m H2 ⟨rfl, hil, μ2, sti, acc, xs, rest, p2, nD2, hxs, racc, hxl, emap, hacc⟩
  have g2 := g1.lift p2 hD nD2 (by rw [hxs]; simp)
  have hst : stay H2 := jk H2 fun a o ea na => p2.keep a o ea fun z => na (by
    split
    · exact z
    · exact .inl z)
  have mv12 : Mv H1 H2 (FF G μ1) (FF G' μ2) μ1 μ2 := ⟨fun a o ea na => p2.keep a o ea fun z => na (.inl z), fun a z => by
    rcases z with z | z | z
    · rcases p2.new a z with z | z
      · exact .inl (.inl z)
      · exact .inr z
    · exact .inl (.inr z)
    · subst z; exact .inr hD, p2.mu⟩
  by_cases hlt : i < ds.length
  · have hd : ds[i]? = some ds[i] := by simp [hlt]
    obtain ⟨go, yl⟩ := jy i _ H2 hst hd
    refine .inr ⟨go, fun H' => i + 1 ≤ ds.length ∧ ∃ μ2 sti acc xs rest, Post T G' μ1 H1 μ2 H' sti ∧ D ∉ μ2 ∧ H' D = some (.lst xs) ∧ Reps T H' (FF G' μ2) μ2 acc xs ∧ xs.length ≤ i + 1 ∧
      mapL (lcStep (own.map (·.2)) ft evt eve env) (ds.drop (i + 1)) sti = .ok rest st2 ∧ acc ++ rest = rs, fun H' z => ⟨ds.length - (i + 1), by omega, rfl, z⟩, fun x H3 y3 => ?_⟩
    obtain ⟨mono3, r3⟩ := yl x H3 y3
    have p3 : Post T G' μ2 H2 μ2 H3 sti := Post.more g2.toGoodT mono3
    have g3 := (g2.post p3).wiped (own.map (·.2))
    have rx := r3 _ _ mv12
    rw [List.drop_eq_getElem_cons hlt] at emap
    obtain ⟨r0, st3, m1, m2⟩ := bnd_inv emap
    obtain ⟨rs', st4, m3, m4⟩ := bnd_inv m2
    obtain ⟨hr, rfl⟩ := ret_inv m4
    clear emap m2 m4
    unfold lcStep at m1
    cases hft : ft ds[i] (PD.wipe env (own.map (·.2))) with
    | none => rw [hft] at m1; cases m1
    | some env' =>
      simp only [hft] at m1
      obtain ⟨c, st5, t1, t2⟩ := bnd_inv m1
      refine ⟨G', μ2, _, sti, ds[i], env', g3, rx, hft, fun σ' g4 hσ henv hown => ⟨?_, ?_⟩⟩
      · have e1 : L2.wipe σ' (own.map (·.2)) = L2.wipe (L2.wipe σ (own.map (·.2))) (own.map (·.2)) := wipe_eq hσ.1 fun j hj => hσ.2 j fun z => hj (hsl j z)
        rw [e1]
        refine List.ext_getElem? fun j => ?_
        rw [wipe_get, wipe_get, wipe_length]
        by_cases c : j ∈ own.map (·.2)
        · rw [if_pos c, if_pos c]
        · rw [if_neg c, if_neg c]
      · refine ⟨G', μ2, env', sti, c, st5, g4, t1, fun H4 μ4 p4 => ?_⟩
        have p34 := p3.trans p4
        have g5 := g4.post p4
        have kx : H4 D = some (.lst xs) := p34.keep D _ hxs nD2
        have racc4 : Reps T H4 (FF G' μ4) μ4 acc xs := Reps.mv p34.mv acc xs racc
        have nD4 : D ∉ μ4 := fun z => g5.dis D z (.inr rfl)
        cases c with
        | false =>
          simp only [Bool.false_eq_true, if_false] at t2 ⊢
          obtain ⟨e5, rfl⟩ := ret_inv t2
          subst e5
          exact ⟨hlt, μ4, _, acc, xs, rs', p2.trans p34, nD4, kx, racc4, by omega, m3, by rw [← hacc, ← hr]⟩
        | true =>
          simp only [if_true] at t2 ⊢
          obtain ⟨y, st6, t3, t4⟩ := bnd_inv t2
          obtain ⟨e5, rfl⟩ := ret_inv t4
          subst e5
          refine ⟨G', μ4, env', st5, y, _, g5, t3, fun v H5 μ5 p5 r5 => ?_⟩
          have p35 := p34.trans p5
          have g6 := g5.post p5
          have kx5 : H5 D = some (.lst xs) := p5.keep D _ kx nD4
          refine ⟨xs, kx5, by have := lim_line hz; omega, ?_⟩
          have nD : D ∉ μ5 := fun z => g6.dis D z (.inr rfl)
          have mU : Mv H5 (upd H5 D (.lst (xs ++ [v]))) (FF G' μ5) (FF G' μ5) μ5 μ5 := mvUpd (.inr (.inr rfl))
          have p25 := p2.trans p35
          have p6 : Post T G' μ1 H1 μ5 (upd H5 D (.lst (xs ++ [v]))) st6 := by
            refine ⟨p25.mu, p25.new, fun a o ea na => ?_, g6.sto.len, g6.sto.nd, fun j w b h1 h2 => ?_⟩
            · rw [upd_ne (ne_of_none ea hD)]
              exact p25.keep a o ea na
            · have hb : b ≠ D := fun z => nD (z ▸ List.mem_of_getElem? h2)
              refine (g6.sto.ob j w b h1 h2).mv mU (fun q e => by rw [upd_ne hb]; exact e) (fun _ z => .inl z) fun c q e nc => ?_
              by_cases hc : c = D
              · rw [hc, kx5] at e; exact absurd (Option.some.inj e) (fun z => HO.noConfusion z)
              · rw [upd_ne hc]; exact e
          exact ⟨hlt, μ5, st6, acc ++ [y], xs ++ [v], rs', p6, nD, upd_same, (Reps.mv mU acc xs (Reps.mv p5.mv acc xs racc4)).append ⟨v, [], rfl, Rep.mv mU y v (r5.rep rfl), by simp only [Reps]⟩, by simp; omega, m3, by rw [← hacc, ← hr]; simp⟩
  · have hi' : i = ds.length := by omega
    subst hi'
    rw [List.drop_length] at emap
    obtain ⟨rfl, rfl⟩ := ret_inv emap
    rw [List.append_nil] at hacc
    subst hacc
    refine .inl ⟨je H2 hst, ?_⟩
    have p2' : Post T G μ1 H1 μ2 H2 sti := p2.weak fun a z => .inl z
    have nG : ¬ G D := fun z => g1.dom D z hD
    refine q (.ref D) H2 μ2 (p1.trans p2') (.of ⟨D, xs, rfl, hxs, fun z => ?_, Reps.mv ⟨fun _ _ e _ => e, fun a z => ?_, List.prefix_refl _⟩ acc xs racc⟩ fun _ es e => by
      cases e
      exact ⟨D, xs, rfl, Post.back g.toGoodT p1 hD, hxs, racc, p2.sto⟩)
    · rcases z with z | z
      · exact nD2 z
      · exact nG z
    · rcases z with z | z
      · exact .inl (.inl z)
      · exact .inl (.inr (.inl z))
theorem se_lc (h : XT T X) (hN : X.N.Nodup) (hi : PI X tg iter (rdI T pk evi)) (ok : BlkOk X.N X.env.scope scope own) (hsl : ∀ i ∈ slt, i ∈ own.map (·.2))
    (hg : ∀ (s : Shared) (H : Hp) (C : Addr) (cl : List (Str × Addr)) (fp : List Addr), PG (X.blk s H scope (compEnvC scope cl C X.env) fp) tg (rdG T ft slt))
    (ht : ∀ (s : Shared) (H : Hp) (C : Addr) (cl : List (Str × Addr)) (fp : List Addr), PTs (X.blk s H scope (compEnvC scope cl C X.env) fp) ifs (rdT T evt))
    (he : ∀ (s : Shared) (H : Hp) (C : Addr) (cl : List (Str × Addr)) (fp : List Addr), PE (X.blk s H scope (compEnvC scope cl C X.env) fp) elt (rdE T fe false eve)) (hs : ∀ x, foldedSetIterable iter X.env x = pure x) :
    PE X (.ListComp elt [⟨tg, iter, ifs, 0⟩] scope pos) (rdE T true false fun env => bnd (evi env) fun ds => if ds.length ≤ LIM then bnd (mapL (lcStep (own.map (·.2)) ft evt eve env) ds) fun rs => ret (.lst rs) else fail) := by
  exact PE.imp (pe_lc h.c hN hi ok hg ht he hs) fun σ H Q z => lcR hsl z
end
end PD
end ZPDComp
section ZPDTest
set_option Elab.async false
set_option linter.all false
set_option maxRecDepth 100000
set_option maxHeartbeats 1000000
namespace PD
open PySem PySem.Spec L2 PyProof.Rows

section
variable {X : Cx} {T : Tb} {P : Prog} {cf : Calls} {pos : Pos} {a b c : Expr} {xa xb xc : PD.X} {fa pa fb pb fc pc : Bool} {rest : List Expr}
abbrev PX (X : Cx) (T : Tb) (P : Prog) (cf : Calls) (e : Expr) (x : PD.X) (fr pk : Bool) : Prop := PE X e (rdE T fr pk (evE P cf x))
abbrev PXA (X : Cx) (T : Tb) (P : Prog) (cf : Calls) (e : List Expr) (x : PD.X) : Prop := PA X e (rdA T (evA P cf x))
abbrev PXV (X : Cx) (T : Tb) (P : Prog) (cf : Calls) (e : List Expr) (x : PD.X) : Prop := PA X e (rdV T (evV P cf x))
abbrev PXT (X : Cx) (T : Tb) (P : Prog) (cf : Calls) (e : Expr) (x : PD.X) : Prop := PT X e (rdT T fun env => bnd (evE P cf x env) blD)
abbrev PXW (X : Cx) (T : Tb) (P : Prog) (cf : Calls) (e : Expr) (x : PD.X) : Prop := PW X e (rdT T fun env => bnd (evE P cf x env) blD)
abbrev PXI (X : Cx) (T : Tb) (P : Prog) (cf : Calls) (tg e : Expr) (x : PD.X) (pk : Bool) : Prop := PI X tg e (rdI T pk (evIt P cf x))

theorem blD_inv {d : D} {st st2 : Store} {c : Bool} (h : blD d st = .ok c st2) : d = .bl c ∧ st = st2 := by
  cases d <;> simp only [blD, fail_ap, reduceCtorEq] at h
  obtain ⟨rfl, rfl⟩ := ret_inv h
  exact ⟨rfl, rfl⟩
theorem rs_bl {v : V} {fr pk : Bool} {G : Addr → Prop} {H H' : Hp} {μ' : List Addr} {st' : Store} {c : Bool} (r : RS T fr pk G H μ' H' st' (.bl c) v) : v = .bl c := r.pkr
/-- a value that is a bool -/
theorem bl_of {G : Addr → Prop} {μ : List Addr} {H : Hp} {σ : L2.St} {env : Env} {st st' : Store} {ev : Env → M D} {fr pk : Bool} {Q : VK} {d : Bool} (g : Good T G μ H σ env st) (e : bnd (ev env) blD st = .ok d st')
    (q : ∀ H' μ', Post T G μ H μ' H' st' → Q (.bl d) H') : rdE T fr pk ev σ H Q := by
  obtain ⟨x, st1, e1, e2⟩ := bnd_inv e
  obtain ⟨rfl, rfl⟩ := blD_inv e2
  exact ⟨G, μ, env, st, _, _, g, e1, fun v H1 μ1 p1 r1 => by rw [rs_bl r1]; exact q H1 μ1 p1⟩
theorem xt_val (h : PX X T P cf a xa fa pa) (he : ∀ whole, isTrue a X.env whole = (do let v ← whole; standAt a.pos; holding [v] (truthy v))) : PXT X T P cf a xa :=
  PT.imp (pt_val h he) fun σ H Q ⟨G, μ, env, st, d, st', g, e, q⟩ => bl_of g e fun H1 μ1 p1 => ⟨d, rfl, q H1 μ1 p1⟩
theorem xe_not (h : PX X T P cf a xa fa pa) : PX X T P cf (.UnaryOp .Not a pos) (.not_ xa) false false := by
  refine PE.imp (pe_not h) fun σ H Q ⟨G, μ, env, st, d, st', g, e, q⟩ => ?_
  obtain ⟨c, st1, e1, e2⟩ := bnd_inv (show bnd (bnd (evE P cf xa env) blD) (fun b => ret (.bl (!b))) st = .ok d st' from e)
  obtain ⟨rfl, rfl⟩ := ret_inv e2
  exact bl_of g e1 fun H1 μ1 p1 => ⟨c, rfl, q _ H1 μ1 p1 (.of0 rfl)⟩
theorem xt_not (h : PXT X T P cf a xa) : PXT X T P cf (.UnaryOp .Not a pos) (.not_ xa) := by
  refine PT.imp (pt_not h) fun σ H Q ⟨G, μ, env, st, d, st', g, e, q⟩ => ?_
  obtain ⟨x, st1, e1, e2⟩ := bnd_inv (show bnd (bnd (bnd (evE P cf xa env) blD) (fun b => ret (.bl (!b)))) blD st = .ok d st' from e)
  obtain ⟨c, st2, e3, e4⟩ := bnd_inv e1
  obtain ⟨rfl, rfl⟩ := ret_inv e4
  obtain ⟨h5, rfl⟩ := blD_inv e2
  cases h5
  exact ⟨G, μ, env, st, c, _, g, e3, fun H1 μ1 p1 => q H1 μ1 p1⟩
theorem xe_one {op} (h : PX X T P cf a xa fa pa) : PX X T P cf (.BoolOp op [a] pos) xa fa pa := pe_one h
/-- the last of an and, of an or -/
theorem xe_andL (h : PX X T P cf a xa fa pa) : PE X (.BoolOp .And [a] pos) (rdE T fa pa (evAnd P cf (.cons xa .nil))) := pe_one h
theorem xe_orL (h : PX X T P cf a xa fa pa) : PE X (.BoolOp .Or [a] pos) (rdE T fa pa (evOr P cf (.cons xa .nil))) := pe_one h
theorem xe_andC {y z : PD.X} (h : PX X T P cf a xa fa pa) (hb : PE X (.BoolOp .And (b :: rest) pos) (rdE T fb pb (evAnd P cf (.cons y z)))) : PE X (.BoolOp .And (a :: b :: rest) pos) (rdE T false pb (evAnd P cf (.cons xa (.cons y z)))) := by
  refine PE.imp (pe_and h hb) fun σ H Q ⟨G, μ, env, st, d, st', g, e, q⟩ => ?_
  obtain ⟨c, st1, e1, e2⟩ := bnd_inv (show bnd (bnd (evE P cf xa env) blD) (fun c => if c then evAnd P cf (.cons y z) env else ret (.bl false)) st = .ok d st' from e)
  refine bl_of g e1 fun H1 μ1 p1 => ⟨c, rfl, ?_⟩
  cases c with
  | true =>
    exact ⟨G, μ1, env, st1, d, st', g.post p1, e2, fun v H2 μ2 p2 r2 => q v H2 μ2 (p1.trans p2) ⟨r2.rep, r2.pkr, fun z => nomatch z⟩⟩
  | false =>
    obtain ⟨rfl, rfl⟩ := ret_inv e2
    exact q _ H1 μ1 p1 (.of0 rfl)
theorem xe_orC {y z : PD.X} (h : PX X T P cf a xa fa pa) (hb : PE X (.BoolOp .Or (b :: rest) pos) (rdE T fb pb (evOr P cf (.cons y z)))) : PE X (.BoolOp .Or (a :: b :: rest) pos) (rdE T false pb (evOr P cf (.cons xa (.cons y z)))) := by
  refine PE.imp (pe_or h hb) fun σ H Q ⟨G, μ, env, st, d, st', g, e, q⟩ => ?_
  obtain ⟨c, st1, e1, e2⟩ := bnd_inv (show bnd (bnd (evE P cf xa env) blD) (fun c => if c then ret (.bl true) else evOr P cf (.cons y z) env) st = .ok d st' from e)
  refine bl_of g e1 fun H1 μ1 p1 => ⟨c, rfl, ?_⟩
  cases c with
  | false =>
    exact ⟨G, μ1, env, st1, d, st', g.post p1, e2, fun v H2 μ2 p2 r2 => q v H2 μ2 (p1.trans p2) ⟨r2.rep, r2.pkr, fun z => nomatch z⟩⟩
  | true =>
    obtain ⟨rfl, rfl⟩ := ret_inv e2
    exact q _ H1 μ1 p1 (.of0 rfl)
theorem xe_and {y : PD.X} (h : PE X (.BoolOp .And (a :: rest) pos) (rdE T fa pa (evAnd P cf y))) : PX X T P cf (.BoolOp .And (a :: rest) pos) (.and_ y) fa pa := h
theorem xe_or {y : PD.X} (h : PE X (.BoolOp .Or (a :: rest) pos) (rdE T fa pa (evOr P cf y))) : PX X T P cf (.BoolOp .Or (a :: rest) pos) (.or_ y) fa pa := h
/-! tests of and, or -/
theorem xw_andL (h : PXT X T P cf a xa) : PW X (.BoolOp .And [a] pos) (rdT T fun env => bnd (evAnd P cf (.cons xa .nil) env) blD) := pw_and1 h
theorem xw_orL (h : PXT X T P cf a xa) : PW X (.BoolOp .Or [a] pos) (rdT T fun env => bnd (evOr P cf (.cons xa .nil) env) blD) := pw_or1 h
theorem xw_andC {y z : PD.X} (h : PXT X T P cf a xa) (hb : PW X (.BoolOp .And (b :: rest) pos) (rdT T fun env => bnd (evAnd P cf (.cons y z) env) blD)) : PW X (.BoolOp .And (a :: b :: rest) pos) (rdT T fun env => bnd (evAnd P cf (.cons xa (.cons y z)) env) blD) := by
  refine PW.imp (pw_and h hb) fun σ H Q ⟨G, μ, env, st, d, st', g, e, q⟩ => ?_
  obtain ⟨x, st1, e0, e2⟩ := bnd_inv e
  obtain ⟨c, st2, e1, e3⟩ := bnd_inv (show bnd (bnd (evE P cf xa env) blD) (fun c => if c then evAnd P cf (.cons y z) env else ret (.bl false)) st = .ok x st1 from e0)
  refine ⟨G, μ, env, st, c, _, g, e1, fun H1 μ1 p1 => ?_⟩
  cases c with
  | true => exact ⟨G, μ1, env, st2, d, st', g.post p1, by show bnd (evAnd P cf (.cons y z) env) blD st2 = _; rw [bnd_ok (by simpa using e3)]; exact e2, fun H2 μ2 p2 => q H2 μ2 (p1.trans p2)⟩
  | false =>
    obtain ⟨rfl, rfl⟩ := ret_inv e3
    obtain ⟨h5, rfl⟩ := blD_inv e2
    cases h5
    exact q H1 μ1 p1
theorem xw_orC {y z : PD.X} (h : PXT X T P cf a xa) (hb : PW X (.BoolOp .Or (b :: rest) pos) (rdT T fun env => bnd (evOr P cf (.cons y z) env) blD)) : PW X (.BoolOp .Or (a :: b :: rest) pos) (rdT T fun env => bnd (evOr P cf (.cons xa (.cons y z)) env) blD) := by
  refine PW.imp (pw_or h hb) fun σ H Q ⟨G, μ, env, st, d, st', g, e, q⟩ => ?_
  obtain ⟨x, st1, e0, e2⟩ := bnd_inv e
  obtain ⟨c, st2, e1, e3⟩ := bnd_inv (show bnd (bnd (evE P cf xa env) blD) (fun c => if c then ret (.bl true) else evOr P cf (.cons y z) env) st = .ok x st1 from e0)
  refine ⟨G, μ, env, st, c, _, g, e1, fun H1 μ1 p1 => ?_⟩
  cases c with
  | false => exact ⟨G, μ1, env, st2, d, st', g.post p1, by show bnd (evOr P cf (.cons y z) env) blD st2 = _; rw [bnd_ok (by simpa using e3)]; exact e2, fun H2 μ2 p2 => q H2 μ2 (p1.trans p2)⟩
  | true =>
    obtain ⟨rfl, rfl⟩ := ret_inv e3
    obtain ⟨h5, rfl⟩ := blD_inv e2
    cases h5
    exact q H1 μ1 p1
theorem xt_and {y : PD.X} (h : PW X (.BoolOp .And (a :: rest) pos) (rdT T fun env => bnd (evAnd P cf y env) blD)) : PXT X T P cf (.BoolOp .And (a :: rest) pos) (.and_ y) := h.pt
theorem xt_or {y : PD.X} (h : PW X (.BoolOp .Or (a :: rest) pos) (rdT T fun env => bnd (evOr P cf y env) blD)) : PXT X T P cf (.BoolOp .Or (a :: rest) pos) (.or_ y) := h.pt
/-- a if t else b -/
theorem xe_ite (hc : PXT X T P cf c xc) (ha : PX X T P cf a xa fa pa) (hb : PX X T P cf b xb fb pb) : PX X T P cf (.IfExp c a b pos) (.ite xc xa xb) (fa && fb) (pa || pb) := by
  refine PE.imp (pe_ifExp hc ha hb) fun σ H Q ⟨G, μ, env, st, d, st', g, e, q⟩ => ?_
  obtain ⟨k, st1, e1, e2⟩ := bnd_inv (show bnd (bnd (evE P cf xc env) blD) (fun c => if c then evE P cf xa env else evE P cf xb env) st = .ok d st' from e)
  refine ⟨G, μ, env, st, k, st1, g, e1, fun H1 μ1 p1 => ?_⟩
  have fx : ∀ {f p : Bool} {v : V} {H2 : Hp} {μ2 : List Addr}, ((fa && fb) = true → f = true) → ((pa || pb) = false → p = false) → Post T G μ1 H1 μ2 H2 st' → RS T f p G H1 μ2 H2 st' d v → RS T (fa && fb) (pa || pb) G H μ2 H2 st' d v := fun {f p v H2 μ2} hf hp p2 r2 => ⟨fun z => r2.rep (hp z), r2.pkr, fun z ds e => by
    obtain ⟨pp, xs, h1, h2, h3⟩ := r2.fre (hf z) ds e
    exact ⟨pp, xs, h1, Post.back g.toGoodT p1 h2, h3⟩⟩
  cases k with
  | true => exact ⟨G, μ1, env, st1, d, st', g.post p1, e2, fun v H2 μ2 p2 r2 => q v H2 μ2 (p1.trans p2) (fx (fun z => by simp at z; exact z.1) (fun z => by simp at z; exact z.1) p2 r2)⟩
  | false => exact ⟨G, μ1, env, st1, d, st', g.post p1, e2, fun v H2 μ2 p2 r2 => q v H2 μ2 (p1.trans p2) (fx (fun z => by simp at z; exact z.2) (fun z => by simp at z; exact z.2) p2 r2)⟩
/-- comparisons as tests -/
theorem xe_cmp {op : CmpOp} {o : Cop} (ho : OpR X (compareOp op) (rCp T (cmpD o))) (ha : PX X T P cf a xa fa pa) (hb : PX X T P cf b xb fb pb) (hm : behindInMarks op b = false) :
    PX X T P cf (.Compare a [op] [b] pos) (.cmp o xa xb) false false := se_cmp ho ha hb hm
theorem xt_cmp {op : CmpOp} {o : Cop} (ho : OpR X (compareOp op) (rCp T (cmpD o))) (ha : PX X T P cf a xa fa pa) (hb : PX X T P cf b xb fb pb) (hm : behindInMarks op b = false) :
    PXT X T P cf (.Compare a [op] [b] pos) (.cmp o xa xb) := by
  refine PT.imp (pt_cmpR ho ha hb hm) fun σ H Q ⟨G, μ, env, st, d, st', g, e, q⟩ => ?_
  obtain ⟨w, st0, e0, e9⟩ := bnd_inv e
  obtain ⟨x, st1, e1, k2⟩ := bnd_inv (show bnd (evE P cf xa env) (fun x => bnd (evE P cf xb env) fun y => bnd (vw x) fun x => bnd (vw y) fun y => bnd (opt (cmpD o x y)) fun r => ret (.bl r)) st = .ok w st0 from e0)
  obtain ⟨y, st3, e2, k3⟩ := bnd_inv k2
  obtain ⟨x', st4, k4, k5⟩ := bnd_inv k3
  obtain ⟨rfl, rfl⟩ := vw_inv k4
  obtain ⟨y', st5, k6, k7⟩ := bnd_inv k5
  obtain ⟨rfl, rfl⟩ := vw_inv k6
  obtain ⟨r, st6, k8, k9⟩ := bnd_inv k7
  obtain ⟨e5, rfl⟩ := opt_inv k8
  obtain ⟨rfl, rfl⟩ := ret_inv k9
  obtain ⟨h5, rfl⟩ := blD_inv e9
  cases h5
  clear e e0 k2 k3 k4 k5 k6 k7 k8 k9 e9
  refine ⟨G, μ, env, st, x, st1, g, e1, fun v H1 μ1 p1 r1 => ⟨G, μ1, env, st1, y, _, g.post p1, e2, fun u H2 μ2 p2 r2 => ?_⟩⟩
  have g2 := (g.post p1).post p2
  exact ⟨G, μ2, _, _, _, _, g2.toGoodT, (Pk.mv p2 r1.pkr).view g2.sto, r2.pkr.view g2.sto, e5, _, rfl, q _ μ2 (p1.trans p2)⟩
/-- a < b < c -/
theorem chainR {o o' : Cop} {σ : L2.St} {H : Hp} {Q : VK} {G : Addr → Prop} {μ : List Addr} {env : Env} {st st' : Store} {d : D} (g : Good T G μ H σ env st) (e : evE P cf (.cmp2 o o' xa xb xc) env st = .ok d st')
    (q : ∀ k H' μ', d = .bl k → Post T G μ H μ' H' st' → Q (.bl k) H') : tChain (rCp T (cmpD o)) (rCp T (cmpD o')) (rdE T fa false (evE P cf xa)) (rdE T fb false (evE P cf xb)) (rdE T fc false (evE P cf xc)) σ H Q := by
  obtain ⟨x, st1, e1, k2⟩ := bnd_inv (show bnd (evE P cf xa env) (fun x => bnd (evE P cf xb env) fun y => bnd (opt (cmpD o x y)) fun r => if r then bnd (evE P cf xc env) fun z => bnd (opt (cmpD o' y z)) fun r => ret (.bl r) else ret (.bl false)) st = .ok d st' from e)
  obtain ⟨y, st3, e2, k3⟩ := bnd_inv k2
  obtain ⟨r, st4, k4, k5⟩ := bnd_inv k3
  obtain ⟨e5, rfl⟩ := opt_inv k4
  clear e k2 k3 k4
  have tp : ∀ {d : D} {v : V} {H : Hp} {F : Addr → Prop} {μ : List Addr}, Rep T H F μ d v → Top T H F μ d v := fun {d v H F μ} h => by
    cases d <;> first | exact h | (obtain ⟨a, xs, e, h1, _, h3⟩ := h; exact ⟨a, e, xs, h1, h3⟩) | (obtain ⟨a, e, _, h1⟩ := h; exact ⟨a, e, h1⟩)
  refine ⟨G, μ, env, st, x, st1, g, e1, fun v H1 μ1 p1 r1 => ⟨G, μ1, env, st1, y, _, g.post p1, e2, fun u H2 μ2 p2 r2 => ?_⟩⟩
  have g2 := (g.post p1).post p2
  refine ⟨G, μ2, _, _, _, _, g2.toGoodT, tp (Rep.mv p2.mv _ _ (r1.rep rfl)), tp (r2.rep rfl), e5, r, rfl, ?_⟩
  cases r with
  | false =>
    obtain ⟨rfl, rfl⟩ := ret_inv k5
    exact q _ H2 μ2 rfl (p1.trans p2)
  | true =>
    obtain ⟨z, st6, e6, k7⟩ := bnd_inv k5
    obtain ⟨r', st7, k8, k9⟩ := bnd_inv k7
    obtain ⟨e8, rfl⟩ := opt_inv k8
    obtain ⟨rfl, rfl⟩ := ret_inv k9
    refine ⟨G, μ2, env, _, z, _, g2, e6, fun w H3 μ3 p3 r3 => ?_⟩
    have g3 := g2.post p3
    exact ⟨G, μ3, _, _, _, _, g3.toGoodT, tp (Rep.mv p3.mv _ _ (r2.rep rfl)), tp (r3.rep rfl), e8, q _ H3 μ3 rfl ((p1.trans p2).trans p3)⟩
theorem xe_cmp2 {op op' : CmpOp} {o o' : Cop} (ho : OpR X (compareOp op) (rCp T (cmpD o))) (ho' : OpR X (compareOp op') (rCp T (cmpD o'))) (ha : PX X T P cf a xa fa false) (hb : PX X T P cf b xb fb false) (hc : PX X T P cf c xc fc false)
    (hm : lastMarks [op, op'] [b, c] = false) : PX X T P cf (.Compare a [op, op'] [b, c] pos) (.cmp2 o o' xa xb xc) false false :=
  PE.imp (pe_chain ho ho' ha hb hc hm) fun σ H Q ⟨G, μ, env, st, d, st', g, e, q⟩ => chainR g e fun k H1 μ1 hd p1 => by subst hd; exact q _ H1 μ1 p1 (.of0 rfl)
theorem xt_cmp2 {op op' : CmpOp} {o o' : Cop} (ho : OpR X (compareOp op) (rCp T (cmpD o))) (ho' : OpR X (compareOp op') (rCp T (cmpD o'))) (ha : PX X T P cf a xa fa false) (hb : PX X T P cf b xb fb false) (hc : PX X T P cf c xc fc false)
    (hm : lastMarks [op, op'] [b, c] = false) : PXT X T P cf (.Compare a [op, op'] [b, c] pos) (.cmp2 o o' xa xb xc) :=
  PT.imp (pt_chain ho ho' ha hb hc hm) fun σ H Q ⟨G, μ, env, st, d, st', g, e, q⟩ => by
    obtain ⟨w, st0, e0, e9⟩ := bnd_inv e
    obtain ⟨rfl, rfl⟩ := blD_inv e9
    exact chainR g e0 fun k H1 μ1 hd p1 => by cases hd; exact ⟨_, rfl, q H1 μ1 p1⟩
end
end PD
end ZPDTest
section ZPDCall
set_option Elab.async false
set_option linter.all false
set_option maxRecDepth 100000
set_option maxHeartbeats 1000000
namespace PD
open PySem PySem.Spec L2 PyProof.Rows

/-- what a def promises by its tree -/
def spC (T : Tb) (cf : Calls) (f np : Nat) : Sp := fun vs H Q _ => ∃ G μ st ds d st', GoodT T G μ H st ∧ Reps T H (FF G μ) μ ds vs ∧ ds.length = np ∧ cf f ds st = .ok d st' ∧
  ∀ v H' μ', Post T G μ H μ' H' st' → Rep T H' (FF G μ') μ' d v → Q v H'
/-- a def that is called by its name -/
structure CallI (X : Cx) (T : Tb) (cf : Calls) (fa : Addr) (f np : Nat) : Prop where
  ex : ∃ k fd ps, FnOk X.prog X.w X.K X.mg X.base CX0 k fa fd ps (spC T cf f np) ∧ Room (k + 1) X.A ∧ Binds X.K fd ps []
  kp : PySem.W.keepIn X.K (.ref fa) = true
/-- the classes' names -/
structure TabOk (T : Tb) : Prop where
  nf : ∀ c f, T.hf c f = true → NoAttr T.K (T.ca c) (T.nm f)
  inj : ∀ c f g, T.hf c f = true → T.hf c g = true → T.nm f = T.nm g → f = g

section
variable {X : Cx} {T : Tb} {P : Prog} {cf : Calls} {pos p pos' : Pos} {a b e o : Expr} {xa xb xs xo : PD.X} {fa pa fb pb : Bool} {es : List Expr} {x : Str} {f np : Nat}
theorem xe_neg (ha : PX X T P cf a xa fa pa) : PX X T P cf (.UnaryOp .USub a pos) (.neg xa) false false := by
  refine PE.imp (pe_un un_neg ha) fun σ H Q ⟨G, μ, env, st, d, st', g, e, q⟩ => ?_
  obtain ⟨x, st1, e1, e2⟩ := bnd_inv (show bnd (evE P cf xa env) (fun x => match x with | .int i => ret (D.int (-i)) | _ => fail) st = .ok d st' from e)
  cases x <;> simp only [fail_ap, reduceCtorEq] at e2
  obtain ⟨rfl, rfl⟩ := ret_inv e2
  exact ⟨G, μ, env, st, _, _, g, e1, fun v H1 μ1 p1 r1 => ⟨_, r1.pkr, q _ H1 μ1 p1 (.of0 rfl)⟩⟩
/-! ### built-in functions -/
theorem bifR {r : Bi} {σ : L2.St} {H : Hp} {Q : VK} (h : rdE T true false (evE P cf (.bif r xs)) σ H Q) : tCB (rBi T (biD r)) (rdV T (evV P cf xs)) σ H Q := by
  obtain ⟨G, μ, env, st, d, st', g, e, q⟩ := h
  obtain ⟨ds, st1, e1, e2⟩ := bnd_inv (show bnd (evV P cf xs env) (fun ds => bnd (vws ds) fun ds => opt (biD r ds)) st = .ok d st' from e)
  obtain ⟨ds', st2, e3, e4⟩ := bnd_inv e2
  unfold vws at e3
  cases e3
  obtain ⟨e5, rfl⟩ := opt_inv e4
  refine ⟨G, μ, env, st, ds, _, g, e1, fun vs H1 μ1 p1 r1 => ?_⟩
  have g1 := g.post p1
  exact ⟨G, μ1, _, _, d, g1.toGoodT, r1.views g1.sto, e5, Ans.q g.toGoodT p1 q id⟩
theorem xe_bif {r : Bi} {id : String} (hc : CallR X (.builtin id) (rBi T (biD r))) (hg : Gl X x) (hm : X.mg x = none) (hv : bootBuiltins x = some (.builtin id)) (ha : PXV X T P cf (e :: es) xs) (hn : x ≠ "__name__") (hdb : (x == ("__debug__" : Str)) = false)
    (he : starEach (e :: es) X.env = (false, eval e X.env) :: starEach es X.env) (hpl : (backTo pos (starEach es X.env)).any (·.1) = false) : PX X T P cf (.Call (.Name x p) (e :: es) [] pos) (.bif r xs) true false :=
  PE.imp (pe_callB hc hg hm hv ha hn hdb he hpl) fun _ _ _ h => bifR h
theorem xe_bity {r : Bi} {id : String} (hc : CallR X (.type id) (rBi T (biD r))) (hg : Gl X x) (hm : X.mg x = none) (hv : bootBuiltins x = some (.type id)) (ha : PXV X T P cf (e :: es) xs) (hn : x ≠ "__name__") (hdb : (x == ("__debug__" : Str)) = false)
    (he : starEach (e :: es) X.env = (false, eval e X.env) :: starEach es X.env) (hpl : (backTo pos (starEach es X.env)).any (·.1) = false) : PX X T P cf (.Call (.Name x p) (e :: es) [] pos) (.bif r xs) true false :=
  PE.imp (pe_callTy hc hg hm hv ha hn hdb he hpl) fun _ _ _ h => bifR h
/-! ### argument lists by trees -/
theorem xa_nil : PXA X T P cf [] .nil := sa_nil
theorem xa_cons {h' : PD.X} (hx : ∀ y, h' ≠ .star y) (he : PX X T P cf e h' fa false) (ha : PXA X T P cf es xs) (hs : starEach (e :: es) X.env = (false, eval e X.env) :: starEach es X.env) : PXA X T P cf (e :: es) (.cons h' xs) := by
  have z := sa_cons he ha hs
  cases h' <;> first | exact z | exact absurd rfl (hx _)
theorem xv_nil : PXV X T P cf [] .nil := sv_nil
theorem xv_cons (he : PX X T P cf e xa fa pa) (ha : PXV X T P cf es xs) (hs : starEach (e :: es) X.env = (false, eval e X.env) :: starEach es X.env) : PXV X T P cf (e :: es) (.cons xa xs) := sv_cons he ha hs
/-! ### calls -/
theorem spOf {σ : L2.St} {H : Hp} {Q : VK} {E : XK} (h : rdE T false false (evE P cf (.call f xs)) σ H Q) (hl : ∀ ds st d st', cf f ds st = .ok d st' → ds.length = np) : tCall (spC T cf f np) [] E (rdA T (evA P cf xs)) σ H Q := by
  obtain ⟨G, μ, env, st, d, st', g, e, q⟩ := h
  obtain ⟨ds, st1, e1, e2⟩ := bnd_inv (show bnd (evA P cf xs env) (fun ds => cf f ds) st = .ok d st' from e)
  refine ⟨G, μ, env, st, ds, st1, g, e1, fun vs H1 μ1 p1 r1 => ?_⟩
  have g1 := g.post p1
  exact ⟨G, μ1, st1, ds, d, st', g1.toGoodT, by rw [List.append_nil]; exact r1, hl _ _ _ _ e2, e2, fun v H2 μ2 p2 r2 => q v H2 μ2 (p1.trans p2) (.of0 r2)⟩
theorem xe_call {ad : Addr} (F : CallI X T cf ad f np) (hl : ∀ ds st d st', cf f ds st = .ok d st' → ds.length = np) (hg : Gl X x) (hm : X.mg x = some (.ref ad)) (ha : PXA X T P cf (e :: es) xs) (hdb : (x == ("__debug__" : Str)) = false)
    (he : starEach (e :: es) X.env = (false, eval e X.env) :: starEach es X.env) (hpl : (backTo pos (starEach es X.env)).any (·.1) = false) : PX X T P cf (.Call (.Name x p) (e :: es) [] pos) (.call f xs) false false := by
  obtain ⟨k, fd, ps, F1, hr, hb⟩ := F.ex
  exact PE.imp (pe_call (E := E0) F1 (hr.mono (Nat.le_succ _)) hg hm F.kp hb .nil pass0 ha hdb he hpl) fun _ _ _ h => spOf h hl
theorem xe_call0 {ad : Addr} (F : CallI X T cf ad f np) (hl : ∀ ds st d st', cf f ds st = .ok d st' → ds.length = np) (hg : Gl X x) (hm : X.mg x = some (.ref ad)) (hdb : (x == ("__debug__" : Str)) = false) : PX X T P cf (.Call (.Name x p) [] [] pos) (.call f .nil) false false := by
  obtain ⟨k, fd, ps, F1, hr, hb⟩ := F.ex
  refine PE.imp (pe_call0 (E := E0) F1 (hr.mono (Nat.le_succ _)) hg hm F.kp hb .nil pass0 hdb) fun σ H Q h => ?_
  obtain ⟨G, μ, env, st, d, st', g, e, q⟩ := h
  exact ⟨G, μ, st, [], d, st', g.toGoodT, rfl, hl _ _ _ _ e, e, fun v H2 μ2 p2 r2 => q v H2 μ2 p2 (.of0 r2)⟩
/-! ### objects -/
theorem Flds.get (tk : TabOk T) {c : Nat} {H : Hp} {F : Addr → Prop} {μ : List Addr} : ∀ {fs : List (Nat × D)} {ys : List (Str × V)} {f : Nat} {d : D}, Flds T H F μ fs ys → (∀ p ∈ fs, T.hf c p.1 = true) → T.hf c f = true → getF f fs = some d → ∃ v, ys.lookup (T.nm f) = some v ∧ Rep T H F μ d v
  | [], _, _, _, _, _, _, e => nomatch e
  | (g, y) :: r, _, f, d, ⟨v, r', rfl, h1, h2⟩, hn, hf, e => by
    unfold getF at e
    by_cases c : g = f
    · subst c
      rw [if_pos rfl] at e
      cases e
      exact ⟨v, by simp [List.lookup], h1⟩
    · rw [if_neg c] at e
      obtain ⟨w, h3, h4⟩ := Flds.get tk h2 (fun p hp => hn p (List.mem_cons_of_mem _ hp)) hf e
      refine ⟨w, ?_, h4⟩
      have : (T.nm f == T.nm g) = false := by
        cases q : T.nm f == T.nm g
        · rfl
        · exact absurd (tk.inj _ g f (hn _ (List.mem_cons_self ..)) hf (eq_of_beq q).symm) c
      simp only [List.lookup, this]
      exact h3
theorem getF_mem : ∀ {fs : List (Nat × D)} {f : Nat} {d : D}, getF f fs = some d → (f, d) ∈ fs
  | [], _, _, e => nomatch e
  | (g, y) :: r, f, d, e => by
    unfold getF at e
    by_cases c : g = f
    · subst c
      rw [if_pos rfl] at e
      cases e
      exact List.mem_cons_self ..
    · rw [if_neg c] at e
      exact List.mem_cons_of_mem _ (getF_mem e)
theorem rdF_inv {f : Nat} {x d : D} {st st' : Store} (h : rdF f x st = .ok d st') : ∃ i c fs, x = .ref i ∧ st[i]? = some (.ins c fs) ∧ getF f fs = some d ∧ st' = st := by
  have hx : ∃ i, x = .ref i := by cases x <;> first | exact ⟨_, rfl⟩ | cases h
  obtain ⟨i, rfl⟩ := hx
  unfold rdF at h
  cases h1 : st[i]? with
  | none => simp only [h1] at h; cases h
  | some o =>
    simp only [h1] at h
    cases o with
    | lst _ => cases h
    | dct _ => cases h
    | tbl => cases h
    | ins c fs =>
      dsimp only at h
      cases h2 : getF f fs with
      | none => rw [h2] at h; cases h
      | some y =>
        rw [h2] at h
        cases h
        exact ⟨i, c, fs, rfl, h1, h2, rfl⟩
/-- the object behind a place -/
theorem insAt {G : Addr → Prop} {μ : List Addr} {H : Hp} {st : Store} {i c : Nat} {fs : List (Nat × D)} {v : V} (g : StR T (FF G μ) μ H st) (h : Rep T H (FF G μ) μ (.ref i) v) (e : st[i]? = some (.ins c fs)) :
    ∃ ad dx ys, v = .ref ad ∧ μ[i]? = some ad ∧ H ad = some (.ins (T.ca c) dx ys) ∧ dx ∉ μ ∧ H dx = some (.own ad) ∧ Flds T H (FF G μ) μ fs ys ∧ Cls T.K (T.ca c) ∧ ∀ p ∈ fs, T.hf c p.1 = true := by
  obtain ⟨ad, rfl, hm⟩ := (show ∃ ad, v = .ref ad ∧ μ[i]? = some ad from h)
  obtain ⟨dx, ys, h1, h2, h3, h4, h5, h6⟩ := (show ∃ dx xs, H ad = some (.ins (T.ca c) dx xs) ∧ dx ∉ μ ∧ H dx = some (.own ad) ∧ Flds T H (FF G μ) μ fs xs ∧ Cls T.K (T.ca c) ∧ ∀ p ∈ fs, T.hf c p.1 = true from g.ob i _ ad e hm)
  exact ⟨ad, dx, ys, rfl, hm, h1, h2, h3, h4, h5, h6⟩
theorem xe_fld {fn : Str} (h : XT T X) (tk : TabOk T) (ho : PX X T P cf o xo fa false) (hn : T.nm f = fn) (hb : attributeBase o fn X.env (eval o X.env) = eval o X.env) : PX X T P cf (.Attribute o fn pos) (.fld xo f) false false := by
  refine PE.imp (pe_fld ho hb) fun σ H Q ⟨G, μ, env, st, d, st', g, e, q⟩ => ?_
  obtain ⟨x, st1, e1, e2⟩ := bnd_inv (show bnd (evE P cf xo env) (fun x => rdF f x) st = .ok d st' from e)
  obtain ⟨i, c, fs, rfl, h1, h2, rfl⟩ := rdF_inv e2
  refine ⟨G, μ, env, st, _, _, g, e1, fun v H1 μ1 p1 r1 => ?_⟩
  have g1 := g.post p1
  obtain ⟨ad, dx, ys, rfl, _, k1, _, _, k4, k5, k6⟩ := insAt g1.sto (r1.rep rfl) h1
  have hf := k6 _ (getF_mem h2)
  obtain ⟨w, k7, k8⟩ := Flds.get tk k4 k6 hf h2
  subst hn
  exact ⟨ad, _, dx, ys, w, rfl, k1, h.K ▸ k5, h.K ▸ tk.nf c f hf, k7, q w H1 μ1 p1 (.of0 k8)⟩
theorem xe_idx {i : Expr} {xi : PD.X} {fi : Bool} (h : XT T X) (ho : PX X T P cf o xo fa pa) (hi : PX X T P cf i xi fi false) (hs : PlainIx i) : PX X T P cf (.Subscript o i pos) (.idx xo xi) false false := by
  refine PE.imp (pe_ix (x_idx h) ho hi hs) fun σ H Q ⟨G, μ, env, st, d, st', g, e, q⟩ => ?_
  obtain ⟨x, st1, e1, k2⟩ := bnd_inv (show bnd (evE P cf xo env) (fun x => bnd (evE P cf xi env) fun y => bnd (vw x) fun x => opt (idxD x y)) st = .ok d st' from e)
  obtain ⟨y, st2, e2, k3⟩ := bnd_inv k2
  obtain ⟨x', st3, k4, k5⟩ := bnd_inv k3
  obtain ⟨rfl, rfl⟩ := vw_inv k4
  obtain ⟨e5, rfl⟩ := opt_inv k5
  clear e k2 k3 k4 k5
  refine ⟨G, μ, env, st, x, st1, g, e1, fun v H1 μ1 p1 r1 => ⟨G, μ1, env, st1, y, _, g.post p1, e2, fun u H2 μ2 p2 r2 => ?_⟩⟩
  have g2 := (g.post p1).post p2
  exact ⟨G, μ2, _, _, _, _, g2.toGoodT, (Pk.mv p2 r1.pkr).view g2.sto, r2.rep rfl, e5, fun w rw' => q w H2 μ2 (p1.trans p2) (.of0 rw')⟩
/-- a method of the class c -/
structure MethI (X : Cx) (T : Tb) (P : Prog) (cf : Calls) (m : Nat) (mn : Str) (f np : Nat) : Prop where
  ex : ∃ c ad, Cls X.K (T.ca c) ∧ Meth X.K (T.ca c) mn ad ∧ CallI X T cf ad f np ∧ ∀ c' f', P.mth c' m = some f' → c' = c ∧ f' = f
theorem Flds.no {c : Nat} {H : Hp} {F : Addr → Prop} {μ : List Addr} {mn : Str} : ∀ {fs : List (Nat × D)} {ys : List (Str × V)}, Flds T H F μ fs ys → (∀ p ∈ fs, T.nm p.1 ≠ mn) → ys.lookup mn = none
  | [], _, h, _ => by
    have h' : _ = [] := h
    subst h'; rfl
  | (g, y) :: r, _, ⟨v, r', rfl, h1, h2⟩, hn => by
    have q : (mn == T.nm g) = false := by
      cases q : mn == T.nm g
      · rfl
      · exact absurd (eq_of_beq q).symm (hn _ (List.mem_cons_self ..))
    simp only [List.lookup, q]
    exact Flds.no (c := c) h2 fun p hp => hn p (List.mem_cons_of_mem _ hp)
theorem clsOf_inv {x : D} {st st' : Store} {r : Nat × Nat} (h : clsOf x st = .ok r st') : ∃ i fs, x = .ref i ∧ st[i]? = some (.ins r.1 fs) ∧ st' = st := by
  have hx : ∃ i, x = .ref i := by cases x <;> first | exact ⟨_, rfl⟩ | cases h
  obtain ⟨i, rfl⟩ := hx
  unfold clsOf at h
  cases h1 : st[i]? with
  | none => simp only [h1] at h; cases h
  | some o =>
    simp only [h1] at h
    cases o with
    | lst _ => cases h
    | dct _ => cases h
    | tbl => cases h
    | ins c fs => cases h; exact ⟨i, fs, rfl, h1, rfl⟩
theorem cmR {m : Nat} {mn : Str} {c : Nat} {E : XK} {ad : Addr} (hK : X.K = T.K) (tk : TabOk T) (hm : Meth X.K (T.ca c) mn ad) (hu : ∀ c' f', P.mth c' m = some f' → c' = c ∧ f' = f) (hl : ∀ ds st d st', cf f ds st = .ok d st' → ds.length = np)
    {σ : L2.St} {H : Hp} {Q : VK} (h : rdE T false false (evE P cf (.cm m xo xs)) σ H Q) : tMeth (T.ca c) mn (spC T cf f np) [] E (rdE T fa false (evE P cf xo)) (rdA T (evA P cf xs)) σ H Q := by
  obtain ⟨G, μ, env, st, d, st', g, e, q⟩ := h
  obtain ⟨x, st1, e1, e2⟩ := bnd_inv (show bnd (evE P cf xo env) (fun x => bnd (clsOf x) fun c => match P.mth c.1 m with | some f => bnd (evA P cf xs env) fun ds => cf f (x :: ds) | none => fail) st = .ok d st' from e)
  obtain ⟨r, st2, e3, e4⟩ := bnd_inv e2
  obtain ⟨i, fs, rfl, h1, rfl⟩ := clsOf_inv e3
  cases hz : P.mth r.1 m with
  | none => simp only [hz] at e4; cases e4
  | some f' =>
    simp only [hz] at e4
    obtain ⟨hc, rfl⟩ := hu _ _ hz
    obtain ⟨ds, st3, e5, e6⟩ := bnd_inv e4
    refine ⟨G, μ, env, st, _, _, g, e1, fun v H1 μ1 p1 r1 => ?_⟩
    have g1 := g.post p1
    rw [hc] at h1
    obtain ⟨ad', dx, ys, rfl, hμ, k1, _, _, k4, k5, k6⟩ := insAt g1.sto (r1.rep rfl) h1
    refine ⟨ad', dx, ys, rfl, k1, Flds.no (c := c) k4 fun p hp z => ?_, G, μ1, env, _, ds, st3, g1, e5, fun vs H2 μ2 p2 r2 => ?_⟩
    · have n := tk.nf c p.1 (k6 p hp)
      have m' := hm.at_
      rw [hK, ← z] at m'
      rw [show PySem.W.findIn T.K (.ref (T.ca c)) (T.nm p.1) = some none from n] at m'
      exact nomatch m'
    · have g2 := g1.post p2
      refine ⟨G, μ2, st3, .ref i :: ds, d, st', g2.toGoodT, ⟨.ref ad', vs, by rw [List.append_nil], ⟨ad', rfl, prefix_get p2.mu hμ⟩, r2⟩, hl _ _ _ _ e6, e6, fun v H3 μ3 p3 r3 => q v H3 μ3 ((p1.trans p2).trans p3) (.of0 r3)⟩
end
end PD
end ZPDCall
section ZPDCall2
set_option Elab.async false
set_option linter.all false
set_option maxRecDepth 100000
set_option maxHeartbeats 1000000
namespace PD
open PySem PySem.Spec L2 PyProof.Rows

section
variable {X : Cx} {T : Tb} {P : Prog} {cf : Calls} {pos p pos' apos cpos : Pos} {a b e o : Expr} {xa xb xe xs xo : PD.X} {fa pa fb pb : Bool} {es : List Expr} {x : Str} {f np : Nat}
theorem xe_cm {pl : Sem Bool} {m : Nat} {mn : Str} (h : XT T X) (tk : TabOk T) (M : MethI X T P cf m mn f np) (hl : ∀ ds st d st', cf f ds st = .ok d st' → ds.length = np) (ho : PX X T P cf o xo fa false) (ha : PXA X T P cf (e :: es) xs)
    (hst : starEach (e :: es) X.env = (false, eval e X.env) :: starEach es X.env) (hpl : (backTo pos (starEach es X.env)).any (·.1) = false)
    (ht : eval (.Call (.Attribute o mn apos) (e :: es) [] pos) X.env = (do
      let ov ← eval o X.env
      standAt apos.atName
      let (f, first) ← holding [ov] (getMethod ov mn pl)
      callWith pos f first (backTo pos (starEach (e :: es) X.env)) (backToKw pos (keywordEach [] X.env)))) :
    PX X T P cf (.Call (.Attribute o mn apos) (e :: es) [] pos) (.cm m xo xs) false false := by
  obtain ⟨c, ad, hc, hm, F, hu⟩ := M.ex
  obtain ⟨k, fd, ps, F1, hr, hb⟩ := F.ex
  exact PE.imp (pe_meth (E := E0) ho hc hm F1 (hr.mono (Nat.le_succ _)) hb .nil pass0 ha hst hpl ht) fun _ _ _ z => cmR h.K tk hm hu hl z
theorem xe_cm0 {pl : Sem Bool} {m : Nat} {mn : Str} (h : XT T X) (tk : TabOk T) (M : MethI X T P cf m mn f np) (hl : ∀ ds st d st', cf f ds st = .ok d st' → ds.length = np) (ho : PX X T P cf o xo fa false)
    (ht : eval (.Call (.Attribute o mn apos) [] [] pos) X.env = (do
      let ov ← eval o X.env
      standAt apos.atName
      let (f, first) ← holding [ov] (getMethod ov mn pl)
      callWith pos f first (backTo pos (starEach [] X.env)) (backToKw pos (keywordEach [] X.env)))) :
    PX X T P cf (.Call (.Attribute o mn apos) [] [] pos) (.cm m xo .nil) false false := by
  obtain ⟨c, ad, hc, hm, F, hu⟩ := M.ex
  obtain ⟨k, fd, ps, F1, hr, hb⟩ := F.ex
  refine PE.imp (pe_meth0 (E := E0) ho hc hm F1 (hr.mono (Nat.le_succ _)) hb .nil pass0 ht) fun σ H Q z => ?_
  obtain ⟨G, μ, env, st, d, st', g, ev, q⟩ := cmR (E := E0) h.K tk hm hu hl z
  refine ⟨G, μ, env, st, d, st', g, ev, fun v H1 μ1 p1 r1 => ?_⟩
  obtain ⟨a1, dx, fs, e1, e2, e3, q3⟩ := q v H1 μ1 p1 r1
  refine ⟨a1, dx, fs, e1, e2, e3, ?_⟩
  obtain ⟨G2, μ2, env2, st2, ds2, st3, g2, ev2, q2⟩ := q3
  obtain ⟨rfl, rfl⟩ := ret_inv (show ret [] st2 = .ok ds2 st3 from ev2)
  exact q2 [] H1 μ2 (Post.refl g2.toGoodT) rfl
/-- a class that is made by its name -/
structure MkI (X : Cx) (T : Tb) (P : Prog) (cf : Calls) (c : Nat) (np : Nat) : Prop where
  ex : ∃ f ad, P.ini c = some f ∧ Cls X.K (T.ca c) ∧ Mk X.K (T.ca c) ad ∧ CallI X T cf ad f (np + 1) ∧ ∀ ds st d st', cf f ds st = .ok d st' → ds.length = np + 1
theorem upd2_more {H : Hp} {x dx : Addr} {o o' : HO} (hx : H x = none) (hd : H dx = none) (a : Addr) (u : HO) (e : H a = some u) : upd (upd H dx o) x o' a = some u := by
  rw [upd_ne (ne_of_none e hx), upd_ne (ne_of_none e hd)]; exact e
theorem xe_mk {c : Nat} (h : XT T X) (M : MkI X T P cf c np) (hg : Gl X x) (hm : X.mg x = some (.ref (T.ca c))) (ha : PXA X T P cf (e :: es) xs) (hdb : (x == ("__debug__" : Str)) = false)
    (he : starEach (e :: es) X.env = (false, eval e X.env) :: starEach es X.env) (hpl : (backTo pos (starEach es X.env)).any (·.1) = false) : PX X T P cf (.Call (.Name x p) (e :: es) [] pos) (.mk c xs) false false := by
  obtain ⟨f, ad, hi, hc, hmk, F, hl⟩ := M.ex
  obtain ⟨k, fd, ps, F1, hr, hb⟩ := F.ex
  refine PE.imp (pe_make (E := E0) hmk F1 hr hg hm hb .nil pass0 ha hdb he hpl) fun σ H Q ⟨G, μ, env, st, d, st', g, ev, q⟩ => ?_
  obtain ⟨ds, st1, e1, e2⟩ := bnd_inv (show bnd (evA P cf xs env) (fun ds => bnd (alloc (.ins c [])) fun r => match P.ini c with | some f => bnd (cf f (r :: ds)) fun x => (match x with | .non => ret r | _ => fail) | none => fail) st = .ok d st' from ev)
  obtain ⟨r, st2, e3, e4⟩ := bnd_inv e2
  unfold alloc at e3
  cases e3
  simp only [hi] at e4
  obtain ⟨y, st3, e5, e6⟩ := bnd_inv e4
  cases y <;> simp only [fail_ap, reduceCtorEq] at e6
  obtain ⟨rfl, rfl⟩ := ret_inv e6
  refine ⟨G, μ, env, st, ds, st1, g, e1, fun vs H1 μ1 p1 r1 x dx hx hd hne => ?_⟩
  have g1 := g.toGoodT.post p1
  have more := fun a u => upd2_more (o := .own x) (o' := .ins (T.ca c) dx []) hx hd a u
  have hdx : dx ∉ μ1 ++ [x] := fun z => by
    rcases List.mem_append.mp z with z | z
    · exact g1.fresh hd (.inl z)
    · simp at z; exact hne z
  have p2 := Post.new_ g1 hx (u := .ins c []) more ⟨dx, [], upd_same, hdx, by rw [upd_ne hne, upd_same], rfl, h.K ▸ hc, fun _ z => nomatch z⟩ (by rw [upd_same]; simp)
  have g2 := g1.post p2
  have hlen : μ1.length = st1.length := g1.sto.len
  have hget : (μ1 ++ [x])[st1.length]? = some x := by
    rw [← hlen, List.getElem?_append_right (Nat.le_refl _)]; simp
  refine ⟨G, μ1 ++ [x], st1 ++ [.ins c []], .ref st1.length :: ds, .non, _, g2, ⟨.ref x, vs, by rw [List.append_nil], ⟨x, rfl, hget⟩, Reps.mv p2.mv ds vs r1⟩, hl _ _ _ _ e5, e5, fun v H2 μ2 p3 r3 => ?_⟩
  exact ⟨r3, q (.ref x) H2 μ2 ((p1.trans p2).trans p3) (.of0 ⟨x, rfl, prefix_get p3.mu hget⟩)⟩
/-! ### dicts' methods -/
theorem ty_dict {s : Shared} {d : Addr} {xs : List (NestedKey × Addr × Value)} (hd : s.heap.DictOfH (NK X) d xs) : s.TypeIs (.ref d) "dict" ∧ ∀ a, Value.ref d = .ref a → ∃ ob, s.heap.get? a = some ob ∧ ob.dict = none := by
  obtain ⟨o, es, ep, h1, h2, _⟩ := hd
  exact ⟨⟨o, h1, h2.1⟩, fun a e => by cases e; exact ⟨o, h1, h2.2.1⟩⟩
theorem xe_get {k : Expr} {xk : PD.X} {fk : Bool} (h : XT T X) (ho : PX X T P cf o xo fa pa) (hk : PX X T P cf k xk fk false)
    (hbase : attributeBase o "get" X.env (eval o X.env) = eval o X.env)
    (hfew : ((backTo cpos (starEach [k] X.env)).all (fun x => !x.1) && (backToKw cpos (keywordEach [] X.env)).all (fun x => x.1.isSome)
      && decide ([k].length + ([] : List Keyword).length + (if ([] : List Keyword).isEmpty then 0 else 1) < 30)) = true)
    (hline : (apos.endLine == cpos.line) = true) (hs : starEach [k] X.env = (false, eval k X.env) :: starEach [] X.env) :
    PX X T P cf (.Call (.Attribute o "get" apos) [k] [] cpos) (.get xo xk) false false := by
  refine ⟨fun pins s σ H Q I ⟨G, μ, env, st, d, st', g, ev, q⟩ => ?_⟩
  obtain ⟨x, st1, e1, k2⟩ := bnd_inv (show bnd (evE P cf xo env) (fun x => bnd (vw x) fun x0 => if dctT x0 then bnd (evE P cf xk env) fun y => bnd (vw x) fun x => (match x with
    | .dct kvs => if dKey y kvs then ret ((findK y kvs).getD .non) else fail
    | _ => fail) else fail) st = .ok d st' from ev)
  obtain ⟨x0, st2, e3, k4⟩ := bnd_inv k2
  obtain ⟨rfl, rfl⟩ := vw_inv e3
  obtain ⟨hz, k5⟩ := ite_inv k4
  obtain ⟨y, st3, e6, k7⟩ := bnd_inv k5
  obtain ⟨x1, st4, e8, k9⟩ := bnd_inv k7
  obtain ⟨rfl, rfl⟩ := vw_inv e8
  clear ev k2 k4 k5 k7 e3 e8
  refine wpAny_Call_method_late hbase hfew hline rfl (thn (ho.run pins s σ H (fun v H1 => ∃ μ1, Post T G μ H μ1 H1 st2 ∧ RS T fa pa G H μ1 H1 st2 x v) I ⟨G, μ, env, st, _, _, g, e1, fun v H1 μ1 p1 r1 => ⟨μ1, p1, r1⟩⟩) fun v s1 ⟨v0, H1, I1, rv, μ1, p1, r1⟩ => ?_)
  have g1 := g.post p1
  have hv := r1.pkr.view g1.sto
  obtain ⟨kv0, hkv⟩ : ∃ kvs, view st2 x = .dct kvs := by
    revert hz; cases view st2 x <;> intro hz <;> first | exact ⟨_, rfl⟩ | exact absurd hz (by simp [dctT])
  rw [hkv] at hv hz
  obtain ⟨d1, rfl, hd1⟩ := hv
  cases rv
  obtain ⟨es1, xs1, kn1, pr1, hh1, _⟩ := DctC.of I1 h.P h.w h.K hd1 hz
  obtain ⟨t1, t2⟩ := ty_dict hh1
  refine ⟨"dict", "dict.get", PySem.F.plainAttrs_dict, PySem.F.slot_dict_get, rfl, t1, t2, ?_⟩
  have hA := (sa_cons (T := T) hk sa_nil hs).run cpos pins s1 σ H1 (fun vs H2 => ∃ μ2, Post T G μ1 H1 μ2 H2 st4 ∧ ∃ u, vs = [u] ∧ Rep T H2 (FF G μ2) μ2 y u) I1 ⟨G, μ1, env, _, [y], st4, g1, (by show bnd (evE P cf xk env) (fun d => bnd (ret []) fun ds => ret (d :: ds)) st2 = _; rw [bnd_ok e6]; rfl), fun vs H2 μ2 p2 r2 => ⟨μ2, p2, by
    obtain ⟨u, r, rfl, ru, hr⟩ := r2
    obtain rfl : r = [] := hr
    exact ⟨u, rfl, ru⟩⟩⟩
  rw [hs] at hA ⊢
  refine Calls.callWith_builtin rfl (Calls.evalArgs_plain ?_)
  refine thn hA fun us s2 ⟨vs, H2, I2, r2, μ2, p2, u, ev, ru⟩ => ?_
  subst ev
  obtain ⟨u1, rfl, ru1⟩ := Vals.one r2
  have g2 := g1.post p2
  have hv2 := (Pk.mv p2 r1.pkr).view g2.sto
  obtain ⟨kv, hkv2⟩ : ∃ kvs, view st4 x = .dct kvs := by
    revert k9; cases view st4 x <;> intro k9 <;> first | exact ⟨_, rfl⟩ | exact nomatch k9
  rw [hkv2] at hv2 k9
  obtain ⟨hky, k10⟩ := ite_inv k9
  obtain ⟨rfl, rfl⟩ := ret_inv k10
  obtain ⟨d2, e2, hd2⟩ := hv2
  cases e2
  obtain ⟨es2, xs2, kn2, pr2, hh2, hsys, _⟩ := DctC.of I2 h.P h.w h.K hd2 (dKey_head hky)
  obtain ⟨n, ad, hn, rfl, rfl, hik⟩ := dKey_is I2 h.K hky ru ru1
  have hf := findK_at hn kn2 pr2
  have hu := h.u
  refine get_keyed (knd := NK X) (show (NK X).room X.A.in1 by show X.A.units + 1 + 8 < cLine; omega) hik hsys ⟨xs2, hh2, rfl⟩ ?_
  rw [valueAt_pairsH]
  cases hq : findK y kv with
  | none =>
    rw [hq] at hf
    dsimp only at hf
    rw [hf]
    refine ⟨.non, H2, I2.tok _, rfl, ?_⟩
    rw [hq] at q
    exact q .non H2 μ2 (p1.trans p2) (.of0 rfl)
  | some d' =>
    rw [hq] at hf
    obtain ⟨pp, v, e7, e8, e9⟩ := hf
    rw [e7]
    refine ⟨v, H2, I2.tok _, e8, ?_⟩
    rw [hq] at q
    exact q v H2 μ2 (p1.trans p2) (.of0 e9)
end
end PD
end ZPDCall2
section ZPDStar
set_option Elab.async false
set_option linter.all false
set_option maxRecDepth 100000
set_option maxHeartbeats 1000000
namespace PD
open PySem PySem.Spec L2 PyProof.Rows

/-- what stands behind a star -/
structure PStarI (X : Cx) (e : Expr) (t : TA) : Prop where
  run : ∀ (pins : List (Addr × Obj)) (s : Shared) (σ : L2.St) (H : Hp) (Q : List V → Hp → Prop), L2.Inv X pins σ H s → t σ H Q →
    wpAny (model X.prog X.w) X.A (eval e X.env) (fun v s1 => PySem.W.StarOf (model X.prog X.w) X.A X.xe v (fun us s2 => AP X pins σ Q us s2) s1) X.xe s
section
variable {X : Cx} {T : Tb} {P : Prog} {cf : Calls} {pos p pos' apos cpos : Pos} {a b e o : Expr} {xa xb xe xs xo : PD.X} {fa pa fb pb : Bool} {es : List Expr} {x : Str} {f np : Nat}
theorem xa_star {sx : PD.X} (he : PStarI X e (rdA T (evIt P cf sx))) (hr : PXA X T P cf es xs) (hs : starEach (.Starred e p :: es) X.env = (true, eval e X.env) :: starEach es X.env) : PXA X T P cf (.Starred e p :: es) (.cons (.star sx) xs) := by
  refine ⟨fun pos pins s σ H Q I ⟨G, μ, env, st, ds, st', g, ev, q⟩ => ?_⟩
  obtain ⟨d1, st1, e1, k2⟩ := bnd_inv (show bnd (evIt P cf sx env) (fun ds => bnd (evA P cf xs env) fun es => ret (ds ++ es)) st = .ok ds st' from ev)
  obtain ⟨d2, st2, e2, k3⟩ := bnd_inv k2
  obtain ⟨rfl, rfl⟩ := ret_inv k3
  refine PySem.W.items_star (thn (he.run pins s σ H (fun vs H1 => ∃ μ1, Post T G μ H μ1 H1 st1 ∧ Reps T H1 (FF G μ1) μ1 d1 vs) I ⟨G, μ, env, st, _, _, g, e1, fun vs H1 μ1 p1 r1 => ⟨μ1, p1, r1⟩⟩) fun v s1 hv => ?_) hs
  unfold PySem.W.StarOf at hv ⊢
  refine thn hv fun b s2 ⟨hb, h2⟩ => ⟨hb, thn h2 fun us s3 ⟨vs, H1, I1, rv, μ1, p1, r1⟩ => ?_⟩
  exact thn (hr.run pos pins s3 σ H1 (fun ws H2 => Q (vs ++ ws) H2) I1 ⟨G, μ1, env, st1, _, _, g.post p1, e2, fun ws H2 μ2 p2 r2 => q (vs ++ ws) H2 μ2 (p1.trans p2) (Reps.append (Reps.mv p2.mv _ _ r1) r2)⟩) fun ws s4 ⟨w, H4, I4, r4, q4⟩ => ⟨vs ++ w, H4, I4, rv.append r4, q4⟩
theorem st_src (h : XT T X) (he : PX X T P cf e xe fa pa) : PStarI X e (rdA T (evIt P cf (.src xe))) := by
  refine ⟨fun pins s σ H Q I ⟨G, μ, env, st, ds, st', g, ev, q⟩ => ?_⟩
  obtain ⟨x, st1, e1, k2⟩ := bnd_inv (show bnd (evE P cf xe env) (fun x => opt (itemsD x)) st = .ok ds st' from ev)
  obtain ⟨k3, rfl⟩ := opt_inv k2
  refine thn (he.run pins s σ H (fun v H1 => ∃ p xs, v = .ref p ∧ (SqT X.K H1 p xs ∨ SqL X.K H1 p xs) ∧ Q xs H1) I ⟨G, μ, env, st, _, _, g, e1, fun v H1 μ1 p1 r1 => ?_⟩) fun v s1 ⟨y, H1, I1, ry, a, xs, ey, hx, q1⟩ => ?_
  · cases x <;> simp only [itemsD, Option.some.injEq, reduceCtorEq] at k3
    · subst k3
      obtain ⟨a, xs, rfl, h1, h2⟩ := (show Rep T H1 (FF G μ1) μ1 _ v from r1.pkr)
      exact ⟨a, xs, rfl, .inl (h.K ▸ h1.sq), q xs H1 μ1 p1 h2⟩
    · subst k3
      obtain ⟨a, rfl, n, xs, h1, h2⟩ := r1.pkr
      exact ⟨a, xs, rfl, .inr (SqL.of h1), q xs H1 μ1 p1 h2⟩
  · subst ey
    obtain rfl : v = Value.ref a := ry
    exact StX.star_any I1 hx fun us s2 I2 rv => ⟨xs, H1, I2, rv, q1⟩
/-- the pairs of a dict, new tuples of them -/
theorem pairs_reps {G : Addr → Prop} {μ : List Addr} {H : Hp} {F : Addr → Prop} {μ' : List Addr} {H' : Hp} (m : Mv H H' (FF G μ) F μ μ') : ∀ {kvs : List (D × D)} {es : List (NestedKey × Addr × V)} {as : List Addr}, KVn T H (FF G μ) μ kvs es → as.length = es.length →
    (∀ (j : Nat) (n : NestedKey) (q : Addr) (v : V) (a : Addr), es[j]? = some (n, q, v) → as[j]? = some a → TupAt T H' F a [.ref q, v]) → Reps T H' F μ' (kvs.map fun p => .tup [p.1, p.2]) (as.map V.ref)
  | [], _, as, h, hl, _ => by
    simp only [KVn] at h
    subst h
    obtain rfl : as = [] := List.eq_nil_of_length_eq_zero hl
    rfl
  | (k, d) :: r, _, as, h, hl, ht => by
    simp only [KVn] at h
    obtain ⟨n, q, x, r', rfl, h0, h1, h2, h3⟩ := h
    cases as with
    | nil => cases hl
    | cons a as =>
      refine ⟨.ref a, as.map V.ref, rfl, ⟨a, [.ref q, x], rfl, ht 0 n q x a rfl rfl, ⟨_, _, rfl, Rep.mv m _ _ h1, _, _, rfl, Rep.mv m _ _ h2, rfl⟩⟩, pairs_reps m h3 (by simpa using hl) fun j n q v a h4 h5 => ht (j + 1) n q v a (by simpa using h4) (by simpa using h5)⟩
theorem st_items (h : XT T X) (hh : X.A.handled = none) (ho : PX X T P cf o xo fa pa) (hbase : attributeBase o "items" X.env (eval o X.env) = eval o X.env) (hline : (apos.endLine == cpos.line) = true) :
    PStarI X (.Call (.Attribute o "items" apos) [] [] cpos) (rdA T (evIt P cf (.items xo))) := by
  refine ⟨fun pins s σ H Q I ⟨G, μ, env, st, ds, st', g, ev, q⟩ => ?_⟩
  obtain ⟨x, st1, e1, k2⟩ := bnd_inv (show bnd (evE P cf xo env) (fun x => bnd (vw x) fun x => (match x with
    | .dct kvs => if headTup kvs then ret (kvs.map fun p => .tup [p.1, p.2]) else fail
    | _ => fail)) st = .ok ds st' from ev)
  obtain ⟨x1, st2, e3, k4⟩ := bnd_inv k2
  obtain ⟨rfl, rfl⟩ := vw_inv e3
  refine wpAny_Call_method0_late hbase hline (thn (ho.run pins s σ H (fun v H1 => ∃ μ1, Post T G μ H μ1 H1 st2 ∧ RS T fa pa G H μ1 H1 st2 x v) I ⟨G, μ, env, st, _, _, g, e1, fun v H1 μ1 p1 r1 => ⟨μ1, p1, r1⟩⟩) fun v s1 ⟨v0, H1, I1, rv, μ1, p1, r1⟩ => ?_)
  have g1 := g.post p1
  have hv := r1.pkr.view g1.sto
  obtain ⟨kvs, hkv⟩ : ∃ kvs, view st2 x = .dct kvs := by
    revert k4; cases view st2 x <;> intro k4 <;> first | exact ⟨_, rfl⟩ | exact nomatch k4
  rw [hkv] at hv k4
  obtain ⟨hz, k5⟩ := ite_inv k4
  obtain ⟨rfl, rfl⟩ := ret_inv k5
  obtain ⟨d1, rfl, hd1⟩ := hv
  cases rv
  obtain ⟨es1, xs1, kn1, pr1, hh1, hsys, hle, _⟩ := DctC.of I1 h.P h.w h.K hd1 hz
  obtain ⟨t1, t2⟩ := ty_dict hh1
  refine ⟨"dict", "dict.items", PySem.F.plainAttrs_dict, PySem.F.slot_dict_items, rfl, t1, t2, ?_⟩
  obtain ⟨ob, ents, ep, b1, b2, b3, b4, _⟩ := hh1
  have hlen : ents.size = es1.length := by rw [← Array.length_toList, b4, List.length_map, Paired.length pr1]
  refine Calls.callWith_builtin rfl (PySem.evalArgs_none (DT.callItems (es := ents) (ep := ep) hsys ⟨ob, b1, b2, b3⟩ ?_))
  have I2 : L2.Inv X pins σ H1 { s1 with heap := s1.heap.push { cls := .type "dict_items", data := .fields #[.ref d1] } } := I1.kept (t' := s1.toks) fun b o e => Heap.get?_push_of_some _ e
  have hview : (s1.heap.push { cls := .type "dict_items", data := .fields #[.ref d1] }).get? s1.heap.objs.size = some { cls := .type "dict_items", data := .fields #[.ref d1] } := Heap.get?_push_size _ rfl
  have key : wpAny (model X.prog X.w) X.A (collect (.ref s1.heap.objs.size)) (fun us s2 => AP X pins σ Q us s2) X.xe { s1 with heap := s1.heap.push { cls := .type "dict_items", data := .fields #[.ref d1] } } := by
    refine DT.collectI (d := d1) (es := ents) (ep := ep) hh ⟨_, hview, rfl, rfl⟩ ⟨ob, Heap.get?_push_of_some _ b1, b2, b3⟩ (by rw [hlen]; exact hle) fun h' tk as hk hsz hal hM => ?_
    have I3 : L2.Inv X pins σ H1 { s1 with heap := h', toks := tk } := I2.kept (t' := tk) hk
    have hnd : as.Nodup := hM.rise.imp fun h => Nat.ne_of_lt h
    have hfr : ∀ a ∈ as, s1.heap.objs.size ≤ a := fun a ha => by
      have h1 := hM.above a ha
      have hs2 : (s1.heap.push { cls := .type "dict_items", data := .fields #[.ref d1] } : Heap).objs.size = s1.heap.objs.size + 1 := Heap.size_push _ _
      exact Nat.le_of_lt (Nat.lt_of_le_of_lt (by rw [hs2]; exact Nat.le_succ _) h1)
    obtain ⟨H2, I4, more, ht⟩ := L2.DX.takeT (P := fun a vs => ∃ j n q v, as[j]? = some a ∧ es1[j]? = some (n, q, v) ∧ vs = [.ref q, v]) I1 as H1 I3 hnd fun a ha => by
      obtain ⟨j, hj⟩ := List.mem_iff_getElem?.mp ha
      obtain ⟨en, e4, e5⟩ := hM.pairs j a hj
      have hjl : j < es1.length := by
        have := (List.getElem?_eq_some_iff.mp hj).1
        omega
      have e6 : (xs1.map (entryOfKey (NK X)))[j]? = some en := by rw [← b4, Array.getElem?_toList]; exact e4
      rw [List.getElem?_map] at e6
      obtain ⟨y, e7, rfl⟩ := Option.map_eq_some_iff.mp e6
      have hes : es1[j]? = some es1[j] := by simp [hjl]
      obtain ⟨e8, e9, e10⟩ := paired_at pr1 hes e7
      refine ⟨hfr a ha, I1.hok.fresh (hfr a ha), [.ref es1[j].2.1, es1[j].2.2], ⟨j, es1[j].1, es1[j].2.1, es1[j].2.2, hj, hes, rfl⟩, fun H2 => ?_⟩
      refine ⟨by show 2 ≤ sizeLine; rw [sizeLine_eq]; omega, [.ref y.2.1, y.2.2], .cons (by rw [e9]; rfl) (.cons e10 .nil), ⟨_, e5, rfl, _, rfl⟩⟩
    have g3 := g1.post (Post.more g1.toGoodT more)
    refine ⟨as.map V.ref, H2, I4, ?_, q (as.map V.ref) H2 μ1 (p1.trans (Post.more g1.toGoodT more)) (pairs_reps (mvMore more _) kn1 (by omega) fun j n q' v a h4 h5 => ?_)⟩
    · clear ht hM hal hnd hfr
      induction as with
      | nil => exact .nil
      | cons a as ih => exact .cons rfl (ih)
    · obtain ⟨vs, ⟨j', n', q2, v2, h6, h7, rfl⟩, h8⟩ := ht a (List.mem_of_getElem? h5)
      have : j' = j := nodup_get hnd h6 h5
      subst this
      rw [h4] at h7
      cases h7
      exact .inl ⟨h8, g1.toGoodT.fresh (I1.hok.fresh (hfr a (List.mem_of_getElem? h5)))⟩
  unfold PySem.W.StarOf notIterableAtAll
  exact wpAny_bind (wpAny_specialOf ⟨_, hview, rfl⟩ PySem.F.slot_dict_items_iter.lookup (wpAny_pure ⟨rfl, key⟩))
end
end PD
end ZPDStar
section ZPDStm
set_option Elab.async false
set_option linter.all false
set_option maxRecDepth 100000
set_option maxHeartbeats 1000000
namespace PD
open PySem PySem.Spec L2 PyProof.Rows

def Sl.isOwn : Sl → Bool
  | .ol _ | .od _ => true
  | _ => false
def OwnAt (σ : L2.St) (env : Env) (i : Nat) (a : Addr) : Prop := σ[i]? = some (some (.ref a)) ∧ ∃ s, env[i]? = some s ∧ s.isOwn = true
def Own (σ : L2.St) (env : Env) : Addr → Prop := fun a => ∃ i, OwnAt σ env i a
abbrev GO (G0 : Addr → Prop) (σ : L2.St) (env : Env) : Addr → Prop := fun a => G0 a ∨ Own σ env a
/-- a slot, the frame's own lists told apart -/
def SlQ (T : Tb) (G0 F : Addr → Prop) (μ : List Addr) (H : Hp) : Sl → Option V → Prop
  | .no, _ => True
  | .v d, x => ∃ v, x = some v ∧ Rep T H F μ d v
  | .ol ds, x => ∃ a, x = some (.ref a) ∧ ¬ G0 a ∧ a ∉ μ ∧ LstC T H F μ a ds
  | .od kvs, x => ∃ a, x = some (.ref a) ∧ ¬ G0 a ∧ a ∉ μ ∧ DctC T H F μ a kvs
structure GoodS (T : Tb) (G0 : Addr → Prop) (μ : List Addr) (H : Hp) (σ : L2.St) (env : Env) (st : Store) : Prop where
  dom : ∀ a, G0 a → H a ≠ none
  dis : ∀ a ∈ μ, ¬ G0 a
  sto : StR T (FF (GO G0 σ env) μ) μ H st
  len : env.length = σ.length
  at_ : ∀ (i : Nat) (s : Sl) (x : Option V), env[i]? = some s → σ[i]? = some x → SlQ T G0 (FF (GO G0 σ env) μ) μ H s x
  ds : ∀ i j a, OwnAt σ env i a → OwnAt σ env j a → i = j
/-- from state to state in one frame -/
structure StepR (μ : List Addr) (ow : Addr → Prop) (H : Hp) (μ' : List Addr) (ow' : Addr → Prop) (H' : Hp) : Prop where
  mu : μ <+: μ'
  new : ∀ a ∈ μ', a ∈ μ ∨ H a = none
  own : ∀ a, ow' a → ow a ∨ H a = none
  keep : ∀ a o, H a = some o → a ∉ μ → ¬ ow a → H' a = some o
  grow : ∀ a, H' a = none → H a = none

section
variable {T : Tb} {G0 : Addr → Prop} {H H' H2 : Hp} {μ μ' μ2 : List Addr} {σ σ' : L2.St} {env env' : Env} {st st' st2 : Store} {ow ow' ow2 : Addr → Prop}
theorem StepR.refl : StepR μ ow H μ ow H := ⟨List.prefix_refl _, fun _ h => .inl h, fun _ h => .inl h, fun _ _ h _ _ => h, fun _ h => h⟩
theorem StepR.trans (p : StepR μ ow H μ' ow' H') (q : StepR μ' ow' H' μ2 ow2 H2) : StepR μ ow H μ2 ow2 H2 where
  mu := p.mu.trans q.mu
  new := fun a ha => by
    rcases q.new a ha with z | z
    · exact p.new a z
    · exact .inr (p.grow a z)
  own := fun a ha => by
    rcases q.own a ha with z | z
    · exact p.own a z
    · exact .inr (p.grow a z)
  keep := fun a o h n no => q.keep a o (p.keep a o h n no) (fun z => by
    rcases p.new a z with z | z
    · exact n z
    · rw [h] at z; cases z) fun z => by
    rcases p.own a z with z | z
    · exact no z
    · rw [h] at z; cases z
  grow := fun a h => p.grow a (q.grow a h)
theorem OwnAt.get (h : OwnAt σ env i a) : ∃ s, env[i]? = some s ∧ s.isOwn = true ∧ σ[i]? = some (some (.ref a)) := let ⟨h1, s, h2, h3⟩ := h; ⟨s, h2, h3, h1⟩
theorem SlQ.own {F : Addr → Prop} {s : Sl} {a : Addr} (h : SlQ T G0 F μ H s (some (.ref a))) (ho : s.isOwn = true) : ¬ G0 a ∧ a ∉ μ ∧ H a ≠ none := by
  cases s with
  | no => cases ho
  | v _ => cases ho
  | ol ds => obtain ⟨b, e, h1, h2, h3⟩ := h; cases e; exact ⟨h1, h2, h3.some⟩
  | od ds => obtain ⟨b, e, h1, h2, h3⟩ := h; cases e; exact ⟨h1, h2, h3.some⟩
theorem GoodS.ownOk (g : GoodS T G0 μ H σ env st) {a : Addr} (h : Own σ env a) : ¬ G0 a ∧ a ∉ μ ∧ H a ≠ none := by
  obtain ⟨i, h1, s, h2, h3⟩ := h
  exact (g.at_ i s _ h2 h1).own h3
theorem GoodS.good (g : GoodS T G0 μ H σ env st) : Good T (GO G0 σ env) μ H σ env st where
  dom := fun a z => by
    rcases z with z | z
    · exact g.dom a z
    · exact (g.ownOk z).2.2
  dis := fun a ha z => by
    rcases z with z | z
    · exact g.dis a ha z
    · exact (g.ownOk z).2.1 ha
  sto := g.sto
  en := ⟨g.len, fun i s x h1 h2 => by
    have h := g.at_ i s x h1 h2
    cases s with
    | no => trivial
    | v d => exact h
    | ol ds => obtain ⟨a, rfl, _, n, r⟩ := h; exact ⟨a, rfl, .inr (.inr ⟨i, h2, _, h1, rfl⟩), n, r⟩
    | od ds => obtain ⟨a, rfl, _, n, r⟩ := h; exact ⟨a, rfl, .inr (.inr ⟨i, h2, _, h1, rfl⟩), n, r⟩⟩
theorem SlQ.mv {F F' : Addr → Prop} (m : Mv H H' F F' μ μ') {s : Sl} {x : Option V} (k : s.isOwn = true → ∀ a, x = some (.ref a) → a ∉ μ → H a ≠ none → (∀ o, H a = some o → H' a = some o) ∧ a ∉ μ') (h : SlQ T G0 F μ H s x) : SlQ T G0 F' μ' H' s x := by
  cases s with
  | no => trivial
  | v d => obtain ⟨v, e, h⟩ := h; exact ⟨v, e, Rep.mv m d v h⟩
  | ol ds =>
    obtain ⟨a, e, f, n, h⟩ := h
    obtain ⟨k1, k2⟩ := k rfl a e n h.some
    exact ⟨a, e, f, k2, h.mv m k1⟩
  | od ds =>
    obtain ⟨a, e, f, n, h⟩ := h
    obtain ⟨k1, k2⟩ := k rfl a e n h.some
    exact ⟨a, e, f, k2, h.mv m k1⟩
/-- behind an expression -/
theorem GoodS.post (g : GoodS T G0 μ H σ env st) (p : Post T (GO G0 σ env) μ H μ' H' st') : GoodS T G0 μ' H' σ env st' where
  dom := fun a z => (g.good.toGoodT.post p).dom a (.inl z)
  dis := fun a ha z => (g.good.toGoodT.post p).dis a ha (.inl z)
  sto := p.sto
  len := g.len
  at_ := fun i s x h1 h2 => (g.at_ i s x h1 h2).mv p.mv fun _ a _ n hs => ⟨fun o e => p.keep a o e n, fun z => by
    rcases p.new a z with z | z
    · exact n z
    · exact hs z⟩
  ds := g.ds
theorem StepR.ofPost (g : GoodS T G0 μ H σ env st) (p : Post T (GO G0 σ env) μ H μ' H' st') : StepR μ (Own σ env) H μ' (Own σ env) H' := ⟨p.mu, p.new, fun _ z => .inl z, fun a o e n _ => p.keep a o e n, fun a z => Post.back g.good.toGoodT p z⟩
/-- fewer own: what was read stays -/
theorem mvLess {F F' : Addr → Prop} (h : ∀ a, F' a → F a) : Mv H H F F' μ μ := ⟨fun _ _ e _ => e, fun a z => .inl (h a z), List.prefix_refl _⟩
theorem StR.less {F F' : Addr → Prop} (s : StR T F μ H st) (h : ∀ a, F' a → F a) : StR T F' μ H st :=
  ⟨s.len, s.nd, fun i o a h1 h2 => (s.ob i o a h1 h2).mv (mvLess h) (fun _ e => e) (fun _ z => .inl z) fun _ _ e _ => e⟩
theorem ownSet {i : Nat} {x : Option V} {s : Sl} (ho : s.isOwn = false) {j : Nat} {a : Addr} (h : OwnAt (σ.set i x) (env.set i s) j a) : j ≠ i ∧ OwnAt σ env j a := by
  obtain ⟨h1, t, h2, h3⟩ := h
  by_cases c : i = j
  · subst c
    have hl : i < env.length := by
      have := (List.getElem?_eq_some_iff.mp h2).1
      rwa [List.length_set] at this
    rw [List.getElem?_set_self hl] at h2
    cases h2
    rw [ho] at h3; cases h3
  · rw [List.getElem?_set_ne c] at h1 h2
    exact ⟨fun z => c z.symm, h1, t, h2, h3⟩
/-- a slot takes a datum -/
theorem GoodS.setV {i : Nat} {d : D} {v : V} (g : GoodS T G0 μ H σ env st) (r : Rep T H (FF (GO G0 σ env) μ) μ d v) : GoodS T G0 μ H (σ.set i (some v)) (env.set i (.v d)) st ∧ StepR μ (Own σ env) H μ (Own (σ.set i (some v)) (env.set i (.v d))) H := by
  have lo : ∀ a, Own (σ.set i (some v)) (env.set i (.v d)) a → Own σ env a := fun a ⟨j, h⟩ => ⟨j, (ownSet rfl h).2⟩
  have lf : ∀ a, FF (GO G0 (σ.set i (some v)) (env.set i (.v d))) μ a → FF (GO G0 σ env) μ a := fun a z => by
    rcases z with z | z | z
    · exact .inl z
    · exact .inr (.inl z)
    · exact .inr (.inr (lo a z))
  refine ⟨⟨g.dom, g.dis, g.sto.less lf, by rw [List.length_set, List.length_set]; exact g.len, fun j s x h1 h2 => ?_, fun j k a h1 h2 => g.ds j k a (ownSet rfl h1).2 (ownSet rfl h2).2⟩, ⟨List.prefix_refl _, fun _ z => .inl z, fun a z => .inl (lo a z), fun _ _ e _ _ => e, fun _ z => z⟩⟩
  by_cases c : i = j
  · subst c
    have hl : i < env.length := by
      have := (List.getElem?_eq_some_iff.mp h1).1
      rwa [List.length_set] at this
    rw [List.getElem?_set_self hl] at h1
    rw [List.getElem?_set_self (by rw [← g.len]; exact hl)] at h2
    cases h1; cases h2
    exact ⟨v, rfl, Rep.mv (mvLess lf) d v r⟩
  · rw [List.getElem?_set_ne c] at h1 h2
    exact (g.at_ j s x h1 h2).mv (mvLess lf) fun _ a _ n hs => ⟨fun _ e => e, n⟩
end

/-! ### statements -/
/-- what an end asks -/
def EndS (T : Tb) (G0 : Addr → Prop) (μ : List Addr) (ow : Addr → Prop) (H : Hp) (st' : Store) (D : Ends) : Out → Prop
  | .nx e => ∀ σ' H' μ', GoodS T G0 μ' H' σ' e st' → StepR μ ow H μ' (Own σ' e) H' → D.nx σ' H'
  | .ct e => ∀ σ' H' μ', GoodS T G0 μ' H' σ' e st' → StepR μ ow H μ' (Own σ' e) H' → D.ct σ' H'
  | .bk e => ∀ σ' H' μ', GoodS T G0 μ' H' σ' e st' → StepR μ ow H μ' (Own σ' e) H' → D.bk σ' H'
  | .rt d => ∀ v H' μ', StR T (FF G0 μ') μ' H' st' → StepR μ ow H μ' (fun _ => False) H' → Rep T H' (FF G0 μ') μ' d v → D.rt v H'
def rdS (T : Tb) (ev : Env → M Out) : TS := fun D σ H => ∃ G0 μ env st o st', GoodS T G0 μ H σ env st ∧ ev env st = .ok o st' ∧ EndS T G0 μ (Own σ env) H st' D o
theorem EndS.step {T : Tb} {G0 : Addr → Prop} {H H' : Hp} {μ μ' : List Addr} {ow ow' : Addr → Prop} {st' : Store} {D : Ends} {o : Out} (p : StepR μ ow H μ' ow' H') (h : EndS T G0 μ ow H st' D o) : EndS T G0 μ' ow' H' st' D o := by
  cases o with
  | nx e => exact fun σ' H2 μ2 g s => h σ' H2 μ2 g (p.trans s)
  | ct e => exact fun σ' H2 μ2 g s => h σ' H2 μ2 g (p.trans s)
  | bk e => exact fun σ' H2 μ2 g s => h σ' H2 μ2 g (p.trans s)
  | rt d => exact fun v H2 μ2 g s r => h v H2 μ2 g (p.trans s) r
section
variable {X : Cx} {T : Tb} {P : Prog} {cf : Calls} {pos p pos' apos cpos : Pos} {a b c e o tg : Expr} {xa xb xc xe xs xo xt sx bx bx' : PD.X} {fa pa fb pb : Bool} {es : List Expr} {x : Str} {s : Stmt} {sts sts' : List Stmt} {i : Nat}
abbrev PXS (X : Cx) (T : Tb) (P : Prog) (cf : Calls) (s : Stmt) (x : PD.X) : Prop := PS X s (rdS T (evS P cf x))
abbrev PXB (X : Cx) (T : Tb) (P : Prog) (cf : Calls) (s : List Stmt) (x : PD.X) : Prop := PSs X s (rdS T (evB P cf x))
theorem xb_nil : PXB X T P cf [] .nil := PSs.imp pss_nil fun D σ H ⟨G0, μ, env, st, o, st', g, e, q⟩ => by
  obtain ⟨rfl, rfl⟩ := ret_inv (show ret (.nx env) st = .ok o st' from e)
  exact q σ H μ g .refl
/-- a statement ahead of others, as readings -/
theorem seqR {σ : L2.St} {H : Hp} {D : Ends} (h : rdS T (evB P cf (.cons sx bx)) D σ H) : rdS T (evS P cf sx) { D with nx := rdS T (evB P cf bx) D } σ H := by
  obtain ⟨G0, μ, env, st, o, st', g, e, q⟩ := h
  obtain ⟨o1, st1, e1, e2⟩ := bnd_inv (show bnd (evS P cf sx env) (fun o => match o with | .nx e => evB P cf bx e | o => ret o) st = .ok o st' from e)
  refine ⟨G0, μ, env, st, o1, st1, g, e1, ?_⟩
  cases o1 with
  | nx e' => exact fun σ' H' μ' g' s' => ⟨G0, μ', e', st1, o, st', g', e2, q.step s'⟩
  | ct e' => obtain ⟨rfl, rfl⟩ := ret_inv (show ret (Out.ct e') st1 = .ok o st' from e2); exact q
  | bk e' => obtain ⟨rfl, rfl⟩ := ret_inv (show ret (Out.bk e') st1 = .ok o st' from e2); exact q
  | rt d => obtain ⟨rfl, rfl⟩ := ret_inv (show ret (Out.rt d) st1 = .ok o st' from e2); exact q
theorem xb_cons (h1 : PXS X T P cf s sx) (h2 : PXB X T P cf sts bx) : PXB X T P cf (s :: sts) (.cons sx bx) := PSs.imp (pss_cons h1 h2) fun _ _ _ h => seqR h
/-- a step that the program does not write -/
theorem xb_ghost (h2 : PXB X T P cf sts bx) (hs : ∀ D σ H, rdS T (evS P cf sx) { D with nx := rdS T (evB P cf bx) D } σ H → rdS T (evB P cf bx) D σ H) : PXB X T P cf sts (.cons sx bx) := PSs.imp h2 fun D σ H h => hs D σ H (seqR h)
theorem xs_pass : PXS X T P cf (.Pass pos) .pass_ := PS.imp ps_pass fun D σ H ⟨G0, μ, env, st, o, st', g, e, q⟩ => by
  obtain ⟨rfl, rfl⟩ := ret_inv (show ret (.nx env) st = .ok o st' from e)
  exact q σ H μ g .refl
theorem xs_brk : PXS X T P cf (.Break pos) .brk := PS.imp ps_break fun D σ H ⟨G0, μ, env, st, o, st', g, e, q⟩ => by
  obtain ⟨rfl, rfl⟩ := ret_inv (show ret (.bk env) st = .ok o st' from e)
  exact q σ H μ g .refl
theorem xs_cnt : PXS X T P cf (.Continue pos) .cnt := PS.imp ps_continue fun D σ H ⟨G0, μ, env, st, o, st', g, e, q⟩ => by
  obtain ⟨rfl, rfl⟩ := ret_inv (show ret (.ct env) st = .ok o st' from e)
  exact q σ H μ g .refl
theorem xs_doc {y : Str} {j : Nat} : PXS X T P cf (.Expr (.Constant (.str y) j pos) pos') .pass_ := PS.imp ps_doc fun D σ H ⟨G0, μ, env, st, o, st', g, e, q⟩ => by
  obtain ⟨rfl, rfl⟩ := ret_inv (show ret (.nx env) st = .ok o st' from e)
  exact q σ H μ g .refl
theorem xs_never : PXS X T P cf s .never := PS.imp ps_never fun D σ H ⟨G0, μ, env, st, o, st', g, e, q⟩ => by
  exact nomatch (show (fail : M Out) st = .ok o st' from e)
theorem xs_ex (he : PX X T P cf e xe fa pa) (hs : swapsWith e none pos.line X.env = pure false) : PXS X T P cf (.Expr e pos) (.ex xe) := PS.imp (ps_expr he hs) fun D σ H ⟨G0, μ, env, st, o, st', g, ev, q⟩ => by
  obtain ⟨d, st1, e1, e2⟩ := bnd_inv (show bnd (evE P cf xe env) (fun _ => ret (.nx env)) st = .ok o st' from ev)
  obtain ⟨rfl, rfl⟩ := ret_inv e2
  exact ⟨_, μ, env, st, d, _, g.good, e1, fun v H1 μ1 p1 r1 => q σ H1 μ1 (g.post p1) (.ofPost g p1)⟩
theorem StepR.less {ow ow' ow2 : Addr → Prop} {μ μ' : List Addr} {H H' : Hp} (p : StepR μ ow H μ' ow' H') (h : ∀ a, ow2 a → ow' a) : StepR μ ow H μ' ow2 H' := ⟨p.mu, p.new, fun a z => p.own a (h a z), p.keep, p.grow⟩
theorem go_less {G0 : Addr → Prop} {σ : L2.St} {env : Env} {μ : List Addr} : ∀ a, FF G0 μ a → FF (GO G0 σ env) μ a := fun a z => by
  rcases z with z | z
  · exact .inl z
  · exact .inr (.inl z)
theorem xs_rt (he : PX X T P cf e xe fa false) : PXS X T P cf (.Return (some e) pos) (.rt xe) := PS.imp (ps_ret he) fun D σ H ⟨G0, μ, env, st, o, st', g, ev, q⟩ => by
  obtain ⟨d, st1, e1, e2⟩ := bnd_inv (show bnd (evE P cf xe env) (fun d => ret (.rt d)) st = .ok o st' from ev)
  obtain ⟨rfl, rfl⟩ := ret_inv e2
  exact ⟨_, μ, env, st, d, _, g.good, e1, fun v H1 μ1 p1 r1 => q v H1 μ1 (p1.sto.less go_less) ((StepR.ofPost g p1).less fun _ z => z.elim) (Rep.mv (mvLess go_less) d v (r1.rep rfl))⟩
theorem xs_rtN : PXS X T P cf (.Return none pos) .rtN := PS.imp ps_retN fun D σ H ⟨G0, μ, env, st, o, st', g, ev, q⟩ => by
  obtain ⟨rfl, rfl⟩ := ret_inv (show ret (.rt .non) st = .ok o st' from ev)
  exact q .non H μ (g.sto.less go_less) (StepR.refl.less fun _ z => z.elim) rfl
theorem xs_if (hc : PXT X T P cf c xc) (ha : PXB X T P cf sts bx) (hb : PXB X T P cf sts' bx') : PXS X T P cf (.If c sts sts' pos) (.if_ xc bx bx') := PS.imp (ps_if hc ha hb) fun D σ H ⟨G0, μ, env, st, o, st', g, ev, q⟩ => by
  obtain ⟨k, st1, e1, e2⟩ := bnd_inv (show bnd (bnd (evE P cf xc env) blD) (fun c => if c then evB P cf bx env else evB P cf bx' env) st = .ok o st' from ev)
  refine ⟨_, μ, env, st, k, st1, g.good, e1, fun H1 μ1 p1 => ?_⟩
  cases k with
  | true => exact ⟨G0, μ1, env, st1, o, st', g.post p1, e2, q.step (.ofPost g p1)⟩
  | false => exact ⟨G0, μ1, env, st1, o, st', g.post p1, e2, q.step (.ofPost g p1)⟩
/-- name = e -/
theorem xs_asg (hN : X.N.Nodup) (hi : X.N[i]? = some x) (hx : Loc X.env.scope x) (he : PX X T P cf e xe fa false) (hs : swapsWith e (some (.Name x pos')) pos.line X.env = pure false) (hf : X.fn x = true ∨ X.env.scope.names.lookup x = some .local) :
    PXS X T P cf (.Assign [.Name x pos'] e pos) (.asg i (.pl xe)) := PS.imp (ps_set hN hi hx he hs hf) fun D σ H ⟨G0, μ, env, st, o, st', g, ev, q⟩ => by
  obtain ⟨s0, st1, e1, e2⟩ := bnd_inv (show bnd (evSl P cf (.pl xe) env) (fun s => ret (.nx (env.set i s))) st = .ok o st' from ev)
  obtain ⟨d, st2, e3, e4⟩ := bnd_inv (show bnd (evE P cf xe env) (fun d => ret (.v d)) st = .ok s0 st1 from e1)
  obtain ⟨rfl, rfl⟩ := ret_inv e4
  obtain ⟨rfl, rfl⟩ := ret_inv e2
  refine ⟨_, μ, env, st, d, _, g.good, e3, fun v H1 μ1 p1 r1 => ?_⟩
  obtain ⟨g2, s2⟩ := (g.post p1).setV (i := i) (r1.rep rfl)
  exact q _ H1 μ1 g2 ((StepR.ofPost g p1).trans s2)
end
end PD
end ZPDStm
section ZPDLoop
set_option Elab.async false
set_option linter.all false
set_option maxRecDepth 100000
set_option maxHeartbeats 1000000
namespace PD
open PySem PySem.Spec L2 PyProof.Rows

section
variable {X : Cx} {T : Tb} {P : Prog} {cf : Calls} {pos p pos' apos cpos : Pos} {a b c e o tg it : Expr} {xa xb xc xe xs xo xt xg xi sx bx bx' : PD.X} {fa pa fb pb pk : Bool} {es : List Expr} {x : Str} {s : Stmt} {sts sts' : List Stmt} {i : Nat}
/-- behind a target -/
theorem GoodS.tgt {G0 : Addr → Prop} {μ : List Addr} {H : Hp} {σ σ' : L2.St} {env env' : Env} {st : Store} {sl : List Nat} (g : GoodS T G0 μ H σ env st) (g' : Good T (GO G0 σ env) μ H σ' env' st)
    (h1 : σ'.length = σ.length ∧ ∀ i, i ∉ sl → σ'[i]? = σ[i]?) (h2 : ∀ i, i ∉ sl → env'[i]? = env[i]?) (h3 : ∀ i, i ∈ sl → (∃ d, env'[i]? = some (.v d)) ∨ env'[i]? = none) : GoodS T G0 μ H σ' env' st ∧ StepR μ (Own σ env) H μ (Own σ' env') H := by
  have lo : ∀ i a, OwnAt σ' env' i a → OwnAt σ env i a := fun i a ⟨k1, s, k2, k3⟩ => by
    by_cases c : i ∈ sl
    · rcases h3 i c with ⟨d, e⟩ | e
      · rw [e] at k2; cases k2; cases k3
      · rw [e] at k2; cases k2
    · exact ⟨by rw [← h1.2 i c]; exact k1, s, by rw [← h2 i c]; exact k2, k3⟩
  have lf : ∀ a, FF (GO G0 σ' env') μ a → FF (GO G0 σ env) μ a := fun a z => by
    rcases z with z | z | ⟨i, z⟩
    · exact .inl z
    · exact .inr (.inl z)
    · exact .inr (.inr ⟨i, lo i a z⟩)
  refine ⟨⟨g.dom, g.dis, g.sto.less lf, g'.en.len, fun j s x k1 k2 => ?_, fun i j a k1 k2 => g.ds i j a (lo _ _ k1) (lo _ _ k2)⟩, ⟨List.prefix_refl _, fun _ z => .inl z, fun a ⟨i, z⟩ => .inl ⟨i, lo i a z⟩, fun _ _ e _ _ => e, fun _ z => z⟩⟩
  by_cases c : j ∈ sl
  · rcases h3 j c with ⟨d, e⟩ | e
    · rw [e] at k1
      cases k1
      obtain ⟨v, e2, r⟩ := g'.en.at_ j _ _ e k2
      exact ⟨v, e2, Rep.mv (mvLess lf) d v r⟩
    · rw [e] at k1; cases k1
  · rw [h2 j c] at k1
    rw [h1.2 j c] at k2
    exact (g.at_ j s x k1 k2).mv (mvLess lf) fun _ a _ n hs => ⟨fun _ e => e, n⟩
abbrev PXG (X : Cx) (T : Tb) (tg : Expr) (x : PD.X) (sl : List Nat) : Prop := PG X tg (rdG T (bindT x) sl)
abbrev PXGs (X : Cx) (T : Tb) (tg : List Expr) (x : PD.X) (sl : List Nat) : Prop := PGs X tg (rdGs T (bindTs x) sl)
theorem xg_name (hN : X.N.Nodup) (hi : X.N[i]? = some x) (hx : Loc X.env.scope x) (hf : X.fn x = true ∨ X.env.scope.names.lookup x = some .local) : PXG X T (.Name x pos) (.tv i) [i] := sg_name hN hi hx hf
theorem xg_nil : PXGs X T [] .nil [] := PGs.imp sg_nil fun v σ H Q ⟨G, μ, env, st, ds, env', g, r, e, q⟩ => ⟨G, μ, env, st, ds, env', g, r, (by cases ds with | nil => exact e | cons _ _ => exact (nomatch e)), q⟩
theorem xg_cons {sl sls : List Nat} (h1 : PXG X T e xe sl) (h2 : PXGs X T es xs sls) (hs : (assignEach (e :: es) X.env).map (·.2) = assign e X.env :: (assignEach es X.env).map (·.2)) : PXGs X T (e :: es) (.cons xe xs) (sl ++ sls) :=
  PGs.imp (sg_cons h1 h2 hs) fun v σ H Q ⟨G, μ, env, st, ds, env', g, r, ev, q⟩ => ⟨G, μ, env, st, ds, env', g, r, (by cases ds with | nil => exact (nomatch ev) | cons d ds => exact ev), q⟩
def lenX : PD.X → Nat
  | .cons _ t => lenX t + 1
  | _ => 0
theorem bindTs_length (x : PD.X) : ∀ (ds : List D) (env env' : Env), bindTs x ds env = some env' → ds.length = lenX x := by
  induction x with
  | nil =>
    intro ds env env' h
    cases ds with
    | nil => rfl
    | cons _ _ => exact (nomatch h)
  | cons t ts _ ih =>
    intro ds env env' h
    cases ds with
    | nil => exact (nomatch h)
    | cons d ds =>
      obtain ⟨e1, h1, h2⟩ := Option.bind_eq_some_iff.mp (show (bindT t d env).bind (bindTs ts ds) = some env' from h)
      show ds.length + 1 = lenX ts + 1
      rw [ih ds e1 env' h2]
  | _ =>
    intro ds env env' h
    exact (nomatch h)
theorem xg_tup {k : Nat} {sls : List Nat} (h : XT T X) (h1 : PXGs X T es xs sls) (hn : (assignEach es X.env).length = lenX xs) (hst : (assignEach es X.env).findIdx? (·.1) = none) : PXG X T (.Tuple es k pos) (.tt xs) sls :=
  PG.imp (sg_tup h h1 (lenX xs) hn hst fun ds env env' e => bindTs_length _ _ _ _ e) fun v σ H Q ⟨G, μ, env, st, d, env', g, r, ev, q⟩ => ⟨G, μ, env, st, d, env', g, r, (by cases d <;> first | exact ev | exact (nomatch ev)), q⟩
/-- a, b = e -/
theorem xs_tgt {sl : List Nat} (he : PX X T P cf e xe fa false) (hg : PXG X T tg xg sl) (hs : swapsWithSole [tg] e pos.line X.env = pure false) (hw : swappedStores [tg] e X.env = pure none) (h1 : (assignEach [tg] X.env).map (·.2) = [assign tg X.env]) :
    PXS X T P cf (.Assign [tg] e pos) (.tgt xg xe) := PS.imp (ps_asg he hg hs hw h1) fun D σ H ⟨G0, μ, env, st, o, st', g, ev, q⟩ => by
  obtain ⟨d, st1, e1, e2⟩ := bnd_inv (show bnd (evE P cf xe env) (fun d => bnd (opt (bindT xg d env)) fun e => ret (.nx e)) st = .ok o st' from ev)
  obtain ⟨env', st2, e3, e4⟩ := bnd_inv e2
  obtain ⟨e5, rfl⟩ := opt_inv e3
  obtain ⟨rfl, rfl⟩ := ret_inv e4
  refine ⟨_, μ, env, st, d, _, g.good, e1, fun v H1 μ1 p1 r1 => ?_⟩
  have g1 := g.post p1
  refine ⟨_, μ1, env, _, d, env', g1.good, r1.rep rfl, e5, fun σ' g2 k1 k2 k3 => ?_⟩
  obtain ⟨g3, s3⟩ := g1.tgt g2 k1 k2 k3
  exact q σ' H1 μ1 g3 ((StepR.ofPost g p1).trans s3)
theorem StepR.mvOf {G0 : Addr → Prop} {μ μ' : List Addr} {H H' : Hp} {σ σ' : L2.St} {env env' : Env} (p : StepR μ (Own σ env) H μ' (Own σ' env') H') : Mv H H' (FF (GO G0 σ env) μ) (FF (GO G0 σ' env') μ') μ μ' where
  kp := fun a o e n => p.keep a o e (fun z => n (.inl z)) fun z => n (.inr (.inr z))
  fb := fun a z => by
    rcases z with z | z | z
    · rcases p.new a z with z | z
      · exact .inl (.inl z)
      · exact .inr z
    · exact .inl (.inr (.inl z))
    · rcases p.own a z with z | z
      · exact .inl (.inr (.inr z))
      · exact .inr z
  mu := p.mu
/-- for -/
theorem xs_for {sl : List Nat} (hp : PassesOwn (model X.prog X.w) X.A X.env X.xe) (hc : X.calm = true) (hi : PXI X T P cf tg it xi false) (hg : PXG X T tg xg sl) (hb : PXB X T P cf sts bx) (hs : ∀ x, foldedSetIterable it X.env x = pure x) :
    PXS X T P cf (.For tg it sts [] pos) (.for_ xg xi bx) := PS.imp (ps_for hp hc hi hg hb hs) fun D σ H ⟨G0, μ, env, st, o, st', g, ev, q⟩ => by
  let f : PD.D → Env → M Out := fun d e => match bindT xg d e with | some e => evB P cf bx e | none => fail
  obtain ⟨ds, st1, e1, e2⟩ := bnd_inv (show bnd (evIt P cf xi env) (fun ds => forL f ds env) st = .ok o st' from ev)
  clear ev
  refine ⟨_, μ, env, st, ds, st1, g.good, e1, fun J H1 μ1 p1 jw => ?_⟩
  have g1 := g.post p1
  have q1 := q.step (.ofPost g p1)
  obtain ⟨stay, js, jk, jy, je⟩ := jw.stay
  refine ⟨fun i m σ2 H2 => m = ds.length - i ∧ i ≤ ds.length ∧ ∃ μ2 env2 st2, GoodS T G0 μ2 H2 σ2 env2 st2 ∧ StepR μ1 (Own σ env) H1 μ2 (Own σ2 env2) H2 ∧ forL f (ds.drop i) env2 st2 = .ok o st', ⟨ds.length, by simp, Nat.zero_le _, μ1, env, st1, g1, .refl, by simpa using e2⟩, ?_⟩
  rintro i m σ2 H2 ⟨rfl, hil, μ2, env2, st2, g2, s2, ef⟩
  have hst : stay H2 := jk H2 fun a o ea na => s2.keep a o ea (fun z => na (.inl z)) fun z => na (.inr (.inr z))
  by_cases hlt : i < ds.length
  · have hd : ds[i]? = some ds[i] := by simp [hlt]
    obtain ⟨go, yl⟩ := jy i _ H2 hst hd
    rw [List.drop_eq_getElem_cons hlt] at ef
    obtain ⟨o1, st3, f1, f2⟩ := bnd_inv (show bnd (f ds[i] env2) (fun o => match o with | .nx e | .ct e => forL f (ds.drop (i + 1)) e | .bk e => ret (.nx e) | .rt x => ret (.rt x)) st2 = .ok o st' from ef)
    refine .inr ⟨go, fun σ3 H3 => i + 1 ≤ ds.length ∧ ∃ μ2 env2 st2, GoodS T G0 μ2 H3 σ3 env2 st2 ∧ StepR μ1 (Own σ env) H1 μ2 (Own σ3 env2) H3 ∧ forL f (ds.drop (i + 1)) env2 st2 = .ok o st', fun σ3 H3 z => ⟨ds.length - (i + 1), by omega, rfl, z⟩, fun x H3 y3 => ?_⟩
    obtain ⟨mono3, r3⟩ := yl x H3 y3
    have p3 : Post T (GO G0 σ2 env2) μ2 H2 μ2 H3 st2 := Post.more g2.good.toGoodT mono3
    have g3 := g2.post p3
    have s3 := s2.trans (.ofPost g2 p3)
    cases hft : bindT xg ds[i] env2 with
    | none =>
      have : f ds[i] env2 = fail := by show (match bindT xg ds[i] env2 with | some e => evB P cf bx e | none => fail) = fail; rw [hft]
      rw [this] at f1; cases f1
    | some env3 =>
      have hf' : f ds[i] env2 = evB P cf bx env3 := by show (match bindT xg ds[i] env2 with | some e => evB P cf bx e | none => fail) = _; rw [hft]
      rw [hf'] at f1
      refine ⟨_, μ2, env2, st2, ds[i], env3, g3.good, r3 _ _ s2.mvOf, hft, fun σ4 g4 k1 k2 k3 => ?_⟩
      obtain ⟨g5, s5⟩ := g3.tgt g4 k1 k2 k3
      have s6 := s3.trans s5
      refine ⟨G0, μ2, env3, st2, o1, st3, g5, f1, ?_⟩
      cases o1 with
      | nx e3 => exact fun σ7 H7 μ7 g7 s7 => ⟨hlt, μ7, e3, st3, g7, s6.trans s7, f2⟩
      | ct e3 => exact fun σ7 H7 μ7 g7 s7 => ⟨hlt, μ7, e3, st3, g7, s6.trans s7, f2⟩
      | bk e3 =>
        obtain ⟨rfl, rfl⟩ := ret_inv (show ret (.nx e3) st3 = .ok o st' from f2)
        exact fun σ7 H7 μ7 g7 s7 => q1 σ7 H7 μ7 g7 (s6.trans s7)
      | rt d3 =>
        obtain ⟨rfl, rfl⟩ := ret_inv (show ret (.rt d3) st3 = .ok o st' from f2)
        exact fun v H7 μ7 g7 s7 r7 => q1 v H7 μ7 g7 (s6.trans s7) r7
  · have hi' : i = ds.length := by omega
    subst hi'
    rw [List.drop_length] at ef
    obtain ⟨rfl, rfl⟩ := ret_inv (show ret (.nx env2) st2 = .ok o st' from ef)
    exact .inl ⟨je H2 hst, q1 σ2 H2 μ2 g2 s2⟩
/-- while -/
theorem xs_while (hp : PassesOwn (model X.prog X.w) X.A X.env X.xe) (hc : PXT X T P cf c xc) (hb : PXB X T P cf sts bx) : PXS X T P cf (.While c sts [] pos) (.while_ xc bx) := PS.imp (ps_while hp hc hb) fun D σ H ⟨G0, μ, env, st, o, st', g, ev, q⟩ => by
  have ev' : whileL (fun e => bnd (evE P cf xc e) blD) (fun e => evB P cf bx e) P.fuel env st = .ok o st' := ev
  refine ⟨fun m σ2 H2 => ∃ μ2 env2 st2, GoodS T G0 μ2 H2 σ2 env2 st2 ∧ StepR μ (Own σ env) H μ2 (Own σ2 env2) H2 ∧ whileL (fun e => bnd (evE P cf xc e) blD) (fun e => evB P cf bx e) m env2 st2 = .ok o st', ⟨P.fuel, μ, env, st, g, .refl, ev'⟩, ?_⟩
  rintro m σ2 H2 ⟨μ2, env2, st2, g2, s2, ef⟩
  cases m with
  | zero => exact nomatch (show (fail : M Out) st2 = .ok o st' from ef)
  | succ n =>
    obtain ⟨k, st3, f1, f2⟩ := bnd_inv (show bnd (bnd (evE P cf xc env2) blD) (fun c => if c then bnd (evB P cf bx env2) (fun o => match o with
      | .nx e | .ct e => whileL (fun e => bnd (evE P cf xc e) blD) (fun e => evB P cf bx e) n e
      | .bk e => ret (.nx e)
      | .rt x => ret (.rt x)) else ret (.nx env2)) st2 = .ok o st' from ef)
    refine ⟨_, μ2, env2, st2, k, st3, g2.good, f1, fun H3 μ3 p3 => ?_⟩
    have g3 := g2.post p3
    have s3 := s2.trans (.ofPost g2 p3)
    cases k with
    | false =>
      obtain ⟨rfl, rfl⟩ := ret_inv (show ret (.nx env2) st3 = .ok o st' from f2)
      exact q σ2 H3 μ3 g3 s3
    | true =>
      obtain ⟨o1, st4, f3, f4⟩ := bnd_inv f2
      refine ⟨fun σ4 H4 => ∃ μ4 env4 st4, GoodS T G0 μ4 H4 σ4 env4 st4 ∧ StepR μ (Own σ env) H μ4 (Own σ4 env4) H4 ∧ whileL (fun e => bnd (evE P cf xc e) blD) (fun e => evB P cf bx e) n env4 st4 = .ok o st', fun σ4 H4 z => ⟨n, Nat.lt_succ_self _, z⟩, G0, μ3, env2, st3, o1, st4, g3, f3, ?_⟩
      cases o1 with
      | nx e3 => exact fun σ7 H7 μ7 g7 s7 => ⟨μ7, e3, st4, g7, s3.trans s7, f4⟩
      | ct e3 => exact fun σ7 H7 μ7 g7 s7 => ⟨μ7, e3, st4, g7, s3.trans s7, f4⟩
      | bk e3 =>
        obtain ⟨rfl, rfl⟩ := ret_inv (show ret (.nx e3) st4 = .ok o st' from f4)
        exact fun σ7 H7 μ7 g7 s7 => q σ7 H7 μ7 g7 (s3.trans s7)
      | rt d3 =>
        obtain ⟨rfl, rfl⟩ := ret_inv (show ret (.rt d3) st4 = .ok o st' from f4)
        exact fun v H7 μ7 g7 s7 r7 => q v H7 μ7 g7 (s3.trans s7) r7
end
end PD
end ZPDLoop
section ZPDOwn
set_option Elab.async false
set_option linter.all false
set_option maxRecDepth 100000
set_option maxHeartbeats 1000000
namespace PD
open PySem PySem.Spec L2 PyProof.Rows

section
variable {T : Tb} {G0 : Addr → Prop} {H H' H2 : Hp} {μ μ' μ2 : List Addr} {σ σ' : L2.St} {env env' : Env} {st st' st2 : Store}
/-- a new state of the frame -/
theorem GoodS.build (g : GoodS T G0 μ H σ env st) {ow : Addr → Prop} (s : StepR μ (Own σ env) H μ' ow H') (sto : StR T (FF (fun a => G0 a ∨ ow a) μ') μ' H' st') (ch : Nat → Prop)
    (hl : σ'.length = σ.length ∧ env'.length = env.length) (same : ∀ j, ¬ ch j → σ'[j]? = σ[j]? ∧ env'[j]? = env[j]?) (kept : ∀ j a o, ¬ ch j → OwnAt σ env j a → H a = some o → H' a = some o)
    (slots : ∀ j s x, ch j → env'[j]? = some s → σ'[j]? = some x → SlQ T G0 (FF (fun a => G0 a ∨ ow a) μ') μ' H' s x) (lo : ∀ j a, OwnAt σ' env' j a → ow a) (ds : ∀ i j a, OwnAt σ' env' i a → OwnAt σ' env' j a → i = j) :
    GoodS T G0 μ' H' σ' env' st' ∧ StepR μ (Own σ env) H μ' (Own σ' env') H' := by
  have lf : ∀ a, FF (GO G0 σ' env') μ' a → FF (fun a => G0 a ∨ ow a) μ' a := fun a z => by
    rcases z with z | z | ⟨i, z⟩
    · exact .inl z
    · exact .inr (.inl z)
    · exact .inr (.inr (lo i a z))
  have mv : Mv H H' (FF (GO G0 σ env) μ) (FF (fun a => G0 a ∨ ow a) μ') μ μ' := ⟨fun a o e n => s.keep a o e (fun z => n (.inl z)) fun z => n (.inr (.inr z)), fun a z => by
    rcases z with z | z | z
    · rcases s.new a z with z | z
      · exact .inl (.inl z)
      · exact .inr z
    · exact .inl (.inr (.inl z))
    · rcases s.own a z with z | z
      · exact .inl (.inr (.inr z))
      · exact .inr z, s.mu⟩
  refine ⟨⟨fun a z => ?_, fun a ha z => ?_, sto.less lf, by rw [hl.1, hl.2]; exact g.len, fun j t x h1 h2 => ?_, ds⟩, s.less fun a ⟨i, z⟩ => lo i a z⟩
  · have h := g.dom a z
    cases e : H a with
    | none => exact absurd e h
    | some o => rw [s.keep a o e (fun y => g.dis a y z) fun y => (g.ownOk y).1 z]; simp
  · rcases s.new a ha with y | y
    · exact g.dis a y z
    · exact g.dom a z y
  · by_cases c : ch j
    · exact (slots j t x c h1 h2).mv (mvLess lf) fun _ a _ n hs => ⟨fun _ e => e, n⟩
    · obtain ⟨k1, k2⟩ := same j c
      rw [k2] at h1
      rw [k1] at h2
      refine ((g.at_ j t x h1 h2).mv mv fun ho a ex n hs => ⟨fun o e => kept j a o c ⟨by rw [h2, ex], t, h1, ho⟩ e, fun z => ?_⟩).mv (mvLess lf) fun _ a _ n hs => ⟨fun _ e => e, n⟩
      rcases s.new a z with y | y
      · exact n y
      · exact hs y
/-- an own object changed -/
theorem GoodS.put (g : GoodS T G0 μ H σ env st) {i : Nat} {a : Addr} {o : HO} {s' : Sl} (h : OwnAt σ env i a) (hn : ∀ b, H a ≠ some (.own b)) (ho : s'.isOwn = true) (hq : SlQ T G0 (FF (GO G0 σ env) μ) μ (upd H a o) s' (some (.ref a))) :
    GoodS T G0 μ (upd H a o) σ (env.set i s') st ∧ StepR μ (Own σ env) H μ (Own σ (env.set i s')) (upd H a o) := by
  have oa : Own σ env a := ⟨i, h⟩
  obtain ⟨n0, nμ, hs⟩ := g.ownOk oa
  have fa : FF (GO G0 σ env) μ a := .inr (.inr oa)
  have lo : ∀ j b, OwnAt σ (env.set i s') j b → OwnAt σ env j b := fun j b ⟨h1, t, h2, h3⟩ => by
    by_cases c : i = j
    · subst c; exact ⟨h1, h.2⟩
    · rw [List.getElem?_set_ne c] at h2; exact ⟨h1, t, h2, h3⟩
  refine g.build (ow := Own σ env) ⟨List.prefix_refl _, fun _ z => .inl z, fun _ z => .inl z, fun b u e _ no => ?_, fun b z => ?_⟩ ?_ (fun j => j = i) ⟨rfl, List.length_set ..⟩ (fun j c => ⟨rfl, List.getElem?_set_ne fun z => c z.symm⟩) (fun j b u c hb e => ?_) (fun j t x c h1 h2 => ?_) (fun j b z => ⟨j, lo j b z⟩) fun j k b h1 h2 => g.ds j k b (lo j b h1) (lo k b h2)
  · rw [upd_ne (by rintro rfl; exact no oa)]; exact e
  · by_cases c : b = a
    · subst c; rw [upd_same] at z; cases z
    · rw [upd_ne c] at z; exact z
  · refine ⟨g.sto.len, g.sto.nd, fun j w b h1 h2 => ?_⟩
    have hb : b ≠ a := fun z => nμ (z ▸ List.mem_of_getElem? h2)
    refine (g.sto.ob j w b h1 h2).mv (mvUpd fa) (fun q e => by rw [upd_ne hb]; exact e) (fun _ z => .inl z) fun c q e nc => ?_
    by_cases hc : c = a
    · subst hc; exact absurd e (hn _)
    · rw [upd_ne hc]; exact e
  · have : b ≠ a := fun z => c (g.ds j i a (z ▸ hb) h)
    rw [upd_ne this]; exact e
  · subst c
    rw [h.1] at h2
    cases h2
    have hl : j < env.length := by
      have := (List.getElem?_eq_some_iff.mp h1).1
      rwa [List.length_set] at this
    rw [List.getElem?_set_self hl] at h1
    cases h1
    exact hq
/-- what a name takes -/
def GV (G : Addr → Prop) (s : Sl) (v : V) : Addr → Prop := fun a => G a ∨ (s.isOwn = true ∧ v = .ref a)
structure SlV (T : Tb) (G : Addr → Prop) (H : Hp) (μ' : List Addr) (H' : Hp) (st' : Store) (s : Sl) (v : V) : Prop where
  new : s.isOwn = true → ∃ p, v = .ref p ∧ H p = none ∧ p ∉ μ'
  sto : StR T (FF (GV G s v) μ') μ' H' st'
  con : match s with
    | .no => False
    | .v d => Rep T H' (FF (GV G s v) μ') μ' d v
    | .ol ds => ∃ p, v = .ref p ∧ LstC T H' (FF (GV G s v) μ') μ' p ds
    | .od kvs => ∃ p, v = .ref p ∧ DctC T H' (FF (GV G s v) μ') μ' p kvs
def rdSl (T : Tb) (ev : Env → M Sl) : TE := fun σ H Q => ∃ G μ env st s st', Good T G μ H σ env st ∧ ev env st = .ok s st' ∧ ∀ v H' μ', Post T G μ H μ' H' st' → SlV T G H μ' H' st' s v → Q v H'
/-- a slot takes it -/
theorem GoodS.take (g : GoodS T G0 μ H σ env st) (p : Post T (GO G0 σ env) μ H μ' H' st') {i : Nat} {s : Sl} {v : V} (c : SlV T (GO G0 σ env) H μ' H' st' s v) :
    GoodS T G0 μ' H' (σ.set i (some v)) (env.set i s) st' ∧ StepR μ (Own σ env) H μ' (Own (σ.set i (some v)) (env.set i s)) H' := by
  have assoc : ∀ a, (FF (fun a => G0 a ∨ (Own σ env a ∨ (s.isOwn = true ∧ v = .ref a))) μ') a ↔ FF (GV (GO G0 σ env) s v) μ' a := fun a => by
    show (a ∈ μ' ∨ G0 a ∨ Own σ env a ∨ _) ↔ (a ∈ μ' ∨ (G0 a ∨ Own σ env a) ∨ _)
    constructor
    · rintro (z | z | z | z)
      · exact .inl z
      · exact .inr (.inl (.inl z))
      · exact .inr (.inl (.inr z))
      · exact .inr (.inr z)
    · rintro (z | (z | z) | z)
      · exact .inl z
      · exact .inr (.inl z)
      · exact .inr (.inr (.inl z))
      · exact .inr (.inr (.inr z))
  have gr := g.good.toGoodT
  have at_i : ∀ {x : Option V} {t : Sl}, (σ.set i (some v))[i]? = some x → (env.set i s)[i]? = some t → x = some v ∧ t = s := fun {x t} h1 h2 => by
    have hl : i < env.length := by
      have := (List.getElem?_eq_some_iff.mp h2).1
      rwa [List.length_set] at this
    rw [List.getElem?_set_self hl] at h2
    rw [List.getElem?_set_self (by rw [← g.len]; exact hl)] at h1
    cases h1; cases h2; exact ⟨rfl, rfl⟩
  have split : ∀ j a, OwnAt (σ.set i (some v)) (env.set i s) j a → (j = i ∧ s.isOwn = true ∧ v = .ref a) ∨ (j ≠ i ∧ OwnAt σ env j a) := fun j a ⟨h1, t, h2, h3⟩ => by
    by_cases cj : j = i
    · subst cj
      obtain ⟨e1, rfl⟩ := at_i h1 h2
      cases e1
      exact .inl ⟨rfl, h3, rfl⟩
    · rw [List.getElem?_set_ne fun z => cj z.symm] at h1 h2
      exact .inr ⟨cj, h1, t, h2, h3⟩
  have nofresh : ∀ a, s.isOwn = true → v = .ref a → ¬ Own σ env a := fun a h1 h2 z => by
    obtain ⟨pp, e, hn, _⟩ := c.new h1
    rw [h2] at e; cases e
    exact (g.ownOk z).2.2 hn
  refine g.build (ow := fun a => Own σ env a ∨ (s.isOwn = true ∧ v = .ref a)) ⟨p.mu, p.new, fun a z => ?_, fun a o e n _ => p.keep a o e n, fun a z => Post.back gr p z⟩ (c.sto.less fun a z => (assoc a).mp z) (fun j => j = i) ⟨List.length_set .., List.length_set ..⟩
    (fun j cj => ⟨List.getElem?_set_ne fun z => cj z.symm, List.getElem?_set_ne fun z => cj z.symm⟩) (fun j a o cj ha e => p.keep a o e (g.ownOk ⟨j, ha⟩).2.1) (fun j t x cj h1 h2 => ?_) (fun j a z => ?_) fun j k a h1 h2 => ?_
  · rcases z with z | ⟨z1, z2⟩
    · exact .inl z
    · obtain ⟨pp, e, hn, _⟩ := c.new z1
      rw [z2] at e; cases e; exact .inr hn
  · subst cj
    obtain ⟨rfl, rfl⟩ := at_i h2 h1
    have hc := c.con
    have ml : Mv H' H' (FF (GV (GO G0 σ env) t v) μ') (FF (fun a => G0 a ∨ (Own σ env a ∨ (t.isOwn = true ∧ v = .ref a))) μ') μ' μ' := mvLess fun a z => (assoc a).mp z
    have nw := c.new
    cases t with
    | no => exact hc.elim
    | v d => exact ⟨v, rfl, Rep.mv ml d v hc⟩
    | ol ds =>
      obtain ⟨pp, e1, hn, hm⟩ := nw rfl
      obtain ⟨p2, e2, h3⟩ := hc
      subst e1; cases e2
      exact ⟨pp, rfl, fun z => g.dom pp z hn, hm, h3.mv ml fun _ e => e⟩
    | od ds =>
      obtain ⟨pp, e1, hn, hm⟩ := nw rfl
      obtain ⟨p2, e2, h3⟩ := hc
      subst e1; cases e2
      exact ⟨pp, rfl, fun z => g.dom pp z hn, hm, h3.mv ml fun _ e => e⟩
  · rcases split j a z with ⟨_, z1, z2⟩ | ⟨_, z1⟩
    · exact .inr ⟨z1, z2⟩
    · exact .inl ⟨j, z1⟩
  · rcases split j a h1 with ⟨e1, z1, z2⟩ | ⟨n1, z1⟩ <;> rcases split k a h2 with ⟨e2, w1, w2⟩ | ⟨n2, w1⟩
    · rw [e1, e2]
    · exact absurd ⟨k, w1⟩ (nofresh a z1 z2)
    · exact absurd ⟨j, z1⟩ (nofresh a w1 w2)
    · exact g.ds j k a z1 w1
/-- an own list is one's own no more -/
theorem GoodS.freeze (g : GoodS T G0 μ H σ env st) {i : Nat} {s : Sl} {d : D} (he : env[i]? = some s) (hd : (∃ ds, s = .ol ds ∧ d = .lst ds) ∨ ∃ kvs, s = .od kvs ∧ d = .dct kvs) : GoodS T G0 μ H σ (env.set i (.v d)) st ∧ StepR μ (Own σ env) H μ (Own σ (env.set i (.v d))) H := by
  have hl : i < env.length := (List.getElem?_eq_some_iff.mp he).1
  have hl' : i < σ.length := by rw [← g.len]; exact hl
  have hσ : σ[i]? = some σ[i] := by simp [hl']
  have so : s.isOwn = true := by rcases hd with ⟨ds, rfl, _⟩ | ⟨ds, rfl, _⟩ <;> rfl
  have hq := g.at_ i s _ he hσ
  have lo : ∀ j b, OwnAt σ (env.set i (.v d)) j b → j ≠ i ∧ OwnAt σ env j b := fun j b ⟨h1, t, h2, h3⟩ => by
    by_cases c : i = j
    · subst c; rw [List.getElem?_set_self hl] at h2; cases h2; cases h3
    · rw [List.getElem?_set_ne c] at h2; exact ⟨fun z => c z.symm, h1, t, h2, h3⟩
  have lf : ∀ a, FF (fun a => G0 a ∨ Own σ (env.set i (.v d)) a) μ a → FF (GO G0 σ env) μ a := fun a z => by
    rcases z with z | z | ⟨j, z⟩
    · exact .inl z
    · exact .inr (.inl z)
    · exact .inr (.inr ⟨j, (lo j a z).2⟩)
  refine g.build (ow := Own σ (env.set i (.v d))) ⟨List.prefix_refl _, fun _ z => .inl z, fun a ⟨j, z⟩ => .inl ⟨j, (lo j a z).2⟩, fun _ _ e _ _ => e, fun _ z => z⟩ (g.sto.less lf) (fun j => j = i) ⟨rfl, List.length_set ..⟩ (fun j c => ⟨rfl, List.getElem?_set_ne fun z => c z.symm⟩) (fun _ _ _ _ _ e => e) (fun j t x c h1 h2 => ?_) (fun j b z => ⟨j, z⟩) fun j k b h1 h2 => g.ds j k b (lo j b h1).2 (lo k b h2).2
  subst c
  rw [List.getElem?_set_self hl] at h1
  cases h1
  rw [hσ] at h2
  cases h2
  have nf : ∀ a, σ[j]? = some (some (.ref a)) → ¬ G0 a → a ∉ μ → ¬ FF (fun a => G0 a ∨ Own σ (env.set j (.v d)) a) μ a := fun a e n0 nm z => by
    rcases z with z | z | ⟨k, z⟩
    · exact nm z
    · exact n0 z
    · obtain ⟨nk, z2⟩ := lo k a z
      exact nk (g.ds k j a z2 ⟨e, s, he, so⟩)
  rcases hd with ⟨ds, rfl, rfl⟩ | ⟨ds, rfl, rfl⟩
  · obtain ⟨a, e, n0, nm, xs, h3, h4⟩ := hq
    exact ⟨.ref a, e, a, xs, rfl, h3, nf a (by rw [hσ, e]) n0 nm, Reps.mv (mvLess lf) _ _ h4⟩
  · obtain ⟨a, e, n0, nm, h3⟩ := hq
    exact ⟨.ref a, e, a, rfl, nf a (by rw [hσ, e]) n0 nm, h3.mv (mvLess lf) fun _ e => e⟩
end
end PD
end ZPDOwn
section ZPDOwn2
set_option Elab.async false
set_option linter.all false
set_option maxRecDepth 100000
set_option maxHeartbeats 1000000
namespace PD
open PySem PySem.Spec L2 PyProof.Rows

section
variable {X : Cx} {T : Tb}
theorem PSet.or {t t' : TSet} (h : PSet X t) (h' : PSet X t') : PSet X (fun o i v H Q => t o i v H Q ∨ t' o i v H Q) := by
  intro pins s σ H o i v ov iv u Q I r1 r2 r3 q
  rcases q with q | q
  · exact h pins s σ H o i v ov iv u Q I r1 r2 r3 q
  · exact h' pins s σ H o i v ov iv u Q I r1 r2 r3 q
/-- a dict with tuples as keys takes a pair -/
def rSetD (T : Tb) : TSet := fun o i v H Q => ∃ (G : Addr → Prop) (μ : List Addr) (a : Addr) (kvs : List (D × D)) (k d : D), o = .ref a ∧ DctC T H (FF G μ) μ a kvs ∧ Rep T H (FF G μ) μ k i ∧ Rep T H (FF G μ) μ d v ∧ dKey k kvs = true ∧ kvs.length < LIM ∧ FF G μ a ∧
  ∀ u, DctC T (upd H a u) (FF G μ) μ a (putK k d kvs) → Mut (H a) → (∀ b, H a ≠ some (.own b)) → Q (upd H a u)
theorem set_dict (h : XT T X) : PSet X (rSetD T) := by
  rintro pins s σ H o i v ov iv u Q I r1 r2 r3 ⟨G, μ, a, kvs, k, d, rfl, hd, hk, hv, ht, hl, fa, q⟩
  cases r1
  have hu := h.u
  obtain ⟨es, xs, kn, pr, hh, hsys, hle, hmut⟩ := DctC.of I h.P h.w h.K hd (dKey_head ht)
  obtain ⟨n, ad, hn, rfl, rfl, hik⟩ := dKey_is I h.K ht hk r2
  have hel := KVn.length kn
  have hxl : xs.length = es.length := (Paired.length pr).symm
  have hLs := lim_line (Nat.le_refl LIM)
  refine wpAny_setItem_heap (knd := NK X) (hsz := by rw [hxl]; exact hle) (show (NK X).room X.A.in1 by show X.A.units + 1 + 8 < cLine; omega) hik hh fun h' hh' hs => ?_
  have hnd : (xs.map (·.1)).Nodup := by obtain ⟨_, _, _, _, _, _, _, _, z⟩ := hh; exact z
  have hdep : n.depth ≤ 8 := by
    simp only [dKey, Bool.and_eq_true, decide_eq_true_eq] at ht
    obtain ⟨n', e, hd'⟩ := nk_some k ht.1.1.2
    rw [hn] at e
    cases e
    omega
  have pr' := stored_pair (n := n) (a := ad) r3 pr hnd
  obtain ⟨ob, ents, ep, b1, b2, b3, b4, b5, b6⟩ := hh'
  have hne : ∀ b, H a ≠ some (.own b) := fun b z => by
    rcases hd with ⟨_, h1, _⟩ | ⟨_, _, _, h1, _⟩ <;> (rw [h1] at z; cases z)
  have I2 : L2.Inv X pins σ (upd H a (nDct T.P T.w ob (storedE es n ad v) a)) { s with heap := h', toks := s.toks + (NK X).draws n } := by
    refine I.write (x := a) (e := a) hmut (.inl rfl) (fun b ob hb e => (hs.2 b hb).trans e) ⟨ob, b1⟩ ⟨⟨?_, hsys, storedH xs n ad u, pr', ents, ep, b1, b2, b3, ?_, b6⟩, ⟨ob, b1⟩, ?_⟩
    · have := storedE_len es n ad v
      omega
    · rw [b4]
      have e1 := h.P
      have e2 := h.w
      unfold NK
      rw [e1, e2]
    · rintro h1 h2 ⟨z1, z2, ys, z3, en1, ep1, y1, y2⟩ kk
      exact ⟨z1, z2, ys, z3, en1, ep1, kk _ y1, y2⟩
  refine ⟨_, I2, q _ (.inr ⟨_, _, storedE_ne _ _ _ _, upd_same, ?_⟩) hmut hne⟩
  have mU : Mv H (upd H a (nDct T.P T.w ob (storedE es n ad v) a)) (FF G μ) (FF G μ) μ μ := mvUpd fa
  exact KVn.put hn hdep (Rep.mv mU k _ hk) (Rep.mv mU d v hv) (KVn.mv mU kvs es kn)
end

section
variable {X : Cx} {T : Tb} {P : Prog} {cf : Calls} {pos p pos' apos cpos tpos : Pos} {a b c e o k tg : Expr} {xa xb xc xe xs xo xk xt xg xi sx bx bx' : PD.X} {fa pa fb pb fk pk : Bool} {es : List Expr} {x y : Str} {s : Stmt} {sts sts' : List Stmt} {i j : Nat}
abbrev PXL (X : Cx) (T : Tb) (P : Prog) (cf : Calls) (e : Expr) (x : PD.X) : Prop := PE X e (rdSl T (evSl P cf x))
theorem gv_v {G : Addr → Prop} {d : D} {v : V} {μ : List Addr} : ∀ a, FF (GV G (.v d) v) μ a → FF G μ a := fun a z => by
  rcases z with z | z | ⟨z, _⟩
  · exact .inl z
  · exact .inr z
  · cases z
theorem plR {σ : L2.St} {H : Hp} {Q : VK} (hh : rdSl T (evSl P cf (.pl xe)) σ H Q) : rdE T fa false (evE P cf xe) σ H Q := by
  obtain ⟨G, μ, env, st, s, st', g, ev, q⟩ := hh
  obtain ⟨d, st1, e1, e2⟩ := bnd_inv (show bnd (evE P cf xe env) (fun d => ret (.v d)) st = .ok s st' from ev)
  obtain ⟨rfl, rfl⟩ := ret_inv e2
  exact ⟨G, μ, env, st, d, _, g, e1, fun v H1 μ1 p1 r1 => q v H1 μ1 p1 ⟨(fun z => nomatch z), p1.sto.less gv_v, Rep.mv (mvLess gv_v) d v (r1.rep rfl)⟩⟩
theorem xl_pl (he : PX X T P cf e xe fa false) : PXL X T P cf e (.pl xe) := PE.imp he fun _ _ _ z => plR z
theorem ownR {σ : L2.St} {H : Hp} {Q : VK} (hh : rdSl T (evSl P cf (.own xe)) σ H Q) : rdE T true false (evE P cf xe) σ H Q := by
  obtain ⟨G, μ, env, st, s, st', g, ev, q⟩ := hh
  obtain ⟨d, st1, e1, e2⟩ := bnd_inv (show bnd (evE P cf xe env) (fun d => match d with | .lst ds => ret (.ol ds) | _ => fail) st = .ok s st' from ev)
  cases d <;> simp only [fail_ap, reduceCtorEq] at e2
  obtain ⟨rfl, rfl⟩ := ret_inv e2
  refine ⟨G, μ, env, st, _, _, g, e1, fun v H1 μ1 p1 r1 => q v H1 μ1 p1 ?_⟩
  obtain ⟨pp, xs, rfl, hn, h1, h2, h3⟩ := r1.fre rfl _ rfl
  obtain ⟨a', xs', e', _, nf, _⟩ := (show ∃ a xs, V.ref pp = .ref a ∧ H1 a = some (.lst xs) ∧ ¬ FF G μ1 a ∧ Reps T H1 (FF G μ1) μ1 _ xs from r1.rep rfl)
  cases e'
  have lf : ∀ {ds : List D} a, FF (GV G (.ol ds) (.ref pp)) μ1 a → FF (GP G pp) μ1 a := fun a z => by
    rcases z with z | z | ⟨_, z⟩
    · exact .inl z
    · exact .inr (.inl z)
    · cases z; exact .inr (.inr rfl)
  exact ⟨fun _ => ⟨pp, rfl, hn, fun z => nf (.inl z)⟩, h3.less lf, pp, rfl, xs, h1, Reps.mv (mvLess lf) _ _ h2⟩
theorem xl_own (he : PX X T P cf e xe true false) : PXL X T P cf e (.own xe) := PE.imp he fun _ _ _ z => ownR z
/-- {} -/
theorem xl_od0 : PXL X T P cf (.Dict [] [] pos) (.ownd .nil .nil) := by
  refine PE.imp pe_dnewK fun σ H Q ⟨G, μ, env, st, s, st', g, ev, q⟩ => ?_
  obtain ⟨rfl, rfl⟩ := ret_inv (show ret (.od []) st = .ok s st' from ev)
  intro pp hp
  refine q _ _ μ (Post.more g.toGoodT (upd_more hp)) ⟨fun _ => ⟨pp, rfl, hp, fun z => g.toGoodT.fresh hp (.inl z)⟩, ?_, pp, rfl, .inl ⟨[], upd_same, by simp only [KVl]⟩⟩
  refine (g.sto.gp (upd_more hp) hp).less fun a z => ?_
  rcases z with z | z | ⟨_, z⟩
  · exact .inl z
  · exact .inr (.inl z)
  · cases z; exact .inr (.inr rfl)
/-- name = e -/
theorem setR {D : Ends} {σ : L2.St} {H : Hp} (hh : rdS T (evS P cf (.asg i xe)) D σ H) : tAsg (rdSl T (evSl P cf xe)) (gName i) D σ H := by
  obtain ⟨G0, μ, env, st, o, st', g, ev, q⟩ := hh
  obtain ⟨s0, st1, e1, e2⟩ := bnd_inv (show bnd (evSl P cf xe env) (fun s => ret (.nx (env.set i s))) st = .ok o st' from ev)
  obtain ⟨rfl, rfl⟩ := ret_inv e2
  refine ⟨_, μ, env, st, _, _, g.good, e1, fun v H1 μ1 p1 r1 => ?_⟩
  obtain ⟨g2, s2⟩ := g.take p1 (i := i) r1
  exact q _ H1 μ1 g2 s2
theorem xs_set (hN : X.N.Nodup) (hi : X.N[i]? = some x) (hx : Loc X.env.scope x) (he : PXL X T P cf e xe) (hs : swapsWith e (some (.Name x pos')) pos.line X.env = pure false) (hf : X.fn x = true ∨ X.env.scope.names.lookup x = some .local) :
    PXS X T P cf (.Assign [.Name x pos'] e pos) (.asg i xe) := PS.imp (ps_set hN hi hx he hs hf) fun _ _ _ z => setR z
/-- a step that the program does not write: an own list is one's own no more -/
theorem xb_freeze (h : PXB X T P cf sts bx) : PXB X T P cf sts (.cons (.freeze i) bx) := xb_ghost h fun D σ H ⟨G0, μ, env, st, o, st', g, ev, q⟩ => by
  have ev' : (match env[i]? with
    | some (.ol ds) => ret (Out.nx (env.set i (.v (.lst ds))))
    | some (.od kvs) => ret (.nx (env.set i (.v (.dct kvs))))
    | _ => fail) st = .ok o st' := ev
  cases he : env[i]? with
  | none => simp only [he] at ev'; cases ev'
  | some s =>
    simp only [he] at ev'
    cases s with
    | no => cases ev'
    | v _ => cases ev'
    | ol ds =>
      obtain ⟨rfl, rfl⟩ := ret_inv ev'
      obtain ⟨g2, s2⟩ := g.freeze he (.inl ⟨ds, rfl, rfl⟩)
      exact q σ H μ g2 s2
    | od ds =>
      obtain ⟨rfl, rfl⟩ := ret_inv ev'
      obtain ⟨g2, s2⟩ := g.freeze he (.inr ⟨ds, rfl, rfl⟩)
      exact q σ H μ g2 s2
/-- an own list at a name -/
theorem GoodS.olAt {G0 : Addr → Prop} {μ : List Addr} {H : Hp} {σ : L2.St} {env : Env} {st : Store} (g : GoodS T G0 μ H σ env st) {ds : List D} (he : env[i]? = some (.ol ds)) : ∃ a xs, σ[i]? = some (some (.ref a)) ∧ OwnAt σ env i a ∧ H a = some (.lst xs) ∧ Reps T H (FF (GO G0 σ env) μ) μ ds xs ∧ a ∉ μ ∧ ¬ G0 a ∧ FF (GO G0 σ env) μ a := by
  have hl : i < env.length := (List.getElem?_eq_some_iff.mp he).1
  have hl' : i < σ.length := by rw [← g.len]; exact hl
  have hσ : σ[i]? = some σ[i] := by simp [hl']
  obtain ⟨a, e, n0, nm, xs, h1, h2⟩ := g.at_ i _ _ he hσ
  have oa : OwnAt σ env i a := ⟨by rw [hσ, e], _, he, rfl⟩
  exact ⟨a, xs, by rw [hσ, e], oa, h1, h2, nm, n0, .inr (.inr ⟨i, oa⟩)⟩
theorem GoodS.odAt {G0 : Addr → Prop} {μ : List Addr} {H : Hp} {σ : L2.St} {env : Env} {st : Store} (g : GoodS T G0 μ H σ env st) {ds : List (D × D)} (he : env[i]? = some (.od ds)) : ∃ a, σ[i]? = some (some (.ref a)) ∧ OwnAt σ env i a ∧ DctC T H (FF (GO G0 σ env) μ) μ a ds ∧ a ∉ μ ∧ ¬ G0 a ∧ FF (GO G0 σ env) μ a := by
  have hl : i < env.length := (List.getElem?_eq_some_iff.mp he).1
  have hl' : i < σ.length := by rw [← g.len]; exact hl
  have hσ : σ[i]? = some σ[i] := by simp [hl']
  obtain ⟨a, e, n0, nm, h1⟩ := g.at_ i _ _ he hσ
  have oa : OwnAt σ env i a := ⟨by rw [hσ, e], _, he, rfl⟩
  exact ⟨a, by rw [hσ, e], oa, h1, nm, n0, .inr (.inr ⟨i, oa⟩)⟩
/-- the own list takes its new items -/
theorem GoodS.putL {G0 : Addr → Prop} {μ : List Addr} {H : Hp} {σ : L2.St} {env : Env} {st : Store} (g : GoodS T G0 μ H σ env st) {a : Addr} {xs ys : List V} {es : List D} (oa : OwnAt σ env i a) (h1 : H a = some (.lst xs)) (h2 : Reps T H (FF (GO G0 σ env) μ) μ es ys) :
    GoodS T G0 μ (upd H a (.lst ys)) σ (env.set i (.ol es)) st ∧ StepR μ (Own σ env) H μ (Own σ (env.set i (.ol es))) (upd H a (.lst ys)) := by
  obtain ⟨n0, nm, _⟩ := g.ownOk ⟨i, oa⟩
  exact g.put oa (fun b z => by rw [h1] at z; cases z) rfl ⟨a, rfl, n0, nm, ys, upd_same, Reps.mv (mvUpd (.inr (.inr ⟨i, oa⟩))) _ _ h2⟩
theorem ty_lst {K : PySem.W.Frag} {H : Hp} {a : Addr} {xs : List V} (h : H a = some (.lst xs)) : tyV K "list" (.ref a) H := .inl ⟨rfl, xs, SqL.of h⟩
/-- the name of an own list -/
theorem name_ol (hN : X.N[i]? = some x) (hv : Vis X.env.scope x) (hd : (x == ("__debug__" : Str)) = false) (hcd : (x == ("__classdict__" : Str)) = false) : PE X (.Name x pos) (fun σ H Q => ∃ v, σ[i]? = some (some v) ∧ Q v H) := pe_var hN hv hd hcd
/-- xs.append(e) -/
theorem xs_app (hN : X.N[i]? = some x) (hv : Vis X.env.scope x) (hd : (x == ("__debug__" : Str)) = false) (hcd : (x == ("__classdict__" : Str)) = false) (he : PX X T P cf e xe fa false)
    (hbase : attributeBase (.Name x p) "append" X.env (eval (.Name x p) X.env) = eval (.Name x p) X.env)
    (hfew : ((backTo cpos (starEach [e] X.env)).all (fun x => !x.1) && (backToKw cpos (keywordEach [] X.env)).all (fun x => x.1.isSome)
      && decide ([e].length + ([] : List Keyword).length + (if ([] : List Keyword).isEmpty then 0 else 1) < 30)) = true)
    (hline : (apos.endLine == cpos.line) = true) (hs : starEach [e] X.env = (false, eval e X.env) :: starEach [] X.env) (hpl : (backTo cpos (starEach [] X.env)).any (·.1) = false)
    (hsw : swapsWith (.Call (.Attribute (.Name x p) "append" apos) [e] [] cpos) none pos.line X.env = pure false) :
    PXS X T P cf (.Expr (.Call (.Attribute (.Name x p) "append" apos) [e] [] cpos) pos) (.app i xe) := by
  refine PS.imp (ps_expr (pe_bm (r := rAppend) PySem.F.plainAttrs_list PySem.F.slot_list_append PySem.F.type_list_append mt_append (name_ol hN hv hd hcd) (sa_cons he sa_nil hs) hbase hfew hline hs hpl) hsw) fun D σ H ⟨G0, μ, env, st, o, st', g, ev, q⟩ => ?_
  obtain ⟨d, st1, e1, e2⟩ := bnd_inv (show bnd (evE P cf xe env) (fun d => match env[i]? with
    | some (.ol ds) => if ds.length < LIM then ret (Out.nx (env.set i (.ol (ds ++ [d])))) else fail
    | _ => fail) st = .ok o st' from ev)
  cases hi : env[i]? with
  | none => simp only [hi] at e2; cases e2
  | some s =>
    cases s with
    | no => simp only [hi] at e2; cases e2
    | v _ => simp only [hi] at e2; cases e2
    | od _ => simp only [hi] at e2; cases e2
    | ol ds =>
      simp only [hi] at e2
      obtain ⟨hz, e3⟩ := ite_inv e2
      obtain ⟨rfl, rfl⟩ := ret_inv e3
      obtain ⟨a, xs, hσ, oa, h1, h2, nm, n0, fa'⟩ := g.olAt hi
      refine ⟨.ref a, hσ, ty_lst h1, _, μ, env, st, [d], _, g.good, (by show bnd (evE P cf xe env) (fun d => bnd (ret []) fun ds => ret (d :: ds)) st = _; rw [bnd_ok e1]; rfl), fun vs H1 μ1 p1 r1 => ?_⟩
      obtain ⟨u, r, rfl, ru, hr⟩ := r1
      obtain rfl : r = [] := hr
      have g1 := g.post p1
      obtain ⟨a2, xs2, hσ2, oa2, k1, k2, _⟩ := g1.olAt hi
      rw [hσ] at hσ2
      cases hσ2
      refine ⟨a, xs2, u, rfl, rfl, k1, ?_, ?_⟩
      · have := k2.length
        have := lim_line (Nat.le_refl LIM)
        omega
      · obtain ⟨g3, s3⟩ := g1.putL oa2 k1 (Reps.append (es := [d]) (ys := [u]) k2 ⟨u, [], rfl, ru, by simp only [Reps]⟩)
        exact q σ _ μ1 g3 ((StepR.ofPost g p1).trans s3)
end
end PD
end ZPDOwn2
section ZPDOwn3
set_option Elab.async false
set_option linter.all false
set_option maxRecDepth 100000
set_option maxHeartbeats 1000000
namespace PD
open PySem PySem.Spec L2 PyProof.Rows

section
variable {X : Cx} {T : Tb} {P : Prog} {cf : Calls} {pos p pos' apos cpos tpos : Pos} {a b c e o k tg : Expr} {xa xb xc xe xs xo xk xt xg xi sx bx bx' : PD.X} {fa pa fb pb fk pk : Bool} {es : List Expr} {x y : Str} {s : Stmt} {sts sts' : List Stmt} {i j : Nat}
/-- what a statement asks of an own list -/
theorem olOf {env : Env} {st st' : Store} {α : Type} {f : List D → M α} {g : M α} {r : α} (h : (match env[i]? with
    | some (.ol ds) => f ds
    | _ => fail) st = .ok r st') : ∃ ds, env[i]? = some (.ol ds) ∧ f ds st = .ok r st' := by
  cases hi : env[i]? with
  | none => simp only [hi] at h; cases h
  | some s =>
    cases s with
    | no => simp only [hi] at h; cases h
    | v _ => simp only [hi] at h; cases h
    | od _ => simp only [hi] at h; cases h
    | ol ds => simp only [hi] at h; exact ⟨ds, rfl, h⟩
/-- xs.extend(e) -/
theorem xs_ext (hN : X.N[i]? = some x) (hv : Vis X.env.scope x) (hd : (x == ("__debug__" : Str)) = false) (hcd : (x == ("__classdict__" : Str)) = false) (he : PX X T P cf e xe fa false)
    (hbase : attributeBase (.Name x p) "extend" X.env (eval (.Name x p) X.env) = eval (.Name x p) X.env)
    (hfew : ((backTo cpos (starEach [e] X.env)).all (fun x => !x.1) && (backToKw cpos (keywordEach [] X.env)).all (fun x => x.1.isSome)
      && decide ([e].length + ([] : List Keyword).length + (if ([] : List Keyword).isEmpty then 0 else 1) < 30)) = true)
    (hline : (apos.endLine == cpos.line) = true) (hs : starEach [e] X.env = (false, eval e X.env) :: starEach [] X.env) (hpl : (backTo cpos (starEach [] X.env)).any (·.1) = false)
    (hsw : swapsWith (.Call (.Attribute (.Name x p) "extend" apos) [e] [] cpos) none pos.line X.env = pure false) :
    PXS X T P cf (.Expr (.Call (.Attribute (.Name x p) "extend" apos) [e] [] cpos) pos) (.ext i xe) := by
  refine PS.imp (ps_expr (pe_bm (r := rExtend) PySem.F.plainAttrs_list PySem.F.slot_list_extend PySem.F.type_list_extend mt_extend (name_ol hN hv hd hcd) (sa_cons he sa_nil hs) hbase hfew hline hs hpl) hsw) fun D σ H ⟨G0, μ, env, st, o, st', g, ev, q⟩ => ?_
  obtain ⟨d, st1, e1, e2⟩ := bnd_inv (show bnd (evE P cf xe env) (fun d => match env[i]?, d with
    | some (.ol ds), .lst es => if ds.length + es.length ≤ LIM then ret (Out.nx (env.set i (.ol (ds ++ es)))) else fail
    | _, _ => fail) st = .ok o st' from ev)
  cases hi : env[i]? with
  | none => simp only [hi] at e2; cases e2
  | some s =>
    cases s with
    | no => simp only [hi] at e2; cases e2
    | v _ => simp only [hi] at e2; cases e2
    | od _ => simp only [hi] at e2; cases e2
    | ol ds =>
      cases d <;> simp only [hi, fail_ap, reduceCtorEq] at e2
      obtain ⟨hz, e3⟩ := ite_inv e2
      obtain ⟨rfl, rfl⟩ := ret_inv e3
      obtain ⟨a, xs, hσ, oa, h1, h2, nm, n0, fa'⟩ := g.olAt hi
      refine ⟨.ref a, hσ, ty_lst h1, _, μ, env, st, [_], _, g.good, (by show bnd (evE P cf xe env) (fun d => bnd (ret []) fun ds => ret (d :: ds)) st = _; rw [bnd_ok e1]; rfl), fun vs H1 μ1 p1 r1 => ?_⟩
      obtain ⟨u, r, rfl, ru, hr⟩ := r1
      obtain rfl : r = [] := hr
      obtain ⟨b, zs, rfl, hb, _, rb⟩ := ru
      have g1 := g.post p1
      obtain ⟨a2, xs2, hσ2, oa2, k1, k2, _⟩ := g1.olAt hi
      rw [hσ] at hσ2
      cases hσ2
      refine ⟨a, b, xs2, zs, rfl, rfl, k1, hb, ?_, ?_⟩
      · have := k2.length
        have := rb.length
        have := lim_line (Nat.le_refl LIM)
        omega
      · obtain ⟨g3, s3⟩ := g1.putL oa2 k1 (k2.append rb)
        exact q σ _ μ1 g3 ((StepR.ofPost g p1).trans s3)
theorem Reps.dropLast {F : Addr → Prop} {μ : List Addr} {H : Hp} : ∀ {ds : List D} {xs : List V}, Reps T H F μ ds xs → Reps T H F μ ds.dropLast xs.dropLast
  | [], _, h => by
    have h' : _ = [] := h
    subst h'; rfl
  | [d], _, h => by
    obtain ⟨x, r, rfl, h1, h2⟩ := h
    have h2' : r = [] := h2
    subst h2'; rfl
  | d :: d' :: ds, _, h => by
    obtain ⟨x, r, rfl, h1, h2⟩ := h
    obtain ⟨x', r', rfl, h3, h4⟩ := id h2
    exact ⟨x, _, rfl, h1, Reps.dropLast h2⟩
theorem Reps.erase {F : Addr → Prop} {μ : List Addr} {H : Hp} : ∀ {ds : List D} {xs : List V} (m : Nat), Reps T H F μ ds xs → Reps T H F μ (ds.eraseIdx m) (xs.eraseIdx m)
  | [], _, _, h => by
    have h' : _ = [] := h
    subst h'; rfl
  | d :: ds, _, 0, h => by
    obtain ⟨x, r, rfl, h1, h2⟩ := h
    exact h2
  | d :: ds, _, m + 1, h => by
    obtain ⟨x, r, rfl, h1, h2⟩ := h
    exact ⟨x, _, rfl, h1, Reps.erase m h2⟩
/-- y = xs.pop() -/
theorem xs_popo (hNN : X.N.Nodup) (hN : X.N[i]? = some x) (hv : Vis X.env.scope x) (hd : (x == ("__debug__" : Str)) = false) (hcd : (x == ("__classdict__" : Str)) = false)
    (hj : X.N[j]? = some y) (hy : Loc X.env.scope y) (hf : X.fn y = true ∨ X.env.scope.names.lookup y = some .local)
    (hbase : attributeBase (.Name x p) "pop" X.env (eval (.Name x p) X.env) = eval (.Name x p) X.env) (hline : (apos.endLine == cpos.line) = true)
    (hs : swapsWith (.Call (.Attribute (.Name x p) "pop" apos) [] [] cpos) (some (.Name y pos')) pos.line X.env = pure false) :
    PXS X T P cf (.Assign [.Name y pos'] (.Call (.Attribute (.Name x p) "pop" apos) [] [] cpos) pos) (.popo j i) := by
  refine PS.imp (ps_set hNN hj hy (pe_bm0 (r := rPop) PySem.F.plainAttrs_list PySem.F.slot_list_pop PySem.F.type_list_pop mt_pop (name_ol hN hv hd hcd) hbase hline) hs hf) fun D σ H ⟨G0, μ, env, st, o, st', g, ev, q⟩ => ?_
  obtain ⟨ds, hi, e2⟩ := olOf (f := fun ds => match ds[ds.length - 1]? with
      | some d => ret (Out.nx ((env.set i (.ol ds.dropLast)).set j (.v d)))
      | none => fail) (g := fail) (show (match env[i]? with
    | some (.ol ds) => match ds[ds.length - 1]? with
      | some d => ret (Out.nx ((env.set i (.ol ds.dropLast)).set j (.v d)))
      | none => fail
    | _ => fail) st = .ok o st' from ev)
  cases hl : ds[ds.length - 1]? with
  | none => simp only [hl] at e2; cases e2
  | some d =>
    simp only [hl] at e2
    obtain ⟨rfl, rfl⟩ := ret_inv e2
    obtain ⟨a, xs, hσ, oa, h1, h2, nm, n0, fa'⟩ := g.olAt hi
    obtain ⟨v, hv', rv⟩ := h2.get hl
    refine ⟨.ref a, hσ, ty_lst h1, a, xs, v, rfl, rfl, h1, by rw [h2.length]; exact hv', ?_⟩
    obtain ⟨g3, s3⟩ := g.putL oa h1 (Reps.dropLast h2)
    have sameO : ∀ b, FF (GO G0 σ (env.set i (.ol ds.dropLast))) μ b → FF (GO G0 σ env) μ b := fun b z => by
      rcases z with z | z | ⟨k, h5, t, h6, h7⟩
      · exact .inl z
      · exact .inr (.inl z)
      · by_cases c : i = k
        · subst c; exact .inr (.inr ⟨i, h5, _, hi, rfl⟩)
        · rw [List.getElem?_set_ne c] at h6; exact .inr (.inr ⟨k, h5, t, h6, h7⟩)
    have rv' : Rep T (upd H a (.lst xs.dropLast)) (FF (GO G0 σ (env.set i (.ol ds.dropLast))) μ) μ d v := Rep.mv (mvLess sameO) _ _ (Rep.mv (mvUpd fa') d v rv)
    obtain ⟨g4, s4⟩ := g3.setV (i := j) rv'
    exact q _ _ μ g4 (s3.trans s4)
/-- y = xs.pop(k) -/
theorem xs_popi (hNN : X.N.Nodup) (hN : X.N[i]? = some x) (hv : Vis X.env.scope x) (hd : (x == ("__debug__" : Str)) = false) (hcd : (x == ("__classdict__" : Str)) = false)
    (hj : X.N[j]? = some y) (hy : Loc X.env.scope y) (hf : X.fn y = true ∨ X.env.scope.names.lookup y = some .local) (he : PX X T P cf e xe fa false)
    (hbase : attributeBase (.Name x p) "pop" X.env (eval (.Name x p) X.env) = eval (.Name x p) X.env)
    (hfew : ((backTo cpos (starEach [e] X.env)).all (fun x => !x.1) && (backToKw cpos (keywordEach [] X.env)).all (fun x => x.1.isSome)
      && decide ([e].length + ([] : List Keyword).length + (if ([] : List Keyword).isEmpty then 0 else 1) < 30)) = true)
    (hline : (apos.endLine == cpos.line) = true) (hst : starEach [e] X.env = (false, eval e X.env) :: starEach [] X.env) (hpl : (backTo cpos (starEach [] X.env)).any (·.1) = false)
    (hs : swapsWith (.Call (.Attribute (.Name x p) "pop" apos) [e] [] cpos) (some (.Name y pos')) pos.line X.env = pure false) :
    PXS X T P cf (.Assign [.Name y pos'] (.Call (.Attribute (.Name x p) "pop" apos) [e] [] cpos) pos) (.popi j i xe) := by
  refine PS.imp (ps_set hNN hj hy (pe_bm (r := rPopAt) PySem.F.plainAttrs_list PySem.F.slot_list_pop PySem.F.type_list_pop mt_popAt (name_ol hN hv hd hcd) (sa_cons he sa_nil hst) hbase hfew hline hst hpl) hs hf) fun D σ H ⟨G0, μ, env, st, o, st', g, ev, q⟩ => ?_
  obtain ⟨d, st1, e1, e2⟩ := bnd_inv (show bnd (evE P cf xe env) (fun x => match env[i]?, x with
    | some (.ol ds), .int n => if ds.length ≤ LIM then (match PD.ixN ds.length n with
      | some m => match ds[m]? with
        | some d => ret (Out.nx ((env.set i (.ol (ds.eraseIdx m))).set j (.v d)))
        | none => fail
      | none => fail) else fail
    | _, _ => fail) st = .ok o st' from ev)
  cases hi : env[i]? with
  | none => simp only [hi] at e2; cases e2
  | some s =>
    cases s with
    | no => simp only [hi] at e2; cases e2
    | v _ => simp only [hi] at e2; cases e2
    | od _ => simp only [hi] at e2; cases e2
    | ol ds =>
      cases d <;> simp only [hi, fail_ap, reduceCtorEq] at e2
      rename_i n
      obtain ⟨hz, e3⟩ := ite_inv e2
      cases hm : PD.ixN ds.length n with
      | none => simp only [hm] at e3; cases e3
      | some m =>
        simp only [hm] at e3
        cases hl : ds[m]? with
        | none => simp only [hl] at e3; cases e3
        | some d' =>
          simp only [hl] at e3
          obtain ⟨rfl, rfl⟩ := ret_inv e3
          obtain ⟨a, xs, hσ, oa, h1, h2, nm, n0, fa'⟩ := g.olAt hi
          refine ⟨.ref a, hσ, ty_lst h1, _, μ, env, st, [_], _, g.good, (by show bnd (evE P cf xe env) (fun d => bnd (ret []) fun ds => ret (d :: ds)) st = _; rw [bnd_ok e1]; rfl), fun vs H1 μ1 p1 r1 => ?_⟩
          obtain ⟨u, r, rfl, ru, hr⟩ := r1
          obtain rfl : r = [] := hr
          obtain rfl : u = .int n := ru
          have g1 := g.post p1
          obtain ⟨a2, xs2, hσ2, oa2, k1, k2, _, _, fa2⟩ := g1.olAt hi
          rw [hσ] at hσ2
          cases hσ2
          obtain ⟨v, hv', rv⟩ := k2.get hl
          obtain ⟨q1, q2, q3, q4⟩ := ixN_seq (show L2.ixN ds.length n = some m from hm)
          have hlim : LIM < 2 ^ 62 := by unfold LIM; omega
          refine ⟨a, xs2, n, m, v, rfl, rfl, k1, by omega, by omega, by rw [k2.length]; exact q1, hv', ?_⟩
          obtain ⟨g3, s3⟩ := g1.putL oa2 k1 (Reps.erase m k2)
          have sameO : ∀ b, FF (GO G0 σ (env.set i (.ol (ds.eraseIdx m)))) μ1 b → FF (GO G0 σ env) μ1 b := fun b z => by
            rcases z with z | z | ⟨k, h5, t, h6, h7⟩
            · exact .inl z
            · exact .inr (.inl z)
            · by_cases c : i = k
              · subst c; exact .inr (.inr ⟨i, h5, _, hi, rfl⟩)
              · rw [List.getElem?_set_ne c] at h6; exact .inr (.inr ⟨k, h5, t, h6, h7⟩)
          have rv' := Rep.mv (mvLess sameO) _ _ (Rep.mv (mvUpd (o := .lst (xs2.eraseIdx m)) fa2) d' v rv)
          obtain ⟨g4, s4⟩ := g3.setV (i := j) rv'
          exact q _ _ μ1 g4 ((StepR.ofPost g p1).trans (s3.trans s4))
end
end PD
end ZPDOwn3
section ZPDOwn4
set_option Elab.async false
set_option linter.all false
set_option maxRecDepth 100000
set_option maxHeartbeats 1000000
namespace PD
open PySem PySem.Spec L2 PyProof.Rows

section
variable {X : Cx} {T : Tb} {P : Prog} {cf : Calls} {pos p pos' apos cpos tpos px py pt : Pos} {a b c e o k tg : Expr} {xa xb xc xe xs xo xk xt xg xi sx bx bx' : PD.X} {fa pa fb pb fk pk fe : Bool} {es : List Expr} {x y : Str} {s : Stmt} {sts sts' : List Stmt} {i j f : Nat}
/-- found[k] = v, found one's own dict -/
theorem xs_putd (h : XT T X) (hN : X.N[i]? = some x) (hv : Vis X.env.scope x) (hd : (x == ("__debug__" : Str)) = false) (hcd : (x == ("__classdict__" : Str)) = false) (he : PX X T P cf e xe fe false) (hk : PX X T P cf k xk fk false)
    (hs : swapsWithSole [.Subscript (.Name x p) k tpos] e pos.line X.env = pure false) (hw : swappedStores [.Subscript (.Name x p) k tpos] e X.env = pure none) (h1 : (assignEach [.Subscript (.Name x p) k tpos] X.env).map (·.2) = [assign (.Subscript (.Name x p) k tpos) X.env])
    (ha : ∀ v, assign (.Subscript (.Name x p) k tpos) X.env v = (do
      let ov ← holding [v] (eval (.Name x p) X.env)
      let iv ← holding [v, ov] (eval k X.env)
      standAt tpos
      holding [v, ov, iv] (setItem ov iv v)
      release [v, ov, iv] [])) : PXS X T P cf (.Assign [.Subscript (.Name x p) k tpos] e pos) (.putd i xk xe) := by
  refine PS.imp (ps_asg he (pg_sub (name_ol hN hv hd hcd) hk (set_dict h) ha) hs hw h1) fun D σ H ⟨G0, μ, env, st, o, st', g, ev, q⟩ => ?_
  obtain ⟨d, st1, e1, k2⟩ := bnd_inv (show bnd (evE P cf xe env) (fun d => bnd (evE P cf xk env) fun x => match env[i]? with
    | some (.od kvs) => if dKey x kvs && decide (kvs.length < LIM) then ret (Out.nx (env.set i (.od (putK x d kvs)))) else fail
    | _ => fail) st = .ok o st' from ev)
  obtain ⟨kd, st2, e2, k3⟩ := bnd_inv k2
  cases hi : env[i]? with
  | none => simp only [hi] at k3; cases k3
  | some s =>
    cases s with
    | no => simp only [hi] at k3; cases k3
    | v _ => simp only [hi] at k3; cases k3
    | ol _ => simp only [hi] at k3; cases k3
    | od kvs =>
      simp only [hi] at k3
      obtain ⟨hz, k4⟩ := ite_inv k3
      obtain ⟨rfl, rfl⟩ := ret_inv k4
      simp only [Bool.and_eq_true, decide_eq_true_eq] at hz
      refine ⟨_, μ, env, st, d, st1, g.good, e1, fun v H1 μ1 p1 r1 => ?_⟩
      have g1 := g.post p1
      obtain ⟨a, hσ, _⟩ := g1.odAt hi
      refine ⟨.ref a, hσ, _, μ1, env, st1, kd, _, g1.good, e2, fun u H2 μ2 p2 r2 => ?_⟩
      have g2 := g1.post p2
      obtain ⟨a2, hσ2, oa, hdc, nm, n0, fa2⟩ := g2.odAt hi
      rw [hσ] at hσ2
      cases hσ2
      refine ⟨_, μ2, a, kvs, kd, d, rfl, hdc, r2.rep rfl, Rep.mv p2.mv d v (r1.rep rfl), hz.1, hz.2, fa2, fun w hw' hm hn => ?_⟩
      obtain ⟨g3, s3⟩ := g2.put (o := w) (s' := .od (putK kd d kvs)) oa hn rfl ⟨a, rfl, n0, nm, hw'⟩
      exact q σ _ μ2 g3 ((StepR.ofPost g p1).trans ((StepR.ofPost g1 p2).trans s3))
theorem wrI_inv {k d x : D} {st st' : Store} {r : Unit} (h : wrI k d x st = .ok r st') : ∃ i, x = .ref i ∧ ((∃ ds n j, st[i]? = some (.lst ds) ∧ k = .int n ∧ PD.ixN ds.length n = some j ∧ st' = st.set i (.lst (ds.set j d))) ∨
    ∃ kvs, st[i]? = some (.dct kvs) ∧ dKey k kvs = true ∧ kvs.length < LIM ∧ st' = st.set i (.dct (putK k d kvs))) := by
  have hx : ∃ i, x = .ref i := by cases x <;> first | exact ⟨_, rfl⟩ | cases h
  obtain ⟨i, rfl⟩ := hx
  unfold wrI at h
  refine ⟨i, rfl, ?_⟩
  cases h1 : st[i]? with
  | none => simp only [h1] at h; cases h
  | some o =>
    simp only [h1] at h
    cases o with
    | tbl => cases h
    | ins _ _ => cases h
    | lst ds =>
      dsimp only at h
      cases k <;> try (cases h; done)
      rename_i n
      dsimp only at h
      cases h2 : PD.ixN ds.length n with
      | none => rw [h2] at h; cases h
      | some j => rw [h2] at h; cases h; exact .inl ⟨ds, n, j, rfl, rfl, h2, rfl⟩
    | dct kvs =>
      dsimp only at h
      by_cases c : (dKey k kvs && decide (kvs.length < LIM)) = true
      · rw [if_pos c] at h
        cases h
        simp only [Bool.and_eq_true, decide_eq_true_eq] at c
        exact .inr ⟨kvs, rfl, c.1, c.2, rfl⟩
      · rw [if_neg c] at h; cases h
/-- o[k] = e at a place -/
theorem xs_setI (h : XT T X) (ho : PX X T P cf o xo fa false) (he : PX X T P cf e xe fe false) (hk : PX X T P cf k xk fk false)
    (hs : swapsWithSole [.Subscript o k tpos] e pos.line X.env = pure false) (hw : swappedStores [.Subscript o k tpos] e X.env = pure none) (h1 : (assignEach [.Subscript o k tpos] X.env).map (·.2) = [assign (.Subscript o k tpos) X.env])
    (ha : ∀ v, assign (.Subscript o k tpos) X.env v = (do
      let ov ← holding [v] (eval o X.env)
      let iv ← holding [v, ov] (eval k X.env)
      standAt tpos
      holding [v, ov, iv] (setItem ov iv v)
      release [v, ov, iv] [])) : PXS X T P cf (.Assign [.Subscript o k tpos] e pos) (.setI xo xk xe) := by
  refine PS.imp (ps_asg he (pg_sub ho hk (PSet.or set_list (set_dict h)) ha) hs hw h1) fun D σ H ⟨G0, μ, env, st, oo, st', g, ev, q⟩ => ?_
  obtain ⟨d, st1, e1, k2⟩ := bnd_inv (show bnd (evE P cf xe env) (fun d => bnd (evE P cf xo env) fun x => bnd (evE P cf xk env) fun k => bnd (wrI k d x) fun _ => ret (Out.nx env)) st = .ok oo st' from ev)
  obtain ⟨xd, st2, e2, k3⟩ := bnd_inv k2
  obtain ⟨kd, st3, e3, k4⟩ := bnd_inv k3
  obtain ⟨_, st4, e4, k5⟩ := bnd_inv k4
  obtain ⟨rfl, rfl⟩ := ret_inv k5
  clear ev k2 k3 k4 k5
  refine ⟨_, μ, env, st, d, st1, g.good, e1, fun v H1 μ1 p1 r1 => ?_⟩
  have g1 := g.post p1
  refine ⟨_, μ1, env, st1, xd, st2, g1.good, e2, fun w H2 μ2 p2 r2 => ?_⟩
  have g2 := g1.post p2
  refine ⟨_, μ2, env, st2, kd, st3, g2.good, e3, fun u H3 μ3 p3 r3 => ?_⟩
  have g3 := g2.post p3
  have rw' := Rep.mv p3.mv _ _ (r2.rep rfl)
  have rv' := Rep.mv p3.mv _ _ (Rep.mv p2.mv _ _ (r1.rep rfl))
  have fin : ∀ {H4 : Hp}, Post T (GO G0 σ env) μ3 H3 μ3 H4 st4 → D.nx σ H4 := fun {H4} p4 => q σ H4 μ3 (g3.post p4) ((StepR.ofPost g p1).trans ((StepR.ofPost g1 p2).trans ((StepR.ofPost g2 p3).trans (StepR.ofPost g3 p4))))
  obtain ⟨r, rfl, hc⟩ := wrI_inv e4
  obtain ⟨ad, rfl, hm⟩ := (show ∃ a, w = .ref a ∧ μ3[r]? = some a from rw')
  have hF : FF (GO G0 σ env) μ3 ad := .inl (List.mem_of_getElem? hm)
  rcases hc with ⟨ds, n, j, s1, rfl, s2, rfl⟩ | ⟨kvs, s1, s2, s3, rfl⟩
  · obtain ⟨xs, h3, h4⟩ := (show LstC T H3 (FF (GO G0 σ env) μ3) μ3 ad ds from g3.sto.ob r _ ad s1 hm)
    obtain rfl : u = .int n := r3.pkr
    have hne : ∀ b, H3 ad ≠ some (.own b) := fun b z => by rw [h3] at z; cases z
    refine .inl ⟨ad, xs, n, j, rfl, rfl, h3, by rw [h4.length]; exact s2, fin (Post.put g3.good.toGoodT hm ⟨hne ad, hne⟩ ⟨xs.set j v, upd_same, Reps.mv (mvUpd hF) _ _ (Reps.set j h4 rv')⟩)⟩
  · have hdc : DctC T H3 (FF (GO G0 σ env) μ3) μ3 ad kvs := g3.sto.ob r _ ad s1 hm
    exact .inr ⟨_, μ3, ad, kvs, kd, d, rfl, hdc, r3.rep rfl, rv', s2, s3, hF, fun o' hw2 _ hn => fin (Post.put g3.good.toGoodT hm ⟨hn ad, hn⟩ hw2)⟩
theorem Flds.put (tk : TabOk T) {c : Nat} {H : Hp} {F : Addr → Prop} {μ : List Addr} {f : Nat} {d : D} {v : V} (hf : T.hf c f = true) (hv : Rep T H F μ d v) : ∀ {fs : List (Nat × D)} {ys : List (Str × V)}, Flds T H F μ fs ys → (∀ p ∈ fs, T.hf c p.1 = true) →
    Flds T H F μ (PD.putF f d fs) (L2.putF (T.nm f) v ys) ∧ ∀ p ∈ PD.putF f d fs, T.hf c p.1 = true
  | [], _, h, _ => by
    have h' : _ = [] := h
    subst h'
    refine ⟨⟨v, [], rfl, hv, rfl⟩, fun p hp => ?_⟩
    simp [PD.putF] at hp
    subst hp; exact hf
  | (g, y) :: r, _, ⟨w, r', rfl, h1, h2⟩, hn => by
    have hg := hn _ (List.mem_cons_self ..)
    unfold PD.putF
    have hL : L2.putF (T.nm f) v ((T.nm g, w) :: r') = if T.nm g = T.nm f then (T.nm g, v) :: r' else (T.nm g, w) :: L2.putF (T.nm f) v r' := rfl
    rw [hL]
    by_cases c : g = f
    · subst c
      rw [if_pos rfl, if_pos rfl]
      refine ⟨⟨v, r', rfl, hv, h2⟩, fun p hp => ?_⟩
      rcases List.mem_cons.mp hp with z | z
      · subst z; exact hf
      · exact hn p (List.mem_cons_of_mem _ z)
    · rw [if_neg c, if_neg fun z => c (tk.inj _ g f hg hf z)]
      obtain ⟨h3, h4⟩ := Flds.put tk hf hv h2 fun p hp => hn p (List.mem_cons_of_mem _ hp)
      refine ⟨⟨w, _, rfl, h1, h3⟩, fun p hp => ?_⟩
      rcases List.mem_cons.mp hp with z | z
      · subst z; exact hg
      · exact h4 p z
theorem Flds.len {H : Hp} {F : Addr → Prop} {μ : List Addr} : ∀ {fs : List (Nat × D)} {ys : List (Str × V)}, Flds T H F μ fs ys → ys.length = fs.length
  | [], _, h => by
    have h' : _ = [] := h
    subst h'; rfl
  | (g, y) :: r, _, ⟨w, r', rfl, h1, h2⟩ => by
    show r'.length + 1 = r.length + 1
    rw [Flds.len h2]
theorem wrF_inv {hf : Nat → Nat → Bool} {f : Nat} {d x : D} {st st' : Store} {r : Unit} (h : wrF hf f d x st = .ok r st') : ∃ i c fs, x = .ref i ∧ st[i]? = some (.ins c fs) ∧ fs.length ≤ 100 ∧ hf c f = true ∧ st' = st.set i (.ins c (PD.putF f d fs)) := by
  have hx : ∃ i, x = .ref i := by cases x <;> first | exact ⟨_, rfl⟩ | cases h
  obtain ⟨i, rfl⟩ := hx
  unfold wrF at h
  cases h1 : st[i]? with
  | none => simp only [h1] at h; cases h
  | some o =>
    simp only [h1] at h
    cases o with
    | lst _ => cases h
    | dct _ => cases h
    | tbl => cases h
    | ins c fs =>
      dsimp only at h
      by_cases hc : fs.length ≤ 100 ∧ hf c f = true
      · rw [if_pos hc] at h
        cases h
        exact ⟨i, c, fs, rfl, h1, hc.1, hc.2, rfl⟩
      · rw [if_neg hc] at h; cases h
/-- the object behind a place takes a field -/
theorem fldPut (tk : TabOk T) {G : Addr → Prop} {μ : List Addr} {H : Hp} {st : Store} (g : GoodT T G μ H st) {r c : Nat} {fs : List (Nat × D)} {ad dx : Addr} {ys : List (Str × V)} {d : D} {v : V} (hm : μ[r]? = some ad) (k1 : H ad = some (.ins (T.ca c) dx ys)) (k2 : dx ∉ μ) (k3 : H dx = some (.own ad)) (k4 : Flds T H (FF G μ) μ fs ys) (k5 : Cls T.K (T.ca c)) (k6 : ∀ p ∈ fs, T.hf c p.1 = true)
    (hf : T.hf c f = true) (hv : Rep T H (FF G μ) μ d v) : Post T G μ H μ (upd H ad (.ins (T.ca c) dx (L2.putF (T.nm f) v ys))) (st.set r (.ins c (PD.putF f d fs))) := by
  have hF : FF G μ ad := .inl (List.mem_of_getElem? hm)
  have hne : ∀ b, H ad ≠ some (.own b) := fun b z => by rw [k1] at z; cases z
  obtain ⟨h1, h2⟩ := Flds.put tk hf hv k4 k6
  have hda : dx ≠ ad := fun z => hne ad (z ▸ k3)
  exact Post.put g hm ⟨hne ad, hne⟩ ⟨dx, _, upd_same, k2, by rw [upd_ne hda]; exact k3, Flds.mv (mvUpd hF) h1, k5, h2⟩
/-- o.f = e -/
theorem xs_setF {fn : Str} (h : XT T X) (tk : TabOk T) (hP : P.hf = T.hf) (ho : PX X T P cf o xo fa false) (he : PX X T P cf e xe fe false) (hn : T.nm f = fn) (hs : swapsWith e (some (.Attribute o fn pos')) pos.line X.env = pure false) :
    PXS X T P cf (.Assign [.Attribute o fn pos'] e pos) (.setF xo f xe) := by
  refine PS.imp (ps_fld ho he hs) fun D σ H ⟨G0, μ, env, st, oo, st', g, ev, q⟩ => ?_
  obtain ⟨d, st1, e1, k2⟩ := bnd_inv (show bnd (evE P cf xe env) (fun d => bnd (evE P cf xo env) fun x => bnd (wrF P.hf f d x) fun _ => ret (Out.nx env)) st = .ok oo st' from ev)
  obtain ⟨xd, st2, e2, k3⟩ := bnd_inv k2
  obtain ⟨_, st3, e3, k4⟩ := bnd_inv k3
  obtain ⟨rfl, rfl⟩ := ret_inv k4
  clear ev k2 k3 k4
  refine ⟨_, μ, env, st, d, st1, g.good, e1, fun v H1 μ1 p1 r1 => ?_⟩
  have g1 := g.post p1
  refine ⟨_, μ1, env, st1, xd, st2, g1.good, e2, fun w H2 μ2 p2 r2 => ?_⟩
  have g2 := g1.post p2
  obtain ⟨r, c, fs, rfl, s1, s2, s3, rfl⟩ := wrF_inv e3
  obtain ⟨ad, dx, ys, rfl, hm, k1, k2, k3, k4, k5, k6⟩ := insAt g2.sto (r2.rep rfl) s1
  rw [hP] at s3
  subst hn
  have p3 := fldPut tk g2.good.toGoodT hm k1 k2 k3 k4 k5 k6 s3 (Rep.mv p2.mv _ _ (r1.rep rfl))
  refine ⟨ad, _, dx, ys, rfl, k1, h.K ▸ k5, h.K ▸ tk.nf c f s3, by rw [k4.len]; omega, ?_⟩
  exact q σ _ μ2 (g2.post p3) ((StepR.ofPost g p1).trans ((StepR.ofPost g1 p2).trans (StepR.ofPost g2 p3)))
/-- o.f op= e upon ints -/
theorem xs_augF {op : Operator} {bo : Bop} {F : Int → Int → Int} {fn : Str} (h : XT T X) (tk : TabOk T) (hP : P.hf = T.hf) (ho : PX X T P cf o xo fa false) (he : PX X T P cf e xe fe false) (hn : T.nm f = fn)
    (hop : InOp X op (fun x y H Q => ∃ i j, x = .int i ∧ y = .int j ∧ Q (.int (F i j)) H)) (hF : ∀ i y r, binD bo (.int i) y = some r → ∃ j, y = .int j ∧ r = .int (F i j)) :
    PXS X T P cf (.AugAssign (.Attribute o fn tpos) op e pos) (.augF xo f bo xe) := by
  refine PS.imp (ps_fldaug ho he hop) fun D σ H ⟨G0, μ, env, st, oo, st', g, ev, q⟩ => ?_
  obtain ⟨xd, st1, e1, k2⟩ := bnd_inv (show bnd (evE P cf xo env) (fun x => bnd (clsOf x) fun c1 => bnd (rdF f x) fun d => bnd (evE P cf xe env) fun y => bnd (clsOf x) fun c2 => if augOk d && c1.1 == c2.1 then bnd (opt (binD bo d y)) (fun r => bnd (wrF P.hf f r x) fun _ => ret (Out.nx env)) else fail) st = .ok oo st' from ev)
  obtain ⟨c1, st7, z1, z2⟩ := bnd_inv k2
  obtain ⟨i1, fs1, rfl, z3, rfl⟩ := clsOf_inv z1
  obtain ⟨d, st2, e2, k3⟩ := bnd_inv z2
  obtain ⟨y, st3, e3, z4⟩ := bnd_inv k3
  obtain ⟨c2', st8, z5, k4⟩ := bnd_inv z4
  obtain ⟨i2, fs2', z6, z7, rfl⟩ := clsOf_inv z5
  cases z6
  obtain ⟨hz, k5⟩ := ite_inv k4
  obtain ⟨r', st4, e4, k6⟩ := bnd_inv k5
  obtain ⟨e5, rfl⟩ := opt_inv e4
  obtain ⟨_, st5, e6, k7⟩ := bnd_inv k6
  obtain ⟨rfl, rfl⟩ := ret_inv k7
  clear ev k2 k3 k4 k5 k6 k7 e4 z1 z2 z4 z5
  obtain ⟨r, c, fs, e9, s1, s2, rfl⟩ := rdF_inv e2
  cases e9
  simp only [Bool.and_eq_true, beq_iff_eq] at hz
  obtain ⟨hz, hcls⟩ := hz
  cases d <;> simp only [augOk, Bool.false_eq_true] at hz
  rename_i n
  obtain ⟨m, rfl, rfl⟩ := hF n y r' e5
  refine ⟨_, μ, env, st, _, _, g.good, e1, fun w H1 μ1 p1 r1 => ?_⟩
  have g1 := g.post p1
  obtain ⟨ad, dx, ys, rfl, hm, k1, k2, k3, k4, k5, k6⟩ := insAt g1.sto (r1.rep rfl) s1
  have hf := k6 _ (getF_mem s2)
  obtain ⟨v, l1, l2⟩ := Flds.get tk k4 k6 hf s2
  obtain rfl : v = .int n := l2
  subst hn
  refine ⟨ad, _, dx, ys, _, rfl, k1, h.K ▸ k5, h.K ▸ tk.nf c f hf, l1, _, μ1, env, _, _, _, g1.good, e3, fun u H2 μ2 p2 r2 => ?_⟩
  obtain rfl : u = .int m := r2.pkr
  have g2 := g1.post p2
  obtain ⟨r2', c2, fs2, e7, t1, t2, t3, rfl⟩ := wrF_inv e6
  cases e7
  obtain ⟨ad2, dx2, ys2, e8, hm2, j1, j2, j3, j4, j5, j6⟩ := insAt g2.sto (Rep.mv p2.mv _ _ (r1.rep rfl)) t1
  cases e8
  rw [hP] at t3
  have p3 := fldPut tk g2.good.toGoodT (d := .int (F n m)) (v := .int (F n m)) hm2 j1 j2 j3 j4 j5 j6 t3 rfl
  have hcc : T.ca c2 = T.ca c := by
    rw [z3] at s1
    rw [z7] at t1
    cases s1
    cases t1
    rw [hcls]
  refine ⟨n, m, rfl, rfl, dx2, ys2, hcc ▸ j1, by rw [j4.len]; omega, ?_⟩
  rw [← hcc]
  exact q σ _ μ2 (g2.post p3) ((StepR.ofPost g p1).trans ((StepR.ofPost g1 p2).trans (StepR.ofPost g2 p3)))
end
end PD
end ZPDOwn4
section ZPDOwn5
set_option Elab.async false
set_option linter.all false
set_option maxRecDepth 100000
set_option maxHeartbeats 1000000
namespace PD
open PySem PySem.Spec L2 PyProof.Rows

section
variable {X : Cx} {T : Tb} {P : Prog} {cf : Calls} {pos p pos' apos cpos tpos px py pt pt2 : Pos} {a b c e o k tg : Expr} {xa xb xc xe xs xo xk xt xg xi sx bx bx' : PD.X} {fa pa fb pb fk pk fe : Bool} {es : List Expr} {x y : Str} {s : Stmt} {sts sts' : List Stmt} {i j f kt k2 : Nat}
/-- x op= e upon ints -/
theorem xs_aug {op : Operator} {bo : Bop} {F : Int → Int → Int} (hN : X.N.Nodup) (hi : X.N[i]? = some x) (hx : Loc X.env.scope x) (he : PX X T P cf e xe fe false) (ho : PIp X op (ipI F)) (hf : X.fn x = true ∨ X.env.scope.names.lookup x = some .local)
    (hF : ∀ i y r, binD bo (.int i) y = some r → ∃ j, y = .int j ∧ r = .int (F i j)) : PXS X T P cf (.AugAssign (.Name x pos') op e pos) (.aug i bo xe) := by
  refine PS.imp (ps_aug hN hi hx he ho hf) fun D σ H ⟨G0, μ, env, st, oo, st', g, ev, q⟩ => ?_
  have ev' : (match env[i]? with
    | some (.v d) => bnd (evE P cf xe env) fun y => if augOk d then bnd (opt (binD bo d y)) fun r => ret (Out.nx (env.set i (.v r))) else fail
    | _ => fail) st = .ok oo st' := ev
  cases hs : env[i]? with
  | none => simp only [hs] at ev'; cases ev'
  | some s =>
    cases s with
    | no => simp only [hs] at ev'; cases ev'
    | ol _ => simp only [hs] at ev'; cases ev'
    | od _ => simp only [hs] at ev'; cases ev'
    | v d =>
      simp only [hs] at ev'
      obtain ⟨y, st1, e1, k2⟩ := bnd_inv ev'
      obtain ⟨hz, k3⟩ := ite_inv k2
      obtain ⟨r, st2, k4, k5⟩ := bnd_inv k3
      obtain ⟨e5, rfl⟩ := opt_inv k4
      obtain ⟨rfl, rfl⟩ := ret_inv k5
      cases d <;> simp only [augOk, Bool.false_eq_true] at hz
      rename_i n
      obtain ⟨m, rfl, rfl⟩ := hF n y r e5
      have hl : i < env.length := (List.getElem?_eq_some_iff.mp hs).1
      have hl' : i < σ.length := by rw [← g.len]; exact hl
      have hσ : σ[i]? = some σ[i] := by simp [hl']
      obtain ⟨v, hv, rv⟩ := g.at_ i _ _ hs hσ
      obtain rfl : v = .int n := rv
      refine ⟨.int n, by rw [hσ, hv], _, μ, env, st, _, _, g.good, e1, fun u H1 μ1 p1 r1 => ?_⟩
      obtain rfl : u = .int m := r1.pkr
      have g1 := g.post p1
      obtain ⟨g2, s2⟩ := g1.setV (i := i) (d := .int (F n m)) (v := .int (F n m)) rfl
      exact ⟨n, m, rfl, rfl, q _ H1 μ1 g2 ((StepR.ofPost g p1).trans s2)⟩
theorem SlV.weak {G G' : Addr → Prop} {H : Hp} {μ' : List Addr} {H' : Hp} {st' : Store} {s : Sl} {v : V} (c : SlV T G H μ' H' st' s v) (h : ∀ a, G' a → G a) : SlV T G' H μ' H' st' s v := by
  have lf : ∀ a, FF (GV G' s v) μ' a → FF (GV G s v) μ' a := fun a z => by
    rcases z with z | z | z
    · exact .inl z
    · exact .inr (.inl (h a z))
    · exact .inr (.inr z)
  refine ⟨c.new, c.sto.less lf, ?_⟩
  have hc := c.con
  cases s with
  | no => exact hc.elim
  | v d => exact Rep.mv (mvLess lf) _ _ hc
  | ol ds => obtain ⟨pp, e, h1⟩ := hc; exact ⟨pp, e, h1.mv (mvLess lf) fun _ e => e⟩
  | od ds => obtain ⟨pp, e, h1⟩ := hc; exact ⟨pp, e, h1.mv (mvLess lf) fun _ e => e⟩
/-- what a name is to take kept apart -/
theorem Good.gv {G : Addr → Prop} {μ μ' : List Addr} {H H' : Hp} {σ : L2.St} {env : Env} {st st' : Store} {s : Sl} {v : V} (g : Good T G μ H σ env st) (p : Post T G μ H μ' H' st') (c : SlV T G H μ' H' st' s v) : Good T (GV G s v) μ' H' σ env st' where
  dom := fun a z => by
    rcases z with z | ⟨z1, z2⟩
    · exact (g.toGoodT.post p).dom a z
    · have hc := c.con
      cases s with
      | no => cases z1
      | v _ => cases z1
      | ol ds => obtain ⟨pp, e, h1⟩ := hc; rw [z2] at e; cases e; exact h1.some
      | od ds => obtain ⟨pp, e, h1⟩ := hc; rw [z2] at e; cases e; exact h1.some
  dis := fun a ha z => by
    rcases z with z | ⟨z1, z2⟩
    · exact (g.toGoodT.post p).dis a ha z
    · obtain ⟨pp, e, _, hm⟩ := c.new z1
      rw [z2] at e; cases e; exact hm ha
  sto := c.sto
  en := ⟨g.en.len, fun i t x h1 h2 => (g.en.at_ i t x h1 h2).mv2 ⟨fun a o e n => p.keep a o e fun z => n (.inl z), fun a z => by
    rcases z with z | z | ⟨z1, z2⟩
    · rcases p.new a z with z | z
      · exact .inl (.inl z)
      · exact .inr z
    · exact .inl (.inr z)
    · obtain ⟨pp, e, hn, _⟩ := c.new z1
      rw [z2] at e; cases e; exact .inr hn, p.mu⟩ p.keep fun a f hn na => by
      rcases f with f | f
      · exact absurd f na
      · refine ⟨.inr (.inl f), fun z => ?_⟩
        rcases p.new a z with z | z
        · exact na z
        · exact hn z⟩
/-- x, y = a, b -/
theorem xs_par (hc : X.calm = true) (hN : X.N.Nodup) (hi : X.N[i]? = some x) (hj : X.N[j]? = some y) (hij : i ≠ j)
    (hx : X.env.scope.names.lookup x = some .local) (hy : X.env.scope.names.lookup y = some .local) (ha : PXL X T P cf a xa) (hb : PXL X T P cf b xb)
    (hs1 : starEach [a, b] X.env = (false, eval a X.env) :: starEach [b] X.env) (hs2 : starEach [b] X.env = (false, eval b X.env) :: starEach [] X.env)
    (hw : swappedStores [.Tuple [.Name x px, .Name y py] kt pt] (.Tuple [a, b] k2 pt2) X.env = pure (some [x, y]))
    (hs : swapsWithSole [.Tuple [.Name x px, .Name y py] kt pt] (.Tuple [a, b] k2 pt2) pos.line X.env = pure false) :
    PXS X T P cf (.Assign [.Tuple [.Name x px, .Name y py] kt pt] (.Tuple [a, b] k2 pt2) pos) (.par i j xa xb) := by
  refine PS.imp (ps_par hc hN hi hj hij hx hy (pa_cons ha (pa_cons hb pa_nil hs2) hs1) hw hs) fun D σ H ⟨G0, μ, env, st, oo, st', g, ev, q⟩ => ?_
  obtain ⟨s1, st1, e1, k2⟩ := bnd_inv (show bnd (evSl P cf xa env) (fun x => bnd (evSl P cf xb env) fun y => ret (Out.nx ((env.set i x).set j y))) st = .ok oo st' from ev)
  obtain ⟨s2, st2, e2, k3⟩ := bnd_inv k2
  obtain ⟨rfl, rfl⟩ := ret_inv k3
  refine ⟨_, μ, env, st, s1, st1, g.good, e1, fun v H1 μ1 p1 c1 => ?_⟩
  obtain ⟨g1, t1⟩ := g.take p1 (i := i) c1
  refine ⟨_, μ1, env, st1, s2, _, g.good.gv p1 c1, e2, fun w H2 μ2 p2 c2 => ?_⟩
  have lf : ∀ a, GO G0 (σ.set i (some v)) (env.set i s1) a → GV (GO G0 σ env) s1 v a := fun a z => by
    rcases z with z | ⟨k, h1, t, h2, h3⟩
    · exact .inl (.inl z)
    · by_cases ck : i = k
      · subst ck
        have hl : i < env.length := by
          have := (List.getElem?_eq_some_iff.mp h2).1
          rwa [List.length_set] at this
        rw [List.getElem?_set_self hl] at h2
        rw [List.getElem?_set_self (by rw [← g.len]; exact hl)] at h1
        cases h1; cases h2
        exact .inr ⟨h3, rfl⟩
      · rw [List.getElem?_set_ne ck] at h1 h2
        exact .inl (.inr ⟨k, h1, t, h2, h3⟩)
  obtain ⟨g2, t2⟩ := g1.take (p2.weak lf) (i := j) (c2.weak lf)
  exact ⟨v, w, rfl, q _ H2 μ2 g2 (t1.trans t2)⟩
/-- {k: v}, k a tuple -/
theorem xl_od1 {v : Expr} {xv : PD.X} {fv : Bool} (h : XT T X) (hk : PX X T P cf k xk fk false) (hv : PX X T P cf v xv fv false) (hshape : (evalEachOpt [some k] X.env).zip ((evalEach [v] X.env).map fun v => do let x ← v; standAt pos; pure x) = [(some (eval k X.env), do let x ← eval v X.env; standAt pos; pure x)]) :
    PXL X T P cf (.Dict [some k] [v] pos) (.ownd (.cons xk .nil) (.cons xv .nil)) := by
  refine ⟨fun pins s σ H Q I ⟨G, μ, env, st, s0, st', g, ev, q⟩ => ?_⟩
  obtain ⟨kd, st1, e1, k2⟩ := bnd_inv (show bnd (evE P cf xk env) (fun x => bnd (evE P cf xv env) fun y => if dKey x [] then ret (Sl.od [(x, y)]) else fail) st = .ok s0 st' from ev)
  obtain ⟨vd, st2, e2, k3⟩ := bnd_inv k2
  obtain ⟨hz, k4⟩ := ite_inv k3
  obtain ⟨rfl, rfl⟩ := ret_inv k4
  have hu := h.u
  rw [arm_eval_Dict, hshape]
  have hD : H s.heap.objs.size = none := I.hok.fresh (Nat.le_refl _)
  generalize hDD : s.heap.objs.size = D at hD
  have I1 : L2.Inv X pins σ (upd H D (.dK [])) { s with heap := s.heap.push { cls := .type "dict", data := .dict #[] } } := by
    subst hDD
    exact I.laid (t' := s.toks) (fun b u e => Heap.get?_push_of_some _ e) (Nat.le_refl _) (dk_empty _ I.big)
  have gD := g.guard (.dK []) hD
  have shape2 : dictDisplay [(some (eval k X.env), do let x ← eval v X.env; standAt pos; pure x)] = (do let d ← subDict [(eval k X.env, do let x ← eval v X.env; standAt pos; pure x)]; pure (.ref d)) := dictDisplay_pairs [(eval k X.env, do let x ← eval v X.env; standAt pos; pure x)] (by simp) (by simp)
  rw [shape2]
  refine wpAny_bind (wpAny_standAt (wpAny_bind (wpAny_subDictH (knd := NK X) (show (NK X).room X.A by show X.A.units + 8 < cLine; omega) (by simp) ?_)))
  subst hDD
  refine wpAny_bind (thn (hk.run pins _ σ _ (fun u H1 => ∃ μ1, Post T (GP G s.heap.objs.size) μ (upd H s.heap.objs.size (.dK [])) μ1 H1 st1 ∧ Rep T H1 (FF (GP G s.heap.objs.size) μ1) μ1 kd u) I1 ⟨_, μ, env, st, _, _, gD, e1, fun u H1 μ1 p1 r1 => ⟨μ1, p1, r1.rep rfl⟩⟩) fun ku s1 ⟨kv, H1, I2, rk, μ1, p1, r1⟩ => ?_)
  have g1 := gD.post p1
  refine wpAny_bind (wpAny_holding (wpAny_bind (thn (hv.run pins s1 σ H1 (fun u H2 => ∃ μ2, Post T (GP G s.heap.objs.size) μ1 H1 μ2 H2 st2 ∧ Rep T H2 (FF (GP G s.heap.objs.size) μ2) μ2 vd u) I2 ⟨_, μ1, env, st1, _, _, g1, e2, fun u H2 μ2 p2 r2 => ⟨μ2, p2, r2.rep rfl⟩⟩) fun vu s2 ⟨vv, H2, I3, rv, μ2, p2, r2⟩ => wpAny_bind (wpAny_standAt (wpAny_pure ?_)))))
  refine wpAny_bind (wpAny_holding (wpAny_pure (wpAny_pure ?_)))
  have g2 := g1.post p2
  have p12 := p1.trans p2
  have nD2 : s.heap.objs.size ∉ μ2 := fun z => g2.dis _ z (.inr rfl)
  have nD0 : s.heap.objs.size ∉ μ := fun z => gD.dis _ z (.inr rfl)
  have hdk : H2 s.heap.objs.size = some (.dK []) := p12.keep _ _ upd_same nD0
  obtain ⟨_, hsys, vs0, kv0, hdo⟩ : ([] : List (Key × V)).length ≤ sizeLine ∧ (s.heap.objs.size == sysModules) = false ∧ ∃ vs, KV [] vs ∧ s2.heap.DictOf (mixKind X.prog X.w) s.heap.objs.size vs := I3.hok _ _ hdk
  cases kv0
  have hdH := exact_empty hdo
  obtain ⟨n, ad, hn, rfl, rfl, hik⟩ := dKey_is I3 h.K hz (Rep.mv p2.mv _ _ r1) rk
  refine ⟨[(n, ad, vu)], ⟨rfl, rfl, hik, trivial⟩, hdH, fun h' tk hh' hs => wpAny_pure ?_⟩
  obtain ⟨ob, ents, ep, b1, b2, b3, b4, b5, b6⟩ := hh'
  have hdep : n.depth ≤ 8 := by
    simp only [dKey, Bool.and_eq_true, decide_eq_true_eq] at hz
    obtain ⟨n', e, hd'⟩ := nk_some kd hz.1.1.2
    rw [hn] at e
    cases e
    omega
  have e1 := h.P
  have e2 := h.w
  have I4 : L2.Inv X pins σ (upd H2 s.heap.objs.size (nDct T.P T.w ob [(n, ad, vv)] s.heap.objs.size)) { s2 with heap := h', toks := tk } := by
    refine I3.write (x := s.heap.objs.size) (e := s.heap.objs.size) (by rw [hdk]; trivial) (.inl rfl) (fun b ob hb e => (hs.2 b hb).trans e) ⟨ob, b1⟩ ⟨⟨by rw [sizeLine_eq]; simp, hsys, [(n, ad, vu)], .cons ⟨rfl, rfl, rv⟩ .nil, ents, ep, b1, b2, b3, ?_, b6⟩, ⟨ob, b1⟩, ?_⟩
    · rw [b4]
      unfold NK
      rw [e1, e2]
      rfl
    · rintro h1 h2 ⟨z1, z2, ys, z3, en1, ep1, y1, y2⟩ kk
      exact ⟨z1, z2, ys, z3, en1, ep1, kk _ y1, y2⟩
  have mU : Mv H2 (upd H2 s.heap.objs.size (nDct T.P T.w ob [(n, ad, vv)] s.heap.objs.size)) (FF (GP G s.heap.objs.size) μ2) (FF (GP G s.heap.objs.size) μ2) μ2 μ2 := mvUpd (.inr (.inr rfl))
  have stoD : StR T (FF (GP G s.heap.objs.size) μ2) μ2 (upd H2 s.heap.objs.size (nDct T.P T.w ob [(n, ad, vv)] s.heap.objs.size)) st2 := by
    refine ⟨g2.sto.len, g2.sto.nd, fun j w b h1 h2 => ?_⟩
    have hb : b ≠ s.heap.objs.size := fun z => nD2 (z ▸ List.mem_of_getElem? h2)
    refine (g2.sto.ob j w b h1 h2).mv mU (fun q e => by rw [upd_ne hb]; exact e) (fun _ z => .inl z) fun c q e nc => ?_
    by_cases hc : c = s.heap.objs.size
    · rw [hc, hdk] at e; exact absurd (Option.some.inj e) (fun z => HO.noConfusion z)
    · rw [upd_ne hc]; exact e
  have pp : Post T G μ H μ2 (upd H2 s.heap.objs.size (nDct T.P T.w ob [(n, ad, vv)] s.heap.objs.size)) st2 := by
    refine Post.weak (G' := GP G s.heap.objs.size) ⟨p12.mu, fun a z => ?_, fun a o e n => ?_, stoD⟩ fun a z => .inl z
    · rcases p12.new a z with y | y
      · exact .inl y
      · refine .inr ?_
        by_cases c : a = s.heap.objs.size
        · subst c; exact hD
        · rw [upd_ne c] at y; exact y
    · have ne := ne_of_none e hD
      rw [upd_ne ne]
      exact p12.keep a o (by rw [upd_ne ne]; exact e) n
  have lf : ∀ {s : Sl} a, FF (GV G s (.ref s2.heap.objs.size)) μ2 a → True := fun _ _ => trivial
  have lg : ∀ a, FF (GV G (.od [(kd, vd)]) (.ref s.heap.objs.size)) μ2 a → FF (GP G s.heap.objs.size) μ2 a := fun a z => by
    rcases z with z | z | ⟨_, z⟩
    · exact .inl z
    · exact .inr (.inl z)
    · cases z; exact .inr (.inr rfl)
  refine ⟨.ref s.heap.objs.size, _, I4, rfl, q _ _ μ2 pp ⟨fun _ => ⟨_, rfl, hD, nD2⟩, stoD.less lg, _, rfl, .inr ⟨[(n, ad, vv)], _, by simp, upd_same, ?_⟩⟩⟩
  exact ⟨n, ad, vv, [], rfl, ⟨hn, hdep⟩, Rep.mv (mvLess lg) _ _ (Rep.mv mU _ _ (Rep.mv p2.mv _ _ r1)), Rep.mv (mvLess lg) _ _ (Rep.mv mU _ _ r2), rfl⟩
end
end PD
end ZPDOwn5
section ZPDBi2
set_option Elab.async false
set_option linter.all false
set_option maxRecDepth 100000
set_option maxHeartbeats 1000000
namespace PD
open PySem PySem.Spec L2 PyProof.Rows PySem.W

section
variable {X : Cx} {T : Tb} {G : Addr → Prop} {H : Hp} {μ : List Addr}
theorem b_repr : CallR X (.builtin "repr") (rBi T (biD .repr)) := by
  intro pins s σ H vs us Q I r ⟨G, μ, st, ds, d, g, t, e, q⟩
  match ds, e with
  | [.int i], e =>
    simp only [biD, Option.ite_none_right_eq_some, Option.some.injEq] at e
    obtain ⟨hz, rfl⟩ := e
    obtain ⟨v, rfl, t1⟩ := tops1 t
    obtain rfl : v = .int i := t1
    refine SkE.call_repr_int pins s σ H _ us Q I r ⟨i, rfl, ?_, q.str⟩
    by_cases c : i.natAbs = 0
    · rw [c]; decide
    · have := (Nat.log2_lt c).mpr hz
      omega
theorem each_rep {us : List Value} : ∀ {ds : List D} {xs : List V}, Reps T H (FF G μ) μ ds xs → ∀ {us : List Value}, Vals xs us → EachIs (fun u d => ∃ x, RelV x u ∧ Rep T H (FF G μ) μ d x) us ds
  | [], _, h, us, r => by
    have h' : _ = [] := h
    subst h'
    cases r
    exact .nil
  | d :: ds, _, ⟨x, xs, rfl, h1, h2⟩, us, r => by
    cases r with
    | cons r1 r2 => exact .cons ⟨x, r1, h1⟩ (each_rep (us := us) h2 r2)
theorem each_back : ∀ {us : List Value} {ds : List D}, EachIs (fun u d => ∃ x, RelV x u ∧ Rep T H (FF G μ) μ d x) us ds → ∃ xs, Vals xs us ∧ Reps T H (FF G μ) μ ds xs
  | _, _, .nil => ⟨[], .nil, rfl⟩
  | _, _, .cons ⟨x, r, h⟩ t => by
    obtain ⟨xs, r2, h2⟩ := each_back t
    exact ⟨x :: xs, .cons r r2, x, xs, rfl, h, h2⟩
theorem each_reads (hK : X.K = T.K) {pins : List (Addr × Obj)} {s : Shared} {σ : L2.St} (I : L2.Inv X pins σ H s) : ∀ {ds : List D} {xs : List V}, D.plainAll ds = true → Reps T H (FF G μ) μ ds xs → ∀ {us : List Value}, Vals xs us → EachIs (fun u (d : D) => ∃ as, Reads s.heap u d.py as) us ds
  | [], _, _, h, us, r => by
    have h' : _ = [] := h
    subst h'
    cases r
    exact .nil
  | d :: ds, _, hp, ⟨x, xs, rfl, h1, h2⟩, us, r => by
    simp only [D.plainAll, Bool.and_eq_true] at hp
    cases r with
    | cons r1 r2 => exact .cons (Dp.reads I d.py x _ (hK ▸ Rep.dp d x hp.1 h1) r1) (each_reads hK I hp.2 h2 r2)
theorem py_depthE (d : D) (h : d.plain = true) : d.py.depth = d.depth := py_depth d h
theorem plain_mem : ∀ {ds : List D}, D.plainAll ds = true → ∀ d ∈ ds, d.plain = true
  | [], _, _, h => nomatch h
  | d :: ds, hp, e, h => by
    simp only [D.plainAll, Bool.and_eq_true] at hp
    rcases List.mem_cons.mp h with rfl | h
    · exact hp.1
    · exact plain_mem hp.2 e h
theorem depth_mem : ∀ {ds : List D}, ∀ d ∈ ds, d.depth ≤ D.depthAll ds
  | [], _, h => nomatch h
  | d :: ds, e, h => by
    simp only [D.depthAll]
    rcases List.mem_cons.mp h with rfl | h
    · omega
    · have := depth_mem e h; omega
theorem b_sortedRows (h : XT T X) : CallR X (.builtin "sorted") (rBi T (biD .sortedRows)) := by
  intro pins s σ H vs us Q I r ⟨G, μ, st, ds, d, g, t, e, q⟩
  match ds, e with
  | [.lst ds], e =>
    simp only [biD, Option.ite_none_right_eq_some, Option.some.injEq] at e
    obtain ⟨hz, rfl⟩ := e
    simp only [rowsOk, Bool.and_eq_true, decide_eq_true_eq] at hz
    obtain ⟨⟨⟨⟨z1, z2⟩, z3⟩, z4⟩, z5⟩ := hz
    obtain ⟨v, rfl, a, rfl, xs, h1, h2⟩ := tops1 t
    obtain ⟨u, rfl, ru⟩ := vals1 r
    cases ru
    obtain ⟨its, rv, hl, hle⟩ := I.list (SqL.of h1)
    have hlen := h2.length
    have hdep : ∀ d ∈ ds, d.py.depth ≤ 60 := fun d hd => by
      rw [py_depthE d (plain_mem z1 d hd)]
      simp only [D.eqOk, Bool.and_eq_true, decide_eq_true_eq] at z2
      have h9 := depth_mem d hd
      have h8 : D.depthAll ds + 1 ≤ 60 := z2.2
      omega
    have hu := h.u
    refine sorted_data (enc := D.py) (R := fun u d => ∃ x, RelV x u ∧ Rep T H (FF G μ) μ d x) hl.isList (each_rep (us := its) h2 rv) (each_reads h.K I z1 h2 rv) (fun x hx y hy => ?_) (.inl fun x hx => ?_) (by rw [← hlen]; exact hle) (fun d hd => by have := hdep d hd; omega) fun out hol heo => ?_
    · obtain ⟨a1, ha, rfl⟩ := List.mem_map.mp hx
      obtain ⟨b1, hb, rfl⟩ := List.mem_map.mp hy
      exact List.all_eq_true.mp (List.all_eq_true.mp z3 a1 ha) b1 hb
    · obtain ⟨a1, ha, rfl⟩ := List.mem_map.mp hx
      have := List.all_eq_true.mp z4 a1 ha
      cases a1 with
      | tup es =>
        cases es with
        | nil => cases this
        | cons y ys => exact ⟨y.py, D.pys ys, by simp only [D.py, D.pys]⟩
      | _ => cases this
    · obtain ⟨ys, rvs, hreps⟩ := each_back heo
      obtain ⟨n, hn⟩ := sortedAll_at s.heap its out.toArray
      have hf : H (s.heap.objs.size + 1) = none := I.hok.fresh (Nat.le_succ _)
      refine ⟨.ref (s.heap.objs.size + 1), upd H (s.heap.objs.size + 1) (.lst ys), I.laid (t' := s.toks) (fun b o e => sortedAll_old e) (Nat.le_succ _) ⟨?_, out, n, rvs, hn⟩, rfl, q.lst g hreps _ hf⟩
      rw [rvs.length, hol, ← hlen]; exact hle
/-! isinstance -/
def tyName : Ty → String
  | .int => "int" | .bool => "bool" | .str => "str" | .tuple => "tuple" | .list => "list" | .dict => "dict"
def tyOfD : D → String
  | .non => "NoneType" | .bl _ => "bool" | .int _ => "int" | .str _ => "str" | .tup _ => "tuple" | .lst _ => "list" | .dct _ => "dict" | _ => ""
def tyStr : List String := ["NoneType", "bool", "int", "str", "tuple", "list", "dict"]
theorem kitB_all : ∀ t : Ty, ∀ d : D, ∀ r, isTy t d = some r → kitB (tyOfD d) (tyName t) = some r := by
  intro t d r h
  cases d with
  | dct kvs =>
    have hr : r = decide (t = .dict) := by
      cases kvs with
      | nil => cases t <;> (simp only [isTy, Option.some.injEq] at h; exact h.symm)
      | cons p ps =>
        obtain ⟨k, y⟩ := p
        cases k <;> cases t <;> first | (simp only [isTy, Option.some.injEq] at h; exact h.symm) | (simp only [isTy, reduceCtorEq] at h)
    subst hr
    cases t <;> simp only [tyOfD, tyName] <;> decide +kernel
  | _ => cases t <;> simp only [isTy, Option.some.injEq, reduceCtorEq] at h <;> subst h <;> simp only [tyOfD, tyName] <;> decide +kernel
theorem ty_rep {d : D} {v : V} {t : Ty} {r : Bool} (h : Top T H (FF G μ) μ d v) (e : isTy t d = some r) : TyX T.K H v (.type (tyOfD d)) := by
  cases d with
  | non => obtain rfl : v = .non := h; exact .base .non
  | bl b => obtain rfl : v = .bl b := h; exact .base (.bl b)
  | int i => obtain rfl : v = .int i := h; exact .base (.int i)
  | str i => obtain rfl : v = .str i := h; exact .base (.str i)
  | tup ds =>
    obtain ⟨a, xs, rfl, h1, _⟩ := (show ∃ a xs, v = .ref a ∧ TupAt T H (FF G μ) a xs ∧ Reps T H (FF G μ) μ ds xs from h)
    rcases h1 with ⟨h1, _⟩ | ⟨o, its, n, h1, h2, _⟩
    · exact .base (.tup h1)
    · exact .kTuple h1 h2
  | lst ds => obtain ⟨a, rfl, xs, h1, _⟩ := h; exact .base (.lst h1)
  | dct kvs =>
    obtain ⟨a, rfl, hc⟩ := (show ∃ a, v = .ref a ∧ DctC T H (FF G μ) μ a kvs from h)
    rcases hc with ⟨es, h1, _⟩ | ⟨es, ob, hne, _, hk⟩
    · exact .base (.dK h1)
    · cases kvs with
      | nil =>
        simp only [KVn] at hk
        exact absurd hk hne
      | cons p ps =>
        obtain ⟨k, y⟩ := p
        simp only [KVn] at hk
        obtain ⟨n, q, x, r', _, _, h3, _⟩ := hk
        cases k <;> first | (simp only [isTy, reduceCtorEq] at e; done) | (cases t <;> simp only [isTy, reduceCtorEq] at e; done) | skip
        simp only [Rep] at h3
        cases h3
  | ref _ => cases t <;> cases e
  | scr _ => cases t <;> cases e
variable {P : Prog} {cf : Calls} {pos p p2 : Pos} {a b e o : Expr} {xa xb xs xo : PD.X} {fa pa fb pb : Bool} {x : Str}
theorem xe_isi {t : Ty} {tn : Str} (h : XT T X) (hg : Gl X "isinstance") (hm : X.mg "isinstance" = none) (hgt : Gl X tn) (hmt : X.mg tn = none) (htn : bootBuiltins tn = some (.type (tyName t))) (ht : tn ≠ "__name__") (htd : (tn == ("__debug__" : Str)) = false)
    (ha : PX X T P cf a xa fa pa) (hs1 : starEach [a, .Name tn p2] X.env = (false, eval a X.env) :: starEach [.Name tn p2] X.env) (hs2 : starEach [.Name tn p2] X.env = (false, eval (.Name tn p2) X.env) :: starEach [] X.env) (hpl : (backTo pos (starEach [.Name tn p2] X.env)).any (·.1) = false) :
    PX X T P cf (.Call (.Name "isinstance" p) [a, .Name tn p2] [] pos) (.bif (.isi t) (.cons xa .nil)) false false := by
  refine PE.imp (pe_callB call_isi hg hm PyProof.Rows.boot_isinstance (pa_cons ha (pa_cons (pe_bltn (v := .ty (tyName t)) hgt hmt htn rfl ht htd) pa_nil hs2) hs1) (by decide) (by decide) hs1 hpl) fun σ H Q ⟨G, μ, env, st, d, st', g, ev, q⟩ => ?_
  obtain ⟨ds, st1, e1, e2⟩ := bnd_inv (show bnd (bnd (evE P cf xa env) fun d => bnd (ret []) fun ds => ret (d :: ds)) (fun ds => bnd (vws ds) fun ds => opt (biD (.isi t) ds)) st = .ok d st' from ev)
  obtain ⟨y, st2, e3, e4⟩ := bnd_inv e1
  obtain ⟨rfl, rfl⟩ := ret_inv (show ret [y] st2 = .ok ds st1 from e4)
  obtain ⟨ds', st3, e5, e6⟩ := bnd_inv e2
  unfold vws at e5
  cases e5
  obtain ⟨e7, rfl⟩ := opt_inv e6
  simp only [List.map_cons, List.map_nil, biD, Option.map_eq_some_iff] at e7
  obtain ⟨r, e8, rfl⟩ := e7
  refine ⟨G, μ, env, st, y, _, g, e3, fun v H1 μ1 p1 r1 => ?_⟩
  have g1 := g.post p1
  have hv := r1.pkr.view g1.sto
  exact ⟨v, .ty (tyName t), _, _, r, rfl, .ty _, h.K ▸ ty_rep hv e8, kit_ty (kitB_all t _ r e8), q _ H1 μ1 p1 (.of0 rfl)⟩
/-- list(range(..)) -/
theorem rgV_reps (lo hi : Int) : Reps T H (FF G μ) μ (rangeD lo hi) (rgV lo hi) := by
  have : rgV lo hi = (rangeD lo hi).map fun d => match d with | .int i => V.int i | _ => .non := by
    unfold rgV rangeD
    rw [List.map_map]
    rfl
  rw [this]
  unfold rangeD
  generalize List.range (hi - lo).toNat = l
  induction l with
  | nil => rfl
  | cons k l ih => exact ⟨_, _, rfl, rfl, ih⟩
theorem lrgR {te : PD.X} {lo hi : Int} {σ : L2.St} {μ' : List Addr} {st st' : Store} {H' : Hp} {G : Addr → Prop} {H : Hp} {μ : List Addr} {Q : VK} (g : GoodT T G μ H st) (p1 : Post T G μ H μ' H' st') (h1 : gRng lo = true) (h2 : gRng hi = true)
    (q : ∀ v H1 μ1, Post T G μ H μ1 H1 st' → RS T true false G H μ1 H1 st' (.lst (rangeD lo hi)) v → Q v H1) : RgOk lo hi ∧ ∀ p, H' p = none → Q (.ref p) (upd H' p (.lst (rgV lo hi))) := by
  simp only [gRng, decide_eq_true_eq] at h1 h2
  refine ⟨⟨by omega, by omega, by omega, by omega, by omega⟩, fun p hp => ?_⟩
  have g1 := g.post p1
  refine q _ _ μ' (p1.trans (Post.more g1 (upd_more hp))) (.of ⟨p, _, rfl, upd_same, g1.fresh hp, rgV_reps lo hi⟩ fun _ _ e => ?_)
  cases e
  exact ⟨p, _, rfl, Post.back g p1 hp, upd_same, rgV_reps lo hi, p1.sto.gp (upd_more hp) hp⟩
theorem xe_lrg1 (h : XT T X) (hg : Gl X "list") (hm : X.mg "list" = none) (hg2 : Gl X "range") (hm2 : X.mg "range" = none) (ha : PX X T P cf a xa fa pa) (na : starEach [a] X.env = (false, eval a X.env) :: starEach [] X.env)
    (nb : starEach [.Call (.Name "range" p2) [a] [] pos] X.env = (false, eval (.Call (.Name "range" p2) [a] [] pos) X.env) :: starEach [] X.env) :
    PX X T P cf (.Call (.Name "list" p) [.Call (.Name "range" p2) [a] [] pos] [] pos) (.lrg (.rng (.cons xa .nil))) true false := by
  refine PE.imp (pe_listRg h.c hg hm (prg_1 hg2 hm2 ha na) nb) fun σ H Q ⟨G, μ, env, st, d, st', g, ev, q⟩ => ?_
  obtain ⟨ds, st1, e1, e2⟩ := bnd_inv (show bnd (bnd (evE P cf xa env) fun x => match x with
      | .int j => if gRng j then ret (rangeD 0 j) else fail
      | _ => fail) (fun ds => ret (D.lst ds)) st = .ok d st' from ev)
  obtain ⟨rfl, rfl⟩ := ret_inv e2
  obtain ⟨x, st2, e3, e4⟩ := bnd_inv e1
  cases x <;> simp only [fail_ap, reduceCtorEq] at e4
  obtain ⟨hz, e5⟩ := ite_inv e4
  obtain ⟨rfl, rfl⟩ := ret_inv e5
  refine ⟨G, μ, env, st, _, _, g, e3, fun v H1 μ1 p1 r1 => ?_⟩
  exact ⟨_, r1.pkr, lrgR (te := .nil) (σ := σ) g.toGoodT p1 (by decide) hz q⟩
theorem xe_lrg2 {pA pB : Pos} (h : XT T X) (hg : Gl X "list") (hm : X.mg "list" = none) (hg2 : Gl X "range") (hm2 : X.mg "range" = none) (ha : PX X T P cf a xa fa pa) (hb : PX X T P cf b xb fb pb)
    (na : starEach [a, b] X.env = (false, eval a X.env) :: starEach [b] X.env) (nb : starEach [b] X.env = (false, eval b X.env) :: starEach [] X.env) (hp : (backTo pA (starEach [b] X.env)).any (·.1) = false)
    (nc : starEach [.Call (.Name "range" p2) [a, b] [] pA] X.env = (false, eval (.Call (.Name "range" p2) [a, b] [] pA) X.env) :: starEach [] X.env) :
    PX X T P cf (.Call (.Name "list" p) [.Call (.Name "range" p2) [a, b] [] pA] [] pB) (.lrg (.rng (.cons xa (.cons xb .nil)))) true false := by
  refine PE.imp (pe_listRg h.c hg hm (prg_2 hg2 hm2 ha hb na nb hp) nc) fun σ H Q ⟨G, μ, env, st, d, st', g, ev, q⟩ => ?_
  obtain ⟨ds, st1, e1, e2⟩ := bnd_inv (show bnd (bnd (evE P cf xa env) fun x => bnd (evE P cf xb env) fun y => match x, y with
      | .int i, .int j => if gRng i && gRng j then ret (rangeD i j) else fail
      | _, _ => fail) (fun ds => ret (D.lst ds)) st = .ok d st' from ev)
  obtain ⟨rfl, rfl⟩ := ret_inv e2
  obtain ⟨x, st2, e3, e4⟩ := bnd_inv e1
  obtain ⟨y, st3, e5, e6⟩ := bnd_inv e4
  cases x <;> cases y <;> simp only [fail_ap, reduceCtorEq] at e6
  obtain ⟨hz, e7⟩ := ite_inv e6
  obtain ⟨rfl, rfl⟩ := ret_inv e7
  simp only [Bool.and_eq_true] at hz
  refine ⟨G, μ, env, st, _, _, g, e3, fun v H1 μ1 p1 r1 => ⟨G, μ1, env, _, _, _, g.post p1, e5, fun u H2 μ2 p2 r2 => ?_⟩⟩
  exact ⟨_, _, r1.pkr, r2.pkr, lrgR (te := .nil) (σ := σ) g.toGoodT (p1.trans p2) hz.1 hz.2 q⟩
end
end PD
end ZPDBi2
section ZPDFn
set_option Elab.async false
set_option linter.all false
set_option maxRecDepth 100000
set_option maxHeartbeats 1000000
namespace PD
open PySem PySem.Spec L2 PyProof.Rows

section
variable {T : Tb} {base : Heap} {pg : Prog} {n k f : Nat} {x qual : Str} {st : Stmt} {fa : Addr} {fd : FuncData} {N ps : List Str} {cf : Calls} {tree : PD.X}
/-- the context of a def's body -/
abbrev bX (T : Tb) (base : Heap) (N : List Str) (qual : Str) (st : Stmt) (fa : Addr) (cdv : Value) (A : Around) (outer : List PySem.Env) (s : Shared) (H : Hp) (E : XK) : Cx := (cxOf CX0 T.P T.w T.K T.mg base N qual (defScope st) fa cdv A outer s H E).nox
theorem xt_of {cdv : Value} {A : Around} {outer : List PySem.Env} {s : Shared} {H : Hp} {E : XK} (hr : Room k (A.deeper (envOfC qual (defScope st) s.heap.objs.size fa cdv))) : XT T (bX T base N qual st fa cdv A outer s H E) :=
  ⟨rfl, rfl, rfl, rfl, by have := hr.un; show (A.deeper _).units + 200 < cLine; omega, rfl⟩
theorem reps_start {G : Addr → Prop} {H : Hp} {μ : List Addr} {ds : List D} {vs : List V} (r : Reps T H (FF G μ) μ ds vs) (st0 : Store) (g : GoodT T G μ H st0) (m : Nat) :
    GoodS T G μ H (vs.map some ++ List.replicate m none) (ds.map .v ++ List.replicate m .no) st0 := by
  have hl := r.length
  have noOwn : ∀ i a, ¬ OwnAt (vs.map some ++ List.replicate m none) (ds.map Sl.v ++ List.replicate m .no) i a := fun i a ⟨_, s, h2, h3⟩ => by
    by_cases c : i < ds.length
    · rw [List.getElem?_append_left (by simpa using c), List.getElem?_map] at h2
      obtain ⟨d, _, rfl⟩ := Option.map_eq_some_iff.mp h2
      cases h3
    · rw [List.getElem?_append_right (by simpa using c)] at h2
      have := List.mem_of_getElem? h2
      rw [List.mem_replicate] at this
      rw [this.2] at h3
      cases h3
  have lf : ∀ a, FF (GO G (vs.map some ++ List.replicate m none) (ds.map Sl.v ++ List.replicate m .no)) μ a → FF G μ a := fun a z => by
    rcases z with z | z | ⟨i, z⟩
    · exact .inl z
    · exact .inr z
    · exact absurd z (noOwn i a)
  refine ⟨g.dom, g.dis, g.sto.less lf, by simp [hl], fun i s x h1 h2 => ?_, fun i j a h => absurd h (noOwn i a)⟩
  by_cases c : i < ds.length
  · rw [List.getElem?_append_left (by simpa using c), List.getElem?_map] at h1
    rw [List.getElem?_append_left (by simpa [hl] using c), List.getElem?_map] at h2
    obtain ⟨d, h3, rfl⟩ := Option.map_eq_some_iff.mp h1
    obtain ⟨v, h4, rv⟩ := r.get h3
    rw [h4] at h2
    cases h2
    exact ⟨v, rfl, Rep.mv (mvLess lf) d v rv⟩
  · rw [List.getElem?_append_right (by simpa using c)] at h1
    have := List.mem_of_getElem? h1
    rw [List.mem_replicate] at this
    rw [this.2]
    trivial
theorem fnOk (F : Fun T.K x qual st fa fd) (S : FnScope N ps (defScope st)) (hfn : pg.fn f = ⟨ps.length, N.length, tree⟩)
    (hw : ∀ (cdv : Value) (A : Around) (outer : List PySem.Env) (s : Shared) (H : Hp) (E : XK), Room k (A.deeper (envOfC qual (defScope st) s.heap.objs.size fa cdv)) → PXB (bX T base N qual st fa cdv A outer s H E) T pg cf (defBody st) tree) :
    FnOk T.P T.w T.K T.mg base CX0 (k + 1) fa fd ps (spC T (fun g ds => runF pg cf (pg.fn g) ds) f ps.length) := by
  refine F.ok S (fun vs H Q E ⟨G, μ, st0, ds, d, st', g, r, hl, ev, q⟩ => by rw [r.length, hl]) fun cdv A outer s H vs Q E hr ⟨G, μ, st0, ds, d, st', g, r, hl, ev, q⟩ => ?_
  refine ⟨_, hw cdv A outer s H E hr, ?_⟩
  have ev' : (if ds.length = (pg.fn f).np then bnd (evB pg cf (pg.fn f).body (ds.map .v ++ List.replicate ((pg.fn f).ns - (pg.fn f).np) .no)) (fun o => match o with
    | .rt d => ret d
    | .nx _ => ret D.non
    | _ => fail) else fail) st0 = .ok d st' := ev
  rw [hfn] at ev'
  rw [if_pos hl] at ev'
  obtain ⟨o, st1, e1, e2⟩ := bnd_inv ev'
  have hst : L2.start N vs = vs.map some ++ List.replicate (N.length - ps.length) none := by unfold L2.start; rw [r.length, hl]
  have g0 := reps_start r st0 g (N.length - ps.length)
  rw [hst]
  refine ⟨G, μ, _, st0, o, st1, g0, e1, ?_⟩
  have noO : ∀ a, ¬ Own (vs.map some ++ List.replicate (N.length - ps.length) none) (ds.map Sl.v ++ List.replicate (N.length - ps.length) .no) a := fun a ⟨i, _, s, h2, h3⟩ => by
    by_cases c : i < ds.length
    · rw [List.getElem?_append_left (by simpa using c), List.getElem?_map] at h2
      obtain ⟨d, _, rfl⟩ := Option.map_eq_some_iff.mp h2
      cases h3
    · rw [List.getElem?_append_right (by simpa using c)] at h2
      have := List.mem_of_getElem? h2
      rw [List.mem_replicate] at this
      rw [this.2] at h3
      cases h3
  cases o with
  | nx e =>
    obtain ⟨rfl, rfl⟩ := ret_inv e2
    exact fun σ' H' μ' g' s' => q .non H' μ' ⟨s'.mu, s'.new, fun a o e n => s'.keep a o e n (noO a), g'.sto.less go_less⟩ rfl
  | rt d' =>
    obtain ⟨rfl, rfl⟩ := ret_inv e2
    exact fun v H' μ' sto s' r' => q v H' μ' ⟨s'.mu, s'.new, fun a o e n => s'.keep a o e n (noO a), sto⟩ r'
  | bk e => cases e2
  | ct e => cases e2
theorem callN_len {ds : List D} {st0 : Store} {d : D} {st' : Store} (h : callN pg n f ds st0 = .ok d st') : ds.length = (pg.fn f).np := by
  cases n with
  | zero => cases h
  | succ n =>
    have h' : runF pg (callN pg n) (pg.fn f) ds st0 = .ok d st' := h
    unfold runF at h'
    by_cases c : ds.length = (pg.fn f).np
    · exact c
    · rw [if_neg c] at h'; cases h'
/-- a def behind n calls -/
structure DefI (T : Tb) (base : Heap) (pg : Prog) (n : Nat) (fa : Addr) (f : Nat) (ps : List Str) : Prop where
  ex : ∃ fd, FnOk T.P T.w T.K T.mg base CX0 (2 * n) fa fd ps (spC T (callN pg n) f ps.length) ∧ Binds T.K fd ps []
  kp : PySem.W.keepIn T.K (.ref fa) = true
theorem DefI.zero (hb : Binds T.K fd ps []) (kp : PySem.W.keepIn T.K (.ref fa) = true) : DefI T base pg 0 fa f ps :=
  ⟨⟨fd, ⟨fun vs H Q E ⟨G, μ, st0, ds, d, st', g, r, hl, ev, q⟩ => by rw [r.length, hl], fun A outer s H args us vs Q E hr e0 hbt hv ⟨G, μ, st0, ds, d, st', g, r, hl, ev, q⟩ => by cases ev⟩, hb⟩, kp⟩
theorem DefI.succ (F : Fun T.K x qual st fa fd) (S : FnScope N ps (defScope st)) (hb : Binds T.K fd ps []) (hfn : pg.fn f = ⟨ps.length, N.length, tree⟩)
    (hw : ∀ (cdv : Value) (A : Around) (outer : List PySem.Env) (s : Shared) (H : Hp) (E : XK), Room (2 * n + 1) (A.deeper (envOfC qual (defScope st) s.heap.objs.size fa cdv)) → PXB (bX T base N qual st fa cdv A outer s H E) T pg (callN pg n) (defBody st) tree) :
    DefI T base pg (n + 1) fa f ps := ⟨⟨fd, fnOk (k := 2 * n + 1) F S hfn hw, hb⟩, F.kp⟩
theorem DefI.call {cdv : Value} {A : Around} {outer : List PySem.Env} {s : Shared} {H : Hp} {E : XK} {fb : Addr} {g : Nat} {qs : List Str} (D : DefI T base pg n fb g qs) (hr : Room (2 * n + 1) (A.deeper (envOfC qual (defScope st) s.heap.objs.size fa cdv))) :
    CallI (bX T base N qual st fa cdv A outer s H E) T (callN pg n) fb g qs.length := by
  obtain ⟨fd, F1, hb⟩ := D.ex
  exact ⟨⟨2 * n, fd, qs, F1, hr, hb⟩, D.kp⟩
end
end PD
end ZPDFn
section ZPDX
set_option Elab.async false
set_option linter.all false
set_option maxRecDepth 100000
set_option maxHeartbeats 1000000
namespace PD
open PySem PySem.Spec L2 PyProof.Rows

section
variable {X : Cx} {T : Tb} {P : Prog} {cf : Calls} {pos p p2 pos' apos cpos tpos : Pos} {a b c e o k tg it elt : Expr} {xa xb xc xe xs xo xk xt xg xi sx bx : PD.X} {fa pa fb pb fk pk fe : Bool} {es ifs : List Expr} {x y : Str} {i j f np : Nat}
theorem XT.blk (h : XT T X) {s : Shared} {H : Hp} {scope : Scope} {cenv : PySem.Env} {fp : List Addr} : XT T (X.blk s H scope cenv fp) := ⟨h.P, h.w, h.K, h.m, h.u, h.c⟩
theorem XT.u64 (h : XT T X) : X.A.units + 64 < cLine := by have := h.u; omega
theorem CallI.blk {ad : Addr} (h : CallI X T cf ad f np) {s : Shared} {H : Hp} {scope : Scope} {cenv : PySem.Env} {fp : List Addr} : CallI (X.blk s H scope cenv fp) T cf ad f np := ⟨h.ex, h.kp⟩
theorem MethI.blk {m : Nat} {mn : Str} (h : MethI X T P cf m mn f np) {s : Shared} {H : Hp} {scope : Scope} {cenv : PySem.Env} {fp : List Addr} : MethI (X.blk s H scope cenv fp) T P cf m mn f np := by
  obtain ⟨c, ad, h1, h2, h3, h4⟩ := h.ex
  exact ⟨⟨c, ad, h1, h2, h3.blk, h4⟩⟩
theorem xe_var (i : Nat) {x : Str} {pos : Pos} (hN : X.N[i]? = some x := by rfl) (hv : Vis X.env.scope x := by first | exact Or.inl rfl | exact Or.inr (Or.inl rfl) | exact Or.inr (Or.inr rfl)) (hd : (x == ("__debug__" : Str)) = false := by decide)
    (hcd : (x == ("__classdict__" : Str)) = false := by decide) : PX X T P cf (.Name x pos) (.var i) false false := se_var hN hv hd hcd
theorem xe_peek (i : Nat) {x : Str} {pos : Pos} (hN : X.N[i]? = some x := by rfl) (hv : Vis X.env.scope x := by first | exact Or.inl rfl | exact Or.inr (Or.inl rfl) | exact Or.inr (Or.inr rfl)) (hd : (x == ("__debug__" : Str)) = false := by decide)
    (hcd : (x == ("__classdict__" : Str)) = false := by decide) : PX X T P cf (.Name x pos) (.peek i) false true := se_peek hN hv hd hcd
theorem xe_lit {c : Const} {j : Nat} {d : D} (h : constD c = some d := by rfl) : PX X T P cf (.Constant c j pos) (.lit d) false false := se_lit h
theorem xe_globI {g : Nat} {n : Int} {tk : Tok} (hm : X.mg x = some (.int n tk)) (hp : P.glb g = some (.int n)) (hg : Gl X x := by rfl) (hd : (x == ("__debug__" : Str)) = false := by decide) : PX X T P cf (.Name x pos) (.glob g) false false :=
  se_glob hg hm (v := .int n) ⟨_, rfl⟩ hd (d := P.glb g) (fun d' e H F μ => by rw [hp] at e; cases e; rfl)
theorem xe_globS {g : Nat} {n : Str} {tk : Tok} (hm : X.mg x = some (.str n tk)) (hp : P.glb g = some (.str n)) (hg : Gl X x := by rfl) (hd : (x == ("__debug__" : Str)) = false := by decide) : PX X T P cf (.Name x pos) (.glob g) false false :=
  se_glob hg hm (v := .str n) ⟨_, rfl⟩ hd (d := P.glb g) (fun d' e H F μ => by rw [hp] at e; cases e; rfl)
/-- scalars of a written tuple -/
inductive ScV : D → Value → Prop where
  | non : ScV .non .none
  | bl (b : Bool) : ScV (.bl b) (.bool b)
  | int (i : Int) (t : Tok) : ScV (.int i) (.int i t)
  | str (s : Str) (t : Tok) : ScV (.str s) (.str s t)
inductive ScVs : List D → List Value → Prop where
  | nil : ScVs [] []
  | cons {d : D} {v : Value} {ds : List D} {vs : List Value} : ScV d v → ScVs ds vs → ScVs (d :: ds) (v :: vs)
theorem ScVs.rep {ds : List D} {vs : List Value} (h : ScVs ds vs) (H : Hp) (F : Addr → Prop) (μ : List Addr) : ∃ xs, Vals xs vs ∧ Reps T H F μ ds xs := by
  induction h with
  | nil => exact ⟨[], .nil, rfl⟩
  | cons h1 _ ih =>
    obtain ⟨xs, r1, r2⟩ := ih
    cases h1 with
    | non => exact ⟨.non :: xs, .cons rfl r1, _, _, rfl, rfl, r2⟩
    | bl b => exact ⟨.bl b :: xs, .cons rfl r1, _, _, rfl, rfl, r2⟩
    | int i t => exact ⟨.int i :: xs, .cons ⟨_, rfl⟩ r1, _, _, rfl, rfl, r2⟩
    | str i t => exact ⟨.str i :: xs, .cons ⟨_, rfl⟩ r1, _, _, rfl, rfl, r2⟩
theorem xe_globT {g : Nat} {ad : Addr} {dd : Option Addr} {sl : Array (Option Value)} {its : List Value} {n : Nat} {ds : List D} (hm : X.mg x = some (.ref ad)) (hk : T.K.lookup ad = some ⟨.type "tuple", dd, .seq its.toArray n, sl⟩) (hs : ScVs ds its) (hp : P.glb g = some (.tup ds)) (hl : its.length ≤ 1000 := by decide)
    (hg : Gl X x := by rfl) (hd : (x == ("__debug__" : Str)) = false := by decide) : PX X T P cf (.Name x pos) (.glob g) false false :=
  se_glob hg hm (v := .ref ad) rfl hd (d := P.glb g) (fun d' e H F μ => by
    rw [hp] at e; cases e
    obtain ⟨xs, r1, r2⟩ := hs.rep (T := T) H F μ
    exact ⟨ad, xs, rfl, .inr ⟨_, its.toArray, n, hk, rfl, rfl, by rw [List.size_toArray, sizeLine_eq]; omega, by simpa using r1⟩, r2⟩)
theorem xe_tup {k : Nat} (ha : PXA X T P cf es xs) : PX X T P cf (.Tuple es k pos) (.tup xs) false false := se_tup ha
theorem xe_lst (ha : PXA X T P cf es xs) : PX X T P cf (.List es pos) (.lst xs) true false := se_lst ha
theorem xe_new (ha : PXA X T P cf es xs) : PX X T P cf (.List es pos) (.new xs) false false := se_new ha
theorem xe_newd : PX X T P cf (.Dict [] [] pos) .newd false false := se_newd
theorem xe_bin {op : Operator} {bo : Bop} (ho : OpR X (binaryOp op) (rOp T true (binD bo))) (ha : PX X T P cf a xa fa pa) (hb : PX X T P cf b xb fb pb) : PX X T P cf (.BinOp a op b pos) (.bin bo xa xb) true false := se_bin ho ha hb
/-- the names that a comprehension's target takes -/
theorem xe_lc {scope : Scope} {own : List (Str × Nat)} {slt : List Nat} (h : XT T X) (hN : X.N.Nodup) (hi : PXI X T P cf tg it xi pk) (ok : BlkOk X.N X.env.scope scope own) (ho : own.map (·.2) = slt)
    (hg : ∀ (s : Shared) (H : Hp) (C : Addr) (cl : List (Str × Addr)) (fp : List Addr), PXG (X.blk s H scope (compEnvC scope cl C X.env) fp) T tg xg slt)
    (ht : ∀ (s : Shared) (H : Hp) (C : Addr) (cl : List (Str × Addr)) (fp : List Addr), PTs (X.blk s H scope (compEnvC scope cl C X.env) fp) ifs (rdT T fun env => bnd (evE P cf xt env) blD))
    (he : ∀ (s : Shared) (H : Hp) (C : Addr) (cl : List (Str × Addr)) (fp : List Addr), PX (X.blk s H scope (compEnvC scope cl C X.env) fp) T P cf elt xe fe false) (hs : ∀ x, foldedSetIterable it X.env x = pure x := by intro _; rfl) :
    PX X T P cf (.ListComp elt [⟨tg, it, ifs, 0⟩] scope pos) (.lc slt xg xi xt xe) true false := by
  subst ho
  exact se_lc h hN hi ok (fun i z => z) hg ht he hs
theorem xts_nil : PTs X [] (rdT T fun env => bnd (evE P cf (.lit (.bl true)) env) blD) := ⟨fun pins s σ H Q I ⟨G, μ, env, st, d, st', g, e, q⟩ => by
  obtain ⟨rfl, rfl⟩ := ret_inv (show ret true st = .ok d st' from e)
  exact pts_nil.run pins s σ H Q I (q H μ (Post.refl g.toGoodT))⟩
theorem xts_one (h : PXT X T P cf c xc) : PTs X [c] (rdT T fun env => bnd (evE P cf xc env) blD) := pts_one h
theorem xi_src (h : XT T X) (he : PX X T P cf e xe fe pk) : PXI X T P cf tg e (.src xe) pk := si_src h he
theorem xi_rng1 {fr pk' : Bool} (hm : X.mg "range" = none) (he : PX X T P cf a xa fr pk') (hg : Gl X "range" := by rfl) (hs : starEach [a] X.env = [(false, eval a X.env)] := by rfl) : PXI X T P cf tg (.Call (.Name "range" p) [a] [] pos) (.rng (.cons xa .nil)) pk' := si_range1 hg hm he hs
theorem xi_rng2 {fr pk' fr2 pk2 : Bool} (hm : X.mg "range" = none) (he : PX X T P cf a xa fr pk') (he' : PX X T P cf b xb fr2 pk2) (hg : Gl X "range" := by rfl) (hs : starEach [a, b] X.env = [(false, eval a X.env), (false, eval b X.env)] := by rfl) (hs2 : starEach [b] X.env = [(false, eval b X.env)] := by rfl) :
    PXI X T P cf tg (.Call (.Name "range" p) [a, b] [] pos) (.rng (.cons xa (.cons xb .nil))) pk' := si_range2 hg hm he he' hs hs2
/-- name = [..] on one line: the name takes the new list within the comprehension's code -/
theorem xs_setLc {scope : Scope} {own : List (Str × Nat)} {slt : List Nat} {spos py : Pos} (h : XT T X) (hN : X.N.Nodup) (hy : X.N[i]? = some y) (hyl : X.env.scope.names.lookup y = some .local)
    (hsw : swapsWith (.ListComp elt [⟨tg, it, ifs, 0⟩] scope pos) (some (.Name y py)) spos.line X.env = pure true) (hi : PXI X T P cf tg it xi pk) (ok : BlkOk X.N X.env.scope scope own) (ho : own.map (·.2) = slt)
    (hg : ∀ (s : Shared) (H : Hp) (C : Addr) (cl : List (Str × Addr)) (fp : List Addr), PXG (X.blk s H scope (compEnvC scope cl C X.env) fp) T tg xg slt)
    (ht : ∀ (s : Shared) (H : Hp) (C : Addr) (cl : List (Str × Addr)) (fp : List Addr), PTs (X.blk s H scope (compEnvC scope cl C X.env) fp) ifs (rdT T fun env => bnd (evE P cf xt env) blD))
    (he : ∀ (s : Shared) (H : Hp) (C : Addr) (cl : List (Str × Addr)) (fp : List Addr), PX (X.blk s H scope (compEnvC scope cl C X.env) fp) T P cf elt xe fe false) (hs : ∀ x, foldedSetIterable it X.env x = pure x := by intro _; rfl) :
    PXS X T P cf (.Assign [.Name y py] (.ListComp elt [⟨tg, it, ifs, 0⟩] scope pos) spos) (.asg i (.pl (.lc slt xg xi xt xe))) := by
  subst ho
  refine PS.imp (ps_setLc h.c hN hy hyl hsw hi ok hg ht he hs) fun D σ H z => ?_
  exact lcR (fun i z => z) (plR (fa := true) (P := P) (cf := cf) (xe := .lc (own.map (·.2)) xg xi xt xe) (setR z))
theorem xs_setLcO {scope : Scope} {own : List (Str × Nat)} {slt : List Nat} {spos py : Pos} (h : XT T X) (hN : X.N.Nodup) (hy : X.N[i]? = some y) (hyl : X.env.scope.names.lookup y = some .local)
    (hsw : swapsWith (.ListComp elt [⟨tg, it, ifs, 0⟩] scope pos) (some (.Name y py)) spos.line X.env = pure true) (hi : PXI X T P cf tg it xi pk) (ok : BlkOk X.N X.env.scope scope own) (ho : own.map (·.2) = slt)
    (hg : ∀ (s : Shared) (H : Hp) (C : Addr) (cl : List (Str × Addr)) (fp : List Addr), PXG (X.blk s H scope (compEnvC scope cl C X.env) fp) T tg xg slt)
    (ht : ∀ (s : Shared) (H : Hp) (C : Addr) (cl : List (Str × Addr)) (fp : List Addr), PTs (X.blk s H scope (compEnvC scope cl C X.env) fp) ifs (rdT T fun env => bnd (evE P cf xt env) blD))
    (he : ∀ (s : Shared) (H : Hp) (C : Addr) (cl : List (Str × Addr)) (fp : List Addr), PX (X.blk s H scope (compEnvC scope cl C X.env) fp) T P cf elt xe fe false) (hs : ∀ x, foldedSetIterable it X.env x = pure x := by intro _; rfl) :
    PXS X T P cf (.Assign [.Name y py] (.ListComp elt [⟨tg, it, ifs, 0⟩] scope pos) spos) (.asg i (.own (.lc slt xg xi xt xe))) := by
  subst ho
  refine PS.imp (ps_setLc h.c hN hy hyl hsw hi ok hg ht he hs) fun D σ H z => ?_
  exact lcR (fun i z => z) (ownR (P := P) (cf := cf) (xe := .lc (own.map (·.2)) xg xi xt xe) (setR z))
theorem xe_iteF {fr pk' : Bool} (hc : PXT X T P cf c xc) (ha : PX X T P cf a xa fa pa) (hb : PX X T P cf b xb fb pb) (e1 : (fa && fb) = fr) (e2 : (pa || pb) = pk') : PX X T P cf (.IfExp c a b pos) (.ite xc xa xb) fr pk' := by
  subst e1 e2
  exact xe_ite hc ha hb
end
end PD
end ZPDX
section ZPDDIt
set_option Elab.async false
set_option linter.all false
set_option maxRecDepth 100000
set_option maxHeartbeats 1000000
namespace PD
open PySem PySem.Spec L2 PyProof.Rows
/-! a dict walked by its keys -/
theorem InvNd {X : Cx} {pins : List (Addr × Obj)} {σ : L2.St} {H : Hp} {s : Shared} {P : Program} {w : World} {ob : Obj} {es : List (NestedKey × Addr × V)} {d : Addr} (I : L2.Inv X pins σ H s) (h : H d = some (nDct P w ob es d)) :
    (d == sysModules) = false ∧ s.heap.get? d = some ob ∧ ob.ExactDict ∧ ∃ (ents : Array DictEntry) (ep : Nat), ob.data = .dict ents ep ∧ ents.size = es.length ∧
      ∀ (i : Nat) (n : NestedKey) (q : Addr) (v : V), es[i]? = some (n, q, v) → ∃ en : DictEntry, ents[i]? = some en ∧ en.key = .ref q := by
  obtain ⟨⟨hl, hs, xs, hp, ents, ep, h3, h4, h5, h6, h7⟩, _⟩ := I.hok d _ h
  refine ⟨hs, h3, h4, ents, ep, h5, ?_, fun i n q v e => ?_⟩
  · have l1 : ents.size = xs.length := by rw [← Array.length_toList, h6, List.length_map]
    have l2 : es.length = xs.length := Paired.length hp
    omega
  · obtain ⟨b, hb, e1, e2, _⟩ := L2.paired_get hp e
    have hq : ents.toList[i]? = some (entryOfKey (nestedKind P w) b) := by rw [h6, List.getElem?_map, hb]; rfl
    refine ⟨entryOfKey (nestedKind P w) b, by rw [← Array.getElem?_toList]; exact hq, ?_⟩
    show Value.ref b.2.1 = .ref q
    rw [← e2]
def Itn (P : Program) (w : World) (d : Addr) (ob : Obj) (es : List (NestedKey × Addr × V)) : It :=
  ⟨fun i H => H d = some (nDct P w ob es d) ∧ i < es.length, fun i H x H' => H' = H ∧ ∃ n q v, es[i]? = some (n, q, v) ∧ x = .ref q, fun i H => H d = some (nDct P w ob es d) ∧ es.length ≤ i⟩
theorem turn_keysN {P P' : Program} {w w' : World} {K : PySem.W.Frag} {tg : Expr} {d : Addr} {ob : Obj} {ents : Array DictEntry} {ep : Nat} {es : List (NestedKey × Addr × V)} (it : Addr) (hod : ob.data = .dict ents ep) : Turn P w K tg (Itn P' w' d ob es) [it] it (fun i h => h.IsKeyIter it d i es.length ep) where
  mem := by simp
  obj := fun i h st b hb => by
    have e : b = it := by simpa using hb
    subst e
    obtain ⟨oi, e, c, dd⟩ := st
    exact ⟨oi, e, fun v z => by rw [dd] at z; cases z⟩
  keep := fun i h h' st k => st.at fun oi e => k it (by simp) oi e
  item := by
    intro X hP hw hK hc i pins s σ H E I hf st hg
    subst hP hw hK
    obtain ⟨hd, hi⟩ := hg
    obtain ⟨f0, f1, f2, f3, f4, f5⟩ := hf it (by simp)
    obtain ⟨hs, hgd, hx, es', ep', hdt, hsz, ent⟩ := InvNd I hd
    obtain ⟨rfl, rfl⟩ := dict_ep hod hdt
    obtain ⟨⟨n, q, v⟩, hkv⟩ : ∃ p, es[i]? = some p := ⟨es[i], List.getElem?_eq_getElem hi⟩
    obtain ⟨en, hen, hkey⟩ := ent i n q v hkv
    refine next_key_item st hgd hdt hsz hen fun h' st' sb => ?_
    have I1 : L2.Inv X pins σ H { s with heap := h' } := I.turned (t' := s.toks) (fun b ob hb e => (sb.2 b hb).trans e) f0 f1 f3 f4 f5
    obtain ⟨oi, e, c, dd⟩ := id st'
    exact ⟨en.key, rfl, go_of (s := { s with heap := h' }) e c dd (by decide) ⟨.ref q, H, I1, hkey, ⟨rfl, n, q, v, hkv, rfl⟩, st', fun b hb => (hf b hb).1⟩⟩
  done := by
    intro X hP hw hK hc i pins s σ H E I hf st hg
    subst hP hw hK
    obtain ⟨hd, hi⟩ := hg
    obtain ⟨f0, f1, f2, f3, f4, f5⟩ := hf it (by simp)
    obtain ⟨hs, hgd, hx, es', ep', hdt, hsz, ent⟩ := InvNd I hd
    obtain ⟨rfl, rfl⟩ := dict_ep hod hdt
    exact next_key_end (I.ok.hd hc) st hgd hdt hsz hi fun h' eb => ⟨rfl, I.turned (t' := s.toks) (fun b ob hb e => eb b ob hb e) f0 f1 f3 f4 f5⟩
  self := fun A i s Q E st h => wpAny_pyIter_keyiter st h
def iKeysN (P : Program) (w : World) (td : TE) : TI := fun σ H R => td σ H fun x H1 => ∃ d ob es, x = .ref d ∧ H1 d = some (nDct P w ob es d) ∧ R (Itn P w d ob es) H1
theorem pi_keysN {X : Cx} {P : Program} {w : World} {tg e : Expr} {td : TE} (he : PE X e td) : PI X tg e (iKeysN P w td) := by
  refine ⟨fun pins s σ H R I h => ?_⟩
  refine thn (he.run pins s σ H _ I h) fun u s1 ⟨x, H1, I1, rx, d, ob, es, ex, hd, q⟩ => ?_
  subst ex
  obtain rfl : u = Value.ref d := rx
  obtain ⟨hs, hgd, hx, ents, ep, hdt, hsz, ent⟩ := InvNd I1 hd
  refine iter_keys hs hgd hx hdt (pi_one (tk := s1.toks) I1 _ (turn_keysN _ hdt) ⟨_, Heap.get?_push_size _ rfl, rfl, ?_⟩ q)
  rw [hsz] <;> rfl
end PD
end ZPDDIt
section ZPDLam
set_option Elab.async false
set_option linter.all false
set_option maxRecDepth 100000
set_option maxHeartbeats 2000000
namespace PD
open PySem PySem.Spec L2 PyProof.Rows LamX
/-! a lambda handed to a def: its code object's table stands at a place of the store -/
section
variable {X : Cx} {pins : List (Addr × Obj)} {σ : L2.St} {H : Hp} {s : Shared}
/-- how the abstract heap moves when a lambda is made -/
def LamStep (P c' : Addr) (q : Str) (ps : Array Value) (H H1 : Hp) : Prop := H1 = H ∨ ∃ more : Array Value, H c' = none ∧ H1 = upd (upd H P (.tbl (ps ++ more))) c' (CodeO c' q) ∧ TriplesOk (ps ++ more).toList ∧ ∀ (p' : Pos) (cv : Value), codeAmong p' (ps ++ more).toList = some cv → codeAmong p' ps.toList = some cv ∨ cv = .ref c'
theorem lam_make {c P : Addr} {ps : Array Value} {params : Arguments} {body : Expr} {scope : Scope} {pos : Pos} {E : Value → Shared → Prop} {Q : Value → Shared → Prop} (I : L2.Inv X pins σ H s) (TB : TabB X.base X.mg c P) (hcode : X.env.code = .ref c)
    (hP : H P = some (.tbl ps)) (ht : TriplesOk ps.toList) (ha : ∀ (pos : Pos) (cv : Value), codeAmong pos ps.toList = some cv → ∃ c, cv = .ref c ∧ H c = some (CodeO c (X.env.qual ++ "<lambda>"))) (hdef : defaultsOf params X.env = ([], [])) (hfree : ∀ y ∈ scope.names, y.2 = .free → ∃ c, X.env.cells.lookup y.1 = some c)
    (h : ∀ (f c' : Addr) (pm ctv : Value) (H1 : Hp) (s' : Shared), L2.Inv X pins σ H1 s' → LamStep P c' (X.env.qual ++ "<lambda>") ps H H1 →
      s'.heap.get? f = some (PySem.W.kla_obj "<lambda>" (X.env.qual ++ "<lambda>") params body scope (cloFrom X.env.cells scope.names []) pm c' ctv) → H1 f = none → f ∉ frs X.stack → H1 c' = some (CodeO c' (X.env.qual ++ "<lambda>")) → Q (.ref f) s') :
    wpAny (model X.prog X.w) X.A (eval (.Lambda params body scope pos) X.env) Q E s := by
  refine PySem.W.kla_eval hdef ?_
  have bP : s.heap.BuiltinsAt X.mg P := TB.bm.keeps I.bk
  have hP' : s.heap.get? P = some { cls := .none, data := .fields ps } := I.hok P _ hP
  have nofr : ∀ f, s.heap.objs.size ≤ f → f ∉ frs X.stack := fun f hf z => by
    rcases List.mem_cons.mp (I.stkSub _ z) with e | e
    · have h1 := I.lt
      rw [← e] at h1
      exact Nat.lt_irrefl _ (Nat.lt_of_lt_of_le h1 hf)
    · exact I.nofs hf e
  cases hc : codeAmong pos ps.toList with
  | none =>
    refine PySem.W.kla_makeFunction (mg := X.mg) (c := c) (P := P) (ps := ps) (closure_ok hfree) I.ok.glob (I.mod.glob.keeps I.bk) hcode (TB.code.keeps I.bk) hP' ht hc TB.gP bP fun c' ctv h' tk hx hge hlt hrec htb => ?_
    obtain ⟨c2, oc, vs, t, e2, hoc, hd, hv⟩ := hrec
    cases e2
    have hsz : s.heap.objs.size ≤ h'.objs.size := Nat.le_trans hge (Nat.le_of_lt hlt)
    have nC : H c' = none := I.hok.fresh hge
    have I1 := inv_table (t' := tk) (more := #[rawInt pos.line, rawInt pos.col, .ref c']) (h' := h'.push (PySem.W.kla_obj "<lambda>" (X.env.qual ++ "<lambda>") params body scope (cloFrom X.env.cells scope.names []) ((X.mg "__name__").getD .none) c' ctv)) I hP
      (fun b o hb e => Heap.get?_push_of_some _ (hx b o hb e)) (Heap.get?_push_of_some _ htb) hge ⟨oc, vs, t, Heap.get?_push_of_some _ hoc, hd, hv⟩
    have eL : (ps ++ #[rawInt pos.line, rawInt pos.col, .ref c']).toList = ps.toList ++ [rawInt pos.line, rawInt pos.col, .ref c'] := by simp
    refine h h'.objs.size c' ((X.mg "__name__").getD .none) ctv _ _ I1 (.inr ⟨_, nC, rfl, by rw [eL]; exact PySem.TriplesOk_snoc _ _ _ _ ht, fun p' cv hcv => ?_⟩) (Heap.get?_push_size _ rfl) ?_ (nofr _ hsz) upd_same
    · rw [eL] at hcv
      exact among_app _ ht hcv
    · have n1 : h'.objs.size ≠ c' := Nat.ne_of_gt hlt
      have n2 : h'.objs.size ≠ P := Nat.ne_of_gt (Nat.lt_of_lt_of_le (Heap.lt_size hP') hsz)
      rw [upd_ne n1, upd_ne n2]
      exact I.hok.fresh hsz
  | some cv =>
    obtain ⟨c', e, hco⟩ := ha pos cv hc
    subst e
    refine PySem.W.kla_makeFunctionHit (mg := X.mg) (c := c) (P := P) (ps := ps) (closure_ok hfree) I.ok.glob (I.mod.glob.keeps I.bk) hcode (TB.code.keeps I.bk) hP' ht hc bP fun ctv h' tk hx hsz => ?_
    have I1 : L2.Inv X pins σ H { s with heap := h'.push (PySem.W.kla_obj "<lambda>" (X.env.qual ++ "<lambda>") params body scope (cloFrom X.env.cells scope.names []) ((X.mg "__name__").getD .none) c' ctv), toks := tk } := I.kept fun b o e => Heap.get?_push_of_some _ (hx b o e)
    exact h h'.objs.size c' ((X.mg "__name__").getD .none) ctv H _ I1 (.inl rfl) (Heap.get?_push_size _ rfl) (I.hok.fresh hsz) (nofr _ hsz) hco
end
theorem codeO_own {c u : Addr} {q : Str} : CodeO c q ≠ .own u := fun z => by
  unfold CodeO at z
  cases z
section
variable {T : Tb} {G : Addr → Prop} {H H1 : Hp} {μ : List Addr} {st : Store}
/-- the table's place -/
structure TabAt (T : Tb) (μ : List Addr) (st : Store) (i : Nat) : Prop where
  mu : μ[i]? = some T.tb
  st : st[i]? = some .tbl
theorem Post.lam (g : GoodT T G μ H st) {i : Nat} (t : TabAt T μ st i) {ps : Array Value} (hP : H T.tb = some (.tbl ps)) {c' : Addr} (hs : LamStep T.tb c' T.tq ps H H1) : Post T G μ H μ H1 st := by
  rcases hs with rfl | ⟨more, nC, rfl, ht, hcod⟩
  · exact Post.refl g
  · obtain ⟨_, ps', hP', _, hold⟩ := (show ORep T H (FF G μ) μ T.tb .tbl from g.sto.ob i _ _ t.st t.mu)
    rw [hP] at hP'
    obtain rfl : ps = ps' := by cases hP'; rfl
    have mP : T.tb ∈ μ := List.mem_of_getElem? t.mu
    have nP : ∀ {b : Addr}, ¬ FF G μ b → b ≠ T.tb := fun n z => n (z ▸ .inl mP)
    have kp : ∀ b o, H b = some o → b ≠ T.tb → upd (upd H T.tb (.tbl (ps ++ more))) c' (CodeO c' T.tq) b = some o := fun b o e n => by
      rw [upd_ne (ne_of_none e nC), upd_ne n]; exact e
    have hPc : T.tb ≠ c' := ne_of_none hP nC
    have mv : Mv H (upd (upd H T.tb (.tbl (ps ++ more))) c' (CodeO c' T.tq)) (FF G μ) (FF G μ) μ μ := ⟨fun a o e n => kp a o e (nP n), fun _ z => .inl z, List.prefix_refl _⟩
    refine ⟨List.prefix_refl _, fun _ z => .inl z, fun a o e n => kp a o e fun z => n (z ▸ mP), g.sto.len, g.sto.nd, fun j o a h1 h2 => ?_⟩
    by_cases hj : j = i
    · subst hj
      rw [t.mu] at h2
      rw [t.st] at h1
      cases h1; cases h2
      refine ⟨rfl, ps ++ more, by rw [upd_ne hPc, upd_same], ht, fun p' cv hcv => ?_⟩
      rcases hcod p' cv hcv with z | z
      · obtain ⟨c0, e0, h3, h4⟩ := hold p' cv z
        exact ⟨c0, e0, kp _ _ h3 (nP h4), h4⟩
      · exact ⟨c', z, upd_same, g.fresh nC⟩
    · have ha : a ≠ T.tb := fun z => hj (nodup_get g.sto.nd h2 (z ▸ t.mu))
      refine (g.sto.ob j o a h1 h2).mv mv (fun u e => kp _ _ e ha) (fun _ z => .inl z) fun b u e nb => kp _ _ e fun z => by rw [z, hP] at e; cases e
end
/-- the reading of f(lambda: body): t: the body's, by what a raised error meets; TT: what the def makes of it -/
def rdLam (T : Tb) (i : Nat) (TT : (XK → Hp → VK → Prop) → Hp → VK → Prop) (t : XK → TE) : TE := fun σ H Q => ∃ G μ env st, Good T G μ H σ env st ∧ TabAt T μ st i ∧ ∀ H1, Post T G μ H μ H1 st → TT (fun E H' Q' => t E σ H' Q') H1 Q
theorem se_lamcall {X : Cx} {T : Tb} {i : Nat} {TT : (XK → Hp → VK → Prop) → Hp → VK → Prop} {x a : Str} {g c : Addr} {k : Nat} {pg : Arguments} {bg : List Stmt} {sg : Scope} {dV kV doc pm cdv ct oc : Value} {an od : Option Addr} {osl : Array (Option Value)} {Ng : List Str}
    {params : Arguments} {body : Expr} {scope : Scope} {t : XK → TE} {p lpos pos : Pos} (hg : Gl X x) (hm : X.mg x = some (.ref g)) (hk : PySem.W.keepIn X.K (.ref g) = true)
    (lk : X.K.lookup g = some ⟨oc, od, .func (PySem.W.fnOf x x pg bg sg dV kV doc pm an cdv ct), osl⟩) (hcg : PySem.W.codeIn X.K cdv x = true) (hb : L2.Binds X.K (PySem.W.fnOf x x pg bg sg dV kV doc pm an cdv ct) [a] []) (Sg : FnScope Ng [a] sg) (hNg : Ng[0]? = some a) (hva : Vis sg a)
    (hG : GivesTo X Ng x sg g cdv bg a (X.env.qual ++ "<lambda>") TT)
    (TB : TabB X.base X.mg c T.tb) (hq : T.tq = X.env.qual ++ "<lambda>") (hcode : X.env.code = .ref c) (hr : Room (k + 2) X.A) (L : LamS X.env.scope scope) (hdef : defaultsOf params X.env = ([], []))
    (hbind : ∀ (q : Str) (cl : List (Str × Addr)) (pm cv ctv : Value), bindArgs (PySem.W.kla_fn "<lambda>" q params body scope cl pm cv ctv) ⟨[], []⟩ = pure [])
    (hbody : ∀ (A : Around) (outer : List PySem.Env) (s : Shared) (H : Hp) (E : XK) (f c' : Addr), Room k (A.deeper (lamEnv X scope s.heap.objs.size f c')) → PE (lamCx X A outer s H E scope f c') body (t E))
    (hdb : (x == ("__debug__" : Str)) = false := by decide) (hd : (a == ("__debug__" : Str)) = false := by decide) (hcd : (a == ("__classdict__" : Str)) = false := by decide) :
    PE X (.Call (.Name x p) [.Lambda params body scope lpos] [] pos) (rdLam T i TT t) := by
  refine ⟨fun pins s σ H Q I hh => ?_⟩
  obtain ⟨G, μ, env, st, g0, ta, h⟩ := hh
  obtain ⟨_, ps, hP, htr, hcod⟩ := (show ORep T H (FF G μ) μ T.tb .tbl from g0.sto.ob i _ _ ta.st ta.mu)
  refine wpAny_Call_Name_kw (ld_glob I hg hm ?_ hdb)
  refine PySem.W.callWith_K (h₀ := X.base) I.ok.mod.kin hk ?_ (by rfl) (by rfl)
  show wpAny _ _ (spliced ((false, eval (.Lambda params body scope lpos) X.env) :: backTo pos (starEach [] X.env))) _ _ s
  refine Calls.spliced_cons (lam_make I TB hcode hP htr (fun pos cv e => by
    obtain ⟨c0, e0, h3, _⟩ := hcod pos cv e
    exact ⟨c0, e0, hq ▸ h3⟩) hdef (L.has I.ok) fun f c' pm' ctv H1 s' I1 eN hf hfn hfr hco => ?_)
  have pp : Post T G μ H μ H1 st := Post.lam g0.toGoodT ta hP (hq ▸ eN)
  refine Calls.spliced_nil ⟨I1.kIn, ?_⟩
  have rc : codeAny (model X.prog X.w) X.A (.call (.ref g) ⟨[.ref f], []⟩) (CR C8.CX0 X.stack X.prog X.w H1 s' Q C8.E0) s' := by
    refine run_ofS (N := Ng) (ps := [a]) (us := [.ref f]) (vs := [.ref f]) lk hcg Sg hr I1.env0 (hb s' [.ref f] I1.kIn rfl) (.cons rfl .nil) rfl fun hr' => ?_
    obtain ⟨t', ht', hq'⟩ := hG f c' s' H1 Q (fun E H' Q' => t E σ H' Q') (fun W pn xe E p1 p2 tk hW => pe_act (i := 0) I1 L hf hfn hfr (hbind _ _ _ _ _) tk hW hr' (fun A outer s H hr2 => hbody A outer s H E f c' hr2) hNg hva hd hcd) hco (h H1 pp)
    exact ⟨t', ht'.nox, hq'⟩
  refine wpAny_call (codeAny_mono rc fun r s2 hq => ?_)
  cases r with
  | error e => exact (show False from hq).elim
  | ok fl =>
    cases fl with
    | ret u => exact I1.after hq
    | next => exact False.elim hq
    | brk => exact False.elim hq
    | cont => exact False.elim hq
end PD
end ZPDLam
section ZPDExc
set_option Elab.async false
set_option linter.all false
set_option maxRecDepth 100000
set_option maxHeartbeats 2000000
namespace PD
open PySem PySem.Spec L2 PyProof.Rows
/-! an error that is kept behind its except suite -/
/-- at a: an error of the class cls with its dict at d -/
def ExnO (cls : Value) (d : Option Addr) (a : Addr) : HO := .ext fun h => ∃ (oe : Obj) (vs : Array Value), h.get? a = some oe ∧ Zc cls d oe ∧ oe.data = .fields vs
theorem exnO_ok {P : Program} {w : World} {H : Hp} {h : Heap} {a : Addr} {cls : Value} {d : Option Addr} {oe : Obj} {vs : Array Value} (e : h.get? a = some oe) (z : Zc cls d oe) (dd : oe.data = .fields vs) : ObjOk P w H h a (ExnO cls d a) :=
  ⟨⟨oe, vs, e, z, dd⟩, ⟨oe, e⟩, fun _ _ ⟨o, v, q, r⟩ k => ⟨o, v, k o q, r⟩⟩
section
variable {X : Cx} {pins : List (Addr × Obj)} {σ : L2.St} {H : Hp} {s : Shared}
/-- an object that stands there already, told from now on -/
theorem adopt {a : Addr} {oe : Obj} {vs : Array Value} {o : HO} (I : L2.Inv X pins σ H s) (ha : s.heap.get? a = some oe) (hd : oe.data = .fields vs) (hn : H a = none) (h0 : X.s_0.heap.get? a = none) (hp : ∀ p ∈ X.pn ++ pins, p.1 ≠ a) (nL : a ≠ X.env.locals)
    (new : ObjOk X.prog X.w (upd H a o) s.heap a o) : L2.Inv X pins σ (upd H a o) s where
  ok := I.ok
  os := I.os
  bare := I.bare
  base :=
    { keep := I.base.keep
      slot := I.base.slot
      free := fun b u q n hx => by
        rw [upd_ne (fun z => by rw [z, h0] at q; cases q)]
        exact I.base.free b u q n hx
      there := I.base.there
      tups := fun b xs q => by
        have z := I.base.tups b xs q
        rw [upd_ne (ne_of_none z hn)]; exact z
      frzs := fun b u xs q => by
        have z := I.base.frzs b u xs q
        rw [upd_ne (ne_of_none z hn)]; exact z
      tbls := fun b ps q => by
        obtain ⟨m, z⟩ := I.base.tbls b ps q
        exact ⟨m, by rw [upd_ne (ne_of_none z hn)]; exact z⟩ }
  loc := I.loc
  cell := I.cell
  free := by rw [upd_ne (fun z => nL z.symm)]; exact I.free
  freeC := fun x c e => by
    have hc : c ≠ a := fun z => by
      obtain ⟨v, ob, ho, hdd⟩ := I.cell x c e
      rw [z, ha] at ho
      cases ho
      rw [hd] at hdd
      cases hdd
    rw [upd_ne hc]; exact I.freeC x c e
  pin := fun p hpm => by
    obtain ⟨h1, h2, h3, h4, h5⟩ := I.pin p hpm
    exact ⟨h1, by rw [upd_ne (hp p hpm)]; exact h2, h3, h4, h5⟩
  hok := HOk.laidN I.hok (fun _ _ e => e) hn new
  len := I.len
end
/-- what 'except x as n' wishes: slot i is n's; the error is told behind the suite -/
def wAsK (K : PySem.W.Frag) (c : Value) (i : Nat) (ts : Addr → Value → Option Addr → TS) (Wout : WX) (D : Ends) : WX := fun cls d σ H =>
  ∃ b, PySem.W.exmOne K cls c = some b ∧ (b = true → ∀ a, H a = none → ts a cls d { nx := fun σ' H' => H' a = none → D.nx (σ'.set i none) (upd H' a (ExnO cls d a)), rt := D.rt, bk := fun _ _ => False, ct := fun _ _ => False } (σ.set i (some (.ref a))) H) ∧
    (b = false → Wout cls d σ H)
section
variable {X : Cx} {x n : Str} {c : Value} {i : Nat} {body suite : List Stmt} {b₀ : Stmt} {np pos pos' : Pos} {tb : WX → TS} {ts : Addr → Value → Option Addr → TS} {Wout : WX}
theorem ps_try_keep (hex : X.ex = []) (hs : X.stack = X.env :: X.outer) (hf : X.env.frame = some X.env.locals) (hN : X.N.Nodup) (hi : X.N[i]? = some n) (hln : X.env.kindOf n = some .local) (hc : Names X x c) (tk : Takes X Wout)
    (hb : ∀ (W : WX) (pn : List (Addr × Obj)) (xe : Value → Shared → Prop), Takes (X.tr pn xe) W → PassesOwn (model X.prog X.w) X.A X.env xe → PSs (X.tr pn xe) body (tb W))
    (hsu : ∀ (a : Addr) (oe : Obj) (cls : Value) (d : Option Addr) (pn : List (Addr × Obj)), Zc cls d oe → (∃ vs, oe.data = .fields vs) → PSs (X.suite a ((a, oe) :: pn)) (b₀ :: suite) (ts a cls d)) :
    PS X (.Try body [.ExceptHandler (some (.Name x np)) (some n) (b₀ :: suite) pos'] [] [] pos) (fun D σ H => tb (wAsK X.K c i ts Wout D) D σ H) := by
  refine ⟨fun pins s σ H D I h => ?_⟩
  have ok := I.ok
  have hfr : X.A.frames = some (X.env :: X.outer) := by rw [ok.frames, hs]
  have hloc : Loc X.env.scope n := .inl hln
  refine wpAny_Try_except ?_
  refine wpAny_mono ((hb (wAsK X.K c i ts Wout D) (X.pn ++ pins) (fun e s₁ => wpAny (model X.prog X.w) X.A (noteFrame e X.env) (fun _ s₂ => wpAny (model X.prog X.w) X.A (setFlight e none) (fun _ s₃ =>
    wpAny (model X.prog X.w) X.A (handleBy e X.env [.ExceptHandler (some (.Name x np)) (some n) (b₀ :: suite) pos']) (SP X pins D) X.xe s₃) X.xe s₂) X.xe s₁) (fun u s' xx => ?_) PassesOwn.looking).run [] s σ H D (I.toTry _) h) (fun f s1 hsp => ?_) (fun e s1 he => he)
  · -- the catch
    obtain ⟨a, B, sI, pins', σ', H', cls, d, rfl, J', nb, up, sky, na, os, ag, b, hb1, hyes, hno⟩ := xx
    have J : L2.Inv X pins σ' H' sI := J'.ofTry ok
    have sky' : Sky B (X.env :: X.outer) a (Zc cls d) X.env.locals s'.heap := by rw [← hs]; exact sky
    show wpAny (model X.prog X.w) X.A (noteFrame (.ref a) X.env) _ _ _
    refine Sky.land Zc.steady hfr hf sky' fun h3 fl3 up3 => ?_
    have J3 : L2.Inv X pins σ' H' { s' with heap := h3 } := J.landed nb fl3.1 (up.trans up3) os ag
    obtain ⟨oe3, vs3, he3, hz3, hd3⟩ := fl3.there
    have notFr : ∀ {h : Heap} {o : Obj} {vs : Array Value}, h.FunFrames B (X.env :: X.outer) → h.get? a = some o → o.data = .fields vs → a ∉ frs (X.env :: X.outer) := fun {h o vs} ff e dd hm => by
      obtain ⟨_, o', e', hnf⟩ := ff.mem hm
      rw [e] at e'; cases e'
      exact hnf _ dd
    have nfr := notFr fl3.2.2.1 he3 hd3
    have nL : a ≠ X.env.locals := fun z => nfr (List.mem_filterMap.mpr ⟨X.env, List.mem_cons_self, by rw [hf, z]⟩)
    have nF : a ∉ X.fs := fun hm => by
      obtain ⟨e, he, q⟩ := List.mem_filterMap.mp hm
      exact nfr (List.mem_filterMap.mpr ⟨e, List.mem_cons_of_mem _ he, q⟩)
    -- a is new since the entry
    have nB : B.get? a = none := fl3.2.1
    have nI : sI.heap.get? a = none := by
      cases q : sI.heap.get? a with
      | none => rfl
      | some o =>
        have z := nb a o q (by rw [hs]; exact nfr)
        rw [nB] at z; cases z
    have n0 : X.s_0.heap.get? a = none := by
      cases q : X.s_0.heap.get? a with
      | none => rfl
      | some o =>
        obtain ⟨o', e'⟩ := J.base.there a o q (by rw [hex]; exact fun z => nomatch z)
        rw [nI] at e'; cases e'
    have hpin : ∀ p ∈ X.pn ++ pins, p.1 ≠ a := fun p hp z => by
      have := (J.pin p hp).1
      rw [z, nI] at this; cases this
    have S3 := J3.suite he3 hd3 na nL nF
    refine wpAny_handleBy_cons (codeAny_handlers_test ?_) (by intro q; cases q)
    have LT : PySem.W.Looks (model X.prog X.w) h3 (typeOf (.ref a)) cls := fun A Q E s k q => wpAny_typeOf_ref (k _ _ he3) (by rw [hz3.1]; exact q)
    have LM := PySem.W.exm_one (M := model X.prog X.w) (J3.kIn) LT hb1
    have test : ∀ {Q : Value → Shared → Prop} {E : Value → Shared → Prop}, Q c { s' with heap := h3 } → wpAny (model X.prog X.w) (X.A.mark (some (.ref a))) (eval (.Name x np) X.env) Q E { s' with heap := h3 } := fun {Q E} q => by
      obtain ⟨hg, hdbg, hm | ⟨hm, hv, hnn⟩⟩ := hc
      · exact ld_glob (X := X.suite a ((a, oe3) :: (X.pn ++ pins))) S3 hg hm q hdbg
      · exact ld_blt (X := X.suite a ((a, oe3) :: (X.pn ++ pins))) S3 hg hm hv q hnn hdbg
    refine test (LM.here ?_)
    cases b with
    | true =>
      refine codeAny_handlers_suite_as ?_
      refine HandSPX.lands_againZ fl3 fun h4 fl4 up4 => ?_
      have J4 : L2.Inv X pins σ' H' { s' with heap := h4 } := J.landed nb fl4.1 ((up.trans up3).trans up4) os ag
      obtain ⟨oe4, vs4, he4, hz4, hd4⟩ := fl4.there
      have S4 := J4.suite he4 hd4 na nL nF
      refine store_ok (X := X.suite a ((a, oe4) :: (X.pn ++ pins))) (v := .ref a) S4 hN hi hloc rfl (fun s5 S5 => ?_) (.inr hln)
      refine wpAny_mono ((hsu a oe4 cls d (X.pn ++ pins) hz4 ⟨_, hd4⟩).run [] s5 _ H' _ S5 (hyes rfl a na)) (fun f s6 hsp => ?_) (fun _ _ z => False.elim z)
      have end_ : ∀ {σ6 : L2.St} {H6 : Hp} {Q : Shared → Prop}, L2.Inv (X.suite a ((a, oe4) :: (X.pn ++ pins))) [] σ6 H6 s6 → (∀ s7, L2.Inv X pins (σ6.set i none) (upd H6 a (ExnO cls d a)) s7 → Q s7) →
          wpAny (model X.prog X.w) X.A (do bindName X.env n .none; unbindBehindTheSuite X.env n pos') (fun _ s7 => Q s7) X.xe s6 := fun {σ6 H6 Q} S6 hq => by
        obtain ⟨g1, g2, _⟩ := S6.pin (a, oe4) (List.mem_append_left _ List.mem_cons_self)
        exact gone_ok (adopt (S6.unsuite ok) g1 hd4 g2 n0 hpin nL (exnO_ok g1 hz4 hd4)) hN hi hln hq
      have end0_ : ∀ {σ6 : L2.St} {H6 : Hp} {Q : Shared → Prop}, L2.Inv (X.suite a ((a, oe4) :: (X.pn ++ pins))) [] σ6 H6 s6 → (∀ s7, L2.Inv X pins (σ6.set i none) H6 s7 → Q s7) →
          wpAny (model X.prog X.w) X.A (do bindName X.env n .none; unbindBehindTheSuite X.env n pos') (fun _ s7 => Q s7) X.xe s6 := fun {σ6 H6 Q} S6 hq => gone_ok (S6.unsuite ok) hN hi hln hq
      cases f with
      | next =>
        obtain ⟨σ6, H6, S6, q6⟩ := hsp
        obtain ⟨_, g2, _⟩ := S6.pin (a, oe4) (List.mem_append_left _ List.mem_cons_self)
        exact end_ S6 fun s7 J7 => ⟨_, _, J7, q6 g2⟩
      | brk =>
        obtain ⟨σ6, H6, S6, q6⟩ := hsp
        exact q6.elim
      | cont =>
        obtain ⟨σ6, H6, S6, q6⟩ := hsp
        exact q6.elim
      | ret u =>
        obtain ⟨v6, σ6, H6, S6, r6, q6⟩ := hsp
        exact end0_ S6 fun s7 J7 => ⟨_, _, _, J7, r6, q6⟩
    | false =>
      show wpAny _ X.A (handleBy (.ref a) X.env []) _ _ _
      refine wpAny_handleBy_nil ?_
      obtain ⟨k1, k2, k3, oe, vs, T, oT, ts', he, hz, hd, h1, hr⟩ := id fl3
      unfold PySem.passOn
      refine wpAny_bind (wpAny_field he hd h1 ?_)
      rw [if_neg (show ¬ ((Value.ref T == Value.none) = true) from by simp)]
      have fin : wpAny (model X.prog X.w) X.A (setFlight (.ref a) X.env.frame) (fun _ s4 => wpAny (model X.prog X.w) X.A (throw (.ref a) : Sem Flow) (SP X pins D) X.xe s4) X.xe { s' with heap := h3 } := by
        rw [hf]
        refine HandSPX.setFlight_upZ fl3 fun h4 hh4 up4 => wpAny_throw (tk _ _ ?_)
        exact ⟨a, B, sI, pins, σ', H', cls, d, rfl, J, nb, (up.trans up3).trans up4, .inr (.inr (by rw [hs]; exact hh4)), na, os, ag, hno rfl⟩
      first
        | exact wpAny_bind (wpAny_pure (wpAny_bind fin))
        | exact wpAny_bind fin
  · cases f with
    | next =>
      obtain ⟨σ', H', J', q⟩ := hsp
      exact wpAny_execs_nil ⟨σ', H', J'.ofTry ok, q⟩
    | brk =>
      obtain ⟨σ', H', J', q⟩ := hsp
      exact ⟨σ', H', J'.ofTry ok, q⟩
    | cont =>
      obtain ⟨σ', H', J', q⟩ := hsp
      exact ⟨σ', H', J'.ofTry ok, q⟩
    | ret u =>
      obtain ⟨v, σ', H', J', r, q⟩ := hsp
      exact ⟨v, σ', H', J'.ofTry ok, r, q⟩
end
/-! isinstance and a field of an error that is kept -/
section
variable {X : Cx} {pins : List (Addr × Obj)} {σ : L2.St} {H : Hp} {s : Shared}
theorem exn_at {a C d : Addr} {fs : List (Str × V)} (I : L2.Inv X pins σ H s) (ha : H a = some (ExnO (.ref C) (some d) a)) (hd : H d = some (.xd fs)) :
    ∃ oe od, PySem.W.InstAt s.heap a oe C (some od) ∧ ∃ mA : Str → Option Value, (∀ name, PySem.W.lookIn name od = some (mA name)) ∧ ∀ f, RelO (fs.lookup f) (mA f) := by
  obtain ⟨⟨oe, vs, he, hz, hv⟩, _⟩ := I.hok a _ ha
  have hx : ObjOk X.prog X.w H s.heap d (.xd fs) := I.hok d _ hd
  obtain ⟨mA, hns, hr⟩ := hx
  obtain ⟨od, ho, hl⟩ := lookIn_ns hns
  exact ⟨oe, od, ⟨he, hz.1, by unfold PySem.W.notCls; rw [hv] <;> rfl, by rw [hz.2]; exact ho⟩, mA, hl, hr⟩
/-- isinstance(e, c) -/
def rIsK (K : PySem.W.Frag) : List V → Hp → VK → Prop := fun xs H Q => ∃ (a D d : Addr) (fs : List (Str × V)) (c : V) (cv : Value) (b : Bool), xs = [.ref a, c] ∧ H a = some (ExnO (.ref D) (some d) a) ∧ H d = some (.xd fs) ∧ (∀ u, RelV c u → u = cv) ∧ ExcC K D ∧ PySem.W.kitOne K (.ref D) cv = some b ∧ Q (.bl b) H
theorem call_isK {X : Cx} : CallR X (.builtin "isinstance") (rIsK X.K) := by
  intro pins s σ H xs us Q I r h
  obtain ⟨a, D, d, fs, c, cv, b, rfl, ha, hd, hcv, C, e, q⟩ := h
  cases r with
  | cons rx rr =>
    cases rr with
    | cons rt rr =>
      cases rr
      cases rx
      have ec := hcv _ rt
      subst ec
      obtain ⟨oe, od, J, _⟩ := exn_at I ha hd
      have hcl : (PySem.W.clsIn X.K D).isSome = true := by
        obtain ⟨cd, hc, _⟩ := PySem.W.any_some C.hd
        rw [hc]; rfl
      exact PySem.W.kia_one (PySem.W.kitx_exc hcl C.hg C.hk C.hs C.ha C.hn C.ht C.hm) I.kIn J e (fun z => nomatch z) fun tk => ⟨.bl b, H, I.kept (t' := tk) fun _ _ z => z, rfl, q⟩
/-- e.f -/
theorem pe_valK {X : Cx} {e : Expr} {te : TE} {pos : Pos} {n : Str} (he : PE X e te) (hb : attributeBase e n X.env (eval e X.env) = eval e X.env := by rfl) :
    PE X (.Attribute e n pos) (fun σ H Q => te σ H fun x H1 => ∃ (a C d : Addr) (fs : List (Str × V)) (v : V), x = .ref a ∧ H1 a = some (ExnO (.ref C) (some d) a) ∧ H1 d = some (.xd fs) ∧ XfC X.K C ∧ PySem.W.findIn X.K (.ref C) n = some none ∧ fs.lookup n = some v ∧ Q v H1) := by
  refine ⟨fun pins s σ H Q I h => ?_⟩
  refine attr_of hb (thn (he.run pins s σ H _ I h) fun u s1 hh => ?_)
  obtain ⟨x, H1, I1, rx, a, C, d, fs, v, ex, ha, hd, T, hno, l, q⟩ := hh
  subst ex
  obtain rfl : u = Value.ref a := rx
  obtain ⟨oe, od, J, mA, hl, hr⟩ := exn_at I1 ha hd
  obtain ⟨u, hu, ru⟩ := RelO.some_of (v := v) (o := mA n) (by rw [← l]; exact hr n)
  exact HandSPX.exc_get I1.kIn J T.ga T.gg T.exC (PySem.W.findObj_own T.hdC hno rfl (by rw [hl, hu])) (handed_of ru) ⟨v, H1, I1.tok _, ru, q⟩
end
end PD
end ZPDExc
section ZPDMake
set_option Elab.async false
set_option linter.all false
set_option maxRecDepth 100000
set_option maxHeartbeats 2000000
namespace PD
open PySem PySem.Spec L2 PyProof.Rows
/-! an own exception over ValueError whose __init__ is 'super().__init__(x); self.f = x' -/
/-- what the written part says of such an __init__ -/
structure SupI (K : PySem.W.Frag) (prog : Program) (fI D : Addr) (st : Stmt) (qual x f : Str) : Prop where
  ex : ∃ (oc kV doc pm ct ccl cl : Value) (od an cdd cld : Option Addr) (osl ccs csl : Array (Option Value)) (cda cc : Addr) (vs : Array Value) (file : Str) (tf : Tok) (cdD : ClassData),
    K.lookup fI = some ⟨oc, od, .func (PySem.W.ksFn "__init__" qual (defArgs st) (defBody st) (defScope st) .none kV doc pm an (.ref cda) ct cc), osl⟩ ∧ PySem.W.codeIn K (.ref cda) qual = true ∧
    K.lookup cda = some ⟨ccl, cdd, .fields vs, ccs⟩ ∧ vs[2]? = some (.str file tf) ∧ ((prog.main.file : Str) == file) = true ∧ K.lookup cc = some ⟨cl, cld, .cell (some (.ref D)), csl⟩ ∧ PySem.W.clsIn K D = some cdD
  body : ∃ p0 p1 p2 p3 p4 p5 p6 p7 p8 p9, defBody st = [.Expr (.Call (.Attribute (.Call (.Name "super" p0) [] [] p1) "__init__" p2) [.Name x p3] [] p4) p5, .Assign [.Attribute (.Name "self" p6) f p7] (.Name x p8) p9] ∧
    ∀ env : PySem.Env, ∃ pl : Sem Bool, eval (.Call (.Attribute (.Call (.Name "super" p0) [] [] p1) "__init__" p2) [.Name x p3] [] p4) env = (do
      let ov ← attributeBase (.Call (.Name "super" p0) [] [] p1) "__init__" env (eval (.Call (.Name "super" p0) [] [] p1) env)
      standAt p2.atName
      let (m, first) ← holding [ov] (getMethod ov "__init__" pl)
      callWith p4 m first (backTo p4 (starEach [.Name x p3] env)) []) ∧
      swapsWith (.Call (.Attribute (.Call (.Name "super" p0) [] [] p1) "__init__" p2) [.Name x p3] [] p4) none p5.line env = pure false ∧ swapsWith (.Name x p8) (some (.Attribute (.Name "self" p6) f p7)) p9.line env = pure false ∧
      starEach [.Name x p3] env = (false, eval (.Name x p3) env) :: starEach [] env
  par : ∃ ar, ((defArgs st).posonlyargs ++ (defArgs st).args).head? = some ar ∧ ar.arg = "self"
  bind : ∀ (kV doc pm : Value) (an : Option Addr) (cdv ct : Value) (cc : Addr) (u v : Value), bindArgs (PySem.W.ksFn "__init__" qual (defArgs st) (defBody st) (defScope st) .none kV doc pm an cdv ct cc) ⟨[u, v], []⟩ = pure [(("self" : Str), u), (x, v)]
  kind : (defScope st).kind = .function
  co : (defScope st).isCoroutine = false
  gen : (defScope st).isGenerator = false
  nocell : ∀ y ∈ (defScope st).names, y.2 ≠ .cell
  sup : (defScope st).names.lookup ("super" : Str) = some .globalImplicit
  kcls : (defScope st).names.lookup ("__class__" : Str) = some .free
  kself : (defScope st).names.lookup ("self" : Str) = some .local
  kx : (defScope st).names.lookup x = some .local
  ne : x ≠ "self"
  nd : (x == ("__debug__" : Str)) = false
  top : (prog.main.scope.names.lookup ("super" : Str)).isSome = false
/-- .. of a class that has it -/
structure SupC (K : PySem.W.Frag) (C D : Addr) (f : Str) : Prop where
  T : OexC K C
  sub : PySem.W.mroIn K C (.ref D) = some true
  opq : PySem.W.nsIn K cStatics "thirdparty.any" = some none
  sup : PySem.W.ks_superIn K C D "__init__" = some (some (.builtin "ValueError.__init__"))
  isV : PySem.W.subIn K (.ref C) (.type "ValueError") = some true
  no : PySem.W.findIn K (.ref C) f = some none
section
variable {prog : Program} {w : World} {A : Around} {R : Result → Shared → Prop} {K : PySem.W.Frag}
/-- the bound __init__ of ValueError, called -/
theorem call_mwVE {E : Value → Shared → Prop} {h : Heap} {g : Array GenState} {d : Drawn} {t : Nat} {os : OsState} {nm q : Str} {C N : Addr} {bs bm : List Value} {hdct : Bool} {sn : List Str} {sub : List Value} {ab : Bool} {col : Option Bool} {dd : Option Addr} {k0 k1 k2 k3 k5 : Option Value}
    {u e t0 : Addr} {rest : List Value} {Q : Value → Shared → Prop} (hrest : rest.length ≤ sizeLine) (hu : h.get? u = some (PySem.W.kxs_mw "ValueError.__init__" e)) (he : h.get? e = some (PySem.HandSPX.excO C t0))
    (hC : h.get? C = some (excClassObj nm q C N bs bm hdct sn sub ab col dd k0 k1 k2 k3 k5 "ValueError.__new__"))
    (hq : ∀ h' t1, (∀ b o, b ≠ e → h.get? b = some o → h'.get? b = some o) → h'.get? e = some (PySem.HandSPX.excO C t1) → Q .none ⟨h', g, d, t, os⟩) : wpAny (model prog w) A (call (.ref u) rest) Q E ⟨h, g, d, t, os⟩ := by
  have yes : (Value.type "method-wrapper" == Value.type "method" || Value.type "method-wrapper" == Value.type "builtin_function_or_method" || Value.type "method-wrapper" == Value.type "method-wrapper") = true := by decide
  refine wpAny_call (codeAny_of_tree (show wpAny (model prog w) A.in1 (callAny (.ref u) ⟨rest, []⟩) _ _ _ from ?_))
  simp only [callAny]
  refine wpAny_bind (wpAny_load hu ?_)
  simp only [PySem.W.kxs_mw, yes, if_true]
  refine PySem.W.KFB.if_so (by decide) (wpAny_bind (PySem.ESX.check_bound F.excBase_ValueError hC he rfl (wpAny_bind (wpAny_pure (wpAny_pure ⟨Code.quiet_builtin _ (by decide +kernel), codeAny_builtin F.excBase_ValueError.initEntry ?_⟩)))))
  rw [Around.under_plainId F.excBase_ValueError.init.plain _]
  exact PySem.W.exc_init_tree (cls := .ref C) (t0 := t0) (dv := none) (c2 := .none) (c3 := .none) (b4 := .bool false) he hrest fun h' k e' _ => hq h' _ k e'
theorem super_init {C D fI a t0 : Addr} {st : Stmt} {qual x f : Str} {u : Value} {h : Heap} {g : Array GenState} {d : Drawn} {t : Nat} {os : OsState} {mg mb : Str → Option Value} (S : SupI K prog fI D st qual x f) (Y : SupC K C D f) (X : K.In h) (lim : h.NoLimit) (G : h.Ns mainGlobals mg) (B : h.Ns builtinsNs mb)
    (hms : mg "super" = none) (hbs : mb "super" = some (.type "super")) (hroom : A.depth < recursionLimit) (he : h.get? a = some (PySem.HandSPX.excO C t0)) (na : K.lookup a = none)
    (hq : ∀ h' tk dx t1, (∀ b o, b ≠ a → h.get? b = some o → h'.get? b = some o) → h.objs.size ≤ dx → h'.get? a = some ({ cls := .ref C, dict := some dx, data := .fields #[.ref t1, .none, .none, .none, .bool false, .none] } : Obj) →
      h'.Ns1 dx (fun y => if y = f then some u else none) → R (.ok (.ret .none)) ⟨h', g, d, tk, os⟩) :
    codeAny (model prog w) A (.call (.ref fI) ⟨[.ref a, u], []⟩) R ⟨h, g, d, t, os⟩ := by
  obtain ⟨oc, kV, doc, pm, ct, ccl, cl, od, an, cdd, cld, osl, ccs, csl, cda, cc, vs, file, tf, cdD, lk, hcd, lcode, hvs, hfile, lcell, hD⟩ := S.ex
  obtain ⟨p0, p1, p2, p3, p4, p5, p6, p7, p8, p9, hb, hev⟩ := S.body
  obtain ⟨ar, har, hself⟩ := S.par
  obtain ⟨nm, q, N, bs, bm, sn, sub, ab, col, dd, k0, k1, k2, k3, k5, hC, hbm⟩ := Y.T.cls
  have hCh := X _ _ hC
  have hbv : (Str.ofString "super") = "super" := rfl
  have hcl : PySem.W.clsIn K C = some { name := nm, bases := bs, mro := .ref C :: bm, ns := N, qualname := q, hasDict := true, slotNames := sn, subclasses := sub, abstract := ab, collection := col, hasDel := false } := by unfold PySem.W.clsIn; rw [hC] <;> rfl
  refine ks_codeAny_call_defAt (fd := PySem.W.ksFn "__init__" qual (defArgs st) (defBody st) (defScope st) .none kV doc pm an (.ref cda) ct cc) (binds := [(("self" : Str), .ref a), (x, u)]) hroom (X _ _ lk) rfl lim (PySem.W.codeRec_of X hcd) rfl (.of_eq (S.bind kV doc pm an (.ref cda) ct cc (.ref a) u)) S.nocell
    (fun y hy => ?_) (fun h0 hns k0' => ?_) S.co S.gen S.kind
  · rcases List.mem_cons.mp hy with rfl | hy
    · exact S.kself
    · rcases List.mem_cons.mp hy with rfl | hy
      · exact S.kx
      · cases hy
  · have X0 : K.In h0 := fun b o e => k0' b o (X b o e)
    have hlx : ([(("self" : Str), Value.ref a), (x, u)] : List (Str × Value)).reverse.lookup x = some u := by simp [List.lookup]
    have hls : ([(("self" : Str), Value.ref a), (x, u)] : List (Str × Value)).reverse.lookup ("self" : Str) = some (.ref a) := by
      have z : (("self" : Str) == x) = false := by
        cases e : (("self" : Str) == x)
        · rfl
        · exact absurd (eq_of_beq e).symm S.ne
      simp [List.lookup, z]
    rw [hb]
    obtain ⟨oD, hD1, hD2⟩ : ∃ oD, K.lookup D = some oD ∧ oD.data = .cls cdD := by
      unfold PySem.W.clsIn at hD
      split at hD
      · rename_i c d cd' sl ho
        cases hD
        exact ⟨_, ho, rfl⟩
      · cases hD
    have aC : a ≠ C := fun z => by rw [z, hC] at na; cases na
    have he0 := k0' _ _ he
    have I0 : PySem.W.InstAt h0 a (PySem.HandSPX.excO C t0) C none := ⟨he0, rfl, rfl, trivial⟩
    obtain ⟨pl, hpl, hsw1, hsw2, hst⟩ := hev (callEnv (PySem.W.ksFn "__init__" qual (defArgs st) (defBody st) (defScope st) .none kV doc pm an (.ref cda) ct cc) h.objs.size fI)
    rw [hb] at hpl hsw1 hsw2 hst
    refine ks_wpAt_execs_cons (ks_wpAt_Expr_any (ks_wpAt_MethodCall (pl := pl) ?_ hpl) (by show ((defScope st).kind == .module && _) = false; rw [S.kind]; rfl) hsw1)
    refine ks_wpAt_super_base (ar := ar) (vs := vs) S.sup S.kcls (by decide) rfl (X0 _ _ lk) rfl har rfl (X0 _ _ lcode) rfl hvs hfile S.top ?_
    refine PySem.W.ks_loadName_global S.kind S.sup (Calls.loadGlobal_builtin (G.keeps k0') hms (B.keeps k0') hbs ⟨rfl, ?_⟩)
    refine wpAny_loadName_free S.kind S.kcls rfl ⟨_, X0 _ _ lcell, rfl⟩ ?_
    refine wpAny_loadName_local (v := .ref a) S.kind (by rw [hself]; exact S.kself) hns (by rw [hself]; exact hls) ?_
    refine ks_wpAny_isType_cls (X0 _ _ hD1) hD2 ⟨rfl, ?_⟩
    refine ks_wpAny_call_super (X0 _ _ hD1) hD2 he0 rfl (fun c z => nomatch z) (PySem.W.looks_mroIn X0 Y.sub) fun h1 hso k1 => ?_
    have X1 := X0.keeps k1
    have hsz1 : h0.objs.size < h1.objs.size := Heap.lt_size hso
    have I1 : PySem.W.InstAt h1 a (PySem.HandSPX.excO C t0) C none := ⟨k1 _ _ he0, rfl, rfl, trivial⟩
    have hm := Y.sup
    unfold PySem.W.ks_superIn at hm
    rw [hcl] at hm
    refine PySem.W.kxs_getMethod PySem.W.kxs_ValueError hso (PySem.W.looks_opaque X1 Y.opq) (l₀ := .ref C :: bm) (fun A Q E s k q => wpAny_bind ((PySem.W.looks_clsIn X1 hcl) A _ E s k (wpAny_pure q))) rfl X1 hm (I1.type.andThen (PySem.W.looks_subIn X1 Y.isV)) aC (by decide) ?_
    have k2 : ∀ b o, h1.get? b = some o → (h1.push (PySem.W.kxs_mw "ValueError.__init__" a)).get? b = some o := fun b o e => Heap.get?_push_of_some _ e
    have hmw : (h1.push (PySem.W.kxs_mw "ValueError.__init__" a)).get? h1.objs.size = some (PySem.W.kxs_mw "ValueError.__init__" a) := Heap.get?_push_at rfl rfl
    have kk : ∀ b o, h0.get? b = some o → (h1.push (PySem.W.kxs_mw "ValueError.__init__" a)).get? b = some o := fun b o e => k2 _ _ (k1 _ _ e)
    have hns2 := hns.keeps kk
    refine PySem.W.kxs_callWith (i := "ValueError.__init__") (x := a) rfl (Calls.evalArgs_plain (Calls.spliced_cons (PySem.ESX.ldL hns2 hlx ?_ S.kind S.kx S.nd)))
    refine Calls.spliced_nil ⟨hmw, call_mwVE (by show 1 ≤ sizeLine; rw [sizeLine_eq]; omega) hmw (kk _ _ he0) (X1.keeps k2 _ _ hC) fun h3 t1 k3 he3 => ?_⟩
    have nK : ∀ b o, K.lookup b = some o → b ≠ a := fun b o e z => by rw [z, na] at e; cases e
    have X3 : K.In h3 := fun b o e => k3 b o (nK b o e) (X1.keeps k2 b o e)
    have La : h.objs.size ≠ a := fun z => by
      have := Heap.lt_size he
      rw [← z] at this
      exact Nat.lt_irrefl _ this
    have hns3 : h3.Ns h.objs.size (fun y => ([(("self" : Str), Value.ref a), (x, u)] : List (Str × Value)).reverse.lookup y) := by
      obtain ⟨oL, es, ep, hL, r⟩ := hns2
      exact ⟨oL, es, ep, k3 _ _ La hL, r⟩
    refine ks_wpAt_execs_cons (ks_wpAt_Assign_Attr (wpAt_of_wpAny (PySem.ESX.ldL hns3 hlx (PySem.ESX.ldL hns3 hls ?_ S.kind S.kself (by decide)) S.kind S.kx S.nd)) hsw2)
    refine PySem.W.set_plain (od := none) X3 ⟨he3, rfl, rfl, trivial⟩ Y.T.sa ?_
    refine PySem.HandSPX.exc_osa X3 he3 hcl (show PySem.HandSPX.refsVE (.ref C :: bm) = true from hbm) rfl Y.no fun h5 tk dx k5' dn dne hx hn => ?_
    refine wpAt_of_wpAny (wpAny_execs_nil ?_)
    have k03 : ∀ b o, b ≠ a → h0.get? b = some o → h3.get? b = some o := fun b o hb e => k3 b o hb (kk b o e)
    exact hq h5 _ dx _ (fun b o hb e => k5' b o hb (k03 b o hb (k0' b o e))) (Nat.le_of_lt (Nat.lt_of_lt_of_le (Heap.lt_size (k3 _ _ La (kk _ _ hns.choose_spec.choose_spec.choose_spec.1))) dn)) hx hn
end
/-- C(e), C's __init__ as SupI tells: a new error whose dict stands at d -/
def tMkS (C : Addr) (f : Str) (te : TE) : L2.St → Hp → XK → Prop := fun σ H Q => te σ H fun y H1 => ∀ d, H1 d = none → Q (.ref C) (some d) (upd H1 d (.xd [(f, y)]))
theorem pmk_super {X : Cx} {x n f : Str} {C D fI : Addr} {st : Stmt} {qual : Str} {k : Nat} {e : Expr} {te : TE} {p pos : Pos} (S : SupI X.K X.prog fI D st qual n f) (Y : SupC X.K C D f) (iC : PySem.W.findIn X.K (.ref C) "__init__" = some (some (.ref fI)))
    (tI : PySem.W.typeIn X.K (.ref fI) = some (.type "function")) (hr : Room (k + 1) X.A) (hg : Gl X x) (hm : X.mg x = some (.ref C)) (hms : X.mg "super" = none) (he : PE X e te)
    (hdb : (x == ("__debug__" : Str)) = false := by decide) (hst : starEach [e] X.env = (false, eval e X.env) :: starEach [] X.env := by rfl) (hpl : (backTo pos (starEach [] X.env)).any (·.1) = false := by rfl) :
    PMk X (.Call (.Name x p) [e] [] pos) (tMkS C f te) := by
  intro pins s σ H Q I h
  obtain ⟨nm, q, N, bs, bm, sn, sub, ab, col, dd, k0, k1, k2, k3, k5, hC, hbm⟩ := Y.T.cls
  refine wpAny_Call_Name_kw (ld_glob I hg hm ?_ hdb)
  refine PySem.W.callWith_K (h₀ := X.base) I.ok.mod.kin Y.T.kC ?_ hst hpl
  rw [hst]
  refine Calls.spliced_cons (thn (he.run pins s σ H _ I h) fun u s1 ⟨y, H1, I1, r1, q1⟩ => Calls.spliced_nil ⟨I1.kIn, ?_⟩)
  show wpAny _ _ (call (.ref C) [u]) _ _ _
  obtain ⟨hp, g, dr, tk, os⟩ := s1
  have hsz : hp.objs.size ≤ hp.objs.size + 1 := Nat.le_succ _
  have nu : ∀ b o, hp.get? b = some o → b ≠ hp.objs.size + 1 := fun b o e z => by
    have q := Heap.lt_size e
    rw [z] at q
    exact absurd q (Nat.not_lt.mpr hsz)
  have kk : ∀ b o, hp.get? b = some o → ((hp.push (PySem.W.kdv_tup [u])).push (PySem.HandSPX.excO C hp.objs.size)).get? b = some o := fun b o e => Heap.get?_push_of_some _ (Heap.get?_push_of_some _ e)
  have hget : ((hp.push (PySem.W.kdv_tup [u])).push (PySem.HandSPX.excO C hp.objs.size)).get? (hp.objs.size + 1) = some (PySem.HandSPX.excO C hp.objs.size) := by heap_get
  have KX := I1.kIn
  have na : X.K.lookup (hp.objs.size + 1) = none := by
    cases z : X.K.lookup (hp.objs.size + 1) with
    | none => rfl
    | some o => exact absurd rfl (nu _ _ (KX _ _ z))
  obtain ⟨mb, hb1, hb2⟩ := I1.mod.blt
  refine wpAny_call (PySem.HandSPX.call_own F.excBase_ValueError (fun Y => PySem.HandSPX.refsVE_contains Y bm hbm) (KX _ _ hC) (PySem.W.looks_findIn KX iC) (fun self => PySem.W.bind_fn KX self tI) (by show 1 ≤ sizeLine; rw [sizeLine_eq]; omega) ?_)
  refine super_init S Y (KX.keeps kk) (I1.nolimit.keeps kk) ((I1.mod.glob.keeps I1.bk).keeps kk) ((hb1.keeps I1.bk).keeps kk) hms ((hb2 _ (by decide)).trans (by decide +kernel)) (hr.make C [u] []).depth hget na fun h' tk' dx t1 k' hdx ha hns => ?_
  refine ⟨rfl, ?_⟩
  have hd0 : hp.objs.size ≤ dx := Nat.le_trans (Nat.le_trans hsz (Nat.le_of_lt (Heap.lt_size hget))) hdx
  have nd : H1 dx = none := I1.hok.fresh hd0
  obtain ⟨G, g1, g2⟩ := L2.restrict h' fun b => decide (b ≠ hp.objs.size + 1)
  have gk : ∀ b, b ≠ hp.objs.size + 1 → G.get? b = h'.get? b := fun b hb => g1 b (decide_eq_true hb)
  have ge : G.get? (hp.objs.size + 1) = none := g2 _ (by simp)
  have dne : dx ≠ hp.objs.size + 1 := fun z => by
    obtain ⟨o, es, ep, e1, e2, _⟩ := hns
    rw [z, ha] at e1
    cases e1
    cases e2
  have I3 : L2.Inv X pins σ (upd H1 dx (.xd [(f, y)])) { (⟨hp, g, dr, tk, os⟩ : Shared) with heap := G, toks := tk' } := I1.laid (fun b o e => (gk b (nu b o e)).trans (k' b o (nu b o e) (kk b o e))) hd0
    ⟨_, hns.at fun o z => (gk dx dne).trans z, fun z => by
      by_cases c : z = f
      · subst c
        simp only [List.lookup, beq_self_eq_true, if_true]
        exact r1
      · have c' : (z == f) = false := by simpa using c
        simp only [List.lookup, c', if_neg c]
        trivial⟩
  refine ⟨hp.objs.size + 1, _, _, _, _, .ref C, some dx, rfl, I3, fun b o e => ?_, ge, ha, ⟨rfl, rfl⟩, rfl, rfl, ?_, rfl, I1.bare, raises_own Y.T.exC Y.T.tyC, q1 dx nd⟩
  · by_cases c : b = hp.objs.size + 1
    · rw [c] at e
      rw [show G.get? (hp.objs.size + 1) = none from ge] at e
      cases e
    · exact (gk b c).symm.trans e
  · rw [upd_ne (fun z => dne z.symm)]
    exact I1.hok.fresh hsz
end PD
end ZPDMake
section ZPDRaise
set_option Elab.async false
set_option linter.all false
set_option maxRecDepth 100000
set_option maxHeartbeats 2000000
namespace PD
open PySem PySem.Spec L2 PyProof.Rows
/-! defs that may raise -/
def erF : Str := "value"
/-- what an end with an error asks -/
def EndX (T : Tb) (G0 : Addr → Prop) (μ : List Addr) (ow : Addr → Prop) (H : Hp) (c : Nat) (v : D) (st' : Store) (E : XK) : Prop :=
  ∀ w dx H' μ', StR T (FF G0 μ') μ' H' st' → StepR μ ow H μ' (fun _ => False) H' → Rep T H' (FF G0 μ') μ' v w → H dx = none → dx ∉ μ' → H' dx = some (.xd [(erF, w)]) → E (.ref (T.ca c)) (some dx) H'
def RunX (T : Tb) (G0 : Addr → Prop) (μ : List Addr) (ow : Addr → Prop) (H : Hp) (D : Ends) (E : XK) : Res Out → Prop
  | .ok o st' => EndS T G0 μ ow H st' D o
  | .exc c v st' => EndX T G0 μ ow H c v st' E
  | .bad => False
def rdSX (T : Tb) (E : XK) (ev : Env → M Out) : TS := fun D σ H => ∃ G0 μ env st, GoodS T G0 μ H σ env st ∧ RunX T G0 μ (Own σ env) H D E (ev env st)
theorem EndX.step {T : Tb} {G0 : Addr → Prop} {H H' : Hp} {μ μ' : List Addr} {ow ow' : Addr → Prop} {st' : Store} {E : XK} {c : Nat} {v : D} (p : StepR μ ow H μ' ow' H') (h : EndX T G0 μ ow H c v st' E) : EndX T G0 μ' ow' H' c v st' E :=
  fun w dx H2 μ2 g s r n m x => h w dx H2 μ2 g (p.trans s) r (p.grow _ n) m x
theorem RunX.step {T : Tb} {G0 : Addr → Prop} {H H' : Hp} {μ μ' : List Addr} {ow ow' : Addr → Prop} {D : Ends} {E : XK} {r : Res Out} (p : StepR μ ow H μ' ow' H') (h : RunX T G0 μ ow H D E r) : RunX T G0 μ' ow' H' D E r := by
  cases r with
  | ok o st' => exact EndS.step p h
  | exc c v st' => exact EndX.step p h
  | bad => exact h
theorem noX_ok {α : Type} {m : M α} {st st' : Store} {a : α} (h : noX m st = .ok a st') : m st = .ok a st' := by
  unfold noX at h
  cases e : m st with
  | ok a1 s1 => rw [e] at h; exact h
  | exc c v s1 => rw [e] at h; cases h
  | bad => rw [e] at h; cases h
theorem noX_exc {α : Type} {m : M α} {st st' : Store} {c : Nat} {v : D} (h : noX m st = .exc c v st') : False := by
  unfold noX at h
  cases e : m st <;> rw [e] at h <;> cases h
/-- a quiet part ahead: it ends well, or all is void -/
theorem runX_noX {T : Tb} {G0 : Addr → Prop} {H : Hp} {μ : List Addr} {ow : Addr → Prop} {D : Ends} {E : XK} {α : Type} {m : M α} {f : α → M Out} {st : Store} (h : RunX T G0 μ ow H D E (bnd (noX m) f st)) : ∃ a st1, m st = .ok a st1 ∧ RunX T G0 μ ow H D E (f a st1) := by
  rw [bnd_ap] at h
  cases e : noX m st with
  | ok a s1 => rw [e] at h; exact ⟨a, s1, noX_ok e, h⟩
  | exc c v s1 => exact (noX_exc e).elim
  | bad => rw [e] at h; exact h.elim
section
variable {X : Cx} {T : Tb} {P : Prog} {cf : Calls} {pos p pos' apos cpos : Pos} {a b c e o tg : Expr} {xa xb xc xe xs xo xt sx bx bx' : PD.X} {fa pa fb pb : Bool} {es : List Expr} {x : Str} {s : Stmt} {sts sts' : List Stmt} {i : Nat} {E : XK}
abbrev PXSX (X : Cx) (T : Tb) (P : Prog) (cf : Calls) (E : XK) (s : Stmt) (x : PD.X) : Prop := PS X s (rdSX T E (evS P cf x))
abbrev PXBX (X : Cx) (T : Tb) (P : Prog) (cf : Calls) (E : XK) (s : List Stmt) (x : PD.X) : Prop := PSs X s (rdSX T E (evB P cf x))
theorem xbx_nil : PXBX X T P cf E [] .nil := PSs.imp pss_nil fun D σ H ⟨G0, μ, env, st, g, q⟩ => by
  have q' : EndS T G0 μ (Own σ env) H st D (.nx env) := q
  exact q' σ H μ g .refl
theorem xbx_cons (h1 : PXSX X T P cf E s sx) (h2 : PXBX X T P cf E sts bx) : PXBX X T P cf E (s :: sts) (.cons sx bx) := PSs.imp (pss_cons h1 h2) fun D σ H ⟨G0, μ, env, st, g, q⟩ => by
  refine ⟨G0, μ, env, st, g, ?_⟩
  have q' : RunX T G0 μ (Own σ env) H D E (bnd (evS P cf sx env) (fun o => match o with | .nx e => evB P cf bx e | o => ret o) st) := q
  rw [bnd_ap] at q'
  cases e : evS P cf sx env st with
  | ok o st1 =>
    rw [e] at q'
    cases o with
    | nx e1 => exact fun σ' H' μ' g' s' => ⟨G0, μ', e1, st1, g', q'.step s'⟩
    | ct e1 => exact q'
    | bk e1 => exact q'
    | rt d => exact q'
  | exc c v st1 => rw [e] at q'; exact q'
  | bad => rw [e] at q'; exact q'
/-- a statement that raises nothing -/
theorem xsx_q (h : PXS X T P cf s sx) : PXSX X T P cf E s (.q sx) := PS.imp h fun D σ H ⟨G0, μ, env, st, g, q⟩ => by
  have q' : RunX T G0 μ (Own σ env) H D E (noX (evS P cf sx env) st) := q
  cases e : noX (evS P cf sx env) st with
  | ok o st1 => rw [e] at q'; exact ⟨G0, μ, env, st, o, st1, g, noX_ok e, q'⟩
  | exc c v st1 => exact (noX_exc e).elim
  | bad => rw [e] at q'; exact q'.elim
theorem xsx_if (hc : PXT X T P cf c xc) (ha : PXBX X T P cf E sts bx) (hb : PXBX X T P cf E sts' bx') : PXSX X T P cf E (.If c sts sts' pos) (.ifx xc bx bx') := PS.imp (ps_if hc ha hb) fun D σ H ⟨G0, μ, env, st, g, q⟩ => by
  obtain ⟨k, st1, e1, q1⟩ := runX_noX (show RunX T G0 μ (Own σ env) H D E (bnd (noX (bnd (evE P cf xc env) blD)) (fun c => if c then evB P cf bx env else evB P cf bx' env) st) from q)
  refine ⟨_, μ, env, st, k, st1, g.good, e1, fun H1 μ1 p1 => ?_⟩
  cases k with
  | true => exact ⟨G0, μ1, env, st1, g.post p1, q1.step (.ofPost g p1)⟩
  | false => exact ⟨G0, μ1, env, st1, g.post p1, q1.step (.ofPost g p1)⟩
/-- raise C(e) -/
theorem xsx_raise {D fI : Addr} {st : Stmt} {qual n : Str} {k cx : Nat} {rp : Pos} (hcalm : X.calm = true) (tk : Takes X (fun cls d _ H => E cls d H)) (S : SupI X.K X.prog fI D st qual n erF) (Y : SupC X.K (T.ca cx) D erF) (iC : PySem.W.findIn X.K (.ref (T.ca cx)) "__init__" = some (some (.ref fI)))
    (tI : PySem.W.typeIn X.K (.ref fI) = some (.type "function")) (hr : Room (k + 1) X.A) (hg : Gl X x) (hm : X.mg x = some (.ref (T.ca cx))) (hms : X.mg "super" = none) (he : PX X T P cf e xe fa false)
    (hdb : (x == ("__debug__" : Str)) = false) (hst : starEach [e] X.env = (false, eval e X.env) :: starEach [] X.env) (hpl : (backTo pos (starEach [] X.env)).any (·.1) = false) :
    PXSX X T P cf E (.Raise (some (.Call (.Name x p) [e] [] pos)) none rp) (.raise cx xe) := PS.imp (ps_raise hcalm tk (pmk_super S Y iC tI hr hg hm hms he hdb hst hpl)) fun D σ H ⟨G0, μ, env, st, g, q⟩ => by
  obtain ⟨d, st1, e1, q1⟩ := runX_noX (show RunX T G0 μ (Own σ env) H D E (bnd (noX (evE P cf xe env)) (fun d st => .exc cx d st) st) from q)
  refine ⟨_, μ, env, st, d, st1, g.good, e1, fun v H1 μ1 p1 r1 dx hdx => ?_⟩
  have q2 : EndX T G0 μ (Own σ env) H cx d st1 E := q1
  have p2 := Post.more (H' := upd H1 dx (.xd [(erF, v)])) (g.post p1).good.toGoodT fun a o z => by rw [upd_ne (ne_of_none z hdx)]; exact z
  have nm : dx ∉ μ1 := fun z => by
    obtain ⟨i, hi⟩ := List.getElem?_of_mem z
    have hl : i < st1.length := by rw [← p1.sto.len]; exact (List.getElem?_eq_some_iff.mp hi).1
    exact (p1.sto.ob i _ dx (List.getElem?_eq_getElem hl) hi).some hdx
  refine q2 v dx _ μ1 (p2.sto.less go_less) (((StepR.ofPost g p1).trans (StepR.ofPost (g.post p1) p2)).less fun _ z => z.elim) (Rep.mv (mvLess go_less) d v (Rep.mv p2.mv d v (r1.rep rfl))) (Post.back g.good.toGoodT p1 hdx) nm upd_same
/-- what a def that may raise promises by its tree -/
def RunC (T : Tb) (G : Addr → Prop) (μ : List Addr) (H : Hp) (Q : VK) (E : XK) : Res D → Prop
  | .ok d st' => ∀ v H' μ', Post T G μ H μ' H' st' → Rep T H' (FF G μ') μ' d v → Q v H'
  | .exc c d st' => ∀ w dx H' μ', Post T G μ H μ' H' st' → Rep T H' (FF G μ') μ' d w → H dx = none → dx ∉ μ' → H' dx = some (.xd [(erF, w)]) → E (.ref (T.ca c)) (some dx) H'
  | .bad => False
def spX (T : Tb) (cf : Calls) (f np : Nat) : Sp := fun vs H Q E => ∃ G μ st ds, GoodT T G μ H st ∧ Reps T H (FF G μ) μ ds vs ∧ ds.length = np ∧ RunC T G μ H Q E (cf f ds st)
structure CallX (X : Cx) (T : Tb) (cf : Calls) (fa : Addr) (f np : Nat) : Prop where
  ex : ∃ k fd ps, FnOk X.prog X.w X.K X.mg X.base (L2.CX X.prog X.w) k fa fd ps (spX T cf f np) ∧ Room (k + 1) X.A ∧ Binds X.K fd ps []
  kp : PySem.W.keepIn X.K (.ref fa) = true
/-- f(..), f may raise: the call's reading -/
theorem callXR {f np : Nat} {cf : Calls} (hl : ∀ ds st, (match cf f ds st with | .bad => False | _ => True) → ds.length = np) {σ : L2.St} {H : Hp} {Q : VK} {G : Addr → Prop} {μ : List Addr} {env : Env} {st st1 : Store} {ds : List D} (g : Good T G μ H σ env st) (e1 : evA P cf xs env st = .ok ds st1)
    (h : ∀ H1 μ1, Post T G μ H μ1 H1 st1 → RunC T G μ1 H1 Q E (cf f ds st1)) : tCall (spX T cf f np) [] E (rdA T (evA P cf xs)) σ H Q := by
  refine ⟨G, μ, env, st, ds, st1, g, e1, fun vs H1 μ1 p1 r1 => ?_⟩
  refine ⟨G, μ1, st1, ds, (g.post p1).toGoodT, by rw [List.append_nil]; exact r1, hl ds st1 ?_, h H1 μ1 p1⟩
  have z := h H1 μ1 p1
  cases q : cf f ds st1 with
  | ok _ _ => trivial
  | exc _ _ _ => trivial
  | bad => rw [q] at z; exact z
/-- f(..) as a statement, f may raise -/
theorem xsx_call {ad : Addr} {f np : Nat} (tk : Takes X (fun cls d _ H => E cls d H)) (F : CallX X T cf ad f np) (hl : ∀ ds st, (match cf f ds st with | .bad => False | _ => True) → ds.length = np) (hg : Gl X x) (hm : X.mg x = some (.ref ad)) (ha : PXA X T P cf (e :: es) xs) (hdb : (x == ("__debug__" : Str)) = false)
    (he : starEach (e :: es) X.env = (false, eval e X.env) :: starEach es X.env) (hpl : (backTo cpos (starEach es X.env)).any (·.1) = false) (hs : swapsWith (.Call (.Name x p) (e :: es) [] cpos) none pos.line X.env = pure false) :
    PXSX X T P cf E (.Expr (.Call (.Name x p) (e :: es) [] cpos) pos) (.xcall f xs) := by
  obtain ⟨k, fd, ps, F1, hr, hb⟩ := F.ex
  refine PS.imp (ps_expr (pe_call (E := E) F1 (hr.mono (Nat.le_succ _)) hg hm F.kp hb .nil (passes_call tk fun _ _ _ _ z => z) ha hdb he hpl) hs) fun D σ H ⟨G0, μ, env, st, g, q⟩ => ?_
  obtain ⟨ds, st1, e1, q1⟩ := runX_noX (show RunX T G0 μ (Own σ env) H D E (bnd (noX (evA P cf xs env)) (fun ds => bnd (cf f ds) fun _ => ret (.nx env)) st) from q)
  refine callXR (P := P) hl g.good e1 fun H1 μ1 p1 => ?_
  have g1 := g.post p1
  have q2 := q1.step (.ofPost g p1)
  rw [bnd_ap] at q2
  cases ec : cf f ds st1 with
  | ok d st2 =>
    rw [ec] at q2
    exact fun v H' μ' p2 r2 => (show EndS T G0 μ1 (Own σ env) H1 st2 D (.nx env) from q2) σ H' μ' (g1.post p2) (.ofPost g1 p2)
  | exc c v st2 =>
    rw [ec] at q2
    exact fun w dx H' μ' p2 r2 n m z => (show EndX T G0 μ1 (Own σ env) H1 c v st2 E from q2) w dx H' μ' (p2.sto.less go_less) ((StepR.ofPost g1 p2).less fun _ z => z.elim) (Rep.mv (mvLess go_less) v w r2) n m z
  | bad => rw [ec] at q2; exact q2
end
section
variable {T : Tb} {base : Heap} {pg : Prog} {n k f : Nat} {x qual : Str} {st : Stmt} {fa : Addr} {fd : FuncData} {N ps : List Str} {cf : Calls} {tree : PD.X}
/-- the context of a body that may raise -/
abbrev bXX (T : Tb) (base : Heap) (N : List Str) (qual : Str) (st : Stmt) (fa : Addr) (cdv : Value) (A : Around) (outer : List PySem.Env) (s : Shared) (H : Hp) (E : XK) : Cx := cxOf (L2.CX T.P T.w) T.P T.w T.K T.mg base N qual (defScope st) fa cdv A outer s H E
theorem xtx_of {cdv : Value} {A : Around} {outer : List PySem.Env} {s : Shared} {H : Hp} {E : XK} (hr : Room k (A.deeper (envOfC qual (defScope st) s.heap.objs.size fa cdv))) : XT T (bXX T base N qual st fa cdv A outer s H E) :=
  ⟨rfl, rfl, rfl, rfl, by have := hr.un; show (A.deeper _).units + 200 < cLine; omega, rfl⟩
theorem bxx_takes {cdv : Value} {A : Around} {outer : List PySem.Env} {s : Shared} {H : Hp} {E : XK} : Takes (bXX T base N qual st fa cdv A outer s H E) (fun cls d _ H => E cls d H) := takes_of (E₁ := fun e' s'' => L2.CX T.P T.w outer H s E e' s'') rfl rfl rfl rfl
theorem fnOkX (F : Fun T.K x qual st fa fd) (S : FnScope N ps (defScope st)) (hfn : pg.fn f = ⟨ps.length, N.length, tree⟩)
    (hw : ∀ (cdv : Value) (A : Around) (outer : List PySem.Env) (s : Shared) (H : Hp) (E : XK), Room k (A.deeper (envOfC qual (defScope st) s.heap.objs.size fa cdv)) → PXBX (bXX T base N qual st fa cdv A outer s H E) T pg cf E (defBody st) tree) :
    FnOk T.P T.w T.K T.mg base (L2.CX T.P T.w) (k + 1) fa fd ps (spX T (fun g ds => runF pg cf (pg.fn g) ds) f ps.length) := by
  obtain ⟨oc, od, kV, doc, pm, an, cdv, ct, osl, rfl, lk, hcd⟩ := F.ex
  refine fn_of lk hcd S (fun vs H Q E ⟨G, μ, st0, ds, g, r, hl, q⟩ => by rw [r.length, hl]) fun A outer s H vs Q E hr ⟨G, μ, st0, ds, g, r, hl, q⟩ => ?_
  refine ⟨_, hw cdv A outer s H E hr, ?_⟩
  have q' : RunC T G μ H Q E ((if ds.length = (pg.fn f).np then bnd (evB pg cf (pg.fn f).body (ds.map .v ++ List.replicate ((pg.fn f).ns - (pg.fn f).np) .no)) (fun o => match o with
    | .rt d => ret d
    | .nx _ => ret D.non
    | _ => fail) else fail) st0) := q
  rw [hfn] at q'
  rw [if_pos hl, bnd_ap] at q'
  have hst : L2.start N vs = vs.map some ++ List.replicate (N.length - ps.length) none := by unfold L2.start; rw [r.length, hl]
  have g0 := reps_start r st0 g (N.length - ps.length)
  rw [hst]
  refine ⟨G, μ, _, st0, g0, ?_⟩
  have noO : ∀ a, ¬ Own (vs.map some ++ List.replicate (N.length - ps.length) none) (ds.map Sl.v ++ List.replicate (N.length - ps.length) .no) a := fun a ⟨i, _, s, h2, h3⟩ => by
    by_cases c : i < ds.length
    · rw [List.getElem?_append_left (by simpa using c), List.getElem?_map] at h2
      obtain ⟨d, _, rfl⟩ := Option.map_eq_some_iff.mp h2
      cases h3
    · rw [List.getElem?_append_right (by simpa using c)] at h2
      have := List.mem_of_getElem? h2
      rw [List.mem_replicate] at this
      rw [this.2] at h3
      cases h3
  cases e1 : evB pg cf tree (ds.map Sl.v ++ List.replicate (N.length - ps.length) .no) st0 with
  | ok o st1 =>
    rw [e1] at q'
    cases o with
    | nx e => exact fun σ' H' μ' g' s' => q' .non H' μ' ⟨s'.mu, s'.new, fun a o e n => s'.keep a o e n (noO a), g'.sto.less go_less⟩ rfl
    | rt d' => exact fun v H' μ' sto s' r' => q' v H' μ' ⟨s'.mu, s'.new, fun a o e n => s'.keep a o e n (noO a), sto⟩ r'
    | bk e => exact q'.elim
    | ct e => exact q'.elim
  | exc c v st1 =>
    rw [e1] at q'
    exact fun w dx H' μ' sto s' r' nn m z => q' w dx H' μ' ⟨s'.mu, s'.new, fun a o e n => s'.keep a o e n (noO a), sto⟩ r' nn m z
  | bad => rw [e1] at q'; exact q'.elim
theorem callN_lenX {ds : List D} {st0 : Store} (h : match callN pg n f ds st0 with | .bad => False | _ => True) : ds.length = (pg.fn f).np := by
  cases n with
  | zero => exact h.elim
  | succ n =>
    by_cases c : ds.length = (pg.fn f).np
    · exact c
    · have z : callN pg (n + 1) f ds st0 = .bad := by
        show runF pg (callN pg n) (pg.fn f) ds st0 = .bad
        unfold runF
        rw [if_neg c]
        rfl
      rw [z] at h
      exact h.elim
/-- a def that may raise, behind n calls -/
structure DefX (T : Tb) (base : Heap) (pg : Prog) (n : Nat) (fa : Addr) (f : Nat) (ps : List Str) : Prop where
  ex : ∃ fd, FnOk T.P T.w T.K T.mg base (L2.CX T.P T.w) (2 * n) fa fd ps (spX T (callN pg n) f ps.length) ∧ Binds T.K fd ps []
  kp : PySem.W.keepIn T.K (.ref fa) = true
theorem DefX.zero (hb : Binds T.K fd ps []) (kp : PySem.W.keepIn T.K (.ref fa) = true) : DefX T base pg 0 fa f ps :=
  ⟨⟨fd, ⟨fun vs H Q E ⟨G, μ, st0, ds, g, r, hl, q⟩ => by rw [r.length, hl], fun A outer s H args us vs Q E hr e0 hbt hv ⟨G, μ, st0, ds, g, r, hl, q⟩ => q.elim⟩, hb⟩, kp⟩
theorem DefX.succ (F : Fun T.K x qual st fa fd) (S : FnScope N ps (defScope st)) (hb : Binds T.K fd ps []) (hfn : pg.fn f = ⟨ps.length, N.length, tree⟩)
    (hw : ∀ (cdv : Value) (A : Around) (outer : List PySem.Env) (s : Shared) (H : Hp) (E : XK), Room (2 * n + 1) (A.deeper (envOfC qual (defScope st) s.heap.objs.size fa cdv)) → PXBX (bXX T base N qual st fa cdv A outer s H E) T pg (callN pg n) E (defBody st) tree) :
    DefX T base pg (n + 1) fa f ps := ⟨⟨fd, fnOkX (k := 2 * n + 1) F S hfn hw, hb⟩, F.kp⟩
theorem DefX.call {cdv : Value} {A : Around} {outer : List PySem.Env} {s : Shared} {H : Hp} {E : XK} {fb : Addr} {g : Nat} {qs : List Str} (D : DefX T base pg n fb g qs) (hr : Room (2 * n + 1) (A.deeper (envOfC qual (defScope st) s.heap.objs.size fa cdv))) :
    CallX (bXX T base N qual st fa cdv A outer s H E) T (callN pg n) fb g qs.length := by
  obtain ⟨fd, F1, hb⟩ := D.ex
  exact ⟨⟨2 * n, fd, qs, F1, hr, hb⟩, D.kp⟩
theorem DefI.callX {cdv : Value} {A : Around} {outer : List PySem.Env} {s : Shared} {H : Hp} {E : XK} {fb : Addr} {g : Nat} {qs : List Str} (D : DefI T base pg n fb g qs) (hr : Room (2 * n + 1) (A.deeper (envOfC qual (defScope st) s.heap.objs.size fa cdv))) :
    CallI (bXX T base N qual st fa cdv A outer s H E) T (callN pg n) fb g qs.length := by
  obtain ⟨fd, F1, hb⟩ := D.ex
  exact ⟨⟨2 * n, fd, qs, F1, hr, hb⟩, D.kp⟩
end
end PD
end ZPDRaise
section ZPDMet
set_option Elab.async false
set_option linter.all false
set_option maxRecDepth 100000
set_option maxHeartbeats 2000000
namespace PD
open PySem PySem.Spec L2 PyProof.Rows LamX
/-! a def that calls what it got, keeps an error, and tells (word of the error, its value) -/
/-- how often a truth stands in a list of truths -/
def rCntB (K : PySem.W.Frag) : V → List V → Hp → VK → Prop := fun x xs H Q => ∃ (p : Addr) (bs : List Bool) (k : Bool), x = .ref p ∧ xs = [.bl k] ∧ SqL K H p (bs.map V.bl) ∧ Q (.int (bs.count k : Nat)) H
theorem bools_eq (k : Bool) : ∀ {bs : List Bool} {its : List Value}, Vals (bs.map V.bl) its → (∀ y ∈ its, ∀ (A : Around) (s : Shared), SeqAt.EqAt A s y (.bool k) (isBoolOf k y)) ∧ its.countP (isBoolOf k) = bs.count k
  | [], _, r => by
    cases r
    exact ⟨fun y hy => absurd hy (by simp), rfl⟩
  | b :: bs, _, r => by
    cases r with
    | cons r1 r2 =>
      obtain ⟨h1, h2⟩ := bools_eq k r2
      cases r1
      refine ⟨fun y hy A s => ?_, ?_⟩
      · rcases List.mem_cons.mp hy with e | hy
        · rw [e]; exact SeqAt.EqAt.bool_bool b k
        · exact h1 y hy A s
      · rw [List.countP_cons, List.count_cons, h2]
        rfl
theorem mt_countB {X : Cx} : MtR X "list.count" (rCntB X.K) := by
  intro pins s σ H x xs v us Q I rx rxs ⟨p, bs, k, ex, exs, hs, q⟩
  subst ex exs
  obtain ⟨u, rfl, ru⟩ := rxs.one
  cases rx
  cases ru
  obtain ⟨its, rv, ⟨⟨cls, dd, data, sl⟩, n, ho, hc, hdn, hd⟩, hlen⟩ := I.list hs
  simp only at hc hd
  subst hc hd
  obtain ⟨h1, h2⟩ := bools_eq k rv
  refine call_meets PySem.F.slot_list_count ⟨_, ho, rfl⟩ PySem.F.entry_list_count (PySem.F.args_list_count_2 _ _)
    (SeqAt.list_countAt p its.toArray n dd sl (.bool k) (isBoolOf k)) ⟨ho, fun y hy => h1 y (by simpa using hy) _ _, ?_⟩
  have ec : its.toArray.toList.countP (isBoolOf k) = bs.count k := h2
  refine ⟨.int (bs.count k : Nat), H, I.tok _, ⟨s.toks, ?_⟩, q⟩
  rw [ec]
/-- what the written part says of an error's class C whose word is wd -/
structure MetK (K : PySem.W.Frag) (CE CM CW C : Addr) (wd : Str) : Prop where
  exm : PySem.W.exmOne K (.ref C) (.ref CE) = some true
  xc : ExcC K C
  xf : XfC K C
  no : PySem.W.findIn K (.ref C) erF = some none
  is_ : ∃ b, PySem.W.kitOne K (.ref C) (.ref CM) = some b ∧ PySem.W.kitOne K (.ref C) (.ref CW) = some (!b) ∧ PySem.W.kitOne K (.ref C) (.type "ValueError") = some true ∧ wd = if b then "many" else "word"
/-- what the def makes of what it got -/
def TTmet (K : PySem.W.Frag) (CE CM CW : Addr) : (XK → Hp → VK → Prop) → Hp → VK → Prop := fun tl H Q => ∀ (E : XK) (QN : VK),
  (∀ cls d H', (∃ (C dd : Addr) (w : V) (wd : Str), cls = .ref C ∧ d = some dd ∧ H' dd = some (.xd [(erF, w)]) ∧ MetK K CE CM CW C wd ∧ ∀ H2 t, (∀ b o, H' b = some o → H2 b = some o) → H' t = none → H2 t = some (.tup [.str wd, w]) → Q (.ref t) H2) → E cls d H') →
  (∀ v H', (∀ t, H' t = none → Q (.ref t) (upd H' t (.tup [.str "none", .non]))) → QN v H') → tl E H QN
theorem takes_len {X : Cx} {W : WX} (tk : Takes X W) : Takes X (fun cls d σ H => σ.length = X.N.length → W cls d σ H) := fun u s' ⟨a, B, sI, pins, σ, H, cls, d, e, I, nb, up, sky, na, os, ag, w⟩ =>
  tk u s' ⟨a, B, sI, pins, σ, H, cls, d, e, I, nb, up, sky, na, os, ag, w I.len⟩
structure MetS (X : Cx) (sg : Scope) (CE CM CW : Addr) : Prop where
  l0 : sg.names.lookup ("query" : Str) = some .local
  l1 : sg.names.lookup ("caught" : Str) = some .local
  l2 : sg.names.lookup ("error" : Str) = some .local
  l3 : sg.names.lookup ("marks" : Str) = some .local
  gE : sg.names.lookup ("DoorError" : Str) = some .globalImplicit
  gM : sg.names.lookup ("BadMany" : Str) = some .globalImplicit
  gW : sg.names.lookup ("BadWord" : Str) = some .globalImplicit
  gV : sg.names.lookup ("ValueError" : Str) = some .globalImplicit
  gI : sg.names.lookup ("isinstance" : Str) = some .globalImplicit
  mE : X.mg "DoorError" = some (.ref CE)
  mM : X.mg "BadMany" = some (.ref CM)
  mW : X.mg "BadWord" = some (.ref CW)
  mV : X.mg "ValueError" = none
  mI : X.mg "isinstance" = none
section
variable {X : Cx}
theorem met_gives {x q : Str} {sg : Scope} {g CE CM CW : Addr} {cdg : Value} {j1 j2 j3 j4 j5 j6 j7 j8 j9 k1 k2 k3 : Nat}
    {p1 p2 p3 p4 p5 p6 p7 p8 p9 p10 p11 p12 p13 p14 p15 p16 p17 p18 p19 p20 p21 p22 p23 p24 p25 p26 p27 p28 p29 p30 p31 p32 p33 p34 p35 p36 p37 p38 p39 p40 p41 p42 p43 p44 p45 p46 p47 p48 p49 p50 p51 p52 p53 p54 p55 p56 p57 p58 : Pos} (S : MetS X sg CE CM CW) (hl : (p33.endLine == p35.line) = true) :
    GivesTo X ["query", "caught", "error", "marks"] x sg g cdg
      [.Assign [.Name "caught" p1] (.Constant .none j1 p2) p3,
       .Try [.Expr (.Call (.Name "query" p4) [] [] p5) p6] [.ExceptHandler (some (.Name "DoorError" p7)) (some "error") [.Assign [.Name "caught" p8] (.Name "error" p9) p10] p11] [] [] p12,
       .If (.Compare (.Name "caught" p13) [.Is] [.Constant .none j2 p14] p15) [.Return (some (.Tuple [.Constant (.str "none") j3 p16, .Constant .none j4 p17] k1 p18)) p19] [] p20,
       .Assign [.Name "marks" p21] (.List [.Call (.Name "isinstance" p22) [.Name "caught" p23, .Name "BadMany" p24] [] p25, .Call (.Name "isinstance" p26) [.Name "caught" p27, .Name "BadWord" p28] [] p29] p30) p31,
       .If (.BoolOp .Or [.Compare (.Call (.Attribute (.Name "marks" p32) "count" p33) [.Constant (.bool true) j5 p34] [] p35) [.NotEq] [.Constant (.int 1) j6 p36] p37, .UnaryOp .Not (.Call (.Name "isinstance" p38) [.Name "caught" p39, .Name "ValueError" p40] [] p41) p42] p43)
         [.Return (some (.Tuple [.Constant (.str "other") j7 p44, .Constant .none j8 p45] k2 p46)) p47] [] p48,
       .Return (some (.Tuple [.IfExp (.Subscript (.Name "marks" p49) (.Constant (.int 0) j9 p50) p51) (.Constant (.str "many") j1 p52) (.Constant (.str "word") j2 p53) p54, .Attribute (.Name "caught" p55) "value" p56] k3 p57)) p58] "query" q (TTmet X.K CE CM CW) := by
  intro f c' s H Q tl act hc h
  let Z : Cx := (cxOf C8.CX0 X.prog X.w X.K X.mg X.base ["query", "caught", "error", "marks"] x sg g cdg X.A X.stack s H C8.E0).nox
  have gl : ∀ {y : Str}, sg.names.lookup y = some .globalImplicit → Gl Z y := fun z => z
  have nd : Z.N.Nodup := by show (["query", "caught", "error", "marks"] : List Str).Nodup; decide
  have v1 : ∀ {p : Pos}, PE Z (.Name "caught" p) (tVar 1) := fun {p} => pe_var (X := Z) (i := 1) rfl (.inl S.l1)
  have v3 : ∀ {p : Pos}, PE Z (.Name "marks" p) (tVar 3) := fun {p} => pe_var (X := Z) (i := 3) rfl (.inl S.l3)
  have isT : ∀ {n : Str} {v : V} {u : Value} {a b c d : Pos}, PE Z (.Name n b) (tC v) → PE Z (.Call (.Name "isinstance" a) [.Name "caught" c, .Name n b] [] d) (tCB (PD.rIsK Z.K) (tCons (tVar 1) (tCons (tC v) tNil))) := fun {n v u a b c d} hn =>
    pe_callB (X := Z) PD.call_isK (gl S.gI) S.mI PyProof.Rows.boot_isinstance (pa_cons v1 (pa_cons hn pa_nil))
  refine ⟨_, pss_cons (ps_set (X := Z) (i := 1) nd rfl (.inl S.l1) pe_non rfl (.inr S.l1)) (pss_cons (ps_try_keep (X := Z) (i := 2) (c := .ref CE) (Wout := fun _ _ _ _ => False)
    (tb := fun W D σ H => ∃ Ech : XK, (∀ cls d σ' H', Ech cls d H' → σ'.length = 4 → W cls d σ' H') ∧ σ[0]? = some (some (.ref f)) ∧ H c' = some (CodeO c' q) ∧ tl Ech H (fun _ H1 => D.nx σ H1))
    (ts := fun a cls d => tAsg (tVar 2) (gName 1)) rfl rfl rfl nd rfl S.l2 ⟨gl S.gE, by decide, .inl S.mE⟩ takes0 (fun W pn xe tk _ => ?_) (fun a oe cls d pn hz hv => ?_))
    (pss_cons (ps_if (X := Z) (pt_cmp (pc_isN v1)) (pss_one (ps_ret (pe_tup (pa_cons pe_str (pa_cons pe_non pa_nil))))) pss_nil)
    (pss_cons (ps_set (X := Z) (i := 3) nd rfl (.inl S.l3) (pe_lst (pa_cons (isT (u := .ref CM) (pe_glob (v := .ref CM) (gl S.gM) S.mM rfl)) (pa_cons (isT (u := .ref CW) (pe_glob (v := .ref CW) (gl S.gW) S.mW rfl)) pa_nil))) rfl (.inr S.l3))
    (pss_cons (ps_if (X := Z) (PW.pt (pw_or (pt_cmpR op_ne (pe_bm PySem.F.plainAttrs_list PySem.F.slot_list_count PySem.F.type_list_count mt_countB v3 (pa_cons pe_bl pa_nil) rfl rfl hl) pe_int rfl) (pw_or1 (pt_not (pt_val (isT (u := .type "ValueError") (pe_bltn (v := .ty "ValueError") (gl S.gV) S.mV PyProof.Rows.Boot.«ValueError» rfl)))))))
      (pss_one (ps_ret (pe_tup (pa_cons pe_str (pa_cons pe_non pa_nil))))) pss_nil)
    (pss_one (ps_ret (pe_tup (pa_cons (pe_ifExp (pt_val (pe_ix ix_list v3 pe_int (fun _ _ => rfl))) pe_str pe_str) (pa_cons (pe_valK v1) pa_nil))))))))), ?_⟩
  · refine ⟨fun pins s' σ H' D I h' => ?_⟩
    obtain ⟨Ech, hW, h1, h2, h3⟩ := h'
    have hp := act _ pn xe Ech p4 p5 (takes_len tk) hW
    exact (pss_one (ps_expr (pos := p6) hp)).run pins s' σ H' D I ⟨h1, h2, h3⟩
  · exact pss_one (ps_set (X := Z.suite a ((a, oe) :: pn)) (i := 1) nd rfl (.inl S.l1) (pe_var (i := 2) rfl (.inl S.l2)) rfl (.inr S.l1))
  · refine ⟨fun cls d H' => ∀ σ' : L2.St, σ'.length = 4 → _, fun cls d σ' H' hE hlen => hE σ' hlen, rfl, hc, h _ _ (fun cls d H' ⟨C, dd, w, wd, e1, e2, hdd, M, hq⟩ σ' hlen => ?_) (fun v H' hq => ?_)⟩
    · subst e1 e2
      obtain ⟨b, b1, b2, b3, ewd⟩ := M.is_
      match σ', hlen with
      | [s0, s1, s2, s3], _ =>
      refine ⟨true, M.exm, fun _ a ha => ⟨.ref a, rfl, fun _ => ⟨.ref a, rfl, false, by simp, iteF ?_⟩⟩, fun z => nomatch z⟩
      have dne : dd ≠ a := ne_of_none hdd ha
      have ea : upd H' a (ExnO (.ref C) (some dd) a) a = some (ExnO (.ref C) (some dd) a) := upd_same
      have edd : upd H' a (ExnO (.ref C) (some dd) a) dd = some (.xd [(erF, w)]) := by rw [upd_ne dne]; exact hdd
      generalize hH1 : upd H' a (ExnO (.ref C) (some dd) a) = H1 at ea edd ⊢
      have k1 : ∀ b o, H' b = some o → H1 b = some o := fun b o z => by rw [← hH1, upd_ne (ne_of_none z ha)]; exact z
      have f1 : ∀ t, H1 t = none → H' t = none := fun t z => by
        cases q : H' t with
        | none => rfl
        | some o => rw [k1 t o q] at z; cases z
      refine ⟨.ref a, rfl, a, C, dd, _, .ref CM, .ref CM, b, rfl, ea, edd, (fun u r => r), M.xc, b1, ⟨.ref a, rfl, a, C, dd, _, .ref CW, .ref CW, !b, rfl, ea, edd, (fun u r => r), M.xc, b2, ⟨by show 2 ≤ sizeLine; rw [sizeLine_eq]; omega, fun p hp => ?_⟩⟩⟩
      have ea2 : upd H1 p (.lst [.bl b, .bl (!b)]) a = some (ExnO (.ref C) (some dd) a) := by rw [upd_ne (ne_of_none ea hp)]; exact ea
      have edd2 : upd H1 p (.lst [.bl b, .bl (!b)]) dd = some (.xd [(erF, w)]) := by rw [upd_ne (ne_of_none edd hp)]; exact edd
      have ep : upd H1 p (.lst [.bl b, .bl (!b)]) p = some (.lst ([b, !b].map V.bl)) := upd_same
      have k2 : ∀ b' o, H1 b' = some o → upd H1 p (.lst [.bl b, .bl (!b)]) b' = some o := fun b' o z => by rw [upd_ne (ne_of_none z hp)]; exact z
      generalize upd H1 p (.lst [.bl b, .bl (!b)]) = H2 at ea2 edd2 ep k2 ⊢
      have hcnt : [b, !b].count true = 1 := by cases b <;> rfl
      refine ⟨.ref p, rfl, .inl ⟨rfl, _, .inl (.inl ep)⟩, p, [b, !b], true, rfl, rfl, .inl (.inl ep), rfl, false, by rw [hcnt]; rfl, iteF ?_⟩
      refine ⟨.ref a, rfl, a, C, dd, _, .ty "ValueError", .type "ValueError", true, rfl, ea2, edd2, (fun u r => r), M.xc, b3, true, rfl, iteF ?_⟩
      have fin : ∀ t, H2 t = none → Q (.ref t) (upd H2 t (.tup [.str wd, w])) := fun t ht => hq _ t (fun b' o z => by rw [upd_ne (ne_of_none (k2 _ _ (k1 _ _ z)) ht)]; exact k2 _ _ (k1 _ _ z)) (f1 t (by
        cases q : H1 t with
        | none => rfl
        | some o => rw [k2 t o q] at ht; cases ht)) upd_same
      refine ⟨.ref p, rfl, p, _, 0, .bl b, rfl, rfl, .inl (.inl ep), rfl, b, rfl, ?_⟩
      subst ewd
      have l2 : ([V.str "many", w] : List V).length ≤ sizeLine := by show 2 ≤ sizeLine; rw [sizeLine_eq]; omega
      cases b with
      | true => exact iteT ⟨.ref a, rfl, a, C, dd, _, w, rfl, ea2, edd2, M.xf, M.no, rfl, l2, fin⟩
      | false => exact iteF ⟨.ref a, rfl, a, C, dd, _, w, rfl, ea2, edd2, M.xf, M.no, rfl, l2, fin⟩
    · exact ⟨.non, rfl, true, by simp, iteT ⟨by show 2 ≤ sizeLine; rw [sizeLine_eq]; omega, hq⟩⟩
end
end PD
end ZPDMet
section ZPDG
set_option Elab.async false
set_option linter.all false
set_option maxRecDepth 100000
set_option maxHeartbeats 2000000
namespace PD
open PySem PySem.Spec L2 PyProof.Rows
/-! defs that show what holds itself not: it is known that no repr is under way -/
structure FnG (P : Program) (w : World) (K : PySem.W.Frag) (mg : Str → Option Value) (base : Heap) (k : Nat) (f : Addr) (fd : FuncData) (ps : List Str) (sp : Sp) : Prop where
  len : ∀ vs H Q E, sp vs H Q E → vs.length = ps.length
  run : ∀ (A : Around) (outer : List PySem.Env) (s : Shared) (H : Hp) (args : Args) (us : List Value) (vs : List V) (Q : VK), Room k A → A.guards = some [] → Env0 P w K mg base A outer s H → BindsTo s fd args (ps.zip us) → Vals vs us → sp vs H Q E0 →
    codeAny (model P w) A (.call (.ref f) args) (CR CX0 outer P w H s Q E0) s
section
variable {P : Program} {w : World} {K : PySem.W.Frag} {mg : Str → Option Value} {base : Heap} {k : Nat} {f : Addr} {fd : FuncData} {ps : List Str} {sp sp' : Sp}
theorem FnG.ofOk (F : FnOk P w K mg base CX0 k f fd ps sp) : FnG P w K mg base k f fd ps sp := ⟨F.len, fun A outer s H args us vs Q hr _ e0 hb hv h => F.run A outer s H args us vs Q E0 hr e0 hb hv h⟩
theorem FnG.imp (F : FnG P w K mg base k f fd ps sp) (h : ∀ vs H Q E, sp' vs H Q E → sp vs H Q E) : FnG P w K mg base k f fd ps sp' := ⟨fun vs H Q E q => F.len vs H Q E (h _ _ _ _ q), fun A outer s H args us vs Q hr hg e0 hb hv q => F.run A outer s H args us vs Q hr hg e0 hb hv (h _ _ _ _ q)⟩
end
section
variable {X : Cx} {k : Nat} {f : Addr} {fd : FuncData} {ps : List Str} {sp : Sp} {x : Str} {p pos : Pos} {e : Expr} {es : List Expr} {t : TA}
theorem pe_callG (F : FnG X.prog X.w X.K X.mg X.base k f fd ps sp) (hr : Room k X.A) (hgd : X.A.guards = some []) (hg : Gl X x) (hm : X.mg x = some (.ref f)) (hk : PySem.W.keepIn X.K (.ref f) = true) (hb : Binds X.K fd ps []) (ha : PA X (e :: es) t)
    (hdb : (x == ("__debug__" : Str)) = false) (he : starEach (e :: es) X.env = (false, eval e X.env) :: starEach es X.env) (hpl : (backTo pos (starEach es X.env)).any (·.1) = false) : PE X (.Call (.Name x p) (e :: es) [] pos) (tCall sp [] E0 t) := by
  refine ⟨fun pins s σ H Q I h => wpAny_Call_Name_kw (ld_glob I hg hm (PySem.W.callWith_K (h₀ := X.base) I.ok.mod.kin hk (thn (ha.run pos pins s σ H _ I h) fun us s1 ⟨vs, H1, I1, r, q⟩ => ⟨I1.kIn, ?_⟩) he hpl) hdb)⟩
  replace q : sp (vs ++ []) H1 Q E0 := q
  rw [List.append_nil] at q
  have hl : (us ++ ([] : List Value)).length = ps.length := by rw [List.append_nil, ← r.length]; exact F.len _ _ _ _ q
  have hb2 := hb s1 us I1.kIn hl
  rw [List.append_nil] at hb2
  refine wpAny_call (codeAny_mono (F.run X.A X.stack s1 H1 ⟨us, []⟩ us vs Q hr hgd I1.env0 hb2 r q) fun r s' hq => ?_)
  cases r with
  | error e => exact (show False from hq).elim
  | ok fl =>
    cases fl with
    | ret u => exact I1.after hq
    | next => exact False.elim hq
    | brk => exact False.elim hq
    | cont => exact False.elim hq
end
section
variable {T : Tb} {base : Heap} {pg : Prog} {n k f : Nat} {x qual : Str} {st : Stmt} {fa : Addr} {fd : FuncData} {N ps : List Str} {cf : Calls} {tree : PD.X}
structure CallG (X : Cx) (T : Tb) (cf : Calls) (fa : Addr) (f np : Nat) : Prop where
  ex : ∃ k fd ps, FnG X.prog X.w X.K X.mg X.base k fa fd ps (spC T cf f np) ∧ Room (k + 1) X.A ∧ X.A.guards = some [] ∧ Binds X.K fd ps []
  kp : PySem.W.keepIn X.K (.ref fa) = true
theorem CallG.blk {X : Cx} (h : CallG X T cf fa f k) {s : Shared} {H : Hp} {scope : Scope} {cenv : PySem.Env} {fp : List Addr} : CallG (X.blk s H scope cenv fp) T cf fa f k := ⟨h.ex, h.kp⟩
theorem xe_callG {X : Cx} {P : Prog} {ad : Addr} {np : Nat} {p pos : Pos} {e : Expr} {es : List Expr} {xs : PD.X} (F : CallG X T cf ad f np) (hl : ∀ ds st d st', cf f ds st = .ok d st' → ds.length = np) (hg : Gl X x) (hm : X.mg x = some (.ref ad)) (ha : PXA X T P cf (e :: es) xs) (hdb : (x == ("__debug__" : Str)) = false)
    (he : starEach (e :: es) X.env = (false, eval e X.env) :: starEach es X.env) (hpl : (backTo pos (starEach es X.env)).any (·.1) = false) : PX X T P cf (.Call (.Name x p) (e :: es) [] pos) (.call f xs) false false := by
  obtain ⟨k, fd, ps, F1, hr, hgd, hb⟩ := F.ex
  exact PE.imp (pe_callG F1 (hr.mono (Nat.le_succ _)) hgd hg hm F.kp hb ha hdb he hpl) fun _ _ _ h => spOf h hl
/-- what a body does, as its def promises -/
theorem bodyC (hfn : pg.fn f = ⟨ps.length, N.length, tree⟩) {H : Hp} {vs : List V} {Q : VK} {E : XK} (h : spC T (fun g ds => runF pg cf (pg.fn g) ds) f ps.length vs H Q E) :
    rdS T (evB pg cf tree) { nx := fun _ H' => Q .non H', rt := Q } (L2.start N vs) H := by
  obtain ⟨G, μ, st0, ds, d, st', g, r, hl, ev, q⟩ := h
  have ev' : (if ds.length = (pg.fn f).np then bnd (evB pg cf (pg.fn f).body (ds.map .v ++ List.replicate ((pg.fn f).ns - (pg.fn f).np) .no)) (fun o => match o with
    | .rt d => ret d
    | .nx _ => ret D.non
    | _ => fail) else fail) st0 = .ok d st' := ev
  rw [hfn, if_pos hl] at ev'
  obtain ⟨o, st1, e1, e2⟩ := bnd_inv ev'
  have hst : L2.start N vs = vs.map some ++ List.replicate (N.length - ps.length) none := by unfold L2.start; rw [r.length, hl]
  rw [hst]
  refine ⟨G, μ, _, st0, o, st1, reps_start r st0 g (N.length - ps.length), e1, ?_⟩
  have noO : ∀ a, ¬ Own (vs.map some ++ List.replicate (N.length - ps.length) none) (ds.map Sl.v ++ List.replicate (N.length - ps.length) .no) a := fun a ⟨i, _, s, h2, h3⟩ => by
    have hm := List.mem_of_getElem? h2
    rcases List.mem_append.mp hm with z | z
    · obtain ⟨d, _, rfl⟩ := List.mem_map.mp z
      cases h3
    · rw [(List.mem_replicate.mp z).2] at h3
      cases h3
  cases o with
  | nx e =>
    obtain ⟨rfl, rfl⟩ := ret_inv e2
    exact fun σ' H' μ' g' s' => q .non H' μ' ⟨s'.mu, s'.new, fun a o e n => s'.keep a o e n (noO a), g'.sto.less go_less⟩ rfl
  | rt d' =>
    obtain ⟨rfl, rfl⟩ := ret_inv e2
    exact fun v H' μ' sto s' r' => q v H' μ' ⟨s'.mu, s'.new, fun a o e n => s'.keep a o e n (noO a), sto⟩ r'
  | bk e => cases e2
  | ct e => cases e2
theorem fnG {oc kV doc pm cdv ct : Value} {od an : Option Addr} {osl : Array (Option Value)} (lk : T.K.lookup fa = some ⟨oc, od, .func (PySem.W.fnOf x qual (defArgs st) (defBody st) (defScope st) .none kV doc pm an cdv ct), osl⟩) (hcd : PySem.W.codeIn T.K cdv qual = true)
    (S : FnScope N ps (defScope st)) (hfn : pg.fn f = ⟨ps.length, N.length, tree⟩)
    (hw : ∀ (A : Around) (outer : List PySem.Env) (s : Shared) (H : Hp), Room k (A.deeper (envOfC qual (defScope st) s.heap.objs.size fa cdv)) → A.guards = some [] → PXB (bX T base N qual st fa cdv A outer s H E0) T pg cf (defBody st) tree) :
    FnG T.P T.w T.K T.mg base (k + 1) fa (PySem.W.fnOf x qual (defArgs st) (defBody st) (defScope st) .none kV doc pm an cdv ct) ps (spC T (fun g ds => runF pg cf (pg.fn g) ds) f ps.length) := by
  have len : ∀ vs H Q E, spC T (fun g ds => runF pg cf (pg.fn g) ds) f ps.length vs H Q E → vs.length = ps.length := fun vs H Q E ⟨G, μ, st0, ds, d, st', g, r, hl, ev, q⟩ => by rw [r.length, hl]
  exact ⟨len, fun A outer s H args us vs Q hr hg e0 hb r h => LamX.run_ofS (N := N) lk hcd S hr e0 hb r (len _ _ _ _ h) fun hr' => ⟨_, (hw A outer s H hr' hg).nox, bodyC hfn h⟩⟩
/-- .. behind n calls -/
structure DefG (T : Tb) (base : Heap) (pg : Prog) (n : Nat) (fa : Addr) (f : Nat) (ps : List Str) : Prop where
  ex : ∃ fd, FnG T.P T.w T.K T.mg base (2 * n) fa fd ps (spC T (callN pg n) f ps.length) ∧ Binds T.K fd ps []
  kp : PySem.W.keepIn T.K (.ref fa) = true
theorem DefG.zero (hb : Binds T.K fd ps []) (kp : PySem.W.keepIn T.K (.ref fa) = true) : DefG T base pg 0 fa f ps :=
  ⟨⟨fd, ⟨fun vs H Q E ⟨G, μ, st0, ds, d, st', g, r, hl, ev, q⟩ => by rw [r.length, hl], fun A outer s H args us vs Q hr hg e0 hbt hv ⟨G, μ, st0, ds, d, st', g, r, hl, ev, q⟩ => by cases ev⟩, hb⟩, kp⟩
theorem DefG.succ {oc kV doc pm cdv ct : Value} {od an : Option Addr} {osl : Array (Option Value)} (lk : T.K.lookup fa = some ⟨oc, od, .func (PySem.W.fnOf x qual (defArgs st) (defBody st) (defScope st) .none kV doc pm an cdv ct), osl⟩) (hcd : PySem.W.codeIn T.K cdv qual = true)
    (kp : PySem.W.keepIn T.K (.ref fa) = true) (S : FnScope N ps (defScope st)) (hb : Binds T.K (PySem.W.fnOf x qual (defArgs st) (defBody st) (defScope st) .none kV doc pm an cdv ct) ps []) (hfn : pg.fn f = ⟨ps.length, N.length, tree⟩)
    (hw : ∀ (A : Around) (outer : List PySem.Env) (s : Shared) (H : Hp), Room (2 * n + 1) (A.deeper (envOfC qual (defScope st) s.heap.objs.size fa cdv)) → A.guards = some [] → PXB (bX T base N qual st fa cdv A outer s H E0) T pg (callN pg n) (defBody st) tree) :
    DefG T base pg (n + 1) fa f ps := ⟨⟨_, fnG (k := 2 * n + 1) lk hcd S hfn hw, hb⟩, kp⟩
theorem DefG.call {cdv : Value} {A : Around} {outer : List PySem.Env} {s : Shared} {H : Hp} {E : XK} {fb : Addr} {g : Nat} {qs : List Str} (D : DefG T base pg n fb g qs) (hr : Room (2 * n + 1) (A.deeper (envOfC qual (defScope st) s.heap.objs.size fa cdv))) (hg : A.guards = some []) :
    CallG (bX T base N qual st fa cdv A outer s H E) T (callN pg n) fb g qs.length := by
  obtain ⟨fd, F1, hb⟩ := D.ex
  exact ⟨⟨2 * n, fd, qs, F1, hr, hg, hb⟩, D.kp⟩
theorem DefG.succF (F : Fun T.K x qual st fa fd) (S : FnScope N ps (defScope st)) (hb : Binds T.K fd ps []) (hfn : pg.fn f = ⟨ps.length, N.length, tree⟩)
    (hw : ∀ (cdv : Value) (A : Around) (outer : List PySem.Env) (s : Shared) (H : Hp), Room (2 * n + 1) (A.deeper (envOfC qual (defScope st) s.heap.objs.size fa cdv)) → A.guards = some [] → PXB (bX T base N qual st fa cdv A outer s H E0) T pg (callN pg n) (defBody st) tree) :
    DefG T base pg (n + 1) fa f ps := by
  obtain ⟨oc, od, kV, doc, pm, an, cdv, ct, osl, rfl, lk, hcd⟩ := F.ex
  exact DefG.succ lk hcd F.kp S hb hfn (hw cdv)
/-- a def whose code object stands at c -/
structure FunC (K : PySem.W.Frag) (x qual : Str) (st : Stmt) (f : Addr) (fd : FuncData) (c : Addr) : Prop where
  ex : ∃ (oc : Value) (od : Option Addr) (kV doc pm : Value) (an : Option Addr) (ct : Value) (osl : Array (Option Value)),
    fd = PySem.W.fnOf x qual (defArgs st) (defBody st) (defScope st) .none kV doc pm an (.ref c) ct ∧ K.lookup f = some ⟨oc, od, .func fd, osl⟩ ∧ PySem.W.codeIn K (.ref c) qual = true
  kp : PySem.W.keepIn K (.ref f) = true
theorem FunC.fn {K : PySem.W.Frag} {c : Addr} (F : FunC K x qual st fa fd c) : Fun K x qual st fa fd := by
  obtain ⟨oc, od, kV, doc, pm, an, ct, osl, e, lk, hcd⟩ := F.ex
  exact ⟨⟨oc, od, kV, doc, pm, an, _, ct, osl, e, lk, hcd⟩, F.kp⟩
theorem funC_mk {K : PySem.W.Frag} {c : Addr} {oc : Value} {od an : Option Addr} {osl : Array (Option Value)} {kV doc pm ct : Value} (l : K.lookup fa = some ⟨oc, od, .func (PySem.W.fnOf x qual (defArgs st) (defBody st) (defScope st) .none kV doc pm an (.ref c) ct), osl⟩)
    (h : PySem.W.codeIn K (.ref c) qual = true) (k : PySem.W.keepIn K (.ref fa) = true) : FunC K x qual st fa (PySem.W.fnOf x qual (defArgs st) (defBody st) (defScope st) .none kV doc pm an (.ref c) ct) c := ⟨⟨oc, od, kV, doc, pm, an, ct, osl, rfl, l, h⟩, k⟩
theorem DefG.succC {c : Addr} (F : FunC T.K x qual st fa fd c) (S : FnScope N ps (defScope st)) (hb : Binds T.K fd ps []) (hfn : pg.fn f = ⟨ps.length, N.length, tree⟩)
    (hw : ∀ (A : Around) (outer : List PySem.Env) (s : Shared) (H : Hp), Room (2 * n + 1) (A.deeper (envOfC qual (defScope st) s.heap.objs.size fa (.ref c))) → A.guards = some [] → PXB (bX T base N qual st fa (.ref c) A outer s H E0) T pg (callN pg n) (defBody st) tree) :
    DefG T base pg (n + 1) fa f ps := by
  obtain ⟨oc, od, kV, doc, pm, an, ct, osl, rfl, lk, hcd⟩ := F.ex
  exact DefG.succ lk hcd F.kp S hb hfn hw
/-- a def called in a lambda -/
theorem DefI.lam {X : Cx} {scope : Scope} {fl cl fb : Addr} {g : Nat} {qs : List Str} {A : Around} {outer : List PySem.Env} {s : Shared} {H : Hp} {E : XK} (D : DefI T X.base pg n fb g qs) (h : XT T X) (hr : Room (2 * n + 1) (A.deeper (LamX.lamEnv X scope s.heap.objs.size fl cl))) :
    CallI (LamX.lamCx X A outer s H E scope fl cl) T (callN pg n) fb g qs.length := by
  obtain ⟨fd, F1, hb⟩ := D.ex
  rw [← h.P, ← h.w, ← h.K, ← h.m] at F1
  rw [← h.K] at hb
  exact ⟨⟨2 * n, fd, qs, F1, hr, hb⟩, (show PySem.W.keepIn X.K (.ref fb) = true from h.K ▸ D.kp)⟩
end
end PD
end ZPDG
section ZPDMet2
set_option Elab.async false
set_option linter.all false
set_option maxRecDepth 100000
set_option maxHeartbeats 2000000
namespace PD
open PySem PySem.Spec L2 PyProof.Rows LamX
/-! a call told by such a def: its tree is that of a def of its own, with slots of its own -/
/-- other slots -/
def sub (is : List Nat) : PD.X → PD.X
  | .var k => match is[k]? with
    | some i => .var i
    | none => .never
  | .nil => .nil
  | .cons h t => .cons (sub is h) (sub is t)
  | .call f as => .call f (sub is as)
  | _ => .never
def okS (m : Nat) : PD.X → Bool
  | .var k => decide (k < m)
  | .nil => true
  | .cons (.star _) _ => false
  | .cons h t => okS m h && okS m t
  | .call _ as => okS m as
  | _ => false
def varsX : List Nat → PD.X
  | [] => .nil
  | i :: r => .cons (.var i) (varsX r)
section
variable {P : Prog} {cf : Calls}
theorem vars_ev : ∀ {is : List Nat} {env : Env} {st st1 : Store} {ds : List D}, evA P cf (varsX is) env st = .ok ds st1 → st1 = st ∧ ∀ (k i : Nat), is[k]? = some i → env[i]? = (ds.map Sl.v)[k]?
  | [], env, st, st1, ds, h => by
    obtain ⟨rfl, rfl⟩ := ret_inv (show ret [] st = .ok ds st1 from h)
    exact ⟨rfl, fun k i e => by simp at e⟩
  | i :: r, env, st, st1, ds, h => by
    obtain ⟨d, st2, e1, e2⟩ := bnd_inv (show bnd (evE P cf (.var i) env) (fun d => bnd (evA P cf (varsX r) env) fun ds => ret (d :: ds)) st = .ok ds st1 from h)
    obtain ⟨es, st3, e3, e4⟩ := bnd_inv e2
    obtain ⟨rfl, rfl⟩ := ret_inv e4
    have e1' : (match env[i]? with | some (.v d) => ret d | _ => fail : M D) st = .ok d st2 := e1
    have hv : env[i]? = some (.v d) ∧ st2 = st := by
      cases z : env[i]? with
      | none => rw [z] at e1'; cases e1'
      | some s =>
        rw [z] at e1'
        cases s with
        | v d' =>
          obtain ⟨rfl, rfl⟩ := ret_inv (show ret d' st = .ok d st2 from e1')
          exact ⟨rfl, rfl⟩
        | _ => cases e1'
    obtain ⟨hv, rfl⟩ := hv
    obtain ⟨rfl, h2⟩ := vars_ev e3
    refine ⟨rfl, fun k j e => ?_⟩
    cases k with
    | zero =>
      have ej : i = j := by simpa using e
      rw [← ej, hv]
      rfl
    | succ k => exact h2 k j (by simpa using e)
theorem sub_ev (is : List Nat) (env0 env : Env) (h : ∀ (k i : Nat), is[k]? = some i → env[i]? = env0[k]?) (x : PD.X) : okS is.length x = true → evE P cf (sub is x) env = evE P cf x env0 ∧ evA P cf (sub is x) env = evA P cf x env0 := by
  induction x with
  | var k =>
    intro hk
    have hk' : k < is.length := of_decide_eq_true hk
    have e : is[k]? = some is[k] := List.getElem?_eq_getElem hk'
    have e2 := h k _ e
    have es : sub is (.var k) = .var is[k] := by
      show (match is[k]? with | some i => PD.X.var i | none => .never) = _
      rw [e]
    rw [es]
    refine ⟨?_, rfl⟩
    show (match env[is[k]]? with | some (.v d) => ret d | _ => fail : M D) = (match env0[k]? with | some (.v d) => ret d | _ => fail : M D)
    rw [e2]
  | nil => exact fun _ => ⟨rfl, rfl⟩
  | cons a b iha ihb =>
    intro hk
    have hn : ∀ y, a ≠ .star y := fun y z => by
      subst z
      exact absurd hk (by simp [okS])
    have hk2 : okS is.length a = true ∧ okS is.length b = true := by
      cases a <;> first | exact Bool.and_eq_true_iff.mp hk | exact absurd rfl (hn _)
    obtain ⟨_, _⟩ := iha hk2.1
    refine ⟨rfl, ?_⟩
    have ea := (iha hk2.1).1
    have eb := (ihb hk2.2).2
    have key : ∀ (y : PD.X) (r : PD.X) (env : Env), (∀ z, y ≠ .star z) → evA P cf (.cons y r) env = bnd (evE P cf y env) fun d => bnd (evA P cf r env) fun ds => ret (d :: ds) := fun y r env hy => by
      cases y <;> first | rfl | exact absurd rfl (hy _)
    have hs : ∀ z, sub is a ≠ .star z := fun z e => by
      cases a with
      | var k =>
        have e' : (match is[k]? with | some i => PD.X.var i | none => .never) = .star z := e
        split at e' <;> cases e'
      | star _ => exact absurd rfl (hn _)
      | _ => simp only [sub, reduceCtorEq] at e
    show evA P cf (.cons (sub is a) (sub is b)) env = _
    rw [key _ _ _ hs, key _ _ _ hn, ea, eb]
  | call f as ih =>
    intro hk
    have ea := (ih hk).2
    refine ⟨?_, rfl⟩
    show bnd (evA P cf (sub is as) env) (fun ds => cf f ds) = bnd (evA P cf as env0) fun ds => cf f ds
    rw [ea]
  | _ => exact fun hk => absurd hk (by simp [okS])
end
theorem metR_ok {ws : List (Nat × Str)} {r : Res D} {d : D} {st' : Store} (h : metR ws r = .ok d st') :
    (∃ d0, r = .ok d0 st' ∧ d = .tup [.str "none", .non]) ∨ ∃ c v wd, r = .exc c v st' ∧ ws.lookup c = some wd ∧ d = .tup [.str wd, v] := by
  cases r with
  | ok d0 s0 =>
    cases h
    exact .inl ⟨d0, rfl, rfl⟩
  | exc c v s0 =>
    have h' : (match ws.lookup c with | some w => Res.ok (D.tup [.str w, v]) s0 | none => .bad) = .ok d st' := h
    cases e : ws.lookup c with
    | none => rw [e] at h'; cases h'
    | some wd =>
      rw [e] at h'
      cases h'
      exact .inr ⟨c, v, wd, rfl, e, rfl⟩
  | bad => cases h
theorem tab0_ok {α : Type} {m : M α} {st st' : Store} {a : α} (h : tab0 m st = .ok a st') : st[0]? = some .tbl ∧ m st = .ok a st' := by
  have h' : (match st[0]? with | some O.tbl => m st | _ => .bad) = .ok a st' := h
  split at h'
  · rename_i e
    exact ⟨e, h'⟩
  · cases h'
theorem tab_at {T : Tb} {F : Addr → Prop} {μ : List Addr} {H : Hp} {st : Store} (g : StR T F μ H st) (h : st[0]? = some .tbl) : TabAt T μ st 0 := by
  have hl : 0 < μ.length := by rw [g.len]; exact (List.getElem?_eq_some_iff.mp h).1
  have e := List.getElem?_eq_getElem hl
  obtain ⟨ea, _⟩ := (show ORep T H F μ _ .tbl from g.ob 0 _ _ h e)
  exact ⟨by rw [e, ea], h⟩
section
variable {X : Cx} {T : Tb} {pg : Prog} {n : Nat}
theorem xe_met {F gi : Nat} {is : List Nat} {ws : List (Nat × Str)} {as : PD.X} {x y a : Str} {g fb c CE CM CW : Addr} {pgm : Arguments} {bg : List Stmt} {sg : Scope} {dV kV doc pm cdv ct oc : Value} {an od : Option Addr} {osl : Array (Option Value)} {Ng : List Str} {qs : List Str}
    {params : Arguments} {e : Expr} {es : List Expr} {scope : Scope} {p p2 p3 lpos pos : Pos} (hX : XT T X) (hg : Gl X x) (hm : X.mg x = some (.ref g)) (hk : PySem.W.keepIn X.K (.ref g) = true)
    (lk : X.K.lookup g = some ⟨oc, od, .func (PySem.W.fnOf x x pgm bg sg dV kV doc pm an cdv ct), osl⟩) (hcg : PySem.W.codeIn X.K cdv x = true) (hb : L2.Binds X.K (PySem.W.fnOf x x pgm bg sg dV kV doc pm an cdv ct) [a] []) (Sg : FnScope Ng [a] sg) (hNg : Ng[0]? = some a) (hva : Vis sg a)
    (hG : GivesTo X Ng x sg g cdv bg a (X.env.qual ++ "<lambda>") (TTmet X.K CE CM CW)) (hM : ∀ cx wd, ws.lookup cx = some wd → MetK X.K CE CM CW (T.ca cx) wd)
    (TB : TabB X.base X.mg c T.tb) (hq : T.tq = X.env.qual ++ "<lambda>") (hcode : X.env.code = .ref c) (hr : Room (2 * n + 1) X.A) (L : LamS X.env.scope scope) (hdef : defaultsOf params X.env = ([], []))
    (hbind : ∀ (q : Str) (cl : List (Str × Addr)) (pm cv ctv : Value), bindArgs (PySem.W.kla_fn "<lambda>" q params (.Call (.Name y p2) (e :: es) [] p3) scope cl pm cv ctv) ⟨[], []⟩ = pure [])
    (D : DefX T X.base pg (n - 1) fb gi qs) (hfn : pg.fn F = ⟨is.length, is.length, .cons (.rt (.met gi ws as)) .nil⟩) (hgl : scope.names.lookup y = some .globalImplicit) (hmy : X.mg y = some (.ref fb)) (hdy : (y == ("__debug__" : Str)) = false) (hok : okS is.length as = true) (hnpg : (pg.fn gi).np = qs.length)
    (he : ∀ (A : Around) (outer : List PySem.Env) (s : Shared) (H : Hp) (E : XK) (f c' : Addr), starEach (e :: es) (lamCx X A outer s H E scope f c').env = (false, eval e (lamCx X A outer s H E scope f c').env) :: starEach es (lamCx X A outer s H E scope f c').env)
    (hpl : ∀ (A : Around) (outer : List PySem.Env) (s : Shared) (H : Hp) (E : XK) (f c' : Addr), (backTo p3 (starEach es (lamCx X A outer s H E scope f c').env)).any (·.1) = false)
    (hargs : ∀ (A : Around) (outer : List PySem.Env) (s : Shared) (H : Hp) (E : XK) (f c' : Addr), Room (2 * (n - 1) + 1) (A.deeper (lamEnv X scope s.heap.objs.size f c')) → PXA (lamCx X A outer s H E scope f c') T pg (callN pg (n - 1)) (e :: es) (sub is as))
    (hdb : (x == ("__debug__" : Str)) = false := by decide) (hd : (a == ("__debug__" : Str)) = false := by decide) (hcd : (a == ("__classdict__" : Str)) = false := by decide) :
    PX X T pg (callN pg n) (.Call (.Name x p) [.Lambda params (.Call (.Name y p2) (e :: es) [] p3) scope lpos] [] pos) (.call F (varsX is)) false false := by
  cases n with
  | zero => exact ⟨fun pins s σ H Q I ⟨G, μ, env, st, d, st', g, ev, q⟩ => by
      obtain ⟨ds, st1, e1, e2⟩ := bnd_inv (show bnd (evA pg (callN pg 0) (varsX is) env) (fun ds => callN pg 0 F ds) st = .ok d st' from ev)
      cases e2⟩
  | succ n =>
    have hlr : ∀ ds st, (match callN pg n gi ds st with | .bad => False | _ => True) → ds.length = qs.length := fun ds st z => (callN_lenX z).trans hnpg
    obtain ⟨fd, F1, hbf⟩ := D.ex
    refine PE.imp (se_lamcall (i := 0) (k := 2 * n + 1) (t := fun E => tCall (spX T (callN pg n) gi qs.length) [] E (rdA T (evA pg (callN pg n) (sub is as)))) hg hm hk lk hcg hb Sg hNg hva hG TB hq hcode hr L hdef hbind (fun A outer s H E f c' hr2 => ?_) hdb hd hcd) fun σ H Q hh => ?_
    · have tk : Takes (lamCx X A outer s H E scope f c') (fun cls d _ H => E cls d H) := takes_of (E₁ := fun e' s'' => L2.CX X.prog X.w outer H s E e' s'') rfl rfl rfl rfl
      have F2 : FnOk X.prog X.w X.K X.mg X.base (L2.CX X.prog X.w) (2 * n) fb fd qs (spX T (callN pg n) gi qs.length) := by
        have := F1
        rw [← hX.P, ← hX.w, ← hX.K, ← hX.m] at this
        exact this
      exact pe_call (X := lamCx X A outer s H E scope f c') (E := E) F2 (hr2.mono (Nat.le_succ _)) hgl hmy (show PySem.W.keepIn X.K (.ref fb) = true from hX.K ▸ D.kp) (show Binds X.K fd qs [] from hX.K ▸ hbf) .nil (passes_call tk fun _ _ _ _ z => z) (hargs A outer s H E f c' hr2) hdy (he ..) (hpl ..)
    · obtain ⟨G, μ, env, st, d, st', gd, ev, q⟩ := hh
      obtain ⟨ds, st1, e1, e2⟩ := bnd_inv (show bnd (evA pg (callN pg (n + 1)) (varsX is) env) (fun ds => callN pg (n + 1) F ds) st = .ok d st' from ev)
      obtain ⟨rfl, hvars⟩ := vars_ev e1
      have e2' : (if ds.length = (pg.fn F).np then bnd (evB pg (callN pg n) (pg.fn F).body (ds.map .v ++ List.replicate ((pg.fn F).ns - (pg.fn F).np) .no)) (fun o => match o with
        | .rt d => ret d
        | .nx _ => ret PD.D.non
        | _ => fail) else fail) st1 = .ok d st' := e2
      rw [hfn] at e2'
      obtain ⟨hlen, e3⟩ := ite_inv e2'
      have hl0 : is.length - is.length = 0 := Nat.sub_self _
      dsimp only at e3
      rw [hl0] at e3
      rw [show ds.map Sl.v ++ List.replicate 0 Sl.no = ds.map Sl.v from List.append_nil _] at e3
      obtain ⟨o, st2, e4, e5⟩ := bnd_inv e3
      obtain ⟨o2, st3, e6, e7⟩ := bnd_inv (show bnd (evS pg (callN pg n) (.rt (.met gi ws as)) (ds.map Sl.v)) (fun o => match o with | .nx e => evB pg (callN pg n) .nil e | o => ret o) st1 = .ok o st2 from e4)
      obtain ⟨d2, st4, e8, e9⟩ := bnd_inv (show bnd (evE pg (callN pg n) (.met gi ws as) (ds.map Sl.v)) (fun d => ret (Out.rt d)) st1 = .ok o2 st3 from e6)
      obtain ⟨rfl, rfl⟩ := ret_inv e9
      obtain ⟨rfl, rfl⟩ := ret_inv (show ret (Out.rt d2) st4 = .ok o st2 from e7)
      obtain ⟨rfl, rfl⟩ := ret_inv (show ret d2 st4 = .ok d st' from e5)
      obtain ⟨htab, e10⟩ := tab0_ok (show tab0 (bnd (noX (evA pg (callN pg n) as (ds.map Sl.v))) fun ds st => metR ws (callN pg n gi ds st)) st1 = .ok d2 st4 from e8)
      obtain ⟨ds2, st5, e11, e12⟩ := bnd_inv e10
      have e13 := noX_ok e11
      rw [← (sub_ev (P := pg) (cf := callN pg n) is (ds.map Sl.v) env hvars as hok).2] at e13
      refine ⟨G, μ, env, st1, gd, tab_at gd.sto htab, fun H1 pp E QN hE hN => ?_⟩
      have g1 := gd.post pp
      refine callXR (P := pg) hlr g1 e13 fun H2 μ2 p2 => ?_
      have g2 := g1.toGoodT.post p2
      have p12 := pp.trans p2
      rcases metR_ok e12 with ⟨d0, er, rfl⟩ | ⟨cx, v, wd, er, ew, rfl⟩
      · rw [er]
        intro v' H' μ' p3 r3
        have g3 := g2.post p3
        refine hN v' H' fun t ht => ?_
        have p4 := Post.more (H' := upd H' t (.tup [.str "none", .non])) g3 fun b o z => by rw [upd_ne (ne_of_none z ht)]; exact z
        refine q (.ref t) _ μ' ((p12.trans p3).trans p4) (.of0 ⟨t, _, rfl, .inl ⟨upd_same, g3.fresh ht⟩, ?_⟩)
        exact ⟨_, _, rfl, rfl, _, _, rfl, rfl, rfl⟩
      · rw [er]
        intro w dx H' μ' p3 r3 hn hm' hdx
        have g3 := g2.post p3
        refine hE _ _ _ ⟨T.ca cx, dx, w, wd, rfl, rfl, hdx, hM cx wd ew, fun H3 t k ht et => ?_⟩
        have p4 := Post.more (H' := H3) g3 k
        refine q (.ref t) _ μ' ((p12.trans p3).trans p4) (.of0 ⟨t, _, rfl, .inl ⟨et, g3.fresh ht⟩, ?_⟩)
        exact ⟨_, _, rfl, rfl, w, [], rfl, Rep.mv p4.mv v w r3, rfl⟩
end
end PD
end ZPDMet2
section ZPDRepr
set_option Elab.async false
set_option linter.all false
set_option maxRecDepth 100000
set_option maxHeartbeats 2000000
namespace PD
open PySem PySem.Spec L2 PyProof.Rows
/-! the text of any datum -/
mutual
/-- v is d at h; no dict is the table of modules -/
inductive Sw (h : Heap) : Value → PyData → Prop where
  | none : Sw h .none .none
  | bool (b) : Sw h (.bool b) (.bool b)
  | int (i t) : Sw h (.int i t) (.int i)
  | str (x t) : Sw h (.str x t) (.str x)
  | list {a o vs n xs} : h.get? a = some o → o.cls = .type "list" → o.data = .seq vs n → SwAll h vs.toList xs → Sw h (.ref a) (.list xs)
  | tuple {a o vs n xs} : h.get? a = some o → o.cls = .type "tuple" → o.data = .seq vs n → SwAll h vs.toList xs → Sw h (.ref a) (.tuple xs)
  | dict {a o es n kvs} : h.get? a = some o → o.cls = .type "dict" → o.data = .dict es n → (a == sysModules) = false → SwAll h (es.toList.map (·.key)) (kvs.map (·.1)) → SwAll h (es.toList.map (·.val)) (kvs.map (·.2)) → Sw h (.ref a) (.dict kvs)
inductive SwAll (h : Heap) : List Value → List PyData → Prop where
  | nil : SwAll h [] []
  | cons {v vs d ds} : Sw h v d → SwAll h vs ds → SwAll h (v :: vs) (d :: ds)
end
mutual
theorem Sw.reads {h : Heap} : ∀ {v : Value} {d : PyData}, Sw h v d → ∃ as, Reads h v d as
  | _, _, .none => ⟨_, .none⟩
  | _, _, .bool b => ⟨_, .bool b⟩
  | _, _, .int i t => ⟨_, .int i t⟩
  | _, _, .str x t => ⟨_, .str x t⟩
  | _, _, .list h1 h2 h3 h4 => let ⟨_, r⟩ := SwAll.reads h4; ⟨_, .list h1 h2 h3 r⟩
  | _, _, .tuple h1 h2 h3 h4 => let ⟨_, r⟩ := SwAll.reads h4; ⟨_, .tuple h1 h2 h3 r⟩
  | _, _, .dict h1 h2 h3 _ h4 h5 => let ⟨_, r⟩ := SwAll.reads h4; let ⟨_, r'⟩ := SwAll.reads h5; ⟨_, .dict h1 h2 h3 r r'⟩
theorem SwAll.reads {h : Heap} : ∀ {vs : List Value} {ds : List PyData}, SwAll h vs ds → ∃ as, ReadsAll h vs ds as
  | _, _, .nil => ⟨_, .nil⟩
  | _, _, .cons x xs => let ⟨_, r⟩ := x.reads; let ⟨_, r'⟩ := xs.reads; ⟨_, .cons r r'⟩
end
section
variable {prog : Program} {w : World} {h₀ : Heap}
mutual
theorem Sw.rk : ∀ {v : Value} {d : PyData}, Sw h₀ v d → d.showable = true → d.shown.length ≤ sizeLine → ∃ bs, ReadAtMost h₀ d.depth bs ∧ ReprK prog w bs h₀ d.depth v d.shown
  | _, _, .none, _, _ => ⟨[], (fun _ z => nomatch z), by simp only [PyData.shown]; exact .of_is ReprIs.none _ _ _⟩
  | _, _, .bool b, _, _ => ⟨[], (fun _ z => nomatch z), by simp only [PyData.shown]; exact .of_is (ReprIs.bool b) _ _ _⟩
  | _, _, .int i t, hs, _ => ⟨[], (fun _ z => nomatch z), by simp only [PyData.shown]; exact .of_is (ReprIs.int t (by simpa [PyData.showable] using hs)) _ _ _⟩
  | _, _, .str x t, _, hz => ⟨[], (fun _ z => nomatch z), by simp only [PyData.shown]; exact .of_is (ReprIs.str x t (by simpa only [PyData.shown] using hz)) _ _ _⟩
  | _, _, .list (a := a) (vs := vs) (xs := xs) h1 h2 h3 h4, hs, hz => by
    simp only [PyData.shown] at hz
    obtain ⟨bs, hb, hk⟩ := SwAll.rk h4 (by simpa [PyData.showable] using hs) fun t ht => Nat.le_trans (listText_mem_le ht) hz
    obtain ⟨_, rd⟩ := (Sw.list h1 h2 h3 h4).reads
    have hna : a ∉ bs := not_mem_of_deeper rd (by simp only [PyData.depth]; omega) hb
    refine ⟨a :: bs, ReadAtMost.cons rd (by simp only [PyData.depth]; omega) hb, ?_⟩
    simp only [PyData.depth, PyData.shown]
    obtain ⟨l⟩ := vs
    cases l with
    | nil =>
      cases (show SwAll h₀ [] xs from h4)
      simp only [PyData.shownAll, listText_nil]
      exact ReprK.listEmpty h1 h2 h3
    | cons y l => exact ReprK.list h1 h2 h3 hna (by simpa using hk.length_eq) fun i z e => hk.item i z (by simpa using e)
  | _, _, .tuple (a := a) (xs := xs) h1 h2 h3 h4, hs, hz => by
    simp only [PyData.shown] at hz
    obtain ⟨bs, hb, hk⟩ := SwAll.rk h4 (by simpa [PyData.showable] using hs) fun t ht => Nat.le_trans (tupleText_mem_le ht) hz
    obtain ⟨_, rd⟩ := (Sw.tuple h1 h2 h3 h4).reads
    have hna : a ∉ bs := not_mem_of_deeper rd (by simp only [PyData.depth]; omega) hb
    exact ⟨a :: bs, ReadAtMost.cons rd (by simp only [PyData.depth]; omega) hb, by simp only [PyData.depth, PyData.shown]; exact ReprK.tuple h1 h2 h3 hna hk⟩
  | _, _, .dict (a := a) (es := es) (kvs := kvs) h1 h2 h3 h0 h4 h5, hs, hz => by
    simp only [PyData.shown] at hz
    obtain ⟨hs1, hs2⟩ := PyData.showableKv_split kvs (by simpa [PyData.showable] using hs)
    obtain ⟨b1, hb1, k1⟩ := SwAll.rk h4 hs1 fun t ht => let ⟨_, hp, hl⟩ := PyData.shownKv_key_le kvs t ht; Nat.le_trans hl (Nat.le_trans (dictText_mem_le hp) hz)
    obtain ⟨b2, hb2, k2⟩ := SwAll.rk h5 hs2 fun t ht => let ⟨_, hp, hl⟩ := PyData.shownKv_val_le kvs t ht; Nat.le_trans hl (Nat.le_trans (dictText_mem_le hp) hz)
    obtain ⟨_, rd⟩ := (Sw.dict h1 h2 h3 h0 h4 h5).reads
    have hb : ReadAtMost h₀ (PyData.depthKv kvs) (b1 ++ b2) := (hb1.mono (PyData.depthAll_keys_le kvs)).append (hb2.mono (PyData.depthAll_vals_le kvs))
    have hna : a ∉ b1 ++ b2 := not_mem_of_deeper rd (by simp only [PyData.depth]; omega) hb
    refine ⟨a :: (b1 ++ b2), ReadAtMost.cons rd (by simp only [PyData.depth]; omega) hb, ?_⟩
    simp only [PyData.depth, PyData.shown, PyData.shownKv_eq]
    exact ReprK.dict h1 h2 h3 h0 hna (ReprEntriesK.of_two es.toList _ _ (k1.more_le (fun _ z => List.mem_append_left _ z) (PyData.depthAll_keys_le kvs)) (k2.more_le (fun _ z => List.mem_append_right _ z) (PyData.depthAll_vals_le kvs)))
theorem SwAll.rk : ∀ {vs : List Value} {ds : List PyData}, SwAll h₀ vs ds → PyData.showableAll ds = true → (∀ t ∈ PyData.shownAll ds, t.length ≤ sizeLine) → ∃ bs, ReadAtMost h₀ (PyData.depthAll ds) bs ∧ ReprAllK prog w bs h₀ (PyData.depthAll ds) vs (PyData.shownAll ds)
  | _, _, .nil, _, _ => ⟨[], (fun _ z => nomatch z), by simp only [PyData.shownAll]; exact .nil⟩
  | _, _, .cons (d := d) (ds := ds) x xs, hs, hz => by
    obtain ⟨s1, s2⟩ : d.showable = true ∧ PyData.showableAll ds = true := by simpa [PyData.showableAll] using hs
    simp only [PyData.shownAll] at hz
    obtain ⟨b1, hb1, k1⟩ := x.rk s1 (hz _ (List.mem_cons_self ..))
    obtain ⟨b2, hb2, k2⟩ := xs.rk s2 fun t ht => hz t (List.mem_cons_of_mem _ ht)
    refine ⟨b1 ++ b2, (hb1.mono ?_).append (hb2.mono ?_), ?_⟩
    · simp only [PyData.depthAll]; exact Nat.le_max_left _ _
    · simp only [PyData.depthAll]; exact Nat.le_max_right _ _
    · simp only [PyData.depthAll, PyData.shownAll]
      exact .cons ((k1.more fun _ z => List.mem_append_left _ z).level_le (Nat.le_max_left _ _)) (k2.more_le (fun _ z => List.mem_append_right _ z) (Nat.le_max_right _ _))
end
/-- repr(v) -/
theorem Sw.call {v : Value} {d : PyData} {A : Around} {E : Value → Shared → Prop} {s : Shared} {Q : Value → Shared → Prop} (r : Sw s.heap v d) (hs : d.showable = true) (hg : A.guards = some []) (hu : A.units + (d.depth + 2) < cLine) (hsz : d.shown.length ≤ sizeLine)
    (hQ : ∀ h' u tk, (∀ b o, s.heap.get? b = some o → h'.get? b = some o) → Q (.str d.shown u) { s with heap := h', toks := tk }) : wpAny (model prog w) A (call (.builtin "repr") [v]) Q E s := by
  have hg1 : A.in1.guards = some [] := hg
  have cl : ∀ (b : Addr) (l : List Addr), ∀ c ∈ b :: l, Clear [] c := fun _ _ c _ => Clear.nil c
  cases r with
  | none => exact PySem.P.repr_of_none (hQ _ _ _ fun _ _ e => e)
  | bool b => exact PySem.P.repr_of_bool (hQ _ _ _ fun _ _ e => e)
  | int i t => exact PySem.P.repr_of_int (by simpa [PyData.showable] using hs) (hQ _ _ _ fun _ _ e => e)
  | str x t => exact PySem.P.repr_of_str (hQ _ _ _ fun _ _ e => e) (by simpa only [PyData.shown] using hsz)
  | list h1 h2 h3 h4 =>
    rename_i a o vs n xs
    simp only [PyData.shown] at hsz hQ
    simp only [PyData.depth] at hu
    obtain ⟨bs, hb, hk⟩ := SwAll.rk (prog := prog) (w := w) h4 (by simpa [PyData.showable] using hs) fun t ht => Nat.le_trans (listText_mem_le ht) hsz
    obtain ⟨_, rd⟩ := (Sw.list h1 h2 h3 h4).reads
    have hna : a ∉ bs := not_mem_of_deeper rd (by simp only [PyData.depth]; omega) hb
    refine call_repr_slot (by omega) ⟨o, h1, h2⟩ F.slot_list_repr.toG ?_
    obtain ⟨l⟩ := vs
    cases l with
    | nil =>
      cases (show SwAll s.heap [] xs from h4)
      simp only [PyData.shownAll, listText_nil] at hQ
      exact call_list_repr_empty ⟨o, h1, h2⟩ h1 h3 ⟨_, _, rfl, hQ s.heap _ _ fun _ _ e => e⟩
    | cons y l => exact call_list_reprK h1 h2 h3 hna (by simpa using hk.length_eq) (fun i z e => hk.item i z (by simpa using e)) hg1 (cl a bs) (by show A.units + 1 + _ < _; omega) (fun _ _ e => e) (fun h' u tk k => ⟨_, _, rfl, hQ h' u tk k⟩) hsz
  | tuple h1 h2 h3 h4 =>
    rename_i a o vs n xs
    simp only [PyData.shown] at hsz hQ
    simp only [PyData.depth] at hu
    obtain ⟨bs, hb, hk⟩ := SwAll.rk (prog := prog) (w := w) h4 (by simpa [PyData.showable] using hs) fun t ht => Nat.le_trans (tupleText_mem_le ht) hsz
    obtain ⟨_, rd⟩ := (Sw.tuple h1 h2 h3 h4).reads
    have hna : a ∉ bs := not_mem_of_deeper rd (by simp only [PyData.depth]; omega) hb
    exact call_repr_slot (by omega) ⟨o, h1, h2⟩ F.slot_tuple_repr (call_tuple_reprK h1 h2 h3 hna hk hg1 (cl a bs) (by show A.units + 1 + _ < _; omega) (fun _ _ e => e) (fun h' u tk k => ⟨_, _, rfl, hQ h' u tk k⟩) hsz)
  | dict h1 h2 h3 h0 h4 h5 =>
    rename_i a o es n kvs
    simp only [PyData.shown] at hsz hQ
    simp only [PyData.depth] at hu
    obtain ⟨hs1, hs2⟩ := PyData.showableKv_split kvs (by simpa [PyData.showable] using hs)
    obtain ⟨b1, hb1, k1⟩ := SwAll.rk (prog := prog) (w := w) h4 hs1 fun t ht => let ⟨_, hp, hl⟩ := PyData.shownKv_key_le kvs t ht; Nat.le_trans hl (Nat.le_trans (dictText_mem_le hp) hsz)
    obtain ⟨b2, hb2, k2⟩ := SwAll.rk (prog := prog) (w := w) h5 hs2 fun t ht => let ⟨_, hp, hl⟩ := PyData.shownKv_val_le kvs t ht; Nat.le_trans hl (Nat.le_trans (dictText_mem_le hp) hsz)
    obtain ⟨_, rd⟩ := (Sw.dict h1 h2 h3 h0 h4 h5).reads
    have hb : ReadAtMost s.heap (PyData.depthKv kvs) (b1 ++ b2) := (hb1.mono (PyData.depthAll_keys_le kvs)).append (hb2.mono (PyData.depthAll_vals_le kvs))
    have hna : a ∉ b1 ++ b2 := not_mem_of_deeper rd (by simp only [PyData.depth]; omega) hb
    rw [PyData.shownKv_eq] at hsz hQ
    exact call_repr_slot (by omega) ⟨o, h1, h2⟩ F.slot_dict_repr (call_dict_reprK h1 h2 h3 h0 hna (ReprEntriesK.of_two es.toList _ _ (k1.more_le (fun _ z => List.mem_append_left _ z) (PyData.depthAll_keys_le kvs)) (k2.more_le (fun _ z => List.mem_append_right _ z) (PyData.depthAll_vals_le kvs))) hg1 (cl a _)
      (by show A.units + 1 + _ < _; omega) (fun _ _ e => e) (fun h' u tk k => ⟨_, _, rfl, hQ h' u tk k⟩) hsz)
end
/-! how long -/
theorem listText_le (ts : List Str) : (listText ts).length ≤ piled ts + 3 := by
  have e : (listText ts).length = (textFrom 0 "[" ts).length + 1 := by
    show (textFrom 0 "[" ts ++ "]").length = _
    rw [strLen_append]; rfl
  rw [e]
  cases ts with
  | nil => show 1 + 1 ≤ 0 + 3; omega
  | cons t r =>
    have h : (textFrom 0 "[" (t :: r)).length = ("[" ++ ("" : Str) ++ t : Str).length + piled r := textFrom_length_pos r 1 _ (by omega)
    have h2 : ("[" ++ ("" : Str) ++ t : Str).length = 1 + t.length := by rw [strLen_append]; rfl
    rw [h, h2, piled_cons]
    omega
theorem join_le (ts : List Str) : (Str.join ", " ts).length ≤ piled ts := by
  cases ts with
  | nil => exact Nat.le_refl 0
  | cons t r =>
    have := join_length_add (t :: r) (by simp)
    omega
theorem tupleText_le (ts : List Str) : (tupleText ts).length ≤ piled ts + 3 := by
  unfold tupleText
  have h := join_le ts
  rw [strLen_append, strLen_append]
  have h1 : ((if ts.length == 1 then ",)" else ")" : String) : Str).length ≤ 2 := by split <;> decide
  have h2 : ("(" : Str).length = 1 := rfl
  omega
theorem dictText_le (ts : List Str) : (dictText ts).length ≤ piled ts + 2 := by
  unfold dictText
  have h := join_le ts
  rw [strLen_append, strLen_append]
  have h1 : ("}" : Str).length = 1 := rfl
  have h2 : ("{" : Str).length = 1 := rfl
  omega
mutual
theorem shown_le : ∀ d : D, d.shw = true → d.pd.shown.length ≤ d.shl ∧ d.pd.showable = true
  | .non, _ => ⟨by simp only [D.pd, PyData.shown, D.shl]; decide, by simp only [D.pd, PyData.showable]⟩
  | .bl b, _ => ⟨by simp only [D.pd, PyData.shown, D.shl]; cases b <;> decide, by simp only [D.pd, PyData.showable]⟩
  | .int i, h => by
    have h' : i.natAbs.log2 < 1920 := of_decide_eq_true (by simpa only [D.shw] using h)
    exact ⟨by simp only [D.pd, PyData.shown, D.shl]; exact int_text_len_1921 h', by simp only [D.pd, PyData.showable]; exact decide_eq_true h'⟩
  | .str x, h => by
    refine ⟨by
      simp only [D.pd, PyData.shown, D.shl]
      refine StrLaws.reprText_len x fun c hc => ?_
      simp only [D.shw, Array.all_eq_true] at h
      obtain ⟨i, hi, rfl⟩ := List.getElem_of_mem hc
      have := of_decide_eq_true (h i (by simpa using hi))
      have e : x.cps.toList[i] = x.cps[i]'(by simpa using hi) := by simp
      rw [e]
      omega, by simp only [D.pd, PyData.showable]⟩
  | .tup ds, h => by
    obtain ⟨h1, h2⟩ := shown_les ds (by simpa only [D.shw] using h)
    exact ⟨by simp only [D.pd, PyData.shown, D.shl]; exact Nat.le_trans (tupleText_le _) (by omega), by simp only [D.pd, PyData.showable]; exact h2⟩
  | .lst ds, h => by
    obtain ⟨h1, h2⟩ := shown_les ds (by simpa only [D.shw] using h)
    exact ⟨by simp only [D.pd, PyData.shown, D.shl]; exact Nat.le_trans (listText_le _) (by omega), by simp only [D.pd, PyData.showable]; exact h2⟩
  | .dct kvs, h => by
    obtain ⟨h1, h2⟩ := shown_lek kvs (by simpa only [D.shw] using h)
    exact ⟨by simp only [D.pd, PyData.shown, D.shl]; exact Nat.le_trans (dictText_le _) (by omega), by simp only [D.pd, PyData.showable]; exact h2⟩
  | .ref _, h => absurd h (by simp [D.shw])
  | .scr _, h => absurd h (by simp [D.shw])
theorem shown_les : ∀ ds : List D, D.shws ds = true → piled (PyData.shownAll (D.pds ds)) ≤ D.shls ds ∧ PyData.showableAll (D.pds ds) = true
  | [], _ => ⟨by simp only [D.pds, PyData.shownAll, D.shls]; exact Nat.le_refl 0, by simp only [D.pds, PyData.showableAll]⟩
  | d :: ds, h => by
    simp only [D.shws, Bool.and_eq_true] at h
    obtain ⟨h1, h2⟩ := shown_le d h.1
    obtain ⟨h3, h4⟩ := shown_les ds h.2
    exact ⟨by simp only [D.pds, PyData.shownAll, D.shls, piled_cons]; omega, by simp only [D.pds, PyData.showableAll, h2, h4, Bool.and_self]⟩
theorem shown_lek : ∀ kvs : List (D × D), D.shwk kvs = true → piled (PyData.shownKv (D.pdk kvs)) ≤ D.shlk kvs ∧ PyData.showableKv (D.pdk kvs) = true
  | [], _ => ⟨by simp only [D.pdk, PyData.shownKv, D.shlk]; exact Nat.le_refl 0, by simp only [D.pdk, PyData.showableKv]⟩
  | (k, d) :: r, h => by
    simp only [D.shwk, Bool.and_eq_true] at h
    obtain ⟨h1, h2⟩ := shown_le k h.1.1.2
    obtain ⟨h3, h4⟩ := shown_le d h.1.2
    obtain ⟨h5, h6⟩ := shown_lek r h.2
    refine ⟨?_, by simp only [D.pdk, PyData.showableKv, h2, h4, h6, Bool.and_self]⟩
    simp only [D.pdk, PyData.shownKv, D.shlk, piled_cons]
    rw [strLen_append, strLen_append]
    have : (": " : Str).length = 2 := rfl
    omega
end
/-! what stands for a datum, read -/
theorem Sw.leaf {h : Heap} {k : D} {q : Key} {v : Value} (hl : leafK k = some q) (hv : keyIs q v = true) : Sw h v k.pd := by
  rcases keyIs_shape hv with ⟨i, t, rfl, rfl⟩ | ⟨x, t, rfl, rfl⟩
  · cases k <;> simp only [leafK, Option.some.injEq, reduceCtorEq] at hl
    cases hl
    simp only [D.pd]
    exact .int _ _
  · cases k <;> simp only [leafK, Option.some.injEq, reduceCtorEq] at hl
    cases hl
    simp only [D.pd]
    exact .str _ _
section
variable {X : Cx} {pins : List (Addr × Obj)} {σ : L2.St} {H : Hp} {s : Shared} {T : Tb} {F : Addr → Prop} {μ : List Addr}
mutual
theorem rep_sw (hK : X.K = T.K) (I : L2.Inv X pins σ H s) : ∀ (d : D) (v : V) (u : Value), d.shw = true → Rep T H F μ d v → RelV v u → Sw s.heap u d.pd
  | .non, _, _, _, h, r => by
    simp only [Rep] at h
    subst h
    cases r
    simp only [D.pd]
    exact .none
  | .bl b, _, _, _, h, r => by
    simp only [Rep] at h
    subst h
    cases r
    simp only [D.pd]
    exact .bool b
  | .int i, _, _, _, h, r => by
    simp only [Rep] at h
    subst h
    obtain ⟨t, rfl⟩ := r
    simp only [D.pd]
    exact .int i t
  | .str x, _, _, _, h, r => by
    simp only [Rep] at h
    subst h
    obtain ⟨t, rfl⟩ := r
    simp only [D.pd]
    exact .str x t
  | .tup ds, _, _, hs, h, r => by
    simp only [Rep] at h
    obtain ⟨a, xs, rfl, h1, h2⟩ := h
    cases r
    simp only [D.pd]
    simp only [D.shw] at hs
    rcases h1 with ⟨h1, _⟩ | ⟨o, its, n, h1, h3, h4, _, rv⟩
    · obtain ⟨_, its, rv, o, e1, e2, n, e3⟩ := (show ObjOk X.prog X.w H s.heap a (.tup xs) from I.hok a _ h1)
      exact .tuple e1 e2 e3 (reps_sw hK I ds xs _ hs h2 (by simpa using rv))
    · exact .tuple (I.kIn _ _ (hK ▸ h1)) h3 h4 (reps_sw hK I ds xs _ hs h2 rv)
  | .lst ds, _, _, hs, h, r => by
    simp only [Rep] at h
    obtain ⟨a, xs, rfl, h1, _, h2⟩ := h
    cases r
    simp only [D.pd]
    simp only [D.shw] at hs
    obtain ⟨_, its, n, rv, e1⟩ := (show ObjOk X.prog X.w H s.heap a (.lst xs) from I.hok a _ h1)
    exact .list e1 rfl rfl (reps_sw hK I ds xs _ hs h2 (by simpa using rv))
  | .dct kvs, _, _, hs, h, r => by
    simp only [Rep] at h
    obtain ⟨a, rfl, _, h⟩ := h
    cases r
    simp only [D.pd]
    simp only [D.shw] at hs
    exact dct_sw hK I kvs a hs h
  | .ref _, _, _, hs, _, _ => absurd hs (by simp [D.shw])
  | .scr _, _, _, hs, _, _ => absurd hs (by simp [D.shw])
theorem reps_sw (hK : X.K = T.K) (I : L2.Inv X pins σ H s) : ∀ (ds : List D) (xs : List V) (us : List Value), D.shws ds = true → Reps T H F μ ds xs → Vals xs us → SwAll s.heap us (D.pds ds)
  | [], _, _, _, h, r => by
    simp only [Reps] at h
    subst h
    cases r
    simp only [D.pds]
    exact .nil
  | d :: ds, _, _, hs, h, r => by
    simp only [Reps] at h
    obtain ⟨x, xs, rfl, h1, h2⟩ := h
    simp only [D.shws, Bool.and_eq_true] at hs
    simp only [D.pds]
    cases r with
    | cons r1 r2 => exact .cons (rep_sw hK I d x _ hs.1 h1 r1) (reps_sw hK I ds xs _ hs.2 h2 r2)
theorem dct_sw (hK : X.K = T.K) (I : L2.Inv X pins σ H s) : ∀ (kvs : List (D × D)) (a : Addr), D.shwk kvs = true → ((∃ es, H a = some (.dK es) ∧ KVl T H F μ kvs es) ∨ ∃ es ob, es ≠ [] ∧ H a = some (nDct T.P T.w ob es a) ∧ KVn T H F μ kvs es) → Sw s.heap (.ref a) (.dict (D.pdk kvs))
  | kvs, a, hs, h => by
    rcases h with ⟨es, h1, h2⟩ | ⟨es, ob, hne, _, h3⟩
    · obtain ⟨_, hsys, vs, kv, o, ents, ep, e1, e2, e3, _, e4, _⟩ := (show ObjOk X.prog X.w H s.heap a (.dK es) from I.hok a _ h1)
      obtain ⟨s1, s2⟩ := kv_sw hK I kvs es vs ents.toList hs h2 kv e4
      exact .dict e1 e2.1 e3 hsys s1 s2
    · exfalso
      cases kvs with
      | nil =>
        simp only [KVn] at h3
        exact hne h3
      | cons p r =>
        obtain ⟨k, d⟩ := p
        simp only [KVn] at h3
        obtain ⟨n, q, x, r', _, _, hk, _⟩ := h3
        simp only [D.shwk, Bool.and_eq_true] at hs
        cases k with
        | int i => simp only [Rep] at hk; cases hk
        | str x => simp only [Rep] at hk; cases hk
        | _ => exact absurd hs.1.1.1 (by simp [D.leafB])
theorem kv_sw (hK : X.K = T.K) (I : L2.Inv X pins σ H s) : ∀ (kvs : List (D × D)) (es : List (Key × V)) (vs : List (Key × Value)) (ents : List DictEntry), D.shwk kvs = true → KVl T H F μ kvs es → KV es vs → Pairs (mixKind X.prog X.w) ents vs →
    SwAll s.heap (ents.map (·.key)) ((D.pdk kvs).map (·.1)) ∧ SwAll s.heap (ents.map (·.val)) ((D.pdk kvs).map (·.2))
  | [], _, _, _, _, h, kv, p => by
    simp only [KVl] at h
    subst h
    cases kv
    cases p
    simp only [D.pdk]
    exact ⟨.nil, .nil⟩
  | (k, d) :: r, _, _, _, hs, h, kv, p => by
    simp only [KVl] at h
    obtain ⟨q, x, r', rfl, hq, hx, h2⟩ := h
    simp only [D.shwk, Bool.and_eq_true] at hs
    cases kv with
    | @cons _ q2 _ vs' e kv' =>
      obtain ⟨e1, e2⟩ := e
      cases p with
      | cons hk hv p' =>
        obtain ⟨s1, s2⟩ := kv_sw hK I r r' vs' _ hs.2 h2 kv' p'
        simp only [D.pdk, List.map_cons]
        have e1' : q = q2.1 := e1
        rw [← e1'] at hk
        refine ⟨.cons (Sw.leaf hq hk) s1, .cons ?_ s2⟩
        rw [hv]
        exact rep_sw hK I d x _ hs.1.2 hx e2
end
theorem top_sw (hK : X.K = T.K) (I : L2.Inv X pins σ H s) {d : D} {v : V} {u : Value} (hs : d.shw = true) (h : Top T H F μ d v) (r : RelV v u) : Sw s.heap u d.pd := by
  cases d with
  | lst ds =>
    obtain ⟨a, rfl, xs, h1, h2⟩ := h
    cases r
    simp only [D.pd]
    simp only [D.shw] at hs
    obtain ⟨_, its, n, rv, e1⟩ := (show ObjOk X.prog X.w H s.heap a (.lst xs) from I.hok a _ h1)
    exact .list e1 rfl rfl (reps_sw hK I ds xs _ hs h2 (by simpa using rv))
  | dct kvs =>
    obtain ⟨a, rfl, h1⟩ := h
    cases r
    simp only [D.pd]
    simp only [D.shw] at hs
    exact dct_sw hK I kvs a hs h1
  | non => exact rep_sw (F := F) (μ := μ) hK I _ _ _ hs h r
  | bl _ => exact rep_sw (F := F) (μ := μ) hK I _ _ _ hs h r
  | int _ => exact rep_sw (F := F) (μ := μ) hK I _ _ _ hs h r
  | str _ => exact rep_sw (F := F) (μ := μ) hK I _ _ _ hs h r
  | tup _ => exact rep_sw (F := F) (μ := μ) hK I _ _ _ hs h r
  | ref _ => exact rep_sw (F := F) (μ := μ) hK I _ _ _ hs h r
  | scr _ => exact rep_sw (F := F) (μ := μ) hK I _ _ _ hs h r
theorem b_reprA (hX : XT T X) (hg : X.A.guards = some []) : CallR X (.builtin "repr") (rBi T (biD .reprA)) := by
  intro pins s σ H vs us Q I r ⟨G, μ, st, ds, d, g, t, e, q⟩
  match ds, e with
  | [d0], e =>
    simp only [biD, Option.ite_none_right_eq_some, Option.some.injEq, Bool.and_eq_true, decide_eq_true_eq] at e
    obtain ⟨⟨⟨h1, h2⟩, h3⟩, rfl⟩ := e
    obtain ⟨v, rfl, t1⟩ := tops1 t
    obtain ⟨u, rfl, ru⟩ := r.one
    obtain ⟨k1, k2⟩ := shown_le d0 h1
    have hu := hX.u
    exact Sw.call (top_sw hX.K I h1 t1 ru) k2 hg (by omega) (Nat.le_trans k1 (Nat.le_trans h3 (by unfold LIM; rw [sizeLine_eq]; omega))) fun h' u' tk k => ⟨.str _, H, I.kept k, ⟨_, rfl⟩, q.str⟩
end
end PD
end ZPDRepr
section ZPDData
set_option Elab.async false
set_option linter.all false
set_option maxRecDepth 100000
set_option maxHeartbeats 2000000
namespace PD
open PySem PySem.Spec L2 PyProof.Rows
/-! {}, {"a": x} as data; a list of one's own written at a place -/
section
variable {X : Cx} {T : Tb} {P : Prog} {cf : Calls} {pos p kp tpos : Pos} {e k v : Expr} {xe xk xv : PD.X} {fe fk fv : Bool} {x : Str} {i : Nat}
theorem xe_dct0 : PX X T P cf (.Dict [] [] pos) .dct0 false false := by
  refine PE.imp pe_dnewK fun σ H Q ⟨G, μ, env, st, d, st', g, e, q⟩ p hp => ?_
  obtain ⟨rfl, rfl⟩ := ret_inv (show ret (.dct []) st = .ok d st' from e)
  have p1 := Post.more (H' := upd H p (.dK [])) g.toGoodT fun a o z => by rw [upd_ne (ne_of_none z hp)]; exact z
  exact q _ _ μ p1 (.of0 ⟨p, rfl, g.toGoodT.fresh hp, .inl ⟨[], upd_same, rfl⟩⟩)
theorem xe_dct1 {ks : Str} {j : Nat} (he : PX X T P cf v xv fv false) (hshape : (evalEachOpt [some (.Constant (.str ks) j kp)] X.env).zip ((evalEach [v] X.env).map fun v => do let x ← v; standAt pos; pure x) = [(some (eval (.Constant (.str ks) j kp) X.env), do let x ← eval v X.env; standAt pos; pure x)]) :
    PX X T P cf (.Dict [some (.Constant (.str ks) j kp)] [v] pos) (.dct1 ks xv) false false := by
  refine ⟨fun pins s σ H Q I ⟨G, μ, env, st, d, st', g, ev, q⟩ => ?_⟩
  obtain ⟨vd, st1, e1, k2⟩ := bnd_inv (show bnd (evE P cf xv env) (fun d => ret (.dct [(.str ks, d)])) st = .ok d st' from ev)
  obtain ⟨rfl, rfl⟩ := ret_inv k2
  rw [arm_eval_Dict, hshape]
  have hD : H s.heap.objs.size = none := I.hok.fresh (Nat.le_refl _)
  have I1 : L2.Inv X pins σ (upd H s.heap.objs.size (.dK [])) { s with heap := s.heap.push { cls := .type "dict", data := .dict #[] } } := I.laid (t' := s.toks) (fun b u e => Heap.get?_push_of_some _ e) (Nat.le_refl _) (dk_empty _ I.big)
  have gD := g.guard (.dK []) hD
  have shape2 : dictDisplay [(some (eval (.Constant (.str ks) j kp) X.env), do let x ← eval v X.env; standAt pos; pure x)] = (do let d ← subDict [(eval (.Constant (.str ks) j kp) X.env, do let x ← eval v X.env; standAt pos; pure x)]; pure (.ref d)) := dictDisplay_pairs [(eval (.Constant (.str ks) j kp) X.env, do let x ← eval v X.env; standAt pos; pure x)] (by simp) (by simp)
  rw [shape2]
  refine wpAny_bind (wpAny_standAt (wpAny_bind (wpAny_subDict (knd := mixKind X.prog X.w) (by simp) ?_)))
  refine wpAny_bind (Calls.Constant_str ?_)
  refine wpAny_bind (wpAny_holding (wpAny_bind (thn (he.run pins _ σ _ (fun u H2 => ∃ μ2, Post T (GP G s.heap.objs.size) μ (upd H s.heap.objs.size (.dK [])) μ2 H2 st1 ∧ Rep T H2 (FF (GP G s.heap.objs.size) μ2) μ2 vd u) (I1.tok _) ⟨_, μ, env, st, _, _, gD, e1, fun u H2 μ2 p2 r2 => ⟨μ2, p2, r2.rep rfl⟩⟩) fun vu s2 ⟨vv, H2, I3, rv, μ2, p2, r2⟩ => wpAny_bind (wpAny_standAt (wpAny_pure ?_)))))
  refine wpAny_bind (wpAny_holding (wpAny_pure (wpAny_pure ?_)))
  have g2 := gD.post p2
  have nD2 : s.heap.objs.size ∉ μ2 := fun z => g2.dis _ z (.inr rfl)
  have nD0 : s.heap.objs.size ∉ μ := fun z => gD.dis _ z (.inr rfl)
  have hdk : H2 s.heap.objs.size = some (.dK []) := p2.keep _ _ upd_same nD0
  obtain ⟨_, hsys, vs0, kv0, hdo⟩ : ([] : List (Key × V)).length ≤ sizeLine ∧ (s.heap.objs.size == sysModules) = false ∧ ∃ vs, KV [] vs ∧ s2.heap.DictOf (mixKind X.prog X.w) s.heap.objs.size vs := I3.hok _ _ hdk
  cases kv0
  refine ⟨[(.inr ks, vu)], ⟨keyIs_str ks s.toks, rfl, trivial⟩, hdo, fun h' hh' hs => wpAny_pure ?_⟩
  have e3 : merged ([] : List (Key × Value)) [(.inr ks, vu)] = [(.inr ks, vu)] := rfl
  rw [e3] at hh'
  have hob : ∃ u, h'.get? s.heap.objs.size = some u := by
    obtain ⟨o, _, _, e, _⟩ := id hh'
    exact ⟨o, e⟩
  have I4 : L2.Inv X pins σ (upd H2 s.heap.objs.size (.dK [(.inr ks, vv)])) { s2 with heap := h', toks := s2.toks + [(Value.str ks s.toks, vu)].length } :=
    I3.write (x := s.heap.objs.size) (e := s.heap.objs.size) (by rw [hdk]; trivial) (.inl rfl) (fun b ob hb e => (hs.2 b hb).trans e) hob ⟨by rw [sizeLine_eq]; simp, hsys, [(.inr ks, vu)], .cons ⟨rfl, rv⟩ .nil, hh'⟩
  have mU : Mv H2 (upd H2 s.heap.objs.size (.dK [(.inr ks, vv)])) (FF (GP G s.heap.objs.size) μ2) (FF (GP G s.heap.objs.size) μ2) μ2 μ2 := mvUpd (.inr (.inr rfl))
  have stoD : StR T (FF (GP G s.heap.objs.size) μ2) μ2 (upd H2 s.heap.objs.size (.dK [(.inr ks, vv)])) st1 := by
    refine ⟨g2.sto.len, g2.sto.nd, fun j w b h1 h2 => ?_⟩
    have hb : b ≠ s.heap.objs.size := fun z => nD2 (z ▸ List.mem_of_getElem? h2)
    refine (g2.sto.ob j w b h1 h2).mv mU (fun q e => by rw [upd_ne hb]; exact e) (fun _ z => .inl z) fun c q e nc => ?_
    by_cases hc : c = s.heap.objs.size
    · rw [hc, hdk] at e; exact absurd (Option.some.inj e) (fun z => HO.noConfusion z)
    · rw [upd_ne hc]; exact e
  have pp : Post T G μ H μ2 (upd H2 s.heap.objs.size (.dK [(.inr ks, vv)])) st1 := by
    refine Post.weak (G' := GP G s.heap.objs.size) ⟨p2.mu, fun a z => ?_, fun a o e n => ?_, stoD⟩ fun a z => .inl z
    · rcases p2.new a z with y | y
      · exact .inl y
      · refine .inr ?_
        by_cases c : a = s.heap.objs.size
        · subst c; exact hD
        · rw [upd_ne c] at y; exact y
    · have ne := ne_of_none e hD
      rw [upd_ne ne]
      exact p2.keep a o (by rw [upd_ne ne]; exact e) n
  have lg : ∀ a, FF G μ2 a → FF (GP G s.heap.objs.size) μ2 a := fun a z => by
    rcases z with z | z
    · exact .inl z
    · exact .inr (.inl z)
  have nF : ¬ FF G μ2 s.heap.objs.size := fun z => by
    rcases z with z | z
    · exact nD2 z
    · exact g.dom _ z hD
  exact ⟨.ref s.heap.objs.size, _, I4, rfl, q _ _ μ2 pp (.of0 ⟨_, rfl, nF, .inl ⟨_, upd_same, .inr ks, vv, [], rfl, rfl, Rep.mv (mvLess lg) _ _ (Rep.mv mU _ _ r2), rfl⟩⟩)⟩
/-- xs[k] = e, xs one's own list -/
theorem xs_puti (hN : X.N[i]? = some x) (hv : Vis X.env.scope x) (hd : (x == ("__debug__" : Str)) = false) (hcd : (x == ("__classdict__" : Str)) = false) (he : PX X T P cf e xe fe false) (hk : PX X T P cf k xk fk false)
    (hs : swapsWithSole [.Subscript (.Name x p) k tpos] e pos.line X.env = pure false) (hw : swappedStores [.Subscript (.Name x p) k tpos] e X.env = pure none) (h1 : (assignEach [.Subscript (.Name x p) k tpos] X.env).map (·.2) = [assign (.Subscript (.Name x p) k tpos) X.env])
    (ha : ∀ v, assign (.Subscript (.Name x p) k tpos) X.env v = (do
      let ov ← holding [v] (eval (.Name x p) X.env)
      let iv ← holding [v, ov] (eval k X.env)
      standAt tpos
      holding [v, ov, iv] (setItem ov iv v)
      release [v, ov, iv] [])) : PXS X T P cf (.Assign [.Subscript (.Name x p) k tpos] e pos) (.puti i xk xe) := by
  refine PS.imp (ps_asg he (pg_sub (name_ol hN hv hd hcd) hk set_list ha) hs hw h1) fun D σ H ⟨G0, μ, env, st, o, st', g, ev, q⟩ => ?_
  obtain ⟨d, st1, e1, k2⟩ := bnd_inv (show bnd (evE P cf xe env) (fun d => bnd (evE P cf xk env) fun x => match env[i]?, x with
    | some (.ol ds), .int n => match PD.ixN ds.length n with
      | some j => ret (Out.nx (env.set i (.ol (ds.set j d))))
      | none => fail
    | _, _ => fail) st = .ok o st' from ev)
  obtain ⟨kd, st2, e2, k3⟩ := bnd_inv k2
  obtain ⟨ds, n, j, hi, rfl, hj, k4⟩ : ∃ ds n j, env[i]? = some (.ol ds) ∧ kd = .int n ∧ PD.ixN ds.length n = some j ∧ (ret (Out.nx (env.set i (.ol (ds.set j d)))) : M Out) st2 = .ok o st' := by
    cases hi : env[i]? with
    | none => simp only [hi] at k3; cases k3
    | some s =>
      cases s with
      | no => simp only [hi] at k3; cases k3
      | v _ => simp only [hi] at k3; cases k3
      | od _ => simp only [hi] at k3; cases k3
      | ol ds =>
        cases kd <;> simp only [hi] at k3 <;> first | (cases k3; done) | skip
        rename_i n
        cases hj : PD.ixN ds.length n with
        | none => rw [hj] at k3; cases k3
        | some j => rw [hj] at k3; exact ⟨ds, n, j, rfl, rfl, hj, k3⟩
  obtain ⟨rfl, rfl⟩ := ret_inv k4
  refine ⟨_, μ, env, st, d, st1, g.good, e1, fun v H1 μ1 p1 r1 => ?_⟩
  have g1 := g.post p1
  obtain ⟨a, xs, hσ, _⟩ := g1.olAt hi
  refine ⟨.ref a, hσ, _, μ1, env, st1, .int n, _, g1.good, e2, fun u H2 μ2 p2 r2 => ?_⟩
  have g2 := g1.post p2
  obtain ⟨a2, xs2, hσ2, oa, hl, hr, nm, n0, fa2⟩ := g2.olAt hi
  rw [hσ] at hσ2
  cases hσ2
  obtain rfl : u = .int n := r2.pkr
  refine ⟨a, xs2, n, j, rfl, rfl, hl, by rw [hr.length]; exact hj, ?_⟩
  obtain ⟨g3, s3⟩ := g2.putL oa hl (Reps.set j hr (Rep.mv p2.mv d v (r1.rep rfl)))
  exact q σ _ μ2 g3 ((StepR.ofPost g p1).trans ((StepR.ofPost g1 p2).trans s3))
end
end PD
end ZPDData
section ZPDStart
set_option Elab.async false
set_option linter.all false
set_option maxRecDepth 100000
set_option maxHeartbeats 2000000
namespace PD
open PySem PySem.Spec L2 PyProof.Rows LamX
/-! the end of a law row: one table of code objects; no repr is under way at the start -/
abbrev emptyTab : Obj := { cls := .none, data := .fields #[] }
section
variable {P : Program} {w : World} {K : PySem.W.Frag} {mg mb : Str → Option Value} {k : Nat} {fa a c tb : Addr} {fd : FuncData} {x : Str} {sp : Sp} {s1 : Shared} {vals : List Value} {ns : List Int}
/-- what stands at the start -/
structure Begun (K : PySem.W.Frag) (mg mb : Str → Option Value) (c tb a : Addr) (vals : List Value) (s1 : Shared) : Prop where
  kx : K.In s1.heap
  g : s1.heap.Ns mainGlobals mg
  b : s1.heap.Ns builtinsNs mb
  bb : ∀ y : Str, y ≠ "__name__" → mb y = bootBuiltins y
  lim : s1.heap.NoLimit
  gens : s1.gens = #[]
  tab : s1.heap.get? tb = some emptyTab
  notK : K.lookup tb = none
  code : PySem.W.CodeHd s1.heap c tb
  bm : ∃ (m : Addr) (o : Obj), mg "__builtins__" = some (.ref m) ∧ m ≠ builtinsNs ∧ s1.heap.get? m = some o ∧ o.cls = .type "module" ∧ o.dict = some builtinsNs ∧ o.data = .plain
  scr : s1.heap.get? a = some { cls := .type "list", data := .seq vals.toArray }
theorem Begun.ne (B : Begun K mg mb c tb a vals s1) : a ≠ tb := fun z => by
  have e := B.scr
  rw [z, B.tab] at e
  exact Data.noConfusion (congrArg Obj.data (Option.some.inj e))
/-- what an object must be to be tracked: neither the script nor the table -/
theorem Begun.free (B : Begun K mg mb c tb a vals s1) {H : Hp} (hH : ∀ y, H y ≠ none → y = a ∨ y = tb) {y : Addr} {o : Obj} (e : s1.heap.get? y = some o) (n1 : ∀ vs n, o.data ≠ .seq vs n) (n2 : o.data ≠ .fields #[]) : H y = none := by
  refine Classical.byContradiction fun hn => ?_
  rcases hH y hn with z | z
  · rw [z, B.scr] at e
    exact n1 _ _ (congrArg Obj.data (Option.some.inj e)).symm
  · rw [z, B.tab] at e
    exact n2 (congrArg Obj.data (Option.some.inj e)).symm
theorem Begun.ground (B : Begun K mg mb c tb a vals s1) {H : Hp} (hH : ∀ y, H y ≠ none → y = a ∨ y = tb) (hK : H a ≠ none → K.lookup a = none) : L2.Mod K mg (hidT s1.heap H) ∧ TabB (hidT s1.heap H) mg c tb := by
  have dct : ∀ {y : Addr} {m : Str → Option Value}, s1.heap.Ns y m → (hidT s1.heap H).Ns y m := fun {y m} ⟨o, es, ep, e, d, r⟩ =>
    ⟨o, es, ep, hidT_get e (B.free hH e (fun vs n z => by rw [d] at z; exact Data.noConfusion z) fun z => by rw [d] at z; exact Data.noConfusion z), d, r⟩
  have kin : K.In (hidT s1.heap H) := fun y o e => hidT_get (B.kx y o e) (by
    refine Classical.byContradiction fun hn => ?_
    rcases hH y hn with z | z
    · subst z
      rw [hK hn] at e
      exact nomatch e
    · rw [z, B.notK] at e
      exact nomatch e)
  obtain ⟨lc, l1, l2⟩ := B.lim
  refine ⟨⟨kin, dct B.g, ⟨mb, dct B.b, B.bb⟩, ⟨lc, dct l1, l2⟩⟩, ?_, ?_, fun z => ?_⟩
  · obtain ⟨o, us, fl, t0, flags, t1, inF, text, t2, q1, q2, q3, q4, q5⟩ := B.code
    refine ⟨o, us, fl, t0, flags, t1, inF, text, t2, hidT_get q1 (B.free hH q1 (fun vs n z => by rw [q3] at z; exact Data.noConfusion z) fun z => ?_), q2, q3, q4, q5⟩
    rw [q3] at z
    have zz : us = #[] := Data.fields.inj z
    rw [zz] at q4
    exact absurd q4 (by simp)
  · obtain ⟨m, o, q1, q2, q3, q4, q5, q6⟩ := B.bm
    have nd : ∀ {d : Data}, o.data = d → d = .plain := fun z => z.symm.trans q6
    have ng : m ≠ mainGlobals := fun z => by
      obtain ⟨o', es, ep, e, d, _⟩ := B.g
      rw [z, e] at q3
      exact Data.noConfusion (nd ((congrArg Obj.data (Option.some.inj q3)).symm.trans d))
    have np : m ≠ tb := fun z => by
      rw [z, B.tab] at q3
      exact Data.noConfusion (nd (congrArg Obj.data (Option.some.inj q3)).symm)
    exact ⟨m, o, q1, q2, ng, np, hidT_get q3 (B.free hH q3 (fun vs n z => Data.noConfusion (nd z)) fun z => Data.noConfusion (nd z)), q4, q5, q6⟩
  · obtain ⟨o, es, ep, e, d, _⟩ := B.g
    rw [z, B.tab] at e
    exact Data.noConfusion ((congrArg Obj.data (Option.some.inj e)).trans d)
theorem Begun.from_ (B : Begun K mg mb c tb a vals s1) (hi : IntsAre vals ns) (hr : Room k callerA) (F : ∀ base : Heap, K.In base → base.Ns mainGlobals mg → TabB base mg c tb → FnG P w K mg base k fa fd [x] sp) (hbind : ∀ (s : Shared) (u : Value), BindsTo s fd ⟨[u], []⟩ [(x, u)])
    {H : Hp} (hT : H tb = some (.tbl #[])) (hO : ∀ y, H y = none ∨ y = tb ∨ ∃ o xs, H y = some (.frz o (.lst xs))) (hok : HOk P w H s1.heap) (hH : ∀ y, H y ≠ none → y = a ∨ y = tb) (hK : H a ≠ none → K.lookup a = none)
    (hsp : sp [.ref a] H (fun v _ => v = .bl true) E0) :
    codeAny (model P w) callerA (.call (.ref fa) ⟨[.ref a], []⟩) (fun r s' => r = .ok (.ret (.bool true)) ∧ OldK s1.heap s'.heap ∧ s'.os = s1.os ∧ AllBare s'.gens) s1 := by
  obtain ⟨M, TB⟩ := B.ground hH hK
  have e0 : Env0 P w K mg (hidT s1.heap H) callerA [] s1 H := ⟨rfl, M, fun y o e => of_hidT e, Nat.le_of_eq (hidT_size _ _), trivial, fun y hy => absurd hy List.not_mem_nil, hok, .of_eq B.gens⟩
  refine codeAny_mono ((F _ M.kin M.glob TB).run callerA [] s1 H ⟨[.ref a], []⟩ [.ref a] [.ref a] _ hr rfl e0 (hbind s1 (.ref a)) (.cons rfl .nil) hsp) fun r s' h => ?_
  match r, h with
  | .ok (.ret u), h =>
    obtain ⟨v, H', os, bare, un, hok', rv, q⟩ := h
    obtain rfl : v = .bl true := q
    obtain rfl : u = Value.bool true := rv
    have kept : ∀ y o, y ≠ tb → s1.heap.get? y = some o → s'.heap.get? y = some o := fun y o hy e => by
      rcases hO y with z | z | ⟨ob, xs, z⟩
      · exact un.keep y o e z (fun hm => absurd hm List.not_mem_nil) List.not_mem_nil
      · exact absurd z hy
      · obtain ⟨e1, _⟩ := hok y _ z
        obtain ⟨e2, _⟩ := hok' y _ (un.frzs y ob _ z)
        rw [e] at e1
        cases e1
        exact e2
    obtain ⟨more, hm⟩ := un.tbls tb #[] hT
    have grown : s'.heap.get? tb = some { cls := .none, data := .fields (#[] ++ more) } := hok' tb _ hm
    refine ⟨rfl, ⟨fun y o e => ?_, fun y o e => ?_⟩, os, bare⟩
    · by_cases hy : y = tb
      · subst hy
        rw [B.tab] at e
        cases e
        exact .inr (.inl ⟨(B.code.tab B.tab).isCodeTable, rfl, #[], more, rfl, grown⟩)
      · exact .inl (kept y o hy e)
    · by_cases hy : y = tb
      · exact ⟨_, hy ▸ grown⟩
      · exact ⟨o, kept y o hy e⟩
theorem law_callG (B : Begun K mg mb c tb a vals s1) (hi : IntsAre vals ns) (hl : ns.length ≤ sizeLine) (hr : Room k callerA) (F : ∀ base : Heap, K.In base → base.Ns mainGlobals mg → TabB base mg c tb → FnG P w K mg base k fa fd [x] sp) (hbind : ∀ (s : Shared) (u : Value), BindsTo s fd ⟨[u], []⟩ [(x, u)])
    (hsp : ∀ H : Hp, H tb = some (.tbl #[]) → SqL K H a (ns.map V.int) → sp [.ref a] H (fun v _ => v = .bl true) E0) :
    codeAny (model P w) callerA (.call (.ref fa) ⟨[.ref a], []⟩) (fun r s' => r = .ok (.ret (.bool true)) ∧ OldK s1.heap s'.heap ∧ s'.os = s1.os ∧ AllBare s'.gens) s1 := by
  have rv := vals_ints hi
  have tabOk : ∀ H : Hp, ObjOk P w H s1.heap tb (.tbl #[]) := fun H => B.tab
  cases hk : K.lookup a with
  | some o =>
    have e := B.kx a o hk
    rw [B.scr] at e
    cases e
    have hT : (fun y => if y = tb then some (HO.tbl #[]) else none : Hp) tb = some (.tbl #[]) := if_pos rfl
    have hn : ∀ y, y ≠ tb → (fun y => if y = tb then some (HO.tbl #[]) else none : Hp) y = none := fun y hy => if_neg hy
    refine B.from_ hi hr F hbind (H := fun y => if y = tb then some (.tbl #[]) else none) hT (fun y => ?_) (fun y u z => ?_) (fun y z => ?_) (fun z => absurd (hn a B.ne) z) (hsp _ hT (.inr ⟨_, vals.toArray, _, hk, rfl, rfl, rfl, by rw [List.size_toArray, hi.length]; exact hl, by simpa using rv⟩))
    · by_cases hy : y = tb
      · exact .inr (.inl hy)
      · exact .inl (hn y hy)
    · by_cases hy : y = tb
      · subst hy
        rw [hT] at z
        cases z
        exact tabOk _
      · rw [hn y hy] at z
        cases z
    · exact .inr (Classical.byContradiction fun hy => z (hn y hy))
  | none =>
    have hT : (fun y => if y = tb then some (HO.tbl #[]) else if y = a then some (.frz { cls := .type "list", data := .seq vals.toArray } (.lst (ns.map V.int))) else none : Hp) tb = some (.tbl #[]) := if_pos rfl
    have hA : (fun y => if y = tb then some (HO.tbl #[]) else if y = a then some (.frz { cls := .type "list", data := .seq vals.toArray } (.lst (ns.map V.int))) else none : Hp) a = some (.frz { cls := .type "list", data := .seq vals.toArray } (.lst (ns.map V.int))) := (if_neg B.ne).trans (if_pos rfl)
    have hn : ∀ y, y ≠ tb → y ≠ a → (fun y => if y = tb then some (HO.tbl #[]) else if y = a then some (.frz { cls := .type "list", data := .seq vals.toArray } (.lst (ns.map V.int))) else none : Hp) y = none := fun y h1 h2 => (if_neg h1).trans (if_neg h2)
    refine B.from_ hi hr F hbind (H := fun y => if y = tb then some (HO.tbl #[]) else if y = a then some (.frz { cls := .type "list", data := .seq vals.toArray } (.lst (ns.map V.int))) else none) hT (fun y => ?_) (fun y u z => ?_) (fun y z => ?_) (fun _ => hk) (hsp _ hT (.inl (.inr ⟨_, hA⟩)))
    · by_cases h1 : y = tb
      · exact .inr (.inl h1)
      · by_cases h2 : y = a
        · exact .inr (.inr ⟨_, _, (congrArg (fun y => if y = tb then some (HO.tbl #[]) else if y = a then some (.frz { cls := .type "list", data := .seq vals.toArray } (.lst (ns.map V.int))) else none : Hp) h2).trans hA⟩)
        · exact .inl (hn y h1 h2)
    · by_cases h1 : y = tb
      · subst h1
        rw [hT] at z
        cases z
        exact tabOk _
      · by_cases h2 : y = a
        · subst h2
          rw [hA] at z
          cases z
          exact ⟨B.scr, by rw [List.length_map]; exact hl, vals, _, rv, B.scr⟩
        · rw [hn y h1 h2] at z
          cases z
    · by_cases h1 : y = tb
      · exact .inr h1
      · exact .inl (Classical.byContradiction fun h2 => z (hn y h1 h2))
end
/-- what is known of the law's promise at the head's heap -/
def LawG (l : PySem.W.OpenLaw) (w : World) (K : PySem.W.Frag) (k n : Nat) (x : Str) (mg : Str → Option Value) (fa : Addr) (h : Heap) : Prop :=
  ∃ (fd : FuncData) (c tb : Addr) (sp : Sp), h.get? tb = some emptyTab ∧ K.lookup tb = none ∧ PySem.W.CodeHd h c tb ∧ (∀ (s : Shared) (u : Value), BindsTo s fd ⟨[u], []⟩ [(x, u)]) ∧
    (∀ (H : Hp) (a : Addr) (ns : List Int), ns.length ≤ n → H tb = some (.tbl #[]) → SqL K H a (ns.map V.int) → sp [.ref a] H (fun v _ => v = .bl true) E0) ∧
    ∀ base : Heap, K.In base → base.Ns mainGlobals mg → TabB base mg c tb → FnG l.prog w K mg base k fa fd [x] sp
theorem walk_ofG {l : PySem.W.OpenLaw} {n k : Nat} {q : Program} {loose : List Str} {XP : (Str → Option Value) → Heap → Prop} {YP : World → Heap → Prop} {d : DefRec} {K : Params → PySem.W.Frag} {x : Str}
    (hn : l.most = some n) (hn2 : n ≤ sizeLine) (hdf : d.params.defaults = []) (hr : Room k callerA) (hY : ∀ (w : World) (h : Heap), YP w h → (K w.params).In h)
    (F : ∀ (w : World) (mg : Str → Option Value) (fa : Addr) (h : Heap), YP w h → (K w.params).In h → h.Ns mainGlobals mg → mg d.name = some (.ref fa) → LawG l w (K w.params) k n x mg fa h) :
    PySem.W.WalkO q loose XP YP l.row.toRowW d [] (fun f vs => PySem.call f vs) := by
  refine Att.attach_call hn hdf fun w s0 s1 mg mb fa o pm cd doc a vs ns G Y ho hd hcd hmg hobj hints hlen hg => ?_
  have KX := hY w _ Y
  obtain ⟨fd, c, tb, sp, hT, nT, C, hb, hsp, hF⟩ := F w mg fa _ Y KX G.T.g hmg
  exact law_callG ⟨KX, G.T.g, G.T.b, G.T.builtins, G.T.nolimit, hg, hT, nT, C, G.T.bmain, hobj⟩ hints (Nat.le_trans hlen hn2) hr hF hb fun H hH hS => hsp H a ns hlen hH hS
end PD
end ZPDStart
section ZK77a
set_option Elab.async false
set_option linter.all false
set_option maxRecDepth 100000
set_option maxHeartbeats 4000000
namespace K77
open PySem PySem.Spec L2 PyProof.Rows PD
def top (i : Nat) : Stmt := PySem.Challenge.pw_doorsleep_k77_learning_refused.main.body.getD i (.Pass ⟨0, 0, 0, 0⟩)
abbrev sM : Stmt := top 46
abbrev sS : Stmt := inClass (top 1) 0
def wsM : List (Nat × Str) := [(1, "many"), (2, "word")]
abbrev s0 : Stmt := top 5
def t0 : PD.X := (.cons (.rt (.and_ (.cons (.bif (.isi .int) (.cons (.var 0) .nil)) (.cons (.not_ (.bif (.isi .bool) (.cons (.var 0) .nil))) .nil))))
  .nil)
abbrev s1 : Stmt := top 6
def t1 : PD.X := (.cons (.rt (.and_ (.cons (.call 0 (.cons (.var 0) .nil)) (.cons (.cmp2 .le .le (.var 1) (.var 0) (.var 2)) .nil))))
  .nil)
abbrev s2 : Stmt := top 8
def t2 : PD.X := (.cons (.rt (.and_ (.cons (.bif (.isi .str) (.cons (.var 0) .nil)) (.cons (.cmp .in_ (.var 0) (.var 1)) .nil))))
  .nil)
abbrev s3 : Stmt := top 13
def t3 : PD.X := (.cons (.rt (.tup (.cons (.var 0) (.cons (.var 1) (.cons (.bif .tuple (.cons (.bif .sorted (.cons (.lc [3] (.tv 3) (.src (.var 2)) (.cmp .le (.var 3) (.var 1)) (.var 3)) .nil)) .nil)) .nil)))))
  .nil)
abbrev s4 : Stmt := top 14
def t4 : PD.X := (.cons (.rt (.call 3 (.cons (.var 0) (.cons (.var 1) (.cons (.bin .mul (.tup (.cons (.lit (.int 0)) .nil)) (.var 2)) .nil)))))
  .nil)
abbrev s5 : Stmt := top 15
def t5 : PD.X := (.cons (.rt (.cmp .eq (.idx (.var 0) (.lit (.int 0))) (.idx (.var 0) (.lit (.int 1)))))
  .nil)
abbrev s6 : Stmt := top 16
def t6 : PD.X := (.cons (.tgt (.tt (.cons (.tv 4) (.cons (.tv 5) (.cons (.tv 6) .nil)))) (.var 0))
  (.cons (.asg 7 (.own (.lc [8] (.tv 8) (.src (.var 6)) (.lit (.bl true)) (.bin .add (.var 8) (.var 1)))))
  (.cons (.popi 8 7 (.var 2))
  (.cons (.tgt (.tt (.cons (.tv 9) (.cons (.tv 10) .nil))) (.tup (.cons (.lit .non) (.cons (.lit .non) .nil))))
  (.cons (.if_ (.cmp .le (.var 8) (.var 5)) (.cons (.asg 9 (.pl (.call 3 (.cons (.bif .max (.cons (.var 4) (.cons (.var 8) .nil))) (.cons (.var 5) (.cons (.lst (.cons (.star (.src (.peek 7))) (.cons (.ite (.cmp .eq (.var 3) (.glob 1)) (.lit (.int 0)) (.var 8)) .nil))) .nil))))))
  .nil) .nil)
  (.cons (.if_ (.cmp .gt (.var 8) (.var 4)) (.cons (.freeze 7) (.cons (.asg 10 (.pl (.call 3 (.cons (.var 4) (.cons (.bif .min (.cons (.var 5) (.cons (.bin .sub (.var 8) (.lit (.int 1))) .nil))) (.cons (.var 7) .nil))))))
  .nil)) .nil)
  (.cons (.rt (.tup (.cons (.var 9) (.cons (.var 10) .nil))))
  .nil)))))))
abbrev s7 : Stmt := top 17
def t7 : PD.X := (.cons (.asg 1 (.own (.lst .nil)))
  (.cons (.for_ (.tv 2) (.rng (.cons (.bin .add (.glob 0) (.lit (.int 1))) .nil)) (.cons (.ext 1 (.lc [3] (.tv 3) (.rng (.cons (.bif .len (.cons (.idx (.var 0) (.lit (.int 2))) .nil)) .nil)) (.lit (.bl true)) (.tup (.cons (.var 2) (.cons (.var 3) .nil)))))
  .nil))
  (.cons (.freeze 1) (.cons (.rt (.var 1))
  .nil))))
abbrev s8 : Stmt := top 18
def t8 : PD.X := (.cons (.rt (.lc [3] (.tv 3) (.src (.call 6 (.cons (.var 0) (.cons (.idx (.var 1) (.lit (.int 0))) (.cons (.idx (.var 1) (.lit (.int 1))) (.cons (.var 2) .nil)))))) (.cmp .isnot (.var 3) (.lit .non)) (.var 3)))
  .nil)
abbrev s9 : Stmt := top 19
def t9 : PD.X := (.cons (.par 2 3 (.ownd (.cons (.var 0) .nil) (.cons (.lit (.bl true)) .nil)) (.own (.lst (.cons (.var 0) .nil))))
  (.cons (.while_ (.cmp .ne (.peek 3) (.lst .nil)) (.cons (.popo 4 3)
  (.cons (.for_ (.tv 5) (.src (.call 7 (.cons (.var 4) .nil))) (.cons (.for_ (.tv 6) (.src (.call 8 (.cons (.var 4) (.cons (.var 5) (.cons (.var 1) .nil))))) (.cons (.if_ (.and_ (.cons (.not_ (.call 5 (.cons (.var 6) .nil))) (.cons (.cmp .ne (.idx (.var 6) (.lit (.int 2))) (.tup .nil)) (.cons (.cmp .notin (.var 6) (.peek 2)) .nil)))) (.cons (.putd 2 (.var 6) (.lit (.bl true)))
  (.cons (.app 3 (.var 6))
  .nil)) .nil)
  .nil))
  .nil))
  .nil)))
  (.cons (.rt (.bif .list (.cons (.peek 2) .nil)))
  .nil)))
abbrev s10 : Stmt := inClass (top 20) 0
def t10 : PD.X := (.cons (.setF (.var 0) 0 (.var 2))
  (.cons (.setF (.var 0) 1 (.var 1))
  (.cons (.setF (.var 0) 2 .newd)
  (.cons (.setF (.var 0) 3 .newd)
  (.cons (.setF (.var 0) 4 (.ite (.call 5 (.cons (.var 1) .nil)) (.lst .nil) (.call 9 (.cons (.var 1) (.cons (.var 2) .nil)))))
  (.cons (.setF (.var 0) 5 (.lit (.int 0)))
  (.cons (.while_ (.and_ (.cons (.not_ (.call 5 (.cons (.var 1) .nil))) (.cons (.cmp .notin (.var 1) (.fld (.var 0) 2)) .nil))) (.cons (.ex (.cm 2 (.var 0) .nil))
  (.cons (.if_ (.cmp .notin (.var 1) (.fld (.var 0) 2)) (.cons (.augF (.var 0) 5 .add (.lit (.int 1)))
  .nil) .nil)
  .nil)))
  .nil)))))))
abbrev s11 : Stmt := inClass (top 20) 1
def t11 : PD.X := (.cons (.rt (.ite (.call 5 (.cons (.var 1) .nil)) (.lit (.int 0)) (.get (.fld (.var 0) 2) (.var 1))))
  .nil)
abbrev s12 : Stmt := inClass (top 20) 2
def t12 : PD.X := (.cons (.for_ (.tv 2) (.src (.call 7 (.cons (.var 1) .nil))) (.cons (.asg 3 (.pl (.lc [4] (.tv 4) (.src (.call 8 (.cons (.var 1) (.cons (.var 2) (.cons (.fld (.var 0) 0) .nil))))) (.lit (.bl true)) (.cm 0 (.var 0) (.cons (.var 4) .nil)))))
  (.cons (.if_ (.and_ (.cons (.cmp .notin (.lit .non) (.var 3)) (.cons (.cmp .le (.bin .add (.idx (.var 2) (.lit (.int 0))) (.bif .max (.cons (.var 3) .nil))) (.fld (.var 0) 5)) .nil))) (.cons (.rt (.var 2))
  .nil) .nil)
  .nil)))
  (.cons (.rt (.lit .non))
  .nil))
abbrev s13 : Stmt := inClass (top 20) 3
def t13 : PD.X := (.cons (.asg 1 (.pl (.neg (.lit (.int 1)))))
  (.cons (.while_ (.cmp .gt (.bif .len (.cons (.fld (.var 0) 2) .nil)) (.var 1)) (.cons (.asg 1 (.pl (.bif .len (.cons (.fld (.var 0) 2) .nil))))
  (.cons (.for_ (.tv 2) (.src (.fld (.var 0) 4)) (.cons (.asg 3 (.pl (.cm 1 (.var 0) (.cons (.var 2) .nil))))
  (.cons (.if_ (.cmp .isnot (.var 3) (.lit .non)) (.cons (.setI (.fld (.var 0) 2) (.var 2) (.fld (.var 0) 5))
  (.cons (.setI (.fld (.var 0) 3) (.var 2) (.var 3))
  .nil)) .nil)
  .nil)))
  (.cons (.setF (.var 0) 4 (.lc [2] (.tv 2) (.src (.fld (.var 0) 4)) (.cmp .notin (.var 2) (.fld (.var 0) 2)) (.var 2)))
  .nil))))
  .nil))
abbrev s14 : Stmt := inClass (top 20) 4
def t14 : PD.X := (.cons (.if_ (.cmp .is_ (.var 1) (.lit .non)) (.cons (.rt (.lit .non))
  .nil) .nil)
  (.cons (.if_ (.call 5 (.cons (.var 1) .nil)) (.cons (.rt (.tup (.cons (.lit (.str "known")) .nil)))
  .nil) .nil)
  (.cons (.tgt (.tt (.cons (.tv 2) (.cons (.tv 3) .nil))) (.idx (.fld (.var 0) 3) (.var 1)))
  (.cons (.tgt (.tt (.cons (.tv 4) (.cons (.tv 5) .nil))) (.call 6 (.cons (.var 1) (.cons (.var 2) (.cons (.var 3) (.cons (.fld (.var 0) 0) .nil))))))
  (.cons (.rt (.tup (.cons (.lit (.str "test")) (.cons (.var 2) (.cons (.var 3) (.cons (.cm 3 (.var 0) (.cons (.var 4) .nil)) (.cons (.cm 3 (.var 0) (.cons (.var 5) .nil)) .nil)))))))
  .nil)))))
abbrev s15 : Stmt := inClass (top 20) 5
def t15 : PD.X := (.cons (.if_ (.call 5 (.cons (.fld (.var 0) 1) .nil)) (.cons (.rt (.tup (.cons (.tup (.cons (.fld (.var 0) 1) (.cons (.lit (.int 0)) .nil))) .nil)))
  .nil) .nil)
  (.cons (.asg 1 (.pl (.lst (.cons (.star (.items (.fld (.var 0) 2))) (.cons (.star (.src (.lc [2] (.tv 2) (.src (.fld (.var 0) 4)) (.lit (.bl true)) (.tup (.cons (.var 2) (.cons (.fld (.var 0) 5) .nil)))))) .nil)))))
  (.cons (.rt (.bif .tuple (.cons (.bif .sortedRows (.cons (.var 1) .nil)) .nil)))
  .nil)))
abbrev s16 : Stmt := top 29
def t16 : PD.X := (.cons (.ifx (.not_ (.call 1 (.cons (.var 0) (.cons (.lit (.int 1)) (.cons (.glob 0) .nil))))) (.cons (.raise 1 (.var 0))
  .nil) .nil)
  (.cons (.ifx (.not_ (.call 1 (.cons (.var 1) (.cons (.var 0) (.cons (.glob 0) .nil))))) (.cons (.raise 1 (.var 1))
  .nil) .nil)
  (.cons (.ifx (.not_ (.call 1 (.cons (.var 2) (.cons (.lit (.int 1)) (.cons (.glob 2) .nil))))) (.cons (.raise 1 (.var 2))
  .nil) .nil)
  (.cons (.ifx (.not_ (.call 2 (.cons (.var 3) (.cons (.glob 3) .nil)))) (.cons (.raise 2 (.var 3))
  .nil) .nil)
  .nil))))
abbrev s17 : Stmt := top 30
def t17 : PD.X := (.cons (.xcall 16 (.cons (.var 0) (.cons (.var 1) (.cons (.var 2) (.cons (.var 3) .nil)))))
  (.cons (.q (.asg 4 (.pl (.call 4 (.cons (.var 0) (.cons (.var 1) (.cons (.var 2) .nil)))))))
  (.cons (.q (.asg 5 (.pl (.mk 0 (.cons (.var 4) (.cons (.var 3) .nil))))))
  (.cons (.q (.rt (.tup (.cons (.fld (.var 5) 5) (.cons (.cm 3 (.var 5) (.cons (.var 4) .nil)) (.cons (.cm 4 (.var 5) .nil) .nil))))))
  .nil))))
abbrev s18 : Stmt := top 40
def t18 : PD.X := (.cons (.asg 2 (.pl (.ite (.cmp .lt (.var 1) (.bif .len (.cons (.var 0) .nil))) (.idx (.var 0) (.var 1)) (.bin .add (.bin .mul (.lit (.int 37)) (.var 1)) (.lit (.int 19))))))
  (.cons (.asg 3 (.pl (.bin .mul (.bin .mod (.bif .int (.cons (.bif .abs (.cons (.var 2) .nil)) .nil)) (.bin .pow (.bin .pow (.lit (.int 10)) (.lit (.int 60))) (.lit (.int 5)))) (.bif .int (.cons (.cmp .ge (.bif .abs (.cons (.var 2) .nil)) (.bin .pow (.lit (.int 10)) (.lit (.int 18)))) .nil)))))
  (.cons (.rt (.new (.cons (.var 3) (.cons (.bin .mod (.bif .int (.cons (.bin .add (.bin .add (.bin .mul (.bin .mod (.bif .int (.cons (.var 2) .nil)) (.lit (.int 2305843009213693951))) (.lit (.int 73013))) (.bin .mul (.bin .mul (.lit (.int 8861)) (.var 1)) (.var 1))) (.lit (.int 47))) .nil)) (.lit (.int 2305843009213693921))) (.cons (.lit (.int 0)) .nil)))))
  .nil)))
abbrev s19 : Stmt := top 41
def t19 : PD.X := (.cons (.if_ (.cmp .gt (.idx (.var 0) (.lit (.int 0))) (.lit (.int 0))) (.cons (.asg 2 (.pl (.bin .mod (.bif .int (.cons (.idx (.var 0) (.lit (.int 0))) .nil)) (.var 1))))
  (.cons (.setI (.var 0) (.lit (.int 0)) (.bin .fdiv (.idx (.var 0) (.lit (.int 0))) (.var 1)))
  (.cons (.rt (.var 2))
  .nil))) .nil)
  (.cons (.setI (.var 0) (.lit (.int 2)) (.bin .add (.idx (.var 0) (.lit (.int 2))) (.lit (.int 1))))
  (.cons (.asg 3 (.pl (.idx (.lst (.cons (.lit (.int 2147483647)) (.cons (.lit (.int 2147483629)) (.cons (.lit (.int 2147483587)) (.cons (.lit (.int 2147483579)) (.cons (.lit (.int 2147483563)) .nil)))))) (.bin .mod (.bif .int (.cons (.idx (.var 0) (.lit (.int 2))) .nil)) (.lit (.int 5))))))
  (.cons (.asg 4 (.pl (.bin .mod (.bif .int (.cons (.bin .pow (.bin .add (.bin .add (.idx (.var 0) (.lit (.int 1))) (.bin .mul (.bin .mul (.lit (.int 99991)) (.idx (.var 0) (.lit (.int 2)))) (.idx (.var 0) (.lit (.int 2))))) (.lit (.int 71))) (.lit (.int 3))) .nil)) (.var 3))))
  (.cons (.asg 4 (.pl (.bin .mod (.bif .int (.cons (.bin .mul (.var 4) (.bin .add (.bin .mod (.bif .int (.cons (.var 4) .nil)) (.lit (.int 10009))) (.bin .mul (.lit (.int 97)) (.idx (.var 0) (.lit (.int 2)))))) .nil)) (.lit (.int 2305843009213693907)))))
  (.cons (.rt (.bin .mod (.bif .int (.cons (.bin .fdiv (.var 4) (.lit (.int 89))) .nil)) (.var 1)))
  .nil))))))
abbrev s20 : Stmt := top 42
def t20 : PD.X := (.cons (.rt (.idx (.var 1) (.call 19 (.cons (.var 0) (.cons (.bif .len (.cons (.var 1) .nil)) .nil)))))
  .nil)
abbrev s21 : Stmt := top 43
def t21 : PD.X := (.cons (.asg 1 (.pl (.call 20 (.cons (.var 0) (.cons (.lst (.cons (.lit .non) (.cons (.lit (.bl true)) (.cons (.lit (.bl false)) (.cons (.lit (.int 0)) (.cons (.neg (.lit (.int 1))) (.cons (.lit (.int 9)) (.cons (.bin .pow (.lit (.int 10)) (.lit (.int 17))) (.cons (.lit (.str "")) (.cons (.lit (.str "both")) (.cons (.lit (.str "Out")) (.cons (.tup .nil) (.cons (.lst .nil) (.cons .dct0 (.cons (.tup (.cons (.lit (.int 1)) .nil)) (.cons (.lit (.int 4)) (.cons (.lit (.int 1)) (.cons (.lit (.int 8)) (.cons (.lit (.str "out")) .nil))))))))))))))))))) .nil)))))
  (.cons (.for_ (.tv 2) (.rng (.cons (.call 20 (.cons (.var 0) (.cons (.lst (.cons (.lit (.int 0)) (.cons (.lit (.int 0)) (.cons (.lit (.int 0)) (.cons (.lit (.int 1)) (.cons (.lit (.int 4)) .nil)))))) .nil))) .nil)) (.cons (.asg 1 (.pl (.call 20 (.cons (.var 0) (.cons (.lst (.cons (.tup (.cons (.var 1) .nil)) (.cons (.lst (.cons (.var 1) .nil)) (.cons (.dct1 "a" (.var 1)) (.cons (.tup (.cons (.var 1) (.cons (.lit .non) .nil))) .nil))))) .nil)))))
  .nil))
  (.cons (.rt (.var 1))
  .nil)))
abbrev s22 : Stmt := top 44
def t22 : PD.X := (.cons (.rt (.and_ (.cons (.bif (.isi .int) (.cons (.var 0) .nil)) (.cons (.not_ (.bif (.isi .bool) (.cons (.var 0) .nil))) (.cons (.cmp2 .le .le (.var 1) (.var 0) (.var 2)) .nil)))))
  .nil)
abbrev s23 : Stmt := top 45
def t23 : PD.X := (.cons (.tgt (.tt (.cons (.tv 1) (.cons (.tv 2) (.cons (.tv 3) (.cons (.tv 4) .nil))))) (.var 0))
  (.cons (.if_ (.not_ (.call 22 (.cons (.var 1) (.cons (.lit (.int 1)) (.cons (.lit (.int 8)) .nil))))) (.cons (.rt (.tup (.cons (.lit (.str "many")) (.cons (.var 1) .nil))))
  .nil) .nil)
  (.cons (.if_ (.not_ (.call 22 (.cons (.var 2) (.cons (.var 1) (.cons (.lit (.int 8)) .nil))))) (.cons (.rt (.tup (.cons (.lit (.str "many")) (.cons (.var 2) .nil))))
  .nil) .nil)
  (.cons (.if_ (.not_ (.call 22 (.cons (.var 3) (.cons (.lit (.int 1)) (.cons (.lit (.int 3)) .nil))))) (.cons (.rt (.tup (.cons (.lit (.str "many")) (.cons (.var 3) .nil))))
  .nil) .nil)
  (.cons (.rt (.ite (.cmp .in_ (.bif .reprA (.cons (.var 4) .nil)) (.tup (.cons (.lit (.str "'both'")) (.cons (.lit (.str "'out'")) .nil)))) (.tup (.cons (.lit (.str "none")) (.cons (.lit .non) .nil))) (.tup (.cons (.lit (.str "word")) (.cons (.var 4) .nil)))))
  .nil)))))
abbrev s24 : Stmt := top 47
def t24 : PD.X := (.cons (.asg 1 (.pl (.bin .add (.lit (.int 1)) (.call 19 (.cons (.var 0) (.cons (.lit (.int 6)) .nil))))))
  (.cons (.asg 2 (.pl (.lst (.cons (.var 1) (.cons (.bin .add (.var 1) (.call 19 (.cons (.var 0) (.cons (.lit (.int 3)) .nil)))) (.cons (.bin .add (.lit (.int 1)) (.call 19 (.cons (.var 0) (.cons (.lit (.int 2)) .nil)))) (.cons (.call 20 (.cons (.var 0) (.cons (.lst (.cons (.lit (.str "both")) (.cons (.lit (.str "out")) .nil))) .nil))) .nil)))))))
  (.cons (.asg 3 (.own (.lst (.cons (.var 2) (.cons (.lst (.cons (.lit (.int 8)) (.cons (.lit (.int 8)) (.cons (.lit (.int 3)) (.cons (.lit (.str "out")) .nil))))) (.cons (.lst (.cons (.lit (.int 1)) (.cons (.lit (.int 1)) (.cons (.lit (.int 3)) (.cons (.lit (.str "both")) .nil))))) (.cons (.lst (.cons (.lit (.int 8)) (.cons (.lit (.int 7)) (.cons (.lit (.int 1)) (.cons (.lit (.str "both")) .nil))))) (.cons (.lst (.cons (.lit (.int 1)) (.cons (.lit (.int 9)) (.cons (.lit (.int 1)) (.cons (.lit (.str "both")) .nil))))) (.cons (.lst (.cons (.lit (.int 0)) (.cons (.lit (.int 1)) (.cons (.lit (.int 1)) (.cons (.lit (.str "out")) .nil))))) .nil)))))))))
  (.cons (.asg 3 (.own (.bin .add (.peek 3) (.lst (.cons (.lst (.cons (.lit (.int 1)) (.cons (.lit (.int 2)) (.cons (.lit (.int 4)) (.cons (.lit (.str "out")) .nil))))) (.cons (.lst (.cons (.lit (.int 1)) (.cons (.lit (.int 2)) (.cons (.lit (.int 0)) (.cons (.lit (.str "out")) .nil))))) (.cons (.lst (.cons (.lit (.int 2)) (.cons (.lit (.int 1)) (.cons (.lit (.int 0)) (.cons (.lit (.str "on")) .nil))))) (.cons (.lst (.cons (.lit (.bl true)) (.cons (.lit (.int 2)) (.cons (.lit (.int 1)) (.cons (.lit (.str "both")) .nil))))) (.cons (.lst (.cons (.lit (.int 1)) (.cons (.lit (.bl true)) (.cons (.lit (.int 1)) (.cons (.lit (.str "both")) .nil))))) .nil)))))))))
  (.cons (.asg 3 (.own (.bin .add (.peek 3) (.lst (.cons (.lst (.cons (.lit (.int 1)) (.cons (.lit (.int 2)) (.cons (.lit (.bl true)) (.cons (.lit (.str "both")) .nil))))) (.cons (.lst (.cons (.lit (.int 1)) (.cons (.lit (.int 2)) (.cons (.lit (.int 1)) (.cons (.lit .non) .nil))))) (.cons (.lst (.cons (.lit (.int 1)) (.cons (.lit (.int 2)) (.cons (.lit (.int 1)) (.cons (.tup (.cons (.lit (.str "both")) .nil)) .nil))))) (.cons (.lst (.cons (.lit (.int 1)) (.cons (.lit (.int 2)) (.cons (.lit (.int 1)) (.cons (.lit (.str "")) .nil))))) (.cons (.lst (.cons (.lit (.int 9)) (.cons (.lit (.int 9)) (.cons (.lit (.int 1)) (.cons (.lit (.str "both")) .nil))))) .nil)))))))))
  (.cons (.for_ (.tv 4) (.rng (.cons (.lit (.int 24)) .nil)) (.cons (.asg 5 (.own (.bif .list (.cons (.var 2) .nil))))
  (.cons (.for_ (.tv 6) (.rng (.cons (.bin .add (.lit (.int 1)) (.call 19 (.cons (.var 0) (.cons (.lit (.int 2)) .nil)))) .nil)) (.cons (.puti 5 (.call 19 (.cons (.var 0) (.cons (.lit (.int 4)) .nil))) (.call 21 (.cons (.var 0) .nil)))
  .nil))
  (.cons (.if_ (.not_ (.and_ (.cons (.call 22 (.cons (.idx (.peek 5) (.lit (.int 0))) (.cons (.lit (.int 1)) (.cons (.lit (.int 8)) .nil)))) (.cons (.call 22 (.cons (.idx (.peek 5) (.lit (.int 1))) (.cons (.bin .add (.idx (.peek 5) (.lit (.int 0))) (.lit (.int 4))) (.cons (.lit (.int 8)) .nil)))) .nil)))) (.cons (.freeze 5) (.cons (.app 3 (.var 5))
  .nil)) .nil)
  .nil))))
  (.cons (.freeze 3) (.cons (.for_ (.tt (.cons (.tv 1) (.cons (.tv 7) (.cons (.tv 8) (.cons (.tv 9) .nil))))) (.src (.var 3)) (.cons (.par 10 11 (.pl (.bif .reprA (.cons (.tup (.cons (.var 1) (.cons (.var 7) (.cons (.var 8) (.cons (.var 9) .nil))))) .nil))) (.pl (.bif .reprA (.cons (.call 23 (.cons (.tup (.cons (.var 1) (.cons (.var 7) (.cons (.var 8) (.cons (.var 9) .nil))))) .nil)) .nil))))
  (.cons (.if_ (.cmp .ne (.bif .reprA (.cons (.call 28 (.cons (.var 1) (.cons (.var 7) (.cons (.var 8) (.cons (.var 9) .nil))))) .nil)) (.var 11)) (.cons (.rt (.lit (.bl false)))
  .nil) .nil)
  (.cons (.if_ (.cmp .ne (.bif .reprA (.cons (.call 29 (.cons (.var 1) (.cons (.var 7) (.cons (.var 8) (.cons (.var 9) (.cons (.var 0) .nil)))))) .nil)) (.var 11)) (.cons (.rt (.lit (.bl false)))
  .nil) .nil)
  (.cons (.if_ (.cmp .ne (.bif .reprA (.cons (.tup (.cons (.var 1) (.cons (.var 7) (.cons (.var 8) (.cons (.var 9) .nil))))) .nil)) (.var 10)) (.cons (.rt (.lit (.bl false)))
  .nil) .nil)
  .nil)))))
  (.cons (.rt (.lit (.bl true)))
  .nil)))))))))
abbrev s25 : Stmt := top 48
def t25 : PD.X := (.cons (.for_ (.tv 1) (.rng (.cons (.bif .max (.cons (.lit (.int 1)) (.cons (.bif .min (.cons (.lit (.int 3)) (.cons (.bif .len (.cons (.var 0) .nil)) .nil))) .nil))) .nil)) (.cons (.asg 2 (.pl (.call 18 (.cons (.var 0) (.cons (.var 1) .nil)))))
  (.cons (.if_ (.not_ (.bif .all (.cons (.lc [3] (.tv 3) (.rng (.cons (.lit (.int 2)) .nil)) (.lit (.bl true)) (.call 24 (.cons (.var 2) .nil))) .nil))) (.cons (.rt (.lit (.bl false)))
  .nil) .nil)
  .nil)))
  (.cons (.rt (.lit (.bl true)))
  .nil))
abbrev s26 : Stmt := top 7
def t26 : PD.X := (.cons (.rt (.and_ (.cons (.bif (.isi .tuple) (.cons (.var 0) .nil)) (.cons (.cmp2 .le .le (.var 1) (.bif .len (.cons (.var 0) .nil)) (.var 2)) .nil))))
  .nil)
abbrev s27 : Stmt := top 38
def t27 : PD.X := (.cons (.xcall 16 (.cons (.var 0) (.cons (.var 1) (.cons (.var 2) (.cons (.var 3) .nil)))))
  (.cons (.q (.if_ (.or_ (.cons (.not_ (.call 26 (.cons (.var 4) (.cons (.glob 4) (.cons (.glob 4) .nil))))) (.cons (.not_ (.call 0 (.cons (.idx (.var 4) (.lit (.int 0))) .nil))) .nil))) (.cons (.rt (.lit (.bl false)))
  .nil) .nil))
  (.cons (.q (.tgt (.tt (.cons (.tv 5) (.cons (.tv 6) (.cons (.tv 7) .nil)))) (.var 4)))
  (.cons (.q .never)
  (.cons (.q .never)
  .nil)))))
def tv0 : PD.X := .cons (.rt (.met 17 wsM (.cons (.var 0) (.cons (.var 1) (.cons (.var 2) (.cons (.var 3) .nil)))))) .nil
def tv1 : PD.X := .cons (.rt (.met 27 wsM (.cons (.var 0) (.cons (.var 1) (.cons (.var 2) (.cons (.var 3) (.cons (.call 21 (.cons (.var 4) .nil)) .nil))))))) .nil
def fns : List FD := [⟨1, 1, t0⟩, ⟨3, 3, t1⟩, ⟨2, 2, t2⟩, ⟨3, 4, t3⟩, ⟨3, 3, t4⟩, ⟨1, 1, t5⟩, ⟨4, 11, t6⟩, ⟨1, 4, t7⟩, ⟨3, 4, t8⟩, ⟨2, 7, t9⟩, ⟨3, 3, t10⟩, ⟨2, 2, t11⟩, ⟨2, 5, t12⟩, ⟨1, 4, t13⟩, ⟨2, 6, t14⟩, ⟨1, 3, t15⟩, ⟨4, 4, t16⟩, ⟨4, 6, t17⟩, ⟨2, 4, t18⟩, ⟨2, 5, t19⟩, ⟨2, 2, t20⟩, ⟨1, 3, t21⟩, ⟨3, 3, t22⟩, ⟨1, 5, t23⟩, ⟨1, 12, t24⟩, ⟨1, 4, t25⟩, ⟨3, 3, t26⟩, ⟨5, 9, t27⟩, ⟨4, 4, tv0⟩, ⟨5, 5, tv1⟩]
def mthF : Nat → Nat → Option Nat
  | 0, 0 => some 11
  | 0, 1 => some 12
  | 0, 2 => some 13
  | 0, 3 => some 14
  | 0, 4 => some 15
  | _, _ => none
def iniF : Nat → Option Nat
  | 0 => some 10
  | _ => none
def glbF : Nat → Option D
  | 0 => some (.int 8)
  | 1 => some (.str "both")
  | 2 => some (.int 3)
  | 3 => some (.tup [(.str "both"), (.str "out")])
  | 4 => some (.int 3)
  | _ => none
def hfF : Nat → Nat → Bool
  | 0, 0 => true
  | 0, 1 => true
  | 0, 2 => true
  | 0, 3 => true
  | 0, 4 => true
  | 0, 5 => true
  | _, _ => false
def nmF : Nat → Str
  | 0 => "own_counting"
  | 1 => "begun_state"
  | 2 => "times"
  | 3 => "tests"
  | 4 => "left"
  | 5 => "found_time"
  | _ => ""
def pg : Prog := ⟨fun i => fns.getD i ⟨0, 0, .nil⟩, mthF, iniF, glbF, hfF, 100000⟩
theorem mth0 : ∀ c' f', pg.mth c' 0 = some f' → c' = 0 ∧ f' = 11 := fun c' f' h => by
  have h' : mthF c' 0 = some f' := h
  unfold mthF at h'
  split at h' <;> first | (cases h'; exact ⟨rfl, rfl⟩) | (cases h'; omega) | (simp_all; omega) | simp_all
theorem mth1 : ∀ c' f', pg.mth c' 1 = some f' → c' = 0 ∧ f' = 12 := fun c' f' h => by
  have h' : mthF c' 1 = some f' := h
  unfold mthF at h'
  split at h' <;> first | (cases h'; exact ⟨rfl, rfl⟩) | (cases h'; omega) | (simp_all; omega) | simp_all
theorem mth2 : ∀ c' f', pg.mth c' 2 = some f' → c' = 0 ∧ f' = 13 := fun c' f' h => by
  have h' : mthF c' 2 = some f' := h
  unfold mthF at h'
  split at h' <;> first | (cases h'; exact ⟨rfl, rfl⟩) | (cases h'; omega) | (simp_all; omega) | simp_all
theorem mth3 : ∀ c' f', pg.mth c' 3 = some f' → c' = 0 ∧ f' = 14 := fun c' f' h => by
  have h' : mthF c' 3 = some f' := h
  unfold mthF at h'
  split at h' <;> first | (cases h'; exact ⟨rfl, rfl⟩) | (cases h'; omega) | (simp_all; omega) | simp_all
theorem mth4 : ∀ c' f', pg.mth c' 4 = some f' → c' = 0 ∧ f' = 15 := fun c' f' h => by
  have h' : mthF c' 4 = some f' := h
  unfold mthF at h'
  split at h' <;> first | (cases h'; exact ⟨rfl, rfl⟩) | (cases h'; omega) | (simp_all; omega) | simp_all
theorem aug_add : ∀ (i : Int) (y r : D), binD .add (.int i) y = some r → ∃ j, y = .int j ∧ r = .int (i + j) := fun i y r h => by
  cases y <;> simp only [binD, Option.some.injEq, reduceCtorEq] at h
  exact ⟨_, rfl, h.symm⟩
structure Txt (T : Tb) (a : Nat → Addr) : Prop where
  tab : TabOk T
  b_abs : T.mg "abs" = none
  b_all : T.mg "all" = none
  b_bool : T.mg "bool" = none
  b_int : T.mg "int" = none
  b_isinstance : T.mg "isinstance" = none
  b_len : T.mg "len" = none
  b_list : T.mg "list" = none
  b_max : T.mg "max" = none
  b_min : T.mg "min" = none
  b_range : T.mg "range" = none
  b_repr : T.mg "repr" = none
  b_sorted : T.mg "sorted" = none
  b_str : T.mg "str" = none
  b_tuple : T.mg "tuple" = none
  f0 : T.mg "is_integer" = some (.ref (a 0))
  f1 : T.mg "is_between" = some (.ref (a 1))
  f2 : T.mg "is_word" = some (.ref (a 2))
  f3 : T.mg "state_of" = some (.ref (a 3))
  f4 : T.mg "first_state" = some (.ref (a 4))
  f5 : T.mg "is_known" = some (.ref (a 5))
  f6 : T.mg "behind" = some (.ref (a 6))
  f7 : T.mg "tests_of" = some (.ref (a 7))
  f8 : T.mg "states_behind" = some (.ref (a 8))
  f9 : T.mg "all_states" = some (.ref (a 9))
  f16 : T.mg "check_asked" = some (.ref (a 16))
  f17 : T.mg "learned" = some (.ref (a 17))
  f18 : T.mg "_law_jar" = some (.ref (a 18))
  f19 : T.mg "_law_take" = some (.ref (a 19))
  f20 : T.mg "_law_of" = some (.ref (a 20))
  f21 : T.mg "_law_odd" = some (.ref (a 21))
  f22 : T.mg "_law_is_number" = some (.ref (a 22))
  f23 : T.mg "_law_due" = some (.ref (a 23))
  f24 : T.mg "_law_right" = some (.ref (a 24))
  f25 : T.mg "law" = some (.ref (a 25))
  f26 : T.mg "is_tuple" = some (.ref (a 26))
  f27 : T.mg "shows_learned" = some (.ref (a 27))
  c0 : T.mg "Learner" = some (.ref (T.ca 0))
  cls0 : Cls T.K (T.ca 0)
  mk0 : Mk T.K (T.ca 0) (a 10)
  m0 : Meth T.K (T.ca 0) "time_of" (a 11)
  m1 : Meth T.K (T.ca 0) "good_test" (a 12)
  m2 : Meth T.K (T.ca 0) "settle" (a 13)
  m3 : Meth T.K (T.ca 0) "plan" (a 14)
  m4 : Meth T.K (T.ca 0) "table" (a 15)
  b_super : T.mg "super" = none
  b_ValueError : T.mg "ValueError" = none
  sup : SupI T.K T.P (a 31) (T.ca 3) sS "DoorError.__init__" "value" erF
  tI : PySem.W.typeIn T.K (.ref (a 31)) = some (.type "function")
  fM : T.mg "_law_met" = some (.ref (a 30))
  tqE : T.tq = "_law_right.<locals>.<lambda>"
  x1 : T.mg "BadMany" = some (.ref (T.ca 1))
  y1 : SupC T.K (T.ca 1) (T.ca 3) erF
  i1 : PySem.W.findIn T.K (.ref (T.ca 1)) "__init__" = some (some (.ref (a 31)))
  m_1 : MetK T.K (T.ca 3) (T.ca 1) (T.ca 2) (T.ca 1) "many"
  x2 : T.mg "BadWord" = some (.ref (T.ca 2))
  y2 : SupC T.K (T.ca 2) (T.ca 3) erF
  i2 : PySem.W.findIn T.K (.ref (T.ca 2)) "__init__" = some (some (.ref (a 31)))
  m_2 : MetK T.K (T.ca 3) (T.ca 1) (T.ca 2) (T.ca 2) "word"
  x3 : T.mg "DoorError" = some (.ref (T.ca 3))
  g0 : ∃ tk, T.mg "MOST_WAIT" = some (.int 8 tk)
  g1 : ∃ tk, T.mg "BOTH" = some (.str "both" tk)
  g2 : ∃ tk, T.mg "MOST_DOORS" = some (.int 3 tk)
  g3 : ∃ (ad : Addr) (dd : Option Addr) (sl : Array (Option Value)) (n : Nat) (t0 t1 : Tok), T.mg "COUNTINGS" = some (.ref ad) ∧ T.K.lookup ad = some ⟨.type "tuple", dd, .seq [Value.str "both" t0, Value.str "out" t1].toArray n, sl⟩
  g4 : ∃ tk, T.mg "TRIPLE" = some (.int 3 tk)
structure All (T : Tb) (base : Heap) (a : Nat → Addr) (n : Nat) : Prop where
  d0 : DefI T base pg n (a 0) 0 ["value"]
  d1 : DefI T base pg n (a 1) 1 ["value", "low", "high"]
  d2 : DefI T base pg n (a 2) 2 ["value", "words"]
  d3 : DefI T base pg n (a 3) 3 ["least", "most", "ages"]
  d4 : DefI T base pg n (a 4) 4 ["least", "most", "doors"]
  d5 : DefI T base pg n (a 5) 5 ["state"]
  d6 : DefI T base pg n (a 6) 6 ["state", "many", "door", "counting"]
  d7 : DefI T base pg n (a 7) 7 ["state"]
  d8 : DefI T base pg n (a 8) 8 ["state", "test", "counting"]
  d9 : DefI T base pg n (a 9) 9 ["begun", "counting"]
  d10 : DefI T base pg n (a 10) 10 ["self", "begun", "counting"]
  d11 : DefI T base pg n (a 11) 11 ["self", "state"]
  d12 : DefI T base pg n (a 12) 12 ["self", "state"]
  d13 : DefI T base pg n (a 13) 13 ["self"]
  d14 : DefI T base pg n (a 14) 14 ["self", "state"]
  d15 : DefI T base pg n (a 15) 15 ["self"]
  d16 : DefX T base pg n (a 16) 16 ["least", "most", "doors", "counting"]
  d17 : DefX T base pg n (a 17) 17 ["least", "most", "doors", "counting"]
  d18 : DefI T base pg n (a 18) 18 ["script", "k"]
  d19 : DefI T base pg n (a 19) 19 ["jar", "many"]
  d20 : DefI T base pg n (a 20) 20 ["jar", "some"]
  d21 : DefI T base pg n (a 21) 21 ["jar"]
  d22 : DefI T base pg n (a 22) 22 ["thing", "low", "high"]
  d23 : DefG T base pg n (a 23) 23 ["some"]
  d24 : DefG T base pg n (a 24) 24 ["jar"]
  d25 : DefG T base pg n (a 25) 25 ["script"]
  d26 : DefI T base pg n (a 26) 26 ["value", "low", "high"]
  d27 : DefX T base pg n (a 27) 27 ["least", "most", "doors", "counting", "value"]
theorem glob3 {T : Tb} {a : Nat → Addr} {X : Cx} {cf : Calls} {pos : Pos} (t : Txt T a) (hg : Gl X "COUNTINGS") (hmg : X.mg = T.mg := by rfl) : PX X T pg cf (.Name "COUNTINGS" pos) (.glob 3) false false := by
  obtain ⟨ad, dd, sl, n, t0, t1, h1, h2⟩ := t.g3
  exact xe_globT (hmg ▸ h1) h2 (ScVs.cons (.str _ _) (ScVs.cons (.str _ _) ScVs.nil)) rfl (by show 2 ≤ 1000; decide) hg (by decide)
theorem scM : FnScope ["query", "caught", "error", "marks"] ["query"] (defScope sM) := ⟨rfl, rfl, rfl, by decide +kernel, rfl, by decide +kernel, by decide +kernel⟩
theorem metG {T : Tb} {a : Nat → Addr} (t : Txt T a) (X : Cx) {x q : Str} {g : Addr} {cdg : Value} (hmg : X.mg = T.mg) (hK : X.K = T.K) : LamX.GivesTo X ["query", "caught", "error", "marks"] x (defScope sM) g cdg (defBody sM) "query" q (TTmet X.K (T.ca 3) (T.ca 1) (T.ca 2)) :=
  met_gives (sg := defScope sM) ⟨rfl, rfl, rfl, rfl, rfl, rfl, rfl, rfl, rfl, hmg ▸ t.x3, hmg ▸ t.x1, hmg ▸ t.x2, hmg ▸ t.b_ValueError, hmg ▸ t.b_isinstance⟩ rfl
theorem hMet {T : Tb} {a : Nat → Addr} (t : Txt T a) : ∀ cx wd, wsM.lookup cx = some wd → MetK T.K (T.ca 3) (T.ca 1) (T.ca 2) (T.ca cx) wd := fun cx wd h => by
  by_cases h1 : cx = 1
  · subst h1
    cases h
    exact t.m_1
  · by_cases h2 : cx = 2
    · subst h2
      cases h
      exact t.m_2
    · have e1 : (cx == 1) = false := by simpa using h1
      have e2 : (cx == 2) = false := by simpa using h2
      simp only [wsM, List.lookup, e1, e2] at h
      exact nomatch h
section
variable {T : Tb} {base : Heap} {a : Nat → Addr} {n : Nat}
theorem sc0 : FnScope ["value"] ["value"] (defScope s0) := ⟨rfl, rfl, rfl, by decide +kernel, rfl, by decide +kernel, by decide +kernel⟩
theorem body0 (t : Txt T a) (hP : T.hf = hfF) (hN : T.nm = nmF) (D : All T base a n) (cdv : Value) (A : Around) (outer : List PySem.Env) (s : Shared) (H : Hp) (E : XK) (hr : Room (2 * n + 1) (A.deeper (envOfC "is_integer" (defScope s0) s.heap.objs.size (a 0) cdv))) :
    PXB (bX T base ["value"] "is_integer" s0 (a 0) cdv A outer s H E) T pg (callN pg n) (defBody s0) t0 := by
  have hX : XT T (bX T base ["value"] "is_integer" s0 (a 0) cdv A outer s H E) := xt_of hr
  have S := sc0
  obtain ⟨P0, w0, K0, mg0, ca0, nm0, hf0, tb0, tq0⟩ := T
  cases hP
  cases hN
  exact (xb_cons (xs_rt (xe_and (xe_andC (xe_isi (t := .int) hX rfl t.b_isinstance rfl t.b_int (by decide +kernel) (by decide) (by decide) (xe_var 0) rfl rfl rfl) (xe_andL (xe_not (xe_isi (t := .bool) hX rfl t.b_isinstance rfl t.b_bool (by decide +kernel) (by decide) (by decide) (xe_var 0) rfl rfl rfl))))))
  xb_nil)
theorem sc1 : FnScope ["value", "low", "high"] ["value", "low", "high"] (defScope s1) := ⟨rfl, rfl, rfl, by decide +kernel, rfl, by decide +kernel, by decide +kernel⟩
theorem body1 (t : Txt T a) (hP : T.hf = hfF) (hN : T.nm = nmF) (D : All T base a n) (cdv : Value) (A : Around) (outer : List PySem.Env) (s : Shared) (H : Hp) (E : XK) (hr : Room (2 * n + 1) (A.deeper (envOfC "is_between" (defScope s1) s.heap.objs.size (a 1) cdv))) :
    PXB (bX T base ["value", "low", "high"] "is_between" s1 (a 1) cdv A outer s H E) T pg (callN pg n) (defBody s1) t1 := by
  have hX : XT T (bX T base ["value", "low", "high"] "is_between" s1 (a 1) cdv A outer s H E) := xt_of hr
  have S := sc1
  obtain ⟨P0, w0, K0, mg0, ca0, nm0, hf0, tb0, tq0⟩ := T
  cases hP
  cases hN
  exact (xb_cons (xs_rt (xe_and (xe_andC (xe_call (D.d0.call hr) (fun _ _ _ _ z => callN_len (pg := pg) z) rfl t.f0 (xa_cons (fun _ z => nomatch z) (xe_var 0) xa_nil rfl) (by decide) rfl rfl) (xe_andL (xe_cmp2 (c_le) (c_le) (xe_var 1) (xe_var 0) (xe_var 2) (by with_unfolding_all rfl))))))
  xb_nil)
theorem sc2 : FnScope ["value", "words"] ["value", "words"] (defScope s2) := ⟨rfl, rfl, rfl, by decide +kernel, rfl, by decide +kernel, by decide +kernel⟩
theorem body2 (t : Txt T a) (hP : T.hf = hfF) (hN : T.nm = nmF) (D : All T base a n) (cdv : Value) (A : Around) (outer : List PySem.Env) (s : Shared) (H : Hp) (E : XK) (hr : Room (2 * n + 1) (A.deeper (envOfC "is_word" (defScope s2) s.heap.objs.size (a 2) cdv))) :
    PXB (bX T base ["value", "words"] "is_word" s2 (a 2) cdv A outer s H E) T pg (callN pg n) (defBody s2) t2 := by
  have hX : XT T (bX T base ["value", "words"] "is_word" s2 (a 2) cdv A outer s H E) := xt_of hr
  have S := sc2
  obtain ⟨P0, w0, K0, mg0, ca0, nm0, hf0, tb0, tq0⟩ := T
  cases hP
  cases hN
  exact (xb_cons (xs_rt (xe_and (xe_andC (xe_isi (t := .str) hX rfl t.b_isinstance rfl t.b_str (by decide +kernel) (by decide) (by decide) (xe_var 0) rfl rfl rfl) (xe_andL (xe_cmp (c_in hX) (xe_var 0) (xe_var 1) (by with_unfolding_all rfl))))))
  xb_nil)
theorem sc3 : FnScope ["least", "most", "ages", "age"] ["least", "most", "ages"] (defScope s3) := ⟨rfl, rfl, rfl, by decide +kernel, rfl, by decide +kernel, by decide +kernel⟩
theorem body3 (t : Txt T a) (hP : T.hf = hfF) (hN : T.nm = nmF) (D : All T base a n) (cdv : Value) (A : Around) (outer : List PySem.Env) (s : Shared) (H : Hp) (E : XK) (hr : Room (2 * n + 1) (A.deeper (envOfC "state_of" (defScope s3) s.heap.objs.size (a 3) cdv))) :
    PXB (bX T base ["least", "most", "ages", "age"] "state_of" s3 (a 3) cdv A outer s H E) T pg (callN pg n) (defBody s3) t3 := by
  have hX : XT T (bX T base ["least", "most", "ages", "age"] "state_of" s3 (a 3) cdv A outer s H E) := xt_of hr
  have S := sc3
  obtain ⟨P0, w0, K0, mg0, ca0, nm0, hf0, tb0, tq0⟩ := T
  cases hP
  cases hN
  exact (xb_cons (xs_rt (xe_tup (xa_cons (fun _ z => nomatch z) (xe_var 0) (xa_cons (fun _ z => nomatch z) (xe_var 1) (xa_cons (fun _ z => nomatch z) (xe_bity (b_tuple hX) rfl t.b_tuple (by decide +kernel) (xv_cons (xe_bif (b_sorted) rfl t.b_sorted (by decide +kernel) (xv_cons (xe_lc (own := [("age", 3)]) hX S.nd (xi_src hX (xe_var 2)) (blkOk_by (N := ["least", "most", "ages", "age"]) (sc := defScope s3) (by decide +kernel)) rfl (fun _ _ _ _ _ => (xg_name (i := 3) S.nd rfl (by first | exact Or.inl rfl | exact Or.inr rfl) (by first | exact Or.inl rfl | exact Or.inr rfl))) (fun _ _ _ _ _ => (xts_one (xt_cmp (c_le) (xe_var 3) (xe_var 1) (nomark _)))) (fun _ _ _ _ _ => (xe_var 3))) xv_nil rfl) (by decide) (by decide) rfl rfl) xv_nil rfl) (by decide) (by decide) rfl rfl) xa_nil rfl) rfl) rfl)))
  xb_nil)
theorem sc4 : FnScope ["least", "most", "doors"] ["least", "most", "doors"] (defScope s4) := ⟨rfl, rfl, rfl, by decide +kernel, rfl, by decide +kernel, by decide +kernel⟩
theorem body4 (t : Txt T a) (hP : T.hf = hfF) (hN : T.nm = nmF) (D : All T base a n) (cdv : Value) (A : Around) (outer : List PySem.Env) (s : Shared) (H : Hp) (E : XK) (hr : Room (2 * n + 1) (A.deeper (envOfC "first_state" (defScope s4) s.heap.objs.size (a 4) cdv))) :
    PXB (bX T base ["least", "most", "doors"] "first_state" s4 (a 4) cdv A outer s H E) T pg (callN pg n) (defBody s4) t4 := by
  have hX : XT T (bX T base ["least", "most", "doors"] "first_state" s4 (a 4) cdv A outer s H E) := xt_of hr
  have S := sc4
  obtain ⟨P0, w0, K0, mg0, ca0, nm0, hf0, tb0, tq0⟩ := T
  cases hP
  cases hN
  exact (xb_cons (xs_rt (xe_call (D.d3.call hr) (fun _ _ _ _ z => callN_len (pg := pg) z) rfl t.f3 (xa_cons (fun _ z => nomatch z) (xe_var 0) (xa_cons (fun _ z => nomatch z) (xe_var 1) (xa_cons (fun _ z => nomatch z) (xe_bin (o_mul hX.K) (xe_tup (xa_cons (fun _ z => nomatch z) xe_lit xa_nil rfl)) (xe_var 2)) xa_nil rfl) rfl) rfl) (by decide) rfl rfl))
  xb_nil)
theorem sc5 : FnScope ["state"] ["state"] (defScope s5) := ⟨rfl, rfl, rfl, by decide +kernel, rfl, by decide +kernel, by decide +kernel⟩
theorem body5 (t : Txt T a) (hP : T.hf = hfF) (hN : T.nm = nmF) (D : All T base a n) (cdv : Value) (A : Around) (outer : List PySem.Env) (s : Shared) (H : Hp) (E : XK) (hr : Room (2 * n + 1) (A.deeper (envOfC "is_known" (defScope s5) s.heap.objs.size (a 5) cdv))) :
    PXB (bX T base ["state"] "is_known" s5 (a 5) cdv A outer s H E) T pg (callN pg n) (defBody s5) t5 := by
  have hX : XT T (bX T base ["state"] "is_known" s5 (a 5) cdv A outer s H E) := xt_of hr
  have S := sc5
  obtain ⟨P0, w0, K0, mg0, ca0, nm0, hf0, tb0, tq0⟩ := T
  cases hP
  cases hN
  exact (xb_cons (xs_rt (xe_cmp (c_eq hX.K hX.u64) (xe_idx hX (xe_var 0) xe_lit (fun _ _ => rfl)) (xe_idx hX (xe_var 0) xe_lit (fun _ _ => rfl)) (nomark _)))
  xb_nil)
theorem sc6 : FnScope ["state", "many", "door", "counting", "least", "most", "ages", "grown", "age", "came", "lost"] ["state", "many", "door", "counting"] (defScope s6) := ⟨rfl, rfl, rfl, by decide +kernel, rfl, by decide +kernel, by decide +kernel⟩
theorem body6 (t : Txt T a) (hP : T.hf = hfF) (hN : T.nm = nmF) (D : All T base a n) (cdv : Value) (A : Around) (outer : List PySem.Env) (s : Shared) (H : Hp) (E : XK) (hr : Room (2 * n + 1) (A.deeper (envOfC "behind" (defScope s6) s.heap.objs.size (a 6) cdv))) :
    PXB (bX T base ["state", "many", "door", "counting", "least", "most", "ages", "grown", "age", "came", "lost"] "behind" s6 (a 6) cdv A outer s H E) T pg (callN pg n) (defBody s6) t6 := by
  have hX : XT T (bX T base ["state", "many", "door", "counting", "least", "most", "ages", "grown", "age", "came", "lost"] "behind" s6 (a 6) cdv A outer s H E) := xt_of hr
  have S := sc6
  obtain ⟨P0, w0, K0, mg0, ca0, nm0, hf0, tb0, tq0⟩ := T
  cases hP
  cases hN
  exact (xb_cons (xs_tgt (xe_var 0) (xg_tup hX (xg_cons (xg_name (i := 4) S.nd rfl (by first | exact Or.inl rfl | exact Or.inr rfl) (by first | exact Or.inl rfl | exact Or.inr rfl)) (xg_cons (xg_name (i := 5) S.nd rfl (by first | exact Or.inl rfl | exact Or.inr rfl) (by first | exact Or.inl rfl | exact Or.inr rfl)) (xg_cons (xg_name (i := 6) S.nd rfl (by first | exact Or.inl rfl | exact Or.inr rfl) (by first | exact Or.inl rfl | exact Or.inr rfl)) xg_nil rfl) rfl) rfl) rfl rfl) rfl rfl rfl)
  (xb_cons (xs_setLcO (own := [("age", 8)]) hX S.nd (i := 7) rfl rfl (sw_true rfl rfl rfl (by decide +kernel)) (xi_src hX (xe_var 6)) (blkOk_by (N := ["state", "many", "door", "counting", "least", "most", "ages", "grown", "age", "came", "lost"]) (sc := defScope s6) (by decide +kernel)) rfl (fun _ _ _ _ _ => (xg_name (i := 8) S.nd rfl (by first | exact Or.inl rfl | exact Or.inr rfl) (by first | exact Or.inl rfl | exact Or.inr rfl))) (fun _ _ _ _ _ => xts_nil) (fun _ _ _ _ _ => (xe_bin (o_add hX.blk.K) (xe_var 8) (xe_var 1))))
  (xb_cons (xs_popi (i := 7) (j := 8) S.nd rfl (by first | exact Or.inl rfl | exact Or.inr (Or.inl rfl) | exact Or.inr (Or.inr rfl)) (by decide) (by decide) rfl (by first | exact Or.inl rfl | exact Or.inr rfl) (.inl rfl) (xe_var 2) rfl rfl rfl rfl rfl rfl)
  (xb_cons (xs_tgt (xe_tup (xa_cons (fun _ z => nomatch z) xe_lit (xa_cons (fun _ z => nomatch z) xe_lit xa_nil rfl) rfl)) (xg_tup hX (xg_cons (xg_name (i := 9) S.nd rfl (by first | exact Or.inl rfl | exact Or.inr rfl) (by first | exact Or.inl rfl | exact Or.inr rfl)) (xg_cons (xg_name (i := 10) S.nd rfl (by first | exact Or.inl rfl | exact Or.inr rfl) (by first | exact Or.inl rfl | exact Or.inr rfl)) xg_nil rfl) rfl) rfl rfl) rfl rfl rfl)
  (xb_cons (xs_if (xt_cmp (c_le) (xe_var 8) (xe_var 5) (nomark _)) (xb_cons (xs_set (i := 9) S.nd rfl (by first | exact Or.inl rfl | exact Or.inr rfl) (xl_pl (xe_call (D.d3.call hr) (fun _ _ _ _ z => callN_len (pg := pg) z) rfl t.f3 (xa_cons (fun _ z => nomatch z) (xe_bif (b_max hX) rfl t.b_max (by decide +kernel) (xv_cons (xe_var 4) (xv_cons (xe_var 8) xv_nil rfl) rfl) (by decide) (by decide) rfl rfl) (xa_cons (fun _ z => nomatch z) (xe_var 5) (xa_cons (fun _ z => nomatch z) (xe_lst (xa_star (st_src hX (xe_peek 7)) (xa_cons (fun _ z => nomatch z) (xe_iteF (fa := false) (pa := false) (fb := false) (pb := false) (xt_cmp (c_eq hX.K hX.u64) (xe_var 3) (xe_globS t.g1.choose_spec rfl) (nomark _)) xe_lit (xe_var 8) rfl rfl) xa_nil rfl) rfl)) xa_nil rfl) rfl) rfl) (by decide) rfl rfl)) rfl (.inl rfl))
  xb_nil) xb_nil)
  (xb_cons (xs_if (xt_cmp (c_gt) (xe_var 8) (xe_var 4) (nomark _)) (xb_freeze (xb_cons (xs_set (i := 10) S.nd rfl (by first | exact Or.inl rfl | exact Or.inr rfl) (xl_pl (xe_call (D.d3.call hr) (fun _ _ _ _ z => callN_len (pg := pg) z) rfl t.f3 (xa_cons (fun _ z => nomatch z) (xe_var 4) (xa_cons (fun _ z => nomatch z) (xe_bif (b_min hX) rfl t.b_min (by decide +kernel) (xv_cons (xe_var 5) (xv_cons (xe_bin (o_sub) (xe_var 8) xe_lit) xv_nil rfl) rfl) (by decide) (by decide) rfl rfl) (xa_cons (fun _ z => nomatch z) (xe_var 7) xa_nil rfl) rfl) rfl) (by decide) rfl rfl)) rfl (.inl rfl))
  xb_nil)) xb_nil)
  (xb_cons (xs_rt (xe_tup (xa_cons (fun _ z => nomatch z) (xe_var 9) (xa_cons (fun _ z => nomatch z) (xe_var 10) xa_nil rfl) rfl)))
  xb_nil)))))))
theorem sc7 : FnScope ["state", "found", "many", "door"] ["state"] (defScope s7) := ⟨rfl, rfl, rfl, by decide +kernel, rfl, by decide +kernel, by decide +kernel⟩
theorem body7 (t : Txt T a) (hP : T.hf = hfF) (hN : T.nm = nmF) (D : All T base a n) (cdv : Value) (A : Around) (outer : List PySem.Env) (s : Shared) (H : Hp) (E : XK) (hr : Room (2 * n + 1) (A.deeper (envOfC "tests_of" (defScope s7) s.heap.objs.size (a 7) cdv))) :
    PXB (bX T base ["state", "found", "many", "door"] "tests_of" s7 (a 7) cdv A outer s H E) T pg (callN pg n) (defBody s7) t7 := by
  have hX : XT T (bX T base ["state", "found", "many", "door"] "tests_of" s7 (a 7) cdv A outer s H E) := xt_of hr
  have S := sc7
  obtain ⟨P0, w0, K0, mg0, ca0, nm0, hf0, tb0, tq0⟩ := T
  cases hP
  cases hN
  exact (xb_cons (xs_set (i := 1) S.nd rfl (by first | exact Or.inl rfl | exact Or.inr rfl) (xl_own (xe_lst xa_nil)) rfl (.inl rfl))
  (xb_cons (xs_for PassesOwn.never rfl (xi_rng1 t.b_range (xe_bin (o_add hX.K) (xe_globI t.g0.choose_spec rfl) xe_lit)) (xg_name (i := 2) S.nd rfl (by first | exact Or.inl rfl | exact Or.inr rfl) (by first | exact Or.inl rfl | exact Or.inr rfl)) (xb_cons (xs_ext (i := 1) rfl (by first | exact Or.inl rfl | exact Or.inr (Or.inl rfl) | exact Or.inr (Or.inr rfl)) (by decide) (by decide) (xe_lc (own := [("door", 3)]) hX S.nd (xi_rng1 t.b_range (xe_bif (b_len hX) rfl t.b_len (by decide +kernel) (xv_cons (xe_idx hX (xe_var 0) xe_lit (fun _ _ => rfl)) xv_nil rfl) (by decide) (by decide) rfl rfl)) (blkOk_by (N := ["state", "found", "many", "door"]) (sc := defScope s7) (by decide +kernel)) rfl (fun _ _ _ _ _ => (xg_name (i := 3) S.nd rfl (by first | exact Or.inl rfl | exact Or.inr rfl) (by first | exact Or.inl rfl | exact Or.inr rfl))) (fun _ _ _ _ _ => xts_nil) (fun _ _ _ _ _ => (xe_tup (xa_cons (fun _ z => nomatch z) (xe_var 2) (xa_cons (fun _ z => nomatch z) (xe_var 3) xa_nil rfl) rfl)))) rfl rfl rfl rfl rfl rfl)
  xb_nil) (fun _ => rfl))
  (xb_freeze (xb_cons (xs_rt (xe_var 1))
  xb_nil))))
theorem sc8 : FnScope ["state", "test", "counting", "later"] ["state", "test", "counting"] (defScope s8) := ⟨rfl, rfl, rfl, by decide +kernel, rfl, by decide +kernel, by decide +kernel⟩
theorem body8 (t : Txt T a) (hP : T.hf = hfF) (hN : T.nm = nmF) (D : All T base a n) (cdv : Value) (A : Around) (outer : List PySem.Env) (s : Shared) (H : Hp) (E : XK) (hr : Room (2 * n + 1) (A.deeper (envOfC "states_behind" (defScope s8) s.heap.objs.size (a 8) cdv))) :
    PXB (bX T base ["state", "test", "counting", "later"] "states_behind" s8 (a 8) cdv A outer s H E) T pg (callN pg n) (defBody s8) t8 := by
  have hX : XT T (bX T base ["state", "test", "counting", "later"] "states_behind" s8 (a 8) cdv A outer s H E) := xt_of hr
  have S := sc8
  obtain ⟨P0, w0, K0, mg0, ca0, nm0, hf0, tb0, tq0⟩ := T
  cases hP
  cases hN
  exact (xb_cons (xs_rt (xe_lc (own := [("later", 3)]) hX S.nd (xi_src hX (xe_call (D.d6.call hr) (fun _ _ _ _ z => callN_len (pg := pg) z) rfl t.f6 (xa_cons (fun _ z => nomatch z) (xe_var 0) (xa_cons (fun _ z => nomatch z) (xe_idx hX (xe_var 1) xe_lit (fun _ _ => rfl)) (xa_cons (fun _ z => nomatch z) (xe_idx hX (xe_var 1) xe_lit (fun _ _ => rfl)) (xa_cons (fun _ z => nomatch z) (xe_var 2) xa_nil rfl) rfl) rfl) rfl) (by decide) rfl rfl)) (blkOk_by (N := ["state", "test", "counting", "later"]) (sc := defScope s8) (by decide +kernel)) rfl (fun _ _ _ _ _ => (xg_name (i := 3) S.nd rfl (by first | exact Or.inl rfl | exact Or.inr rfl) (by first | exact Or.inl rfl | exact Or.inr rfl))) (fun _ _ _ _ _ => (xts_one (xt_cmp (c_isnot) (xe_var 3) xe_lit (nomark _)))) (fun _ _ _ _ _ => (xe_var 3))))
  xb_nil)
theorem sc9 : FnScope ["begun", "counting", "found", "waiting", "state", "test", "later"] ["begun", "counting"] (defScope s9) := ⟨rfl, rfl, rfl, by decide +kernel, rfl, by decide +kernel, by decide +kernel⟩
theorem body9 (t : Txt T a) (hP : T.hf = hfF) (hN : T.nm = nmF) (D : All T base a n) (cdv : Value) (A : Around) (outer : List PySem.Env) (s : Shared) (H : Hp) (E : XK) (hr : Room (2 * n + 1) (A.deeper (envOfC "all_states" (defScope s9) s.heap.objs.size (a 9) cdv))) :
    PXB (bX T base ["begun", "counting", "found", "waiting", "state", "test", "later"] "all_states" s9 (a 9) cdv A outer s H E) T pg (callN pg n) (defBody s9) t9 := by
  have hX : XT T (bX T base ["begun", "counting", "found", "waiting", "state", "test", "later"] "all_states" s9 (a 9) cdv A outer s H E) := xt_of hr
  have S := sc9
  obtain ⟨P0, w0, K0, mg0, ca0, nm0, hf0, tb0, tq0⟩ := T
  cases hP
  cases hN
  exact (xb_cons (xs_par (i := 2) (j := 3) rfl S.nd rfl rfl (by decide) rfl rfl (xl_od1 hX (xe_var 0) xe_lit rfl) (xl_own (xe_lst (xa_cons (fun _ z => nomatch z) (xe_var 0) xa_nil rfl))) rfl rfl rfl rfl)
  (xb_cons (xs_while PassesOwn.never (xt_cmp (c_ne hX.K hX.u64) (xe_peek 3) (xe_lst xa_nil) (nomark _)) (xb_cons (xs_popo (i := 3) (j := 4) S.nd rfl (by first | exact Or.inl rfl | exact Or.inr (Or.inl rfl) | exact Or.inr (Or.inr rfl)) (by decide) (by decide) rfl (by first | exact Or.inl rfl | exact Or.inr rfl) (.inl rfl) rfl rfl rfl)
  (xb_cons (xs_for PassesOwn.never rfl (xi_src hX (xe_call (D.d7.call hr) (fun _ _ _ _ z => callN_len (pg := pg) z) rfl t.f7 (xa_cons (fun _ z => nomatch z) (xe_var 4) xa_nil rfl) (by decide) rfl rfl)) (xg_name (i := 5) S.nd rfl (by first | exact Or.inl rfl | exact Or.inr rfl) (by first | exact Or.inl rfl | exact Or.inr rfl)) (xb_cons (xs_for PassesOwn.never rfl (xi_src hX (xe_call (D.d8.call hr) (fun _ _ _ _ z => callN_len (pg := pg) z) rfl t.f8 (xa_cons (fun _ z => nomatch z) (xe_var 4) (xa_cons (fun _ z => nomatch z) (xe_var 5) (xa_cons (fun _ z => nomatch z) (xe_var 1) xa_nil rfl) rfl) rfl) (by decide) rfl rfl)) (xg_name (i := 6) S.nd rfl (by first | exact Or.inl rfl | exact Or.inr rfl) (by first | exact Or.inl rfl | exact Or.inr rfl)) (xb_cons (xs_if (xt_and (xw_andC (xt_not (xt_val (xe_call (D.d5.call hr) (fun _ _ _ _ z => callN_len (pg := pg) z) rfl t.f5 (xa_cons (fun _ z => nomatch z) (xe_var 6) xa_nil rfl) (by decide) rfl rfl) (fun _ => rfl))) (xw_andC (xt_cmp (c_ne hX.K hX.u64) (xe_idx hX (xe_var 6) xe_lit (fun _ _ => rfl)) (xe_tup xa_nil) (nomark _)) (xw_andL (xt_cmp (c_notin hX) (xe_var 6) (xe_peek 2) (by with_unfolding_all rfl)))))) (xb_cons (xs_putd hX (i := 2) rfl (by first | exact Or.inl rfl | exact Or.inr (Or.inl rfl) | exact Or.inr (Or.inr rfl)) (by decide) (by decide) xe_lit (xe_var 6) rfl rfl rfl (fun _ => rfl))
  (xb_cons (xs_app (i := 3) rfl (by first | exact Or.inl rfl | exact Or.inr (Or.inl rfl) | exact Or.inr (Or.inr rfl)) (by decide) (by decide) (xe_var 6) rfl rfl rfl rfl rfl rfl)
  xb_nil)) xb_nil)
  xb_nil) (fun _ => rfl))
  xb_nil) (fun _ => rfl))
  xb_nil)))
  (xb_cons (xs_rt (xe_bity (b_list hX) rfl t.b_list (by decide +kernel) (xv_cons (xe_peek 2) xv_nil rfl) (by decide) (by decide) rfl rfl))
  xb_nil)))
theorem sc10 : FnScope ["self", "begun", "counting"] ["self", "begun", "counting"] (defScope s10) := ⟨rfl, rfl, rfl, by decide +kernel, rfl, by decide +kernel, by decide +kernel⟩
theorem body10 (t : Txt T a) (hP : T.hf = hfF) (hN : T.nm = nmF) (D : All T base a n) (cdv : Value) (A : Around) (outer : List PySem.Env) (s : Shared) (H : Hp) (E : XK) (hr : Room (2 * n + 1) (A.deeper (envOfC "Learner.__init__" (defScope s10) s.heap.objs.size (a 10) cdv))) :
    PXB (bX T base ["self", "begun", "counting"] "Learner.__init__" s10 (a 10) cdv A outer s H E) T pg (callN pg n) (defBody s10) t10 := by
  have hX : XT T (bX T base ["self", "begun", "counting"] "Learner.__init__" s10 (a 10) cdv A outer s H E) := xt_of hr
  have S := sc10
  obtain ⟨P0, w0, K0, mg0, ca0, nm0, hf0, tb0, tq0⟩ := T
  cases hP
  cases hN
  exact (xb_cons (xs_setF hX t.tab rfl (xe_var 0) (xe_var 2) (f := 0) rfl rfl)
  (xb_cons (xs_setF hX t.tab rfl (xe_var 0) (xe_var 1) (f := 1) rfl rfl)
  (xb_cons (xs_setF hX t.tab rfl (xe_var 0) xe_newd (f := 2) rfl rfl)
  (xb_cons (xs_setF hX t.tab rfl (xe_var 0) xe_newd (f := 3) rfl rfl)
  (xb_cons (xs_setF hX t.tab rfl (xe_var 0) (xe_iteF (fa := true) (pa := false) (fb := false) (pb := false) (xt_val (xe_call (D.d5.call hr) (fun _ _ _ _ z => callN_len (pg := pg) z) rfl t.f5 (xa_cons (fun _ z => nomatch z) (xe_var 1) xa_nil rfl) (by decide) rfl rfl) (fun _ => rfl)) (xe_lst xa_nil) (xe_call (D.d9.call hr) (fun _ _ _ _ z => callN_len (pg := pg) z) rfl t.f9 (xa_cons (fun _ z => nomatch z) (xe_var 1) (xa_cons (fun _ z => nomatch z) (xe_var 2) xa_nil rfl) rfl) (by decide) rfl rfl) rfl rfl) (f := 4) rfl rfl)
  (xb_cons (xs_setF hX t.tab rfl (xe_var 0) xe_lit (f := 5) rfl rfl)
  (xb_cons (xs_while PassesOwn.never (xt_and (xw_andC (xt_not (xt_val (xe_call (D.d5.call hr) (fun _ _ _ _ z => callN_len (pg := pg) z) rfl t.f5 (xa_cons (fun _ z => nomatch z) (xe_var 1) xa_nil rfl) (by decide) rfl rfl) (fun _ => rfl))) (xw_andL (xt_cmp (c_notin hX) (xe_var 1) (xe_fld hX t.tab (xe_var 0) (f := 2) rfl rfl) (by with_unfolding_all rfl))))) (xb_cons (xs_ex (xe_cm0 hX t.tab ⟨⟨0, a 13, t.cls0, t.m2, (D.d13.call hr), mth2⟩⟩ (fun _ _ _ _ z => callN_len (pg := pg) z) (xe_var 0) rfl) rfl)
  (xb_cons (xs_if (xt_cmp (c_notin hX) (xe_var 1) (xe_fld hX t.tab (xe_var 0) (f := 2) rfl rfl) (by with_unfolding_all rfl)) (xb_cons (xs_augF hX t.tab rfl (xe_var 0) xe_lit (f := 5) rfl in_add aug_add)
  xb_nil) xb_nil)
  xb_nil)))
  xb_nil)))))))
theorem sc11 : FnScope ["self", "state"] ["self", "state"] (defScope s11) := ⟨rfl, rfl, rfl, by decide +kernel, rfl, by decide +kernel, by decide +kernel⟩
theorem body11 (t : Txt T a) (hP : T.hf = hfF) (hN : T.nm = nmF) (D : All T base a n) (cdv : Value) (A : Around) (outer : List PySem.Env) (s : Shared) (H : Hp) (E : XK) (hr : Room (2 * n + 1) (A.deeper (envOfC "Learner.time_of" (defScope s11) s.heap.objs.size (a 11) cdv))) :
    PXB (bX T base ["self", "state"] "Learner.time_of" s11 (a 11) cdv A outer s H E) T pg (callN pg n) (defBody s11) t11 := by
  have hX : XT T (bX T base ["self", "state"] "Learner.time_of" s11 (a 11) cdv A outer s H E) := xt_of hr
  have S := sc11
  obtain ⟨P0, w0, K0, mg0, ca0, nm0, hf0, tb0, tq0⟩ := T
  cases hP
  cases hN
  exact (xb_cons (xs_rt (xe_iteF (fa := false) (pa := false) (fb := false) (pb := false) (xt_val (xe_call (D.d5.call hr) (fun _ _ _ _ z => callN_len (pg := pg) z) rfl t.f5 (xa_cons (fun _ z => nomatch z) (xe_var 1) xa_nil rfl) (by decide) rfl rfl) (fun _ => rfl)) xe_lit (xe_get hX (xe_fld hX t.tab (xe_var 0) (f := 2) rfl rfl) (xe_var 1) rfl rfl rfl rfl) rfl rfl))
  xb_nil)
theorem sc12 : FnScope ["self", "state", "test", "some", "later"] ["self", "state"] (defScope s12) := ⟨rfl, rfl, rfl, by decide +kernel, rfl, by decide +kernel, by decide +kernel⟩
theorem body12 (t : Txt T a) (hP : T.hf = hfF) (hN : T.nm = nmF) (D : All T base a n) (cdv : Value) (A : Around) (outer : List PySem.Env) (s : Shared) (H : Hp) (E : XK) (hr : Room (2 * n + 1) (A.deeper (envOfC "Learner.good_test" (defScope s12) s.heap.objs.size (a 12) cdv))) :
    PXB (bX T base ["self", "state", "test", "some", "later"] "Learner.good_test" s12 (a 12) cdv A outer s H E) T pg (callN pg n) (defBody s12) t12 := by
  have hX : XT T (bX T base ["self", "state", "test", "some", "later"] "Learner.good_test" s12 (a 12) cdv A outer s H E) := xt_of hr
  have S := sc12
  obtain ⟨P0, w0, K0, mg0, ca0, nm0, hf0, tb0, tq0⟩ := T
  cases hP
  cases hN
  exact (xb_cons (xs_for PassesOwn.never rfl (xi_src hX (xe_call (D.d7.call hr) (fun _ _ _ _ z => callN_len (pg := pg) z) rfl t.f7 (xa_cons (fun _ z => nomatch z) (xe_var 1) xa_nil rfl) (by decide) rfl rfl)) (xg_name (i := 2) S.nd rfl (by first | exact Or.inl rfl | exact Or.inr rfl) (by first | exact Or.inl rfl | exact Or.inr rfl)) (xb_cons (xs_setLc (own := [("later", 4)]) hX S.nd (i := 3) rfl rfl (sw_true rfl rfl rfl (by decide +kernel)) (xi_src hX (xe_call (D.d8.call hr) (fun _ _ _ _ z => callN_len (pg := pg) z) rfl t.f8 (xa_cons (fun _ z => nomatch z) (xe_var 1) (xa_cons (fun _ z => nomatch z) (xe_var 2) (xa_cons (fun _ z => nomatch z) (xe_fld hX t.tab (xe_var 0) (f := 0) rfl rfl) xa_nil rfl) rfl) rfl) (by decide) rfl rfl)) (blkOk_by (N := ["self", "state", "test", "some", "later"]) (sc := defScope s12) (by decide +kernel)) rfl (fun _ _ _ _ _ => (xg_name (i := 4) S.nd rfl (by first | exact Or.inl rfl | exact Or.inr rfl) (by first | exact Or.inl rfl | exact Or.inr rfl))) (fun _ _ _ _ _ => xts_nil) (fun _ _ _ _ _ => (xe_cm hX.blk t.tab ⟨⟨0, a 11, t.cls0, t.m0, (D.d11.call hr).blk, mth0⟩⟩ (fun _ _ _ _ z => callN_len (pg := pg) z) (xe_var 0) (xa_cons (fun _ z => nomatch z) (xe_var 4) xa_nil rfl) rfl rfl rfl)))
  (xb_cons (xs_if (xt_and (xw_andC (xt_cmp (c_notin hX) xe_lit (xe_var 3) (by with_unfolding_all rfl)) (xw_andL (xt_cmp (c_le) (xe_bin (o_add hX.K) (xe_idx hX (xe_var 2) xe_lit (fun _ _ => rfl)) (xe_bif (b_max hX) rfl t.b_max (by decide +kernel) (xv_cons (xe_var 3) xv_nil rfl) (by decide) (by decide) rfl rfl)) (xe_fld hX t.tab (xe_var 0) (f := 5) rfl rfl) (nomark _))))) (xb_cons (xs_rt (xe_var 2))
  xb_nil) xb_nil)
  xb_nil)) (fun _ => rfl))
  (xb_cons (xs_rt xe_lit)
  xb_nil))
theorem sc13 : FnScope ["self", "many", "state", "test"] ["self"] (defScope s13) := ⟨rfl, rfl, rfl, by decide +kernel, rfl, by decide +kernel, by decide +kernel⟩
theorem body13 (t : Txt T a) (hP : T.hf = hfF) (hN : T.nm = nmF) (D : All T base a n) (cdv : Value) (A : Around) (outer : List PySem.Env) (s : Shared) (H : Hp) (E : XK) (hr : Room (2 * n + 1) (A.deeper (envOfC "Learner.settle" (defScope s13) s.heap.objs.size (a 13) cdv))) :
    PXB (bX T base ["self", "many", "state", "test"] "Learner.settle" s13 (a 13) cdv A outer s H E) T pg (callN pg n) (defBody s13) t13 := by
  have hX : XT T (bX T base ["self", "many", "state", "test"] "Learner.settle" s13 (a 13) cdv A outer s H E) := xt_of hr
  have S := sc13
  obtain ⟨P0, w0, K0, mg0, ca0, nm0, hf0, tb0, tq0⟩ := T
  cases hP
  cases hN
  exact (xb_cons (xs_set (i := 1) S.nd rfl (by first | exact Or.inl rfl | exact Or.inr rfl) (xl_pl (xe_neg xe_lit)) rfl (.inl rfl))
  (xb_cons (xs_while PassesOwn.never (xt_cmp (c_gt) (xe_bif (b_len hX) rfl t.b_len (by decide +kernel) (xv_cons (xe_fld hX t.tab (xe_var 0) (f := 2) rfl rfl) xv_nil rfl) (by decide) (by decide) rfl rfl) (xe_var 1) (nomark _)) (xb_cons (xs_set (i := 1) S.nd rfl (by first | exact Or.inl rfl | exact Or.inr rfl) (xl_pl (xe_bif (b_len hX) rfl t.b_len (by decide +kernel) (xv_cons (xe_fld hX t.tab (xe_var 0) (f := 2) rfl rfl) xv_nil rfl) (by decide) (by decide) rfl rfl)) rfl (.inl rfl))
  (xb_cons (xs_for PassesOwn.never rfl (xi_src hX (xe_fld hX t.tab (xe_var 0) (f := 4) rfl rfl)) (xg_name (i := 2) S.nd rfl (by first | exact Or.inl rfl | exact Or.inr rfl) (by first | exact Or.inl rfl | exact Or.inr rfl)) (xb_cons (xs_set (i := 3) S.nd rfl (by first | exact Or.inl rfl | exact Or.inr rfl) (xl_pl (xe_cm hX t.tab ⟨⟨0, a 12, t.cls0, t.m1, (D.d12.call hr), mth1⟩⟩ (fun _ _ _ _ z => callN_len (pg := pg) z) (xe_var 0) (xa_cons (fun _ z => nomatch z) (xe_var 2) xa_nil rfl) rfl rfl rfl)) rfl (.inl rfl))
  (xb_cons (xs_if (xt_cmp (c_isnot) (xe_var 3) xe_lit (nomark _)) (xb_cons (xs_setI hX (xe_fld hX t.tab (xe_var 0) (f := 2) rfl rfl) (xe_fld hX t.tab (xe_var 0) (f := 5) rfl rfl) (xe_var 2) rfl rfl rfl (fun _ => rfl))
  (xb_cons (xs_setI hX (xe_fld hX t.tab (xe_var 0) (f := 3) rfl rfl) (xe_var 3) (xe_var 2) rfl rfl rfl (fun _ => rfl))
  xb_nil)) xb_nil)
  xb_nil)) (fun _ => rfl))
  (xb_cons (xs_setF hX t.tab rfl (xe_var 0) (xe_lc (own := [("state", 2)]) hX S.nd (xi_src hX (xe_fld hX t.tab (xe_var 0) (f := 4) rfl rfl)) (blkOk_by (N := ["self", "many", "state", "test"]) (sc := defScope s13) (by decide +kernel)) rfl (fun _ _ _ _ _ => (xg_name (i := 2) S.nd rfl (by first | exact Or.inl rfl | exact Or.inr rfl) (by first | exact Or.inl rfl | exact Or.inr rfl))) (fun _ _ _ _ _ => (xts_one (xt_cmp (c_notin hX.blk) (xe_var 2) (xe_fld hX.blk t.tab (xe_var 0) (f := 2) rfl rfl) (by with_unfolding_all rfl)))) (fun _ _ _ _ _ => (xe_var 2))) (f := 4) rfl rfl)
  xb_nil))))
  xb_nil))
theorem sc14 : FnScope ["self", "state", "many", "door", "came", "lost"] ["self", "state"] (defScope s14) := ⟨rfl, rfl, rfl, by decide +kernel, rfl, by decide +kernel, by decide +kernel⟩
theorem body14 (t : Txt T a) (hP : T.hf = hfF) (hN : T.nm = nmF) (D : All T base a n) (cdv : Value) (A : Around) (outer : List PySem.Env) (s : Shared) (H : Hp) (E : XK) (hr : Room (2 * n + 1) (A.deeper (envOfC "Learner.plan" (defScope s14) s.heap.objs.size (a 14) cdv))) :
    PXB (bX T base ["self", "state", "many", "door", "came", "lost"] "Learner.plan" s14 (a 14) cdv A outer s H E) T pg (callN pg n) (defBody s14) t14 := by
  have hX : XT T (bX T base ["self", "state", "many", "door", "came", "lost"] "Learner.plan" s14 (a 14) cdv A outer s H E) := xt_of hr
  have S := sc14
  obtain ⟨P0, w0, K0, mg0, ca0, nm0, hf0, tb0, tq0⟩ := T
  cases hP
  cases hN
  exact (xb_cons (xs_if (xt_cmp (c_is) (xe_var 1) xe_lit (nomark _)) (xb_cons (xs_rt xe_lit)
  xb_nil) xb_nil)
  (xb_cons (xs_if (xt_val (xe_call (D.d5.call hr) (fun _ _ _ _ z => callN_len (pg := pg) z) rfl t.f5 (xa_cons (fun _ z => nomatch z) (xe_var 1) xa_nil rfl) (by decide) rfl rfl) (fun _ => rfl)) (xb_cons (xs_rt (xe_tup (xa_cons (fun _ z => nomatch z) xe_lit xa_nil rfl)))
  xb_nil) xb_nil)
  (xb_cons (xs_tgt (xe_idx hX (xe_fld hX t.tab (xe_var 0) (f := 3) rfl rfl) (xe_var 1) (fun _ _ => rfl)) (xg_tup hX (xg_cons (xg_name (i := 2) S.nd rfl (by first | exact Or.inl rfl | exact Or.inr rfl) (by first | exact Or.inl rfl | exact Or.inr rfl)) (xg_cons (xg_name (i := 3) S.nd rfl (by first | exact Or.inl rfl | exact Or.inr rfl) (by first | exact Or.inl rfl | exact Or.inr rfl)) xg_nil rfl) rfl) rfl rfl) rfl rfl rfl)
  (xb_cons (xs_tgt (xe_call (D.d6.call hr) (fun _ _ _ _ z => callN_len (pg := pg) z) rfl t.f6 (xa_cons (fun _ z => nomatch z) (xe_var 1) (xa_cons (fun _ z => nomatch z) (xe_var 2) (xa_cons (fun _ z => nomatch z) (xe_var 3) (xa_cons (fun _ z => nomatch z) (xe_fld hX t.tab (xe_var 0) (f := 0) rfl rfl) xa_nil rfl) rfl) rfl) rfl) (by decide) rfl rfl) (xg_tup hX (xg_cons (xg_name (i := 4) S.nd rfl (by first | exact Or.inl rfl | exact Or.inr rfl) (by first | exact Or.inl rfl | exact Or.inr rfl)) (xg_cons (xg_name (i := 5) S.nd rfl (by first | exact Or.inl rfl | exact Or.inr rfl) (by first | exact Or.inl rfl | exact Or.inr rfl)) xg_nil rfl) rfl) rfl rfl) rfl rfl rfl)
  (xb_cons (xs_rt (xe_tup (xa_cons (fun _ z => nomatch z) xe_lit (xa_cons (fun _ z => nomatch z) (xe_var 2) (xa_cons (fun _ z => nomatch z) (xe_var 3) (xa_cons (fun _ z => nomatch z) (xe_cm hX t.tab ⟨⟨0, a 14, t.cls0, t.m3, (D.d14.call hr), mth3⟩⟩ (fun _ _ _ _ z => callN_len (pg := pg) z) (xe_var 0) (xa_cons (fun _ z => nomatch z) (xe_var 4) xa_nil rfl) rfl rfl rfl) (xa_cons (fun _ z => nomatch z) (xe_cm hX t.tab ⟨⟨0, a 14, t.cls0, t.m3, (D.d14.call hr), mth3⟩⟩ (fun _ _ _ _ z => callN_len (pg := pg) z) (xe_var 0) (xa_cons (fun _ z => nomatch z) (xe_var 5) xa_nil rfl) rfl rfl rfl) xa_nil rfl) rfl) rfl) rfl) rfl)))
  xb_nil)))))
theorem sc15 : FnScope ["self", "rows", "state"] ["self"] (defScope s15) := ⟨rfl, rfl, rfl, by decide +kernel, rfl, by decide +kernel, by decide +kernel⟩
theorem body15 (t : Txt T a) (hP : T.hf = hfF) (hN : T.nm = nmF) (D : All T base a n) (cdv : Value) (A : Around) (outer : List PySem.Env) (s : Shared) (H : Hp) (E : XK) (hr : Room (2 * n + 1) (A.deeper (envOfC "Learner.table" (defScope s15) s.heap.objs.size (a 15) cdv))) :
    PXB (bX T base ["self", "rows", "state"] "Learner.table" s15 (a 15) cdv A outer s H E) T pg (callN pg n) (defBody s15) t15 := by
  have hX : XT T (bX T base ["self", "rows", "state"] "Learner.table" s15 (a 15) cdv A outer s H E) := xt_of hr
  have S := sc15
  obtain ⟨P0, w0, K0, mg0, ca0, nm0, hf0, tb0, tq0⟩ := T
  cases hP
  cases hN
  exact (xb_cons (xs_if (xt_val (xe_call (D.d5.call hr) (fun _ _ _ _ z => callN_len (pg := pg) z) rfl t.f5 (xa_cons (fun _ z => nomatch z) (xe_fld hX t.tab (xe_var 0) (f := 1) rfl rfl) xa_nil rfl) (by decide) rfl rfl) (fun _ => rfl)) (xb_cons (xs_rt (xe_tup (xa_cons (fun _ z => nomatch z) (xe_tup (xa_cons (fun _ z => nomatch z) (xe_fld hX t.tab (xe_var 0) (f := 1) rfl rfl) (xa_cons (fun _ z => nomatch z) xe_lit xa_nil rfl) rfl)) xa_nil rfl)))
  xb_nil) xb_nil)
  (xb_cons (xs_set (i := 1) S.nd rfl (by first | exact Or.inl rfl | exact Or.inr rfl) (xl_pl (xe_lst (xa_star (st_items hX hr.hd (xe_fld hX t.tab (xe_var 0) (f := 2) rfl rfl) rfl rfl) (xa_star (st_src hX (xe_lc (own := [("state", 2)]) hX S.nd (xi_src hX (xe_fld hX t.tab (xe_var 0) (f := 4) rfl rfl)) (blkOk_by (N := ["self", "rows", "state"]) (sc := defScope s15) (by decide +kernel)) rfl (fun _ _ _ _ _ => (xg_name (i := 2) S.nd rfl (by first | exact Or.inl rfl | exact Or.inr rfl) (by first | exact Or.inl rfl | exact Or.inr rfl))) (fun _ _ _ _ _ => xts_nil) (fun _ _ _ _ _ => (xe_tup (xa_cons (fun _ z => nomatch z) (xe_var 2) (xa_cons (fun _ z => nomatch z) (xe_fld hX.blk t.tab (xe_var 0) (f := 5) rfl rfl) xa_nil rfl) rfl))))) xa_nil rfl) rfl))) rfl (.inl rfl))
  (xb_cons (xs_rt (xe_bity (b_tuple hX) rfl t.b_tuple (by decide +kernel) (xv_cons (xe_bif (b_sortedRows hX) rfl t.b_sorted (by decide +kernel) (xv_cons (xe_var 1) xv_nil rfl) (by decide) (by decide) rfl rfl) xv_nil rfl) (by decide) (by decide) rfl rfl))
  xb_nil)))
theorem sc16 : FnScope ["least", "most", "doors", "counting"] ["least", "most", "doors", "counting"] (defScope s16) := ⟨rfl, rfl, rfl, by decide +kernel, rfl, by decide +kernel, by decide +kernel⟩
theorem body16 (t : Txt T a) (hP : T.hf = hfF) (hN : T.nm = nmF) (D : All T base a n) (cdv : Value) (A : Around) (outer : List PySem.Env) (s : Shared) (H : Hp) (E : XK) (hr : Room (2 * n + 1) (A.deeper (envOfC "check_asked" (defScope s16) s.heap.objs.size (a 16) cdv))) :
    PXBX (bXX T base ["least", "most", "doors", "counting"] "check_asked" s16 (a 16) cdv A outer s H E) T pg (callN pg n) E (defBody s16) t16 := by
  have hX : XT T (bXX T base ["least", "most", "doors", "counting"] "check_asked" s16 (a 16) cdv A outer s H E) := xtx_of hr
  have S := sc16
  obtain ⟨P0, w0, K0, mg0, ca0, nm0, hf0, tb0, tq0⟩ := T
  cases hP
  cases hN
  exact (xbx_cons (xsx_if (xt_not (xt_val (xe_call (D.d1.callX hr) (fun _ _ _ _ z => callN_len (pg := pg) z) rfl t.f1 (xa_cons (fun _ z => nomatch z) (xe_var 0) (xa_cons (fun _ z => nomatch z) xe_lit (xa_cons (fun _ z => nomatch z) (xe_globI t.g0.choose_spec rfl) xa_nil rfl) rfl) rfl) (by decide) rfl rfl) (fun _ => rfl))) (xbx_cons (xsx_raise (k := 2 * n) rfl bxx_takes t.sup t.y1 t.i1 t.tI hr rfl t.x1 t.b_super (xe_var 0) (by decide) rfl rfl)
  xbx_nil) xbx_nil)
  (xbx_cons (xsx_if (xt_not (xt_val (xe_call (D.d1.callX hr) (fun _ _ _ _ z => callN_len (pg := pg) z) rfl t.f1 (xa_cons (fun _ z => nomatch z) (xe_var 1) (xa_cons (fun _ z => nomatch z) (xe_var 0) (xa_cons (fun _ z => nomatch z) (xe_globI t.g0.choose_spec rfl) xa_nil rfl) rfl) rfl) (by decide) rfl rfl) (fun _ => rfl))) (xbx_cons (xsx_raise (k := 2 * n) rfl bxx_takes t.sup t.y1 t.i1 t.tI hr rfl t.x1 t.b_super (xe_var 1) (by decide) rfl rfl)
  xbx_nil) xbx_nil)
  (xbx_cons (xsx_if (xt_not (xt_val (xe_call (D.d1.callX hr) (fun _ _ _ _ z => callN_len (pg := pg) z) rfl t.f1 (xa_cons (fun _ z => nomatch z) (xe_var 2) (xa_cons (fun _ z => nomatch z) xe_lit (xa_cons (fun _ z => nomatch z) (xe_globI t.g2.choose_spec rfl) xa_nil rfl) rfl) rfl) (by decide) rfl rfl) (fun _ => rfl))) (xbx_cons (xsx_raise (k := 2 * n) rfl bxx_takes t.sup t.y1 t.i1 t.tI hr rfl t.x1 t.b_super (xe_var 2) (by decide) rfl rfl)
  xbx_nil) xbx_nil)
  (xbx_cons (xsx_if (xt_not (xt_val (xe_call (D.d2.callX hr) (fun _ _ _ _ z => callN_len (pg := pg) z) rfl t.f2 (xa_cons (fun _ z => nomatch z) (xe_var 3) (xa_cons (fun _ z => nomatch z) (glob3 t rfl) xa_nil rfl) rfl) (by decide) rfl rfl) (fun _ => rfl))) (xbx_cons (xsx_raise (k := 2 * n) rfl bxx_takes t.sup t.y2 t.i2 t.tI hr rfl t.x2 t.b_super (xe_var 3) (by decide) rfl rfl)
  xbx_nil) xbx_nil)
  xbx_nil))))
theorem sc17 : FnScope ["least", "most", "doors", "counting", "begun", "learner"] ["least", "most", "doors", "counting"] (defScope s17) := ⟨rfl, rfl, rfl, by decide +kernel, rfl, by decide +kernel, by decide +kernel⟩
theorem body17 (t : Txt T a) (hP : T.hf = hfF) (hN : T.nm = nmF) (D : All T base a n) (cdv : Value) (A : Around) (outer : List PySem.Env) (s : Shared) (H : Hp) (E : XK) (hr : Room (2 * n + 1) (A.deeper (envOfC "learned" (defScope s17) s.heap.objs.size (a 17) cdv))) :
    PXBX (bXX T base ["least", "most", "doors", "counting", "begun", "learner"] "learned" s17 (a 17) cdv A outer s H E) T pg (callN pg n) E (defBody s17) t17 := by
  have hX : XT T (bXX T base ["least", "most", "doors", "counting", "begun", "learner"] "learned" s17 (a 17) cdv A outer s H E) := xtx_of hr
  have S := sc17
  obtain ⟨P0, w0, K0, mg0, ca0, nm0, hf0, tb0, tq0⟩ := T
  cases hP
  cases hN
  exact (xbx_cons (xsx_call bxx_takes (D.d16.call hr) (fun _ _ z => callN_lenX (pg := pg) z) rfl t.f16 (xa_cons (fun _ z => nomatch z) (xe_var 0) (xa_cons (fun _ z => nomatch z) (xe_var 1) (xa_cons (fun _ z => nomatch z) (xe_var 2) (xa_cons (fun _ z => nomatch z) (xe_var 3) xa_nil rfl) rfl) rfl) rfl) (by decide) rfl rfl rfl)
  (xbx_cons (xsx_q (xs_set (i := 4) S.nd rfl (by first | exact Or.inl rfl | exact Or.inr rfl) (xl_pl (xe_call (D.d4.callX hr) (fun _ _ _ _ z => callN_len (pg := pg) z) rfl t.f4 (xa_cons (fun _ z => nomatch z) (xe_var 0) (xa_cons (fun _ z => nomatch z) (xe_var 1) (xa_cons (fun _ z => nomatch z) (xe_var 2) xa_nil rfl) rfl) rfl) (by decide) rfl rfl)) rfl (.inl rfl)))
  (xbx_cons (xsx_q (xs_set (i := 5) S.nd rfl (by first | exact Or.inl rfl | exact Or.inr rfl) (xl_pl (xe_mk hX (np := 2) ⟨10, a 10, rfl, t.cls0, t.mk0, (D.d10.callX hr), fun _ _ _ _ z => callN_len (pg := pg) z⟩ rfl t.c0 (xa_cons (fun _ z => nomatch z) (xe_var 4) (xa_cons (fun _ z => nomatch z) (xe_var 3) xa_nil rfl) rfl) (by decide) rfl rfl)) rfl (.inl rfl)))
  (xbx_cons (xsx_q (xs_rt (xe_tup (xa_cons (fun _ z => nomatch z) (xe_fld hX t.tab (xe_var 5) (f := 5) rfl rfl) (xa_cons (fun _ z => nomatch z) (xe_cm hX t.tab ⟨⟨0, a 14, t.cls0, t.m3, (D.d14.callX hr), mth3⟩⟩ (fun _ _ _ _ z => callN_len (pg := pg) z) (xe_var 5) (xa_cons (fun _ z => nomatch z) (xe_var 4) xa_nil rfl) rfl rfl rfl) (xa_cons (fun _ z => nomatch z) (xe_cm0 hX t.tab ⟨⟨0, a 15, t.cls0, t.m4, (D.d15.callX hr), mth4⟩⟩ (fun _ _ _ _ z => callN_len (pg := pg) z) (xe_var 5) rfl) xa_nil rfl) rfl) rfl))))
  xbx_nil))))
theorem sc18 : FnScope ["script", "k", "cell", "mine"] ["script", "k"] (defScope s18) := ⟨rfl, rfl, rfl, by decide +kernel, rfl, by decide +kernel, by decide +kernel⟩
theorem body18 (t : Txt T a) (hP : T.hf = hfF) (hN : T.nm = nmF) (D : All T base a n) (cdv : Value) (A : Around) (outer : List PySem.Env) (s : Shared) (H : Hp) (E : XK) (hr : Room (2 * n + 1) (A.deeper (envOfC "_law_jar" (defScope s18) s.heap.objs.size (a 18) cdv))) :
    PXB (bX T base ["script", "k", "cell", "mine"] "_law_jar" s18 (a 18) cdv A outer s H E) T pg (callN pg n) (defBody s18) t18 := by
  have hX : XT T (bX T base ["script", "k", "cell", "mine"] "_law_jar" s18 (a 18) cdv A outer s H E) := xt_of hr
  have S := sc18
  obtain ⟨P0, w0, K0, mg0, ca0, nm0, hf0, tb0, tq0⟩ := T
  cases hP
  cases hN
  exact (xb_cons (xs_set (i := 2) S.nd rfl (by first | exact Or.inl rfl | exact Or.inr rfl) (xl_pl (xe_iteF (fa := false) (pa := false) (fb := true) (pb := false) (xt_cmp (c_lt) (xe_var 1) (xe_bif (b_len hX) rfl t.b_len (by decide +kernel) (xv_cons (xe_var 0) xv_nil rfl) (by decide) (by decide) rfl rfl) (nomark _)) (xe_idx hX (xe_var 0) (xe_var 1) (fun _ _ => rfl)) (xe_bin (o_add hX.K) (xe_bin (o_mul hX.K) xe_lit (xe_var 1)) xe_lit) rfl rfl)) rfl (.inl rfl))
  (xb_cons (xs_set (i := 3) S.nd rfl (by first | exact Or.inl rfl | exact Or.inr rfl) (xl_pl (xe_bin (o_mul hX.K) (xe_bin (o_mod) (xe_bity (b_int) rfl t.b_int (by decide +kernel) (xv_cons (xe_bif (b_abs) rfl t.b_abs (by decide +kernel) (xv_cons (xe_var 2) xv_nil rfl) (by decide) (by decide) rfl rfl) xv_nil rfl) (by decide) (by decide) rfl rfl) (xe_bin (o_pow) (xe_bin (o_pow) xe_lit xe_lit) xe_lit)) (xe_bity (b_int) rfl t.b_int (by decide +kernel) (xv_cons (xe_cmp (c_ge) (xe_bif (b_abs) rfl t.b_abs (by decide +kernel) (xv_cons (xe_var 2) xv_nil rfl) (by decide) (by decide) rfl rfl) (xe_bin (o_pow) xe_lit xe_lit) (nomark _)) xv_nil rfl) (by decide) (by decide) rfl rfl))) rfl (.inl rfl))
  (xb_cons (xs_rt (xe_new (xa_cons (fun _ z => nomatch z) (xe_var 3) (xa_cons (fun _ z => nomatch z) (xe_bin (o_mod) (xe_bity (b_int) rfl t.b_int (by decide +kernel) (xv_cons (xe_bin (o_add hX.K) (xe_bin (o_add hX.K) (xe_bin (o_mul hX.K) (xe_bin (o_mod) (xe_bity (b_int) rfl t.b_int (by decide +kernel) (xv_cons (xe_var 2) xv_nil rfl) (by decide) (by decide) rfl rfl) xe_lit) xe_lit) (xe_bin (o_mul hX.K) (xe_bin (o_mul hX.K) xe_lit (xe_var 1)) (xe_var 1))) xe_lit) xv_nil rfl) (by decide) (by decide) rfl rfl) xe_lit) (xa_cons (fun _ z => nomatch z) xe_lit xa_nil rfl) rfl) rfl)))
  xb_nil)))
theorem sc19 : FnScope ["jar", "many", "digit", "prime", "made"] ["jar", "many"] (defScope s19) := ⟨rfl, rfl, rfl, by decide +kernel, rfl, by decide +kernel, by decide +kernel⟩
theorem body19 (t : Txt T a) (hP : T.hf = hfF) (hN : T.nm = nmF) (D : All T base a n) (cdv : Value) (A : Around) (outer : List PySem.Env) (s : Shared) (H : Hp) (E : XK) (hr : Room (2 * n + 1) (A.deeper (envOfC "_law_take" (defScope s19) s.heap.objs.size (a 19) cdv))) :
    PXB (bX T base ["jar", "many", "digit", "prime", "made"] "_law_take" s19 (a 19) cdv A outer s H E) T pg (callN pg n) (defBody s19) t19 := by
  have hX : XT T (bX T base ["jar", "many", "digit", "prime", "made"] "_law_take" s19 (a 19) cdv A outer s H E) := xt_of hr
  have S := sc19
  obtain ⟨P0, w0, K0, mg0, ca0, nm0, hf0, tb0, tq0⟩ := T
  cases hP
  cases hN
  exact (xb_cons (xs_if (xt_cmp (c_gt) (xe_idx hX (xe_var 0) xe_lit (fun _ _ => rfl)) xe_lit (nomark _)) (xb_cons (xs_set (i := 2) S.nd rfl (by first | exact Or.inl rfl | exact Or.inr rfl) (xl_pl (xe_bin (o_mod) (xe_bity (b_int) rfl t.b_int (by decide +kernel) (xv_cons (xe_idx hX (xe_var 0) xe_lit (fun _ _ => rfl)) xv_nil rfl) (by decide) (by decide) rfl rfl) (xe_var 1))) rfl (.inl rfl))
  (xb_cons (xs_setI hX (xe_var 0) (xe_bin (o_fdiv) (xe_idx hX (xe_var 0) xe_lit (fun _ _ => rfl)) (xe_var 1)) xe_lit rfl rfl rfl (fun _ => rfl))
  (xb_cons (xs_rt (xe_var 2))
  xb_nil))) xb_nil)
  (xb_cons (xs_setI hX (xe_var 0) (xe_bin (o_add hX.K) (xe_idx hX (xe_var 0) xe_lit (fun _ _ => rfl)) xe_lit) xe_lit rfl rfl rfl (fun _ => rfl))
  (xb_cons (xs_set (i := 3) S.nd rfl (by first | exact Or.inl rfl | exact Or.inr rfl) (xl_pl (xe_idx hX (xe_lst (xa_cons (fun _ z => nomatch z) xe_lit (xa_cons (fun _ z => nomatch z) xe_lit (xa_cons (fun _ z => nomatch z) xe_lit (xa_cons (fun _ z => nomatch z) xe_lit (xa_cons (fun _ z => nomatch z) xe_lit xa_nil rfl) rfl) rfl) rfl) rfl)) (xe_bin (o_mod) (xe_bity (b_int) rfl t.b_int (by decide +kernel) (xv_cons (xe_idx hX (xe_var 0) xe_lit (fun _ _ => rfl)) xv_nil rfl) (by decide) (by decide) rfl rfl) xe_lit) (fun _ _ => rfl))) rfl (.inl rfl))
  (xb_cons (xs_set (i := 4) S.nd rfl (by first | exact Or.inl rfl | exact Or.inr rfl) (xl_pl (xe_bin (o_mod) (xe_bity (b_int) rfl t.b_int (by decide +kernel) (xv_cons (xe_bin (o_pow) (xe_bin (o_add hX.K) (xe_bin (o_add hX.K) (xe_idx hX (xe_var 0) xe_lit (fun _ _ => rfl)) (xe_bin (o_mul hX.K) (xe_bin (o_mul hX.K) xe_lit (xe_idx hX (xe_var 0) xe_lit (fun _ _ => rfl))) (xe_idx hX (xe_var 0) xe_lit (fun _ _ => rfl)))) xe_lit) xe_lit) xv_nil rfl) (by decide) (by decide) rfl rfl) (xe_var 3))) rfl (.inl rfl))
  (xb_cons (xs_set (i := 4) S.nd rfl (by first | exact Or.inl rfl | exact Or.inr rfl) (xl_pl (xe_bin (o_mod) (xe_bity (b_int) rfl t.b_int (by decide +kernel) (xv_cons (xe_bin (o_mul hX.K) (xe_var 4) (xe_bin (o_add hX.K) (xe_bin (o_mod) (xe_bity (b_int) rfl t.b_int (by decide +kernel) (xv_cons (xe_var 4) xv_nil rfl) (by decide) (by decide) rfl rfl) xe_lit) (xe_bin (o_mul hX.K) xe_lit (xe_idx hX (xe_var 0) xe_lit (fun _ _ => rfl))))) xv_nil rfl) (by decide) (by decide) rfl rfl) xe_lit)) rfl (.inl rfl))
  (xb_cons (xs_rt (xe_bin (o_mod) (xe_bity (b_int) rfl t.b_int (by decide +kernel) (xv_cons (xe_bin (o_fdiv) (xe_var 4) xe_lit) xv_nil rfl) (by decide) (by decide) rfl rfl) (xe_var 1)))
  xb_nil))))))
theorem sc20 : FnScope ["jar", "some"] ["jar", "some"] (defScope s20) := ⟨rfl, rfl, rfl, by decide +kernel, rfl, by decide +kernel, by decide +kernel⟩
theorem body20 (t : Txt T a) (hP : T.hf = hfF) (hN : T.nm = nmF) (D : All T base a n) (cdv : Value) (A : Around) (outer : List PySem.Env) (s : Shared) (H : Hp) (E : XK) (hr : Room (2 * n + 1) (A.deeper (envOfC "_law_of" (defScope s20) s.heap.objs.size (a 20) cdv))) :
    PXB (bX T base ["jar", "some"] "_law_of" s20 (a 20) cdv A outer s H E) T pg (callN pg n) (defBody s20) t20 := by
  have hX : XT T (bX T base ["jar", "some"] "_law_of" s20 (a 20) cdv A outer s H E) := xt_of hr
  have S := sc20
  obtain ⟨P0, w0, K0, mg0, ca0, nm0, hf0, tb0, tq0⟩ := T
  cases hP
  cases hN
  exact (xb_cons (xs_rt (xe_idx hX (xe_var 1) (xe_call (D.d19.call hr) (fun _ _ _ _ z => callN_len (pg := pg) z) rfl t.f19 (xa_cons (fun _ z => nomatch z) (xe_var 0) (xa_cons (fun _ z => nomatch z) (xe_bif (b_len hX) rfl t.b_len (by decide +kernel) (xv_cons (xe_var 1) xv_nil rfl) (by decide) (by decide) rfl rfl) xa_nil rfl) rfl) (by decide) rfl rfl) (fun _ _ => rfl)))
  xb_nil)
theorem sc21 : FnScope ["jar", "thing", "turn"] ["jar"] (defScope s21) := ⟨rfl, rfl, rfl, by decide +kernel, rfl, by decide +kernel, by decide +kernel⟩
theorem body21 (t : Txt T a) (hP : T.hf = hfF) (hN : T.nm = nmF) (D : All T base a n) (cdv : Value) (A : Around) (outer : List PySem.Env) (s : Shared) (H : Hp) (E : XK) (hr : Room (2 * n + 1) (A.deeper (envOfC "_law_odd" (defScope s21) s.heap.objs.size (a 21) cdv))) :
    PXB (bX T base ["jar", "thing", "turn"] "_law_odd" s21 (a 21) cdv A outer s H E) T pg (callN pg n) (defBody s21) t21 := by
  have hX : XT T (bX T base ["jar", "thing", "turn"] "_law_odd" s21 (a 21) cdv A outer s H E) := xt_of hr
  have S := sc21
  obtain ⟨P0, w0, K0, mg0, ca0, nm0, hf0, tb0, tq0⟩ := T
  cases hP
  cases hN
  exact (xb_cons (xs_set (i := 1) S.nd rfl (by first | exact Or.inl rfl | exact Or.inr rfl) (xl_pl (xe_call (D.d20.call hr) (fun _ _ _ _ z => callN_len (pg := pg) z) rfl t.f20 (xa_cons (fun _ z => nomatch z) (xe_var 0) (xa_cons (fun _ z => nomatch z) (xe_lst (xa_cons (fun _ z => nomatch z) xe_lit (xa_cons (fun _ z => nomatch z) xe_lit (xa_cons (fun _ z => nomatch z) xe_lit (xa_cons (fun _ z => nomatch z) xe_lit (xa_cons (fun _ z => nomatch z) (xe_neg xe_lit) (xa_cons (fun _ z => nomatch z) xe_lit (xa_cons (fun _ z => nomatch z) (xe_bin (o_pow) xe_lit xe_lit) (xa_cons (fun _ z => nomatch z) xe_lit (xa_cons (fun _ z => nomatch z) xe_lit (xa_cons (fun _ z => nomatch z) xe_lit (xa_cons (fun _ z => nomatch z) (xe_tup xa_nil) (xa_cons (fun _ z => nomatch z) (xe_lst xa_nil) (xa_cons (fun _ z => nomatch z) xe_dct0 (xa_cons (fun _ z => nomatch z) (xe_tup (xa_cons (fun _ z => nomatch z) xe_lit xa_nil rfl)) (xa_cons (fun _ z => nomatch z) xe_lit (xa_cons (fun _ z => nomatch z) xe_lit (xa_cons (fun _ z => nomatch z) xe_lit (xa_cons (fun _ z => nomatch z) xe_lit xa_nil rfl) rfl) rfl) rfl) rfl) rfl) rfl) rfl) rfl) rfl) rfl) rfl) rfl) rfl) rfl) rfl) rfl) rfl)) xa_nil rfl) rfl) (by decide) rfl rfl)) rfl (.inl rfl))
  (xb_cons (xs_for PassesOwn.never rfl (xi_rng1 t.b_range (xe_call (D.d20.call hr) (fun _ _ _ _ z => callN_len (pg := pg) z) rfl t.f20 (xa_cons (fun _ z => nomatch z) (xe_var 0) (xa_cons (fun _ z => nomatch z) (xe_lst (xa_cons (fun _ z => nomatch z) xe_lit (xa_cons (fun _ z => nomatch z) xe_lit (xa_cons (fun _ z => nomatch z) xe_lit (xa_cons (fun _ z => nomatch z) xe_lit (xa_cons (fun _ z => nomatch z) xe_lit xa_nil rfl) rfl) rfl) rfl) rfl)) xa_nil rfl) rfl) (by decide) rfl rfl)) (xg_name (i := 2) S.nd rfl (by first | exact Or.inl rfl | exact Or.inr rfl) (by first | exact Or.inl rfl | exact Or.inr rfl)) (xb_cons (xs_set (i := 1) S.nd rfl (by first | exact Or.inl rfl | exact Or.inr rfl) (xl_pl (xe_call (D.d20.call hr) (fun _ _ _ _ z => callN_len (pg := pg) z) rfl t.f20 (xa_cons (fun _ z => nomatch z) (xe_var 0) (xa_cons (fun _ z => nomatch z) (xe_lst (xa_cons (fun _ z => nomatch z) (xe_tup (xa_cons (fun _ z => nomatch z) (xe_var 1) xa_nil rfl)) (xa_cons (fun _ z => nomatch z) (xe_lst (xa_cons (fun _ z => nomatch z) (xe_var 1) xa_nil rfl)) (xa_cons (fun _ z => nomatch z) (xe_dct1 (xe_var 1) rfl) (xa_cons (fun _ z => nomatch z) (xe_tup (xa_cons (fun _ z => nomatch z) (xe_var 1) (xa_cons (fun _ z => nomatch z) xe_lit xa_nil rfl) rfl)) xa_nil rfl) rfl) rfl) rfl)) xa_nil rfl) rfl) (by decide) rfl rfl)) rfl (.inl rfl))
  xb_nil) (fun _ => rfl))
  (xb_cons (xs_rt (xe_var 1))
  xb_nil)))
theorem sc22 : FnScope ["thing", "low", "high"] ["thing", "low", "high"] (defScope s22) := ⟨rfl, rfl, rfl, by decide +kernel, rfl, by decide +kernel, by decide +kernel⟩
theorem body22 (t : Txt T a) (hP : T.hf = hfF) (hN : T.nm = nmF) (D : All T base a n) (cdv : Value) (A : Around) (outer : List PySem.Env) (s : Shared) (H : Hp) (E : XK) (hr : Room (2 * n + 1) (A.deeper (envOfC "_law_is_number" (defScope s22) s.heap.objs.size (a 22) cdv))) :
    PXB (bX T base ["thing", "low", "high"] "_law_is_number" s22 (a 22) cdv A outer s H E) T pg (callN pg n) (defBody s22) t22 := by
  have hX : XT T (bX T base ["thing", "low", "high"] "_law_is_number" s22 (a 22) cdv A outer s H E) := xt_of hr
  have S := sc22
  obtain ⟨P0, w0, K0, mg0, ca0, nm0, hf0, tb0, tq0⟩ := T
  cases hP
  cases hN
  exact (xb_cons (xs_rt (xe_and (xe_andC (xe_isi (t := .int) hX rfl t.b_isinstance rfl t.b_int (by decide +kernel) (by decide) (by decide) (xe_var 0) rfl rfl rfl) (xe_andC (xe_not (xe_isi (t := .bool) hX rfl t.b_isinstance rfl t.b_bool (by decide +kernel) (by decide) (by decide) (xe_var 0) rfl rfl rfl)) (xe_andL (xe_cmp2 (c_le) (c_le) (xe_var 1) (xe_var 0) (xe_var 2) (by with_unfolding_all rfl)))))))
  xb_nil)
theorem sc23 : FnScope ["some", "low", "high", "many", "word"] ["some"] (defScope s23) := ⟨rfl, rfl, rfl, by decide +kernel, rfl, by decide +kernel, by decide +kernel⟩
theorem body23 (t : Txt T a) (hP : T.hf = hfF) (hN : T.nm = nmF) (D : All T base a n) (cdv : Value) (A : Around) (outer : List PySem.Env) (s : Shared) (H : Hp) (E : XK) (hr : Room (2 * n + 1) (A.deeper (envOfC "_law_due" (defScope s23) s.heap.objs.size (a 23) cdv))) (hg : A.guards = some []) :
    PXB (bX T base ["some", "low", "high", "many", "word"] "_law_due" s23 (a 23) cdv A outer s H E) T pg (callN pg n) (defBody s23) t23 := by
  have hX : XT T (bX T base ["some", "low", "high", "many", "word"] "_law_due" s23 (a 23) cdv A outer s H E) := xt_of hr
  have S := sc23
  obtain ⟨P0, w0, K0, mg0, ca0, nm0, hf0, tb0, tq0⟩ := T
  cases hP
  cases hN
  exact (xb_cons (xs_tgt (xe_var 0) (xg_tup hX (xg_cons (xg_name (i := 1) S.nd rfl (by first | exact Or.inl rfl | exact Or.inr rfl) (by first | exact Or.inl rfl | exact Or.inr rfl)) (xg_cons (xg_name (i := 2) S.nd rfl (by first | exact Or.inl rfl | exact Or.inr rfl) (by first | exact Or.inl rfl | exact Or.inr rfl)) (xg_cons (xg_name (i := 3) S.nd rfl (by first | exact Or.inl rfl | exact Or.inr rfl) (by first | exact Or.inl rfl | exact Or.inr rfl)) (xg_cons (xg_name (i := 4) S.nd rfl (by first | exact Or.inl rfl | exact Or.inr rfl) (by first | exact Or.inl rfl | exact Or.inr rfl)) xg_nil rfl) rfl) rfl) rfl) rfl rfl) rfl rfl rfl)
  (xb_cons (xs_if (xt_not (xt_val (xe_call (D.d22.call hr) (fun _ _ _ _ z => callN_len (pg := pg) z) rfl t.f22 (xa_cons (fun _ z => nomatch z) (xe_var 1) (xa_cons (fun _ z => nomatch z) xe_lit (xa_cons (fun _ z => nomatch z) xe_lit xa_nil rfl) rfl) rfl) (by decide) rfl rfl) (fun _ => rfl))) (xb_cons (xs_rt (xe_tup (xa_cons (fun _ z => nomatch z) xe_lit (xa_cons (fun _ z => nomatch z) (xe_var 1) xa_nil rfl) rfl)))
  xb_nil) xb_nil)
  (xb_cons (xs_if (xt_not (xt_val (xe_call (D.d22.call hr) (fun _ _ _ _ z => callN_len (pg := pg) z) rfl t.f22 (xa_cons (fun _ z => nomatch z) (xe_var 2) (xa_cons (fun _ z => nomatch z) (xe_var 1) (xa_cons (fun _ z => nomatch z) xe_lit xa_nil rfl) rfl) rfl) (by decide) rfl rfl) (fun _ => rfl))) (xb_cons (xs_rt (xe_tup (xa_cons (fun _ z => nomatch z) xe_lit (xa_cons (fun _ z => nomatch z) (xe_var 2) xa_nil rfl) rfl)))
  xb_nil) xb_nil)
  (xb_cons (xs_if (xt_not (xt_val (xe_call (D.d22.call hr) (fun _ _ _ _ z => callN_len (pg := pg) z) rfl t.f22 (xa_cons (fun _ z => nomatch z) (xe_var 3) (xa_cons (fun _ z => nomatch z) xe_lit (xa_cons (fun _ z => nomatch z) xe_lit xa_nil rfl) rfl) rfl) (by decide) rfl rfl) (fun _ => rfl))) (xb_cons (xs_rt (xe_tup (xa_cons (fun _ z => nomatch z) xe_lit (xa_cons (fun _ z => nomatch z) (xe_var 3) xa_nil rfl) rfl)))
  xb_nil) xb_nil)
  (xb_cons (xs_rt (xe_iteF (fa := false) (pa := false) (fb := false) (pb := false) (xt_cmp (c_in hX) (xe_bif (b_reprA hX hg) rfl t.b_repr (by decide +kernel) (xv_cons (xe_var 4) xv_nil rfl) (by decide) (by decide) rfl rfl) (xe_tup (xa_cons (fun _ z => nomatch z) xe_lit (xa_cons (fun _ z => nomatch z) xe_lit xa_nil rfl) rfl)) (by with_unfolding_all rfl)) (xe_tup (xa_cons (fun _ z => nomatch z) xe_lit (xa_cons (fun _ z => nomatch z) xe_lit xa_nil rfl) rfl)) (xe_tup (xa_cons (fun _ z => nomatch z) xe_lit (xa_cons (fun _ z => nomatch z) (xe_var 4) xa_nil rfl) rfl)) rfl rfl))
  xb_nil)))))
theorem sc24 : FnScope ["jar", "low", "right", "rows", "turn", "some", "again", "high", "many", "word", "shown", "due"] ["jar"] (defScope s24) := ⟨rfl, rfl, rfl, by decide +kernel, rfl, by decide +kernel, by decide +kernel⟩
theorem body24 (t : Txt T a) (hP : T.hf = hfF) (hN : T.nm = nmF) (D : All T base a n) (c : Addr) (D' : All T base a (n - 1)) (TB : LamX.TabB base T.mg c T.tb) {fdM : FuncData} (uM : Fun T.K "_law_met" "_law_met" sM (a 30) fdM) (bM0 : Binds T.K fdM ["query"] []) (A : Around) (outer : List PySem.Env) (s : Shared) (H : Hp) (E : XK) (hr : Room (2 * n + 1) (A.deeper (envOfC "_law_right" (defScope s24) s.heap.objs.size (a 24) (.ref c)))) (hg : A.guards = some []) :
    PXB (bX T base ["jar", "low", "right", "rows", "turn", "some", "again", "high", "many", "word", "shown", "due"] "_law_right" s24 (a 24) (.ref c) A outer s H E) T pg (callN pg n) (defBody s24) t24 := by
  have hX : XT T (bX T base ["jar", "low", "right", "rows", "turn", "some", "again", "high", "many", "word", "shown", "due"] "_law_right" s24 (a 24) (.ref c) A outer s H E) := xt_of hr
  have S := sc24
  obtain ⟨ocM, odM, kVM, dcM, pmM, anM, cdM, ctM, slM, eM, lkM, hcM⟩ := uM.ex
  have bM := eM ▸ bM0
  rw [eM] at lkM
  have tqE := t.tqE
  obtain ⟨P0, w0, K0, mg0, ca0, nm0, hf0, tb0, tq0⟩ := T
  cases hP
  cases hN
  cases tqE
  exact (xb_cons (xs_set (i := 1) S.nd rfl (by first | exact Or.inl rfl | exact Or.inr rfl) (xl_pl (xe_bin (o_add hX.K) xe_lit (xe_call (D.d19.call hr) (fun _ _ _ _ z => callN_len (pg := pg) z) rfl t.f19 (xa_cons (fun _ z => nomatch z) (xe_var 0) (xa_cons (fun _ z => nomatch z) xe_lit xa_nil rfl) rfl) (by decide) rfl rfl))) rfl (.inl rfl))
  (xb_cons (xs_set (i := 2) S.nd rfl (by first | exact Or.inl rfl | exact Or.inr rfl) (xl_pl (xe_lst (xa_cons (fun _ z => nomatch z) (xe_var 1) (xa_cons (fun _ z => nomatch z) (xe_bin (o_add hX.K) (xe_var 1) (xe_call (D.d19.call hr) (fun _ _ _ _ z => callN_len (pg := pg) z) rfl t.f19 (xa_cons (fun _ z => nomatch z) (xe_var 0) (xa_cons (fun _ z => nomatch z) xe_lit xa_nil rfl) rfl) (by decide) rfl rfl)) (xa_cons (fun _ z => nomatch z) (xe_bin (o_add hX.K) xe_lit (xe_call (D.d19.call hr) (fun _ _ _ _ z => callN_len (pg := pg) z) rfl t.f19 (xa_cons (fun _ z => nomatch z) (xe_var 0) (xa_cons (fun _ z => nomatch z) xe_lit xa_nil rfl) rfl) (by decide) rfl rfl)) (xa_cons (fun _ z => nomatch z) (xe_call (D.d20.call hr) (fun _ _ _ _ z => callN_len (pg := pg) z) rfl t.f20 (xa_cons (fun _ z => nomatch z) (xe_var 0) (xa_cons (fun _ z => nomatch z) (xe_lst (xa_cons (fun _ z => nomatch z) xe_lit (xa_cons (fun _ z => nomatch z) xe_lit xa_nil rfl) rfl)) xa_nil rfl) rfl) (by decide) rfl rfl) xa_nil rfl) rfl) rfl) rfl))) rfl (.inl rfl))
  (xb_cons (xs_set (i := 3) S.nd rfl (by first | exact Or.inl rfl | exact Or.inr rfl) (xl_own (xe_lst (xa_cons (fun _ z => nomatch z) (xe_var 2) (xa_cons (fun _ z => nomatch z) (xe_lst (xa_cons (fun _ z => nomatch z) xe_lit (xa_cons (fun _ z => nomatch z) xe_lit (xa_cons (fun _ z => nomatch z) xe_lit (xa_cons (fun _ z => nomatch z) xe_lit xa_nil rfl) rfl) rfl) rfl)) (xa_cons (fun _ z => nomatch z) (xe_lst (xa_cons (fun _ z => nomatch z) xe_lit (xa_cons (fun _ z => nomatch z) xe_lit (xa_cons (fun _ z => nomatch z) xe_lit (xa_cons (fun _ z => nomatch z) xe_lit xa_nil rfl) rfl) rfl) rfl)) (xa_cons (fun _ z => nomatch z) (xe_lst (xa_cons (fun _ z => nomatch z) xe_lit (xa_cons (fun _ z => nomatch z) xe_lit (xa_cons (fun _ z => nomatch z) xe_lit (xa_cons (fun _ z => nomatch z) xe_lit xa_nil rfl) rfl) rfl) rfl)) (xa_cons (fun _ z => nomatch z) (xe_lst (xa_cons (fun _ z => nomatch z) xe_lit (xa_cons (fun _ z => nomatch z) xe_lit (xa_cons (fun _ z => nomatch z) xe_lit (xa_cons (fun _ z => nomatch z) xe_lit xa_nil rfl) rfl) rfl) rfl)) (xa_cons (fun _ z => nomatch z) (xe_lst (xa_cons (fun _ z => nomatch z) xe_lit (xa_cons (fun _ z => nomatch z) xe_lit (xa_cons (fun _ z => nomatch z) xe_lit (xa_cons (fun _ z => nomatch z) xe_lit xa_nil rfl) rfl) rfl) rfl)) xa_nil rfl) rfl) rfl) rfl) rfl) rfl))) rfl (.inl rfl))
  (xb_cons (xs_set (i := 3) S.nd rfl (by first | exact Or.inl rfl | exact Or.inr rfl) (xl_own (xe_bin (o_add hX.K) (xe_peek 3) (xe_lst (xa_cons (fun _ z => nomatch z) (xe_lst (xa_cons (fun _ z => nomatch z) xe_lit (xa_cons (fun _ z => nomatch z) xe_lit (xa_cons (fun _ z => nomatch z) xe_lit (xa_cons (fun _ z => nomatch z) xe_lit xa_nil rfl) rfl) rfl) rfl)) (xa_cons (fun _ z => nomatch z) (xe_lst (xa_cons (fun _ z => nomatch z) xe_lit (xa_cons (fun _ z => nomatch z) xe_lit (xa_cons (fun _ z => nomatch z) xe_lit (xa_cons (fun _ z => nomatch z) xe_lit xa_nil rfl) rfl) rfl) rfl)) (xa_cons (fun _ z => nomatch z) (xe_lst (xa_cons (fun _ z => nomatch z) xe_lit (xa_cons (fun _ z => nomatch z) xe_lit (xa_cons (fun _ z => nomatch z) xe_lit (xa_cons (fun _ z => nomatch z) xe_lit xa_nil rfl) rfl) rfl) rfl)) (xa_cons (fun _ z => nomatch z) (xe_lst (xa_cons (fun _ z => nomatch z) xe_lit (xa_cons (fun _ z => nomatch z) xe_lit (xa_cons (fun _ z => nomatch z) xe_lit (xa_cons (fun _ z => nomatch z) xe_lit xa_nil rfl) rfl) rfl) rfl)) (xa_cons (fun _ z => nomatch z) (xe_lst (xa_cons (fun _ z => nomatch z) xe_lit (xa_cons (fun _ z => nomatch z) xe_lit (xa_cons (fun _ z => nomatch z) xe_lit (xa_cons (fun _ z => nomatch z) xe_lit xa_nil rfl) rfl) rfl) rfl)) xa_nil rfl) rfl) rfl) rfl) rfl)))) rfl (.inl rfl))
  (xb_cons (xs_set (i := 3) S.nd rfl (by first | exact Or.inl rfl | exact Or.inr rfl) (xl_own (xe_bin (o_add hX.K) (xe_peek 3) (xe_lst (xa_cons (fun _ z => nomatch z) (xe_lst (xa_cons (fun _ z => nomatch z) xe_lit (xa_cons (fun _ z => nomatch z) xe_lit (xa_cons (fun _ z => nomatch z) xe_lit (xa_cons (fun _ z => nomatch z) xe_lit xa_nil rfl) rfl) rfl) rfl)) (xa_cons (fun _ z => nomatch z) (xe_lst (xa_cons (fun _ z => nomatch z) xe_lit (xa_cons (fun _ z => nomatch z) xe_lit (xa_cons (fun _ z => nomatch z) xe_lit (xa_cons (fun _ z => nomatch z) xe_lit xa_nil rfl) rfl) rfl) rfl)) (xa_cons (fun _ z => nomatch z) (xe_lst (xa_cons (fun _ z => nomatch z) xe_lit (xa_cons (fun _ z => nomatch z) xe_lit (xa_cons (fun _ z => nomatch z) xe_lit (xa_cons (fun _ z => nomatch z) (xe_tup (xa_cons (fun _ z => nomatch z) xe_lit xa_nil rfl)) xa_nil rfl) rfl) rfl) rfl)) (xa_cons (fun _ z => nomatch z) (xe_lst (xa_cons (fun _ z => nomatch z) xe_lit (xa_cons (fun _ z => nomatch z) xe_lit (xa_cons (fun _ z => nomatch z) xe_lit (xa_cons (fun _ z => nomatch z) xe_lit xa_nil rfl) rfl) rfl) rfl)) (xa_cons (fun _ z => nomatch z) (xe_lst (xa_cons (fun _ z => nomatch z) xe_lit (xa_cons (fun _ z => nomatch z) xe_lit (xa_cons (fun _ z => nomatch z) xe_lit (xa_cons (fun _ z => nomatch z) xe_lit xa_nil rfl) rfl) rfl) rfl)) xa_nil rfl) rfl) rfl) rfl) rfl)))) rfl (.inl rfl))
  (xb_cons (xs_for PassesOwn.never rfl (xi_rng1 t.b_range xe_lit) (xg_name (i := 4) S.nd rfl (by first | exact Or.inl rfl | exact Or.inr rfl) (by first | exact Or.inl rfl | exact Or.inr rfl)) (xb_cons (xs_set (i := 5) S.nd rfl (by first | exact Or.inl rfl | exact Or.inr rfl) (xl_own (xe_bity (b_list hX) rfl t.b_list (by decide +kernel) (xv_cons (xe_var 2) xv_nil rfl) (by decide) (by decide) rfl rfl)) rfl (.inl rfl))
  (xb_cons (xs_for PassesOwn.never rfl (xi_rng1 t.b_range (xe_bin (o_add hX.K) xe_lit (xe_call (D.d19.call hr) (fun _ _ _ _ z => callN_len (pg := pg) z) rfl t.f19 (xa_cons (fun _ z => nomatch z) (xe_var 0) (xa_cons (fun _ z => nomatch z) xe_lit xa_nil rfl) rfl) (by decide) rfl rfl))) (xg_name (i := 6) S.nd rfl (by first | exact Or.inl rfl | exact Or.inr rfl) (by first | exact Or.inl rfl | exact Or.inr rfl)) (xb_cons (xs_puti (i := 5) rfl (by first | exact Or.inl rfl | exact Or.inr (Or.inl rfl) | exact Or.inr (Or.inr rfl)) (by decide) (by decide) (xe_call (D.d21.call hr) (fun _ _ _ _ z => callN_len (pg := pg) z) rfl t.f21 (xa_cons (fun _ z => nomatch z) (xe_var 0) xa_nil rfl) (by decide) rfl rfl) (xe_call (D.d19.call hr) (fun _ _ _ _ z => callN_len (pg := pg) z) rfl t.f19 (xa_cons (fun _ z => nomatch z) (xe_var 0) (xa_cons (fun _ z => nomatch z) xe_lit xa_nil rfl) rfl) (by decide) rfl rfl) rfl rfl rfl (fun _ => rfl))
  xb_nil) (fun _ => rfl))
  (xb_cons (xs_if (xt_not (xt_and (xw_andC (xt_val (xe_call (D.d22.call hr) (fun _ _ _ _ z => callN_len (pg := pg) z) rfl t.f22 (xa_cons (fun _ z => nomatch z) (xe_idx hX (xe_peek 5) xe_lit (fun _ _ => rfl)) (xa_cons (fun _ z => nomatch z) xe_lit (xa_cons (fun _ z => nomatch z) xe_lit xa_nil rfl) rfl) rfl) (by decide) rfl rfl) (fun _ => rfl)) (xw_andL (xt_val (xe_call (D.d22.call hr) (fun _ _ _ _ z => callN_len (pg := pg) z) rfl t.f22 (xa_cons (fun _ z => nomatch z) (xe_idx hX (xe_peek 5) xe_lit (fun _ _ => rfl)) (xa_cons (fun _ z => nomatch z) (xe_bin (o_add hX.K) (xe_idx hX (xe_peek 5) xe_lit (fun _ _ => rfl)) xe_lit) (xa_cons (fun _ z => nomatch z) xe_lit xa_nil rfl) rfl) rfl) (by decide) rfl rfl) (fun _ => rfl)))))) (xb_freeze (xb_cons (xs_app (i := 3) rfl (by first | exact Or.inl rfl | exact Or.inr (Or.inl rfl) | exact Or.inr (Or.inr rfl)) (by decide) (by decide) (xe_var 5) rfl rfl rfl rfl rfl rfl)
  xb_nil)) xb_nil)
  xb_nil))) (fun _ => rfl))
  (xb_freeze (xb_cons (xs_for PassesOwn.never rfl (xi_src hX (xe_var 3)) (xg_tup hX (xg_cons (xg_name (i := 1) S.nd rfl (by first | exact Or.inl rfl | exact Or.inr rfl) (by first | exact Or.inl rfl | exact Or.inr rfl)) (xg_cons (xg_name (i := 7) S.nd rfl (by first | exact Or.inl rfl | exact Or.inr rfl) (by first | exact Or.inl rfl | exact Or.inr rfl)) (xg_cons (xg_name (i := 8) S.nd rfl (by first | exact Or.inl rfl | exact Or.inr rfl) (by first | exact Or.inl rfl | exact Or.inr rfl)) (xg_cons (xg_name (i := 9) S.nd rfl (by first | exact Or.inl rfl | exact Or.inr rfl) (by first | exact Or.inl rfl | exact Or.inr rfl)) xg_nil rfl) rfl) rfl) rfl) rfl rfl) (xb_cons (xs_par (i := 10) (j := 11) rfl S.nd rfl rfl (by decide) rfl rfl (xl_pl (xe_bif (b_reprA hX hg) rfl t.b_repr (by decide +kernel) (xv_cons (xe_tup (xa_cons (fun _ z => nomatch z) (xe_var 1) (xa_cons (fun _ z => nomatch z) (xe_var 7) (xa_cons (fun _ z => nomatch z) (xe_var 8) (xa_cons (fun _ z => nomatch z) (xe_var 9) xa_nil rfl) rfl) rfl) rfl)) xv_nil rfl) (by decide) (by decide) rfl rfl)) (xl_pl (xe_bif (b_reprA hX hg) rfl t.b_repr (by decide +kernel) (xv_cons (xe_callG (D.d23.call hr hg) (fun _ _ _ _ z => callN_len (pg := pg) z) rfl t.f23 (xa_cons (fun _ z => nomatch z) (xe_tup (xa_cons (fun _ z => nomatch z) (xe_var 1) (xa_cons (fun _ z => nomatch z) (xe_var 7) (xa_cons (fun _ z => nomatch z) (xe_var 8) (xa_cons (fun _ z => nomatch z) (xe_var 9) xa_nil rfl) rfl) rfl) rfl)) xa_nil rfl) (by decide) rfl rfl) xv_nil rfl) (by decide) (by decide) rfl rfl)) rfl rfl rfl rfl)
  (xb_cons (xs_if (xt_cmp (c_ne hX.K hX.u64) (xe_bif (b_reprA hX hg) rfl t.b_repr (by decide +kernel) (xv_cons (xe_met (n := n) (is := [1, 7, 8, 9]) (ws := wsM) (as := (.cons (.var 0) (.cons (.var 1) (.cons (.var 2) (.cons (.var 3) .nil))))) (qs := ["least", "most", "doors", "counting"]) hX rfl t.fM uM.kp lkM hcM bM scM rfl (.inl rfl) (metG t _ rfl rfl) (hMet t) TB rfl rfl hr (LamX.lamS_by (sc := defScope s24) (by decide +kernel)) rfl (fun _ _ _ _ _ => rfl) D'.d17 rfl rfl t.f17 (by decide) (by decide) rfl (fun _ _ _ _ _ _ _ => rfl) (fun _ _ _ _ _ _ _ => rfl)
          (fun A outer s H E f c' hr2 => show PXA _ _ pg (callN pg (n - 1)) _ (.cons (.var 1) (.cons (.var 7) (.cons (.var 8) (.cons (.var 9) .nil)))) from (xa_cons (fun _ z => nomatch z) (xe_var 1) (xa_cons (fun _ z => nomatch z) (xe_var 7) (xa_cons (fun _ z => nomatch z) (xe_var 8) (xa_cons (fun _ z => nomatch z) (xe_var 9) xa_nil rfl) rfl) rfl) rfl))) xv_nil rfl) (by decide) (by decide) rfl rfl) (xe_var 11) (nomark _)) (xb_cons (xs_rt xe_lit)
  xb_nil) xb_nil)
  (xb_cons (xs_if (xt_cmp (c_ne hX.K hX.u64) (xe_bif (b_reprA hX hg) rfl t.b_repr (by decide +kernel) (xv_cons (xe_met (n := n) (is := [1, 7, 8, 9, 0]) (ws := wsM) (as := (.cons (.var 0) (.cons (.var 1) (.cons (.var 2) (.cons (.var 3) (.cons (.call 21 (.cons (.var 4) .nil)) .nil)))))) (qs := ["least", "most", "doors", "counting", "value"]) hX rfl t.fM uM.kp lkM hcM bM scM rfl (.inl rfl) (metG t _ rfl rfl) (hMet t) TB rfl rfl hr (LamX.lamS_by (sc := defScope s24) (by decide +kernel)) rfl (fun _ _ _ _ _ => rfl) D'.d27 rfl rfl t.f27 (by decide) (by decide) rfl (fun _ _ _ _ _ _ _ => rfl) (fun _ _ _ _ _ _ _ => rfl)
          (fun A outer s H E f c' hr2 => show PXA _ _ pg (callN pg (n - 1)) _ (.cons (.var 1) (.cons (.var 7) (.cons (.var 8) (.cons (.var 9) (.cons (.call 21 (.cons (.var 0) .nil)) .nil))))) from (xa_cons (fun _ z => nomatch z) (xe_var 1) (xa_cons (fun _ z => nomatch z) (xe_var 7) (xa_cons (fun _ z => nomatch z) (xe_var 8) (xa_cons (fun _ z => nomatch z) (xe_var 9) (xa_cons (fun _ z => nomatch z) (xe_call (np := 1) (DefI.lam (qs := ["jar"]) D'.d21 hX hr2) (fun _ _ _ _ z => callN_len (pg := pg) z) rfl t.f21 (xa_cons (fun _ z => nomatch z) (xe_var 0) xa_nil rfl) (by decide) rfl rfl) xa_nil rfl) rfl) rfl) rfl) rfl))) xv_nil rfl) (by decide) (by decide) rfl rfl) (xe_var 11) (nomark _)) (xb_cons (xs_rt xe_lit)
  xb_nil) xb_nil)
  (xb_cons (xs_if (xt_cmp (c_ne hX.K hX.u64) (xe_bif (b_reprA hX hg) rfl t.b_repr (by decide +kernel) (xv_cons (xe_tup (xa_cons (fun _ z => nomatch z) (xe_var 1) (xa_cons (fun _ z => nomatch z) (xe_var 7) (xa_cons (fun _ z => nomatch z) (xe_var 8) (xa_cons (fun _ z => nomatch z) (xe_var 9) xa_nil rfl) rfl) rfl) rfl)) xv_nil rfl) (by decide) (by decide) rfl rfl) (xe_var 10) (nomark _)) (xb_cons (xs_rt xe_lit)
  xb_nil) xb_nil)
  xb_nil)))) (fun _ => rfl))
  (xb_cons (xs_rt xe_lit)
  xb_nil)))))))))
theorem sc25 : FnScope ["script", "k", "jar", "turn"] ["script"] (defScope s25) := ⟨rfl, rfl, rfl, by decide +kernel, rfl, by decide +kernel, by decide +kernel⟩
theorem body25 (t : Txt T a) (hP : T.hf = hfF) (hN : T.nm = nmF) (D : All T base a n) (cdv : Value) (A : Around) (outer : List PySem.Env) (s : Shared) (H : Hp) (E : XK) (hr : Room (2 * n + 1) (A.deeper (envOfC "law" (defScope s25) s.heap.objs.size (a 25) cdv))) (hg : A.guards = some []) :
    PXB (bX T base ["script", "k", "jar", "turn"] "law" s25 (a 25) cdv A outer s H E) T pg (callN pg n) (defBody s25) t25 := by
  have hX : XT T (bX T base ["script", "k", "jar", "turn"] "law" s25 (a 25) cdv A outer s H E) := xt_of hr
  have S := sc25
  obtain ⟨P0, w0, K0, mg0, ca0, nm0, hf0, tb0, tq0⟩ := T
  cases hP
  cases hN
  exact (xb_cons (xs_for PassesOwn.never rfl (xi_rng1 t.b_range (xe_bif (b_max hX) rfl t.b_max (by decide +kernel) (xv_cons xe_lit (xv_cons (xe_bif (b_min hX) rfl t.b_min (by decide +kernel) (xv_cons xe_lit (xv_cons (xe_bif (b_len hX) rfl t.b_len (by decide +kernel) (xv_cons (xe_var 0) xv_nil rfl) (by decide) (by decide) rfl rfl) xv_nil rfl) rfl) (by decide) (by decide) rfl rfl) xv_nil rfl) rfl) (by decide) (by decide) rfl rfl)) (xg_name (i := 1) S.nd rfl (by first | exact Or.inl rfl | exact Or.inr rfl) (by first | exact Or.inl rfl | exact Or.inr rfl)) (xb_cons (xs_set (i := 2) S.nd rfl (by first | exact Or.inl rfl | exact Or.inr rfl) (xl_pl (xe_call (D.d18.call hr) (fun _ _ _ _ z => callN_len (pg := pg) z) rfl t.f18 (xa_cons (fun _ z => nomatch z) (xe_var 0) (xa_cons (fun _ z => nomatch z) (xe_var 1) xa_nil rfl) rfl) (by decide) rfl rfl)) rfl (.inl rfl))
  (xb_cons (xs_if (xt_not (xt_val (xe_bif (b_all hX) rfl t.b_all (by decide +kernel) (xv_cons (xe_lc (own := [("turn", 3)]) hX S.nd (xi_rng1 t.b_range xe_lit) (blkOk_by (N := ["script", "k", "jar", "turn"]) (sc := defScope s25) (by decide +kernel)) rfl (fun _ _ _ _ _ => (xg_name (i := 3) S.nd rfl (by first | exact Or.inl rfl | exact Or.inr rfl) (by first | exact Or.inl rfl | exact Or.inr rfl))) (fun _ _ _ _ _ => xts_nil) (fun _ _ _ _ _ => (xe_callG (D.d24.call hr hg).blk (fun _ _ _ _ z => callN_len (pg := pg) z) rfl t.f24 (xa_cons (fun _ z => nomatch z) (xe_var 2) xa_nil rfl) (by decide) rfl rfl))) xv_nil rfl) (by decide) (by decide) rfl rfl) (fun _ => rfl))) (xb_cons (xs_rt xe_lit)
  xb_nil) xb_nil)
  xb_nil)) (fun _ => rfl))
  (xb_cons (xs_rt xe_lit)
  xb_nil))
theorem sc26 : FnScope ["value", "low", "high"] ["value", "low", "high"] (defScope s26) := ⟨rfl, rfl, rfl, by decide +kernel, rfl, by decide +kernel, by decide +kernel⟩
theorem body26 (t : Txt T a) (hP : T.hf = hfF) (hN : T.nm = nmF) (D : All T base a n) (cdv : Value) (A : Around) (outer : List PySem.Env) (s : Shared) (H : Hp) (E : XK) (hr : Room (2 * n + 1) (A.deeper (envOfC "is_tuple" (defScope s26) s.heap.objs.size (a 26) cdv))) :
    PXB (bX T base ["value", "low", "high"] "is_tuple" s26 (a 26) cdv A outer s H E) T pg (callN pg n) (defBody s26) t26 := by
  have hX : XT T (bX T base ["value", "low", "high"] "is_tuple" s26 (a 26) cdv A outer s H E) := xt_of hr
  have S := sc26
  obtain ⟨P0, w0, K0, mg0, ca0, nm0, hf0, tb0, tq0⟩ := T
  cases hP
  cases hN
  exact (xb_cons (xs_rt (xe_and (xe_andC (xe_isi (t := .tuple) hX rfl t.b_isinstance rfl t.b_tuple (by decide +kernel) (by decide) (by decide) (xe_var 0) rfl rfl rfl) (xe_andL (xe_cmp2 (c_le) (c_le) (xe_var 1) (xe_bif (b_len hX) rfl t.b_len (by decide +kernel) (xv_cons (xe_var 0) xv_nil rfl) (by decide) (by decide) rfl rfl) (xe_var 2) (by with_unfolding_all rfl))))))
  xb_nil)
theorem sc27 : FnScope ["least", "most", "doors", "counting", "value", "time", "plan", "table", "begun"] ["least", "most", "doors", "counting", "value"] (defScope s27) := ⟨rfl, rfl, rfl, by decide +kernel, rfl, by decide +kernel, by decide +kernel⟩
theorem body27 (t : Txt T a) (hP : T.hf = hfF) (hN : T.nm = nmF) (D : All T base a n) (cdv : Value) (A : Around) (outer : List PySem.Env) (s : Shared) (H : Hp) (E : XK) (hr : Room (2 * n + 1) (A.deeper (envOfC "shows_learned" (defScope s27) s.heap.objs.size (a 27) cdv))) :
    PXBX (bXX T base ["least", "most", "doors", "counting", "value", "time", "plan", "table", "begun"] "shows_learned" s27 (a 27) cdv A outer s H E) T pg (callN pg n) E (defBody s27) t27 := by
  have hX : XT T (bXX T base ["least", "most", "doors", "counting", "value", "time", "plan", "table", "begun"] "shows_learned" s27 (a 27) cdv A outer s H E) := xtx_of hr
  have S := sc27
  obtain ⟨P0, w0, K0, mg0, ca0, nm0, hf0, tb0, tq0⟩ := T
  cases hP
  cases hN
  exact (xbx_cons (xsx_call bxx_takes (D.d16.call hr) (fun _ _ z => callN_lenX (pg := pg) z) rfl t.f16 (xa_cons (fun _ z => nomatch z) (xe_var 0) (xa_cons (fun _ z => nomatch z) (xe_var 1) (xa_cons (fun _ z => nomatch z) (xe_var 2) (xa_cons (fun _ z => nomatch z) (xe_var 3) xa_nil rfl) rfl) rfl) rfl) (by decide) rfl rfl rfl)
  (xbx_cons (xsx_q (xs_if (xt_or (xw_orC (xt_not (xt_val (xe_call (D.d26.callX hr) (fun _ _ _ _ z => callN_len (pg := pg) z) rfl t.f26 (xa_cons (fun _ z => nomatch z) (xe_var 4) (xa_cons (fun _ z => nomatch z) (xe_globI t.g4.choose_spec rfl) (xa_cons (fun _ z => nomatch z) (xe_globI t.g4.choose_spec rfl) xa_nil rfl) rfl) rfl) (by decide) rfl rfl) (fun _ => rfl))) (xw_orL (xt_not (xt_val (xe_call (D.d0.callX hr) (fun _ _ _ _ z => callN_len (pg := pg) z) rfl t.f0 (xa_cons (fun _ z => nomatch z) (xe_idx hX (xe_var 4) xe_lit (fun _ _ => rfl)) xa_nil rfl) (by decide) rfl rfl) (fun _ => rfl)))))) (xb_cons (xs_rt xe_lit)
  xb_nil) xb_nil))
  (xbx_cons (xsx_q (xs_tgt (xe_var 4) (xg_tup hX (xg_cons (xg_name (i := 5) S.nd rfl (by first | exact Or.inl rfl | exact Or.inr rfl) (by first | exact Or.inl rfl | exact Or.inr rfl)) (xg_cons (xg_name (i := 6) S.nd rfl (by first | exact Or.inl rfl | exact Or.inr rfl) (by first | exact Or.inl rfl | exact Or.inr rfl)) (xg_cons (xg_name (i := 7) S.nd rfl (by first | exact Or.inl rfl | exact Or.inr rfl) (by first | exact Or.inl rfl | exact Or.inr rfl)) xg_nil rfl) rfl) rfl) rfl rfl) rfl rfl rfl))
  (xbx_cons (xsx_q xs_never)
  (xbx_cons (xsx_q xs_never)
  xbx_nil)))))
end
end K77
end ZK77a
section ZK77m
set_option Elab.async false
set_option linter.all false
set_option maxRecDepth 100000
set_option maxHeartbeats 400000
namespace K77
open PySem PD
theorem vw_int (i : Int) : vw (.int i) = ret (.int i) := rfl
theorem vw_tup (i : List D) : vw (.tup i) = ret (.tup i) := rfl
theorem vw_lst (i : List D) : vw (.lst i) = ret (.lst i) := rfl
theorem vw_str (i : Str) : vw (.str i) = ret (.str i) := rfl
theorem vw_bl (i : Bool) : vw (.bl i) = ret (.bl i) := rfl
theorem vw_non : vw .non = ret .non := rfl
theorem vw_dct (k : List (D × D)) : vw (.dct k) = ret (.dct k) := rfl
theorem vws_nil : vws [] = ret [] := rfl
/-- a list that is known inD -/
def inD (ns : List Int) : List D := ns.map .int
def stD (l m : Int) (as : List Int) : D := .tup [.int l, .int m, .tup (inD as)]
theorem mapL_pure {f : D → M (Option D)} {g : D → Option D} (h : ∀ d ∈ ds, f d = ret (g d)) : mapL f ds = ret (ds.filterMap g) := by
  induction ds with
  | nil => rfl
  | cons d ds ih =>
    unfold mapL
    rw [h d (List.mem_cons_self ..), ih fun x hx => h x (List.mem_cons_of_mem _ hx)]
    simp only [bnd_ret, List.filterMap_cons]
    cases g d <;> rfl
theorem callS (n f : Nat) (ds : List D) : callN pg (n + 1) f ds = runF pg (callN pg n) (pg.fn f) ds := rfl
theorem known_ev (n : Nat) (l m : Int) (as : List Int) : callN pg (n + 1) 5 [stD l m as] = ret (.bl (decide (l = m))) := by
  show runF pg (callN pg n) ⟨1, 1, t5⟩ [stD l m as] = _
  unfold runF t5
  simp [evB, evS, evE, stD, vw_tup, vw_int, bnd_ret, opt, idxD, atI, PD.ixN, cmpD, D.eqOk, D.plain, D.depth, D.eqv]
  rfl
theorem dInts_inD : ∀ ns : List Int, dInts (inD ns) = some ns
  | [] => rfl
  | n :: ns => by
    show (dInts (inD ns)).map (n :: ·) = _
    rw [dInts_inD ns]; rfl
theorem vws_ret {ds : List D} (h : ∀ d ∈ ds, vw d = ret d) : vws ds = ret ds := by
  funext st
  have : ds.map (view st) = ds := by
    conv => rhs; rw [← List.map_id ds]
    refine List.map_congr_left fun d hd => ?_
    have := congrFun (h d hd) st
    exact (Res.ok.inj this).1
  show Res.ok (ds.map (view st)) st = Res.ok ds st
  rw [this]
theorem inD_len (ns : List Int) : (inD ns).length = ns.length := by simp [inD]
theorem mapL_inD {f : D → M (Option D)} (g : Int → Option Int) {as : List Int} (h : ∀ a ∈ as, f (.int a) = ret ((g a).map .int)) : mapL f (inD as) = ret (inD (as.filterMap g)) := by
  induction as with
  | nil => rfl
  | cons a as ih =>
    show bnd (f (.int a)) _ = _
    rw [h a (List.mem_cons_self ..)]
    simp only [bnd_ret]
    show bnd (mapL f (inD as)) _ = _
    rw [ih fun x hx => h x (List.mem_cons_of_mem _ hx)]
    simp only [bnd_ret, List.filterMap_cons]
    cases g a <;> rfl
theorem filterMap_if (p : Int → Bool) : ∀ as : List Int, as.filterMap (fun a => if p a then some a else none) = as.filter p
  | [] => rfl
  | a :: as => by
    rw [List.filterMap_cons, List.filter_cons, filterMap_if p as]
    cases p a <;> rfl
section
variable {P : Prog} {cf : Calls} {s b : PD.X} {env env' : PD.Env}
theorem evB_nx (h : evS P cf s env = ret (.nx env')) : evB P cf (.cons s b) env = evB P cf b env' := by
  show bnd (evS P cf s env) _ = _
  rw [h]; rfl
theorem evB_rt {d : D} (h : evS P cf s env = ret (.rt d)) : evB P cf (.cons s b) env = ret (.rt d) := by
  show bnd (evS P cf s env) _ = _
  rw [h]; rfl
theorem ev_lc {own : List Nat} {tg it t elt : PD.X} {as : List Int} (g : Int → Option Int) (hi : evIt P cf it env = ret (inD as)) (hl : as.length ≤ LIM)
    (h : ∀ a ∈ as, (match bindT tg (.int a) (PD.wipe env own) with
        | some e => bnd (bnd (evE P cf t e) blD) fun c => if c then bnd (evE P cf elt e) fun y => ret (some y) else ret none
        | none => fail) = ret ((g a).map .int)) : evE P cf (.lc own tg it t elt) env = ret (.lst (inD (as.filterMap g))) := by
  show bnd (evIt P cf it env) _ = _
  rw [hi]
  simp only [bnd_ret]
  rw [if_pos (by rw [inD_len]; exact hl), mapL_inD g h]
  rfl
theorem ev_if {t b b' : PD.X} {c : Bool} (h : evE P cf t env = ret (.bl c)) : evS P cf (.if_ t b b') env = if c then evB P cf b env else evB P cf b' env := by
  show bnd (bnd (evE P cf t env) blD) _ = _
  rw [h]
  rfl
theorem vw_of {d : D} (h : ∀ i, d ≠ .ref i) : vw d = ret d := by
  cases d <;> first | rfl | exact absurd rfl (h _)
theorem ev_bif1 {k : Bi} {x : PD.X} {d r : D} (h : evE P cf x env = ret d) (hv : ∀ i, d ≠ .ref i) (hb : biD k [d] = some r) : evE P cf (.bif k (.cons x .nil)) env = ret r := by
  show bnd (bnd (evE P cf x env) fun d => bnd (ret []) fun ds => ret (d :: ds)) (fun ds => bnd (vws ds) fun ds => opt (biD k ds)) = _
  rw [h]
  simp only [bnd_ret]
  rw [vws_ret (fun e he => by simp at he; subst he; exact vw_of hv)]
  show opt (biD k [d]) = _
  rw [hb]; rfl
theorem ev_bif2 {k : Bi} {x y : PD.X} {d e r : D} (h : evE P cf x env = ret d) (h2 : evE P cf y env = ret e) (hv : ∀ i, d ≠ .ref i) (hv2 : ∀ i, e ≠ .ref i) (hb : biD k [d, e] = some r) : evE P cf (.bif k (.cons x (.cons y .nil))) env = ret r := by
  show bnd (bnd (evE P cf x env) fun d => bnd (bnd (evE P cf y env) fun d => bnd (ret []) fun ds => ret (d :: ds)) fun ds => ret (d :: ds)) (fun ds => bnd (vws ds) fun ds => opt (biD k ds)) = _
  rw [h, h2]
  simp only [bnd_ret]
  rw [vws_ret (fun z he => by
    simp at he
    rcases he with rfl | rfl
    · exact vw_of hv
    · exact vw_of hv2)]
  show opt (biD k [d, e]) = _
  rw [hb]; rfl
theorem evA_cons {x r : PD.X} {d : D} {ds : List D} (hx : ∀ y, x ≠ .star y) (h : evE P cf x env = ret d) (h2 : evA P cf r env = ret ds) : evA P cf (.cons x r) env = ret (d :: ds) := by
  have : evA P cf (.cons x r) env = bnd (evE P cf x env) fun d => bnd (evA P cf r env) fun ds => ret (d :: ds) := by
    cases x <;> first | rfl | exact absurd rfl (hx _)
  rw [this, h, h2]; rfl
theorem evA_star {x r : PD.X} {d ds : List D} (h : evIt P cf x env = ret d) (h2 : evA P cf r env = ret ds) : evA P cf (.cons (.star x) r) env = ret (d ++ ds) := by
  show bnd (evIt P cf x env) _ = _
  rw [h]
  show bnd (evA P cf r env) _ = _
  rw [h2]; rfl
theorem ev_tup {x : PD.X} {ds : List D} (h : evA P cf x env = ret ds) (hl : ds.length ≤ LIM) : evE P cf (.tup x) env = ret (.tup ds) := by
  show bnd (evA P cf x env) _ = _
  rw [h, bnd_ret, if_pos hl]
theorem ev_lst {x : PD.X} {ds : List D} (h : evA P cf x env = ret ds) (hl : ds.length ≤ LIM) : evE P cf (.lst x) env = ret (.lst ds) := by
  show bnd (evA P cf x env) _ = _
  rw [h, bnd_ret, if_pos hl]
theorem ev_call {f : Nat} {x : PD.X} {ds : List D} {m : M D} (h : evA P cf x env = ret ds) (hm : cf f ds = m) : evE P cf (.call f x) env = m := by
  show bnd (evA P cf x env) _ = _
  rw [h, bnd_ret, hm]
theorem ev_src {x : PD.X} {d : D} {ds : List D} (h : evE P cf x env = ret d) (hi : itemsD d = some ds) : evIt P cf (.src x) env = ret ds := by
  show bnd (evE P cf x env) _ = _
  rw [h, bnd_ret, hi]; rfl
theorem ev_asg {i : Nat} {x : PD.X} {d : D} (h : evE P cf x env = ret d) : evS P cf (.asg i (.pl x)) env = ret (.nx (env.set i (.v d))) := by
  show bnd (bnd (evE P cf x env) _) _ = _
  rw [h]; rfl
theorem ev_rt {x : PD.X} {d : D} (h : evE P cf x env = ret d) : evS P cf (.rt x) env = ret (.rt d) := by
  show bnd (evE P cf x env) _ = _
  rw [h]; rfl
theorem ev_ite {t a b' : PD.X} {c : Bool} (h : evE P cf t env = ret (.bl c)) : evE P cf (.ite t a b') env = if c then evE P cf a env else evE P cf b' env := by
  show bnd (bnd (evE P cf t env) blD) _ = _
  rw [h]; rfl
theorem ev_cmp {o : Cop} {x y : PD.X} {d e : D} {r : Bool} (h : evE P cf x env = ret d) (h2 : evE P cf y env = ret e) (hv : ∀ i, d ≠ .ref i) (hv2 : ∀ i, e ≠ .ref i) (hc : cmpD o d e = some r) : evE P cf (.cmp o x y) env = ret (.bl r) := by
  show bnd (evE P cf x env) (fun x => bnd (evE P cf y env) fun y => bnd (vw x) fun x => bnd (vw y) fun y => bnd (opt (cmpD o x y)) fun r => ret (D.bl r)) = _
  rw [h, h2]
  simp only [bnd_ret]
  rw [vw_of hv, vw_of hv2]
  simp only [bnd_ret]
  show bnd (opt (cmpD o d e)) _ = _
  rw [hc]; rfl
theorem runF_rt {fd : FD} {ds : List D} {d : D} (hl : ds.length = fd.np) (h : evB P cf fd.body (ds.map .v ++ List.replicate (fd.ns - fd.np) .no) = ret (.rt d)) : runF P cf fd ds = ret d := by
  unfold runF
  rw [if_pos hl, h]; rfl
end
theorem stateof_ev (n : Nat) (l m : Int) (as : List Int) (d : D) (hd : itemsD d = some (inD as)) (h : as.length < 64) : callN pg (n + 1) 3 [.int l, .int m, d] = ret (stD l m (sortI (as.filter fun a => decide (a ≤ m)))) := by
  have hl : (as.filter fun a => decide (a ≤ m)).length < 64 := Nat.lt_of_le_of_lt (List.length_filter_le ..) h
  refine runF_rt (P := pg) (cf := callN pg n) (fd := ⟨3, 4, t3⟩) (ds := [.int l, .int m, d]) rfl ?_
  refine evB_rt (ev_rt (ev_tup (evA_cons (fun _ z => nomatch z) rfl (evA_cons (fun _ z => nomatch z) rfl (evA_cons (fun _ z => nomatch z) (ev_bif1 (d := .lst (inD (sortI (as.filter fun a => decide (a ≤ m))))) (ev_bif1 (d := .lst (inD (as.filter fun a => decide (a ≤ m)))) ?_ (fun _ z => nomatch z) ?_) (fun _ z => nomatch z) rfl) rfl))) (by show 3 ≤ 1000000; decide)))
  · have := ev_lc (P := pg) (cf := callN pg n) (env := [.v (.int l), .v (.int m), .v d, .no]) (own := [3]) (tg := .tv 3) (it := .src (.var 2)) (t := .cmp .le (.var 3) (.var 1)) (elt := .var 3) (as := as) (fun a => if decide (a ≤ m) then some a else none) (ev_src rfl hd) (by unfold LIM; omega) fun a _ => by
      show bnd (ret (decide (a ≤ m))) _ = _
      by_cases c : a ≤ m
      · simp only [c, decide_true, bnd_ret, if_true]; rfl
      · simp only [c, decide_false, bnd_ret]; rfl
    rw [filterMap_if] at this
    exact this
  · show (match dInts (inD _) with | some ns => if ns.length < 64 then some (D.lst ((sortI ns).map .int)) else none | none => none) = _
    rw [dInts_inD]
    show (if _ then _ else _) = _
    rw [if_pos hl]; rfl
abbrev St3 := Int × Int × List Int
def sD (s : St3) : D := stD s.1 s.2.1 s.2.2
def oD : Option St3 → D
  | some s => sD s
  | none => .non
def srt (as : List Int) (m : Int) : List Int := sortI (as.filter fun a => decide (a ≤ m))
def mx (i j : Int) : Int := if j > i then j else i
def mn (i j : Int) : Int := if j < i then j else i
def isBoth (c : Str) : Bool := decide (c = ("both" : Str))
def came (s : St3) (many : Int) (a : Int) (rest : List Int) (c : Bool) : Option St3 := if a ≤ s.2.1 then some (mx s.1 a, s.2.1, srt (rest ++ [if c then 0 else a]) s.2.1) else none
def lost (s : St3) (a : Int) (rest : List Int) : Option St3 := if s.1 < a then some (s.1, mn s.2.1 (a - 1), srt rest (mn s.2.1 (a - 1))) else none
theorem inD_map (as : List Int) (g : Int → Int) : as.filterMap (fun a => some (g a)) = as.map g := by
  induction as with
  | nil => rfl
  | cons a as ih => simp
theorem bT_tv (i : Nat) (d : D) (env : PD.Env) : bindT (.tv i) d env = some (env.set i (.v d)) := rfl
theorem bT_tt (ts : PD.X) (ds : List D) (env : PD.Env) : bindT (.tt ts) (.tup ds) env = bindTs ts ds env := rfl
theorem bTs_nil (env : PD.Env) : bindTs .nil [] env = some env := rfl
theorem bTs_cons (t ts : PD.X) (d : D) (ds : List D) (env : PD.Env) : bindTs (.cons t ts) (d :: ds) env = (bindT t d env).bind (bindTs ts ds) := rfl
theorem ixN_nat {n k : Nat} (h : k < n) : PD.ixN n (k : Int) = some k := by
  unfold PD.ixN
  rw [if_pos (by omega), if_pos (by omega)]
  simp
theorem erase_inD : ∀ (l : List Int) (k : Nat), (inD l).eraseIdx k = inD (l.eraseIdx k)
  | [], _ => rfl
  | a :: l, 0 => rfl
  | a :: l, k + 1 => by
    show D.int a :: (inD l).eraseIdx k = D.int a :: inD (l.eraseIdx k)
    rw [erase_inD l k]
theorem ne_int {k : Int} : ∀ i, D.int k ≠ .ref i := fun _ z => nomatch z
theorem ne_star_var {k : Nat} : ∀ y, PD.X.var k ≠ .star y := fun _ z => nomatch z
theorem ne_star_bif {k : Bi} {x : PD.X} : ∀ y, PD.X.bif k x ≠ .star y := fun _ z => nomatch z
theorem eq_both {w : Str} (hw : w.cps.all (fun c => decide (c < 1114112)) = true) : cmpD .eq (.str w) (.str "both") = some (isBoth w) := by
  have h1 : (D.str w).eqOk = true := by
    unfold D.eqOk
    simp only [D.plain, D.depth, hw, Bool.true_and]
    rfl
  have h2 : (D.str "both").eqOk = true := by decide +kernel
  show (if (D.str w).eqOk && (D.str "both").eqOk then some ((D.str w).eqv (.str "both")) else none) = _
  rw [h1, h2]
  show some (w == ("both" : Str)) = _
  unfold isBoth
  congr 1
theorem behind_ev (n : Nat) (s : St3) (many : Int) (door : Nat) (a0 : Int) (w : Str) (hw : w.cps.all (fun c => decide (c < 1114112)) = true) (h : s.2.2.length ≤ 3) (hd : s.2.2[door]? = some a0) :
    callN pg (n + 2) 6 [sD s, .int many, .int door, .str w] = ret (.tup [oD (came s many (a0 + many) ((s.2.2.map (· + many)).eraseIdx door) (isBoth w)), oD (lost s (a0 + many) ((s.2.2.map (· + many)).eraseIdx door))]) := by
  obtain ⟨l, m, as⟩ := s
  have hdl : door < as.length := (List.getElem?_eq_some_iff.mp hd).1
  have h' : as.length ≤ 3 := h
  have he : ((as.map (· + many)).eraseIdx door).length ≤ 3 := Nat.le_trans (List.length_eraseIdx_le ..) (by simpa using h')
  have h1 := fun x => stateof_ev n (mx l (a0 + many)) m ((as.map (· + many)).eraseIdx door ++ [x]) (.lst (inD ((as.map (· + many)).eraseIdx door ++ [x]))) rfl (by simp only [List.length_append, List.length_cons, List.length_nil]; omega)
  have h2 := stateof_ev n l (mn m (a0 + many - 1)) ((as.map (· + many)).eraseIdx door) (.lst (inD ((as.map (· + many)).eraseIdx door))) rfl (by omega)
  have hget : (inD (as.map (· + many)))[door]? = some (.int (a0 + many)) := by
    unfold inD
    rw [List.getElem?_map, List.getElem?_map, hd]; rfl
  have key : evB pg (callN pg (n + 1)) t6 [.v (.tup [.int l, .int m, .tup (inD as)]), .v (.int many), .v (.int door), .v (.str w), .no, .no, .no, .no, .no, .no, .no] =
      ret (.rt (.tup [oD (came (l, m, as) many (a0 + many) ((as.map (· + many)).eraseIdx door) (isBoth w)), oD (lost (l, m, as) (a0 + many) ((as.map (· + many)).eraseIdx door))])) := by
    unfold t6
    rw [evB_nx (env' := [.v (.tup [.int l, .int m, .tup (inD as)]), .v (.int many), .v (.int door), .v (.str w), .v (.int l), .v (.int m), .v (.tup (inD as)), .no, .no, .no, .no]) rfl]
    have hlc := ev_lc (P := pg) (cf := callN pg (n + 1)) (env := [.v (.tup [.int l, .int m, .tup (inD as)]), .v (.int many), .v (.int door), .v (.str w), .v (.int l), .v (.int m), .v (.tup (inD as)), .no, .no, .no, .no]) (own := [8]) (tg := .tv 8) (it := .src (.var 6)) (t := .lit (.bl true)) (elt := .bin .add (.var 8) (.var 1)) (as := as) (fun a => some (a + many)) rfl (by unfold LIM; omega) (fun a _ => rfl)
    rw [inD_map] at hlc
    rw [evB_nx (env' := [.v (.tup [.int l, .int m, .tup (inD as)]), .v (.int many), .v (.int door), .v (.str w), .v (.int l), .v (.int m), .v (.tup (inD as)), .ol (inD (as.map (· + many))), .no, .no, .no]) (by
      show bnd (bnd (evE pg (callN pg (n + 1)) _ _) _) _ = _
      rw [hlc]; rfl)]
    rw [evB_nx (env' := [.v (.tup [.int l, .int m, .tup (inD as)]), .v (.int many), .v (.int door), .v (.str w), .v (.int l), .v (.int m), .v (.tup (inD as)), .ol (inD ((as.map (· + many)).eraseIdx door)), .v (.int (a0 + many)), .no, .no]) (by
      show (if (inD (as.map (· + many))).length ≤ LIM then (match PD.ixN (inD (as.map (· + many))).length (door : Int) with
      | some m => match (inD (as.map (· + many)))[m]? with
        | some d => ret (Out.nx (List.set (List.set _ 7 (.ol ((inD (as.map (· + many))).eraseIdx m))) 8 (.v d)))
        | none => fail
      | none => fail) else fail) = _
      rw [if_pos (by rw [inD_len, List.length_map]; unfold LIM; omega), ixN_nat (by rw [inD_len, List.length_map]; exact hdl)]
      dsimp only
      rw [hget, erase_inD]; rfl)]
    rw [evB_nx (env' := [.v (.tup [.int l, .int m, .tup (inD as)]), .v (.int many), .v (.int door), .v (.str w), .v (.int l), .v (.int m), .v (.tup (inD as)), .ol (inD ((as.map (· + many)).eraseIdx door)), .v (.int (a0 + many)), .v .non, .v .non]) rfl]
    rw [evB_nx (env' := [.v (.tup [.int l, .int m, .tup (inD as)]), .v (.int many), .v (.int door), .v (.str w), .v (.int l), .v (.int m), .v (.tup (inD as)), .ol (inD ((as.map (· + many)).eraseIdx door)), .v (.int (a0 + many)), .v (oD (came (l, m, as) many (a0 + many) ((as.map (· + many)).eraseIdx door) (isBoth w))), .v .non]) (by
      rw [ev_if (c := decide (a0 + many ≤ m)) rfl]
      unfold came
      by_cases c : a0 + many ≤ m
      · rw [if_pos (by simpa using c), if_pos c]
        have hx : evE pg (callN pg (n + 1)) (.ite (.cmp .eq (.var 3) (.glob 1)) (.lit (.int 0)) (.var 8)) [.v (.tup [.int l, .int m, .tup (inD as)]), .v (.int many), .v (.int door), .v (.str w), .v (.int l), .v (.int m), .v (.tup (inD as)), .ol (inD ((as.map (· + many)).eraseIdx door)), .v (.int (a0 + many)), .v .non, .v .non] = ret (.int (if isBoth w then 0 else a0 + many)) := by
          rw [ev_ite (c := isBoth w) (ev_cmp (d := .str w) (e := .str "both") rfl rfl (fun _ z => nomatch z) (fun _ z => nomatch z) (eq_both hw))]
          cases isBoth w <;> rfl
        have hargs : evA pg (callN pg (n + 1)) (.cons (.bif .max (.cons (.var 4) (.cons (.var 8) .nil))) (.cons (.var 5) (.cons (.lst (.cons (.star (.src (.peek 7))) (.cons (.ite (.cmp .eq (.var 3) (.glob 1)) (.lit (.int 0)) (.var 8)) .nil))) .nil)))
            [.v (.tup [.int l, .int m, .tup (inD as)]), .v (.int many), .v (.int door), .v (.str w), .v (.int l), .v (.int m), .v (.tup (inD as)), .ol (inD ((as.map (· + many)).eraseIdx door)), .v (.int (a0 + many)), .v .non, .v .non] = ret [.int (mx l (a0 + many)), .int m, .lst (inD ((as.map (· + many)).eraseIdx door ++ [if isBoth w then 0 else a0 + many]))] :=
          evA_cons (fun _ z => nomatch z) (ev_bif2 (d := .int l) (e := .int (a0 + many)) rfl rfl (fun _ z => nomatch z) (fun _ z => nomatch z) rfl)
            (evA_cons (fun _ z => nomatch z) rfl (evA_cons (fun _ z => nomatch z) (by
              have := ev_lst (P := pg) (cf := callN pg (n + 1)) (evA_star (ev_src (d := .lst (inD ((as.map (· + many)).eraseIdx door))) (ds := inD ((as.map (· + many)).eraseIdx door)) (x := .peek 7) (env := [.v (.tup [.int l, .int m, .tup (inD as)]), .v (.int many), .v (.int door), .v (.str w), .v (.int l), .v (.int m), .v (.tup (inD as)), .ol (inD ((as.map (· + many)).eraseIdx door)), .v (.int (a0 + many)), .v .non, .v .non]) rfl rfl) (evA_cons (r := .nil) (ds := []) (by intro _ z; exact nomatch z) hx rfl)) (by
                rw [List.length_append, inD_len]; simp only [List.length_cons, List.length_nil]; unfold LIM; omega)
              rw [this]
              unfold inD
              rw [List.map_append]
              rfl) rfl))
        rw [evB_nx (ev_asg (ev_call hargs (h1 _)))]
        rfl
      · rw [if_neg (by simpa using c), if_neg c]; rfl)]
    generalize oD (came (l, m, as) many (a0 + many) ((as.map (· + many)).eraseIdx door) (isBoth w)) = cm
    rw [evB_nx (env' := [.v (.tup [.int l, .int m, .tup (inD as)]), .v (.int many), .v (.int door), .v (.str w), .v (.int l), .v (.int m), .v (.tup (inD as)), (if l < a0 + many then .v (.lst (inD ((as.map (· + many)).eraseIdx door))) else .ol (inD ((as.map (· + many)).eraseIdx door))), .v (.int (a0 + many)), .v cm, .v (oD (lost (l, m, as) (a0 + many) ((as.map (· + many)).eraseIdx door)))]) (by
      rw [ev_if (c := decide (l < a0 + many)) rfl]
      unfold lost
      by_cases c : l < a0 + many
      · rw [if_pos (by simpa using c), if_pos c, if_pos c]
        have hargs : evA pg (callN pg (n + 1)) (.cons (.var 4) (.cons (.bif .min (.cons (.var 5) (.cons (.bin .sub (.var 8) (.lit (.int 1))) .nil))) (.cons (.var 7) .nil)))
            [.v (.tup [.int l, .int m, .tup (inD as)]), .v (.int many), .v (.int door), .v (.str w), .v (.int l), .v (.int m), .v (.tup (inD as)), .v (.lst (inD ((as.map (· + many)).eraseIdx door))), .v (.int (a0 + many)), .v cm, .v .non] = ret [.int l, .int (mn m (a0 + many - 1)), .lst (inD ((as.map (· + many)).eraseIdx door))] :=
          evA_cons ne_star_var rfl (evA_cons ne_star_bif (ev_bif2 (d := .int m) (e := .int (a0 + many - 1)) rfl rfl ne_int ne_int rfl) (evA_cons (d := .lst (inD ((as.map (· + many)).eraseIdx door))) (ds := []) ne_star_var rfl rfl))
        rw [evB_nx (env' := [.v (.tup [.int l, .int m, .tup (inD as)]), .v (.int many), .v (.int door), .v (.str w), .v (.int l), .v (.int m), .v (.tup (inD as)), .v (.lst (inD ((as.map (· + many)).eraseIdx door))), .v (.int (a0 + many)), .v cm, .v .non]) rfl, evB_nx (ev_asg (ev_call hargs h2))]
        rfl
      · rw [if_neg (by simpa using c), if_neg c, if_neg c]; rfl)]
    rfl
  exact runF_rt (fd := ⟨4, 11, t6⟩) (ds := [.tup [.int l, .int m, .tup (inD as)], .int many, .int door, .str w]) rfl key
theorem mapL_map {α : Type} {f : D → M (Option D)} (e : α → D) (g : α → Option D) {as : List α} (h : ∀ a ∈ as, f (e a) = ret (g a)) : mapL f (as.map e) = ret (as.filterMap g) := by
  induction as with
  | nil => rfl
  | cons a as ih =>
    show bnd (f (e a)) _ = _
    rw [h a (List.mem_cons_self ..)]
    simp only [bnd_ret]
    show bnd (mapL f (as.map e)) _ = _
    rw [ih fun x hx => h x (List.mem_cons_of_mem _ hx)]
    simp only [bnd_ret, List.filterMap_cons]
    cases g a <;> rfl
section
variable {P : Prog} {cf : Calls} {env : PD.Env}
theorem ev_lcD {α : Type} {own : List Nat} {tg it t elt : PD.X} {as : List α} (e : α → D) (g : α → Option D) (hi : evIt P cf it env = ret (as.map e)) (hl : as.length ≤ LIM)
    (h : ∀ a ∈ as, (match bindT tg (e a) (PD.wipe env own) with
        | some e => bnd (bnd (evE P cf t e) blD) fun c => if c then bnd (evE P cf elt e) fun y => ret (some y) else ret none
        | none => fail) = ret (g a)) : evE P cf (.lc own tg it t elt) env = ret (.lst (as.filterMap g)) := by
  show bnd (evIt P cf it env) _ = _
  rw [hi]
  simp only [bnd_ret]
  rw [if_pos (by rw [List.length_map]; exact hl), mapL_map e g h]
  rfl
theorem forL_steps {f : D → PD.Env → M Out} {ds : List D} (E : Nat → PD.Env) (h : ∀ i d, ds[i]? = some d → f d (E i) = ret (.nx (E (i + 1)))) : forL f ds (E 0) = ret (.nx (E ds.length)) := by
  induction ds generalizing E with
  | nil => rfl
  | cons d ds ih =>
    show bnd (f d (E 0)) _ = _
    rw [h 0 d rfl]
    exact ih (fun i => E (i + 1)) fun i d' hd => h (i + 1) d' (by simpa using hd)
theorem ev_rng1 {x : PD.X} {j : Int} (h : evE P cf x env = ret (.int j)) (hg : gRng j = true) : evIt P cf (.rng (.cons x .nil)) env = ret (rangeD 0 j) := by
  show bnd (evE P cf x env) (fun x => match x with
    | .int j => if gRng j then ret (rangeD 0 j) else fail
    | _ => fail) = _
  rw [h, bnd_ret]
  show (if gRng j then ret (rangeD 0 j) else fail) = _
  rw [if_pos hg]
theorem ev_for {tg it b : PD.X} {ds : List D} {m : M Out} (hi : evIt P cf it env = ret ds) (hf : forL (fun d e => match bindT tg d e with
      | some e => evB P cf b e
      | none => fail) ds env = m) : evS P cf (.for_ tg it b) env = m := by
  show bnd (evIt P cf it env) _ = _
  rw [hi, bnd_ret]
  exact hf
theorem filterMap_some {α β : Type} (g : α → β) : ∀ as : List α, as.filterMap (fun a => some (g a)) = as.map g
  | [] => rfl
  | a :: as => by rw [List.filterMap_cons, filterMap_some g as]; rfl
end
theorem rangeD_nat (k : Nat) : rangeD 0 (k : Int) = (List.range k).map fun (j : Nat) => D.int (j : Int) := by
  unfold rangeD
  rw [Int.sub_zero, Int.toNat_natCast]
  exact List.map_congr_left fun j _ => by rw [Int.zero_add]
def tsD (k i : Nat) : List D := (List.range i).flatMap fun (m : Nat) => (List.range k).map fun (d : Nat) => D.tup [.int (m : Int), .int (d : Int)]
theorem tsD_succ (k i : Nat) : tsD k (i + 1) = tsD k i ++ (List.range k).map fun (d : Nat) => D.tup [.int (i : Int), .int (d : Int)] := by
  unfold tsD
  rw [List.range_succ, List.flatMap_append]
  simp
theorem tsD_len (k : Nat) : ∀ i : Nat, (tsD k i).length = i * k
  | 0 => by simp [tsD]
  | i + 1 => by rw [tsD_succ, List.length_append, tsD_len k i, List.length_map, List.length_range, Nat.succ_mul]
theorem tests_ev (n : Nat) (s : St3) (h : s.2.2.length ≤ 3) : callN pg (n + 1) 7 [sD s] = ret (.lst (tsD s.2.2.length 9)) := by
  obtain ⟨l, m, as⟩ := s
  have h' : as.length ≤ 3 := h
  refine runF_rt (P := pg) (cf := callN pg n) (fd := ⟨1, 4, t7⟩) (ds := [sD (l, m, as)]) rfl ?_
  show evB pg (callN pg n) t7 [.v (.tup [.int l, .int m, .tup (inD as)]), .no, .no, .no] = _
  unfold t7
  rw [evB_nx (env' := [.v (.tup [.int l, .int m, .tup (inD as)]), .ol [], .no, .no]) rfl]
  let E : Nat → PD.Env := fun i => [.v (.tup [.int l, .int m, .tup (inD as)]), .ol (tsD as.length i), (match i with | 0 => .no | j + 1 => .v (.int (j : Int))), .no]
  have hf := forL_steps (ds := rangeD 0 9) (f := fun d e => match bindT (.tv 2) d e with
      | some e => evB pg (callN pg n) (.cons (.ext 1 (.lc [3] (.tv 3) (.rng (.cons (.bif .len (.cons (.idx (.var 0) (.lit (.int 2))) .nil)) .nil)) (.lit (.bl true)) (.tup (.cons (.var 2) (.cons (.var 3) .nil))))) .nil) e
      | none => fail) E fun i d hd => by
    have hr : rangeD 0 9 = (List.range 9).map fun (j : Nat) => D.int (j : Int) := rangeD_nat 9
    rw [hr, List.getElem?_map] at hd
    obtain ⟨j, hj, rfl⟩ := Option.map_eq_some_iff.mp hd
    obtain ⟨hj9, rfl⟩ := List.getElem?_eq_some_iff.mp hj
    rw [List.getElem_range]
    have hi9 : i < 9 := by simpa using hj9
    have hlc := ev_lcD (P := pg) (cf := callN pg n) (env := [.v (.tup [.int l, .int m, .tup (inD as)]), .ol (tsD as.length i), .v (.int (i : Int)), .no]) (own := [3]) (tg := .tv 3) (it := .rng (.cons (.bif .len (.cons (.idx (.var 0) (.lit (.int 2))) .nil)) .nil)) (t := .lit (.bl true)) (elt := .tup (.cons (.var 2) (.cons (.var 3) .nil)))
      (as := List.range as.length) (fun (j : Nat) => D.int (j : Int)) (fun (j : Nat) => some (D.tup [.int (i : Int), .int (j : Int)])) (by
        rw [← rangeD_nat]
        exact ev_rng1 (ev_bif1 (d := .tup (inD as)) (r := .int as.length) rfl (fun _ z => nomatch z) (by show some (D.int ((inD as).length : Int)) = _; rw [inD_len])) (by unfold gRng; rw [decide_eq_true_eq]; omega)) (by rw [List.length_range]; unfold LIM; omega) (fun j _ => rfl)
    rw [filterMap_some] at hlc
    show evB pg (callN pg n) _ [.v (.tup [.int l, .int m, .tup (inD as)]), .ol (tsD as.length i), .v (.int (i : Int)), .no] = _
    rw [evB_nx (env' := E (i + 1)) (by
      show bnd (evE pg (callN pg n) _ _) _ = _
      rw [hlc]
      show (if (tsD as.length i).length + ((List.range as.length).map _).length ≤ LIM then _ else _) = _
      rw [if_pos (by
        rw [tsD_len, List.length_map, List.length_range]
        unfold LIM
        have : i * as.length ≤ 9 * 3 := Nat.mul_le_mul (by omega) h'
        omega)]
      show ret (Out.nx [.v _, .ol (tsD as.length i ++ (List.range as.length).map fun (d : Nat) => D.tup [.int (i : Int), .int (d : Int)]), .v (.int (i : Int)), .no]) = ret (Out.nx [.v _, .ol (tsD as.length (i + 1)), .v (.int (i : Int)), .no])
      rw [tsD_succ])]
    rfl
  rw [evB_nx (env' := E 9) (by
    have h9 : (rangeD 0 9).length = 9 := by rfl
    rw [h9] at hf
    exact ev_for (ds := rangeD 0 9) rfl hf)]
  rfl
/-- the one or two states behind a test -/
def laters (s : St3) (many : Int) (door : Nat) (c : Bool) : List St3 := match s.2.2[door]? with
  | some a0 => [came s many (a0 + many) ((s.2.2.map (· + many)).eraseIdx door) c, lost s (a0 + many) ((s.2.2.map (· + many)).eraseIdx door)].filterMap id
  | none => []
theorem ev_cmpN {P : Prog} {cf : Calls} {env : PD.Env} {x : PD.X} {d : D} (h : evE P cf x env = ret d) (hv : ∀ i, d ≠ .ref i) : evE P cf (.cmp .isnot x (.lit .non)) env = ret (.bl (!d.isNon)) :=
  ev_cmp h rfl hv (fun _ z => nomatch z) rfl
theorem laters_ev (n : Nat) (s : St3) (many : Int) (door : Nat) (w : Str) (hw : w.cps.all (fun c => decide (c < 1114112)) = true) (h : s.2.2.length ≤ 3) (hd : door < s.2.2.length) :
    callN pg (n + 3) 8 [sD s, .tup [.int many, .int door], .str w] = ret (.lst ((laters s many door (isBoth w)).map sD)) := by
  have ha : s.2.2[door]? = some s.2.2[door] := by simp [hd]
  have hb := behind_ev n s many door s.2.2[door] w hw h ha
  refine runF_rt (P := pg) (cf := callN pg (n + 2)) (fd := ⟨3, 4, t8⟩) (ds := [sD s, .tup [.int many, .int door], .str w]) rfl ?_
  show evB pg (callN pg (n + 2)) t8 [.v (sD s), .v (.tup [.int many, .int door]), .v (.str w), .no] = _
  unfold t8
  refine evB_rt (ev_rt ?_)
  have hargs : evA pg (callN pg (n + 2)) (.cons (.var 0) (.cons (.idx (.var 1) (.lit (.int 0))) (.cons (.idx (.var 1) (.lit (.int 1))) (.cons (.var 2) .nil)))) [.v (sD s), .v (.tup [.int many, .int door]), .v (.str w), .no] = ret [sD s, .int many, .int door, .str w] := rfl
  have hlc := ev_lcD (P := pg) (cf := callN pg (n + 2)) (env := [.v (sD s), .v (.tup [.int many, .int door]), .v (.str w), .no]) (own := [3]) (tg := .tv 3) (it := .src (.call 6 (.cons (.var 0) (.cons (.idx (.var 1) (.lit (.int 0))) (.cons (.idx (.var 1) (.lit (.int 1))) (.cons (.var 2) .nil)))))) (t := .cmp .isnot (.var 3) (.lit .non)) (elt := .var 3)
    (as := [came s many (s.2.2[door] + many) ((s.2.2.map (· + many)).eraseIdx door) (isBoth w), lost s (s.2.2[door] + many) ((s.2.2.map (· + many)).eraseIdx door)]) oD (fun o => o.map sD) (ev_src (ev_call hargs hb) rfl) (by show 2 ≤ LIM; unfold LIM; omega) (fun o _ => by
      cases o with
      | none => rfl
      | some t => rfl)
  rw [hlc]
  unfold laters
  rw [ha]
  dsimp only
  congr 2
  cases came s many (s.2.2[door] + many) ((s.2.2.map (· + many)).eraseIdx door) (isBoth w) <;> cases lost s (s.2.2[door] + many) ((s.2.2.map (· + many)).eraseIdx door) <;> rfl
end K77
end ZK77m
section ZK77n
set_option Elab.async false
set_option linter.all false
set_option maxRecDepth 100000
set_option maxHeartbeats 400000
namespace K77
open PySem PD
/-! states as keys -/
theorem eqv_inD : ∀ as bs : List Int, D.eqvAll (inD as) (inD bs) = decide (as = bs)
  | [], [] => rfl
  | [], _ :: _ => rfl
  | _ :: _, [] => rfl
  | a :: as, b :: bs => by
    show ((D.int a).eqv (.int b) && D.eqvAll (inD as) (inD bs)) = _
    rw [eqv_inD as bs]
    show ((a == b) && decide (as = bs)) = _
    by_cases h1 : a = b
    · subst h1
      by_cases h2 : as = bs
      · subst h2; simp
      · simp [h2]
    · simp [h1]
theorem eqv_sD (s t : St3) : (sD s).eqv (sD t) = decide (s = t) := by
  obtain ⟨a, b, c⟩ := s
  obtain ⟨x, y, z⟩ := t
  show ((a == x) && ((b == y) && (D.eqvAll (inD c) (inD z) && true))) = _
  rw [eqv_inD]
  by_cases h1 : a = x <;> by_cases h2 : b = y <;> by_cases h3 : c = z <;> simp_all
theorem plain_inD : ∀ as : List Int, D.plainAll (inD as) = true
  | [] => rfl
  | a :: as => by show (true && D.plainAll (inD as)) = true; rw [plain_inD as]; rfl
theorem depth_inD : ∀ as : List Int, D.depthAll (inD as) = 0
  | [] => rfl
  | a :: as => by show max 0 (D.depthAll (inD as)) = 0; rw [depth_inD as]; rfl
theorem hash_inD : ∀ as : List Int, D.hashAll (inD as) = true
  | [] => rfl
  | a :: as => by show (true && D.hashAll (inD as)) = true; rw [hash_inD as]; rfl
theorem plain_sD (s : St3) : (sD s).plain = true := by
  show (true && (true && (D.plainAll (inD s.2.2) && true))) = true
  rw [plain_inD]; rfl
theorem depth_sD (s : St3) : (sD s).depth = 2 := by
  show max 0 (max 0 (max (D.depthAll (inD s.2.2) + 1) 0)) + 1 = 2
  rw [depth_inD]; rfl
theorem hash_sD (s : St3) : (sD s).hash = true := by
  show (true && (true && (D.hashAll (inD s.2.2) && true))) = true
  rw [hash_inD]; rfl
theorem plain_sDs : ∀ F : List St3, D.plainAll (F.map sD) = true
  | [] => rfl
  | s :: F => by show ((sD s).plain && D.plainAll (F.map sD)) = true; rw [plain_sD, plain_sDs F]; rfl
theorem depth_sDs : ∀ F : List St3, D.depthAll (F.map sD) ≤ 2
  | [] => Nat.zero_le _
  | s :: F => by
    show max (sD s).depth (D.depthAll (F.map sD)) ≤ 2
    have := depth_sDs F
    rw [depth_sD]; omega
theorem ok_sDs (F : List St3) : (D.lst (F.map sD)).eqOk = true := by
  show (D.plainAll (F.map sD) && decide (D.depthAll (F.map sD) + 1 ≤ 60)) = true
  have := depth_sDs F
  rw [plain_sDs, Bool.true_and, decide_eq_true_eq]; omega
/-- states with what is told of them -/
def kv (F : List (St3 × D)) : List (D × D) := F.map fun p => (sD p.1, p.2)
theorem head_kv (F : List (St3 × D)) : headTup (kv F) = true := by
  cases F <;> rfl
theorem key_kv (s : St3) (F : List (St3 × D)) : dKey (sD s) (kv F) = true := by
  show (true && (sD s).hash && decide ((sD s).depth ≤ 7) && headTup (kv F)) = true
  rw [hash_sD, depth_sD, head_kv]; rfl
def lookS (s : St3) : List (St3 × D) → Option D
  | [] => none
  | (t, d) :: r => if t = s then some d else lookS s r
theorem find_kv (s : St3) : ∀ F : List (St3 × D), findK (sD s) (kv F) = lookS s F
  | [] => rfl
  | (t, d) :: r => by
    show (if (sD t).eqv (sD s) then some d else findK (sD s) (kv r)) = if t = s then some d else lookS s r
    rw [eqv_sD, find_kv s r]
    by_cases c : t = s <;> simp [c]
theorem look_mem (s : St3) : ∀ F : List (St3 × D), (lookS s F).isSome = decide (s ∈ F.map (·.1))
  | [] => rfl
  | (t, d) :: r => by
    unfold lookS
    by_cases c : t = s
    · subst c; simp
    · rw [if_neg c, look_mem s r]
      have : ¬ s = t := fun z => c z.symm
      simp [this]
theorem put_kv (s : St3) (d : D) : ∀ F : List (St3 × D), s ∉ F.map (·.1) → putK (sD s) d (kv F) = kv (F ++ [(s, d)])
  | [], _ => rfl
  | (t, e) :: r, h => by
    show (if (sD t).eqv (sD s) then _ else (sD t, e) :: putK (sD s) d (kv r)) = _
    have c : t ≠ s := fun z => h (by simp [z])
    rw [eqv_sD, decide_eq_false c]
    simp only [Bool.false_eq_true, if_false]
    rw [put_kv s d r fun z => h (by simp at z ⊢; exact .inr z)]
    rfl
theorem nodup_lt : ∀ (N : Nat) (l : List Nat), l.Nodup → (∀ x ∈ l, x < N) → l.length ≤ N
  | 0, l, _, h => by
    cases l with
    | nil => exact Nat.le_refl _
    | cons a l => exact absurd (h a (List.mem_cons_self ..)) (Nat.not_lt_zero _)
  | N + 1, l, hn, h => by
    have h1 := nodup_lt N (l.erase N) (hn.erase N) fun x hx => by
      have h2 := (hn.mem_erase_iff).mp hx
      have := h x h2.2
      have := h2.1
      omega
    by_cases c : N ∈ l
    · rw [List.length_erase_of_mem c] at h1; omega
    · rw [List.erase_of_not_mem c] at h1; omega
/-- a for that keeps to a pure step -/
theorem forL_fold {α σ : Type} {f : D → PD.Env → M Out} (e : α → D) (enc : σ → PD.Env) (stp : σ → α → σ) (I : σ → Prop) : ∀ (as : List α) (s0 : σ), I s0 → (∀ s a, a ∈ as → I s → I (stp s a) ∧ f (e a) (enc s) = ret (.nx (enc (stp s a)))) → I (as.foldl stp s0) ∧ forL f (as.map e) (enc s0) = ret (.nx (enc (as.foldl stp s0)))
  | [], s0, h0, _ => ⟨h0, rfl⟩
  | a :: as, s0, h0, h => by
    obtain ⟨h1, h2⟩ := h s0 a (List.mem_cons_self ..) h0
    obtain ⟨h3, h4⟩ := forL_fold e enc stp I as (stp s0 a) h1 fun s b hb => h s b (List.mem_cons_of_mem _ hb)
    refine ⟨h3, ?_⟩
    show bnd (f (e a) (enc s0)) _ = _
    rw [h2]
    exact h4
/-! all_states -/
structure Wk where
  F : List St3
  W : List St3
def want (F : List St3) (x : St3) : Bool := !decide (x.1 = x.2.1) && (!decide (x.2.2 = []) && !decide (x ∈ F))
def addW (k : Wk) (x : St3) : Wk := if want k.F x then ⟨k.F ++ [x], k.W ++ [x]⟩ else k
def fd (F : List St3) : List (D × D) := kv (F.map fun s => (s, .bl true))
theorem fd_mem (F : List St3) : (F.map fun s => (s, D.bl true)).map (·.1) = F := by
  rw [List.map_map]
  exact List.map_id F
theorem ev_and3 {P : Prog} {cf : Calls} {env : PD.Env} {a b c : PD.X} {x y z : Bool} (h1 : evE P cf a env = ret (.bl x)) (h2 : evE P cf b env = ret (.bl y)) (h3 : evE P cf c env = ret (.bl z)) : evE P cf (.and_ (.cons a (.cons b (.cons c .nil)))) env = ret (.bl (x && (y && z))) := by
  show bnd (bnd (evE P cf a env) blD) (fun k => if k then bnd (bnd (evE P cf b env) blD) (fun k => if k then evE P cf c env else ret (.bl false)) else ret (.bl false)) = _
  rw [h1, h2, h3]
  cases x <;> cases y <;> rfl
theorem want_ev (n : Nat) (F : List St3) (x : St3) (e0 e1 e3 e4 e5 : Sl) : evE pg (callN pg (n + 1)) (.and_ (.cons (.not_ (.call 5 (.cons (.var 6) .nil))) (.cons (.cmp .ne (.idx (.var 6) (.lit (.int 2))) (.tup .nil)) (.cons (.cmp .notin (.var 6) (.peek 2)) .nil)))) [e0, e1, .od (fd F), e3, e4, e5, .v (sD x)] = ret (.bl (want F x)) := by
  refine ev_and3 ?_ ?_ ?_
  · show bnd (bnd (callN pg (n + 1) 5 [sD x]) blD) _ = _
    rw [show sD x = stD x.1 x.2.1 x.2.2 from rfl, known_ev]
    rfl
  · refine ev_cmp (d := .tup (inD x.2.2)) (e := .tup []) rfl rfl (fun _ z => nomatch z) (fun _ z => nomatch z) ?_
    show (if (D.tup (inD x.2.2)).eqOk && (D.tup []).eqOk then some (!D.eqvAll (inD x.2.2) []) else none) = _
    have h1 : (D.tup (inD x.2.2)).eqOk = true := by
      show (D.plainAll (inD x.2.2) && decide (D.depthAll (inD x.2.2) + 1 ≤ 60)) = true
      rw [plain_inD, depth_inD]; rfl
    rw [h1]
    have h2 := eqv_inD x.2.2 []
    rw [show D.eqvAll (inD x.2.2) [] = decide (x.2.2 = []) from h2]
    rfl
  · refine ev_cmp (d := sD x) (e := .dct (fd F)) rfl rfl (fun _ z => nomatch z) (fun _ z => nomatch z) ?_
    show (if dKey (sD x) (fd F) then some (!(findK (sD x) (fd F)).isSome) else none) = _
    unfold fd
    rw [key_kv, if_pos rfl, find_kv, look_mem, fd_mem]
theorem inner_ev (n : Nat) (x : St3) (F W : List St3) (hF : F.length < LIM) (hW : W.length < LIM) (e0 e1 e4 e5 : Sl) :
    evB pg (callN pg (n + 1)) (.cons (.if_ (.and_ (.cons (.not_ (.call 5 (.cons (.var 6) .nil))) (.cons (.cmp .ne (.idx (.var 6) (.lit (.int 2))) (.tup .nil)) (.cons (.cmp .notin (.var 6) (.peek 2)) .nil)))) (.cons (.putd 2 (.var 6) (.lit (.bl true))) (.cons (.app 3 (.var 6)) .nil)) .nil) .nil) [e0, e1, .od (fd F), .ol (W.map sD), e4, e5, .v (sD x)] =
      ret (.nx [e0, e1, .od (fd (addW ⟨F, W⟩ x).F), .ol ((addW ⟨F, W⟩ x).W.map sD), e4, e5, .v (sD x)]) := by
  rw [evB_nx (env' := [e0, e1, .od (fd (addW ⟨F, W⟩ x).F), .ol ((addW ⟨F, W⟩ x).W.map sD), e4, e5, .v (sD x)]) (by
    rw [ev_if (want_ev n F x e0 e1 _ e4 e5)]
    unfold addW
    cases hw : want F x with
    | false => rfl
    | true =>
      have hx : x ∉ F := by
        unfold want at hw
        simp at hw
        exact hw.2.2
      simp only [if_true]
      rw [evB_nx (env' := [e0, e1, .od (fd (F ++ [x])), .ol (W.map sD), e4, e5, .v (sD x)]) (by
        show (if dKey (sD x) (fd F) && decide ((fd F).length < LIM) then ret (Out.nx [e0, e1, .od (putK (sD x) (.bl true) (fd F)), .ol (W.map sD), e4, e5, .v (sD x)]) else fail) = _
        unfold fd
        rw [key_kv, put_kv _ _ _ (by rw [fd_mem]; exact hx)]
        have : (kv (F.map fun s => (s, D.bl true))).length < LIM := by unfold kv; simpa using hF
        simp only [this, decide_true, Bool.and_self, if_true, List.map_append, List.map_cons, List.map_nil])]
      rw [evB_nx (env' := [e0, e1, .od (fd (F ++ [x])), .ol ((W ++ [x]).map sD), e4, e5, .v (sD x)]) (by
        show (if (W.map sD).length < LIM then ret (Out.nx [e0, e1, .od (fd (F ++ [x])), .ol (W.map sD ++ [sD x]), e4, e5, .v (sD x)]) else fail) = _
        rw [if_pos (by simpa using hW), List.map_append]; rfl)]
      rfl)]
  rfl
end K77
end ZK77n
section ZK77o
set_option Elab.async false
set_option linter.all false
set_option maxRecDepth 100000
set_option maxHeartbeats 400000
namespace K77
open PySem PD
structure Val (K : Nat) (s : St3) : Prop where
  l0 : 0 ≤ s.1
  lm : s.1 ≤ s.2.1
  m8 : s.2.1 ≤ 8
  len : s.2.2.length ≤ K
  ages : ∀ a ∈ s.2.2, 0 ≤ a ∧ a ≤ 8
  so : s.2.2.Pairwise (· ≤ ·)
  am : ∀ a ∈ s.2.2, a ≤ s.2.1
theorem mem_sortI {a : Int} {l : List Int} : a ∈ sortI l ↔ a ∈ l := (sortI_perm l).mem_iff
theorem len_sortI (l : List Int) : (sortI l).length = l.length := (sortI_perm l).length_eq
theorem mem_erase {α : Type} {l : List α} {k : Nat} {a : α} (h : a ∈ l.eraseIdx k) : a ∈ l := List.mem_of_mem_eraseIdx h
theorem laters_val {K : Nat} {s x : St3} {many : Int} {door : Nat} {c : Bool} (v : Val K s) (hm : 0 ≤ many) (h : x ∈ laters s many door c) : Val K x := by
  obtain ⟨l, m, as⟩ := s
  have hl := v.lm
  have hm8 := v.m8
  have h0 := v.l0
  simp only at hl hm8 h0
  unfold laters at h
  simp only at h
  cases hd : as[door]? with
  | none => rw [hd] at h; cases h
  | some a0 =>
    rw [hd] at h
    simp only at h
    have hdl : door < as.length := (List.getElem?_eq_some_iff.mp hd).1
    have ha0 := v.ages a0 (List.mem_of_getElem? hd)
    have hlen := v.len
    simp only at hlen
    have hel : ((as.map (· + many)).eraseIdx door).length = as.length - 1 := by
      rw [List.length_eraseIdx, List.length_map, if_pos hdl]
    have hpos : ∀ a ∈ (as.map (· + many)).eraseIdx door, 0 ≤ a := fun a ha => by
      obtain ⟨b, hb, rfl⟩ := List.mem_map.mp (mem_erase ha)
      have := (v.ages b hb).1
      omega
    simp only [List.mem_filterMap, List.mem_cons, List.not_mem_nil, or_false, id] at h
    obtain ⟨y, hy, rfl⟩ := h
    rcases hy with hy | hy
    · unfold came at hy
      simp only at hy
      split at hy
      · rename_i hle
        cases hy
        refine ⟨?_, ?_, hm8, ?_, fun a ha => ?_, sortI_up _, fun a ha => ?_⟩
        · show 0 ≤ mx l (a0 + many); unfold mx; split <;> omega
        · show mx l (a0 + many) ≤ m; unfold mx; split <;> omega
        · show (srt _ m).length ≤ K
          unfold srt
          rw [len_sortI]
          refine Nat.le_trans (List.length_filter_le ..) ?_
          rw [List.length_append, hel]
          simp only [List.length_cons, List.length_nil]
          omega
        · have ha' : a ∈ srt ((as.map (· + many)).eraseIdx door ++ [if c then 0 else a0 + many]) m := ha
          unfold srt at ha'
          rw [mem_sortI, List.mem_filter, List.mem_append] at ha'
          obtain ⟨h1, h2⟩ := ha'
          have h3 : a ≤ m := by simpa using h2
          refine ⟨?_, by omega⟩
          rcases h1 with h1 | h1
          · exact hpos a h1
          · simp only [List.mem_singleton] at h1
            subst h1
            split <;> omega
        · have ha' : a ∈ sortI ((((as.map (· + many)).eraseIdx door ++ [if c then 0 else a0 + many])).filter fun a => decide (a ≤ m)) := ha
          rw [mem_sortI, List.mem_filter] at ha'
          simpa using ha'.2
      · cases hy
    · unfold lost at hy
      simp only at hy
      split at hy
      · rename_i hlt
        cases hy
        have hmn : mn m (a0 + many - 1) ≤ m ∧ l ≤ mn m (a0 + many - 1) := by unfold mn; split <;> omega
        refine ⟨h0, hmn.2, by show mn m (a0 + many - 1) ≤ 8; omega, ?_, fun a ha => ?_, sortI_up _, fun a ha => ?_⟩
        · show (srt _ _).length ≤ K
          unfold srt
          rw [len_sortI]
          refine Nat.le_trans (List.length_filter_le ..) ?_
          rw [hel]; omega
        · have ha' : a ∈ srt ((as.map (· + many)).eraseIdx door) (mn m (a0 + many - 1)) := ha
          unfold srt at ha'
          rw [mem_sortI, List.mem_filter] at ha'
          obtain ⟨h1, h2⟩ := ha'
          have h3 : a ≤ mn m (a0 + many - 1) := by simpa using h2
          exact ⟨hpos a h1, by omega⟩
        · have ha' : a ∈ sortI (((as.map (· + many)).eraseIdx door).filter fun a => decide (a ≤ mn m (a0 + many - 1))) := ha
          rw [mem_sortI, List.mem_filter] at ha'
          simpa using ha'.2
      · cases hy
/-! how many there can be -/
def ac : List Int → Nat
  | [] => 0
  | a :: r => a.toNat + 1 + 10 * ac r
theorem ac_inj : ∀ (as bs : List Int), (∀ a ∈ as, 0 ≤ a ∧ a ≤ 8) → (∀ a ∈ bs, 0 ≤ a ∧ a ≤ 8) → ac as = ac bs → as = bs
  | [], [], _, _, _ => rfl
  | [], b :: bs, _, _, h => by simp only [ac] at h; omega
  | a :: as, [], _, _, h => by simp only [ac] at h; omega
  | a :: as, b :: bs, ha, hb, h => by
    simp only [ac] at h
    have h1 := ha a (List.mem_cons_self ..)
    have h2 := hb b (List.mem_cons_self ..)
    have e : a = b := by omega
    subst e
    rw [ac_inj as bs (fun x hx => ha x (List.mem_cons_of_mem _ hx)) (fun x hx => hb x (List.mem_cons_of_mem _ hx)) (by omega)]
theorem ac_lt : ∀ (as : List Int), (∀ a ∈ as, 0 ≤ a ∧ a ≤ 8) → ac as < 10 ^ as.length
  | [], _ => by simp [ac]
  | a :: as, h => by
    have h1 := h a (List.mem_cons_self ..)
    have h2 := ac_lt as fun x hx => h x (List.mem_cons_of_mem _ hx)
    simp only [ac, List.length_cons, Nat.pow_succ]
    omega
def code (s : St3) : Nat := (s.1.toNat * 9 + s.2.1.toNat) * 1000 + ac s.2.2
theorem ac_1000 {K : Nat} {s : St3} (v : Val K s) (hK : K ≤ 3) : ac s.2.2 < 1000 := by
  have h1 := ac_lt s.2.2 v.ages
  have h2 : 10 ^ s.2.2.length ≤ 10 ^ 3 := Nat.pow_le_pow_right (by decide) (Nat.le_trans v.len hK)
  have : (10 : Nat) ^ 3 = 1000 := by decide
  omega
theorem card {K : Nat} (hK : K ≤ 3) {F : List St3} (hn : F.Nodup) (hv : ∀ s ∈ F, Val K s) : F.length ≤ 81000 := by
  have h := nodup_lt 81000 (F.map code) (by
    unfold List.Nodup
    rw [List.pairwise_map]
    refine List.Pairwise.imp_of_mem ?_ hn
    intro a b ha hb hne he
    have va := hv a ha
    have vb := hv b hb
    have h1 := ac_1000 va hK
    have h2 := ac_1000 vb hK
    have := va.l0; have := va.lm; have := va.m8; have := vb.l0; have := vb.lm; have := vb.m8
    unfold code at he
    have e1 : ac a.2.2 = ac b.2.2 := by omega
    have e2 := ac_inj _ _ va.ages vb.ages e1
    obtain ⟨l, m, as⟩ := a
    obtain ⟨x, y, bs⟩ := b
    simp only at e2 this he h1 h2
    subst e2
    have e3 : l = x ∧ m = y := by simp only at *; omega
    exact hne (by rw [e3.1, e3.2])) (fun x hx => by
      obtain ⟨s, hs, rfl⟩ := List.mem_map.mp hx
      have v := hv s hs
      have h1 := ac_1000 v hK
      have := v.l0; have := v.lm; have := v.m8
      unfold code
      omega)
  rwa [List.length_map] at h
end K77
end ZK77o
section ZK77p
set_option Elab.async false
set_option linter.all false
set_option maxRecDepth 100000
set_option maxHeartbeats 400000
namespace K77
open PySem PD
def testsL (k : Nat) : List (Nat × Nat) := (List.range 9).flatMap fun m => (List.range k).map fun d => (m, d)
def tD (p : Nat × Nat) : D := .tup [.int (p.1 : Int), .int (p.2 : Int)]
theorem tsD_map (k : Nat) : tsD k 9 = (testsL k).map tD := by
  unfold tsD testsL
  rw [List.map_flatMap]
  congr 1
  funext m
  rw [List.map_map]
  rfl
theorem mem_testsL {k : Nat} {p : Nat × Nat} : p ∈ testsL k ↔ p.1 < 9 ∧ p.2 < k := by
  unfold testsL
  simp only [List.mem_flatMap, List.mem_range, List.mem_map]
  constructor
  · rintro ⟨m, h1, d, h2, rfl⟩; exact ⟨h1, h2⟩
  · rintro ⟨h1, h2⟩; exact ⟨p.1, h1, p.2, h2, rfl⟩
/-- what holds of the worklist -/
structure WI (K : Nat) (k : Wk) : Prop where
  nf : k.F.Nodup
  nw : k.W.Nodup
  sub : ∀ s ∈ k.W, s ∈ k.F
  val : ∀ s ∈ k.F, Val K s
  le : k.W.length ≤ k.F.length
theorem WI.add {K : Nat} {k : Wk} (h : WI K k) {x : St3} (hx : Val K x) : WI K (addW k x) := by
  unfold addW
  cases hw : want k.F x with
  | false => exact h
  | true =>
    have hn : x ∉ k.F := by
      unfold want at hw
      simp at hw
      exact hw.2.2
    simp only [if_true]
    refine ⟨?_, ?_, fun s hs => ?_, fun s hs => ?_, ?_⟩
    · rw [List.nodup_append]
      exact ⟨h.nf, by simp, fun a ha b hb => by simp at hb; subst hb; exact fun z => hn (z ▸ ha)⟩
    · rw [List.nodup_append]
      exact ⟨h.nw, by simp, fun a ha b hb => by simp at hb; subst hb; exact fun z => hn (z ▸ h.sub a ha)⟩
    · rcases List.mem_append.mp hs with z | z
      · exact List.mem_append_left _ (h.sub s z)
      · exact List.mem_append_right _ z
    · rcases List.mem_append.mp hs with z | z
      · exact h.val s z
      · simp at z; subst z; exact hx
    · have := h.le
      simp only [List.length_append, List.length_cons, List.length_nil]; omega
theorem WI.small {K : Nat} (hK : K ≤ 3) {k : Wk} (h : WI K k) : k.F.length < LIM ∧ k.W.length < LIM := by
  have h1 := card hK h.nf h.val
  have h2 := h.le
  unfold LIM
  omega
/-- one state's laters, test by test -/
def stepA (c : Bool) (s : St3) (k : Wk) (p : Nat × Nat) : Wk := (laters s p.1 p.2 c).foldl addW k
structure J where
  k : Wk
  j5 : Sl
  j6 : Sl
def encJ (b s : St3) (w : Str) (z : J) : PD.Env := [.v (sD b), .v (.str w), .od (fd z.k.F), .ol (z.k.W.map sD), .v (sD s), z.j5, z.j6]
def stepJ (z : J) (x : St3) : J := ⟨addW z.k x, z.j5, .v (sD x)⟩
def stepT (c : Bool) (s : St3) (z : J) (p : Nat × Nat) : J := (laters s p.1 p.2 c).foldl stepJ ⟨z.k, .v (tD p), z.j6⟩
theorem stepJ_k : ∀ (L : List St3) (z : J), (L.foldl stepJ z).k = L.foldl addW z.k ∧ (L.foldl stepJ z).j5 = z.j5
  | [], _ => ⟨rfl, rfl⟩
  | x :: L, z => stepJ_k L (stepJ z x)
theorem stepT_k (c : Bool) (s : St3) : ∀ (L : List (Nat × Nat)) (z : J), (L.foldl (stepT c s) z).k = L.foldl (stepA c s) z.k
  | [], _ => rfl
  | p :: L, z => by
    rw [List.foldl_cons, List.foldl_cons, stepT_k c s L]
    congr 1
    exact (stepJ_k _ _).1
def bodyX : PD.X := .cons (.if_ (.and_ (.cons (.not_ (.call 5 (.cons (.var 6) .nil))) (.cons (.cmp .ne (.idx (.var 6) (.lit (.int 2))) (.tup .nil)) (.cons (.cmp .notin (.var 6) (.peek 2)) .nil)))) (.cons (.putd 2 (.var 6) (.lit (.bl true))) (.cons (.app 3 (.var 6)) .nil)) .nil) .nil
theorem forT_ev (n : Nat) (K : Nat) (hK : K ≤ 3) (b s : St3) (w : Str) (hw : w.cps.all (fun c => decide (c < 1114112)) = true) (vs : Val K s) (z : J) (hz : WI K z.k) :
    WI K ((testsL s.2.2.length).foldl (stepT (isBoth w) s) z).k ∧
    evS pg (callN pg (n + 3)) (.for_ (.tv 5) (.src (.call 7 (.cons (.var 4) .nil))) (.cons (.for_ (.tv 6) (.src (.call 8 (.cons (.var 4) (.cons (.var 5) (.cons (.var 1) .nil))))) bodyX) .nil)) (encJ b s w z) = ret (.nx (encJ b s w ((testsL s.2.2.length).foldl (stepT (isBoth w) s) z))) := by
  have h3 : s.2.2.length ≤ 3 := Nat.le_trans vs.len hK
  have main := forL_fold (f := fun d e => match bindT (.tv 5) d e with
      | some e => evB pg (callN pg (n + 3)) (.cons (.for_ (.tv 6) (.src (.call 8 (.cons (.var 4) (.cons (.var 5) (.cons (.var 1) .nil))))) bodyX) .nil) e
      | none => fail) tD (encJ b s w) (stepT (isBoth w) s) (fun z => WI K z.k) (testsL s.2.2.length) z hz fun y p hp hy => by
    obtain ⟨p9, pk⟩ := mem_testsL.mp hp
    have hl := laters_ev n s (p.1 : Int) p.2 w hw h3 pk
    have inn := forL_fold (f := fun d e => match bindT (.tv 6) d e with
      | some e => evB pg (callN pg (n + 3)) bodyX e
      | none => fail) sD (encJ b s w) stepJ (fun z => WI K z.k) (laters s p.1 p.2 (isBoth w)) ⟨y.k, .v (tD p), y.j6⟩ hy fun q x hx hq => by
        refine ⟨hq.add (laters_val vs (by omega) hx), ?_⟩
        obtain ⟨s1, s2⟩ := hq.small hK
        exact inner_ev (n + 2) x q.k.F q.k.W s1 s2 _ _ _ _
    refine ⟨inn.1, ?_⟩
    show evB pg (callN pg (n + 3)) _ (encJ b s w ⟨y.k, .v (tD p), y.j6⟩) = _
    have hargs : evA pg (callN pg (n + 3)) (.cons (.var 4) (.cons (.var 5) (.cons (.var 1) .nil))) (encJ b s w ⟨y.k, .v (tD p), y.j6⟩) = ret [sD s, tD p, .str w] := rfl
    rw [evB_nx (env' := encJ b s w (stepT (isBoth w) s y p)) (ev_for (ds := (laters s p.1 p.2 (isBoth w)).map sD) (ev_src (ev_call hargs hl) rfl) inn.2)]
    rfl
  refine ⟨main.1, ?_⟩
  have hargs : evA pg (callN pg (n + 3)) (.cons (.var 4) .nil) (encJ b s w z) = ret [sD s] := rfl
  refine ev_for (ds := (testsL s.2.2.length).map tD) (ev_src (ev_call hargs (tests_ev (n + 2) s h3)) ?_) main.2
  rw [← tsD_map]; rfl
/-! the whole worklist -/
def Cl (c : Bool) (F : List St3) (s : St3) : Prop := ∀ p ∈ testsL s.2.2.length, ∀ x ∈ laters s p.1 p.2 c, x.1 ≠ x.2.1 → x.2.2 ≠ [] → x ∈ F
theorem addW_mono (k : Wk) (x : St3) : (∀ s ∈ k.F, s ∈ (addW k x).F) ∧ (x.1 ≠ x.2.1 → x.2.2 ≠ [] → x ∈ (addW k x).F) ∧ (∀ s ∈ (addW k x).F, s ∈ k.F ∨ s ∈ (addW k x).W) ∧ (∀ s ∈ k.W, s ∈ (addW k x).W) ∧ ((addW k x).F.length - (addW k x).W.length : Int) = k.F.length - k.W.length := by
  unfold addW
  cases hw : want k.F x with
  | false =>
    simp only [Bool.false_eq_true, if_false]
    refine ⟨fun _ h => h, fun h1 h2 => ?_, fun s h => .inl h, fun _ h => h, trivial⟩
    unfold want at hw
    simp [h1, h2] at hw
    exact hw
  | true =>
    simp only [if_true]
    refine ⟨fun s h => List.mem_append_left _ h, fun _ _ => by simp, fun s h => ?_, fun s h => List.mem_append_left _ h, by simp; omega⟩
    rcases List.mem_append.mp h with z | z
    · exact .inl z
    · exact .inr (List.mem_append_right _ z)
theorem foldW_mono : ∀ (L : List St3) (k : Wk), (∀ s ∈ k.F, s ∈ (L.foldl addW k).F) ∧ (∀ x ∈ L, x.1 ≠ x.2.1 → x.2.2 ≠ [] → x ∈ (L.foldl addW k).F) ∧ (∀ s ∈ (L.foldl addW k).F, s ∈ k.F ∨ s ∈ (L.foldl addW k).W) ∧ (∀ s ∈ k.W, s ∈ (L.foldl addW k).W) ∧ ((L.foldl addW k).F.length - (L.foldl addW k).W.length : Int) = k.F.length - k.W.length
  | [], k => ⟨fun _ h => h, (fun _ h => (nomatch h)), fun _ h => .inl h, fun _ h => h, rfl⟩
  | x :: L, k => by
    obtain ⟨a1, a2, a3, a4, a5⟩ := addW_mono k x
    obtain ⟨b1, b2, b3, b4, b5⟩ := foldW_mono L (addW k x)
    refine ⟨fun s h => b1 s (a1 s h), fun y hy h1 h2 => ?_, fun s h => ?_, fun s h => b4 s (a4 s h), b5.trans a5⟩
    · rcases List.mem_cons.mp hy with rfl | hy
      · exact b1 _ (a2 h1 h2)
      · exact b2 y hy h1 h2
    · rcases b3 s h with z | z
      · rcases a3 s z with y | y
        · exact .inl y
        · exact .inr (b4 s y)
      · exact .inr z
theorem foldA_mono (c : Bool) (s0 : St3) : ∀ (L : List (Nat × Nat)) (k : Wk), (∀ s ∈ k.F, s ∈ (L.foldl (stepA c s0) k).F) ∧ (∀ p ∈ L, ∀ x ∈ laters s0 p.1 p.2 c, x.1 ≠ x.2.1 → x.2.2 ≠ [] → x ∈ (L.foldl (stepA c s0) k).F) ∧ (∀ s ∈ (L.foldl (stepA c s0) k).F, s ∈ k.F ∨ s ∈ (L.foldl (stepA c s0) k).W) ∧ (∀ s ∈ k.W, s ∈ (L.foldl (stepA c s0) k).W) ∧ ((L.foldl (stepA c s0) k).F.length - (L.foldl (stepA c s0) k).W.length : Int) = k.F.length - k.W.length
  | [], k => ⟨fun _ h => h, (fun _ h => (nomatch h)), fun _ h => .inl h, fun _ h => h, rfl⟩
  | p :: L, k => by
    obtain ⟨a1, a2, a3, a4, a5⟩ := foldW_mono (laters s0 p.1 p.2 c) k
    obtain ⟨b1, b2, b3, b4, b5⟩ := foldA_mono c s0 L (stepA c s0 k p)
    refine ⟨fun s h => b1 s (a1 s h), fun q hq x hx h1 h2 => ?_, fun s h => ?_, fun s h => b4 s (a4 s h), b5.trans a5⟩
    · rcases List.mem_cons.mp hq with rfl | hq
      · exact b1 _ (a2 x hx h1 h2)
      · exact b2 q hq x hx h1 h2
    · rcases b3 s h with z | z
      · rcases a3 s z with y | y
        · exact .inl y
        · exact .inr (b4 s y)
      · exact .inr z
def whT : PD.X := .cmp .ne (.peek 3) (.lst .nil)
def whB : PD.X := .cons (.popo 4 3) (.cons (.for_ (.tv 5) (.src (.call 7 (.cons (.var 4) .nil))) (.cons (.for_ (.tv 6) (.src (.call 8 (.cons (.var 4) (.cons (.var 5) (.cons (.var 1) .nil))))) bodyX) .nil)) .nil)
def encW (b : St3) (w : Str) (k : Wk) (j4 j5 j6 : Sl) : PD.Env := [.v (sD b), .v (.str w), .od (fd k.F), .ol (k.W.map sD), j4, j5, j6]
theorem whT_ev (P : Prog) (cf : Calls) (b : St3) (w : Str) (k : Wk) (j4 j5 j6 : Sl) : evE P cf whT (encW b w k j4 j5 j6) = ret (.bl (!k.W.isEmpty)) := by
  refine ev_cmp (d := .lst (k.W.map sD)) (e := .lst []) rfl rfl (fun _ z => nomatch z) (fun _ z => nomatch z) ?_
  show (if (D.lst (k.W.map sD)).eqOk && (D.lst []).eqOk then some (!D.eqvAll (k.W.map sD) []) else none) = _
  rw [ok_sDs]
  cases k.W <;> rfl
theorem while_ev (n K : Nat) (hK : K ≤ 3) (b : St3) (w : Str) (hw : w.cps.all (fun c => decide (c < 1114112)) = true) : ∀ (fuel : Nat) (k : Wk) (j4 j5 j6 : Sl), WI K k → (∀ s ∈ k.F, s ∉ k.W → Cl (isBoth w) k.F s) → (81000 : Int) < fuel + (k.F.length - k.W.length) →
    ∃ k' j4' j5' j6', WI K k' ∧ k'.W = [] ∧ (∀ s ∈ k.F, s ∈ k'.F) ∧ (∀ s ∈ k'.F, Cl (isBoth w) k'.F s) ∧
      whileL (fun e => bnd (evE pg (callN pg (n + 3)) whT e) blD) (fun e => evB pg (callN pg (n + 3)) whB e) fuel (encW b w k j4 j5 j6) = ret (.nx (encW b w k' j4' j5' j6'))
  | 0, k, _, _, _, h, _, hf => by
    have := card hK h.nf h.val
    omega
  | fuel + 1, k, j4, j5, j6, h, hc, hf => by
    have hstep : whileL (fun e => bnd (evE pg (callN pg (n + 3)) whT e) blD) (fun e => evB pg (callN pg (n + 3)) whB e) (fuel + 1) (encW b w k j4 j5 j6) = bnd (bnd (evE pg (callN pg (n + 3)) whT (encW b w k j4 j5 j6)) blD) (fun c => if c then bnd (evB pg (callN pg (n + 3)) whB (encW b w k j4 j5 j6)) (fun o => match o with
      | .nx e | .ct e => whileL (fun e => bnd (evE pg (callN pg (n + 3)) whT e) blD) (fun e => evB pg (callN pg (n + 3)) whB e) fuel e
      | .bk e => ret (.nx e)
      | .rt x => ret (.rt x)) else ret (.nx (encW b w k j4 j5 j6))) := rfl
    rw [hstep, whT_ev]
    by_cases hW : k.W = []
    · refine ⟨k, j4, j5, j6, h, hW, fun _ z => z, fun s hs => hc s hs (by rw [hW]; exact fun z => nomatch z), ?_⟩
      rw [hW]; rfl
    · have hWl : k.W = k.W.dropLast ++ [k.W.getLast hW] := (List.dropLast_concat_getLast hW).symm
      have hlen : k.W.dropLast.length + 1 = k.W.length := by
        have := List.length_pos_iff.mpr hW
        rw [List.length_dropLast]; omega
      generalize hlast : k.W.getLast hW = s at hWl
      have hsW : s ∈ k.W := by rw [hWl]; simp
      have hsF := h.sub s hsW
      have vs := h.val s hsF
      have hnd := h.nw
      rw [hWl, List.nodup_append] at hnd
      have hsd : s ∉ k.W.dropLast := fun z => hnd.2.2 s z s (by simp) rfl
      have w0 : WI K ⟨k.F, k.W.dropLast⟩ := ⟨h.nf, hnd.1, fun x hx => h.sub x (by rw [hWl]; exact List.mem_append_left _ hx), h.val, by have := h.le; simp only; omega⟩
      obtain ⟨f1, f2⟩ := forT_ev n K hK b s w hw vs ⟨⟨k.F, k.W.dropLast⟩, j5, j6⟩ w0
      have hk := stepT_k (isBoth w) s (testsL s.2.2.length) ⟨⟨k.F, k.W.dropLast⟩, j5, j6⟩
      obtain ⟨m1, m2, m3, m4, m5⟩ := foldA_mono (isBoth w) s (testsL s.2.2.length) ⟨k.F, k.W.dropLast⟩
      generalize hzz : (testsL s.2.2.length).foldl (stepT (isBoth w) s) ⟨⟨k.F, k.W.dropLast⟩, j5, j6⟩ = zz at f1 f2 hk
      simp only at hk
      rw [← hk] at m1 m2 m3 m4 m5
      obtain ⟨k', j4', j5', j6', r1, r2, r3, r4, r5⟩ := while_ev n K hK b w hw fuel zz.k (.v (sD s)) zz.j5 zz.j6 f1 (fun x hx hnx => by
        rcases m3 x hx with y | y
        · by_cases hxs : x = s
          · subst hxs
            exact fun p hp q hq a1 a2 => m2 p hp q hq a1 a2
          · have : x ∉ k.W := fun z => by
              rw [hWl] at z
              rcases List.mem_append.mp z with z | z
              · exact hnx (m4 x z)
              · simp at z; exact hxs z
            exact fun p hp q hq a1 a2 => m1 q (hc x y this p hp q hq a1 a2)
        · exact absurd y hnx) (by
        simp only at m5
        omega)
      refine ⟨k', j4', j5', j6', r1, r2, fun x hx => r3 x (m1 x hx), r4, ?_⟩
      have hne : (!k.W.isEmpty) = true := by
        cases hq : k.W with
        | nil => exact absurd hq hW
        | cons _ _ => rfl
      rw [hne]
      show bnd (evB pg (callN pg (n + 3)) whB (encW b w k j4 j5 j6)) _ = _
      have hb : evB pg (callN pg (n + 3)) whB (encW b w k j4 j5 j6) = ret (.nx (encW b w zz.k (.v (sD s)) zz.j5 zz.j6)) := by
        unfold whB
        rw [evB_nx (env' := encJ b s w ⟨⟨k.F, k.W.dropLast⟩, j5, j6⟩) (by
          show (match (k.W.map sD)[(k.W.map sD).length - 1]? with
            | some d => ret (Out.nx [.v (sD b), .v (.str w), .od (fd k.F), .ol (k.W.map sD).dropLast, .v d, j5, j6])
            | none => fail) = _
          have hg : (k.W.map sD)[(k.W.map sD).length - 1]? = some (sD s) := by
            rw [List.length_map, List.getElem?_map]
            have : k.W[k.W.length - 1]? = some s := by
              rw [← List.getLast?_eq_getElem?, List.getLast?_eq_getLast hW, hlast]
            rw [this]; rfl
          rw [hg]
          dsimp only
          rw [← List.map_dropLast]
          rfl), evB_nx f2]
        rfl
      rw [hb]
      exact r5
theorem allStates_ev (n K : Nat) (hK : K ≤ 3) (b : St3) (w : Str) (hw : w.cps.all (fun c => decide (c < 1114112)) = true) (vb : Val K b) :
    ∃ F : List St3, F.Nodup ∧ (∀ s ∈ F, Val K s) ∧ b ∈ F ∧ (∀ s ∈ F, Cl (isBoth w) F s) ∧ callN pg (n + 4) 9 [sD b, .str w] = ret (.lst (F.map sD)) := by
  have w0 : WI K ⟨[b], [b]⟩ := ⟨by simp, by simp, fun _ h => h, fun s hs => by simp at hs; subst hs; exact vb, Nat.le_refl _⟩
  obtain ⟨k', j4', j5', j6', r1, r2, r3, r4, r5⟩ := while_ev n K hK b w hw 100000 ⟨[b], [b]⟩ .no .no .no w0 (fun s h1 h2 => absurd h1 h2) (by simp)
  refine ⟨k'.F, r1.nf, r1.val, r3 b (by simp), r4, ?_⟩
  refine runF_rt (P := pg) (cf := callN pg (n + 3)) (fd := ⟨2, 7, t9⟩) (ds := [sD b, .str w]) rfl ?_
  show evB pg (callN pg (n + 3)) t9 [.v (sD b), .v (.str w), .no, .no, .no, .no, .no] = _
  have hk : dKey (sD b) [] = true := key_kv b []
  rw [show t9 = .cons (.par 2 3 (.ownd (.cons (.var 0) .nil) (.cons (.lit (.bl true)) .nil)) (.own (.lst (.cons (.var 0) .nil)))) (.cons (.while_ whT whB) (.cons (.rt (.bif .list (.cons (.peek 2) .nil))) .nil)) from rfl]
  rw [evB_nx (env' := encW b w ⟨[b], [b]⟩ .no .no .no) (by
    show bnd (if dKey (sD b) [] then ret (Sl.od [(sD b, .bl true)]) else fail) _ = _
    rw [hk]; rfl), evB_nx (env' := encW b w k' j4' j5' j6') (show evS pg (callN pg (n + 3)) (.while_ whT whB) (encW b w ⟨[b], [b]⟩ .no .no .no) = _ from r5)]
  refine evB_rt (ev_rt ?_)
  refine ev_bif1 (d := .dct (fd k'.F)) rfl (fun _ z => nomatch z) ?_
  show (if headTup (fd k'.F) then some (D.lst ((fd k'.F).map (·.1))) else none) = _
  unfold fd
  rw [head_kv, if_pos rfl]
  unfold kv
  rw [List.map_map, List.map_map]
  rfl
end K77
end ZK77p
section ZK77g
set_option Elab.async false
set_option linter.all false
set_option maxRecDepth 100000
set_option maxHeartbeats 400000
namespace K77
open PySem PD
/-- t moments are enough to learn the wait -/
inductive Solv (c : Bool) : Nat → St3 → Prop
  | known {t : Nat} {s : St3} (h : s.1 = s.2.1) : Solv c t s
  | test {t : Nat} {s : St3} (p : Nat × Nat) (hp : p ∈ testsL s.2.2.length) (hm : p.1 ≤ t) (h : ∀ x ∈ laters s p.1 p.2 c, Solv c (t - p.1) x) : Solv c t s
theorem Solv.mono {c : Bool} {t : Nat} {s : St3} (h : Solv c t s) : ∀ t', t ≤ t' → Solv c t' s := by
  induction h with
  | known h => exact fun t' _ => .known h
  | test p hp hm h ih => exact fun t' ht => .test p hp (by omega) fun x hx => ih x hx (t' - p.1) (by omega)
/-- the two laters told apart -/
theorem mem_came {s : St3} {many door : Nat} {c : Bool} {a0 : Int} (hd : s.2.2[door]? = some a0) (h : a0 + many ≤ s.2.1) : (mx s.1 (a0 + many), s.2.1, srt ((s.2.2.map (· + (many : Int))).eraseIdx door ++ [if c then 0 else a0 + many]) s.2.1) ∈ laters s many door c := by
  unfold laters
  rw [hd]
  simp only [List.mem_filterMap, List.mem_cons, List.not_mem_nil, or_false, id]
  refine ⟨_, .inl rfl, ?_⟩
  unfold came
  rw [if_pos h]
theorem mem_lost {s : St3} {many door : Nat} {c : Bool} {a0 : Int} (hd : s.2.2[door]? = some a0) (h : s.1 < a0 + many) : (s.1, mn s.2.1 (a0 + many - 1), srt ((s.2.2.map (· + (many : Int))).eraseIdx door) (mn s.2.1 (a0 + many - 1))) ∈ laters s many door c := by
  unfold laters
  rw [hd]
  simp only [List.mem_filterMap, List.mem_cons, List.not_mem_nil, or_false, id]
  refine ⟨_, .inr rfl, ?_⟩
  unfold lost
  rw [if_pos h]
theorem mem_srt {a m : Int} {l : List Int} (h : a ∈ srt l m) : a ∈ l ∧ a ≤ m := by
  unfold srt at h
  rw [mem_sortI, List.mem_filter] at h
  exact ⟨h.1, by simpa using h.2⟩
theorem door_at {s : St3} {p : Nat × Nat} (hp : p ∈ testsL s.2.2.length) : ∃ a0, s.2.2[p.2]? = some a0 := by
  have := (mem_testsL.mp hp).2
  exact ⟨s.2.2[p.2], by simp [this]⟩
/-- all at least m moments pass where the wait is m -/
theorem low_m {c : Bool} {t : Nat} {s : St3} (h : Solv c t s) : s.1 < s.2.1 → ∀ B : Int, 0 ≤ B → (∀ a ∈ s.2.2, a ≤ B) → s.2.1 ≤ t + B := by
  induction h with
  | known h => intro h1; omega
  | @test t s p hp hm h ih =>
    intro h1 B hB ha
    obtain ⟨a0, hd⟩ := door_at hp
    have ha0 := ha a0 (List.mem_of_getElem? hd)
    by_cases hc : s.2.1 ≤ a0 + p.1
    · omega
    · have hx := mem_came (c := c) hd (show a0 + (p.1 : Int) ≤ s.2.1 by omega)
      have := ih _ hx (by show mx s.1 (a0 + p.1) < s.2.1; unfold mx; split <;> omega) (B + p.1) (by omega) (fun a hm' => by
        obtain ⟨h3, _⟩ := mem_srt hm'
        rcases List.mem_append.mp h3 with h3 | h3
        · obtain ⟨b, hb, rfl⟩ := List.mem_map.mp (mem_erase h3)
          have := ha b hb
          omega
        · simp only [List.mem_singleton] at h3
          subst h3
          split <;> omega)
      have h9 : s.2.1 ≤ ((t - p.1 : Nat) : Int) + (B + p.1) := this
      omega
theorem nodoor {c : Bool} {t : Nat} {s : St3} (h : Solv c t s) (he : s.2.2 = []) : s.1 = s.2.1 := by
  cases h with
  | known h => exact h
  | test p hp hm h =>
    rw [he] at hp
    have := (mem_testsL.mp hp).2
    simp at this
theorem sq_succ (l : Int) : (l + 1) * (l + 1 + 1) = l * (l + 1) + 2 * (l + 1) := by grind
theorem srt_one {a m : Int} (h : a ≤ m) : srt [a] m = [a] := by
  unfold srt
  simp [h, sortI, insI]
theorem low_sum {t : Nat} {s : St3} (h : Solv true t s) : 0 ≤ s.1 → s.1 < s.2.1 → ∀ a : Int, s.2.2 = [a] → 0 ≤ a → s.2.1 * (s.2.1 + 1) - s.1 * (s.1 + 1) ≤ 2 * (t + a) := by
  induction h with
  | known h => intro _ h1; omega
  | @test t s p hp hm h ih =>
    obtain ⟨l, m, as⟩ := s
    intro h0 h1 a hs ha
    simp only at h0 h1 hs
    subst hs
    simp only at hp h ih ⊢
    have hp2 : p.2 = 0 := by have := (mem_testsL.mp hp).2; simp at this; exact this
    have hd : (l, m, [a]).2.2[p.2]? = some a := by rw [hp2]; rfl
    have her : (([a].map (· + (p.1 : Int))).eraseIdx p.2) = [] := by rw [hp2]; rfl
    by_cases c1 : a + p.1 ≤ l + 1
    · by_cases c2 : l + 1 = m
      · subst c2
        have := sq_succ l
        by_cases c3 : a + p.1 = l + 1
        · omega
        · have hx := mem_came (c := true) hd (show a + (p.1 : Int) ≤ l + 1 by omega)
          have := ih _ hx (by show 0 ≤ mx l _; unfold mx; split <;> omega) (by show mx l _ < l + 1; unfold mx; split <;> omega) 0 (by
            show srt (_ ++ [0]) (l + 1) = [0]
            rw [her]; exact srt_one (by omega)) (by omega)
          have h9 : (l + 1) * (l + 1 + 1) - mx l (a + p.1) * (mx l (a + p.1) + 1) ≤ 2 * (((t - p.1 : Nat) : Int) + 0) := this
          have h8 : mx l (a + p.1) = l := by unfold mx; split <;> omega
          rw [h8] at h9
          omega
      · have hx := mem_came (c := true) hd (show a + (p.1 : Int) ≤ m by omega)
        have := ih _ hx (by show 0 ≤ mx l _; unfold mx; split <;> omega) (by show mx l _ < m; unfold mx; split <;> omega) 0 (by
          show srt (_ ++ [0]) m = [0]
          rw [her]; exact srt_one (by omega)) (by omega)
        have h9 : m * (m + 1) - mx l (a + p.1) * (mx l (a + p.1) + 1) ≤ 2 * (((t - p.1 : Nat) : Int) + 0) := this
        by_cases c3 : a + p.1 = l + 1
        · have h8 : mx l (a + p.1) = l + 1 := by unfold mx; split <;> omega
          rw [h8] at h9
          have := sq_succ l
          omega
        · have h8 : mx l (a + p.1) = l := by unfold mx; split <;> omega
          rw [h8] at h9
          omega
    · have hx := mem_lost (c := true) hd (show l < a + (p.1 : Int) by omega)
      have := nodoor (h _ hx) (by
        show srt _ _ = []
        rw [her]; rfl)
      have h9 : l = mn m (a + p.1 - 1) := this
      unfold mn at h9
      split at h9 <;> omega
theorem laters_cases {s x : St3} {many door : Nat} {c : Bool} {a0 : Int} (hd : s.2.2[door]? = some a0) (h : x ∈ laters s many door c) :
    (a0 + many ≤ s.2.1 ∧ x = (mx s.1 (a0 + many), s.2.1, srt ((s.2.2.map (· + (many : Int))).eraseIdx door ++ [if c then 0 else a0 + many]) s.2.1)) ∨ (s.1 < a0 + many ∧ x = (s.1, mn s.2.1 (a0 + many - 1), srt ((s.2.2.map (· + (many : Int))).eraseIdx door) (mn s.2.1 (a0 + many - 1)))) := by
  unfold laters at h
  rw [hd] at h
  simp only [List.mem_filterMap, List.mem_cons, List.not_mem_nil, or_false, id] at h
  obtain ⟨y, hy, rfl⟩ := h
  rcases hy with hy | hy
  · unfold came at hy
    split at hy
    · rename_i hle; cases hy; exact .inl ⟨hle, rfl⟩
    · cases hy
  · unfold lost at hy
    split at hy
    · rename_i hlt; cases hy; exact .inr ⟨hlt, rfl⟩
    · cases hy
theorem srt_mem {a m : Int} {l : List Int} (h : a ∈ l) (h2 : a ≤ m) : a ∈ srt l m := by
  unfold srt
  rw [mem_sortI, List.mem_filter]
  exact ⟨h, by simpa using h2⟩
/-- one door, tested at one moment more than is known, again and again -/
theorem up_one (c : Bool) : ∀ (k : Nat) (s : St3) (a : Int) (t : Nat), s.2.1 - s.1 = k → 0 ≤ s.1 → s.2.1 ≤ 8 → a ∈ s.2.2 → 0 ≤ a → a ≤ s.1 + 1 → (c = true → s.2.1 * (s.2.1 + 1) - s.1 * (s.1 + 1) ≤ 2 * (t + a)) → (c = false → s.2.1 ≤ t + a) → Solv c t s
  | 0, s, a, t, hk, _, _, _, _, _, _, _ => .known (by omega)
  | k + 1, (l, m, as), a, t, hk, h0, h8, ha, ha0, hal, ht, hf => by
    simp only at hk h0 h8 ha hal ht hf
    obtain ⟨d, hd⟩ := List.mem_iff_getElem?.mp ha
    have hdl : d < as.length := (List.getElem?_eq_some_iff.mp hd).1
    have hw : (((l + 1 - a).toNat : Nat) : Int) = l + 1 - a := by omega
    have sq := sq_succ l
    have hmt : l + 1 - a ≤ t := by
      cases c with
      | false => have := hf rfl; omega
      | true =>
        have h1 := ht rfl
        have : (l + 1) * (l + 1 + 1) ≤ m * (m + 1) := Int.mul_le_mul (by omega) (by omega) (by omega) (by omega)
        omega
    refine .test ((l + 1 - a).toNat, d) (mem_testsL.mpr ⟨by omega, hdl⟩) (by show (l + 1 - a).toNat ≤ t; omega) fun x hx => ?_
    rcases laters_cases hd hx with ⟨h1, rfl⟩ | ⟨h1, rfl⟩
    · have hmx : mx l (a + ((l + 1 - a).toNat : Nat)) = l + 1 := by unfold mx; split <;> omega
      simp only
      rw [hmx]
      have e1 : a + (((l + 1 - a).toNat : Nat) : Int) = l + 1 := by omega
      refine up_one c k _ (if c then 0 else l + 1) _ (by show m - (l + 1) = k; omega) (by show 0 ≤ l + 1; omega) h8 (srt_mem (List.mem_append_right _ (by rw [e1]; simp)) (by cases c <;> simp <;> omega)) (by cases c <;> simp <;> omega) (by show (if c = true then (0 : Int) else l + 1) ≤ l + 1 + 1; cases c <;> simp <;> omega) (fun hc => ?_) fun hc => ?_
      · subst hc
        have h2 := ht rfl
        show m * (m + 1) - (l + 1) * (l + 1 + 1) ≤ 2 * (((t - (l + 1 - a).toNat : Nat) : Int) + 0)
        omega
      · subst hc
        have h2 := hf rfl
        show m ≤ ((t - (l + 1 - a).toNat : Nat) : Int) + (l + 1)
        omega
    · refine .known ?_
      show l = mn m (a + ((l + 1 - a).toNat : Nat) - 1)
      unfold mn; split <;> omega
/-! how often -/
def cn (e : Int) : List Int → Nat
  | [] => 0
  | a :: r => (if a = e then 1 else 0) + cn e r
theorem cn_map (e w : Int) : ∀ l : List Int, cn (e + w) (l.map (· + w)) = cn e l
  | [] => rfl
  | a :: r => by
    show (if a + w = e + w then 1 else 0) + cn (e + w) (r.map (· + w)) = _
    rw [cn_map e w r]
    show _ = (if a = e then 1 else 0) + cn e r
    by_cases c : a = e
    · simp [c]
    · have : ¬ a + w = e + w := by omega
      simp [c, this]
theorem cn_erase (e : Int) : ∀ (l : List Int) (d : Nat), l[d]? = some e → cn e (l.eraseIdx d) + 1 = cn e l
  | [], _, h => by simp at h
  | a :: r, 0, h => by
    simp at h; subst h
    show cn a r + 1 = (if a = a then 1 else 0) + cn a r
    simp; omega
  | a :: r, d + 1, h => by
    have := cn_erase e r d (by simpa using h)
    show (if a = e then 1 else 0) + cn e (r.eraseIdx d) + 1 = (if a = e then 1 else 0) + cn e r
    omega
theorem cn_append (e : Int) : ∀ l r : List Int, cn e (l ++ r) = cn e l + cn e r
  | [], r => by show cn e r = 0 + cn e r; omega
  | a :: l, r => by
    show (if a = e then 1 else 0) + cn e (l ++ r) = (if a = e then 1 else 0) + cn e l + cn e r
    rw [cn_append e l r]; omega
theorem cn_filter (e m : Int) (h : e ≤ m) : ∀ l : List Int, cn e (l.filter fun a => decide (a ≤ m)) = cn e l
  | [] => rfl
  | a :: l => by
    rw [List.filter_cons]
    by_cases c : a ≤ m
    · rw [decide_eq_true c, if_pos rfl]
      unfold cn
      rw [cn_filter e m h l]
    · rw [decide_eq_false c, if_neg (by simp), cn_filter e m h l]
      have : ¬ a = e := by omega
      simp [cn, this]
theorem cn_perm {e : Int} {l r : List Int} (h : l.Perm r) : cn e l = cn e r := by
  induction h with
  | nil => rfl
  | cons a _ ih => simp only [cn, ih]
  | swap a b l => simp only [cn]; omega
  | trans _ _ h1 h2 => exact h1.trans h2
theorem cn_srt (e m : Int) (h : e ≤ m) (l : List Int) : cn e (srt l m) = cn e l := by
  unfold srt
  rw [cn_perm (sortI_perm _), cn_filter e m h]
theorem cn_pos {e : Int} : ∀ {l : List Int}, 0 < cn e l → e ∈ l
  | a :: l, h => by
    by_cases c : a = e
    · simp [c]
    · simp only [cn, if_neg c] at h
      exact List.mem_cons_of_mem _ (cn_pos (by omega))
/-- a door for each number that is not known -/
theorem up_many (c : Bool) : ∀ (k : Nat) (s : St3) (e : Int) (t : Nat), s.2.1 - s.1 = k → 0 ≤ s.1 → s.2.1 ≤ 8 → k ≤ cn e s.2.2 → 0 ≤ e → e ≤ s.1 + 1 → s.2.1 ≤ t + e → Solv c t s
  | 0, s, e, t, hk, _, _, _, _, _, _ => .known (by omega)
  | k + 1, (l, m, as), e, t, hk, h0, h8, hc, he0, hel, ht => by
    simp only at hk h0 h8 hc hel ht
    obtain ⟨d, hd⟩ := List.mem_iff_getElem?.mp (cn_pos (e := e) (l := as) (by omega))
    have hdl : d < as.length := (List.getElem?_eq_some_iff.mp hd).1
    have hw : (((l + 1 - e).toNat : Nat) : Int) = l + 1 - e := by omega
    refine .test ((l + 1 - e).toNat, d) (mem_testsL.mpr ⟨by omega, hdl⟩) (by show (l + 1 - e).toNat ≤ t; omega) fun x hx => ?_
    rcases laters_cases hd hx with ⟨h1, rfl⟩ | ⟨h1, rfl⟩
    · have hmx : mx l (e + ((l + 1 - e).toNat : Nat)) = l + 1 := by unfold mx; split <;> omega
      simp only
      rw [hmx]
      have e1 : e + (((l + 1 - e).toNat : Nat) : Int) = l + 1 := by omega
      have hcount : k ≤ cn (l + 1) (srt ((as.map (· + (((l + 1 - e).toNat : Nat) : Int))).eraseIdx d ++ [if c = true then 0 else e + ((l + 1 - e).toNat : Nat)]) m) := by
        rw [cn_srt (l + 1) m (by omega), cn_append]
        have h5 : (as.map (· + (((l + 1 - e).toNat : Nat) : Int)))[d]? = some (l + 1) := by
          rw [List.getElem?_map, hd]
          show some (e + (((l + 1 - e).toNat : Nat) : Int)) = _
          rw [e1]
        have h6 := cn_erase (l + 1) _ d h5
        have h7 := cn_map e (((l + 1 - e).toNat : Nat) : Int) as
        rw [e1] at h7
        omega
      exact up_many c k _ (l + 1) _ (by show m - (l + 1) = k; omega) (by show 0 ≤ l + 1; omega) h8 hcount (by omega) (by show l + 1 ≤ l + 1 + 1; omega) (by show m ≤ ((t - (l + 1 - e).toNat : Nat) : Int) + (l + 1); omega)
    · refine .known ?_
      show l = mn m (e + ((l + 1 - e).toNat : Nat) - 1)
      unfold mn; split <;> omega
end K77
end ZK77g
section ZK77h
set_option Elab.async false
set_option linter.all false
set_option maxRecDepth 100000
set_option maxHeartbeats 400000
namespace K77
open PySem PD
/-! certificates -/
inductive Plan where | no | ask (m d : Nat) (a b : Plan)
def okPlan (c : Bool) : Plan → Nat → St3 → Bool
  | .no, _, s => decide (s.1 = s.2.1)
  | .ask m d a b, t, s => decide (m < 9) && decide (d < s.2.2.length) && decide (m ≤ t) && (laters s m d c).all fun x => okPlan c a (t - m) x || okPlan c b (t - m) x
theorem okPlan_solv (c : Bool) : ∀ (p : Plan) (t : Nat) (s : St3), okPlan c p t s = true → Solv c t s
  | .no, _, _, h => .known (by simpa [okPlan] using h)
  | .ask m d a b, t, s, h => by
    simp only [okPlan, Bool.and_eq_true, decide_eq_true_eq, List.all_eq_true, Bool.or_eq_true] at h
    obtain ⟨⟨⟨h1, h2⟩, h3⟩, h4⟩ := h
    exact .test (m, d) (mem_testsL.mpr ⟨h1, h2⟩) h3 fun x hx => (h4 x hx).elim (okPlan_solv c a _ x) (okPlan_solv c b _ x)
theorem up14 : Solv true 5 (1, 4, [0, 0]) := okPlan_solv true (.ask 1 0 (.ask 1 1 (.ask 3 0 (.ask 0 1 .no .no) .no) .no) .no) _ _ (by decide +kernel)
theorem up25 : Solv true 6 (2, 5, [0, 0]) := okPlan_solv true (.ask 1 0 (.ask 3 1 (.ask 1 0 (.ask 1 0 (.ask 0 1 .no .no) .no) .no) (.ask 0 0 .no .no)) .no) _ _ (by decide +kernel)
def closedU (c : Bool) (U : List (Nat × St3)) : Bool := U.all fun u => !decide (u.2.1 = u.2.2.1) && (testsL u.2.2.2.length).all fun p => decide (u.1 < p.1) || (laters u.2 p.1 p.2 c).any fun x => decide ((u.1 - p.1, x) ∈ U)
theorem closedU_not {c : Bool} {U : List (Nat × St3)} (hU : closedU c U = true) {t : Nat} {s : St3} (h : Solv c t s) : (t, s) ∉ U := by
  unfold closedU at hU
  simp only [List.all_eq_true, Bool.and_eq_true, Bool.not_eq_true', decide_eq_false_iff_not, Bool.or_eq_true, decide_eq_true_eq, List.any_eq_true] at hU
  induction h with
  | known h => exact fun z => (hU _ z).1 h
  | test p hp hm h ih =>
    intro z
    rcases (hU _ z).2 p hp with y | ⟨x, hx, hm'⟩
    · omega
    · exact ih x hx hm'
def U14 : List (Nat × St3) := [(4, (1, 4, [0, 0])), (0, (1, 3, [])), (1, (1, 2, [])), (2, (2, 4, [0, 2])), (0, (2, 3, [2])), (0, (2, 3, [0])), (0, (2, 4, [0, 4])), (1, (3, 4, [0, 1])), (0, (3, 4, [0, 1])), (0, (3, 4, [0, 0])), (0, (3, 4, [0, 2])), (1, (3, 4, [0, 0])), (1, (2, 4, [0, 3])), (0, (2, 3, [1])), (2, (2, 4, [0, 0])), (0, (2, 4, [0, 2])), (0, (2, 4, [0, 0])), (1, (2, 4, [0, 1])), (0, (2, 4, [0, 1])), (1, (2, 4, [0, 0])), (3, (1, 4, [0, 1])), (0, (1, 3, [3])), (0, (1, 2, [])), (1, (3, 4, [0, 2])), (0, (3, 4, [0, 3])), (2, (2, 4, [0, 1])), (0, (2, 4, [0, 3])), (1, (2, 4, [0, 2])), (2, (1, 4, [0, 2])), (0, (1, 3, [2])), (1, (1, 4, [0, 3])), (0, (1, 3, [1])), (0, (1, 3, [0])), (0, (1, 4, [0, 4])), (3, (1, 4, [0, 0])), (2, (1, 4, [0, 1])), (1, (1, 4, [0, 2])), (0, (1, 4, [0, 3])), (2, (1, 4, [0, 0])), (1, (1, 4, [0, 1])), (0, (1, 4, [0, 2])), (1, (1, 4, [0, 0])), (0, (1, 4, [0, 1])), (0, (1, 4, [0, 0]))]
theorem not14 : ¬ Solv true 4 (1, 4, [0, 0]) := fun h => closedU_not (U := U14) (by decide +kernel) h (by simp [U14])
end K77
end ZK77h
section ZK77q
set_option Elab.async false
set_option linter.all false
set_option maxRecDepth 100000
set_option maxHeartbeats 400000
namespace K77
open PySem PD
/-! evaluation at a store -/
section
variable {P : Prog} {cf : Calls} {env env' : PD.Env} {st st1 st2 : Store}
theorem bnd2 {α β γ : Type} {m : M α} {f : α → M β} {g : β → M γ} {a : α} (h : m st = .ok a st1) : bnd (bnd m f) g st = bnd (f a) g st1 := by
  have : bnd m f st = f a st1 := bnd_ok h
  unfold bnd at this ⊢
  rw [this]
theorem evB_nxS {s b : PD.X} (h : evS P cf s env st = .ok (.nx env') st1) : evB P cf (.cons s b) env st = evB P cf b env' st1 := by
  show bnd (evS P cf s env) _ st = _
  rw [bnd_ok h]
theorem evB_rtS {s b : PD.X} {d : D} (h : evS P cf s env st = .ok (.rt d) st1) : evB P cf (.cons s b) env st = .ok (.rt d) st1 := by
  show bnd (evS P cf s env) _ st = _
  rw [bnd_ok h]; rfl
theorem ev_rtS {x : PD.X} {d : D} (h : evE P cf x env st = .ok d st1) : evS P cf (.rt x) env st = .ok (.rt d) st1 := by
  show bnd (evE P cf x env) _ st = _
  rw [bnd_ok h]; rfl
theorem ev_asgS {i : Nat} {x : PD.X} {d : D} (h : evE P cf x env st = .ok d st1) : evS P cf (.asg i (.pl x)) env st = .ok (.nx (env.set i (.v d))) st1 := by
  show bnd (bnd (evE P cf x env) _) _ st = _
  rw [bnd2 h]; rfl
theorem ev_exS {x : PD.X} {d : D} (h : evE P cf x env st = .ok d st1) : evS P cf (.ex x) env st = .ok (.nx env) st1 := by
  show bnd (evE P cf x env) _ st = _
  rw [bnd_ok h]; rfl
theorem ev_iteS {t a b' : PD.X} {c : Bool} (h : evE P cf t env st = .ok (.bl c) st1) : evE P cf (.ite t a b') env st = if c then evE P cf a env st1 else evE P cf b' env st1 := by
  show bnd (bnd (evE P cf t env) blD) _ st = _
  rw [bnd2 h]
  show (if c then _ else _ : M D) st1 = _
  cases c <;> rfl
theorem ev_ifS {t b b' : PD.X} {c : Bool} (h : evE P cf t env st = .ok (.bl c) st1) : evS P cf (.if_ t b b') env st = if c then evB P cf b env st1 else evB P cf b' env st1 := by
  show bnd (bnd (evE P cf t env) blD) _ st = _
  rw [bnd2 h]
  show (if c then _ else _ : M Out) st1 = _
  cases c <;> rfl
theorem runF_rtS {fd : FD} {ds : List D} {d : D} (hl : ds.length = fd.np) (h : evB P cf fd.body (ds.map .v ++ List.replicate (fd.ns - fd.np) .no) st = .ok (.rt d) st1) : runF P cf fd ds st = .ok d st1 := by
  unfold runF
  rw [if_pos hl, bnd_ok h]; rfl
theorem runF_nxS {fd : FD} {ds : List D} (hl : ds.length = fd.np) (h : evB P cf fd.body (ds.map .v ++ List.replicate (fd.ns - fd.np) .no) st = .ok (.nx env') st1) : runF P cf fd ds st = .ok .non st1 := by
  unfold runF
  rw [if_pos hl, bnd_ok h]; rfl
theorem ev_callS {f : Nat} {x : PD.X} {ds : List D} {r : Res D} (h : evA P cf x env st = .ok ds st1) (hm : cf f ds st1 = r) : evE P cf (.call f x) env st = r := by
  show bnd (evA P cf x env) _ st = _
  rw [bnd_ok h, hm]
theorem evA_consS {x r : PD.X} {d : D} {ds : List D} (hx : ∀ y, x ≠ .star y) (h : evE P cf x env st = .ok d st1) (h2 : evA P cf r env st1 = .ok ds st2) : evA P cf (.cons x r) env st = .ok (d :: ds) st2 := by
  have : evA P cf (.cons x r) env = bnd (evE P cf x env) fun d => bnd (evA P cf r env) fun ds => ret (d :: ds) := by
    cases x <;> first | rfl | exact absurd rfl (hx _)
  rw [this, bnd_ok h, bnd_ok h2]; rfl
theorem ev_srcS {x : PD.X} {d : D} {ds : List D} (h : evE P cf x env st = .ok d st1) (hi : itemsD d = some ds) : evIt P cf (.src x) env st = .ok ds st1 := by
  show bnd (evE P cf x env) _ st = _
  rw [bnd_ok h, hi]; rfl
theorem ev_tupS {x : PD.X} {ds : List D} (h : evA P cf x env st = .ok ds st1) (hl : ds.length ≤ LIM) : evE P cf (.tup x) env st = .ok (.tup ds) st1 := by
  show bnd (evA P cf x env) _ st = _
  rw [bnd_ok h, if_pos hl]; rfl
theorem ev_lstS {x : PD.X} {ds : List D} (h : evA P cf x env st = .ok ds st1) (hl : ds.length ≤ LIM) : evE P cf (.lst x) env st = .ok (.lst ds) st1 := by
  show bnd (evA P cf x env) _ st = _
  rw [bnd_ok h, if_pos hl]; rfl
theorem vw_ofS {d : D} (h : ∀ i, d ≠ .ref i) : vw d st = .ok d st := congrFun (vw_of h) st
theorem ev_cmpS {o : Cop} {x y : PD.X} {d e d' e' : D} {r : Bool} (h : evE P cf x env st = .ok d st1) (h2 : evE P cf y env st1 = .ok e st2) (hv : vw d st2 = .ok d' st2) (hv2 : vw e st2 = .ok e' st2) (hc : cmpD o d' e' = some r) : evE P cf (.cmp o x y) env st = .ok (.bl r) st2 := by
  show bnd (evE P cf x env) (fun x => bnd (evE P cf y env) fun y => bnd (vw x) fun x => bnd (vw y) fun y => bnd (opt (cmpD o x y)) fun r => ret (D.bl r)) st = _
  rw [bnd_ok h, bnd_ok h2, bnd_ok hv, bnd_ok hv2, hc]; rfl
theorem ev_binS {o : Bop} {x y : PD.X} {d e r : D} (h : evE P cf x env st = .ok d st1) (h2 : evE P cf y env st1 = .ok e st2) (hv : ∀ i, d ≠ .ref i) (hv2 : ∀ i, e ≠ .ref i) (hc : binD o d e = some r) : evE P cf (.bin o x y) env st = .ok r st2 := by
  show bnd (evE P cf x env) (fun x => bnd (evE P cf y env) fun y => bnd (vw x) fun x => bnd (vw y) fun y => opt (binD o x y)) st = _
  rw [bnd_ok h, bnd_ok h2, bnd_ok (vw_ofS hv), bnd_ok (vw_ofS hv2), hc]; rfl
theorem ev_idxS {x y : PD.X} {d d' e r : D} (h : evE P cf x env st = .ok d st1) (h2 : evE P cf y env st1 = .ok e st2) (hv : vw d st2 = .ok d' st2) (hc : idxD d' e = some r) : evE P cf (.idx x y) env st = .ok r st2 := by
  show bnd (evE P cf x env) (fun x => bnd (evE P cf y env) fun y => bnd (vw x) fun x => opt (idxD x y)) st = _
  rw [bnd_ok h, bnd_ok h2, bnd_ok hv, hc]; rfl
theorem vws_retS {ds : List D} (h : ∀ d ∈ ds, ∀ i, d ≠ .ref i) : vws ds st = .ok ds st := congrFun (vws_ret fun d hd => vw_of (h d hd)) st
theorem ev_bif1S {k : Bi} {x : PD.X} {d d' r : D} (h : evE P cf x env st = .ok d st1) (hv : vw d st1 = .ok d' st1) (hb : biD k [d'] = some r) : evE P cf (.bif k (.cons x .nil)) env st = .ok r st1 := by
  show bnd (bnd (evE P cf x env) fun d => bnd (ret []) fun ds => ret (d :: ds)) (fun ds => bnd (vws ds) fun ds => opt (biD k ds)) st = _
  rw [bnd2 h]
  have : view st1 d = d' := (Res.ok.inj hv).1
  show opt (biD k [view st1 d]) st1 = _
  rw [this, hb]; rfl
theorem ev_and2S {a b : PD.X} {x y : Bool} (h1 : evE P cf a env st = .ok (.bl x) st1) (h2 : x = true → evE P cf b env st1 = .ok (.bl y) st1) : evE P cf (.and_ (.cons a (.cons b .nil))) env st = .ok (.bl (x && y)) st1 := by
  show bnd (bnd (evE P cf a env) blD) (fun k => if k then evE P cf b env else ret (.bl false)) st = _
  rw [bnd2 (h1)]
  cases x with
  | false => rfl
  | true => exact h2 rfl
theorem mapL_mapS {α : Type} {f : D → M (Option D)} (e : α → D) (g : α → Option D) {as : List α} (h : ∀ a ∈ as, f (e a) st = .ok (g a) st) : mapL f (as.map e) st = .ok (as.filterMap g) st := by
  induction as with
  | nil => rfl
  | cons a as ih =>
    show bnd (f (e a)) _ st = _
    rw [bnd_ok (h a (List.mem_cons_self ..))]
    show bnd (mapL f (as.map e)) _ st = _
    rw [bnd_ok (ih fun x hx => h x (List.mem_cons_of_mem _ hx))]
    simp only [List.filterMap_cons]
    cases g a <;> rfl
theorem ev_lcS {α : Type} {own : List Nat} {tg it t elt : PD.X} {as : List α} (e : α → D) (g : α → Option D) (hi : evIt P cf it env st = .ok (as.map e) st) (hl : as.length ≤ LIM)
    (h : ∀ a ∈ as, (match bindT tg (e a) (PD.wipe env own) with
        | some e => bnd (bnd (evE P cf t e) blD) fun c => if c then bnd (evE P cf elt e) fun y => ret (some y) else ret none
        | none => fail) st = .ok (g a) st) : evE P cf (.lc own tg it t elt) env st = .ok (.lst (as.filterMap g)) st := by
  show bnd (evIt P cf it env) _ st = _
  rw [bnd_ok hi]
  rw [if_pos (by rw [List.length_map]; exact hl), bnd_ok (mapL_mapS e g h)]
  rfl
theorem ev_forS {tg it b : PD.X} {ds : List D} {r : Res Out} (hi : evIt P cf it env st = .ok ds st1) (hf : forL (fun d e => match bindT tg d e with
      | some e => evB P cf b e
      | none => fail) ds env st1 = r) : evS P cf (.for_ tg it b) env st = r := by
  show bnd (evIt P cf it env) _ st = _
  rw [bnd_ok hi]
  exact hf
/-- a for that stops at the first item that is right -/
theorem forL_find {α : Type} {f : D → PD.Env → M Out} (e : α → D) (p : α → Bool) (r : α → D) (I : PD.Env → Prop) : ∀ (as : List α) (env : PD.Env), I env → (∀ a ∈ as, ∀ env, I env → if p a then f (e a) env st = .ok (.rt (r a)) st else ∃ env', I env' ∧ f (e a) env st = .ok (.nx env') st) →
    (match as.find? p with
      | some a => forL f (as.map e) env st = .ok (.rt (r a)) st
      | none => ∃ env', I env' ∧ forL f (as.map e) env st = .ok (.nx env') st)
  | [], env, hI, _ => ⟨env, hI, rfl⟩
  | a :: as, env, hI, h => by
    have h1 := h a (List.mem_cons_self ..) env hI
    rw [List.find?_cons]
    cases hp : p a with
    | true =>
      rw [hp, if_pos rfl] at h1
      show bnd (f (e a) env) _ st = _
      rw [bnd_ok h1]; rfl
    | false =>
      rw [hp, if_neg (by simp)] at h1
      obtain ⟨env', h2, h3⟩ := h1
      have ih := forL_find e p r I as env' h2 fun b hb => h b (List.mem_cons_of_mem _ hb)
      have hs : forL f ((a :: as).map e) env st = forL f (as.map e) env' st := by
        show bnd (f (e a) env) _ st = _
        rw [bnd_ok h3]
      cases hf : as.find? p with
      | some b => rw [hf] at ih; exact hs.trans ih
      | none =>
        rw [hf] at ih
        obtain ⟨e2, h4, h5⟩ := ih
        exact ⟨e2, h4, hs.trans h5⟩
end
/-! a Learner in the store -/
structure LS where
  st : Store
  w : Str
  b : St3
  T : List (St3 × Nat)
  Q : List (St3 × (Nat × Nat))
  L : List St3
  t : Nat
def kvT (T : List (St3 × Nat)) : List (D × D) := kv (T.map fun p => (p.1, .int (p.2 : Int)))
def kvQ (Q : List (St3 × (Nat × Nat))) : List (D × D) := kv (Q.map fun p => (p.1, tD p.2))
def LS.k (z : LS) : Nat := z.st.length
def LS.fs (z : LS) : List (Nat × D) := [(0, .str z.w), (1, sD z.b), (2, .ref (z.k + 1)), (3, .ref (z.k + 2)), (4, .lst (z.L.map sD)), (5, .int (z.t : Int))]
def LS.S (z : LS) : Store := z.st ++ [.ins 0 z.fs, .dct (kvT z.T), .dct (kvQ z.Q)]
def LS.me (z : LS) : D := .ref z.k
theorem at0 (z : LS) : z.S[z.k]? = some (.ins 0 z.fs) := by
  unfold LS.S LS.k
  rw [List.getElem?_append_right (Nat.le_refl _), Nat.sub_self]; rfl
theorem at1 (z : LS) : z.S[z.k + 1]? = some (.dct (kvT z.T)) := by
  unfold LS.S LS.k
  rw [List.getElem?_append_right (by omega), Nat.add_sub_cancel_left]; rfl
theorem at2 (z : LS) : z.S[z.k + 2]? = some (.dct (kvQ z.Q)) := by
  unfold LS.S LS.k
  rw [List.getElem?_append_right (by omega), Nat.add_sub_cancel_left]; rfl
theorem rd (z : LS) {f : Nat} {d : D} (h : getF f z.fs = some d) : rdF f z.me z.S = .ok d z.S := by
  show (match z.S[z.k]? with
    | some (.ins _ fs) => (match getF f fs with
      | some d => Res.ok d z.S
      | none => .bad)
    | _ => .bad) = _
  rw [at0]
  show (match getF f z.fs with
      | some d => Res.ok d z.S
      | none => .bad) = _
  rw [h]
theorem vwT (z : LS) : vw (.ref (z.k + 1)) z.S = .ok (.dct (kvT z.T)) z.S := by
  show Res.ok (match z.S[z.k + 1]? with
    | some (.lst ds) => D.lst ds
    | some (.dct kvs) => .dct kvs
    | _ => .ref (z.k + 1)) z.S = _
  rw [at1]
theorem vwQ (z : LS) : vw (.ref (z.k + 2)) z.S = .ok (.dct (kvQ z.Q)) z.S := by
  show Res.ok (match z.S[z.k + 2]? with
    | some (.lst ds) => D.lst ds
    | some (.dct kvs) => .dct kvs
    | _ => .ref (z.k + 2)) z.S = _
  rw [at2]
theorem cls0 (z : LS) : clsOf z.me z.S = .ok (0, z.k) z.S := by
  show (match z.S[z.k]? with
    | some (.ins c _) => Res.ok (c, z.k) z.S
    | _ => .bad) = _
  rw [at0]
theorem set1 (z : LS) (T : List (St3 × Nat)) : z.S.set (z.k + 1) (.dct (kvT T)) = LS.S { z with T := T } := by
  unfold LS.S LS.k
  rw [List.set_append_right _ _ (by omega), Nat.add_sub_cancel_left]; rfl
theorem set2 (z : LS) (Q : List (St3 × (Nat × Nat))) : z.S.set (z.k + 2) (.dct (kvQ Q)) = LS.S { z with Q := Q } := by
  unfold LS.S LS.k
  rw [List.set_append_right _ _ (by omega), Nat.add_sub_cancel_left]; rfl
theorem set0 (z : LS) (fs : List (Nat × D)) (z' : LS) (h1 : z'.st = z.st) (h2 : z'.T = z.T) (h3 : z'.Q = z.Q) (h4 : z'.fs = fs) : z.S.set z.k (.ins 0 fs) = z'.S := by
  unfold LS.S LS.k
  rw [List.set_append_right _ _ (Nat.le_refl _), Nat.sub_self, h1, h2, h3, h4]; rfl
/-- what time_of tells -/
def lookT (s : St3) : List (St3 × Nat) → Option Nat
  | [] => none
  | (t, v) :: r => if t = s then some v else lookT s r
def lookQ (s : St3) : List (St3 × (Nat × Nat)) → Option (Nat × Nat)
  | [] => none
  | (t, v) :: r => if t = s then some v else lookQ s r
theorem lookS_T (s : St3) : ∀ T : List (St3 × Nat), lookS s (T.map fun p => (p.1, D.int (p.2 : Int))) = (lookT s T).map fun (v : Nat) => D.int (v : Int)
  | [] => rfl
  | (t, v) :: r => by
    show (if t = s then some (D.int (v : Int)) else lookS s (r.map _)) = (if t = s then some v else lookT s r).map _
    rw [lookS_T s r]
    by_cases c : t = s <;> simp [c]
theorem lookS_Q (s : St3) : ∀ T : List (St3 × (Nat × Nat)), lookS s (T.map fun p => (p.1, tD p.2)) = (lookQ s T).map tD
  | [] => rfl
  | (t, v) :: r => by
    show (if t = s then some (tD v) else lookS s (r.map _)) = (if t = s then some v else lookQ s r).map _
    rw [lookS_Q s r]
    by_cases c : t = s <;> simp [c]
def tm (T : List (St3 × Nat)) (s : St3) : Option Nat := if s.1 = s.2.1 then some 0 else lookT s T
def oN : Option Nat → D
  | some v => .int (v : Int)
  | none => .non
theorem timeof_ev (n : Nat) (z : LS) (s : St3) : callN pg (n + 2) 11 [z.me, sD s] z.S = .ok (oN (tm z.T s)) z.S := by
  refine runF_rtS (P := pg) (cf := callN pg (n + 1)) (fd := ⟨2, 2, t11⟩) (ds := [z.me, sD s]) rfl ?_
  show evB pg (callN pg (n + 1)) t11 [.v z.me, .v (sD s)] z.S = _
  unfold t11
  refine evB_rtS (ev_rtS ?_)
  have hk : evE pg (callN pg (n + 1)) (.call 5 (.cons (.var 1) .nil)) [.v z.me, .v (sD s)] z.S = .ok (.bl (decide (s.1 = s.2.1))) z.S := congrFun (known_ev n s.1 s.2.1 s.2.2) z.S
  rw [ev_iteS hk]
  unfold tm
  by_cases c : s.1 = s.2.1
  · rw [if_pos c, if_pos (by simpa using c)]; rfl
  · rw [if_neg c, if_neg (by simpa using c)]
    show bnd (rdF 2 z.me) _ z.S = _
    rw [bnd_ok (rd z (f := 2) (d := .ref (z.k + 1)) rfl), bnd_ok (vwT z)]
    rw [if_pos (show dctT (.dct (kvT z.T)) = true from head_kv _)]
    rw [bnd_ok (show evE pg (callN pg (n + 1)) (.var 1) [.v z.me, .v (sD s)] z.S = .ok (sD s) z.S from rfl), bnd_ok (vwT z)]
    show (if dKey (sD s) (kvT z.T) then ret ((findK (sD s) (kvT z.T)).getD .non) else fail) z.S = _
    unfold kvT
    rw [key_kv, if_pos rfl, find_kv, lookS_T]
    cases lookT s z.T <;> rfl
end K77
end ZK77q
section ZK77r
set_option Elab.async false
set_option linter.all false
set_option maxRecDepth 100000
set_option maxHeartbeats 400000
namespace K77
open PySem PD
def okT (c : Bool) (T : List (St3 × Nat)) (t : Nat) (s : St3) (p : Nat × Nat) : Bool := (laters s p.1 p.2 c).all fun x => match tm T x with
  | some v => decide (p.1 + v ≤ t)
  | none => false
def good (c : Bool) (T : List (St3 × Nat)) (t : Nat) (s : St3) : Option (Nat × Nat) := (testsL s.2.2.length).find? (okT c T t s)
def oT : Option (Nat × Nat) → D
  | some p => tD p
  | none => .non
theorem laters_ne {K : Nat} {s : St3} {p : Nat × Nat} {c : Bool} (v : Val K s) (hp : p.2 < s.2.2.length) : laters s p.1 p.2 c ≠ [] := by
  have hd : s.2.2[p.2]? = some s.2.2[p.2] := by simp [hp]
  by_cases h : s.2.2[p.2] + (p.1 : Int) ≤ s.2.1
  · exact List.ne_nil_of_mem (mem_came hd h)
  · exact List.ne_nil_of_mem (mem_lost hd (by have := v.lm; omega))
def vals (T : List (St3 × Nat)) (L : List St3) : List D := L.map fun x => oN (tm T x)
def nums (T : List (St3 × Nat)) (L : List St3) : List Int := L.map fun x => (((tm T x).getD 0 : Nat) : Int)
theorem vals_nums (T : List (St3 × Nat)) : ∀ L : List St3, (∀ x ∈ L, (tm T x).isNone = false) → vals T L = inD (nums T L)
  | [], _ => rfl
  | x :: L, h => by
    have h1 := h x (List.mem_cons_self ..)
    show oN (tm T x) :: vals T L = D.int (((tm T x).getD 0 : Nat) : Int) :: inD (nums T L)
    rw [vals_nums T L fun y hy => h y (List.mem_cons_of_mem _ hy)]
    cases e : tm T x with
    | none => rw [e] at h1; cases h1
    | some v => rfl
theorem vals_any (T : List (St3 × Nat)) : ∀ L : List St3, ((vals T L).any fun z => z.eqv .non) = L.any fun x => (tm T x).isNone
  | [] => rfl
  | x :: L => by
    show ((oN (tm T x)).eqv .non || (vals T L).any fun z => z.eqv .non) = ((tm T x).isNone || L.any fun x => (tm T x).isNone)
    rw [vals_any T L]
    cases tm T x <;> rfl
theorem vals_plain (T : List (St3 × Nat)) : ∀ L : List St3, D.plainAll (vals T L) = true ∧ D.depthAll (vals T L) = 0
  | [] => ⟨rfl, rfl⟩
  | x :: L => by
    obtain ⟨h1, h2⟩ := vals_plain T L
    refine ⟨?_, ?_⟩
    · show ((oN (tm T x)).plain && D.plainAll (vals T L)) = true
      rw [h1]
      cases tm T x <;> rfl
    · show max (oN (tm T x)).depth (D.depthAll (vals T L)) = 0
      rw [h2]
      cases tm T x <;> rfl
theorem vals_ok (T : List (St3 × Nat)) (L : List St3) : (D.lst (vals T L)).eqOk = true := by
  obtain ⟨h1, h2⟩ := vals_plain T L
  show (D.plainAll (vals T L) && decide (D.depthAll (vals T L) + 1 ≤ 60)) = true
  rw [h1, h2]; rfl
theorem maxI_le {l : List Int} (h : l ≠ []) {a t : Int} : a + maxI l ≤ t ↔ ∀ y ∈ l, a + y ≤ t := by
  obtain ⟨h1, h2⟩ := maxI_mem h
  constructor
  · intro h3 y hy
    have := h2 y hy
    omega
  · intro h3
    exact h3 _ h1
theorem okT_iff (c : Bool) (T : List (St3 × Nat)) (t : Nat) (s : St3) (p : Nat × Nat) (hn : laters s p.1 p.2 c ≠ []) (h : ∀ x ∈ laters s p.1 p.2 c, (tm T x).isNone = false) :
    decide ((p.1 : Int) + maxI (nums T (laters s p.1 p.2 c)) ≤ (t : Int)) = okT c T t s p := by
  have h1 : nums T (laters s p.1 p.2 c) ≠ [] := by unfold nums; simpa using hn
  rw [Bool.eq_iff_iff, decide_eq_true_eq, maxI_le h1]
  unfold okT
  rw [List.all_eq_true]
  constructor
  · intro h2 x hx
    have h3 := h x hx
    cases e : tm T x with
    | none => rw [e] at h3; cases h3
    | some v =>
      have := h2 _ (List.mem_map.mpr ⟨x, hx, rfl⟩)
      rw [e] at this
      simp only [Option.getD_some] at this
      simp only [decide_eq_true_eq]
      omega
  · intro h2 y hy
    obtain ⟨x, hx, rfl⟩ := List.mem_map.mp hy
    have h3 := h2 x hx
    cases e : tm T x with
    | none => rw [e] at h3; cases h3
    | some v =>
      rw [e] at h3
      simp only [decide_eq_true_eq] at h3
      simp only [Option.getD_some]
      omega
theorem okT_none (c : Bool) (T : List (St3 × Nat)) (t : Nat) (s : St3) (p : Nat × Nat) (h : ((laters s p.1 p.2 c).any fun x => (tm T x).isNone) = true) : okT c T t s p = false := by
  obtain ⟨x, hx, h1⟩ := List.any_eq_true.mp h
  unfold okT
  rw [List.all_eq_false]
  refine ⟨x, hx, ?_⟩
  cases e : tm T x with
  | none => simp
  | some v => rw [e] at h1; cases h1
section
variable {P : Prog} {cf : Calls} {env env' : PD.Env} {st st1 st2 : Store}
theorem ev_cmS {m c i f : Nat} {o as : PD.X} {x : D} {ds : List D} {r : Res D} (h : evE P cf o env st = .ok x st) (hc : clsOf x st = .ok (c, i) st) (hm : P.mth c m = some f) (ha : evA P cf as env st = .ok ds st1) (hr : cf f (x :: ds) st1 = r) : evE P cf (.cm m o as) env st = r := by
  show bnd (evE P cf o env) _ st = _
  rw [bnd_ok h]
  show bnd (clsOf x) _ st = _
  rw [bnd_ok hc]
  show (match P.mth c m with
    | some f => bnd (evA P cf as env) fun ds => cf f (x :: ds)
    | none => fail) st = _
  rw [hm]
  show bnd (evA P cf as env) _ st = _
  rw [bnd_ok ha, hr]
theorem ev_fld {x : PD.X} {f : Nat} {z : LS} {d : D} (h : evE P cf x env z.S = .ok z.me z.S) (h2 : getF f z.fs = some d) : evE P cf (.fld x f) env z.S = .ok d z.S := by
  show bnd (evE P cf x env) _ z.S = _
  rw [bnd_ok h]
  exact rd z h2
end
def gtB : PD.X := .cons (.asg 3 (.pl (.lc [4] (.tv 4) (.src (.call 8 (.cons (.var 1) (.cons (.var 2) (.cons (.fld (.var 0) 0) .nil))))) (.lit (.bl true)) (.cm 0 (.var 0) (.cons (.var 4) .nil)))))
  (.cons (.if_ (.and_ (.cons (.cmp .notin (.lit .non) (.var 3)) (.cons (.cmp .le (.bin .add (.idx (.var 2) (.lit (.int 0))) (.bif .max (.cons (.var 3) .nil))) (.fld (.var 0) 5)) .nil))) (.cons (.rt (.var 2)) .nil) .nil) .nil)
theorem good_body (n : Nat) (z : LS) (hw : z.w.cps.all (fun c => decide (c < 1114112)) = true) (K : Nat) (hK : K ≤ 3) (s : St3) (vs : Val K s) (p : Nat × Nat) (hp : p ∈ testsL s.2.2.length) (b u : Sl) :
    evB pg (callN pg (n + 3)) gtB [.v z.me, .v (sD s), .v (tD p), b, u] z.S = if okT (isBoth z.w) z.T z.t s p then .ok (.rt (tD p)) z.S else .ok (.nx [.v z.me, .v (sD s), .v (tD p), .v (.lst (vals z.T (laters s p.1 p.2 (isBoth z.w)))), u]) z.S := by
  have h3 : s.2.2.length ≤ 3 := Nat.le_trans vs.len hK
  have hpd := (mem_testsL.mp hp).2
  have hl := laters_ev n s (p.1 : Int) p.2 z.w hw h3 hpd
  have hne := laters_ne (c := isBoth z.w) vs hpd
  have hll : (laters s p.1 p.2 (isBoth z.w)).length ≤ LIM := by
    unfold laters
    cases s.2.2[p.2]? with
    | none => exact Nat.zero_le _
    | some a0 => exact Nat.le_trans (List.length_filterMap_le ..) (by show 2 ≤ LIM; unfold LIM; omega)
  have hit : evIt pg (callN pg (n + 3)) (.src (.call 8 (.cons (.var 1) (.cons (.var 2) (.cons (.fld (.var 0) 0) .nil))))) [.v z.me, .v (sD s), .v (tD p), b, u] z.S = .ok ((laters s p.1 p.2 (isBoth z.w)).map sD) z.S :=
    ev_srcS (ev_callS (st1 := z.S) (ds := [sD s, tD p, .str z.w]) (evA_consS (fun _ h => nomatch h) rfl (evA_consS (fun _ h => nomatch h) rfl (evA_consS (fun _ h => nomatch h) (ev_fld (z := z) rfl rfl) rfl))) (congrFun hl z.S)) rfl
  have hlc := ev_lcS (P := pg) (cf := callN pg (n + 3)) (env := [.v z.me, .v (sD s), .v (tD p), b, u]) (st := z.S) (own := [4]) (tg := .tv 4) (t := .lit (.bl true)) (elt := .cm 0 (.var 0) (.cons (.var 4) .nil)) sD (fun x => some (oN (tm z.T x))) hit hll fun x _ => by
    show bnd (evE pg (callN pg (n + 3)) (.cm 0 (.var 0) (.cons (.var 4) .nil)) [.v z.me, .v (sD s), .v (tD p), b, .v (sD x)]) _ z.S = _
    rw [bnd_ok ((ev_cmS (x := z.me) (f := 11) (ds := [sD x]) (st1 := z.S) rfl (cls0 z) rfl rfl (timeof_ev (n + 1) z x)))]
    rfl
  rw [filterMap_some] at hlc
  unfold gtB
  rw [evB_nxS (ev_asgS hlc)]
  show evB pg (callN pg (n + 3)) _ [.v z.me, .v (sD s), .v (tD p), .v (.lst (vals z.T (laters s p.1 p.2 (isBoth z.w)))), u] z.S = _
  have hc1 : evE pg (callN pg (n + 3)) (.cmp .notin (.lit .non) (.var 3)) [.v z.me, .v (sD s), .v (tD p), .v (.lst (vals z.T (laters s p.1 p.2 (isBoth z.w)))), u] z.S = .ok (.bl (!(laters s p.1 p.2 (isBoth z.w)).any fun x => (tm z.T x).isNone)) z.S := by
    refine ev_cmpS (d := .non) (e := .lst (vals z.T (laters s p.1 p.2 (isBoth z.w)))) rfl rfl rfl rfl ?_
    show (if (D.non).eqOk && (D.lst (vals z.T (laters s p.1 p.2 (isBoth z.w)))).eqOk then some (!(vals z.T (laters s p.1 p.2 (isBoth z.w))).any fun z => z.eqv .non) else none) = _
    rw [vals_ok, vals_any]; rfl
  have hif : evE pg (callN pg (n + 3)) (.and_ (.cons (.cmp .notin (.lit .non) (.var 3)) (.cons (.cmp .le (.bin .add (.idx (.var 2) (.lit (.int 0))) (.bif .max (.cons (.var 3) .nil))) (.fld (.var 0) 5)) .nil))) [.v z.me, .v (sD s), .v (tD p), .v (.lst (vals z.T (laters s p.1 p.2 (isBoth z.w)))), u] z.S = .ok (.bl (okT (isBoth z.w) z.T z.t s p)) z.S := by
    by_cases hn : ((laters s p.1 p.2 (isBoth z.w)).any fun x => (tm z.T x).isNone) = true
    · rw [okT_none _ _ _ _ _ hn]
      have := ev_and2S (b := .cmp .le (.bin .add (.idx (.var 2) (.lit (.int 0))) (.bif .max (.cons (.var 3) .nil))) (.fld (.var 0) 5)) (y := false) hc1 (fun h => by rw [hn] at h; cases h)
      rw [hn] at this
      exact this
    · have hn' : ((laters s p.1 p.2 (isBoth z.w)).any fun x => (tm z.T x).isNone) = false := by simpa using hn
      have hall : ∀ x ∈ laters s p.1 p.2 (isBoth z.w), (tm z.T x).isNone = false := fun x hx => by
        have := List.any_eq_false.mp hn' x hx
        exact Bool.eq_false_iff.mpr this
      have hc2 : evE pg (callN pg (n + 3)) (.cmp .le (.bin .add (.idx (.var 2) (.lit (.int 0))) (.bif .max (.cons (.var 3) .nil))) (.fld (.var 0) 5)) [.v z.me, .v (sD s), .v (tD p), .v (.lst (vals z.T (laters s p.1 p.2 (isBoth z.w)))), u] z.S = .ok (.bl (okT (isBoth z.w) z.T z.t s p)) z.S := by
        rw [vals_nums _ _ hall]
        refine ev_cmpS (d := .int ((p.1 : Int) + maxI (nums z.T (laters s p.1 p.2 (isBoth z.w))))) (e := .int (z.t : Int)) (st1 := z.S) ?_ (ev_fld (z := z) rfl rfl) rfl rfl (by rw [← okT_iff _ _ _ _ _ hne hall]; rfl)
        refine ev_binS (d := .int (p.1 : Int)) (e := .int (maxI (nums z.T (laters s p.1 p.2 (isBoth z.w))))) (st1 := z.S) rfl ?_ ne_int ne_int rfl
        refine ev_bif1S (d := .lst (inD (nums z.T (laters s p.1 p.2 (isBoth z.w))))) rfl rfl ?_
        show (match dInts (inD (nums z.T (laters s p.1 p.2 (isBoth z.w)))) with
          | some ns => if ns = [] then none else some (D.int (maxI ns))
          | none => none) = _
        rw [dInts_inD]
        show (if _ = [] then none else some (D.int _)) = _
        rw [if_neg (by unfold nums; simpa using hne)]
      have := ev_and2S hc1 (fun _ => hc2)
      rw [hn'] at this
      exact this
  rw [show (PD.X.cons (.if_ (.and_ (.cons (.cmp .notin (.lit .non) (.var 3)) (.cons (.cmp .le (.bin .add (.idx (.var 2) (.lit (.int 0))) (.bif .max (.cons (.var 3) .nil))) (.fld (.var 0) 5)) .nil))) (.cons (.rt (.var 2)) .nil) .nil) .nil) = .cons (.if_ (.and_ (.cons (.cmp .notin (.lit .non) (.var 3)) (.cons (.cmp .le (.bin .add (.idx (.var 2) (.lit (.int 0))) (.bif .max (.cons (.var 3) .nil))) (.fld (.var 0) 5)) .nil))) (.cons (.rt (.var 2)) .nil) .nil) .nil from rfl]
  have hs := ev_ifS (b := .cons (.rt (.var 2)) .nil) (b' := .nil) hif
  cases ho : okT (isBoth z.w) z.T z.t s p with
  | true =>
    rw [ho] at hs
    rw [evB_rtS (d := tD p) (st1 := z.S) (hs.trans rfl)]; rfl
  | false =>
    rw [ho] at hs
    rw [evB_nxS (env' := [.v z.me, .v (sD s), .v (tD p), .v (.lst (vals z.T (laters s p.1 p.2 (isBoth z.w)))), u]) (st1 := z.S) (hs.trans rfl)]; rfl
theorem good_ev (n : Nat) (z : LS) (hw : z.w.cps.all (fun c => decide (c < 1114112)) = true) (K : Nat) (hK : K ≤ 3) (s : St3) (vs : Val K s) :
    callN pg (n + 4) 12 [z.me, sD s] z.S = .ok (oT (good (isBoth z.w) z.T z.t s)) z.S := by
  have h3 : s.2.2.length ≤ 3 := Nat.le_trans vs.len hK
  refine runF_rtS (P := pg) (cf := callN pg (n + 3)) (fd := ⟨2, 5, t12⟩) (ds := [z.me, sD s]) rfl ?_
  show evB pg (callN pg (n + 3)) t12 [.v z.me, .v (sD s), .no, .no, .no] z.S = _
  rw [show t12 = .cons (.for_ (.tv 2) (.src (.call 7 (.cons (.var 1) .nil))) gtB) (.cons (.rt (.lit .non)) .nil) from rfl]
  have hit : evIt pg (callN pg (n + 3)) (.src (.call 7 (.cons (.var 1) .nil))) [.v z.me, .v (sD s), .no, .no, .no] z.S = .ok ((testsL s.2.2.length).map tD) z.S := by
    refine ev_srcS (ev_callS (st1 := z.S) (ds := [sD s]) rfl (congrFun (tests_ev (n + 2) s h3) z.S)) ?_
    rw [← tsD_map]; rfl
  have hf := forL_find (st := z.S) (f := fun d e => match bindT (.tv 2) d e with
      | some e => evB pg (callN pg (n + 3)) gtB e
      | none => fail) tD (okT (isBoth z.w) z.T z.t s) tD (fun env => ∃ a b u, env = [.v z.me, .v (sD s), a, b, u]) (testsL s.2.2.length) [.v z.me, .v (sD s), .no, .no, .no] ⟨_, _, _, rfl⟩ fun p hp env he => by
    obtain ⟨a, b, u, rfl⟩ := he
    have hb := good_body n z hw K hK s vs p hp b u
    cases ho : okT (isBoth z.w) z.T z.t s p with
    | true => rw [ho] at hb; exact hb
    | false => rw [ho] at hb; exact ⟨_, ⟨_, _, _, rfl⟩, hb⟩
  unfold good
  cases ho : (testsL s.2.2.length).find? (okT (isBoth z.w) z.T z.t s) with
  | some p =>
    rw [ho] at hf
    exact evB_rtS (ev_forS hit hf)
  | none =>
    rw [ho] at hf
    obtain ⟨env', _, h2⟩ := hf
    rw [evB_nxS (ev_forS hit h2)]
    exact evB_rtS rfl
end K77
end ZK77r
section ZK77s
set_option Elab.async false
set_option linter.all false
set_option maxRecDepth 100000
set_option maxHeartbeats 400000
namespace K77
open PySem PD
def keys (T : List (St3 × Nat)) : List St3 := T.map (·.1)
theorem lookT_none {s : St3} : ∀ {T : List (St3 × Nat)}, s ∉ keys T → lookT s T = none
  | [], _ => rfl
  | (t, v) :: r, h => by
    unfold lookT
    rw [if_neg (fun z => h (by simp [keys, z])), lookT_none fun z => h (by simp [keys] at z ⊢; exact .inr z)]
theorem lookT_some {s : St3} : ∀ {T : List (St3 × Nat)}, s ∈ keys T → ∃ v, lookT s T = some v
  | [], h => nomatch h
  | (t, v) :: r, h => by
    unfold lookT
    by_cases c : t = s
    · exact ⟨v, if_pos c⟩
    · rw [if_neg c]
      refine lookT_some ?_
      simp only [keys, List.map_cons, List.mem_cons] at h
      rcases h with h | h
      · exact absurd h.symm c
      · exact h
theorem lookT_key {s : St3} {v : Nat} {T : List (St3 × Nat)} (h : lookT s T = some v) : s ∈ keys T := Classical.byContradiction fun z => by rw [lookT_none z] at h; cases h
theorem lookT_mem {s : St3} {v : Nat} : ∀ {T : List (St3 × Nat)}, lookT s T = some v → (s, v) ∈ T
  | [], h => nomatch h
  | (t, u) :: r, h => by
    unfold lookT at h
    by_cases c : t = s
    · rw [if_pos c] at h
      cases h; subst c
      exact List.mem_cons_self ..
    · rw [if_neg c] at h
      exact List.mem_cons_of_mem _ (lookT_mem h)
theorem lookT_app {s : St3} {v : Nat} {y : St3 × Nat} : ∀ {T : List (St3 × Nat)}, lookT s T = some v → lookT s (T ++ [y]) = some v
  | [], h => nomatch h
  | (t, u) :: r, h => by
    unfold lookT at h
    show (if t = s then some u else lookT s (r ++ [y])) = some v
    by_cases c : t = s
    · rw [if_pos c] at h ⊢; exact h
    · rw [if_neg c] at h ⊢; exact lookT_app h
theorem lookT_new {s : St3} {v : Nat} : ∀ {T : List (St3 × Nat)}, s ∉ keys T → lookT s (T ++ [(s, v)]) = some v
  | [], _ => if_pos rfl
  | (t, u) :: r, h => by
    show (if t = s then some u else lookT s (r ++ [(s, v)])) = some v
    rw [if_neg (fun z => h (by simp [keys, z])), lookT_new fun z => h (by simp [keys] at z ⊢; exact .inr z)]
theorem lookT_old {s s' : St3} {v : Nat} (hne : s' ≠ s) : ∀ {T : List (St3 × Nat)}, lookT s (T ++ [(s', v)]) = lookT s T
  | [] => if_neg hne
  | (t, u) :: r => by
    show (if t = s then some u else lookT s (r ++ [(s', v)])) = if t = s then some u else lookT s r
    rw [lookT_old hne (T := r)]
theorem lookQ_new {s : St3} {v : Nat × Nat} : ∀ {T : List (St3 × (Nat × Nat))}, s ∉ T.map (·.1) → lookQ s (T ++ [(s, v)]) = some v
  | [], _ => if_pos rfl
  | (t, u) :: r, h => by
    show (if t = s then some u else lookQ s (r ++ [(s, v)])) = some v
    rw [if_neg (fun z => h (by simp [z])), lookQ_new fun z => h (by simp at z ⊢; exact .inr z)]
theorem lookQ_old {s s' : St3} {v : Nat × Nat} (hne : s' ≠ s) : ∀ {T : List (St3 × (Nat × Nat))}, lookQ s (T ++ [(s', v)]) = lookQ s T
  | [] => if_neg hne
  | (t, u) :: r => by
    show (if t = s then some u else lookQ s (r ++ [(s', v)])) = if t = s then some u else lookQ s r
    rw [lookQ_old hne (T := r)]
theorem tm_app {s : St3} {v : Nat} {y : St3 × Nat} {T : List (St3 × Nat)} (h : tm T s = some v) : tm (T ++ [y]) s = some v := by
  unfold tm at h ⊢
  split
  · rename_i c; rw [if_pos c] at h; exact h
  · rename_i c; rw [if_neg c] at h; exact lookT_app h
/-- what holds of a Learner -/
structure LI (K : Nat) (F : List St3) (z : LS) : Prop where
  same : z.Q.map (·.1) = keys z.T
  nk : (keys z.T).Nodup
  sub : ∀ s ∈ keys z.T, s ∈ F
  nl : z.L.Nodup
  lf : ∀ s ∈ z.L, s ∈ F
  all : ∀ s ∈ F, s ∈ keys z.T ∨ s ∈ z.L
  snd : ∀ p ∈ z.T, Solv (isBoth z.w) p.2 p.1 ∧ p.2 ≤ z.t
  early : ∀ s ∈ F, ∀ t' < z.t, Solv (isBoth z.w) t' s → ∃ v ≤ t', tm z.T s = some v
  tst : ∀ s v, lookT s z.T = some v → ∃ p, lookQ s z.Q = some p ∧ p ∈ testsL s.2.2.length ∧ ∀ x ∈ laters s p.1 p.2 (isBoth z.w), (s.1 ≠ s.2.1 → x ≠ s) ∧ ∃ v', tm z.T x = some v' ∧ p.1 + v' ≤ v
/-- the states, once for all -/
structure FI (K : Nat) (c : Bool) (F : List St3) : Prop where
  k3 : K ≤ 3
  nd : F.Nodup
  val : ∀ s ∈ F, Val K s
  cl : ∀ s ∈ F, Cl c F s
def stepS (z : LS) (s : St3) : LS := match good (isBoth z.w) z.T z.t s with
  | some p => { z with T := z.T ++ [(s, z.t)], Q := z.Q ++ [(s, p)] }
  | none => z
theorem stepS_const (z : LS) (s : St3) : (stepS z s).st = z.st ∧ (stepS z s).w = z.w ∧ (stepS z s).b = z.b ∧ (stepS z s).L = z.L ∧ (stepS z s).t = z.t := by
  unfold stepS
  cases good (isBoth z.w) z.T z.t s <;> exact ⟨rfl, rfl, rfl, rfl, rfl⟩
theorem foldS_const : ∀ (L : List St3) (z : LS), (L.foldl stepS z).st = z.st ∧ (L.foldl stepS z).w = z.w ∧ (L.foldl stepS z).b = z.b ∧ (L.foldl stepS z).L = z.L ∧ (L.foldl stepS z).t = z.t
  | [], _ => ⟨rfl, rfl, rfl, rfl, rfl⟩
  | s :: L, z => by
    obtain ⟨a1, a2, a3, a4, a5⟩ := stepS_const z s
    obtain ⟨b1, b2, b3, b4, b5⟩ := foldS_const L (stepS z s)
    exact ⟨b1.trans a1, b2.trans a2, b3.trans a3, b4.trans a4, b5.trans a5⟩
theorem good_some {c : Bool} {T : List (St3 × Nat)} {t : Nat} {s : St3} {p : Nat × Nat} (h : good c T t s = some p) : p ∈ testsL s.2.2.length ∧ okT c T t s p = true := ⟨List.mem_of_find?_eq_some h, List.find?_some h⟩
theorem okT_all {c : Bool} {T : List (St3 × Nat)} {t : Nat} {s : St3} {p : Nat × Nat} (h : okT c T t s p = true) : ∀ x ∈ laters s p.1 p.2 c, ∃ v, tm T x = some v ∧ p.1 + v ≤ t := fun x hx => by
  unfold okT at h
  have := List.all_eq_true.mp h x hx
  cases e : tm T x with
  | none => rw [e] at this; cases this
  | some v => rw [e] at this; exact ⟨v, rfl, by simpa using this⟩
theorem okT_of {c : Bool} {T : List (St3 × Nat)} {t : Nat} {s : St3} {p : Nat × Nat} (h : ∀ x ∈ laters s p.1 p.2 c, ∃ v, tm T x = some v ∧ p.1 + v ≤ t) : okT c T t s p = true := by
  unfold okT
  rw [List.all_eq_true]
  intro x hx
  obtain ⟨v, h1, h2⟩ := h x hx
  rw [h1]
  simpa using h2
theorem tm_solv {c : Bool} {T : List (St3 × Nat)} (h : ∀ p ∈ T, Solv c p.2 p.1) {s : St3} {v : Nat} (hs : tm T s = some v) : Solv c v s := by
  unfold tm at hs
  split at hs
  · rename_i k; exact .known k
  · exact h _ (lookT_mem hs)
theorem LI.step {K : Nat} {F : List St3} {z : LS} (h : LI K F z) (hF : FI K (isBoth z.w) F) {s : St3} (hs : s ∈ F) (hn : s ∉ keys z.T) : LI K F (stepS z s) := by
  unfold stepS
  cases hg : good (isBoth z.w) z.T z.t s with
  | none => exact h
  | some p =>
    obtain ⟨hp, ho⟩ := good_some hg
    have hall := okT_all ho
    have hkey : keys (z.T ++ [(s, z.t)]) = keys z.T ++ [s] := by simp [keys]
    have hne := laters_ne (c := isBoth z.w) (hF.val s hs) (mem_testsL.mp hp).2
    have hsolv : Solv (isBoth z.w) z.t s := by
      refine .test p hp ?_ fun x hx => ?_
      · cases hl : laters s p.1 p.2 (isBoth z.w) with
        | nil => exact absurd hl hne
        | cons x r =>
          obtain ⟨v, _, h2⟩ := hall x (by rw [hl]; exact List.mem_cons_self ..)
          omega
      · obtain ⟨v, h1, h2⟩ := hall x hx
        exact (tm_solv (fun q hq => (h.snd q hq).1) h1).mono _ (by omega)
    refine ⟨?_, ?_, ?_, h.nl, h.lf, ?_, ?_, ?_, ?_⟩
    · show (z.Q ++ [(s, p)]).map (·.1) = keys (z.T ++ [(s, z.t)])
      rw [hkey, List.map_append, h.same]; rfl
    · show (keys (z.T ++ [(s, z.t)])).Nodup
      rw [hkey, List.nodup_append]
      exact ⟨h.nk, by simp, fun a ha b hb => by simp at hb; subst hb; exact fun e => hn (e ▸ ha)⟩
    · intro x hx
      have hx' : x ∈ keys (z.T ++ [(s, z.t)]) := hx
      rw [hkey] at hx'
      rcases List.mem_append.mp hx' with y | y
      · exact h.sub x y
      · simp at y; subst y; exact hs
    · intro x hx
      show x ∈ keys (z.T ++ [(s, z.t)]) ∨ _
      rw [hkey]
      rcases h.all x hx with y | y
      · exact .inl (List.mem_append_left _ y)
      · exact .inr y
    · intro q hq
      rcases List.mem_append.mp hq with y | y
      · exact h.snd q y
      · simp at y; subst y; exact ⟨hsolv, Nat.le_refl _⟩
    · intro x hx t' ht' hx'
      obtain ⟨v, h1, h2⟩ := h.early x hx t' ht' hx'
      exact ⟨v, h1, tm_app h2⟩
    · intro x v hx
      have hx' : lookT x (z.T ++ [(s, z.t)]) = some v := hx
      by_cases hxs : x = s
      · subst hxs
        rw [lookT_new hn] at hx'
        cases hx'
        refine ⟨p, lookQ_new (by rw [h.same]; exact hn), hp, fun y hy => ?_⟩
        obtain ⟨v', h1, h2⟩ := hall y hy
        refine ⟨fun hk e => ?_, v', tm_app h1, h2⟩
        subst e
        unfold tm at h1
        rw [if_neg hk, lookT_none hn] at h1; cases h1
      · rw [lookT_old (fun e => hxs e.symm)] at hx'
        obtain ⟨q, h1, h2, h3⟩ := h.tst x v hx'
        refine ⟨q, ?_, h2, fun y hy => ?_⟩
        · show lookQ x (z.Q ++ [(s, p)]) = some q
          rw [lookQ_old (fun e => hxs e.symm)]; exact h1
        · obtain ⟨h4, v', h5, h6⟩ := h3 y hy
          exact ⟨h4, v', tm_app h5, h6⟩

theorem len_keys (T : List (St3 × Nat)) : (keys T).length = T.length := by unfold keys; exact List.length_map ..
theorem nd_sub {α : Type} [BEq α] [LawfulBEq α] : ∀ {l F : List α}, l.Nodup → (∀ x ∈ l, x ∈ F) → l.length ≤ F.length
  | [], _, _, _ => Nat.zero_le _
  | a :: l, F, h, hs => by
    rw [List.nodup_cons] at h
    have h1 := hs a (List.mem_cons_self ..)
    have h2 := nd_sub (l := l) (F := F.erase a) h.2 fun x hx => by
      have hne : x ≠ a := fun e => h.1 (e ▸ hx)
      exact (List.mem_erase_of_ne hne).mpr (hs x (List.mem_cons_of_mem _ hx))
    rw [List.length_erase_of_mem h1] at h2
    have := List.length_pos_of_mem h1
    simp only [List.length_cons]
    omega
theorem LI.small {K : Nat} {F : List St3} {z : LS} {c : Bool} (h : LI K F z) (hF : FI K c F) : z.T.length ≤ 81000 := by
  have h1 := nd_sub h.nk h.sub
  have h2 := card hF.k3 hF.nd hF.val
  rw [len_keys] at h1
  omega
theorem wrT (z : LS) (s : St3) (hn : s ∉ keys z.T) (hl : z.T.length < LIM) : wrI (sD s) (.int (z.t : Int)) (.ref (z.k + 1)) z.S = .ok () (LS.S { z with T := z.T ++ [(s, z.t)] }) := by
  show (match z.S[z.k + 1]? with
    | some (.lst ds) => (match sD s with
      | .int n => (match ixN ds.length n with
        | some j => Res.ok () (z.S.set (z.k + 1) (.lst (ds.set j (.int (z.t : Int)))))
        | none => .bad)
      | _ => .bad)
    | some (.dct kvs) => if dKey (sD s) kvs && decide (kvs.length < LIM) then Res.ok () (z.S.set (z.k + 1) (.dct (putK (sD s) (.int (z.t : Int)) kvs))) else .bad
    | _ => .bad) = _
  rw [at1]
  show (if dKey (sD s) (kvT z.T) && decide ((kvT z.T).length < LIM) then Res.ok () (z.S.set (z.k + 1) (.dct (putK (sD s) (.int (z.t : Int)) (kvT z.T)))) else .bad) = _
  have hk : s ∉ (z.T.map fun p => (p.1, D.int (p.2 : Int))).map (·.1) := by rw [List.map_map]; exact hn
  have hp : putK (sD s) (.int (z.t : Int)) (kvT z.T) = kvT (z.T ++ [(s, z.t)]) := by
    unfold kvT
    rw [put_kv _ _ _ hk, List.map_append]; rfl
  rw [hp, set1]
  have h1 : dKey (sD s) (kvT z.T) = true := key_kv _ _
  have h2 : (kvT z.T).length < LIM := by unfold kvT kv; simpa using hl
  rw [h1, decide_eq_true h2]; rfl
theorem wrQ (z : LS) (s : St3) (p : Nat × Nat) (hn : s ∉ z.Q.map (·.1)) (hl : z.Q.length < LIM) : wrI (sD s) (tD p) (.ref (z.k + 2)) z.S = .ok () (LS.S { z with Q := z.Q ++ [(s, p)] }) := by
  show (match z.S[z.k + 2]? with
    | some (.lst ds) => (match sD s with
      | .int n => (match ixN ds.length n with
        | some j => Res.ok () (z.S.set (z.k + 2) (.lst (ds.set j (tD p))))
        | none => .bad)
      | _ => .bad)
    | some (.dct kvs) => if dKey (sD s) kvs && decide (kvs.length < LIM) then Res.ok () (z.S.set (z.k + 2) (.dct (putK (sD s) (tD p) kvs))) else .bad
    | _ => .bad) = _
  rw [at2]
  show (if dKey (sD s) (kvQ z.Q) && decide ((kvQ z.Q).length < LIM) then Res.ok () (z.S.set (z.k + 2) (.dct (putK (sD s) (tD p) (kvQ z.Q)))) else .bad) = _
  have hk : s ∉ (z.Q.map fun p => (p.1, tD p.2)).map (·.1) := by rw [List.map_map]; exact hn
  have hp : putK (sD s) (tD p) (kvQ z.Q) = kvQ (z.Q ++ [(s, p)]) := by
    unfold kvQ
    rw [put_kv _ _ _ hk, List.map_append]; rfl
  rw [hp, set2]
  have h1 : dKey (sD s) (kvQ z.Q) = true := key_kv _ _
  have h2 : (kvQ z.Q).length < LIM := by unfold kvQ kv; simpa using hl
  rw [h1, decide_eq_true h2]; rfl
def seB : PD.X := .cons (.asg 3 (.pl (.cm 1 (.var 0) (.cons (.var 2) .nil))))
  (.cons (.if_ (.cmp .isnot (.var 3) (.lit .non)) (.cons (.setI (.fld (.var 0) 2) (.var 2) (.fld (.var 0) 5)) (.cons (.setI (.fld (.var 0) 3) (.var 2) (.var 3)) .nil)) .nil) .nil)
theorem step_ev (n K : Nat) (F : List St3) (z : LS) (hw : z.w.cps.all (fun c => decide (c < 1114112)) = true) (h : LI K F z) (hF : FI K (isBoth z.w) F) (s : St3) (hs : s ∈ F) (hn : s ∉ keys z.T) (m u : Sl) :
    evB pg (callN pg (n + 4)) seB [.v z.me, m, .v (sD s), u] z.S = .ok (.nx [.v z.me, m, .v (sD s), .v (oT (good (isBoth z.w) z.T z.t s))]) (stepS z s).S := by
  have hg : evE pg (callN pg (n + 4)) (.cm 1 (.var 0) (.cons (.var 2) .nil)) [.v z.me, m, .v (sD s), u] z.S = .ok (oT (good (isBoth z.w) z.T z.t s)) z.S :=
    ev_cmS (x := z.me) (f := 12) (ds := [sD s]) (st1 := z.S) rfl (cls0 z) rfl rfl (good_ev n z hw K hF.k3 s (hF.val s hs))
  unfold seB
  rw [evB_nxS (ev_asgS hg)]
  show evB pg (callN pg (n + 4)) _ [.v z.me, m, .v (sD s), .v (oT (good (isBoth z.w) z.T z.t s))] z.S = _
  have hsm := h.small hF
  have hql : z.Q.length = z.T.length := by
    have := congrArg List.length h.same
    rw [len_keys, List.length_map] at this
    exact this
  unfold stepS
  cases hgo : good (isBoth z.w) z.T z.t s with
  | none => rfl
  | some p =>
    have hc : evE pg (callN pg (n + 4)) (.cmp .isnot (.var 3) (.lit .non)) [.v z.me, m, .v (sD s), .v (oT (some p))] z.S = .ok (.bl true) z.S := rfl
    have e1 : evS pg (callN pg (n + 4)) (.setI (.fld (.var 0) 2) (.var 2) (.fld (.var 0) 5)) [.v z.me, m, .v (sD s), .v (oT (some p))] z.S = .ok (.nx [.v z.me, m, .v (sD s), .v (oT (some p))]) (LS.S { z with T := z.T ++ [(s, z.t)] }) := by
      show bnd (rdF 5 z.me) (fun d => bnd (rdF 2 z.me) fun x => bnd (PD.ret (sD s)) fun k => bnd (wrI k d x) fun _ => PD.ret (Out.nx _)) z.S = _
      rw [bnd_ok (rd z (f := 5) (d := .int (z.t : Int)) rfl), bnd_ok (rd z (f := 2) (d := .ref (z.k + 1)) rfl), bnd_ret, bnd_ok (wrT z s hn (by unfold LIM; omega))]
      rfl
    have e2 : evS pg (callN pg (n + 4)) (.setI (.fld (.var 0) 3) (.var 2) (.var 3)) [.v z.me, m, .v (sD s), .v (oT (some p))] (LS.S { z with T := z.T ++ [(s, z.t)] }) = .ok (.nx [.v z.me, m, .v (sD s), .v (oT (some p))]) (LS.S { z with T := z.T ++ [(s, z.t)], Q := z.Q ++ [(s, p)] }) := by
      show bnd (PD.ret (tD p)) (fun d => bnd (rdF 3 z.me) fun x => bnd (PD.ret (sD s)) fun k => bnd (wrI k d x) fun _ => PD.ret (Out.nx _)) (LS.S { z with T := z.T ++ [(s, z.t)] }) = _
      rw [bnd_ret, bnd_ok (show rdF 3 z.me (LS.S { z with T := z.T ++ [(s, z.t)] }) = .ok (.ref (z.k + 2)) (LS.S { z with T := z.T ++ [(s, z.t)] }) from rd { z with T := z.T ++ [(s, z.t)] } (f := 3) (d := .ref (z.k + 2)) rfl), bnd_ret, bnd_ok (show wrI (sD s) (tD p) (.ref (z.k + 2)) (LS.S { z with T := z.T ++ [(s, z.t)] }) = .ok () (LS.S { z with T := z.T ++ [(s, z.t)], Q := z.Q ++ [(s, p)] }) from wrQ { z with T := z.T ++ [(s, z.t)] } s p (by show s ∉ z.Q.map (·.1); rw [h.same]; exact hn) (by show z.Q.length < LIM; unfold LIM; omega))]
      rfl
    rw [evB_nxS (env' := [.v z.me, m, .v (sD s), .v (oT (some p))]) (st1 := LS.S { z with T := z.T ++ [(s, z.t)], Q := z.Q ++ [(s, p)] }) (by
      rw [ev_ifS hc, if_pos rfl, evB_nxS e1, evB_nxS e2]; rfl)]
    rfl
theorem stepS_keys (z : LS) (s : St3) : ∀ x, x ∈ keys (stepS z s).T → x ∈ keys z.T ∨ x = s := by
  intro x hx
  unfold stepS at hx
  cases hg : good (isBoth z.w) z.T z.t s with
  | none => rw [hg] at hx; exact .inl hx
  | some p =>
    rw [hg] at hx
    have hx' : x ∈ keys (z.T ++ [(s, z.t)]) := hx
    simp only [keys, List.map_append, List.mem_append, List.map_cons, List.map_nil, List.mem_singleton] at hx'
    exact hx'
theorem pass_ev (n K : Nat) (F : List St3) : ∀ (L : List St3) (z : LS), z.w.cps.all (fun c => decide (c < 1114112)) = true → LI K F z → FI K (isBoth z.w) F → L.Nodup → (∀ s ∈ L, s ∈ F) → (∀ s ∈ L, s ∉ keys z.T) → ∀ m a u : Sl,
    LI K F (L.foldl stepS z) ∧ ∃ a' u', forL (fun d e => match bindT (.tv 2) d e with
      | some e => evB pg (callN pg (n + 4)) seB e
      | none => fail) (L.map sD) [.v z.me, m, a, u] z.S = .ok (.nx [.v z.me, m, a', u']) (L.foldl stepS z).S
  | [], z, _, h, _, _, _, _, m, a, u => ⟨h, a, u, rfl⟩
  | s :: L, z, hw, h, hF, hn, hl, hk, m, a, u => by
    obtain ⟨c1, c2, c3, c4, c5⟩ := stepS_const z s
    have hs := hl s (List.mem_cons_self ..)
    have hsk := hk s (List.mem_cons_self ..)
    have h1 := h.step hF hs hsk
    rw [List.nodup_cons] at hn
    have hme : (stepS z s).me = z.me := by unfold LS.me LS.k; rw [c1]
    obtain ⟨r1, a', u', r2⟩ := pass_ev n K F L (stepS z s) (by rw [c2]; exact hw) h1 (by rw [c2]; exact hF) hn.2 (fun x hx => hl x (List.mem_cons_of_mem _ hx)) (fun x hx hx' => by
      rcases stepS_keys z s x hx' with y | y
      · exact hk x (List.mem_cons_of_mem _ hx) y
      · subst y; exact hn.1 hx) m (.v (sD s)) (.v (oT (good (isBoth z.w) z.T z.t s)))
    refine ⟨r1, a', u', ?_⟩
    rw [hme] at r2
    show bnd (evB pg (callN pg (n + 4)) seB [.v z.me, m, .v (sD s), u]) _ z.S = _
    rw [bnd_ok (step_ev n K F z hw h hF s hs hsk m u)]
    exact r2
theorem fold_len : ∀ (L : List St3) (z : LS), z.T.length ≤ (L.foldl stepS z).T.length ∧ ((L.foldl stepS z).T.length = z.T.length → (∀ s ∈ L, good (isBoth z.w) z.T z.t s = none) ∧ L.foldl stepS z = z)
  | [], z => ⟨Nat.le_refl _, fun _ => ⟨(fun _ h => (nomatch h)), rfl⟩⟩
  | s :: L, z => by
    obtain ⟨h1, h2⟩ := fold_len L (stepS z s)
    show z.T.length ≤ (L.foldl stepS (stepS z s)).T.length ∧ ((L.foldl stepS (stepS z s)).T.length = z.T.length → (∀ x ∈ s :: L, good (isBoth z.w) z.T z.t x = none) ∧ L.foldl stepS (stepS z s) = z)
    cases hg : good (isBoth z.w) z.T z.t s with
    | none =>
      have e : stepS z s = z := by unfold stepS; rw [hg]
      rw [e] at h1 h2 ⊢
      refine ⟨h1, fun h3 => ?_⟩
      obtain ⟨h4, h5⟩ := h2 h3
      refine ⟨fun x hx => ?_, h5⟩
      rcases List.mem_cons.mp hx with rfl | hx
      · exact hg
      · exact h4 x hx
    | some p =>
      have e : (stepS z s).T.length = z.T.length + 1 := by
        unfold stepS; rw [hg]
        show (z.T ++ [(s, z.t)]).length = _
        simp
      exact ⟨by omega, fun h3 => by omega⟩
end K77
end ZK77s
section ZK77t
set_option Elab.async false
set_option linter.all false
set_option maxRecDepth 100000
set_option maxHeartbeats 400000
namespace K77
open PySem PD
/-! settle -/
def cutZ (z : LS) : LS := { z with L := z.L.filter fun s => !decide (s ∈ keys z.T) }
theorem LI.cut {K : Nat} {F : List St3} {z : LS} (h : LI K F z) : LI K F (cutZ z) := by
  refine ⟨h.same, h.nk, h.sub, h.nl.filter _, fun s hs => h.lf s (List.mem_filter.mp hs).1, fun s hs => ?_, h.snd, h.early, h.tst⟩
  by_cases c : s ∈ keys z.T
  · exact .inl c
  · rcases h.all s hs with y | y
    · exact .inl y
    · exact .inr (List.mem_filter.mpr ⟨y, by simpa using c⟩)
theorem cut_dis (z : LS) : ∀ s ∈ (cutZ z).L, s ∉ keys (cutZ z).T := fun s hs => by
  have := (List.mem_filter.mp hs).2
  show s ∉ keys z.T
  simpa using this
theorem filterMap_ite {α β : Type} (p : α → Bool) (g : α → β) : ∀ as : List α, as.filterMap (fun a => if p a then some (g a) else none) = (as.filter p).map g
  | [] => rfl
  | a :: as => by
    rw [List.filterMap_cons, List.filter_cons, filterMap_ite p g as]
    cases p a <;> rfl
theorem notin_ev (n : Nat) (z : LS) (env : PD.Env) (k : PD.X) (s : St3) (h0 : evE pg (callN pg n) (.var 0) env z.S = .ok z.me z.S) (hk : evE pg (callN pg n) k env z.S = .ok (sD s) z.S) :
    evE pg (callN pg n) (.cmp .notin k (.fld (.var 0) 2)) env z.S = .ok (.bl (!decide (s ∈ keys z.T))) z.S := by
  refine ev_cmpS (d := sD s) (e := .ref (z.k + 1)) (st1 := z.S) hk (ev_fld h0 rfl) (vw_ofS fun _ h => nomatch h) (vwT z) ?_
  show (if dKey (sD s) (kvT z.T) then some (!(findK (sD s) (kvT z.T)).isSome) else none) = _
  have h1 : dKey (sD s) (kvT z.T) = true := key_kv _ _
  have h2 : (findK (sD s) (kvT z.T)).isSome = decide (s ∈ keys z.T) := by
    unfold kvT
    rw [find_kv, look_mem, List.map_map]; rfl
  rw [h1, h2]; rfl
def cutX : PD.X := .setF (.var 0) 4 (.lc [2] (.tv 2) (.src (.fld (.var 0) 4)) (.cmp .notin (.var 2) (.fld (.var 0) 2)) (.var 2))
theorem cut_ev (n : Nat) (z : LS) (hl : z.L.length ≤ LIM) (m a u : Sl) : evS pg (callN pg n) cutX [.v z.me, m, a, u] z.S = .ok (.nx [.v z.me, m, a, u]) (cutZ z).S := by
  have hlc := ev_lcS (P := pg) (cf := callN pg n) (env := [.v z.me, m, a, u]) (st := z.S) (own := [2]) (tg := .tv 2) (it := .src (.fld (.var 0) 4)) (t := .cmp .notin (.var 2) (.fld (.var 0) 2)) (elt := .var 2) sD (fun s => if (!decide (s ∈ keys z.T)) then some (sD s) else none) (ev_srcS (ev_fld (z := z) rfl rfl) rfl) hl fun s _ => by
    show bnd (bnd (evE pg (callN pg n) (.cmp .notin (.var 2) (.fld (.var 0) 2)) [.v z.me, m, .v (sD s), u]) blD) _ z.S = _
    rw [bnd2 (notin_ev n z [.v z.me, m, .v (sD s), u] (.var 2) s rfl rfl)]
    cases decide (s ∈ keys z.T) <;> rfl
  rw [filterMap_ite] at hlc
  show bnd (evE pg (callN pg n) (.lc [2] (.tv 2) (.src (.fld (.var 0) 4)) (.cmp .notin (.var 2) (.fld (.var 0) 2)) (.var 2)) [.v z.me, m, a, u]) (fun d => bnd (PD.ret z.me) fun x => bnd (wrF pg.hf 4 d x) fun _ => PD.ret (Out.nx [.v z.me, m, a, u])) z.S = _
  rw [bnd_ok hlc, bnd_ret]
  have hwr : wrF pg.hf 4 (.lst ((cutZ z).L.map sD)) z.me z.S = .ok () (cutZ z).S := by
    show (match z.S[z.k]? with
      | some (.ins c fs) => if fs.length ≤ 100 ∧ pg.hf c 4 = true then Res.ok () (z.S.set z.k (.ins c (putF 4 (.lst ((cutZ z).L.map sD)) fs))) else .bad
      | _ => .bad) = _
    rw [at0]
    show (if z.fs.length ≤ 100 ∧ pg.hf 0 4 = true then Res.ok () (z.S.set z.k (.ins 0 (putF 4 (.lst ((cutZ z).L.map sD)) z.fs))) else .bad) = _
    rw [if_pos ⟨by show 6 ≤ 100; omega, rfl⟩, set0 z (putF 4 (.lst ((cutZ z).L.map sD)) z.fs) (cutZ z) rfl rfl rfl rfl]
  show bnd (wrF pg.hf 4 (.lst ((cutZ z).L.map sD)) z.me) _ z.S = _
  rw [bnd_ok hwr]; rfl
/-- nothing more can be told of what is left -/
def Done (z : LS) : Prop := ∀ s ∈ z.L, good (isBoth z.w) z.T z.t s = none
def swT : PD.X := .cmp .gt (.bif .len (.cons (.fld (.var 0) 2) .nil)) (.var 1)
def swB : PD.X := .cons (.asg 1 (.pl (.bif .len (.cons (.fld (.var 0) 2) .nil)))) (.cons (.for_ (.tv 2) (.src (.fld (.var 0) 4)) seB) (.cons cutX .nil))
theorem len_ev (n : Nat) (z : LS) (m a u : Sl) : evE pg (callN pg n) (.bif .len (.cons (.fld (.var 0) 2) .nil)) [.v z.me, m, a, u] z.S = .ok (.int (z.T.length : Int)) z.S := by
  refine ev_bif1S (ev_fld (z := z) rfl rfl) (vwT z) ?_
  show some (D.int ((kvT z.T).length : Int)) = _
  unfold kvT kv
  rw [List.length_map, List.length_map]
theorem swT_ev (n : Nat) (z : LS) (m : Int) (a u : Sl) : evE pg (callN pg n) swT [.v z.me, .v (.int m), a, u] z.S = .ok (.bl (decide (m < (z.T.length : Int)))) z.S :=
  ev_cmpS (len_ev n z _ a u) rfl rfl rfl rfl
structure Same (z z' : LS) : Prop where
  st : z'.st = z.st
  w : z'.w = z.w
  b : z'.b = z.b
  t : z'.t = z.t
theorem sw_ev (n K : Nat) (F : List St3) : ∀ (fuel : Nat) (z : LS) (m : Int), z.w.cps.all (fun c => decide (c < 1114112)) = true → LI K F z → FI K (isBoth z.w) F → (∀ s ∈ z.L, s ∉ keys z.T) → m ≤ z.T.length → (m = z.T.length → Done z) → (81000 : Int) < fuel + m → ∀ a u : Sl,
    ∃ z' m' a' u', Same z z' ∧ LI K F z' ∧ (∀ s ∈ z'.L, s ∉ keys z'.T) ∧ Done z' ∧
      whileL (fun e => bnd (evE pg (callN pg (n + 4)) swT e) blD) (fun e => evB pg (callN pg (n + 4)) swB e) fuel [.v z.me, .v (.int m), a, u] z.S = .ok (.nx [.v z.me, .v (.int m'), a', u']) z'.S
  | 0, z, m, _, h, hF, _, hm, _, hf, _, _ => by
    have := h.small hF
    omega
  | fuel + 1, z, m, hw, h, hF, hd, hm, hdone, hf, a, u => by
    have hs : ∀ st, whileL (fun e => bnd (evE pg (callN pg (n + 4)) swT e) blD) (fun e => evB pg (callN pg (n + 4)) swB e) (fuel + 1) [.v z.me, .v (.int m), a, u] st = bnd (bnd (evE pg (callN pg (n + 4)) swT [.v z.me, .v (.int m), a, u]) blD) (fun c => if c then bnd (evB pg (callN pg (n + 4)) swB [.v z.me, .v (.int m), a, u]) (fun o => match o with
      | .nx e | .ct e => whileL (fun e => bnd (evE pg (callN pg (n + 4)) swT e) blD) (fun e => evB pg (callN pg (n + 4)) swB e) fuel e
      | .bk e => PD.ret (.nx e)
      | .rt x => PD.ret (.rt x)) else PD.ret (.nx [.v z.me, .v (.int m), a, u])) st := fun _ => rfl
    by_cases c : m < (z.T.length : Int)
    · obtain ⟨h1, a', u', hfor⟩ := pass_ev n K F z.L z hw h hF h.nl h.lf hd (.v (.int (z.T.length : Int))) a u
      obtain ⟨c1, c2, c3, c4, c5⟩ := foldS_const z.L z
      obtain ⟨f1, f2⟩ := fold_len z.L z
      generalize hz1 : z.L.foldl stepS z = z1 at h1 hfor c1 c2 c3 c4 c5 f1 f2
      have hme1 : z1.me = z.me := by unfold LS.me LS.k; rw [c1]
      have hme2 : (cutZ z1).me = z1.me := rfl
      have hLlen : z1.L.length ≤ LIM := by
        have h2 := nd_sub h1.nl h1.lf
        have h3 := card hF.k3 hF.nd hF.val
        unfold LIM; omega
      obtain ⟨z', m', a2, u2, g1, g2, g3, g4, g5⟩ := sw_ev n K F fuel (cutZ z1) (z.T.length : Int) (by show z1.w.cps.all _ = true; rw [c2]; exact hw) h1.cut (by show FI K (isBoth z1.w) F; rw [c2]; exact hF) (cut_dis z1) (by show (z.T.length : Int) ≤ z1.T.length; omega) (fun e => by
        have e' : z1.T.length = z.T.length := by
          have : (z.T.length : Int) = z1.T.length := e
          omega
        obtain ⟨k1, k2⟩ := f2 e'
        intro s hs
        have hs' := (List.mem_filter.mp hs).1
        rw [k2] at hs'
        show good (isBoth z1.w) z1.T z1.t s = none
        rw [k2]
        exact k1 s hs') (by omega) a' u'
      refine ⟨z', m', a2, u2, ⟨g1.st.trans c1, g1.w.trans c2, g1.b.trans c3, g1.t.trans c5⟩, g2, g3, g4, ?_⟩
      rw [hs, bnd2 (swT_ev (n + 4) z m a u)]
      show bnd (PD.ret (decide (m < (z.T.length : Int)))) _ z.S = _
      rw [decide_eq_true c, bnd_ret, if_pos rfl]
      have hb : evB pg (callN pg (n + 4)) swB [.v z.me, .v (.int m), a, u] z.S = .ok (.nx [.v z.me, .v (.int (z.T.length : Int)), a', u']) (cutZ z1).S := by
        unfold swB
        rw [evB_nxS (ev_asgS (len_ev (n + 4) z _ a u))]
        show evB pg (callN pg (n + 4)) _ [.v z.me, .v (.int (z.T.length : Int)), a, u] z.S = _
        rw [evB_nxS (ev_forS (ev_srcS (ev_fld (z := z) rfl rfl) rfl) hfor)]
        have := cut_ev (n + 4) z1 hLlen (.v (.int (z.T.length : Int))) a' u'
        rw [hme1] at this
        rw [evB_nxS this]; rfl
      rw [bnd_ok hb]
      rw [hme2, hme1] at g5
      exact g5
    · have hm' : m = z.T.length := by omega
      refine ⟨z, m, a, u, ⟨rfl, rfl, rfl, rfl⟩, h, hd, hdone hm', ?_⟩
      rw [hs, bnd2 (swT_ev (n + 4) z m a u)]
      show bnd (PD.ret (decide (m < (z.T.length : Int)))) _ z.S = _
      rw [decide_eq_false c]; rfl
/-- all is told that can be learned in the time looked for -/
theorem done_all {K : Nat} {F : List St3} {z : LS} (h : LI K F z) (hF : FI K (isBoth z.w) F) (hd : Done z) {t' : Nat} {s : St3} (hs : Solv (isBoth z.w) t' s) : t' ≤ z.t → s ∈ F → ∃ v ≤ t', tm z.T s = some v := by
  induction hs with
  | @known t s hk => exact fun _ _ => ⟨0, Nat.zero_le _, if_pos hk⟩
  | @test t s p hp hm hx ih =>
    intro ht hsF
    by_cases hlt : t < z.t
    · exact h.early s hsF t hlt (.test p hp hm hx)
    · have he : t = z.t := by omega
      by_cases hkn : s.1 = s.2.1
      · exact ⟨0, Nat.zero_le _, if_pos hkn⟩
      · rcases h.all s hsF with hk | hk
        · obtain ⟨v, hv⟩ := lookT_some hk
          exact ⟨v, by rw [he]; exact (h.snd _ (lookT_mem hv)).2, by unfold tm; rw [if_neg hkn]; exact hv⟩
        · exfalso
          have hg := hd s hk
          unfold good at hg
          have := List.find?_eq_none.mp hg p hp
          refine this (okT_of fun x hx' => ?_)
          by_cases hxk : x.1 = x.2.1
          · exact ⟨0, if_pos hxk, by omega⟩
          · have hxn : x.2.2 ≠ [] := fun e => hxk (nodoor (hx x hx') e)
            obtain ⟨v, h1, h2⟩ := ih x hx' (by omega) (hF.cl s hsF p hp x hx' hxk hxn)
            exact ⟨v, h2, by omega⟩
theorem settle_ev (n K : Nat) (F : List St3) (z : LS) (hw : z.w.cps.all (fun c => decide (c < 1114112)) = true) (h : LI K F z) (hF : FI K (isBoth z.w) F) (hd : ∀ s ∈ z.L, s ∉ keys z.T) :
    ∃ z', Same z z' ∧ LI K F z' ∧ (∀ s ∈ z'.L, s ∉ keys z'.T) ∧ Done z' ∧ callN pg (n + 5) 13 [z.me] z.S = .ok .non z'.S := by
  obtain ⟨z', m', a', u', g1, g2, g3, g4, g5⟩ := sw_ev n K F 100000 z (-1) hw h hF hd (by omega) (fun e => by omega) (by omega) .no .no
  refine ⟨z', g1, g2, g3, g4, ?_⟩
  refine runF_nxS (P := pg) (cf := callN pg (n + 4)) (fd := ⟨1, 4, t13⟩) (ds := [z.me]) rfl (env' := [.v z.me, .v (.int m'), a', u']) ?_
  show evB pg (callN pg (n + 4)) t13 [.v z.me, .no, .no, .no] z.S = _
  rw [show t13 = .cons (.asg 1 (.pl (.neg (.lit (.int 1))))) (.cons (.while_ swT swB) .nil) from rfl]
  rw [evB_nxS (env' := [.v z.me, .v (.int (-1)), .no, .no]) (st1 := z.S) rfl]
  rw [evB_nxS (show evS pg (callN pg (n + 4)) (.while_ swT swB) [.v z.me, .v (.int (-1)), .no, .no] z.S = _ from g5)]
  rfl
end K77
end ZK77t
section ZK77u
set_option Elab.async false
set_option linter.all false
set_option maxRecDepth 100000
set_option maxHeartbeats 400000
namespace K77
open PySem PD
/-! a new Learner -/
def AS (st : Store) (fs : List (Nat × D)) (r : Store) : Store := st ++ .ins 0 fs :: r
theorem wr_as (st : Store) (fs : List (Nat × D)) (r : Store) (f : Nat) (d : D) (hl : fs.length ≤ 100) (hh : hfF 0 f = true) : wrF pg.hf f d (.ref st.length) (AS st fs r) = .ok () (AS st (putF f d fs) r) := by
  have h0 : (AS st fs r)[st.length]? = some (.ins 0 fs) := by
    unfold AS
    rw [List.getElem?_append_right (Nat.le_refl _), Nat.sub_self]; rfl
  have h1 : (AS st fs r).set st.length (.ins 0 (putF f d fs)) = AS st (putF f d fs) r := by
    unfold AS
    rw [List.set_append_right _ _ (Nat.le_refl _), Nat.sub_self]; rfl
  show (match (AS st fs r)[st.length]? with
      | some (.ins c fs') => if fs'.length ≤ 100 ∧ pg.hf c f = true then Res.ok () ((AS st fs r).set st.length (.ins c (putF f d fs'))) else .bad
      | _ => .bad) = _
  rw [h0]
  show (if fs.length ≤ 100 ∧ pg.hf 0 f = true then Res.ok () ((AS st fs r).set st.length (.ins 0 (putF f d fs))) else .bad) = _
  rw [if_pos ⟨hl, hh⟩, h1]
theorem setF_as {cf : Calls} {env : PD.Env} (st : Store) (fs : List (Nat × D)) (r r' : Store) (f : Nat) (d : D) (e : PD.X) (hl : fs.length ≤ 100) (hh : hfF 0 f = true) (h0 : env[0]? = some (.v (.ref st.length))) (he : evE pg cf e env (AS st fs r) = .ok d (AS st fs r')) :
    evS pg cf (.setF (.var 0) f e) env (AS st fs r) = .ok (.nx env) (AS st (putF f d fs) r') := by
  show bnd (evE pg cf e env) (fun d => bnd (evE pg cf (.var 0) env) fun x => bnd (wrF pg.hf f d x) fun _ => PD.ret (Out.nx env)) (AS st fs r) = _
  rw [bnd_ok he]
  have h1 : evE pg cf (.var 0) env (AS st fs r') = .ok (.ref st.length) (AS st fs r') := by
    show (match env[0]? with
      | some (Sl.v d) => PD.ret d
      | _ => fail : M D) (AS st fs r') = _
    rw [h0]; rfl
  rw [bnd_ok h1, bnd_ok (wr_as st fs r' f d hl hh)]; rfl
theorem newd_as {cf : Calls} {env : PD.Env} (st : Store) (fs : List (Nat × D)) (r : Store) : evE pg cf .newd env (AS st fs r) = .ok (.ref (st.length + (r.length + 1))) (AS st fs (r ++ [.dct []])) := by
  show Res.ok (D.ref (AS st fs r).length) (AS st fs r ++ [.dct []]) = _
  unfold AS
  rw [List.length_append, List.length_cons, List.append_assoc]; rfl
def owT : PD.X := .and_ (.cons (.not_ (.call 5 (.cons (.var 1) .nil))) (.cons (.cmp .notin (.var 1) (.fld (.var 0) 2)) .nil))
def owB : PD.X := .cons (.ex (.cm 2 (.var 0) .nil)) (.cons (.if_ (.cmp .notin (.var 1) (.fld (.var 0) 2)) (.cons (.augF (.var 0) 5 .add (.lit (.int 1))) .nil) .nil) .nil)
def enO (z : LS) : PD.Env := [.v z.me, .v (sD z.b), .v (.str z.w)]
theorem owT_ev (n : Nat) (z : LS) : evE pg (callN pg (n + 1)) owT (enO z) z.S = .ok (.bl (!decide (z.b.1 = z.b.2.1) && !decide (z.b ∈ keys z.T))) z.S := by
  refine ev_and2S (st1 := z.S) ?_ fun _ => notin_ev (n + 1) z (enO z) (.var 1) z.b rfl rfl
  show bnd (bnd (callN pg (n + 1) 5 [sD z.b]) blD) _ z.S = _
  rw [show sD z.b = stD z.b.1 z.b.2.1 z.b.2.2 from rfl, known_ev]; rfl
def upZ (z : LS) : LS := { z with t := z.t + 1 }
theorem aug_ev (n : Nat) (z : LS) : evS pg (callN pg n) (.augF (.var 0) 5 .add (.lit (.int 1))) (enO z) z.S = .ok (.nx (enO z)) (upZ z).S := by
  show bnd (PD.ret z.me) (fun x => bnd (clsOf x) fun c1 => bnd (rdF 5 x) fun d => bnd (PD.ret (D.int 1)) fun y => bnd (clsOf x) fun c2 => if augOk d && c1.1 == c2.1 then bnd (opt (binD .add d y)) fun r => bnd (wrF pg.hf 5 r x) fun _ => PD.ret (Out.nx (enO z)) else fail) z.S = _
  rw [bnd_ret, bnd_ok (cls0 z), bnd_ok (rd z (f := 5) (d := .int (z.t : Int)) rfl), bnd_ret, bnd_ok (cls0 z)]
  show bnd (wrF pg.hf 5 (.int ((z.t : Int) + 1)) z.me) (fun _ => PD.ret (Out.nx (enO z))) z.S = _
  have h1 : wrF pg.hf 5 (.int ((z.t : Int) + 1)) z.me z.S = .ok () (upZ z).S := by
    have := wr_as z.st z.fs [.dct (kvT z.T), .dct (kvQ z.Q)] 5 (.int ((z.t : Int) + 1)) (by show 6 ≤ 100; omega) rfl
    exact this
  rw [bnd_ok h1]; rfl
theorem ow_ev (n K B : Nat) (F : List St3) : ∀ (fuel : Nat) (z : LS), z.w.cps.all (fun c => decide (c < 1114112)) = true → LI K F z → FI K (isBoth z.w) F → (∀ s ∈ z.L, s ∉ keys z.T) → z.b ∈ F → z.b.1 ≠ z.b.2.1 → z.b ∉ keys z.T → Solv (isBoth z.w) B z.b → z.t ≤ B → B + 2 ≤ fuel + z.t →
    ∃ z', z'.st = z.st ∧ z'.w = z.w ∧ z'.b = z.b ∧ LI K F z' ∧ (∀ s ∈ z'.L, s ∉ keys z'.T) ∧ z'.b ∈ keys z'.T ∧ Solv (isBoth z.w) z'.t z.b ∧ (∀ t' < z'.t, ¬ Solv (isBoth z.w) t' z.b) ∧
      whileL (fun e => bnd (evE pg (callN pg (n + 5)) owT e) blD) (fun e => evB pg (callN pg (n + 5)) owB e) fuel (enO z) z.S = .ok (.nx (enO z)) z'.S
  | 0, z, _, _, _, _, _, _, _, _, h1, h2 => by omega
  | fuel + 1, z, hw, h, hF, hd, hb, hk, hbk, hB, htB, hf => by
    have hs : ∀ (fuel : Nat) (z : LS) st, whileL (fun e => bnd (evE pg (callN pg (n + 5)) owT e) blD) (fun e => evB pg (callN pg (n + 5)) owB e) (fuel + 1) (enO z) st = bnd (bnd (evE pg (callN pg (n + 5)) owT (enO z)) blD) (fun c => if c then bnd (evB pg (callN pg (n + 5)) owB (enO z)) (fun o => match o with
      | .nx e | .ct e => whileL (fun e => bnd (evE pg (callN pg (n + 5)) owT e) blD) (fun e => evB pg (callN pg (n + 5)) owB e) fuel e
      | .bk e => PD.ret (.nx e)
      | .rt x => PD.ret (.rt x)) else PD.ret (.nx (enO z))) st := fun _ _ _ => rfl
    obtain ⟨z1, s1, g2, g3, g4, g5⟩ := settle_ev n K F z hw h hF hd
    have hme : z1.me = z.me := by unfold LS.me LS.k; rw [s1.st]
    have hen : enO z1 = enO z := by unfold enO; rw [hme, s1.w, s1.b]
    have hF1 : FI K (isBoth z1.w) F := by rw [s1.w]; exact hF
    have hlow : ∀ t' < z.t, ¬ Solv (isBoth z.w) t' z.b := fun t' ht hs' => by
      obtain ⟨v, _, hv⟩ := h.early z.b hb t' ht hs'
      unfold tm at hv
      rw [if_neg hk] at hv
      exact hbk (lookT_key hv)
    have hcm : evS pg (callN pg (n + 5)) (.ex (.cm 2 (.var 0) .nil)) (enO z) z.S = .ok (.nx (enO z)) z1.S :=
      ev_exS (ev_cmS (x := z.me) (f := 13) (ds := []) (st1 := z.S) rfl (cls0 z) rfl rfl g5)
    have htrue : bnd (bnd (evE pg (callN pg (n + 5)) owT (enO z)) blD) (fun c => if c then bnd (evB pg (callN pg (n + 5)) owB (enO z)) (fun o => match o with
      | .nx e | .ct e => whileL (fun e => bnd (evE pg (callN pg (n + 5)) owT e) blD) (fun e => evB pg (callN pg (n + 5)) owB e) fuel e
      | .bk e => PD.ret (.nx e)
      | .rt x => PD.ret (.rt x)) else PD.ret (.nx (enO z))) z.S = bnd (evB pg (callN pg (n + 5)) owB (enO z)) (fun o => match o with
      | .nx e | .ct e => whileL (fun e => bnd (evE pg (callN pg (n + 5)) owT e) blD) (fun e => evB pg (callN pg (n + 5)) owB e) fuel e
      | .bk e => PD.ret (.nx e)
      | .rt x => PD.ret (.rt x)) z.S := by
      rw [bnd2 (owT_ev (n + 4) z), decide_eq_false hk, decide_eq_false hbk]; rfl
    have hni := notin_ev (n + 5) z1 (enO z1) (.var 1) z1.b rfl rfl
    rw [hen] at hni
    by_cases hbk1 : z1.b ∈ keys z1.T
    · have hbody : evB pg (callN pg (n + 5)) owB (enO z) z.S = .ok (.nx (enO z)) z1.S := by
        unfold owB
        rw [evB_nxS hcm, evB_nxS (env' := enO z) (st1 := z1.S) (by
          rw [ev_ifS hni, decide_eq_true hbk1]; rfl)]
        rfl
      refine ⟨z1, s1.st, s1.w, s1.b, g2, g3, hbk1, ?_, by rw [s1.t]; exact hlow, ?_⟩
      · obtain ⟨v, hv⟩ := lookT_some hbk1
        have := g2.snd _ (lookT_mem hv)
        rw [← s1.w, ← s1.b]
        exact this.1.mono _ this.2
      · rw [hs, htrue, bnd_ok hbody]
        show whileL _ _ fuel (enO z) z1.S = _
        cases fuel with
        | zero => omega
        | succ fuel =>
          rw [hs]
          have := owT_ev (n + 4) z1
          rw [hen] at this
          rw [bnd2 this, decide_eq_true hbk1]
          cases decide (z1.b.1 = z1.b.2.1) <;> rfl
    · have hlt : z.t < B := by
        rcases Nat.lt_or_ge z.t B with y | y
        · exact y
        · exfalso
          have e : B = z.t := by omega
          obtain ⟨v, _, hv⟩ := done_all g2 hF1 g4 (t' := B) (s := z1.b) (by rw [s1.w, s1.b]; exact hB) (by rw [s1.t]; omega) (by rw [s1.b]; exact hb)
          unfold tm at hv
          rw [if_neg (by rw [s1.b]; exact hk)] at hv
          exact hbk1 (lookT_key hv)
      have hbody : evB pg (callN pg (n + 5)) owB (enO z) z.S = .ok (.nx (enO z)) (upZ z1).S := by
        unfold owB
        have ha := aug_ev (n + 5) z1
        rw [hen] at ha
        rw [evB_nxS hcm, evB_nxS (env' := enO z) (st1 := (upZ z1).S) (by
          rw [ev_ifS hni, decide_eq_false hbk1]
          show evB pg (callN pg (n + 5)) (.cons (.augF (.var 0) 5 .add (.lit (.int 1))) .nil) (enO z) z1.S = _
          rw [evB_nxS ha]; rfl)]
        rfl
      have h2 : LI K F (upZ z1) := by
        refine ⟨g2.same, g2.nk, g2.sub, g2.nl, g2.lf, g2.all, fun p hp => ⟨(g2.snd p hp).1, Nat.le_succ_of_le (g2.snd p hp).2⟩, fun s hs' t' ht' hx => ?_, g2.tst⟩
        have ht2 : t' ≤ z1.t := Nat.lt_succ_iff.mp ht'
        exact done_all g2 hF1 g4 hx ht2 hs'
      obtain ⟨z', r1, r2, r3, r4, r5, r6, r7, r8, r9⟩ := ow_ev n K B F fuel (upZ z1) (by show z1.w.cps.all _ = true; rw [s1.w]; exact hw) h2 hF1 g3 (by show z1.b ∈ F; rw [s1.b]; exact hb) (by show z1.b.1 ≠ z1.b.2.1; rw [s1.b]; exact hk) hbk1 (by show Solv (isBoth z1.w) B z1.b; rw [s1.w, s1.b]; exact hB) (by show z1.t + 1 ≤ B; rw [s1.t]; omega) (by show B + 2 ≤ fuel + (z1.t + 1); rw [s1.t]; omega)
      have hw1 : (upZ z1).w = z.w := s1.w
      have hb1 : (upZ z1).b = z.b := s1.b
      have he1 : enO (upZ z1) = enO z := hen
      rw [hw1, hb1] at r7 r8
      rw [he1] at r9
      refine ⟨z', r1.trans s1.st, r2.trans hw1, r3.trans hb1, r4, r5, r6, r7, r8, ?_⟩
      rw [hs, htrue, bnd_ok hbody]
      exact r9
theorem init_ev (n K B : Nat) (hK : K ≤ 3) (hB9 : B ≤ 90000) (st : Store) (b : St3) (vb : Val K b) (w : Str) (hw : w.cps.all (fun c => decide (c < 1114112)) = true) (hB : Solv (isBoth w) B b) :
    ∃ z F, z.st = st ∧ z.w = w ∧ z.b = b ∧ callN pg (n + 6) 10 [.ref st.length, sD b, .str w] (st ++ [.ins 0 []]) = .ok .non z.S ∧
      ((b.1 = b.2.1 ∧ z.T = [] ∧ z.L = [] ∧ z.t = 0) ∨
      (b.1 ≠ b.2.1 ∧ FI K (isBoth w) F ∧ LI K F z ∧ (∀ s ∈ z.L, s ∉ keys z.T) ∧ b ∈ keys z.T ∧ Solv (isBoth w) z.t b ∧ (∀ t' < z.t, ¬ Solv (isBoth w) t' b))) := by
  have e0 : st ++ [O.ins 0 []] = AS st [] [] := rfl
  have run : ∀ (L : List St3) (z : LS), evE pg (callN pg (n + 5)) (.ite (.call 5 (.cons (.var 1) .nil)) (.lst .nil) (.call 9 (.cons (.var 1) (.cons (.var 2) .nil)))) [.v (.ref st.length), .v (sD b), .v (.str w)] = PD.ret (.lst (L.map sD)) →
      (evS pg (callN pg (n + 5)) (.while_ owT owB) (enO ⟨st, w, b, [], [], L, 0⟩) (LS.S ⟨st, w, b, [], [], L, 0⟩) = .ok (.nx (enO ⟨st, w, b, [], [], L, 0⟩)) z.S) →
      callN pg (n + 6) 10 [.ref st.length, sD b, .str w] (st ++ [.ins 0 []]) = .ok .non z.S := fun L z hL hwh => by
    refine runF_nxS (P := pg) (cf := callN pg (n + 5)) (fd := ⟨3, 3, t10⟩) (ds := [.ref st.length, sD b, .str w]) rfl (env' := enO ⟨st, w, b, [], [], L, 0⟩) ?_
    show evB pg (callN pg (n + 5)) t10 [.v (.ref st.length), .v (sD b), .v (.str w)] (AS st [] []) = _
    rw [show t10 = .cons (.setF (.var 0) 0 (.var 2)) (.cons (.setF (.var 0) 1 (.var 1)) (.cons (.setF (.var 0) 2 .newd) (.cons (.setF (.var 0) 3 .newd) (.cons (.setF (.var 0) 4 (.ite (.call 5 (.cons (.var 1) .nil)) (.lst .nil) (.call 9 (.cons (.var 1) (.cons (.var 2) .nil))))) (.cons (.setF (.var 0) 5 (.lit (.int 0))) (.cons (.while_ owT owB) .nil)))))) from rfl]
    rw [evB_nxS (setF_as st [] [] [] 0 (.str w) (.var 2) (by simp) rfl rfl rfl)]
    rw [evB_nxS (setF_as st _ [] [] 1 (sD b) (.var 1) (by show 1 ≤ 100; omega) rfl rfl rfl)]
    rw [evB_nxS (setF_as st _ [] [.dct []] 2 (.ref (st.length + 1)) .newd (by show 2 ≤ 100; omega) rfl rfl (newd_as st _ []))]
    rw [evB_nxS (setF_as st _ [.dct []] [.dct [], .dct []] 3 (.ref (st.length + 2)) .newd (by show 3 ≤ 100; omega) rfl rfl (newd_as st _ [.dct []]))]
    rw [evB_nxS (setF_as st _ [.dct [], .dct []] [.dct [], .dct []] 4 (.lst (L.map sD)) _ (by show 4 ≤ 100; omega) rfl rfl (congrFun hL _))]
    rw [evB_nxS (setF_as st _ [.dct [], .dct []] [.dct [], .dct []] 5 (.int 0) _ (by show 5 ≤ 100; omega) rfl rfl rfl)]
    exact (evB_nxS (b := .nil) hwh).trans rfl
  have hk5 : evE pg (callN pg (n + 5)) (.call 5 (.cons (.var 1) .nil)) [.v (.ref st.length), .v (sD b), .v (.str w)] = PD.ret (.bl (decide (b.1 = b.2.1))) := known_ev (n + 4) b.1 b.2.1 b.2.2
  by_cases hk : b.1 = b.2.1
  · refine ⟨⟨st, w, b, [], [], [], 0⟩, [], rfl, rfl, rfl, run [] _ ?_ ?_, .inl ⟨hk, rfl, rfl, rfl⟩⟩
    · rw [ev_ite hk5, if_pos (by simpa using hk)]; rfl
    · show whileL (fun e => bnd (evE pg (callN pg (n + 5)) owT e) blD) (fun e => evB pg (callN pg (n + 5)) owB e) (99999 + 1) (enO ⟨st, w, b, [], [], [], 0⟩) _ = _
      unfold whileL
      rw [bnd2 (owT_ev (n + 4) ⟨st, w, b, [], [], [], 0⟩)]
      show bnd (PD.ret (!decide (b.1 = b.2.1) && !decide (b ∈ keys []))) _ _ = _
      rw [decide_eq_true hk]; rfl
  · obtain ⟨F, f1, f2, f3, f4, f5⟩ := allStates_ev (n + 1) K hK b w hw vb
    have hF : FI K (isBoth w) F := ⟨hK, f1, f2, f4⟩
    have hLI : LI K F ⟨st, w, b, [], [], F, 0⟩ := ⟨rfl, List.nodup_nil, (fun _ h => (nomatch h)), f1, fun _ h => h, fun _ h => .inr h, (fun _ h => (nomatch h)), fun _ _ t' ht => absurd ht (Nat.not_lt_zero _), fun _ _ h => (nomatch h)⟩
    obtain ⟨z', r1, r2, r3, r4, r5, r6, r7, r8, r9⟩ := ow_ev n K B F 100000 ⟨st, w, b, [], [], F, 0⟩ hw hLI hF (fun _ _ h => (nomatch h)) f3 hk (fun h => (nomatch h)) hB (Nat.zero_le _) (by show B + 2 ≤ 100000 + 0; omega)
    refine ⟨z', F, r1, r2, r3, run F z' ?_ r9, .inr ⟨hk, hF, r4, r5, by have r3' : z'.b = b := r3; rw [← r3']; exact r6, r7, r8⟩⟩
    rw [ev_ite hk5, if_neg (by simpa using hk)]
    exact f5
end K77
end ZK77u
section ZK77v
set_option Elab.async false
set_option linter.all false
set_option maxRecDepth 100000
set_option maxHeartbeats 400000
namespace K77
open PySem PD
/-! plan -/
def nz : List Int → Nat
  | [] => 0
  | a :: r => (if a = 0 then 0 else 1) + nz r
theorem nz_le : ∀ l : List Int, nz l ≤ l.length
  | [] => Nat.le_refl _
  | a :: r => by
    have := nz_le r
    show (if a = 0 then 0 else 1) + nz r ≤ r.length + 1
    split <;> omega
theorem nz_app : ∀ l r : List Int, nz (l ++ r) = nz l + nz r
  | [], r => by show nz r = 0 + nz r; omega
  | a :: l, r => by
    show (if a = 0 then 0 else 1) + nz (l ++ r) = (if a = 0 then 0 else 1) + nz l + nz r
    rw [nz_app l r]; omega
theorem nz_perm {l r : List Int} (h : l.Perm r) : nz l = nz r := by
  induction h with
  | nil => rfl
  | cons a _ ih => simp only [nz, ih]
  | swap a b l => simp only [nz]; omega
  | trans _ _ h1 h2 => exact h1.trans h2
theorem nz_filter (p : Int → Bool) : ∀ l : List Int, nz (l.filter p) ≤ nz l
  | [] => Nat.le_refl _
  | a :: r => by
    have := nz_filter p r
    rw [List.filter_cons]
    show nz (if p a = true then a :: r.filter p else r.filter p) ≤ (if a = 0 then 0 else 1) + nz r
    split
    · show (if a = 0 then 0 else 1) + nz (r.filter p) ≤ _
      omega
    · omega
theorem nz_srt (l : List Int) (m : Int) : nz (srt l m) ≤ nz l := by
  unfold srt
  rw [nz_perm (sortI_perm _)]
  exact nz_filter _ _
theorem erase_perm {a : Int} : ∀ {l : List Int} {d : Nat}, l[d]? = some a → (l.eraseIdx d ++ [a]).Perm l
  | [], _, h => by simp at h
  | b :: l, 0, h => by
    simp at h; subst h
    exact List.perm_append_singleton _ _
  | b :: l, d + 1, h => (erase_perm (l := l) (d := d) (by simpa using h)).cons b
theorem nz_erase {l : List Int} {d : Nat} {a : Int} (h : l[d]? = some a) : nz l = nz (l.eraseIdx d) + (if a = 0 then 0 else 1) := by
  rw [← nz_perm (erase_perm h), nz_app]; rfl
theorem srt_same {l : List Int} {d : Nat} {a m : Int} (h : l[d]? = some a) (hs : l.Pairwise (· ≤ ·)) (hm : ∀ x ∈ l, x ≤ m) : srt (l.eraseIdx d ++ [a]) m = l := by
  have hp := erase_perm h
  have hf : (l.eraseIdx d ++ [a]).filter (fun x => decide (x ≤ m)) = l.eraseIdx d ++ [a] := List.filter_eq_self.mpr fun x hx => by simpa using hm x (hp.mem_iff.mp hx)
  unfold srt
  rw [hf]
  exact PySem.W.ksm_same ((sortI_perm _).trans hp) (sortI_up _) hs
def mu (K : Nat) (s : St3) (v : Nat) : Nat := (K + 1) * v + nz s.2.2 + (s.2.1 - s.1).toNat
theorem map_add0 (l : List Int) : l.map (· + ((0 : Nat) : Int)) = l := by
  induction l with
  | nil => rfl
  | cons a l ih => rw [List.map_cons, ih]; simp
theorem mu_lt {K : Nat} {c : Bool} {s x : St3} {p : Nat × Nat} {v v' : Nat} (vs : Val K s) (vx : Val K x) (hlt : s.1 < s.2.1) (hp : p ∈ testsL s.2.2.length) (hx : x ∈ laters s p.1 p.2 c) (hne : x ≠ s) (hv : p.1 + v' ≤ v) : mu K x v' < mu K s v := by
  obtain ⟨a0, hd⟩ := door_at hp
  obtain ⟨w, d⟩ := p
  obtain ⟨l, m, as⟩ := s
  simp only at hd hx hv hlt
  have hlm := vs.am a0 (List.mem_of_getElem? hd)
  simp only at hlm
  have hlast := vx.lm
  unfold mu
  by_cases hw : w = 0
  · subst hw
    have hvv : (K + 1) * v' ≤ (K + 1) * v := Nat.mul_le_mul_left _ (by omega)
    have hnz := nz_erase hd
    rcases laters_cases hd hx with ⟨h1, rfl⟩ | ⟨h1, rfl⟩
    · simp only at h1 hlast hne ⊢
      rw [map_add0] at hne ⊢
      simp only [Int.natCast_zero, Int.add_zero] at h1 hlast hne ⊢
      have h2 := nz_srt (as.eraseIdx d ++ [if c = true then 0 else a0]) m
      rw [nz_app] at h2
      by_cases hl : l < a0
      · have hmx : mx l a0 = a0 := by unfold mx; rw [if_pos hl]
        rw [hmx] at hlast ⊢
        have h3 : nz [if c = true then 0 else a0] ≤ if a0 = 0 then 0 else 1 := by
          show (if (if c = true then 0 else a0) = 0 then 0 else 1) + 0 ≤ _
          cases c
          · simp
          · simp
        omega
      · have hmx : mx l a0 = l := by unfold mx; rw [if_neg hl]
        rw [hmx] at hne ⊢
        by_cases hc : c = true ∧ a0 ≠ 0
        · obtain ⟨rfl, hc2⟩ := hc
          simp only [if_true] at h2
          rw [if_neg hc2] at hnz
          have : nz [(0 : Int)] = 0 := rfl
          simp only [if_true]
          omega
        · exfalso
          apply hne
          have e : (if c = true then 0 else a0) = a0 := by
            cases c
            · rfl
            · simp only [true_and, ne_eq, Decidable.not_not] at hc
              rw [hc]; rfl
          rw [e, srt_same hd vs.so vs.am]
    · simp only at h1 hlast ⊢
      rw [map_add0]
      simp only [Int.natCast_zero, Int.add_zero] at h1 hlast ⊢
      have hmn : mn m (a0 - 1) = a0 - 1 := by unfold mn; split <;> omega
      rw [hmn] at hlast ⊢
      have h2 := nz_srt (as.eraseIdx d) (a0 - 1)
      omega
  · have hvv : (K + 1) * v' + (K + 1) ≤ (K + 1) * v := by
      have := Nat.mul_le_mul_left (K + 1) (show v' + 1 ≤ v by omega)
      rw [Nat.mul_add, Nat.mul_one] at this
      exact this
    have h1 := nz_le x.2.2
    have h2 := vx.len
    have h3 : x.2.1 - x.1 ≤ m - l := by
      rcases laters_cases hd hx with ⟨h1, rfl⟩ | ⟨h1, rfl⟩
      · simp only
        have : l ≤ mx l (a0 + w) := by unfold mx; split <;> omega
        omega
      · simp only
        have : mn m (a0 + w - 1) ≤ m := by unfold mn; split <;> omega
        omega
    simp only at h1 h2 h3 ⊢
    omega
theorem bindOO (a b : D) (i j : Nat) (env : PD.Env) : bindT (.tt (.cons (.tv i) (.cons (.tv j) .nil))) (.tup [a, b]) env = some ((env.set i (.v a)).set j (.v b)) := rfl
section
variable {P : Prog} {cf : Calls} {env env' : PD.Env} {st st1 st2 : Store}
theorem ev_tgtS {tg e : PD.X} {d : D} (h : evE P cf e env st = .ok d st1) (hb : bindT tg d env = some env') : evS P cf (.tgt tg e) env st = .ok (.nx env') st1 := by
  show bnd (evE P cf e env) _ st = _
  rw [bnd_ok h, hb]; rfl
end
theorem plan_ev (K : Nat) (F : List St3) (z : LS) (hw : z.w.cps.all (fun c => decide (c < 1114112)) = true) (h : LI K F z) (hF : FI K (isBoth z.w) F) : ∀ (d : Nat) (o : Option St3), (∀ s, o = some s → s.1 = s.2.1 ∨ ∃ v, lookT s z.T = some v ∧ mu K s v ≤ d) →
    ∃ pd, callN pg (d + 3) 14 [z.me, oD o] z.S = .ok pd z.S
  | d, none, _ => by
    refine ⟨.non, ?_⟩
    refine runF_rtS (P := pg) (cf := callN pg (d + 2)) (fd := ⟨2, 6, t14⟩) (ds := [z.me, .non]) rfl ?_
    rfl
  | d, some s, ho => by
    have hk5 : evE pg (callN pg (d + 2)) (.call 5 (.cons (.var 1) .nil)) [.v z.me, .v (sD s), .no, .no, .no, .no] z.S = .ok (.bl (decide (s.1 = s.2.1))) z.S := congrFun (known_ev (d + 1) s.1 s.2.1 s.2.2) z.S
    have hstart : ∀ pd, evB pg (callN pg (d + 2)) (.cons (.if_ (.call 5 (.cons (.var 1) .nil)) (.cons (.rt (.tup (.cons (.lit (.str "known")) .nil))) .nil) .nil)
        (.cons (.tgt (.tt (.cons (.tv 2) (.cons (.tv 3) .nil))) (.idx (.fld (.var 0) 3) (.var 1)))
        (.cons (.tgt (.tt (.cons (.tv 4) (.cons (.tv 5) .nil))) (.call 6 (.cons (.var 1) (.cons (.var 2) (.cons (.var 3) (.cons (.fld (.var 0) 0) .nil))))))
        (.cons (.rt (.tup (.cons (.lit (.str "test")) (.cons (.var 2) (.cons (.var 3) (.cons (.cm 3 (.var 0) (.cons (.var 4) .nil)) (.cons (.cm 3 (.var 0) (.cons (.var 5) .nil)) .nil))))))) .nil)))) [.v z.me, .v (sD s), .no, .no, .no, .no] z.S = .ok (.rt pd) z.S →
        callN pg (d + 3) 14 [z.me, oD (some s)] z.S = .ok pd z.S := fun pd hb => by
      refine runF_rtS (P := pg) (cf := callN pg (d + 2)) (fd := ⟨2, 6, t14⟩) (ds := [z.me, sD s]) rfl ?_
      exact hb
    by_cases hk : s.1 = s.2.1
    · refine ⟨.tup [.str "known"], hstart _ ?_⟩
      rw [evB_rtS (d := .tup [.str "known"]) (st1 := z.S) ((ev_ifS hk5).trans (by rw [decide_eq_true hk]; rfl))]
    · rcases ho s rfl with y | ⟨v, hv, hmu⟩
      · exact absurd y hk
      · have hsF := h.sub s (lookT_key hv)
        have vs := hF.val s hsF
        have hlt : s.1 < s.2.1 := by have := vs.lm; omega
        cases d with
        | zero => unfold mu at hmu; omega
        | succ d =>
        obtain ⟨p, hq, hp, hall⟩ := h.tst s v hv
        obtain ⟨a0, hd⟩ := door_at hp
        have hb6 := behind_ev (d + 1) s (p.1 : Int) p.2 a0 z.w hw (Nat.le_trans vs.len hF.k3) hd
        have sub : ∀ o : Option St3, (∀ x, o = some x → x ∈ laters s p.1 p.2 (isBoth z.w)) → ∃ pd, callN pg (d + 3) 14 [z.me, oD o] z.S = .ok pd z.S := fun o ho' => plan_ev K F z hw h hF d o fun x hx => by
          have hxl := ho' x hx
          obtain ⟨hne, v', h1, h2⟩ := hall x hxl
          by_cases hxk : x.1 = x.2.1
          · exact .inl hxk
          · unfold tm at h1
            rw [if_neg hxk] at h1
            have vx := laters_val vs (Int.natCast_nonneg _) hxl
            have := mu_lt vs vx hlt hp hxl (hne hk) h2
            exact .inr ⟨v', h1, by omega⟩
        generalize hc1 : came s (p.1 : Int) (a0 + p.1) ((s.2.2.map (· + (p.1 : Int))).eraseIdx p.2) (isBoth z.w) = cm at hb6
        generalize hc2 : lost s (a0 + (p.1 : Int)) ((s.2.2.map (· + (p.1 : Int))).eraseIdx p.2) = ls at hb6
        have hlat : ∀ x, (cm = some x ∨ ls = some x) → x ∈ laters s p.1 p.2 (isBoth z.w) := fun x hx => by
          unfold laters
          rw [hd]
          simp only [List.mem_filterMap, List.mem_cons, List.not_mem_nil, or_false, id]
          rcases hx with hx | hx
          · exact ⟨_, .inl rfl, hc1.trans hx⟩
          · exact ⟨_, .inr rfl, hc2.trans hx⟩
        obtain ⟨p1, hp1⟩ := sub cm fun x hx => hlat x (.inl hx)
        obtain ⟨p2, hp2⟩ := sub ls fun x hx => hlat x (.inr hx)
        refine ⟨.tup [.str "test", .int (p.1 : Int), .int (p.2 : Int), p1, p2], hstart _ ?_⟩
        rw [evB_nxS (env' := [.v z.me, .v (sD s), .no, .no, .no, .no]) (st1 := z.S) ((ev_ifS hk5).trans (by rw [decide_eq_false hk]; rfl))]
        have hidx : evE pg (callN pg (d + 1 + 2)) (.idx (.fld (.var 0) 3) (.var 1)) [.v z.me, .v (sD s), .no, .no, .no, .no] z.S = .ok (tD p) z.S := by
          refine ev_idxS (ev_fld (z := z) rfl rfl) (e := sD s) (st2 := z.S) rfl (vwQ z) ?_
          show (if dKey (sD s) (kvQ z.Q) then findK (sD s) (kvQ z.Q) else none) = _
          unfold kvQ
          rw [key_kv, if_pos rfl, find_kv, lookS_Q, hq]; rfl
        rw [evB_nxS (ev_tgtS hidx (bindOO _ _ 2 3 _))]
        have hcall : evE pg (callN pg (d + 1 + 2)) (.call 6 (.cons (.var 1) (.cons (.var 2) (.cons (.var 3) (.cons (.fld (.var 0) 0) .nil))))) [.v z.me, .v (sD s), .v (.int (p.1 : Int)), .v (.int (p.2 : Int)), .no, .no] z.S = .ok (.tup [oD cm, oD ls]) z.S :=
          ev_callS (st1 := z.S) (ds := [sD s, .int (p.1 : Int), .int (p.2 : Int), .str z.w]) (evA_consS (fun _ h => nomatch h) rfl (evA_consS (fun _ h => nomatch h) rfl (evA_consS (fun _ h => nomatch h) rfl (evA_consS (fun _ h => nomatch h) (ev_fld (z := z) rfl rfl) rfl)))) (congrFun hb6 z.S)
        show evB pg (callN pg (d + 1 + 2)) _ [.v z.me, .v (sD s), .v (.int (p.1 : Int)), .v (.int (p.2 : Int)), .no, .no] z.S = _
        rw [evB_nxS (ev_tgtS hcall (bindOO _ _ 4 5 _))]
        refine evB_rtS (ev_rtS (ev_tupS (st1 := z.S) ?_ (by show 5 ≤ LIM; unfold LIM; omega)))
        show evA pg (callN pg (d + 1 + 2)) _ [.v z.me, .v (sD s), .v (.int (p.1 : Int)), .v (.int (p.2 : Int)), .v (oD cm), .v (oD ls)] z.S = _
        refine evA_consS (st1 := z.S) (fun _ h => nomatch h) rfl (evA_consS (st1 := z.S) (fun _ h => nomatch h) rfl (evA_consS (st1 := z.S) (fun _ h => nomatch h) rfl (evA_consS (st1 := z.S) (fun _ h => nomatch h) ?_ (evA_consS (st1 := z.S) (fun _ h => nomatch h) ?_ rfl))))
        · exact ev_cmS (x := z.me) (f := 14) (ds := [oD cm]) (st1 := z.S) rfl (cls0 z) rfl rfl hp1
        · exact ev_cmS (x := z.me) (f := 14) (ds := [oD ls]) (st1 := z.S) rfl (cls0 z) rfl rfl hp2
end K77
end ZK77v
section ZK77w
set_option Elab.async false
set_option linter.all false
set_option maxRecDepth 100000
set_option maxHeartbeats 400000
namespace K77
open PySem PD
/-! table -/
section
variable {P : Prog} {cf : Calls} {env env' : PD.Env} {st st1 st2 : Store}
theorem evA_starS {x r : PD.X} {d ds : List D} (h : evIt P cf x env st = .ok d st1) (h2 : evA P cf r env st1 = .ok ds st2) : evA P cf (.cons (.star x) r) env st = .ok (d ++ ds) st2 := by
  show bnd (evIt P cf x env) _ st = _
  rw [bnd_ok h]
  show bnd (evA P cf r env) _ st1 = _
  rw [bnd_ok h2]; rfl
end
def rowD (p : St3 × Nat) : D := .tup [sD p.1, .int (p.2 : Int)]
theorem rows_plain : ∀ R : List (St3 × Nat), D.plainAll (R.map rowD) = true ∧ D.depthAll (R.map rowD) ≤ 3
  | [] => ⟨rfl, Nat.zero_le _⟩
  | p :: R => by
    obtain ⟨h1, h2⟩ := rows_plain R
    refine ⟨?_, ?_⟩
    · show (((sD p.1).plain && true) && D.plainAll (R.map rowD)) = true
      rw [plain_sD, h1]; rfl
    · show max (max (sD p.1).depth 0 + 1) (D.depthAll (R.map rowD)) ≤ 3
      rw [depth_sD]; omega
theorem alike_ints : ∀ as bs : List Int, PySem.W.alikeAll (D.pys (inD as)) (D.pys (inD bs)) = true
  | [], bs => by cases bs <;> rfl
  | a :: as, [] => rfl
  | a :: as, b :: bs => by
    show (true && PySem.W.alikeAll (D.pys (inD as)) (D.pys (inD bs))) = true
    rw [alike_ints as bs]; rfl
theorem alike_rows (p q : St3 × Nat) : PySem.W.alike (rowD p).py (rowD q).py = true := by
  show ((true && (true && (PySem.W.alikeAll (D.pys (inD p.1.2.2)) (D.pys (inD q.1.2.2)) && true))) && (true && true)) = true
  rw [alike_ints]; rfl
theorem rows_ok (R : List (St3 × Nat)) (hl : R.length ≤ LIM) : rowsOk (R.map rowD) = true := by
  obtain ⟨h1, h2⟩ := rows_plain R
  unfold rowsOk
  have h3 : D.eqOk (.lst (R.map rowD)) = true := by
    show (D.plainAll (R.map rowD) && decide (D.depthAll (R.map rowD) + 1 ≤ 60)) = true
    rw [h1, Bool.true_and, decide_eq_true_eq]; omega
  have h4 : ((R.map rowD).all fun a => (R.map rowD).all fun b => PySem.W.alike a.py b.py) = true := by
    simp only [List.all_eq_true, List.mem_map]
    rintro a ⟨p, _, rfl⟩ b ⟨q, _, rfl⟩
    exact alike_rows p q
  have h5 : ((R.map rowD).all fun d => match d with | .tup (_ :: _) => true | _ => false) = true := by
    simp only [List.all_eq_true, List.mem_map]
    rintro a ⟨p, _, rfl⟩
    rfl
  rw [h1, h3, h4]
  simp only [Bool.true_and, Bool.and_eq_true, decide_eq_true_eq]
  exact ⟨h5, by rw [List.length_map]; exact hl⟩
theorem table_ev (n : Nat) (z : LS) (hT : z.T.length ≤ 81000) (hL : z.L.length ≤ 81000) : ∃ td, callN pg (n + 2) 15 [z.me] z.S = .ok td z.S := by
  have hk5 : evE pg (callN pg (n + 1)) (.call 5 (.cons (.fld (.var 0) 1) .nil)) [.v z.me, .no, .no] z.S = .ok (.bl (decide (z.b.1 = z.b.2.1))) z.S :=
    ev_callS (st1 := z.S) (ds := [sD z.b]) (evA_consS (fun _ h => nomatch h) (ev_fld (z := z) rfl rfl) rfl) (congrFun (known_ev n z.b.1 z.b.2.1 z.b.2.2) z.S)
  by_cases hk : z.b.1 = z.b.2.1
  · refine ⟨.tup [.tup [sD z.b, .int 0]], runF_rtS (P := pg) (cf := callN pg (n + 1)) (fd := ⟨1, 3, t15⟩) (ds := [z.me]) rfl ?_⟩
    show evB pg (callN pg (n + 1)) t15 [.v z.me, .no, .no] z.S = _
    unfold t15
    refine evB_rtS ((ev_ifS hk5).trans ?_)
    rw [decide_eq_true hk, if_pos rfl]
    have h1 : evE pg (callN pg (n + 1)) (.tup (.cons (.fld (.var 0) 1) (.cons (.lit (.int 0)) .nil))) [.v z.me, .no, .no] z.S = .ok (.tup [sD z.b, .int 0]) z.S :=
      ev_tupS (ds := [sD z.b, .int 0]) (evA_consS (by intro _ h; exact nomatch h) (ev_fld (z := z) rfl rfl) rfl) (by show 2 ≤ LIM; unfold LIM; omega)
    exact evB_rtS (ev_rtS (ev_tupS (ds := [.tup [sD z.b, .int 0]]) (evA_consS (by intro _ h; exact nomatch h) h1 rfl) (by show 1 ≤ LIM; unfold LIM; omega)))
  · refine ⟨.tup (sortRows ((z.T ++ z.L.map fun s => (s, z.t)).map rowD)), runF_rtS (P := pg) (cf := callN pg (n + 1)) (fd := ⟨1, 3, t15⟩) (ds := [z.me]) rfl ?_⟩
    show evB pg (callN pg (n + 1)) t15 [.v z.me, .no, .no] z.S = _
    unfold t15
    rw [evB_nxS (env' := [.v z.me, .no, .no]) (st1 := z.S) ((ev_ifS hk5).trans (by rw [decide_eq_false hk]; rfl))]
    have hit : evIt pg (callN pg (n + 1)) (.items (.fld (.var 0) 2)) [.v z.me, .no, .no] z.S = .ok (z.T.map rowD) z.S := by
      show bnd (evE pg (callN pg (n + 1)) (.fld (.var 0) 2) [.v z.me, .no, .no]) (fun x => bnd (vw x) fun x => match x with
        | .dct kvs => if headTup kvs then PD.ret (kvs.map fun p => D.tup [p.1, p.2]) else fail
        | _ => fail) z.S = _
      rw [bnd_ok (ev_fld (z := z) rfl rfl), bnd_ok (vwT z)]
      show (if headTup (kvT z.T) then PD.ret ((kvT z.T).map fun p => D.tup [p.1, p.2]) else fail) z.S = _
      have hh : headTup (kvT z.T) = true := head_kv _
      rw [if_pos hh]
      unfold kvT kv
      rw [List.map_map, List.map_map]; rfl
    have hlc := ev_lcS (P := pg) (cf := callN pg (n + 1)) (env := [.v z.me, .no, .no]) (st := z.S) (own := [2]) (tg := .tv 2) (it := .src (.fld (.var 0) 4)) (t := .lit (.bl true)) (elt := .tup (.cons (.var 2) (.cons (.fld (.var 0) 5) .nil))) sD (fun s => some (rowD (s, z.t))) (ev_srcS (ev_fld (z := z) rfl rfl) rfl) (by unfold LIM; omega) fun s _ => by
      show bnd (evE pg (callN pg (n + 1)) (.tup (.cons (.var 2) (.cons (.fld (.var 0) 5) .nil))) [.v z.me, .no, .v (sD s)]) _ z.S = _
      rw [bnd_ok (ev_tupS (ds := [sD s, .int (z.t : Int)]) (st1 := z.S) (evA_consS (st1 := z.S) (by intro _ h; exact nomatch h) rfl (evA_consS (by intro _ h; exact nomatch h) (ev_fld (z := z) rfl rfl) rfl)) (by show 2 ≤ LIM; unfold LIM; omega))]
      rfl
    rw [filterMap_some] at hlc
    have hlst : evE pg (callN pg (n + 1)) (.lst (.cons (.star (.items (.fld (.var 0) 2))) (.cons (.star (.src (.lc [2] (.tv 2) (.src (.fld (.var 0) 4)) (.lit (.bl true)) (.tup (.cons (.var 2) (.cons (.fld (.var 0) 5) .nil)))))) .nil))) [.v z.me, .no, .no] z.S = .ok (.lst ((z.T ++ z.L.map fun s => (s, z.t)).map rowD)) z.S := by
      have := ev_lstS (evA_starS hit (evA_starS (ev_srcS hlc rfl) (r := .nil) (ds := []) (st2 := z.S) rfl)) (by
        simp only [List.append_nil, List.length_append, List.length_map]; unfold LIM; omega)
      rw [this]
      simp [Function.comp_def]
    rw [evB_nxS (ev_asgS hlst)]
    show evB pg (callN pg (n + 1)) _ [.v z.me, .v (.lst ((z.T ++ z.L.map fun s => (s, z.t)).map rowD)), .no] z.S = _
    refine evB_rtS (ev_rtS (ev_bif1S (d := .lst (sortRows ((z.T ++ z.L.map fun s => (s, z.t)).map rowD))) (ev_bif1S (d := .lst ((z.T ++ z.L.map fun s => (s, z.t)).map rowD)) rfl rfl ?_) rfl rfl))
    show (if rowsOk _ then some _ else none) = _
    rw [rows_ok _ (by rw [List.length_append, List.length_map]; unfold LIM; omega), if_pos rfl]
/-! values -/
/-- an error as an answer -/
def xc {α : Type} (k : Nat) (v : D) : M α := fun st => .exc k v st
def shp : D → Bool
  | .ref _ | .scr _ => false
  | .dct [] | .dct ((.str _, _) :: _) => true
  | .dct _ => false
  | _ => true
def asW : D → Bool
  | .str w => w.cps.all fun c => decide (c < 1114112)
  | _ => true
def intB : D → Bool
  | .int _ => true
  | _ => false
def strB : D → Bool
  | .str _ => true
  | _ => false
def tupB : D → Bool
  | .tup _ => true
  | _ => false
def numB : D → Int → Int → Bool
  | .int i, lo, hi => decide (lo ≤ i) && decide (i ≤ hi)
  | _, _, _ => false
def isW : D → Bool
  | .str w => decide (w = ("both" : Str)) || decide (w = ("out" : Str))
  | _ => false
theorem shp_nr {d : D} (h : shp d = true) : ∀ i, d ≠ .ref i := fun i e => by subst e; exact nomatch h
theorem isint_ev (n : Nat) {d : D} (h : shp d = true) : callN pg (n + 1) 0 [d] = PD.ret (.bl (intB d)) := by
  match d, h with
  | .non, _ => rfl
  | .bl b, _ => rfl
  | .int i, _ => rfl
  | .str x, _ => rfl
  | .tup ds, _ => rfl
  | .lst ds, _ => rfl
  | .dct [], _ => rfl
  | .dct ((.str x, y) :: r), _ => rfl
theorem istup_ev {P : Prog} {cf : Calls} {env : PD.Env} {x : PD.X} {d : D} (hx : evE P cf x env = PD.ret d) (h : shp d = true) : evE P cf (.bif (.isi .tuple) (.cons x .nil)) env = PD.ret (.bl (tupB d)) := by
  refine ev_bif1 hx (shp_nr h) ?_
  match d, h with
  | .non, _ => rfl
  | .bl b, _ => rfl
  | .int i, _ => rfl
  | .str x, _ => rfl
  | .tup ds, _ => rfl
  | .lst ds, _ => rfl
  | .dct [], _ => rfl
  | .dct ((.str x, y) :: r), _ => rfl
theorem isstr_ev {P : Prog} {cf : Calls} {env : PD.Env} {x : PD.X} {d : D} (hx : evE P cf x env = PD.ret d) (h : shp d = true) : evE P cf (.bif (.isi .str) (.cons x .nil)) env = PD.ret (.bl (strB d)) := by
  refine ev_bif1 hx (shp_nr h) ?_
  match d, h with
  | .non, _ => rfl
  | .bl b, _ => rfl
  | .int i, _ => rfl
  | .str x, _ => rfl
  | .tup ds, _ => rfl
  | .lst ds, _ => rfl
  | .dct [], _ => rfl
  | .dct ((.str x, y) :: r), _ => rfl
section
variable {P : Prog} {cf : Calls} {env : PD.Env} {a b : PD.X} {x y : Bool}
theorem ev_and2 (h1 : evE P cf a env = PD.ret (.bl x)) (h2 : x = true → evE P cf b env = PD.ret (.bl y)) : evE P cf (.and_ (.cons a (.cons b .nil))) env = PD.ret (.bl (x && y)) := by
  show bnd (bnd (evE P cf a env) blD) (fun k => if k then evE P cf b env else PD.ret (.bl false)) = _
  rw [h1]
  cases x with
  | true => exact h2 rfl
  | false => rfl
theorem ev_not (h1 : evE P cf a env = PD.ret (.bl x)) : evE P cf (.not_ a) env = PD.ret (.bl (!x)) := by
  show bnd (bnd (evE P cf a env) blD) _ = _
  rw [h1]; rfl
theorem ev_lele {e1 e2 e3 : PD.X} {i lo hi : Int} (h1 : evE P cf e1 env = PD.ret (.int lo)) (h2 : evE P cf e2 env = PD.ret (.int i)) (h3 : evE P cf e3 env = PD.ret (.int hi)) : evE P cf (.cmp2 .le .le e1 e2 e3) env = PD.ret (.bl (decide (lo ≤ i) && decide (i ≤ hi))) := by
  show bnd (evE P cf e1 env) (fun x => bnd (evE P cf e2 env) fun y => bnd (opt (cmpD .le x y)) fun r =>
      if r then bnd (evE P cf e3 env) fun z => bnd (opt (cmpD .le y z)) fun r => PD.ret (D.bl r) else PD.ret (D.bl false)) = _
  rw [h1, h2]
  show (if decide (lo ≤ i) then bnd (evE P cf e3 env) fun z => bnd (opt (cmpD .le (.int i) z)) fun r => PD.ret (D.bl r) else PD.ret (.bl false)) = _
  cases decide (lo ≤ i) with
  | false => rfl
  | true =>
    rw [if_pos rfl, h3]; rfl
theorem ev_ifx {t b b' : PD.X} {c : Bool} (h : evE P cf t env = PD.ret (.bl c)) : evS P cf (.ifx t b b') env = if c then evB P cf b env else evB P cf b' env := by
  show bnd (noX (bnd (evE P cf t env) blD)) _ = _
  rw [h]; rfl
theorem ev_raise {k : Nat} {e : PD.X} {d : D} (h : evE P cf e env = PD.ret d) : evS P cf (.raise k e) env = xc k d := by
  show bnd (noX (evE P cf e env)) _ = _
  rw [h]; rfl
theorem evB_xc {s b : PD.X} {k : Nat} {d : D} (h : evS P cf s env = xc k d) : evB P cf (.cons s b) env = xc k d := by
  show bnd (evS P cf s env) _ = _
  rw [h]; rfl
theorem runF_xc {fd : FD} {ds : List D} {k : Nat} {d : D} (hl : ds.length = fd.np) (h : evB P cf fd.body (ds.map .v ++ List.replicate (fd.ns - fd.np) .no) = xc k d) : runF P cf fd ds = xc k d := by
  unfold runF
  rw [if_pos hl, h]; rfl
theorem runF_nx {fd : FD} {ds : List D} {env' : PD.Env} (hl : ds.length = fd.np) (h : evB P cf fd.body (ds.map .v ++ List.replicate (fd.ns - fd.np) .no) = PD.ret (.nx env')) : runF P cf fd ds = PD.ret .non := by
  unfold runF
  rw [if_pos hl, h]; rfl
end
theorem btw_ev (n : Nat) {d : D} (h : shp d = true) (lo hi : Int) : callN pg (n + 2) 1 [d, .int lo, .int hi] = PD.ret (.bl (numB d lo hi)) := by
  refine runF_rt (P := pg) (cf := callN pg (n + 1)) (fd := ⟨3, 3, t1⟩) (ds := [d, .int lo, .int hi]) rfl ?_
  refine evB_rt (ev_rt ?_)
  have h1 : evE pg (callN pg (n + 1)) (.call 0 (.cons (.var 0) .nil)) [.v d, .v (.int lo), .v (.int hi)] = PD.ret (.bl (intB d)) := ev_call (ds := [d]) rfl (isint_ev n h)
  have e := ev_and2 (y := numB d lo hi) (b := .cmp2 .le .le (.var 1) (.var 0) (.var 2)) h1 fun hi' => by
    cases d with
    | int i => exact ev_lele rfl rfl rfl
    | _ => exact absurd hi' (by simp [intB])
  refine e.trans ?_
  cases d <;> rfl
theorem num_ev (n : Nat) {d : D} (h : shp d = true) (lo hi : Int) : callN pg (n + 1) 22 [d, .int lo, .int hi] = PD.ret (.bl (numB d lo hi)) := by
  match d, h with
  | .non, _ => rfl
  | .bl b, _ => rfl
  | .str x, _ => rfl
  | .tup ds, _ => rfl
  | .lst ds, _ => rfl
  | .dct [], _ => rfl
  | .dct ((.str x, y) :: r), _ => rfl
  | .int i, _ =>
    refine runF_rt (P := pg) (cf := callN pg n) (fd := ⟨3, 3, t22⟩) (ds := [.int i, .int lo, .int hi]) rfl ?_
    refine evB_rt (ev_rt ?_)
    show evE pg (callN pg n) (.cmp2 .le .le (.var 1) (.var 0) (.var 2)) [.v (.int i), .v (.int lo), .v (.int hi)] = _
    exact ev_lele rfl rfl rfl
theorem isword_ev (n : Nat) {d : D} (h : shp d = true) (h2 : asW d = true) : callN pg (n + 1) 2 [d, .tup [.str "both", .str "out"]] = PD.ret (.bl (isW d)) := by
  refine runF_rt (P := pg) (cf := callN pg n) (fd := ⟨2, 2, t2⟩) (ds := [d, .tup [.str "both", .str "out"]]) rfl ?_
  refine evB_rt (ev_rt ?_)
  have e := ev_and2 (P := pg) (y := isW d) (a := .bif (.isi .str) (.cons (.var 0) .nil)) (b := .cmp .in_ (.var 0) (.var 1)) (isstr_ev (cf := callN pg n) (env := [.v d, .v (.tup [.str "both", .str "out"])]) rfl h) fun hi' => by
    cases d with
    | str w =>
      refine ev_cmp (d := .str w) (e := .tup [.str "both", .str "out"]) rfl rfl (fun _ z => nomatch z) (fun _ z => nomatch z) ?_
      have h1 : (D.str w).eqOk = true := by
        have h2' : w.cps.all (fun c => decide (c < 1114112)) = true := h2
        unfold D.eqOk
        simp only [D.plain, D.depth, h2', Bool.true_and]
        rfl
      have h3 : (D.tup [.str "both", .str "out"]).eqOk = true := by decide +kernel
      show (if (D.str w).eqOk && (D.tup [.str "both", .str "out"]).eqOk then some ([D.str "both", .str "out"].any fun z => z.eqv (.str w)) else none) = _
      rw [h1, h3]
      show some ((("both" : Str) == w) || ((("out" : Str) == w) || false)) = some (decide (w = ("both" : Str)) || decide (w = ("out" : Str)))
      rw [Bool.or_false, Bool.beq_comm, Bool.beq_comm (a := ("out" : Str))]
      congr 1
    | _ => exact absurd hi' (by simp [strB])
  refine e.trans ?_
  cases d <;> rfl
/-- what check_asked tells -/
def chkR (a b c w : D) : Option (Nat × D) := if numB a 1 8 then (match a with
    | .int i => if numB b i 8 then (if numB c 1 3 then (if isW w then none else some (2, w)) else some (1, c)) else some (1, b)
    | _ => some (1, a)) else some (1, a)
def chkM (o : Option (Nat × D)) : M D := match o with
  | none => PD.ret .non
  | some (k, v) => xc k v
theorem check_ev (n : Nat) {a b c w : D} (ha : shp a = true) (hb : shp b = true) (hc : shp c = true) (hw : shp w = true) (hw2 : asW w = true) : callN pg (n + 3) 16 [a, b, c, w] = chkM (chkR a b c w) := by
  have e1 : evE pg (callN pg (n + 2)) (.not_ (.call 1 (.cons (.var 0) (.cons (.lit (.int 1)) (.cons (.glob 0) .nil))))) [.v a, .v b, .v c, .v w] = PD.ret (.bl (!numB a 1 8)) := ev_not (ev_call (ds := [a, .int 1, .int 8]) rfl (btw_ev n ha 1 8))
  have e3 : evE pg (callN pg (n + 2)) (.not_ (.call 1 (.cons (.var 2) (.cons (.lit (.int 1)) (.cons (.glob 2) .nil))))) [.v a, .v b, .v c, .v w] = PD.ret (.bl (!numB c 1 3)) := ev_not (ev_call (ds := [c, .int 1, .int 3]) rfl (btw_ev n hc 1 3))
  have e4 : evE pg (callN pg (n + 2)) (.not_ (.call 2 (.cons (.var 3) (.cons (.glob 3) .nil)))) [.v a, .v b, .v c, .v w] = PD.ret (.bl (!isW w)) := ev_not (ev_call (ds := [w, .tup [.str "both", .str "out"]]) rfl (isword_ev (n + 1) hw hw2))
  have hgo : ∀ {m : M D}, (m = runF pg (callN pg (n + 2)) ⟨4, 4, t16⟩ [a, b, c, w]) → m = chkM (chkR a b c w) := fun {m} hm => by
    rw [hm]
    unfold chkR
    by_cases k1 : numB a 1 8 = true
    · rw [if_pos k1]
      rw [k1] at e1
      cases a with
      | int i =>
        have e2 : evE pg (callN pg (n + 2)) (.not_ (.call 1 (.cons (.var 1) (.cons (.var 0) (.cons (.glob 0) .nil))))) [.v (.int i), .v b, .v c, .v w] = PD.ret (.bl (!numB b i 8)) := ev_not (ev_call (ds := [b, .int i, .int 8]) rfl (btw_ev n hb i 8))
        by_cases k2 : numB b i 8 = true
        · rw [k2] at e2
          dsimp only
          rw [if_pos k2]
          by_cases k3 : numB c 1 3 = true
          · rw [k3] at e3
            rw [if_pos k3]
            by_cases k4 : isW w = true
            · rw [k4] at e4
              rw [if_pos k4]
              refine runF_nx (env' := [.v (.int i), .v b, .v c, .v w]) rfl ?_
              show evB pg (callN pg (n + 2)) t16 [.v (.int i), .v b, .v c, .v w] = _
              unfold t16
              rw [evB_nx ((ev_ifx e1).trans rfl), evB_nx ((ev_ifx e2).trans rfl), evB_nx ((ev_ifx e3).trans rfl), evB_nx ((ev_ifx e4).trans rfl)]
              rfl
            · rw [if_neg k4]
              rw [Bool.eq_false_iff.mpr k4] at e4
              refine runF_xc rfl ?_
              show evB pg (callN pg (n + 2)) t16 [.v (.int i), .v b, .v c, .v w] = _
              unfold t16
              rw [evB_nx ((ev_ifx e1).trans rfl), evB_nx ((ev_ifx e2).trans rfl), evB_nx ((ev_ifx e3).trans rfl)]
              exact evB_xc ((ev_ifx e4).trans (evB_xc (ev_raise rfl)))
          · rw [if_neg k3]
            rw [Bool.eq_false_iff.mpr k3] at e3
            refine runF_xc rfl ?_
            show evB pg (callN pg (n + 2)) t16 [.v (.int i), .v b, .v c, .v w] = _
            unfold t16
            rw [evB_nx ((ev_ifx e1).trans rfl), evB_nx ((ev_ifx e2).trans rfl)]
            exact evB_xc ((ev_ifx e3).trans (evB_xc (ev_raise rfl)))
        · dsimp only
          rw [if_neg k2]
          rw [Bool.eq_false_iff.mpr k2] at e2
          refine runF_xc rfl ?_
          show evB pg (callN pg (n + 2)) t16 [.v (.int i), .v b, .v c, .v w] = _
          unfold t16
          rw [evB_nx ((ev_ifx e1).trans rfl)]
          exact evB_xc ((ev_ifx e2).trans (evB_xc (ev_raise rfl)))
      | _ => exact absurd k1 (by simp [numB])
    · rw [if_neg k1]
      rw [Bool.eq_false_iff.mpr k1] at e1
      refine runF_xc rfl ?_
      show evB pg (callN pg (n + 2)) t16 [.v a, .v b, .v c, .v w] = _
      unfold t16
      exact evB_xc ((ev_ifx e1).trans (evB_xc (ev_raise rfl)))
  exact hgo rfl
theorem word_ok {w : Str} (h : w = "both" ∨ w = "out") : w.cps.all (fun c => decide (c < 1114112)) = true := by
  rcases h with rfl | rfl <;> decide +kernel
theorem isW_of {w : Str} (h : w = "both" ∨ w = "out") : isW (.str w) = true := by
  show (decide (w = ("both" : Str)) || decide (w = ("out" : Str))) = true
  rcases h with rfl | rfl <;> decide +kernel
theorem chk_valid (low high : Int) (k : Nat) (w : Str) (hw : w = "both" ∨ w = "out") (h1 : 1 ≤ low) (h2 : low ≤ high) (h3 : high ≤ 8) (hk : 1 ≤ k ∧ k ≤ 3) : chkR (.int low) (.int high) (.int (k : Int)) (.str w) = none := by
  unfold chkR
  have n1 : numB (.int low) 1 8 = true := by show (decide (1 ≤ low) && decide (low ≤ 8)) = true; rw [decide_eq_true h1, decide_eq_true (show low ≤ 8 by omega)]; rfl
  have n2 : numB (.int high) low 8 = true := by show (decide (low ≤ high) && decide (high ≤ 8)) = true; rw [decide_eq_true h2, decide_eq_true h3]; rfl
  have n3 : numB (.int (k : Int)) 1 3 = true := by show (decide (1 ≤ (k : Int)) && decide ((k : Int) ≤ 3)) = true; rw [decide_eq_true (show 1 ≤ (k : Int) by omega), decide_eq_true (show (k : Int) ≤ 3 by omega)]; rfl
  rw [if_pos n1]
  dsimp only
  rw [if_pos n2, if_pos n3, if_pos (isW_of hw)]
theorem ev_qS {P : Prog} {cf : Calls} {env : PD.Env} {st st1 : Store} {s : PD.X} {o : Out} (h : evS P cf s env st = .ok o st1) : evS P cf (.q s) env st = .ok o st1 := by
  show noX (evS P cf s env) st = _
  unfold noX
  rw [h]
def beg (low high : Int) (k : Nat) : St3 := (low, high, List.replicate k 0)
theorem flat0 : ∀ k : Nat, (List.replicate k [D.int 0]).flatten = inD (List.replicate k 0)
  | 0 => rfl
  | k + 1 => by
    rw [List.replicate_succ, List.flatten_cons, flat0 k]; rfl
theorem pw_rep : ∀ k : Nat, (List.replicate k (0 : Int)).Pairwise (· ≤ ·)
  | 0 => .nil
  | k + 1 => by
    rw [List.replicate_succ, List.pairwise_cons]
    exact ⟨fun a ha => by rw [List.eq_of_mem_replicate ha]; exact Int.le_refl _, pw_rep k⟩
theorem first_ev (n : Nat) (low high : Int) (k : Nat) (h0 : 0 ≤ high) (hk : 1 ≤ k ∧ k ≤ 3) : callN pg (n + 2) 4 [.int low, .int high, .int (k : Int)] = PD.ret (sD (beg low high k)) := by
  have hb : binD .mul (.tup [.int 0]) (.int (k : Int)) = some (.tup (inD (List.replicate k 0))) := by
    show (if 1 ≤ (k : Int) ∧ (k : Int) ≤ 1000 ∧ [D.int 0].length ≤ 1000 then some (D.tup (List.replicate (k : Int).toNat [D.int 0]).flatten) else none) = _
    rw [if_pos ⟨by omega, by omega, by simp⟩, Int.toNat_natCast, flat0]
  have hs := stateof_ev n low high (List.replicate k 0) (.tup (inD (List.replicate k 0))) rfl (by rw [List.length_replicate]; omega)
  have hf : (List.replicate k (0 : Int)).filter (fun a => decide (a ≤ high)) = List.replicate k 0 := List.filter_eq_self.mpr fun x hx => by
    rw [List.eq_of_mem_replicate hx]; simpa using h0
  rw [hf, PySem.W.ksm_same (sortI_perm _) (sortI_up _) (pw_rep k)] at hs
  refine runF_rt (P := pg) (cf := callN pg (n + 1)) (fd := ⟨3, 3, t4⟩) (ds := [.int low, .int high, .int (k : Int)]) rfl ?_
  refine evB_rt (ev_rt (ev_call (ds := [.int low, .int high, .tup (inD (List.replicate k 0))]) ?_ hs))
  refine evA_cons (fun _ z => nomatch z) rfl (evA_cons (fun _ z => nomatch z) rfl (evA_cons (ds := []) (fun _ z => nomatch z) ?_ rfl))
  show opt (binD .mul (.tup [.int 0]) (.int (k : Int))) = _
  rw [hb]; rfl
theorem beg_val (low high : Int) (k : Nat) (h1 : 1 ≤ low) (h2 : low ≤ high) (h3 : high ≤ 8) : Val k (beg low high k) := by
  refine ⟨by show 0 ≤ low; omega, h2, h3, by show (List.replicate k (0 : Int)).length ≤ k; simp, fun a ha => ?_, pw_rep k, fun a ha => ?_⟩
  · rw [List.eq_of_mem_replicate ha]; omega
  · rw [List.eq_of_mem_replicate ha]; show 0 ≤ high; omega
theorem plan_known (d : Nat) (z : LS) (s : St3) (hk : s.1 = s.2.1) : callN pg (d + 2) 14 [z.me, sD s] z.S = .ok (.tup [.str "known"]) z.S := by
  have hk5 : evE pg (callN pg (d + 1)) (.call 5 (.cons (.var 1) .nil)) [.v z.me, .v (sD s), .no, .no, .no, .no] z.S = .ok (.bl (decide (s.1 = s.2.1))) z.S := congrFun (known_ev d s.1 s.2.1 s.2.2) z.S
  refine runF_rtS (P := pg) (cf := callN pg (d + 1)) (fd := ⟨2, 6, t14⟩) (ds := [z.me, sD s]) rfl ?_
  show evB pg (callN pg (d + 1)) t14 [.v z.me, .v (sD s), .no, .no, .no, .no] z.S = _
  unfold t14
  rw [evB_nxS (env' := [.v z.me, .v (sD s), .no, .no, .no, .no]) (st1 := z.S) rfl]
  rw [evB_rtS (d := .tup [.str "known"]) (st1 := z.S) ((ev_ifS hk5).trans (by rw [decide_eq_true hk]; rfl))]
theorem learned_ev (d : Nat) (low high : Int) (k : Nat) (w : Str) (hw : w = "both" ∨ w = "out") (h1 : 1 ≤ low) (h2 : low ≤ high) (h3 : high ≤ 8) (hk : 1 ≤ k ∧ k ≤ 3) (B : Nat) (hB : Solv (isBoth w) B (beg low high k)) (hB9 : B ≤ 90000) (hd : (k + 1) * B + k + 8 ≤ d + 3) (st : Store) :
    ∃ (V : Nat) (pd td : D) (more : Store), callN pg (d + 7) 17 [.int low, .int high, .int (k : Int), .str w] st = .ok (.tup [.int (V : Int), pd, td]) (st ++ more) ∧ (low = high → V = 0) ∧ (low ≠ high → Solv (isBoth w) V (beg low high k) ∧ ∀ t' < V, ¬ Solv (isBoth w) t' (beg low high k)) := by
  have vb := beg_val low high k h1 h2 h3
  obtain ⟨z, F, e1, e2, e3, e4, e5⟩ := init_ev d k B hk.2 hB9 st (beg low high k) vb w (word_ok hw) hB
  have hme : z.me = .ref st.length := by unfold LS.me LS.k; rw [e1]
  have hS : z.S = st ++ [.ins 0 z.fs, .dct (kvT z.T), .dct (kvQ z.Q)] := by unfold LS.S; rw [e1]
  have key : ∃ pd td, callN pg (d + 6) 14 [z.me, sD (beg low high k)] z.S = .ok pd z.S ∧ callN pg (d + 6) 15 [z.me] z.S = .ok td z.S := by
    rcases e5 with ⟨hkn, hT, hL, ht⟩ | ⟨hkn, hF, hLI, hdis, hbk, hs, hlow⟩
    · obtain ⟨td, htd⟩ := table_ev (d + 4) z (by rw [hT]; exact Nat.zero_le _) (by rw [hL]; exact Nat.zero_le _)
      exact ⟨_, td, plan_known (d + 4) z _ hkn, htd⟩
    · have hF' : FI k (isBoth z.w) F := by rw [e2]; exact hF
      obtain ⟨td, htd⟩ := table_ev (d + 4) z (hLI.small hF) (by
        have h5 := nd_sub hLI.nl hLI.lf
        have h6 := card hF.k3 hF.nd hF.val
        omega)
      obtain ⟨v, hv⟩ := lookT_some hbk
      have hvt := (hLI.snd _ (lookT_mem hv)).2
      have htB : z.t ≤ B := by
        rcases Nat.lt_or_ge B z.t with y | y
        · exact absurd hB (hlow B y)
        · exact y
      have hmu : mu k (beg low high k) v ≤ d + 3 := by
        have h5 : (k + 1) * v ≤ (k + 1) * B := Nat.mul_le_mul_left _ (by omega)
        have h6 := nz_le (beg low high k).2.2
        have h7 : (beg low high k).2.2.length = k := by show (List.replicate k (0 : Int)).length = k; simp
        have h8 : ((beg low high k).2.1 - (beg low high k).1).toNat ≤ 8 := by show (high - low).toNat ≤ 8; omega
        unfold mu
        omega
      obtain ⟨pd, hpd⟩ := plan_ev k F z (by rw [e2]; exact word_ok hw) hLI hF' (d + 3) (some (beg low high k)) fun s hs' => by
        cases hs'
        exact .inr ⟨v, hv, hmu⟩
      exact ⟨pd, td, hpd, htd⟩
  obtain ⟨pd, td, hpd, htd⟩ := key
  refine ⟨z.t, pd, td, [.ins 0 z.fs, .dct (kvT z.T), .dct (kvQ z.Q)], ?_, ?_, ?_⟩
  · rw [← hS]
    refine runF_rtS (P := pg) (cf := callN pg (d + 6)) (fd := ⟨4, 6, t17⟩) (ds := [.int low, .int high, .int (k : Int), .str w]) rfl ?_
    show evB pg (callN pg (d + 6)) t17 [.v (.int low), .v (.int high), .v (.int (k : Int)), .v (.str w), .no, .no] st = _
    unfold t17
    have hck : callN pg (d + 6) 16 [.int low, .int high, .int (k : Int), .str w] = PD.ret .non := by
      refine (check_ev (d + 3) (a := .int low) (b := .int high) (c := .int (k : Int)) (w := .str w) rfl rfl rfl rfl (word_ok hw)).trans ?_
      rw [chk_valid low high k w hw h1 h2 h3 hk]; rfl
    rw [evB_nxS (env' := [.v (.int low), .v (.int high), .v (.int (k : Int)), .v (.str w), .no, .no]) (st1 := st) (by
      show bnd (noX (PD.ret [D.int low, .int high, .int (k : Int), .str w])) (fun ds => bnd (callN pg (d + 6) 16 ds) fun _ => PD.ret (Out.nx _)) st = _
      show bnd (callN pg (d + 6) 16 [.int low, .int high, .int (k : Int), .str w]) (fun _ => PD.ret (Out.nx _)) st = _
      rw [hck]; rfl)]
    rw [evB_nxS (ev_qS (ev_asgS (ev_callS (ds := [.int low, .int high, .int (k : Int)]) (st1 := st) rfl (congrFun (first_ev (d + 4) low high k (by omega) hk) st))))]
    have hmk : evE pg (callN pg (d + 6)) (.mk 0 (.cons (.var 4) (.cons (.var 3) .nil))) [.v (.int low), .v (.int high), .v (.int (k : Int)), .v (.str w), .v (sD (beg low high k)), .no] st = .ok z.me z.S := by
      show bnd (callN pg (d + 6) 10 [.ref st.length, sD (beg low high k), .str w]) (fun x => match x with
        | .non => PD.ret (D.ref st.length)
        | _ => fail) (st ++ [.ins 0 []]) = _
      rw [bnd_ok e4, hme]; rfl
    show evB pg (callN pg (d + 6)) _ [.v (.int low), .v (.int high), .v (.int (k : Int)), .v (.str w), .v (sD (beg low high k)), .no] st = _
    rw [evB_nxS (ev_qS (ev_asgS hmk))]
    refine evB_rtS (ev_qS (ev_rtS (ev_tupS (ds := [.int (z.t : Int), pd, td]) (st1 := z.S) ?_ (by show 3 ≤ LIM; unfold LIM; omega))))
    show evA pg (callN pg (d + 6)) _ [.v (.int low), .v (.int high), .v (.int (k : Int)), .v (.str w), .v (sD (beg low high k)), .v z.me] z.S = _
    refine evA_consS (st1 := z.S) (fun _ h => nomatch h) (ev_fld (z := z) rfl rfl) (evA_consS (st1 := z.S) (fun _ h => nomatch h) ?_ (evA_consS (st1 := z.S) (fun _ h => nomatch h) ?_ rfl))
    · exact ev_cmS (x := z.me) (f := 14) (ds := [sD (beg low high k)]) (st1 := z.S) rfl (cls0 z) rfl rfl hpd
    · exact ev_cmS (x := z.me) (f := 15) (ds := []) (st1 := z.S) rfl (cls0 z) rfl rfl htd
  · intro hlh
    rcases e5 with ⟨_, _, _, ht⟩ | ⟨hkn, _⟩
    · exact ht
    · exact absurd hlh hkn
  · intro hlh
    rcases e5 with ⟨hkn, _⟩ | ⟨_, _, _, _, _, hs, hlow⟩
    · exact absurd hkn hlh
    · exact ⟨hs, hlow⟩
end K77
end ZK77w
section ZK77x
set_option Elab.async false
set_option linter.all false
set_option maxRecDepth 100000
set_option maxHeartbeats 400000
namespace K77
open PySem PD
def sumZ (l h : Int) : Int := ((List.range (h + 1 - (l + 1)).toNat).map fun (k : Nat) => l + 1 + (k : Int)).sum
theorem sum_fin : ∀ l h : Fin 9, l.1 ≤ h.1 → 2 * sumZ (l.1 : Int) (h.1 : Int) = (h.1 : Int) * ((h.1 : Int) + 1) - (l.1 : Int) * ((l.1 : Int) + 1) := by decide +kernel
theorem sum_cf {l h : Int} (h0 : 0 ≤ l) (h1 : l ≤ h) (h2 : h ≤ 8) : 2 * sumZ l h = h * (h + 1) - l * (l + 1) := by
  have := sum_fin ⟨l.toNat, by omega⟩ ⟨h.toNat, by omega⟩ (by show l.toNat ≤ h.toNat; omega)
  simp only [Int.toNat_of_nonneg h0, Int.toNat_of_nonneg (show 0 ≤ h by omega)] at this
  exact this
theorem sum_hi_fin : ∀ l h : Fin 9, 1 ≤ l.1 → l.1 < h.1 → h.1 ≤ l.1 + 3 → (h.1 : Int) ≤ sumZ (l.1 : Int) (h.1 : Int) ∧ sumZ (l.1 : Int) (h.1 : Int) ≤ 21 := by decide +kernel
theorem sum_fin2 : ∀ l h : Fin 9, 1 ≤ l.1 → l.1 < h.1 → (h.1 : Int) ≤ sumZ (l.1 : Int) (h.1 : Int) := by decide +kernel
theorem sum_hi {l h : Int} (h0 : 1 ≤ l) (h1 : l < h) (h2 : h ≤ 8) : h ≤ sumZ l h := by
  have := sum_fin2 ⟨l.toNat, by omega⟩ ⟨h.toNat, by omega⟩ (by show 1 ≤ l.toNat; omega) (by show l.toNat < h.toNat; omega)
  simp only [Int.toNat_of_nonneg (show 0 ≤ l by omega), Int.toNat_of_nonneg (show 0 ≤ h by omega)] at this
  exact this
theorem sum_hi3 {l h : Int} (h0 : 1 ≤ l) (h1 : l < h) (h2 : h ≤ 8) (h3 : h ≤ l + 3) : sumZ l h ≤ 21 := by
  have := sum_hi_fin ⟨l.toNat, by omega⟩ ⟨h.toNat, by omega⟩ (by show 1 ≤ l.toNat; omega) (by show l.toNat < h.toNat; omega) (by show h.toNat ≤ l.toNat + 3; omega)
  simp only [Int.toNat_of_nonneg (show 0 ≤ l by omega), Int.toNat_of_nonneg (show 0 ≤ h by omega)] at this
  exact this.2
theorem cn_rep : ∀ k : Nat, cn 0 (List.replicate k 0) = k
  | 0 => rfl
  | k + 1 => by
    rw [List.replicate_succ]
    show 1 + cn 0 (List.replicate k 0) = k + 1
    rw [cn_rep k]; omega
theorem beg_up {low high : Int} {k : Nat} (c : Bool) (h1 : 1 ≤ low) (h2 : low < high) (h3 : high ≤ 8) (hk : 1 ≤ k) : Solv c (sumZ low high).toNat (beg low high k) := by
  have hs := sum_cf (show 0 ≤ low by omega) (show low ≤ high by omega) h3
  have hh := sum_hi h1 h2 h3
  refine up_one c (high - low).toNat (beg low high k) 0 _ (by show high - low = _; omega) (by show 0 ≤ low; omega) h3 (List.mem_replicate.mpr ⟨by omega, rfl⟩) (Int.le_refl _) (by show 0 ≤ low + 1; omega) (fun _ => ?_) (fun _ => ?_)
  · show high * (high + 1) - low * (low + 1) ≤ 2 * (((sumZ low high).toNat : Int) + 0)
    omega
  · show high ≤ ((sumZ low high).toNat : Int) + 0
    omega
/-- no wait longer than the level -/
def Shrt (low high : Int) (k : Nat) : Prop := low = high ∨ (k ≤ 2 ∧ high ≤ low + 3)
theorem learned_ok (low high : Int) (k : Nat) (w : Str) (hw : w = "both" ∨ w = "out") (h1 : 1 ≤ low) (h2 : low ≤ high) (h3 : high ≤ 8) (hk : 1 ≤ k ∧ k ≤ 3) (hs : Shrt low high k) (st : Store) :
    ∃ (v : D) (more : Store), callN pg 87 17 [.int low, .int high, .int (k : Int), .str w] st = .ok v (st ++ more) := by
  have hB : ∃ B : Nat, Solv (isBoth w) B (beg low high k) ∧ B ≤ 90000 ∧ (k + 1) * B + k + 8 ≤ 80 + 3 := by
    by_cases hlh : low = high
    · refine ⟨0, .known hlh, by omega, by omega⟩
    · rcases hs with hs | ⟨hs, hs2⟩
      · exact absurd hs hlh
      · have a1 := sum_hi3 h1 (show low < high by omega) h3 hs2
        have a2 := sum_hi h1 (show low < high by omega) h3
        refine ⟨(sumZ low high).toNat, beg_up _ h1 (by omega) h3 hk.1, by omega, ?_⟩
        have e : (k + 1) * (sumZ low high).toNat ≤ (k + 1) * 21 := Nat.mul_le_mul_left _ (by omega)
        have : k = 1 ∨ k = 2 := by omega
        rcases this with rfl | rfl <;> omega
  obtain ⟨B, b1, b2, b3⟩ := hB
  obtain ⟨V, pd, td, more, e1, _, _⟩ := learned_ev 80 low high k w hw h1 h2 h3 hk B b1 b2 b3 st
  exact ⟨_, more, e1⟩
end K77
end ZK77x
section ZK77y
set_option Elab.async false
set_option linter.all false
set_option maxRecDepth 100000
set_option maxHeartbeats 400000
set_option exponentiation.threshold 5000
namespace K77
open PySem PD
/-! the jar -/
def Jar (N j : Nat) (st : Store) : Prop := ∃ a b c : Int, st[j]? = some (.lst [.int a, .int b, .int c]) ∧ 0 ≤ b ∧ b < 2305843009213693921 ∧ 0 ≤ c ∧ c ≤ N ∧ st[0]? = some O.tbl
theorem Jar.tab {N j : Nat} {st : Store} (h : Jar N j st) : st[0]? = some O.tbl := let ⟨_, _, _, _, _, _, _, _, h0⟩ := h; h0
theorem Jar.app {N j : Nat} {st : Store} (h : Jar N j st) (more : Store) : Jar N j (st ++ more) := by
  obtain ⟨a, b, c, h1, h2, h3, h4, h5, h0⟩ := h
  refine ⟨a, b, c, ?_, h2, h3, h4, h5, ?_⟩
  · rw [List.getElem?_append_left (List.getElem?_eq_some_iff.mp h1).1]
    exact h1
  · rw [List.getElem?_append_left (List.getElem?_eq_some_iff.mp h0).1]
    exact h0
theorem Jar.mono {N M j : Nat} {st : Store} (h : Jar N j st) (hm : N ≤ M) : Jar M j st := by
  obtain ⟨a, b, c, h1, h2, h3, h4, h5, h0⟩ := h
  exact ⟨a, b, c, h1, h2, h3, h4, by omega, h0⟩
theorem tab_set {st : Store} {j : Nat} {ds : List D} {o : O} (h0 : st[0]? = some O.tbl) (h1 : st[j]? = some (.lst ds)) : (st.set j o)[0]? = some O.tbl := by
  have hj : j ≠ 0 := fun e => by subst e; rw [h0] at h1; exact nomatch h1
  rw [List.getElem?_set_ne hj]; exact h0
theorem vwJ {j : Nat} {st : Store} {ds : List D} (h : st[j]? = some (.lst ds)) : vw (.ref j) st = .ok (.lst ds) st := by
  show Res.ok (match st[j]? with
    | some (.lst ds) => D.lst ds
    | some (.dct kvs) => .dct kvs
    | _ => .ref j) st = _
  rw [h]
theorem jx {cf : Calls} {env : PD.Env} {j : Nat} {st : Store} {ds : List D} {i : Int} {r : D} (h0 : evE pg cf (.var 0) env st = .ok (.ref j) st) (h : st[j]? = some (.lst ds)) (hi : atI ds i = some r) : evE pg cf (.idx (.var 0) (.lit (.int i))) env st = .ok r st :=
  ev_idxS h0 (e := .int i) (st2 := st) rfl (vwJ h) hi
theorem setJ {cf : Calls} {env : PD.Env} {j : Nat} {st : Store} {ds : List D} {ii : Int} (i : Nat) {e : PD.X} {r : D} (hii : ii = (i : Int)) (h0 : ∀ st, evE pg cf (.var 0) env st = .ok (.ref j) st) (h : st[j]? = some (.lst ds)) (hi : i < ds.length) (he : evE pg cf e env st = .ok r st) : evS pg cf (.setI (.var 0) (.lit (.int ii)) e) env st = .ok (.nx env) (st.set j (.lst (ds.set i r))) := by
  subst hii
  show bnd (evE pg cf e env) (fun d => bnd (evE pg cf (.var 0) env) fun x => bnd (PD.ret (D.int (i : Int))) fun k => bnd (wrI k d x) fun _ => PD.ret (Out.nx env)) st = _
  rw [bnd_ok he, bnd_ok (h0 st), bnd_ret]
  have hwr : wrI (.int (i : Int)) r (.ref j) st = .ok () (st.set j (.lst (ds.set i r))) := by
    show (match st[j]? with
      | some (.lst ds) => (match ixN ds.length (i : Int) with
          | some j' => Res.ok () (st.set j (.lst (ds.set j' r)))
          | none => .bad)
      | some (.dct kvs) => if dKey (.int (i : Int)) kvs && decide (kvs.length < LIM) then Res.ok () (st.set j (.dct (putK (.int (i : Int)) r kvs))) else .bad
      | _ => .bad) = _
    rw [h]
    show (match ixN ds.length (i : Int) with
          | some j' => Res.ok () (st.set j (.lst (ds.set j' r)))
          | none => .bad) = _
    rw [ixN_nat hi]
  rw [bnd_ok hwr]; rfl
theorem at_set {j : Nat} {st : Store} {o o' : O} (h : st[j]? = some o) : (st.set j o')[j]? = some o' := by
  rw [List.getElem?_set_self (List.getElem?_eq_some_iff.mp h).1]
theorem binS {cf : Calls} {env : PD.Env} {st : Store} {o : Bop} {x y : PD.X} {i j : Int} {r : D} (h : evE pg cf x env st = .ok (.int i) st) (h2 : evE pg cf y env st = .ok (.int j) st) (hc : binD o (.int i) (.int j) = some r) : evE pg cf (.bin o x y) env st = .ok r st := ev_binS h h2 ne_int ne_int hc
theorem intS {cf : Calls} {env : PD.Env} {st : Store} {x : PD.X} {i : Int} (h : evE pg cf x env st = .ok (.int i) st) : evE pg cf (.bif .int (.cons x .nil)) env st = .ok (.int i) st := ev_bif1S h rfl rfl
theorem mod_some {i j : Int} (h : 0 < j) : binD .mod (.int i) (.int j) = some (.int (i % j)) := by
  show (if 0 < j then some (D.int (i % j)) else none) = _
  rw [if_pos h]
theorem div_some {i j : Int} (h : 0 < j) (h2 : j < 1073741824) : binD .fdiv (.int i) (.int j) = some (.int (i / j)) := by
  show (if 0 < j ∧ j < 1073741824 then some (D.int (i / j)) else none) = _
  rw [if_pos ⟨h, h2⟩]
theorem mul_some {i j : Int} (h : -(2 ^ 64) < j ∧ j < 2 ^ 64) : binD .mul (.int i) (.int j) = some (.int (i * j)) := by
  show (if gMul i j then some (D.int (i * j)) else none) = _
  rw [if_pos (by unfold gMul; rw [decide_eq_true h, Bool.or_true])]
theorem pow_some {i : Int} {j : Int} (h : 0 ≤ j ∧ j ≤ 1000) (h2 : i.natAbs < 2 ^ 4000) : binD .pow (.int i) (.int j) = some (.int (i ^ j.toNat)) := by
  show (if gPow i j then some (D.int (i ^ j.toNat)) else none) = _
  rw [if_pos (by unfold gPow; rw [decide_eq_true h, decide_eq_true h2]; rfl)]
theorem big : (2 : Nat) ^ 80 ≤ 2 ^ 4000 := Nat.pow_le_pow_right (by decide) (by decide)
theorem take_ev (n N j : Nat) (many : Int) (st : Store) (hN : N ≤ 5000) (hm : 1 ≤ many) (hm2 : many ≤ 1000) (h : Jar N j st) :
    ∃ (r : Int) (st' : Store), 0 ≤ r ∧ r < many ∧ Jar (N + 1) j st' ∧ callN pg (n + 1) 19 [.ref j, .int many] st = .ok (.int r) st' := by
  obtain ⟨a, b, c, h1, h2, h3, h4, h5, h0⟩ := h
  by_cases ha : 0 < a
  · refine ⟨a % many, st.set j (.lst [.int (a / many), .int b, .int c]), Int.emod_nonneg _ (by omega), Int.emod_lt_of_pos _ (by omega), ⟨a / many, b, c, at_set h1, h2, h3, h4, by omega, tab_set h0 h1⟩, ?_⟩
    refine runF_rtS (P := pg) (cf := callN pg n) (fd := ⟨2, 5, t19⟩) (ds := [.ref j, .int many]) rfl ?_
    show evB pg (callN pg n) t19 [.v (.ref j), .v (.int many), .no, .no, .no] st = _
    unfold t19
    have c1 : evE pg (callN pg n) (.cmp .gt (.idx (.var 0) (.lit (.int 0))) (.lit (.int 0))) [.v (.ref j), .v (.int many), .no, .no, .no] st = .ok (.bl (decide (0 < a))) st := ev_cmpS (jx (j := j) rfl h1 rfl) (e := .int 0) rfl rfl rfl rfl
    refine evB_rtS ((ev_ifS c1).trans ?_)
    rw [decide_eq_true ha, if_pos rfl]
    rw [evB_nxS (ev_asgS (binS (intS (jx (j := j) rfl h1 rfl)) rfl (mod_some (by omega))))]
    show evB pg (callN pg n) _ [.v (.ref j), .v (.int many), .v (.int (a % many)), .no, .no] st = _
    have hdv : evE pg (callN pg n) (.bin .fdiv (.idx (.var 0) (.lit (.int 0))) (.var 1)) [.v (.ref j), .v (.int many), .v (.int (a % many)), .no, .no] st = .ok (.int (a / many)) st := binS (jx (j := j) rfl h1 rfl) rfl (div_some (by omega) (by omega))
    rw [evB_nxS (setJ (ii := 0) 0 rfl (fun _ => rfl) h1 (by simp) hdv)]
    rfl
  · have hset := at_set (o' := .lst [.int a, .int b, .int (c + 1)]) h1
    have go : ∀ (pr : Int), (1 ≤ pr ∧ pr ≤ 2147483647) → idxD (.lst [.int 2147483647, .int 2147483629, .int 2147483587, .int 2147483579, .int 2147483563]) (.int ((c + 1) % 5)) = some (.int pr) →
        ∃ (r : Int) (st' : Store), 0 ≤ r ∧ r < many ∧ Jar (N + 1) j st' ∧ callN pg (n + 1) 19 [.ref j, .int many] st = .ok (.int r) st' := fun pr hpr hidx => by
      have hmade : 0 ≤ (b + 99991 * (c + 1) * (c + 1) + 71) ^ (3 : Int).toNat % pr ∧ (b + 99991 * (c + 1) * (c + 1) + 71) ^ (3 : Int).toNat % pr < pr := ⟨Int.emod_nonneg _ (by omega), Int.emod_lt_of_pos _ (by omega)⟩
      generalize hmd : (b + 99991 * (c + 1) * (c + 1) + 71) ^ (3 : Int).toNat % pr = md at hmade
      refine ⟨(md * (md % 10009 + 97 * (c + 1)) % 2305843009213693907) / 89 % many, st.set j (.lst [.int a, .int b, .int (c + 1)]), Int.emod_nonneg _ (by omega), Int.emod_lt_of_pos _ (by omega), ⟨a, b, c + 1, hset, h2, h3, by omega, by omega, tab_set h0 h1⟩, ?_⟩
      refine runF_rtS (P := pg) (cf := callN pg n) (fd := ⟨2, 5, t19⟩) (ds := [.ref j, .int many]) rfl ?_
      show evB pg (callN pg n) t19 [.v (.ref j), .v (.int many), .no, .no, .no] st = _
      unfold t19
      have c1 : evE pg (callN pg n) (.cmp .gt (.idx (.var 0) (.lit (.int 0))) (.lit (.int 0))) [.v (.ref j), .v (.int many), .no, .no, .no] st = .ok (.bl (decide (0 < a))) st := ev_cmpS (jx (j := j) rfl h1 rfl) (e := .int 0) rfl rfl rfl rfl
      rw [evB_nxS (env' := [.v (.ref j), .v (.int many), .no, .no, .no]) (st1 := st) ((ev_ifS c1).trans (by rw [decide_eq_false ha]; rfl))]
      have had : evE pg (callN pg n) (.bin .add (.idx (.var 0) (.lit (.int 2))) (.lit (.int 1))) [.v (.ref j), .v (.int many), .no, .no, .no] st = .ok (.int (c + 1)) st := binS (jx (j := j) rfl h1 rfl) rfl rfl
      rw [evB_nxS (setJ (ii := 2) 2 rfl (fun _ => rfl) h1 (by simp) had)]
      show evB pg (callN pg n) _ [.v (.ref j), .v (.int many), .no, .no, .no] (st.set j (.lst [.int a, .int b, .int (c + 1)])) = _
      generalize st.set j (.lst [.int a, .int b, .int (c + 1)]) = st2 at hset
      have hp5 : evE pg (callN pg n) (.idx (.lst (.cons (.lit (.int 2147483647)) (.cons (.lit (.int 2147483629)) (.cons (.lit (.int 2147483587)) (.cons (.lit (.int 2147483579)) (.cons (.lit (.int 2147483563)) .nil)))))) (.bin .mod (.bif .int (.cons (.idx (.var 0) (.lit (.int 2))) .nil)) (.lit (.int 5)))) [.v (.ref j), .v (.int many), .no, .no, .no] st2 = .ok (.int pr) st2 :=
        ev_idxS (d := .lst [.int 2147483647, .int 2147483629, .int 2147483587, .int 2147483579, .int 2147483563]) (st1 := st2) rfl (binS (intS (jx (j := j) rfl hset rfl)) rfl (mod_some (by omega))) rfl hidx
      rw [evB_nxS (ev_asgS hp5)]
      show evB pg (callN pg n) _ [.v (.ref j), .v (.int many), .no, .v (.int pr), .no] st2 = _
      have hcc : 0 ≤ 99991 * (c + 1) * (c + 1) ∧ 99991 * (c + 1) * (c + 1) ≤ 99991 * 5001 * 5001 := by
        refine ⟨Int.mul_nonneg (by omega) (by omega), Int.mul_le_mul (by omega) (by omega) (by omega) (by omega)⟩
      have hm4 : evE pg (callN pg n) (.bin .mod (.bif .int (.cons (.bin .pow (.bin .add (.bin .add (.idx (.var 0) (.lit (.int 1))) (.bin .mul (.bin .mul (.lit (.int 99991)) (.idx (.var 0) (.lit (.int 2)))) (.idx (.var 0) (.lit (.int 2))))) (.lit (.int 71))) (.lit (.int 3))) .nil)) (.var 3)) [.v (.ref j), .v (.int many), .no, .v (.int pr), .no] st2 = .ok (.int md) st2 := by
        rw [← hmd]
        refine binS (intS (binS (binS (binS (jx (j := j) rfl hset rfl) (binS (binS rfl (jx (j := j) rfl hset rfl) (mul_some (by omega))) (jx (j := j) rfl hset rfl) (mul_some (by omega))) rfl) rfl rfl) rfl (pow_some (by omega) ?_))) rfl (mod_some (by omega))
        have := big
        refine Nat.lt_of_lt_of_le ?_ this
        omega
      rw [evB_nxS (ev_asgS hm4)]
      show evB pg (callN pg n) _ [.v (.ref j), .v (.int many), .no, .v (.int pr), .v (.int md)] st2 = _
      have hm5 : evE pg (callN pg n) (.bin .mod (.bif .int (.cons (.bin .mul (.var 4) (.bin .add (.bin .mod (.bif .int (.cons (.var 4) .nil)) (.lit (.int 10009))) (.bin .mul (.lit (.int 97)) (.idx (.var 0) (.lit (.int 2)))))) .nil)) (.lit (.int 2305843009213693907))) [.v (.ref j), .v (.int many), .no, .v (.int pr), .v (.int md)] st2 = .ok (.int (md * (md % 10009 + 97 * (c + 1)) % 2305843009213693907)) st2 := by
        refine binS (intS (binS (i := md) rfl (binS (binS (i := md) (intS rfl) rfl (mod_some (by omega))) (binS rfl (jx (j := j) rfl hset rfl) (mul_some (by omega))) rfl) (mul_some ?_))) rfl (mod_some (by omega))
        have := Int.emod_nonneg md (show (10009 : Int) ≠ 0 by omega)
        have := Int.emod_lt_of_pos md (show (0 : Int) < 10009 by omega)
        omega
      rw [evB_nxS (ev_asgS hm5)]
      show evB pg (callN pg n) _ [.v (.ref j), .v (.int many), .no, .v (.int pr), .v (.int (md * (md % 10009 + 97 * (c + 1)) % 2305843009213693907))] st2 = _
      exact evB_rtS (ev_rtS (binS (intS (binS rfl rfl (div_some (by omega) (by omega)))) rfl (mod_some (by omega))))
    have h5' := Int.emod_nonneg (c + 1) (show (5 : Int) ≠ 0 by omega)
    have h5'' := Int.emod_lt_of_pos (c + 1) (show (0 : Int) < 5 by omega)
    have hall : (c + 1) % 5 = 0 ∨ (c + 1) % 5 = 1 ∨ (c + 1) % 5 = 2 ∨ (c + 1) % 5 = 3 ∨ (c + 1) % 5 = 4 := by omega
    rcases hall with e | e | e | e | e
    · exact go 2147483647 (by omega) (by rw [e]; rfl)
    · exact go 2147483629 (by omega) (by rw [e]; rfl)
    · exact go 2147483587 (by omega) (by rw [e]; rfl)
    · exact go 2147483579 (by omega) (by rw [e]; rfl)
    · exact go 2147483563 (by omega) (by rw [e]; rfl)
end K77
end ZK77y
section ZK77z
set_option Elab.async false
set_option linter.all false
set_option maxRecDepth 100000
set_option maxHeartbeats 400000
set_option exponentiation.threshold 5000
namespace K77
open PySem PD
theorem big1 : ((10 : Int) ^ (60 : Int).toNat).natAbs < 2 ^ 4000 := by decide +kernel
theorem jar_ev (n : Nat) (ns : List Int) (k : Nat) (hk : k ≤ 2) (st : Store) (h0 : st[0]? = some O.tbl) : ∃ st', Jar 0 st.length st' ∧ callN pg (n + 1) 18 [.scr ns, .int (k : Int)] st = .ok (.ref st.length) st' := by
  have hcell : ∃ cell : Int, evE pg (callN pg n) (.ite (.cmp .lt (.var 1) (.bif .len (.cons (.var 0) .nil))) (.idx (.var 0) (.var 1)) (.bin .add (.bin .mul (.lit (.int 37)) (.var 1)) (.lit (.int 19)))) [.v (.scr ns), .v (.int (k : Int)), .no, .no] = PD.ret (.int cell) := by
    have c1 : evE pg (callN pg n) (.cmp .lt (.var 1) (.bif .len (.cons (.var 0) .nil))) [.v (.scr ns), .v (.int (k : Int)), .no, .no] = PD.ret (.bl (decide ((k : Int) < (ns.length : Int)))) := rfl
    by_cases h : k < ns.length
    · refine ⟨ns[k], ?_⟩
      rw [ev_ite c1, decide_eq_true (show (k : Int) < ns.length by omega), if_pos rfl]
      show opt ((atI ns (k : Int)).map D.int) = _
      unfold atI
      rw [ixN_nat h]
      show opt ((ns[k]?).map D.int) = _
      rw [List.getElem?_eq_getElem h]; rfl
    · refine ⟨37 * k + 19, ?_⟩
      rw [ev_ite c1, decide_eq_false (show ¬ (k : Int) < ns.length by omega), if_neg (by simp)]
      have hm : binD .mul (.int 37) (.int (k : Int)) = some (.int (37 * (k : Int))) := mul_some (by omega)
      show bnd (opt (binD .mul (.int 37) (.int (k : Int)))) (fun x => bnd (PD.ret (D.int 19)) fun y => bnd (vw x) fun x => bnd (vw y) fun y => opt (binD .add x y)) = _
      rw [hm]; rfl
  obtain ⟨cell, hc⟩ := hcell
  have hab : evE pg (callN pg n) (.bif .abs (.cons (.var 2) .nil)) [.v (.scr ns), .v (.int (k : Int)), .v (.int cell), .no] st = .ok (.int (if cell < 0 then -cell else cell)) st := rfl
  generalize (if cell < 0 then -cell else cell) = ab at hab
  have hp1 : binD .pow (.int 10) (.int 60) = some (.int ((10 : Int) ^ (60 : Int).toNat)) := pow_some (by omega) (by decide)
  have hp2 : binD .pow (.int ((10 : Int) ^ (60 : Int).toNat)) (.int 5) = some (.int (((10 : Int) ^ (60 : Int).toNat) ^ (5 : Int).toNat)) := pow_some (by omega) big1
  have hpos : (0 : Int) < ((10 : Int) ^ (60 : Int).toNat) ^ (5 : Int).toNat := by decide +kernel
  have hp3 : binD .pow (.int 10) (.int 18) = some (.int ((10 : Int) ^ (18 : Int).toNat)) := pow_some (by omega) (by decide)
  generalize (10 : Int) ^ (60 : Int).toNat = p60 at hp1 hp2 hpos
  generalize p60 ^ (5 : Int).toNat = p300 at hp2 hpos
  generalize (10 : Int) ^ (18 : Int).toNat = p18 at hp3
  have hflag : ∃ g : Int, (g = 0 ∨ g = 1) ∧ evE pg (callN pg n) (.bif .int (.cons (.cmp .ge (.bif .abs (.cons (.var 2) .nil)) (.bin .pow (.lit (.int 10)) (.lit (.int 18)))) .nil)) [.v (.scr ns), .v (.int (k : Int)), .v (.int cell), .no] st = .ok (.int g) st := by
    have h18 : evE pg (callN pg n) (.bin .pow (.lit (.int 10)) (.lit (.int 18))) [.v (.scr ns), .v (.int (k : Int)), .v (.int cell), .no] st = .ok (.int p18) st := binS rfl rfl hp3
    have hcmp : evE pg (callN pg n) (.cmp .ge (.bif .abs (.cons (.var 2) .nil)) (.bin .pow (.lit (.int 10)) (.lit (.int 18)))) [.v (.scr ns), .v (.int (k : Int)), .v (.int cell), .no] st = .ok (.bl (decide (p18 ≤ ab))) st := ev_cmpS hab h18 rfl rfl rfl
    refine ⟨if decide (p18 ≤ ab) then 1 else 0, ?_, ev_bif1S hcmp rfl rfl⟩
    cases decide (p18 ≤ ab)
    · exact .inl rfl
    · exact .inr rfl
  obtain ⟨g, hg, hgv⟩ := hflag
  have hmul : binD .mul (.int (ab % p300)) (.int g) = some (.int (ab % p300 * g)) := mul_some (by omega)
  have h300 : evE pg (callN pg n) (.bin .pow (.bin .pow (.lit (.int 10)) (.lit (.int 60))) (.lit (.int 5))) [.v (.scr ns), .v (.int (k : Int)), .v (.int cell), .no] st = .ok (.int p300) st := binS (binS rfl rfl hp1) rfl hp2
  have hmine : evE pg (callN pg n) (.bin .mul (.bin .mod (.bif .int (.cons (.bif .abs (.cons (.var 2) .nil)) .nil)) (.bin .pow (.bin .pow (.lit (.int 10)) (.lit (.int 60))) (.lit (.int 5)))) (.bif .int (.cons (.cmp .ge (.bif .abs (.cons (.var 2) .nil)) (.bin .pow (.lit (.int 10)) (.lit (.int 18)))) .nil))) [.v (.scr ns), .v (.int (k : Int)), .v (.int cell), .no] st = .ok (.int (ab % p300 * g)) st :=
    binS (binS (intS hab) h300 (mod_some hpos)) hgv hmul
  generalize ab % p300 * g = mine at hmine
  have hkk : 0 ≤ 8861 * (k : Int) ∧ 8861 * (k : Int) ≤ 17722 := by omega
  have hb : evE pg (callN pg n) (.bin .mod (.bif .int (.cons (.bin .add (.bin .add (.bin .mul (.bin .mod (.bif .int (.cons (.var 2) .nil)) (.lit (.int 2305843009213693951))) (.lit (.int 73013))) (.bin .mul (.bin .mul (.lit (.int 8861)) (.var 1)) (.var 1))) (.lit (.int 47))) .nil)) (.lit (.int 2305843009213693921))) [.v (.scr ns), .v (.int (k : Int)), .v (.int cell), .v (.int mine)] st = .ok (.int ((cell % 2305843009213693951 * 73013 + 8861 * (k : Int) * (k : Int) + 47) % 2305843009213693921)) st :=
    binS (intS (binS (binS (binS (binS (i := cell) (intS rfl) rfl (mod_some (by omega))) rfl (mul_some (by omega))) (binS (binS rfl rfl (mul_some (by omega))) rfl (mul_some (by omega))) rfl) rfl rfl)) rfl (mod_some (by omega))
  have hb0 := Int.emod_nonneg (cell % 2305843009213693951 * 73013 + 8861 * (k : Int) * (k : Int) + 47) (show (2305843009213693921 : Int) ≠ 0 by omega)
  have hb1 := Int.emod_lt_of_pos (cell % 2305843009213693951 * 73013 + 8861 * (k : Int) * (k : Int) + 47) (show (0 : Int) < 2305843009213693921 by omega)
  generalize (cell % 2305843009213693951 * 73013 + 8861 * (k : Int) * (k : Int) + 47) % 2305843009213693921 = b at hb hb0 hb1
  refine ⟨st ++ [.lst [.int mine, .int b, .int 0]], ⟨mine, b, 0, by rw [List.getElem?_append_right (Nat.le_refl _), Nat.sub_self]; rfl, hb0, hb1, Int.le_refl _, Int.le_refl _, by rw [List.getElem?_append_left (List.getElem?_eq_some_iff.mp h0).1]; exact h0⟩, ?_⟩
  refine runF_rtS (P := pg) (cf := callN pg n) (fd := ⟨2, 4, t18⟩) (ds := [.scr ns, .int (k : Int)]) rfl ?_
  show evB pg (callN pg n) t18 [.v (.scr ns), .v (.int (k : Int)), .no, .no] st = _
  unfold t18
  rw [evB_nxS (ev_asgS (congrFun hc st))]
  show evB pg (callN pg n) _ [.v (.scr ns), .v (.int (k : Int)), .v (.int cell), .no] st = _
  rw [evB_nxS (ev_asgS hmine)]
  show evB pg (callN pg n) _ [.v (.scr ns), .v (.int (k : Int)), .v (.int cell), .v (.int mine)] st = _
  refine evB_rtS (ev_rtS ?_)
  have hA : evA pg (callN pg n) (.cons (.var 3) (.cons (.bin .mod (.bif .int (.cons (.bin .add (.bin .add (.bin .mul (.bin .mod (.bif .int (.cons (.var 2) .nil)) (.lit (.int 2305843009213693951))) (.lit (.int 73013))) (.bin .mul (.bin .mul (.lit (.int 8861)) (.var 1)) (.var 1))) (.lit (.int 47))) .nil)) (.lit (.int 2305843009213693921))) (.cons (.lit (.int 0)) .nil))) [.v (.scr ns), .v (.int (k : Int)), .v (.int cell), .v (.int mine)] st = .ok [.int mine, .int b, .int 0] st :=
    evA_consS (st1 := st) (fun _ h => nomatch h) rfl (evA_consS (st1 := st) (fun _ h => nomatch h) hb (evA_consS (st1 := st) (ds := []) (fun _ h => nomatch h) rfl rfl))
  show bnd (evA pg (callN pg n) _ _) (fun ds => if ds.length ≤ LIM then alloc (.lst ds) else fail) st = _
  rw [bnd_ok hA, if_pos (by show 3 ≤ LIM; unfold LIM; omega)]; rfl
theorem of_ev (n N j : Nat) (ds : List D) (st : Store) (hN : N ≤ 5000) (hl : 1 ≤ ds.length) (hl2 : ds.length ≤ 1000) (h : Jar N j st) :
    ∃ (d : D) (st' : Store), d ∈ ds ∧ Jar (N + 1) j st' ∧ callN pg (n + 2) 20 [.ref j, .lst ds] st = .ok d st' := by
  obtain ⟨r, st', h1, h2, h3, h4⟩ := take_ev n N j ds.length st hN (by omega) (by omega) h
  have hr : r.toNat < ds.length := by omega
  refine ⟨ds[r.toNat], st', List.getElem_mem hr, h3, ?_⟩
  refine runF_rtS (P := pg) (cf := callN pg (n + 1)) (fd := ⟨2, 2, t20⟩) (ds := [.ref j, .lst ds]) rfl ?_
  refine evB_rtS (ev_rtS (ev_idxS (d := .lst ds) (st1 := st) rfl (ev_callS (ds := [.ref j, .int (ds.length : Int)]) (st1 := st) rfl h4) rfl ?_))
  show atI ds r = _
  unfold atI
  have e := ixN_nat hr
  rw [Int.toNat_of_nonneg h1] at e
  rw [e]
  show ds[r.toNat]? = _
  rw [List.getElem?_eq_getElem hr]
/-! walking with a store -/
theorem forL_inv {f : D → PD.Env → M Out} (I : Nat → PD.Env → Store → Prop) : ∀ (ds : List D) (i : Nat) (env : PD.Env) (st : Store), I i env st → (∀ i d env st, d ∈ ds → I i env st → ∃ env' st', I (i + 1) env' st' ∧ f d env st = .ok (.nx env') st') → ∃ env' st', I (i + ds.length) env' st' ∧ forL f ds env st = .ok (.nx env') st'
  | [], i, env, st, h, _ => ⟨env, st, h, rfl⟩
  | d :: ds, i, env, st, h, hf => by
    obtain ⟨e1, s1, h1, h2⟩ := hf i d env st (List.mem_cons_self ..) h
    obtain ⟨e2, s2, h3, h4⟩ := forL_inv I ds (i + 1) e1 s1 h1 fun i d' env st hd => hf i d' env st (List.mem_cons_of_mem _ hd)
    refine ⟨e2, s2, by rw [List.length_cons, Nat.add_comm ds.length 1, ← Nat.add_assoc]; exact h3, ?_⟩
    show bnd (f d env) _ st = _
    rw [bnd_ok h2]
    exact h4
theorem mem_range {d : D} {lo hi : Int} (h : d ∈ rangeD lo hi) : ∃ i : Int, d = .int i ∧ lo ≤ i ∧ i < hi := by
  unfold rangeD at h
  obtain ⟨k, hk, rfl⟩ := List.mem_map.mp h
  have := List.mem_range.mp hk
  exact ⟨lo + k, rfl, by omega, by omega⟩
section
variable {P : Prog} {cf : Calls} {env env' : PD.Env} {st st1 st2 st3 : Store}
theorem ev_notS {x : PD.X} {b : Bool} (h : evE P cf x env st = .ok (.bl b) st1) : evE P cf (.not_ x) env st = .ok (.bl (!b)) st1 := by
  show bnd (bnd (evE P cf x env) blD) _ st = _
  rw [bnd2 h]; rfl
theorem ev_or2S {a b : PD.X} (h1 : evE P cf a env st = .ok (.bl false) st1) (h2 : evE P cf b env st1 = .ok (.bl false) st2) : evE P cf (.or_ (.cons a (.cons b .nil))) env st = .ok (.bl false) st2 := by
  show bnd (bnd (evE P cf a env) blD) (fun k => if k then PD.ret (.bl true) else evE P cf b env) st = _
  rw [bnd2 h1]
  exact h2
theorem mapL_consS {f : D → M (Option D)} {d x : D} {ds xs : List D} (h : f d st = .ok (some x) st1) (h2 : mapL f ds st1 = .ok xs st2) : mapL f (d :: ds) st = .ok (x :: xs) st2 := by
  show bnd (f d) _ st = _
  rw [bnd_ok h]
  show bnd (mapL f ds) _ st1 = _
  rw [bnd_ok h2]; rfl
end
end K77
end ZK77z
section ZK77i
set_option Elab.async false
set_option linter.all false
set_option maxRecDepth 100000
set_option maxHeartbeats 400000
set_option exponentiation.threshold 5000
namespace K77
open PySem PD
/-! odd values -/
def bases : List D := [.non, .bl true, .bl false, .int 0, .int (-1), .int 9, .int (10 ^ 17), .str "", .str "both", .str "Out", .tup [], .lst [], .dct [], .tup [.int 1], .int 4, .int 1, .int 8, .str "out"]
inductive Od : Nat → D → Prop
  | base {n : Nat} {d : D} (h : d ∈ bases) : Od n d
  | more {n : Nat} {d : D} (h : d ∈ [D.int 2, .int 3, .int 5, .int 6, .int 7, .str "on", .tup [.str "both"]]) : Od n d
  | t1 {n : Nat} {d : D} (h : Od n d) : Od (n + 1) (.tup [d])
  | l1 {n : Nat} {d : D} (h : Od n d) : Od (n + 1) (.lst [d])
  | d1 {n : Nat} {d : D} (h : Od n d) : Od (n + 1) (.dct [(.str "a", d)])
  | t2 {n : Nat} {d : D} (h : Od n d) : Od (n + 1) (.tup [d, .non])
theorem Od.mono {n m : Nat} {d : D} (h : Od n d) : n ≤ m → Od m d := by
  induction h generalizing m with
  | base h => exact fun _ => .base h
  | more h => exact fun _ => .more h
  | t1 _ ih => intro hm; obtain ⟨k, rfl⟩ : ∃ k, m = k + 1 := ⟨m - 1, by omega⟩; exact .t1 (ih (by omega))
  | l1 _ ih => intro hm; obtain ⟨k, rfl⟩ : ∃ k, m = k + 1 := ⟨m - 1, by omega⟩; exact .l1 (ih (by omega))
  | d1 _ ih => intro hm; obtain ⟨k, rfl⟩ : ∃ k, m = k + 1 := ⟨m - 1, by omega⟩; exact .d1 (ih (by omega))
  | t2 _ ih => intro hm; obtain ⟨k, rfl⟩ : ∃ k, m = k + 1 := ⟨m - 1, by omega⟩; exact .t2 (ih (by omega))
theorem forL_invB {f : D → PD.Env → M Out} (I : Nat → PD.Env → Store → Prop) (n : Nat) : ∀ (ds : List D) (i : Nat) (env : PD.Env) (st : Store), i + ds.length ≤ n → I i env st → (∀ i d env st, i < n → d ∈ ds → I i env st → ∃ env' st', I (i + 1) env' st' ∧ f d env st = .ok (.nx env') st') → ∃ env' st', I (i + ds.length) env' st' ∧ forL f ds env st = .ok (.nx env') st'
  | [], i, env, st, _, h, _ => ⟨env, st, h, rfl⟩
  | d :: ds, i, env, st, hn, h, hf => by
    have hn' : i + 1 + ds.length ≤ n := by rw [List.length_cons] at hn; omega
    obtain ⟨e1, s1, h1, h2⟩ := hf i d env st (by omega) (List.mem_cons_self ..) h
    obtain ⟨e2, s2, h3, h4⟩ := forL_invB I n ds (i + 1) e1 s1 hn' h1 fun i d' env st hi hd => hf i d' env st hi (List.mem_cons_of_mem _ hd)
    refine ⟨e2, s2, by rw [List.length_cons, Nat.add_comm ds.length 1, ← Nat.add_assoc]; exact h3, ?_⟩
    show bnd (f d env) _ st = _
    rw [bnd_ok h2]
    exact h4
def oddList : PD.X := .lst (.cons (.lit .non) (.cons (.lit (.bl true)) (.cons (.lit (.bl false)) (.cons (.lit (.int 0)) (.cons (.neg (.lit (.int 1))) (.cons (.lit (.int 9)) (.cons (.bin .pow (.lit (.int 10)) (.lit (.int 17))) (.cons (.lit (.str "")) (.cons (.lit (.str "both")) (.cons (.lit (.str "Out")) (.cons (.tup .nil) (.cons (.lst .nil) (.cons .dct0 (.cons (.tup (.cons (.lit (.int 1)) .nil)) (.cons (.lit (.int 4)) (.cons (.lit (.int 1)) (.cons (.lit (.int 8)) (.cons (.lit (.str "out")) .nil))))))))))))))))))
theorem oddList_ev {cf : Calls} {env : PD.Env} : evE pg cf oddList env = PD.ret (.lst bases) := by
  have hp : binD .pow (.int 10) (.int 17) = some (.int (10 ^ 17)) := pow_some (i := 10) (j := 17) (by omega) (by decide)
  have hp' : evE pg cf (.bin .pow (.lit (.int 10)) (.lit (.int 17))) env = PD.ret (.int (10 ^ 17)) := by
    show opt (binD .pow (.int 10) (.int 17)) = _
    rw [hp]; rfl
  have ns : ∀ {d : D} (y : PD.X), PD.X.lit d ≠ .star y := fun _ z => nomatch z
  refine ev_lst (ds := bases) (evA_cons (ns) rfl (evA_cons ns rfl (evA_cons ns rfl (evA_cons ns rfl (evA_cons (fun _ z => nomatch z) rfl (evA_cons ns rfl (evA_cons (fun _ z => nomatch z) hp' ?_))))))) (by show 18 ≤ LIM; unfold LIM; omega)
  rfl
def wrapList : PD.X := .lst (.cons (.tup (.cons (.var 1) .nil)) (.cons (.lst (.cons (.var 1) .nil)) (.cons (.dct1 "a" (.var 1)) (.cons (.tup (.cons (.var 1) (.cons (.lit .non) .nil))) .nil))))
theorem wrapList_ev {cf : Calls} {a c : Sl} {d : D} : evE pg cf wrapList [a, .v d, c] = PD.ret (.lst [.tup [d], .lst [d], .dct [(.str "a", d)], .tup [d, .non]]) := rfl
theorem arg2S {cf : Calls} {env : PD.Env} {st st1 st2 : Store} {x y : PD.X} {d e : D} (hx : ∀ z, x ≠ .star z) (hy : ∀ z, y ≠ .star z) (h : evE pg cf x env st = .ok d st1) (h2 : evE pg cf y env st1 = .ok e st2) : evA pg cf (.cons x (.cons y .nil)) env st = .ok [d, e] st2 :=
  evA_consS hx h (evA_consS hy h2 rfl)
theorem ev_rng1S {cf : Calls} {env : PD.Env} {st st1 : Store} {x : PD.X} {j : Int} (h : evE pg cf x env st = .ok (.int j) st1) (hg : gRng j = true) : evIt pg cf (.rng (.cons x .nil)) env st = .ok (rangeD 0 j) st1 := by
  show bnd (evE pg cf x env) (fun x => match x with
    | .int j => if gRng j then PD.ret (rangeD 0 j) else fail
    | _ => fail) st = _
  rw [bnd_ok h]
  show (if gRng j then PD.ret (rangeD 0 j) else fail) st1 = _
  rw [if_pos hg]; rfl
theorem bases_no3 : ∀ d ∈ bases, d ≠ .int 3 := by
  intro d hd e
  subst e
  simp [bases] at hd
theorem odd_ev (n N j : Nat) (st : Store) (hN : N ≤ 4000) (h : Jar N j st) : ∃ (d : D) (st' : Store), (Od 4 d ∧ d ≠ .int 3) ∧ Jar (N + 6) j st' ∧ callN pg (n + 3) 21 [.ref j] st = .ok d st' := by
  obtain ⟨d0, s1, a1, a2, a3⟩ := of_ev n N j bases st (by omega) (by decide) (by decide) h
  obtain ⟨dm, s2, b1, b2, b3⟩ := of_ev n (N + 1) j [.int 0, .int 0, .int 0, .int 1, .int 4] s1 (by omega) (by decide) (by decide) a2
  have hm : ∃ m : Nat, dm = .int (m : Int) ∧ m ≤ 4 := by
    simp only [List.mem_cons, List.not_mem_nil, or_false] at b1
    rcases b1 with rfl | rfl | rfl | rfl | rfl
    · exact ⟨0, rfl, by omega⟩
    · exact ⟨0, rfl, by omega⟩
    · exact ⟨0, rfl, by omega⟩
    · exact ⟨1, rfl, by omega⟩
    · exact ⟨4, rfl, by omega⟩
  obtain ⟨m, rfl, hm4⟩ := hm
  have hlen : (rangeD 0 (m : Int)).length = m := by rw [rangeD_nat, List.length_map, List.length_range]
  obtain ⟨env', s3, ⟨⟨v, c, rfl, hv, hv3⟩, hJ⟩, hf⟩ := forL_invB (f := fun d e => match bindT (.tv 2) d e with
      | some e => evB pg (callN pg (n + 2)) (.cons (.asg 1 (.pl (.call 20 (.cons (.var 0) (.cons wrapList .nil))))) .nil) e
      | none => fail) (fun i env st => (∃ v c, env = [.v (.ref j), .v v, c] ∧ Od i v ∧ v ≠ .int 3) ∧ Jar (N + 2 + i) j st) m (rangeD 0 (m : Int)) 0 [.v (.ref j), .v d0, .no] s2 (by omega) ⟨⟨_, _, rfl, .base a1, bases_no3 _ a1⟩, b2⟩ fun i d env st hi hd hI => by
    obtain ⟨⟨v, c, rfl, hv, hv3⟩, hJ⟩ := hI
    obtain ⟨d', s', c1, c2, c3⟩ := of_ev n (N + 2 + i) j [.tup [v], .lst [v], .dct [(.str "a", v)], .tup [v, .non]] st (by omega) (by show 1 ≤ 4; omega) (by show 4 ≤ 1000; omega) hJ
    refine ⟨[.v (.ref j), .v d', .v d], s', ⟨⟨_, _, rfl, ?_, ?_⟩, c2⟩, ?_⟩
    · simp only [List.mem_cons, List.not_mem_nil, or_false] at c1
      rcases c1 with rfl | rfl | rfl | rfl
      · exact .t1 hv
      · exact .l1 hv
      · exact .d1 hv
      · exact .t2 hv
    · simp only [List.mem_cons, List.not_mem_nil, or_false] at c1
      rcases c1 with rfl | rfl | rfl | rfl <;> exact fun z => nomatch z
    · show evB pg (callN pg (n + 2)) _ [.v (.ref j), .v v, .v d] st = _
      rw [evB_nxS (ev_asgS (ev_callS (arg2S (d := .ref j) (st1 := st) (by intro _ h; exact nomatch h) (by intro _ h; exact nomatch h) rfl (congrFun wrapList_ev st)) c3))]
      rfl
  rw [hlen, Nat.zero_add] at hJ hv
  refine ⟨v, s3, ⟨hv.mono (by omega), hv3⟩, hJ.mono (by omega), ?_⟩
  refine runF_rtS (P := pg) (cf := callN pg (n + 2)) (fd := ⟨1, 3, t21⟩) (ds := [.ref j]) rfl ?_
  show evB pg (callN pg (n + 2)) t21 [.v (.ref j), .no, .no] st = _
  unfold t21
  rw [evB_nxS (env' := [.v (.ref j), .v d0, .no]) (st1 := s1) (ev_asgS (ev_callS (arg2S (d := .ref j) (st1 := st) (by intro _ h; exact nomatch h) (by intro _ h; exact nomatch h) rfl (congrFun oddList_ev st)) a3))]
  rw [evB_nxS (ev_forS (ev_rng1S (ev_callS (arg2S (d := .ref j) (st1 := s1) (by intro _ h; exact nomatch h) (by intro _ h; exact nomatch h) rfl rfl) b3) (by unfold gRng; rw [decide_eq_true_eq]; omega)) hf)]
  exact evB_rtS rfl
end K77
end ZK77i
section ZK77j
set_option Elab.async false
set_option linter.all false
set_option maxRecDepth 100000
set_option maxHeartbeats 400000
set_option exponentiation.threshold 5000
namespace K77
open PySem PD
/-! texts -/
def cl (s : Str) : List Nat := s.cps.toList
def asc (s : Str) : Bool := (cl s).all fun c => decide (c < 1114112)
theorem cl_app (a b : Str) : cl (a ++ b) = cl a ++ cl b := by
  show (a.cps ++ b.cps).toList = _
  rw [Array.toList_append]; rfl
theorem asc_app {a b : Str} (h : asc a = true) (h2 : asc b = true) : asc (a ++ b) = true := by
  unfold asc
  rw [cl_app, List.all_append]
  unfold asc at h h2
  rw [h, h2]; rfl
theorem asc_join : ∀ ts : List Str, (∀ t ∈ ts, asc t = true) → asc (Str.join ", " ts) = true
  | [], _ => by decide +kernel
  | [t], h => h t (List.mem_cons_self ..)
  | t :: u :: r, h => by
    show asc (t ++ ", " ++ Str.join ", " (u :: r)) = true
    exact asc_app (asc_app (h t (List.mem_cons_self ..)) (by decide +kernel)) (asc_join (u :: r) fun x hx => h x (List.mem_cons_of_mem _ hx))
theorem asc_tuple (ts : List Str) (h : ∀ t ∈ ts, asc t = true) : asc (tupleText ts) = true := by
  unfold tupleText
  refine asc_app (asc_app (by decide +kernel) (asc_join ts h)) ?_
  split <;> decide +kernel
theorem cl_tuple (ts : List Str) : ∃ r, cl (tupleText ts) = 40 :: r := by
  unfold tupleText
  rw [cl_app, cl_app]
  have : cl ("(" : Str) = [40] := by decide +kernel
  rw [this]
  exact ⟨_, rfl⟩
theorem asc_eqOk {s : Str} (h : asc s = true) : (D.str s).eqOk = true := by
  have h' : s.cps.all (fun c => decide (c < 1114112)) = true := by
    rw [← Array.all_toList]; exact h
  unfold D.eqOk
  simp only [D.plain, D.depth, h', Bool.true_and]
  rfl
def words : D := .tup [.str "'both'", .str "'out'"]
theorem in_words {s : Str} (h : asc s = true) : cmpD .in_ (.str s) words = some ((("'both'" : Str) == s) || ((("'out'" : Str) == s) || false)) := by
  have h3 : words.eqOk = true := by decide +kernel
  show (if (D.str s).eqOk && words.eqOk then some ([D.str "'both'", .str "'out'"].any fun z => z.eqv (.str s)) else none) = _
  rw [asc_eqOk h, h3]
  rfl
theorem no_word {s : Str} {c : Nat} (hc : c = 40 ∨ c = 91 ∨ c = 123) {r : List Nat} (h : cl s = c :: r) : ((("'both'" : Str) == s) || ((("'out'" : Str) == s) || false)) = false := by
  have h1 : ∀ {x : Str} {q : List Nat}, cl x = 39 :: q → (x == s) = false := fun {x q} hx => by
    rw [beq_eq_false_iff_ne]
    intro e
    rw [e, h] at hx
    have := (List.cons.inj hx).1
    omega
  rw [h1 (x := "'both'") (q := [98, 111, 116, 104, 39]) (by decide +kernel), h1 (x := "'out'") (q := [111, 117, 116, 39]) (by decide +kernel)]
  rfl
/-! what holds of odd values -/
def wordB (s : Str) : Bool := (("'both'" : Str) == s) || ((("'out'" : Str) == s) || false)
def fineB (d : D) : Bool := shp d && asW d && d.shw && decide (d.pd.depth ≤ 2) && decide (d.shl ≤ 2000) && (match d with
  | .tup ds => decide (ds.length ≤ 2)
  | _ => true) && asc d.pd.shown && (wordB d.pd.shown == isW d)
structure Fine (n : Nat) (d : D) : Prop where
  shp : shp d = true
  asW : asW d = true
  shw : d.shw = true
  depth : d.pd.depth ≤ 2 + n
  shl : d.shl ≤ 2000 + 20 * n
  two : ∀ ds, d = .tup ds → ds.length ≤ 2
  asc : asc d.pd.shown = true
  word : wordB d.pd.shown = isW d
theorem fine_of {n : Nat} {d : D} (h : fineB d = true) : Fine n d := by
  unfold fineB at h
  simp only [Bool.and_eq_true, decide_eq_true_eq, beq_iff_eq] at h
  obtain ⟨⟨⟨⟨⟨⟨⟨h1, h2⟩, h3⟩, h4⟩, h5⟩, h6⟩, h7⟩, h8⟩ := h
  refine ⟨h1, h2, h3, by omega, by omega, fun ds e => ?_, h7, h8⟩
  subst e
  exact of_decide_eq_true h6
theorem fine_bases : bases.all fineB = true := by decide +kernel
theorem fine_more : [D.int 2, .int 3, .int 5, .int 6, .int 7, .str "on", .tup [.str "both"]].all fineB = true := by decide +kernel
theorem cl_list (t : Str) : ∃ r, cl (listText [t]) = 91 :: r := by
  show ∃ r, cl (("[" : Str) ++ ("" : Str) ++ t ++ ("]" : Str)) = 91 :: r
  rw [cl_app, cl_app, cl_app]
  have h1 : cl ("[" : Str) = [91] := by decide +kernel
  rw [h1]
  exact ⟨_, rfl⟩
theorem asc_list (t : Str) (h : asc t = true) : asc (listText [t]) = true := by
  show asc (("[" : Str) ++ ("" : Str) ++ t ++ ("]" : Str)) = true
  exact asc_app (asc_app (asc_app (by decide +kernel) (by decide +kernel)) h) (by decide +kernel)
theorem cl_dict (ts : List Str) : ∃ r, cl (dictText ts) = 123 :: r := by
  unfold dictText
  rw [cl_app, cl_app]
  have h1 : cl ("{" : Str) = [123] := by decide +kernel
  rw [h1]
  exact ⟨_, rfl⟩
theorem asc_dict (ts : List Str) (h : ∀ t ∈ ts, asc t = true) : asc (dictText ts) = true := by
  unfold dictText
  exact asc_app (asc_app (by decide +kernel) (asc_join ts h)) (by decide +kernel)
theorem asc_none : asc (PyData.shown .none) = true := by decide +kernel
theorem fine_od {n : Nat} {d : D} (h : Od n d) : Fine n d := by
  induction h with
  | base h => exact fine_of (List.all_eq_true.mp fine_bases _ h)
  | more h => exact fine_of (List.all_eq_true.mp fine_more _ h)
  | @t1 n d h ih =>
    have e : (D.tup [d]).pd.shown = tupleText [d.pd.shown] := by simp only [D.pd, D.pds, PyData.shown, PyData.shownAll]
    obtain ⟨r, hr⟩ := cl_tuple [d.pd.shown]
    refine ⟨rfl, rfl, ?_, ?_, ?_, fun ds e => ?_, ?_, ?_⟩
    · simp only [D.shw, D.shws, ih.shw, Bool.and_self]
    · have := ih.depth
      simp only [D.pd, D.pds, PyData.depth, PyData.depthAll]; omega
    · have := ih.shl
      simp only [D.shl, D.shls]; omega
    · cases e; simp
    · rw [e]; exact asc_tuple _ fun t ht => by
        cases List.mem_singleton.mp ht; exact ih.asc
    · rw [e]; exact no_word (.inl rfl) hr
  | @l1 n d h ih =>
    have e : (D.lst [d]).pd.shown = listText [d.pd.shown] := by simp only [D.pd, D.pds, PyData.shown, PyData.shownAll]
    obtain ⟨r, hr⟩ := cl_list d.pd.shown
    refine ⟨rfl, rfl, ?_, ?_, ?_, fun ds e => ?_, ?_, ?_⟩
    · simp only [D.shw, D.shws, ih.shw, Bool.and_self]
    · have := ih.depth
      simp only [D.pd, D.pds, PyData.depth, PyData.depthAll]; omega
    · have := ih.shl
      simp only [D.shl, D.shls]; omega
    · cases e
    · rw [e]; exact asc_list _ ih.asc
    · rw [e]; exact no_word (.inr (.inl rfl)) hr
  | @d1 n d h ih =>
    have e : (D.dct [(.str "a", d)]).pd.shown = dictText [(PyData.str "a").shown ++ ": " ++ d.pd.shown] := by simp only [D.pd, D.pdk, PyData.shown, PyData.shownKv]
    obtain ⟨r, hr⟩ := cl_dict [(PyData.str "a").shown ++ ": " ++ d.pd.shown]
    have ha : (D.str "a").shw = true := by decide +kernel
    have hl : (D.str "a").shl = 12 := by decide +kernel
    have hp : (D.str "a").pd.depth = 0 := by simp only [D.pd, PyData.depth]
    have hs : asc (PyData.str "a").shown = true := by decide +kernel
    refine ⟨rfl, rfl, ?_, ?_, ?_, fun ds e => ?_, ?_, ?_⟩
    · simp only [D.shw] at ha
      simp only [D.shw, D.shwk, ih.shw, D.leafB]
      rw [ha]; rfl
    · have := ih.depth
      simp only [D.pd, D.pdk, PyData.depth, PyData.depthKv]
      omega
    · have := ih.shl
      simp only [D.shl, D.shlk] at hl ⊢
      omega
    · cases e
    · rw [e]; exact asc_dict _ fun t ht => by
        cases List.mem_singleton.mp ht
        exact asc_app (asc_app hs (by decide +kernel)) ih.asc
    · rw [e]; exact no_word (.inr (.inr rfl)) hr
  | @t2 n d h ih =>
    have e : (D.tup [d, .non]).pd.shown = tupleText [d.pd.shown, PyData.shown .none] := by simp only [D.pd, D.pds, PyData.shown, PyData.shownAll]
    obtain ⟨r, hr⟩ := cl_tuple [d.pd.shown, PyData.shown .none]
    refine ⟨rfl, rfl, ?_, ?_, ?_, fun ds e => ?_, ?_, ?_⟩
    · simp only [D.shw, D.shws, ih.shw, Bool.and_self]
    · have := ih.depth
      simp only [D.pd, D.pds, PyData.depth, PyData.depthAll]; omega
    · have := ih.shl
      simp only [D.shl, D.shls]; omega
    · cases e; simp
    · rw [e]; exact asc_tuple _ fun t ht => by
        simp only [List.mem_cons, List.not_mem_nil, or_false] at ht
        rcases ht with rfl | rfl
        · exact ih.asc
        · exact asc_none
    · rw [e]; exact no_word (.inl rfl) hr
end K77
end ZK77j
section ZK77k
set_option Elab.async false
set_option linter.all false
set_option maxRecDepth 100000
set_option maxHeartbeats 400000
set_option exponentiation.threshold 5000
namespace K77
open PySem PD
/-! what may be shown -/
structure Shw (d : D) : Prop where
  shw : d.shw = true
  depth : d.pd.depth ≤ 10
  shl : d.shl ≤ 3000
  asc : asc d.pd.shown = true
theorem Fine.show {n : Nat} {d : D} (h : Fine n d) (hn : n ≤ 4) : Shw d := ⟨h.shw, by have := h.depth; omega, by have := h.shl; omega, h.asc⟩
theorem shw_all : ∀ ds : List D, (∀ d ∈ ds, Shw d) → D.shws ds = true ∧ PyData.depthAll (D.pds ds) ≤ 10 ∧ D.shls ds ≤ 3002 * ds.length ∧ ∀ t ∈ PyData.shownAll (D.pds ds), asc t = true
  | [], _ => by
    refine ⟨by simp only [D.shws], by simp only [D.pds, PyData.depthAll]; omega, by simp only [D.shls]; omega, fun t ht => ?_⟩
    simp only [D.pds, PyData.shownAll] at ht
    exact nomatch ht
  | d :: ds, h => by
    obtain ⟨h1, h2, h3, h4⟩ := shw_all ds fun x hx => h x (List.mem_cons_of_mem _ hx)
    have hd := h d (List.mem_cons_self ..)
    have := hd.depth
    have := hd.shl
    refine ⟨by simp only [D.shws, hd.shw, h1, Bool.and_self], by simp only [D.pds, PyData.depthAll]; omega, by simp only [D.shls, List.length_cons]; omega, fun t ht => ?_⟩
    simp only [D.pds, PyData.shownAll, List.mem_cons] at ht
    rcases ht with rfl | ht
    · exact hd.asc
    · exact h4 t ht
theorem repr_some {d : D} (h : d.shw = true) (h2 : d.pd.depth ≤ 60) (h3 : d.shl ≤ LIM) : biD .reprA [d] = some (.str d.pd.shown) := by
  show (if d.shw && decide (d.pd.depth ≤ 60) && decide (d.shl ≤ LIM) then some (D.str d.pd.shown) else none) = _
  rw [h, decide_eq_true h2, decide_eq_true h3]; rfl
theorem repr_shw {d : D} (h : Shw d) : biD .reprA [d] = some (.str d.pd.shown) := repr_some h.shw (by have := h.depth; omega) (by have := h.shl; unfold LIM; omega)
theorem repr_tup {ds : List D} (h : ∀ d ∈ ds, Shw d) (hl : ds.length ≤ 4) : biD .reprA [.tup ds] = some (.str (D.tup ds).pd.shown) ∧ asc (D.tup ds).pd.shown = true := by
  obtain ⟨h1, h2, h3, h4⟩ := shw_all ds h
  refine ⟨repr_some (by simp only [D.shw, h1]) (by simp only [D.pd, PyData.depth]; omega) (by simp only [D.shl]; unfold LIM; omega), ?_⟩
  simp only [D.pd, PyData.shown]
  exact asc_tuple _ h4
theorem ne_same {s : Str} (h : asc s = true) : cmpD .ne (.str s) (.str s) = some false := by
  show (if (D.str s).eqOk && (D.str s).eqOk then some (!(s == s)) else none) = _
  rw [asc_eqOk h, beq_self_eq_true]; rfl
/-! what the law awaits -/
def wname (k : Nat) : Str := if k = 1 then "many" else "word"
def dueR (o : Option (Nat × D)) : D := match o with
  | none => .tup [.str "none", .non]
  | some (k, v) => .tup [.str (wname k), v]
theorem ev_reprA {cf : Calls} {env : PD.Env} {x : PD.X} {d r : D} (h : evE pg cf x env = PD.ret d) (hv : ∀ i, d ≠ .ref i) (hb : biD .reprA [d] = some r) : evE pg cf (.bif .reprA (.cons x .nil)) env = PD.ret r := ev_bif1 h hv hb
theorem due_ev (n : Nat) {a b c w : D} (ha : Fine 4 a) (hb : Fine 4 b) (hc : Fine 4 c) (hw : Fine 4 w) : callN pg (n + 2) 23 [.tup [a, b, c, w]] = PD.ret (dueR (chkR a b c w)) := by
  refine runF_rt (P := pg) (cf := callN pg (n + 1)) (fd := ⟨1, 5, t23⟩) (ds := [.tup [a, b, c, w]]) rfl ?_
  show evB pg (callN pg (n + 1)) t23 [.v (.tup [a, b, c, w]), .no, .no, .no, .no] = _
  unfold t23
  rw [evB_nx (env' := [.v (.tup [a, b, c, w]), .v a, .v b, .v c, .v w]) rfl]
  have e1 : evE pg (callN pg (n + 1)) (.not_ (.call 22 (.cons (.var 1) (.cons (.lit (.int 1)) (.cons (.lit (.int 8)) .nil))))) [.v (.tup [a, b, c, w]), .v a, .v b, .v c, .v w] = PD.ret (.bl (!numB a 1 8)) := ev_not (ev_call (ds := [a, .int 1, .int 8]) rfl (num_ev n ha.shp 1 8))
  have e3 : evE pg (callN pg (n + 1)) (.not_ (.call 22 (.cons (.var 3) (.cons (.lit (.int 1)) (.cons (.lit (.int 3)) .nil))))) [.v (.tup [a, b, c, w]), .v a, .v b, .v c, .v w] = PD.ret (.bl (!numB c 1 3)) := ev_not (ev_call (ds := [c, .int 1, .int 3]) rfl (num_ev n hc.shp 1 3))
  have e4 : evE pg (callN pg (n + 1)) (.cmp .in_ (.bif .reprA (.cons (.var 4) .nil)) (.tup (.cons (.lit (.str "'both'")) (.cons (.lit (.str "'out'")) .nil)))) [.v (.tup [a, b, c, w]), .v a, .v b, .v c, .v w] = PD.ret (.bl (isW w)) := by
    have hx := in_words hw.asc
    have hwd : wordB w.pd.shown = isW w := hw.word
    unfold wordB at hwd
    rw [hwd] at hx
    exact ev_cmp (d := .str w.pd.shown) (e := words) (ev_reprA (d := w) rfl (shp_nr hw.shp) (repr_shw (hw.show (Nat.le_refl 4)))) rfl (fun _ z => nomatch z) (fun _ z => nomatch z) hx
  unfold chkR
  by_cases k1 : numB a 1 8 = true
  · rw [if_pos k1]
    rw [k1] at e1
    rw [evB_nx ((ev_if e1).trans rfl)]
    cases a with
    | int i =>
      have e2 : evE pg (callN pg (n + 1)) (.not_ (.call 22 (.cons (.var 2) (.cons (.var 1) (.cons (.lit (.int 8)) .nil))))) [.v (.tup [.int i, b, c, w]), .v (.int i), .v b, .v c, .v w] = PD.ret (.bl (!numB b i 8)) := ev_not (ev_call (ds := [b, .int i, .int 8]) rfl (num_ev n hb.shp i 8))
      dsimp only
      by_cases k2 : numB b i 8 = true
      · rw [if_pos k2]
        rw [k2] at e2
        rw [evB_nx ((ev_if e2).trans rfl)]
        by_cases k3 : numB c 1 3 = true
        · rw [if_pos k3]
          rw [k3] at e3
          rw [evB_nx ((ev_if e3).trans rfl)]
          refine evB_rt (ev_rt ?_)
          rw [ev_ite e4]
          by_cases k4 : isW w = true
          · rw [if_pos k4, if_pos k4]; rfl
          · rw [if_neg k4, if_neg k4]; rfl
        · rw [if_neg k3]
          rw [Bool.eq_false_iff.mpr k3] at e3
          exact evB_rt ((ev_if e3).trans rfl)
      · rw [if_neg k2]
        rw [Bool.eq_false_iff.mpr k2] at e2
        exact evB_rt ((ev_if e2).trans rfl)
    | _ => exact absurd k1 (by simp [numB])
  · rw [if_neg k1]
    rw [Bool.eq_false_iff.mpr k1] at e1
    exact evB_rt ((ev_if e1).trans rfl)
theorem ev_or1 {P : Prog} {cf : Calls} {env : PD.Env} {a b : PD.X} (h1 : evE P cf a env = PD.ret (.bl true)) : evE P cf (.or_ (.cons a (.cons b .nil))) env = PD.ret (.bl true) := by
  show bnd (bnd (evE P cf a env) blD) (fun k => if k then PD.ret (D.bl true) else evE P cf b env) = _
  rw [h1]; rfl
/-! a row of the law -/
structure RowOk (a b c w : D) : Prop where
  oa : Od 4 a
  ob : Od 4 b
  oc : Od 4 c
  ow : Od 4 w
  shrt : ∀ i j k : Int, a = .int i → b = .int j → c = .int k → 1 ≤ i → i ≤ j → j ≤ 8 → 1 ≤ k → k ≤ 3 → Shrt i j k.toNat
theorem chk_some {a b c w : D} {k : Nat} {v : D} (h : chkR a b c w = some (k, v)) : (k = 1 ∨ k = 2) ∧ (v = a ∨ v = b ∨ v = c ∨ v = w) := by
  unfold chkR at h
  split at h
  · split at h
    · split at h
      · split at h
        · split at h
          · exact nomatch h
          · cases h; exact ⟨.inr rfl, .inr (.inr (.inr rfl))⟩
        · cases h; exact ⟨.inl rfl, .inr (.inr (.inl rfl))⟩
      · cases h; exact ⟨.inl rfl, .inr (.inl rfl)⟩
    · cases h; exact ⟨.inl rfl, .inl rfl⟩
  · cases h; exact ⟨.inl rfl, .inl rfl⟩
theorem num_true {d : D} {lo hi : Int} (h : numB d lo hi = true) : ∃ i, d = .int i ∧ lo ≤ i ∧ i ≤ hi := by
  cases d with
  | int i =>
    have h' : (decide (lo ≤ i) && decide (i ≤ hi)) = true := h
    simp only [Bool.and_eq_true, decide_eq_true_eq] at h'
    exact ⟨i, rfl, h'.1, h'.2⟩
  | _ => exact absurd h (by simp [numB])
theorem isW_true {d : D} (h : isW d = true) : ∃ s : Str, d = .str s ∧ (s = "both" ∨ s = "out") := by
  cases d with
  | str s =>
    have h' : (decide (s = ("both" : Str)) || decide (s = ("out" : Str))) = true := h
    simp only [Bool.or_eq_true, decide_eq_true_eq] at h'
    exact ⟨s, rfl, h'⟩
  | _ => exact absurd h (by simp [isW])
theorem chk_none {a b c w : D} (h : chkR a b c w = none) : ∃ (i j k : Int) (s : Str), a = .int i ∧ b = .int j ∧ c = .int k ∧ w = .str s ∧ 1 ≤ i ∧ i ≤ j ∧ j ≤ 8 ∧ 1 ≤ k ∧ k ≤ 3 ∧ (s = "both" ∨ s = "out") := by
  unfold chkR at h
  split at h
  · rename_i k1
    obtain ⟨i, rfl, h1, h2⟩ := num_true k1
    dsimp only at h
    split at h
    · rename_i k2
      obtain ⟨j, rfl, h3, h4⟩ := num_true k2
      split at h
      · rename_i k3
        obtain ⟨k, rfl, h5, h6⟩ := num_true k3
        split at h
        · rename_i k4
          obtain ⟨s, rfl, h7⟩ := isW_true k4
          exact ⟨i, j, k, s, rfl, rfl, rfl, rfl, h1, h3, h4, h5, h6, h7⟩
        · exact nomatch h
      · exact nomatch h
    · exact nomatch h
  · exact nomatch h
section
variable {a b c w : D}
theorem check_row (n : Nat) (r : RowOk a b c w) : callN pg (n + 3) 16 [a, b, c, w] = chkM (chkR a b c w) := check_ev n (fine_od r.oa).shp (fine_od r.ob).shp (fine_od r.oc).shp (fine_od r.ow).shp (fine_od r.ow).asW
theorem learned_row (r : RowOk a b c w) (st : Store) : ∃ more : Store, metR wsM (callN pg 87 17 [a, b, c, w] st) = .ok (dueR (chkR a b c w)) (st ++ more) := by
  cases h : chkR a b c w with
  | none =>
    obtain ⟨i, j, k, s, rfl, rfl, rfl, rfl, h1, h2, h3, h4, h5, h6⟩ := chk_none h
    obtain ⟨v, more, e⟩ := learned_ok i j k.toNat s h6 h1 h2 h3 (by omega) (r.shrt i j k rfl rfl rfl h1 h2 h3 h4 h5) st
    rw [Int.toNat_of_nonneg (by omega)] at e
    exact ⟨more, by rw [e]; rfl⟩
  | some p =>
    obtain ⟨k, v⟩ := p
    have e : callN pg 87 17 [a, b, c, w] = xc k v := by
      refine runF_xc (P := pg) (cf := callN pg 86) (fd := ⟨4, 6, t17⟩) (ds := [a, b, c, w]) rfl ?_
      show evB pg (callN pg 86) t17 [.v a, .v b, .v c, .v w, .no, .no] = _
      unfold t17
      refine evB_xc ?_
      show bnd (callN pg 86 16 [a, b, c, w]) (fun _ => PD.ret (Out.nx _)) = _
      rw [check_row 83 r, h]; rfl
    refine ⟨[], ?_⟩
    rw [e, List.append_nil]
    rcases (chk_some h).1 with rfl | rfl <;> rfl
theorem shows_row (r : RowOk a b c w) {v : D} (hv : Od 4 v) (st : Store) : metR wsM (callN pg 87 27 [a, b, c, w, v] st) = .ok (dueR (chkR a b c w)) st := by
  cases h : chkR a b c w with
  | some p =>
    obtain ⟨k, u⟩ := p
    have e : callN pg 87 27 [a, b, c, w, v] = xc k u := by
      refine runF_xc (P := pg) (cf := callN pg 86) (fd := ⟨5, 9, t27⟩) (ds := [a, b, c, w, v]) rfl ?_
      show evB pg (callN pg 86) t27 [.v a, .v b, .v c, .v w, .v v, .no, .no, .no, .no] = _
      unfold t27
      refine evB_xc ?_
      show bnd (callN pg 86 16 [a, b, c, w]) (fun _ => PD.ret (Out.nx _)) = _
      rw [check_row 83 r, h]; rfl
    rw [e]
    rcases (chk_some h).1 with rfl | rfl <;> rfl
  | none =>
    have hs := (fine_od hv).shp
    have h26 : callN pg 86 26 [v, .int 3, .int 3] = PD.ret (.bl false) := by
      refine runF_rt (P := pg) (cf := callN pg 85) (fd := ⟨3, 3, t26⟩) (ds := [v, .int 3, .int 3]) rfl ?_
      refine evB_rt (ev_rt ?_)
      have hl : evE pg (callN pg 85) (.cmp2 .le .le (.var 1) (.bif .len (.cons (.var 0) .nil)) (.var 2)) [.v v, .v (.int 3), .v (.int 3)] = PD.ret (.bl false) ∨ tupB v = false := by
        cases v with
        | tup ds =>
          left
          have := (fine_od hv).two ds rfl
          refine (ev_lele (lo := 3) (hi := 3) (i := (ds.length : Int)) rfl rfl rfl).trans ?_
          rw [decide_eq_false (show ¬ (3 : Int) ≤ ds.length by omega)]; rfl
        | _ => right; rfl
      have e := istup_ev (P := pg) (cf := callN pg 85) (env := [.v v, .v (.int 3), .v (.int 3)]) (x := .var 0) rfl hs
      rcases hl with hl | hl
      · have e2 := ev_and2 e (y := false) fun _ => hl
        rw [Bool.and_false] at e2
        exact e2
      · rw [hl] at e
        exact ev_and2 (b := .cmp2 .le .le (.var 1) (.bif .len (.cons (.var 0) .nil)) (.var 2)) e (y := false) fun z => nomatch z
    have e : callN pg 87 27 [a, b, c, w, v] = PD.ret (.bl false) := by
      refine runF_rt (P := pg) (cf := callN pg 86) (fd := ⟨5, 9, t27⟩) (ds := [a, b, c, w, v]) rfl ?_
      show evB pg (callN pg 86) t27 [.v a, .v b, .v c, .v w, .v v, .no, .no, .no, .no] = _
      unfold t27
      rw [evB_nx (env' := [.v a, .v b, .v c, .v w, .v v, .no, .no, .no, .no]) (by
        show bnd (callN pg 86 16 [a, b, c, w]) (fun _ => PD.ret (Out.nx _)) = _
        rw [check_row 83 r, h]; rfl)]
      refine evB_rt ?_
      show noX (evS pg (callN pg 86) (.if_ _ _ _) _) = _
      have hor : evE pg (callN pg 86) (.or_ (.cons (.not_ (.call 26 (.cons (.var 4) (.cons (.glob 4) (.cons (.glob 4) .nil))))) (.cons (.not_ (.call 0 (.cons (.idx (.var 4) (.lit (.int 0))) .nil))) .nil))) [.v a, .v b, .v c, .v w, .v v, .no, .no, .no, .no] = PD.ret (.bl true) := by
        exact ev_or1 (ev_not (x := false) (ev_call (ds := [v, .int 3, .int 3]) rfl h26))
      rw [ev_if hor]; rfl
    rw [e]; rfl
end
end K77
end ZK77k
section ZK77c
set_option Elab.async false
set_option linter.all false
set_option maxRecDepth 100000
set_option maxHeartbeats 400000
set_option exponentiation.threshold 5000
namespace K77
open PySem PD
def q1 : PD.X := .asg 1 (.pl (.bin .add (.lit (.int 1)) (.call 19 (.cons (.var 0) (.cons (.lit (.int 6)) .nil)))))
def q2 : PD.X := .asg 2 (.pl (.lst (.cons (.var 1) (.cons (.bin .add (.var 1) (.call 19 (.cons (.var 0) (.cons (.lit (.int 3)) .nil)))) (.cons (.bin .add (.lit (.int 1)) (.call 19 (.cons (.var 0) (.cons (.lit (.int 2)) .nil)))) (.cons (.call 20 (.cons (.var 0) (.cons (.lst (.cons (.lit (.str "both")) (.cons (.lit (.str "out")) .nil))) .nil))) .nil))))))
def q3 : PD.X := .asg 3 (.own (.lst (.cons (.var 2) (.cons (.lst (.cons (.lit (.int 8)) (.cons (.lit (.int 8)) (.cons (.lit (.int 3)) (.cons (.lit (.str "out")) .nil))))) (.cons (.lst (.cons (.lit (.int 1)) (.cons (.lit (.int 1)) (.cons (.lit (.int 3)) (.cons (.lit (.str "both")) .nil))))) (.cons (.lst (.cons (.lit (.int 8)) (.cons (.lit (.int 7)) (.cons (.lit (.int 1)) (.cons (.lit (.str "both")) .nil))))) (.cons (.lst (.cons (.lit (.int 1)) (.cons (.lit (.int 9)) (.cons (.lit (.int 1)) (.cons (.lit (.str "both")) .nil))))) (.cons (.lst (.cons (.lit (.int 0)) (.cons (.lit (.int 1)) (.cons (.lit (.int 1)) (.cons (.lit (.str "out")) .nil))))) .nil))))))))
def q4 : PD.X := .asg 3 (.own (.bin .add (.peek 3) (.lst (.cons (.lst (.cons (.lit (.int 1)) (.cons (.lit (.int 2)) (.cons (.lit (.int 4)) (.cons (.lit (.str "out")) .nil))))) (.cons (.lst (.cons (.lit (.int 1)) (.cons (.lit (.int 2)) (.cons (.lit (.int 0)) (.cons (.lit (.str "out")) .nil))))) (.cons (.lst (.cons (.lit (.int 2)) (.cons (.lit (.int 1)) (.cons (.lit (.int 0)) (.cons (.lit (.str "on")) .nil))))) (.cons (.lst (.cons (.lit (.bl true)) (.cons (.lit (.int 2)) (.cons (.lit (.int 1)) (.cons (.lit (.str "both")) .nil))))) (.cons (.lst (.cons (.lit (.int 1)) (.cons (.lit (.bl true)) (.cons (.lit (.int 1)) (.cons (.lit (.str "both")) .nil))))) .nil))))))))
def q5 : PD.X := .asg 3 (.own (.bin .add (.peek 3) (.lst (.cons (.lst (.cons (.lit (.int 1)) (.cons (.lit (.int 2)) (.cons (.lit (.bl true)) (.cons (.lit (.str "both")) .nil))))) (.cons (.lst (.cons (.lit (.int 1)) (.cons (.lit (.int 2)) (.cons (.lit (.int 1)) (.cons (.lit .non) .nil))))) (.cons (.lst (.cons (.lit (.int 1)) (.cons (.lit (.int 2)) (.cons (.lit (.int 1)) (.cons (.tup (.cons (.lit (.str "both")) .nil)) .nil))))) (.cons (.lst (.cons (.lit (.int 1)) (.cons (.lit (.int 2)) (.cons (.lit (.int 1)) (.cons (.lit (.str "")) .nil))))) (.cons (.lst (.cons (.lit (.int 9)) (.cons (.lit (.int 9)) (.cons (.lit (.int 1)) (.cons (.lit (.str "both")) .nil))))) .nil))))))))
def q7 : PD.X := .freeze 3
def q9 : PD.X := .rt (.lit (.bl true))
def q6i : PD.X := .puti 5 (.call 19 (.cons (.var 0) (.cons (.lit (.int 4)) .nil))) (.call 21 (.cons (.var 0) .nil))
def q6a : PD.X := .asg 5 (.own (.bif .list (.cons (.var 2) .nil)))
def q6b : PD.X := .for_ (.tv 6) (.rng (.cons (.bin .add (.lit (.int 1)) (.call 19 (.cons (.var 0) (.cons (.lit (.int 2)) .nil)))) .nil)) (.cons q6i .nil)
def q6c : PD.X := .if_ (.not_ (.and_ (.cons (.call 22 (.cons (.idx (.peek 5) (.lit (.int 0))) (.cons (.lit (.int 1)) (.cons (.lit (.int 8)) .nil)))) (.cons (.call 22 (.cons (.idx (.peek 5) (.lit (.int 1))) (.cons (.bin .add (.idx (.peek 5) (.lit (.int 0))) (.lit (.int 4))) (.cons (.lit (.int 8)) .nil)))) .nil)))) (.cons (.freeze 5) (.cons (.app 3 (.var 5)) .nil)) .nil
def q6 : PD.X := .for_ (.tv 4) (.rng (.cons (.lit (.int 24)) .nil)) (.cons q6a (.cons q6b (.cons q6c .nil)))
def q8a : PD.X := .par 10 11 (.pl (.bif .reprA (.cons (.tup (.cons (.var 1) (.cons (.var 7) (.cons (.var 8) (.cons (.var 9) .nil))))) .nil))) (.pl (.bif .reprA (.cons (.call 23 (.cons (.tup (.cons (.var 1) (.cons (.var 7) (.cons (.var 8) (.cons (.var 9) .nil))))) .nil)) .nil)))
def q8b : PD.X := .if_ (.cmp .ne (.bif .reprA (.cons (.call 28 (.cons (.var 1) (.cons (.var 7) (.cons (.var 8) (.cons (.var 9) .nil))))) .nil)) (.var 11)) (.cons (.rt (.lit (.bl false))) .nil) .nil
def q8c : PD.X := .if_ (.cmp .ne (.bif .reprA (.cons (.call 29 (.cons (.var 1) (.cons (.var 7) (.cons (.var 8) (.cons (.var 9) (.cons (.var 0) .nil)))))) .nil)) (.var 11)) (.cons (.rt (.lit (.bl false))) .nil) .nil
def q8d : PD.X := .if_ (.cmp .ne (.bif .reprA (.cons (.tup (.cons (.var 1) (.cons (.var 7) (.cons (.var 8) (.cons (.var 9) .nil))))) .nil)) (.var 10)) (.cons (.rt (.lit (.bl false))) .nil) .nil
def q8 : PD.X := .for_ (.tt (.cons (.tv 1) (.cons (.tv 7) (.cons (.tv 8) (.cons (.tv 9) .nil))))) (.src (.var 3)) (.cons q8a (.cons q8b (.cons q8c (.cons q8d .nil))))
theorem q_all : t24 = (.cons q1 (.cons q2 (.cons q3 (.cons q4 (.cons q5 (.cons q6 (.cons q7 (.cons q8 (.cons q9 .nil))))))))) := rfl
theorem ev_parS {P : Prog} {cf : Calls} {env : PD.Env} {st st1 st2 : Store} {i j : Nat} {a b : PD.X} {x y : D} (h1 : evE P cf a env st = .ok x st1) (h2 : evE P cf b env st1 = .ok y st2) : evS P cf (.par i j (.pl a) (.pl b)) env st = .ok (.nx ((env.set i (.v x)).set j (.v y))) st2 := by
  show bnd (bnd (evE P cf a env) fun d => PD.ret (Sl.v d)) (fun x => bnd (bnd (evE P cf b env) fun d => PD.ret (Sl.v d)) fun y => PD.ret (Out.nx ((env.set i x).set j y))) st = _
  rw [bnd2 h1, bnd_ret, bnd2 h2]; rfl
/-! the rows -/
theorem od_int {n : Nat} {i : Int} (h : 0 ≤ i) (h2 : i ≤ 9) : Od n (.int i) := by
  have : i = 0 ∨ i = 1 ∨ i = 2 ∨ i = 3 ∨ i = 4 ∨ i = 5 ∨ i = 6 ∨ i = 7 ∨ i = 8 ∨ i = 9 := by omega
  rcases this with rfl | rfl | rfl | rfl | rfl | rfl | rfl | rfl | rfl | rfl
  · exact .base (by simp [bases])
  · exact .base (by simp [bases])
  · exact .more (by simp)
  · exact .more (by simp)
  · exact .base (by simp [bases])
  · exact .more (by simp)
  · exact .more (by simp)
  · exact .more (by simp)
  · exact .base (by simp [bases])
  · exact .base (by simp [bases])
theorem od_both {n : Nat} : Od n (.str "both") := .base (by simp [bases])
theorem od_out {n : Nat} : Od n (.str "out") := .base (by simp [bases])
theorem od_on {n : Nat} : Od n (.str "on") := .more (by simp)
theorem od_emp {n : Nat} : Od n (.str "") := .base (by simp [bases])
theorem od_true {n : Nat} : Od n (.bl true) := .base (by simp [bases])
theorem od_non {n : Nat} : Od n .non := .base (by simp [bases])
theorem od_tb {n : Nat} : Od n (.tup [.str "both"]) := .more (by simp)
def RowL (d : D) : Prop := ∃ a b c w : D, d = .lst [a, b, c, w] ∧ RowOk a b c w
def rows1 : List D := [.lst [.int 8, .int 8, .int 3, .str "out"], .lst [.int 1, .int 1, .int 3, .str "both"], .lst [.int 8, .int 7, .int 1, .str "both"], .lst [.int 1, .int 9, .int 1, .str "both"], .lst [.int 0, .int 1, .int 1, .str "out"]]
def rows2 : List D := [.lst [.int 1, .int 2, .int 4, .str "out"], .lst [.int 1, .int 2, .int 0, .str "out"], .lst [.int 2, .int 1, .int 0, .str "on"], .lst [.bl true, .int 2, .int 1, .str "both"], .lst [.int 1, .bl true, .int 1, .str "both"]]
def rows3 : List D := [.lst [.int 1, .int 2, .bl true, .str "both"], .lst [.int 1, .int 2, .int 1, .non], .lst [.int 1, .int 2, .int 1, .tup [.str "both"]], .lst [.int 1, .int 2, .int 1, .str ""], .lst [.int 9, .int 9, .int 1, .str "both"]]
theorem row_ii {i j : Int} {c w : D} (hi : 0 ≤ i ∧ i ≤ 9) (hj : 0 ≤ j ∧ j ≤ 9) (hc : Od 4 c) (hw : Od 4 w) (h : ∀ k : Int, c = .int k → 1 ≤ i → i ≤ j → j ≤ 8 → 1 ≤ k → k ≤ 3 → Shrt i j k.toNat) : RowL (.lst [.int i, .int j, c, w]) :=
  ⟨_, _, _, _, rfl, od_int hi.1 hi.2, od_int hj.1 hj.2, hc, hw, fun i' j' k e1 e2 e3 => by
    cases e1; cases e2; exact h k e3⟩
theorem rows_fix : ∀ d ∈ rows1 ++ rows2 ++ rows3, RowL d := by
  intro d hd
  simp only [rows1, rows2, rows3, List.cons_append, List.nil_append, List.mem_cons, List.not_mem_nil, or_false] at hd
  have sh : ∀ {i j l : Int}, (i = j ∨ (l ≤ 2 ∧ j ≤ i + 3) ∨ j < i ∨ 8 < j ∨ i < 1 ∨ 3 < l ∨ l < 1) → ∀ k : Int, D.int l = .int k → 1 ≤ i → i ≤ j → j ≤ 8 → 1 ≤ k → k ≤ 3 → Shrt i j k.toNat := fun h k e => by
    cases e
    intro h1 h2 h3 h4 h5
    unfold Shrt
    omega
  rcases hd with rfl | rfl | rfl | rfl | rfl | rfl | rfl | rfl | rfl | rfl | rfl | rfl | rfl | rfl | rfl
  · exact row_ii (by omega) (by omega) (od_int (by omega) (by omega)) od_out (sh (by omega))
  · exact row_ii (by omega) (by omega) (od_int (by omega) (by omega)) od_both (sh (by omega))
  · exact row_ii (by omega) (by omega) (od_int (by omega) (by omega)) od_both (sh (by omega))
  · exact row_ii (by omega) (by omega) (od_int (by omega) (by omega)) od_both (sh (by omega))
  · exact row_ii (by omega) (by omega) (od_int (by omega) (by omega)) od_out (sh (by omega))
  · exact row_ii (by omega) (by omega) (od_int (by omega) (by omega)) od_out (sh (by omega))
  · exact row_ii (by omega) (by omega) (od_int (by omega) (by omega)) od_out (sh (by omega))
  · exact row_ii (by omega) (by omega) (od_int (by omega) (by omega)) od_on (sh (by omega))
  · exact ⟨_, _, _, _, rfl, od_true, od_int (by omega) (by omega), od_int (by omega) (by omega), od_both, fun i j k e1 => nomatch e1⟩
  · exact ⟨_, _, _, _, rfl, od_int (by omega) (by omega), od_true, od_int (by omega) (by omega), od_both, fun i j k e1 e2 => nomatch e2⟩
  · exact row_ii (by omega) (by omega) od_true od_both (fun k e => nomatch e)
  · exact row_ii (by omega) (by omega) (od_int (by omega) (by omega)) od_non (sh (by omega))
  · exact row_ii (by omega) (by omega) (od_int (by omega) (by omega)) od_tb (sh (by omega))
  · exact row_ii (by omega) (by omega) (od_int (by omega) (by omega)) od_emp (sh (by omega))
  · exact row_ii (by omega) (by omega) (od_int (by omega) (by omega)) od_both (sh (by omega))
/-! the last loop -/
theorem ev_metS {P : Prog} {cf : Calls} {env : PD.Env} {st st1 : Store} {g : Nat} {ws : List (Nat × Str)} {as : PD.X} {ds : List D} {r : Res D} (h0 : st[0]? = some O.tbl) (ha : evA P cf as env st = .ok ds st1) (hm : metR ws (cf g ds st1) = r) : evE P cf (.met g ws as) env st = r := by
  show tab0 (bnd (noX (evA P cf as env)) fun ds st => metR ws (cf g ds st)) st = _
  unfold tab0
  rw [h0]
  have h : noX (evA P cf as env) st = .ok ds st1 := by unfold noX; rw [ha]
  show bnd (noX (evA P cf as env)) (fun ds st => metR ws (cf g ds st)) st = _
  rw [bnd_ok h]
  exact hm
theorem due_tup {a b c w : D} (r : RowOk a b c w) : ∃ ds, dueR (chkR a b c w) = .tup ds ∧ (∀ d ∈ ds, Shw d) ∧ ds.length ≤ 4 := by
  have sn : Shw .non := (fine_od (n := 4) od_non).show (Nat.le_refl 4)
  have st : ∀ x : Str, fineB (.str x) = true → Shw (.str x) := fun x hx => (fine_of (n := 4) hx).show (Nat.le_refl 4)
  have s1 : Shw (.str "none") := st _ (by decide +kernel)
  have s2 : Shw (.str "many") := st _ (by decide +kernel)
  have s3 : Shw (.str "word") := st _ (by decide +kernel)
  have sA : Shw a := (fine_od r.oa).show (Nat.le_refl 4)
  have sB : Shw b := (fine_od r.ob).show (Nat.le_refl 4)
  have sC : Shw c := (fine_od r.oc).show (Nat.le_refl 4)
  have sW : Shw w := (fine_od r.ow).show (Nat.le_refl 4)
  cases h : chkR a b c w with
  | none =>
    refine ⟨_, rfl, fun d hd => ?_, by show 2 ≤ 4; omega⟩
    simp only [List.mem_cons, List.not_mem_nil, or_false] at hd
    rcases hd with rfl | rfl
    · exact s1
    · exact sn
  | some p =>
    obtain ⟨k, v⟩ := p
    refine ⟨_, rfl, fun d hd => ?_, by show 2 ≤ 4; omega⟩
    simp only [List.mem_cons, List.not_mem_nil, or_false] at hd
    rcases hd with rfl | rfl
    · rcases (chk_some h).1 with rfl | rfl
      · exact s2
      · exact s3
    · rcases (chk_some h).2 with rfl | rfl | rfl | rfl
      · exact sA
      · exact sB
      · exact sC
      · exact sW
theorem row_repr {a b c w : D} (r : RowOk a b c w) : ∃ t : Str, biD .reprA [.tup [a, b, c, w]] = some (.str t) ∧ PySem.PyData.shown (D.tup [a, b, c, w]).pd = t ∧ asc t = true := by
  obtain ⟨h1, h2⟩ := repr_tup (ds := [a, b, c, w]) (fun d hd => by
    simp only [List.mem_cons, List.not_mem_nil, or_false] at hd
    rcases hd with rfl | rfl | rfl | rfl
    · exact (fine_od r.oa).show (Nat.le_refl 4)
    · exact (fine_od r.ob).show (Nat.le_refl 4)
    · exact (fine_od r.oc).show (Nat.le_refl 4)
    · exact (fine_od r.ow).show (Nat.le_refl 4)) (Nat.le_refl 4)
  exact ⟨_, h1, rfl, h2⟩
theorem met28 {a b c w : D} (r : RowOk a b c w) {N j : Nat} (st : Store) (hj : Jar N j st) : ∃ st', Jar N j st' ∧ callN pg 88 28 [a, b, c, w] st = .ok (dueR (chkR a b c w)) st' := by
  obtain ⟨more, e⟩ := learned_row r st
  refine ⟨st ++ more, hj.app more, runF_rtS (P := pg) (cf := callN pg 87) (fd := ⟨4, 4, tv0⟩) (ds := [a, b, c, w]) rfl ?_⟩
  show evB pg (callN pg 87) tv0 [.v a, .v b, .v c, .v w] st = _
  unfold tv0
  exact evB_rtS (ev_rtS (ev_metS (ds := [a, b, c, w]) (st1 := st) hj.tab rfl e))
theorem met29 {a b c w : D} (r : RowOk a b c w) {N j : Nat} (hN : N ≤ 4000) (st : Store) (hj : Jar N j st) : ∃ st', Jar (N + 6) j st' ∧ callN pg 88 29 [a, b, c, w, .ref j] st = .ok (dueR (chkR a b c w)) st' := by
  obtain ⟨v, s1, ⟨h1, _⟩, h2, h3⟩ := odd_ev 84 N j st hN hj
  refine ⟨s1, h2, runF_rtS (P := pg) (cf := callN pg 87) (fd := ⟨5, 5, tv1⟩) (ds := [a, b, c, w, .ref j]) rfl ?_⟩
  show evB pg (callN pg 87) tv1 [.v a, .v b, .v c, .v w, .v (.ref j)] st = _
  unfold tv1
  have ha : evA pg (callN pg 87) (.cons (.var 0) (.cons (.var 1) (.cons (.var 2) (.cons (.var 3) (.cons (.call 21 (.cons (.var 4) .nil)) .nil))))) [.v a, .v b, .v c, .v w, .v (.ref j)] st = .ok [a, b, c, w, v] s1 :=
    evA_consS (st1 := st) (by intro _ h; exact nomatch h) rfl (evA_consS (st1 := st) (by intro _ h; exact nomatch h) rfl (evA_consS (st1 := st) (by intro _ h; exact nomatch h) rfl (evA_consS (st1 := st) (by intro _ h; exact nomatch h) rfl (evA_consS (st1 := s1) (ds := []) (by intro _ h; exact nomatch h) (ev_callS (ds := [.ref j]) (st1 := st) rfl h3) rfl))))
  exact evB_rtS (ev_rtS (ev_metS hj.tab ha (shows_row r h1 s1)))
theorem q8_turn {a b c w : D} (r : RowOk a b c w) {N j : Nat} (hN : N ≤ 4000) (st : Store) (hj : Jar N j st) (x1 x2 x3 x4 x5 x6 x7 x8 x9 x10 x11 : Sl) :
    ∃ env' st', Jar (N + 6) j st' ∧ (∃ y1 y7 y8 y9 y10 y11, env' = [.v (.ref j), y1, x2, x3, x4, x5, x6, y7, y8, y9, y10, y11]) ∧
      evB pg (callN pg 88) (.cons q8a (.cons q8b (.cons q8c (.cons q8d .nil)))) [.v (.ref j), .v a, x2, x3, x4, x5, x6, .v b, .v c, .v w, x10, x11] st = .ok (.nx env') st' := by
  obtain ⟨ds, hd1, hd2, hd3⟩ := due_tup r
  obtain ⟨ht1, ht2⟩ := repr_tup hd2 hd3
  generalize ht : (D.tup ds).pd.shown = due at ht1 ht2
  obtain ⟨t, hr1, _, hr3⟩ := row_repr r
  obtain ⟨s1, j1, m1⟩ := met28 r st hj
  obtain ⟨s2, j2, m2⟩ := met29 r hN s1 j1
  rw [hd1] at m1 m2
  refine ⟨[.v (.ref j), .v a, x2, x3, x4, x5, x6, .v b, .v c, .v w, .v (.str t), .v (.str due)], s2, j2, ⟨_, _, _, _, _, _, rfl⟩, ?_⟩
  have e0 : evE pg (callN pg 88) (.bif .reprA (.cons (.tup (.cons (.var 1) (.cons (.var 7) (.cons (.var 8) (.cons (.var 9) .nil))))) .nil)) [.v (.ref j), .v a, x2, x3, x4, x5, x6, .v b, .v c, .v w, x10, x11] st = .ok (.str t) st := ev_bif1S (d := .tup [a, b, c, w]) rfl rfl hr1
  have e1 : evE pg (callN pg 88) (.bif .reprA (.cons (.call 23 (.cons (.tup (.cons (.var 1) (.cons (.var 7) (.cons (.var 8) (.cons (.var 9) .nil))))) .nil)) .nil)) [.v (.ref j), .v a, x2, x3, x4, x5, x6, .v b, .v c, .v w, x10, x11] st = .ok (.str due) st := by
    have hdue := congrFun (due_ev 86 (fine_od r.oa) (fine_od r.ob) (fine_od r.oc) (fine_od r.ow)) st
    rw [hd1] at hdue
    exact ev_bif1S (d := .tup ds) (ev_callS (ds := [.tup [a, b, c, w]]) (st1 := st) rfl hdue) rfl ht1
  unfold q8a q8b q8c q8d
  rw [evB_nxS (env' := [.v (.ref j), .v a, x2, x3, x4, x5, x6, .v b, .v c, .v w, .v (.str t), .v (.str due)]) (st1 := st) (ev_parS e0 e1)]
  have c1 : evE pg (callN pg 88) (.cmp .ne (.bif .reprA (.cons (.call 28 (.cons (.var 1) (.cons (.var 7) (.cons (.var 8) (.cons (.var 9) .nil))))) .nil)) (.var 11)) [.v (.ref j), .v a, x2, x3, x4, x5, x6, .v b, .v c, .v w, .v (.str t), .v (.str due)] st = .ok (.bl false) s1 :=
    ev_cmpS (ev_bif1S (d := .tup ds) (ev_callS (ds := [a, b, c, w]) (st1 := st) rfl m1) rfl ht1) (e := .str due) rfl rfl rfl (ne_same ht2)
  rw [evB_nxS (env' := [.v (.ref j), .v a, x2, x3, x4, x5, x6, .v b, .v c, .v w, .v (.str t), .v (.str due)]) (st1 := s1) ((ev_ifS c1).trans rfl)]
  have c2 : evE pg (callN pg 88) (.cmp .ne (.bif .reprA (.cons (.call 29 (.cons (.var 1) (.cons (.var 7) (.cons (.var 8) (.cons (.var 9) (.cons (.var 0) .nil)))))) .nil)) (.var 11)) [.v (.ref j), .v a, x2, x3, x4, x5, x6, .v b, .v c, .v w, .v (.str t), .v (.str due)] s1 = .ok (.bl false) s2 :=
    ev_cmpS (ev_bif1S (d := .tup ds) (ev_callS (ds := [a, b, c, w, .ref j]) (st1 := s1) rfl m2) rfl ht1) (e := .str due) rfl rfl rfl (ne_same ht2)
  rw [evB_nxS (env' := [.v (.ref j), .v a, x2, x3, x4, x5, x6, .v b, .v c, .v w, .v (.str t), .v (.str due)]) (st1 := s2) ((ev_ifS c2).trans rfl)]
  have c3 : evE pg (callN pg 88) (.cmp .ne (.bif .reprA (.cons (.tup (.cons (.var 1) (.cons (.var 7) (.cons (.var 8) (.cons (.var 9) .nil))))) .nil)) (.var 10)) [.v (.ref j), .v a, x2, x3, x4, x5, x6, .v b, .v c, .v w, .v (.str t), .v (.str due)] s2 = .ok (.bl false) s2 :=
    ev_cmpS (ev_bif1S (d := .tup [a, b, c, w]) rfl rfl hr1) (e := .str t) rfl rfl rfl (ne_same hr3)
  rw [evB_nxS (env' := [.v (.ref j), .v a, x2, x3, x4, x5, x6, .v b, .v c, .v w, .v (.str t), .v (.str due)]) (st1 := s2) ((ev_ifS c3).trans rfl)]
  rfl
theorem q8_ev {N j : Nat} (rows : List D) (hr : ∀ d ∈ rows, RowL d) (hl : rows.length ≤ 40) (hN : N ≤ 3000) (st : Store) (hj : Jar N j st) (x1 x2 x4 x5 x6 x7 x8 x9 x10 x11 : Sl) :
    ∃ env' st', Jar (N + 240) j st' ∧ evS pg (callN pg 88) q8 [.v (.ref j), x1, x2, .v (.lst rows), x4, x5, x6, x7, x8, x9, x10, x11] st = .ok (.nx env') st' := by
  obtain ⟨env', s', ⟨_, hJ⟩, hf⟩ := forL_invB (f := fun d e => match bindT (.tt (.cons (.tv 1) (.cons (.tv 7) (.cons (.tv 8) (.cons (.tv 9) .nil))))) d e with
      | some e => evB pg (callN pg 88) (.cons q8a (.cons q8b (.cons q8c (.cons q8d .nil)))) e
      | none => fail) (fun i env st => (∃ y1 y7 y8 y9 y10 y11, env = [.v (.ref j), y1, x2, .v (.lst rows), x4, x5, x6, y7, y8, y9, y10, y11]) ∧ Jar (N + 6 * i) j st) rows.length rows 0 [.v (.ref j), x1, x2, .v (.lst rows), x4, x5, x6, x7, x8, x9, x10, x11] st (by omega) ⟨⟨_, _, _, _, _, _, rfl⟩, hj⟩ fun i d env st hi hd hI => by
    obtain ⟨⟨y1, y7, y8, y9, y10, y11, rfl⟩, hJ⟩ := hI
    obtain ⟨a, b, c, w, rfl, r⟩ := hr d hd
    obtain ⟨env', st', h1, h2, h3⟩ := q8_turn r (N := N + 6 * i) (by omega) st hJ y1 x2 (.v (.lst rows)) x4 x5 x6 y7 y8 y9 y10 y11
    exact ⟨env', st', ⟨h2, by rw [Nat.mul_succ, ← Nat.add_assoc]; exact h1⟩, h3⟩
  refine ⟨env', s', hJ.mono (by omega), ?_⟩
  unfold q8
  exact ev_forS (st1 := st) rfl hf
/-! the rows drawn -/
structure Cells (a b c w : D) : Prop where
  oa : Od 4 a
  ob : Od 4 b
  oc : Od 4 c
  ow : Od 4 w
  c3 : c ≠ .int 3
theorem Cells.row {a b c w : D} (h : Cells a b c w) (hn : ¬ (numB a 1 8 = true ∧ ∃ i : Int, a = .int i ∧ numB b (i + 4) 8 = true)) : RowOk a b c w := by
  refine ⟨h.oa, h.ob, h.oc, h.ow, fun i j k e1 e2 e3 h1 h2 h3 h4 h5 => .inr ⟨?_, ?_⟩⟩
  · have : k ≠ 3 := fun e => by subst e; exact h.c3 e3
    omega
  · rcases Int.lt_or_le (i + 3) j with y | y
    · refine absurd ⟨?_, i, e1, ?_⟩ hn
      · rw [e1]
        show (decide (1 ≤ i) && decide (i ≤ 8)) = true
        rw [decide_eq_true h1, decide_eq_true (show i ≤ 8 by omega)]; rfl
      · rw [e2]
        show (decide (i + 4 ≤ j) && decide (j ≤ 8)) = true
        rw [decide_eq_true (show i + 4 ≤ j by omega), decide_eq_true h3]; rfl
    · omega
theorem q6i_ev {N j : Nat} {a b c w : D} (h : Cells a b c w) (hN : N ≤ 3000) (st : Store) (hj : Jar N j st) (x1 x2 x3 x4 x6 : Sl) :
    ∃ a' b' c' w' st', Cells a' b' c' w' ∧ Jar (N + 7) j st' ∧ evS pg (callN pg 88) q6i [.v (.ref j), x1, x2, x3, x4, .ol [a, b, c, w], x6, .no, .no, .no, .no, .no] st = .ok (.nx [.v (.ref j), x1, x2, x3, x4, .ol [a', b', c', w'], x6, .no, .no, .no, .no, .no]) st' := by
  obtain ⟨v, s1, ⟨o1, o2⟩, o3, o4⟩ := odd_ev 85 N j st (by omega) hj
  obtain ⟨r, s2, t1, t2, t3, t4⟩ := take_ev 87 (N + 6) j 4 s1 (by omega) (by omega) (by omega) o3
  have key : ∀ k : Nat, k < 4 → r = (k : Int) → evS pg (callN pg 88) q6i [.v (.ref j), x1, x2, x3, x4, .ol [a, b, c, w], x6, .no, .no, .no, .no, .no] st = .ok (.nx [.v (.ref j), x1, x2, x3, x4, .ol ([a, b, c, w].set k v), x6, .no, .no, .no, .no, .no]) s2 := fun k hk hr => by
    unfold q6i
    show bnd (evE pg (callN pg 88) (.call 21 (.cons (.var 0) .nil)) [.v (.ref j), x1, x2, x3, x4, .ol [a, b, c, w], x6, .no, .no, .no, .no, .no]) (fun d => bnd (evE pg (callN pg 88) (.call 19 (.cons (.var 0) (.cons (.lit (.int 4)) .nil))) [.v (.ref j), x1, x2, x3, x4, .ol [a, b, c, w], x6, .no, .no, .no, .no, .no]) fun x => match some (Sl.ol [a, b, c, w]), x with
      | some (.ol ds), .int n => match PD.ixN ds.length n with
        | some k => PD.ret (Out.nx [.v (.ref j), x1, x2, x3, x4, .ol (ds.set k d), x6, .no, .no, .no, .no, .no])
        | none => fail
      | _, _ => fail) st = _
    rw [bnd_ok (ev_callS (ds := [.ref j]) (st1 := st) rfl o4), bnd_ok (ev_callS (ds := [.ref j, .int 4]) (st1 := s1) rfl t4)]
    show (match PD.ixN 4 r with
        | some k => PD.ret (Out.nx [.v (.ref j), x1, x2, x3, x4, .ol ([a, b, c, w].set k v), x6, .no, .no, .no, .no, .no])
        | none => fail) s2 = _
    rw [hr, ixN_nat hk]; rfl
  have hr : r = 0 ∨ r = 1 ∨ r = 2 ∨ r = 3 := by omega
  rcases hr with e | e | e | e
  · exact ⟨v, b, c, w, s2, ⟨o1, h.ob, h.oc, h.ow, h.c3⟩, t3, key 0 (by omega) e⟩
  · exact ⟨a, v, c, w, s2, ⟨h.oa, o1, h.oc, h.ow, h.c3⟩, t3, key 1 (by omega) e⟩
  · exact ⟨a, b, v, w, s2, ⟨h.oa, h.ob, o1, h.ow, o2⟩, t3, key 2 (by omega) e⟩
  · exact ⟨a, b, c, v, s2, ⟨h.oa, h.ob, h.oc, o1, h.c3⟩, t3, key 3 (by omega) e⟩
theorem q6b_ev {N j : Nat} {a b c w : D} (h : Cells a b c w) (hN : N ≤ 2000) (st : Store) (hj : Jar N j st) (x1 x2 x3 x4 x6 : Sl) :
    ∃ a' b' c' w' y6 st', Cells a' b' c' w' ∧ Jar (N + 15) j st' ∧ evS pg (callN pg 88) q6b [.v (.ref j), x1, x2, x3, x4, .ol [a, b, c, w], x6, .no, .no, .no, .no, .no] st = .ok (.nx [.v (.ref j), x1, x2, x3, x4, .ol [a', b', c', w'], y6, .no, .no, .no, .no, .no]) st' := by
  obtain ⟨r, s1, t1, t2, t3, t4⟩ := take_ev 87 N j 2 st (by omega) (by omega) (by omega) hj
  have hlen : (rangeD 0 (1 + r)).length = (1 + r).toNat := by unfold rangeD; rw [List.length_map, List.length_range, Int.sub_zero]
  obtain ⟨env', s', ⟨⟨a', b', c', w', y6, rfl, hc⟩, hJ⟩, hf⟩ := forL_invB (f := fun d e => match bindT (.tv 6) d e with
      | some e => evB pg (callN pg 88) (.cons q6i .nil) e
      | none => fail) (fun i env st => (∃ a b c w y6, env = [.v (.ref j), x1, x2, x3, x4, .ol [a, b, c, w], y6, .no, .no, .no, .no, .no] ∧ Cells a b c w) ∧ Jar (N + 1 + 7 * i) j st) 2 (rangeD 0 (1 + r)) 0 [.v (.ref j), x1, x2, x3, x4, .ol [a, b, c, w], x6, .no, .no, .no, .no, .no] s1 (by omega) ⟨⟨_, _, _, _, _, rfl, h⟩, t3⟩ fun i d env st hi hd hI => by
    obtain ⟨⟨a, b, c, w, y6, rfl, hc⟩, hJ⟩ := hI
    obtain ⟨a', b', c', w', st', c1, c2, c3⟩ := q6i_ev hc (N := N + 1 + 7 * i) (by omega) st hJ x1 x2 x3 x4 (.v d)
    refine ⟨_, st', ⟨⟨a', b', c', w', .v d, rfl, c1⟩, c2.mono (by omega)⟩, ?_⟩
    show evB pg (callN pg 88) (.cons q6i .nil) [.v (.ref j), x1, x2, x3, x4, .ol [a, b, c, w], .v d, .no, .no, .no, .no, .no] st = _
    rw [evB_nxS c3]; rfl
  refine ⟨a', b', c', w', y6, s', hc, hJ.mono (by omega), ?_⟩
  unfold q6b
  refine ev_forS (ev_rng1S (j := 1 + r) ?_ (by unfold gRng; rw [decide_eq_true_eq]; omega)) hf
  exact ev_binS (d := .int 1) (st1 := st) rfl (ev_callS (ds := [.ref j, .int 2]) (st1 := st) rfl t4) ne_int ne_int rfl
theorem q6c_ev {j : Nat} {a b c w : D} (h : Cells a b c w) (rows : List D) (hr : ∀ d ∈ rows, RowL d) (hl : rows.length < LIM) (st : Store) (x1 x2 x4 x6 : Sl) :
    ∃ rows' y5, (∀ d ∈ rows', RowL d) ∧ rows'.length ≤ rows.length + 1 ∧ evS pg (callN pg 88) q6c [.v (.ref j), x1, x2, .ol rows, x4, .ol [a, b, c, w], x6, .no, .no, .no, .no, .no] st = .ok (.nx [.v (.ref j), x1, x2, .ol rows', x4, y5, x6, .no, .no, .no, .no, .no]) st := by
  have t1 : evE pg (callN pg 88) (.call 22 (.cons (.idx (.peek 5) (.lit (.int 0))) (.cons (.lit (.int 1)) (.cons (.lit (.int 8)) .nil)))) [.v (.ref j), x1, x2, .ol rows, x4, .ol [a, b, c, w], x6, .no, .no, .no, .no, .no] = PD.ret (.bl (numB a 1 8)) := ev_call (ds := [a, .int 1, .int 8]) rfl (num_ev 87 (fine_od h.oa).shp 1 8)
  have t2 : ∀ i : Int, a = .int i → evE pg (callN pg 88) (.call 22 (.cons (.idx (.peek 5) (.lit (.int 1))) (.cons (.bin .add (.idx (.peek 5) (.lit (.int 0))) (.lit (.int 4))) (.cons (.lit (.int 8)) .nil)))) [.v (.ref j), x1, x2, .ol rows, x4, .ol [a, b, c, w], x6, .no, .no, .no, .no, .no] = PD.ret (.bl (numB b (i + 4) 8)) := fun i e => by
    subst e
    exact ev_call (ds := [b, .int (i + 4), .int 8]) rfl (num_ev 87 (fine_od h.ob).shp (i + 4) 8)
  have add : (¬ (numB a 1 8 = true ∧ ∃ i : Int, a = .int i ∧ numB b (i + 4) 8 = true)) → evE pg (callN pg 88) (.and_ (.cons (.call 22 (.cons (.idx (.peek 5) (.lit (.int 0))) (.cons (.lit (.int 1)) (.cons (.lit (.int 8)) .nil)))) (.cons (.call 22 (.cons (.idx (.peek 5) (.lit (.int 1))) (.cons (.bin .add (.idx (.peek 5) (.lit (.int 0))) (.lit (.int 4))) (.cons (.lit (.int 8)) .nil)))) .nil))) [.v (.ref j), x1, x2, .ol rows, x4, .ol [a, b, c, w], x6, .no, .no, .no, .no, .no] = PD.ret (.bl false) → ∃ rows' y5, (∀ d ∈ rows', RowL d) ∧ rows'.length ≤ rows.length + 1 ∧ evS pg (callN pg 88) q6c [.v (.ref j), x1, x2, .ol rows, x4, .ol [a, b, c, w], x6, .no, .no, .no, .no, .no] st = .ok (.nx [.v (.ref j), x1, x2, .ol rows', x4, y5, x6, .no, .no, .no, .no, .no]) st := fun hn he => by
    refine ⟨rows ++ [.lst [a, b, c, w]], .v (.lst [a, b, c, w]), fun d hd => ?_, by rw [List.length_append]; exact Nat.le_refl _, ?_⟩
    · rcases List.mem_append.mp hd with hd | hd
      · exact hr d hd
      · cases List.mem_singleton.mp hd
        exact ⟨a, b, c, w, rfl, h.row hn⟩
    · unfold q6c
      refine (congrFun (ev_if (ev_not he)) st).trans ?_
      show evB pg (callN pg 88) (.cons (.freeze 5) (.cons (.app 3 (.var 5)) .nil)) [.v (.ref j), x1, x2, .ol rows, x4, .ol [a, b, c, w], x6, .no, .no, .no, .no, .no] st = _
      rw [evB_nxS (env' := [.v (.ref j), x1, x2, .ol rows, x4, .v (.lst [a, b, c, w]), x6, .no, .no, .no, .no, .no]) (st1 := st) rfl]
      rw [evB_nxS (env' := [.v (.ref j), x1, x2, .ol (rows ++ [.lst [a, b, c, w]]), x4, .v (.lst [a, b, c, w]), x6, .no, .no, .no, .no, .no]) (st1 := st) (by
        show (if rows.length < LIM then PD.ret (Out.nx [.v (.ref j), x1, x2, .ol (rows ++ [.lst [a, b, c, w]]), x4, .v (.lst [a, b, c, w]), x6, .no, .no, .no, .no, .no]) else fail) st = _
        rw [if_pos hl]; rfl)]
      rfl
  by_cases k1 : numB a 1 8 = true
  · obtain ⟨i, rfl, _, _⟩ := num_true k1
    have he := ev_and2 t1 fun _ => t2 i rfl
    rw [k1, Bool.true_and] at he
    by_cases k2 : numB b (i + 4) 8 = true
    · rw [k2] at he
      refine ⟨rows, .ol [.int i, b, c, w], hr, Nat.le_succ _, ?_⟩
      unfold q6c
      exact (congrFun (ev_if (ev_not he)) st).trans rfl
    · rw [Bool.eq_false_iff.mpr k2] at he
      exact add (fun ⟨_, i', e, e2⟩ => by cases e; exact k2 e2) he
  · rw [Bool.eq_false_iff.mpr k1] at t1
    exact add (fun z => k1 z.1) (ev_and2 t1 (y := false) fun z => nomatch z)
theorem q6_ev {N j : Nat} {a b c w : D} (h : Cells a b c w) (rows : List D) (hr : ∀ d ∈ rows, RowL d) (hl : rows.length ≤ 16) (hN : N ≤ 1500) (st : Store) (hj : Jar N j st) (x1 : Sl) :
    ∃ rows' x4 x5 x6 st', (∀ d ∈ rows', RowL d) ∧ rows'.length ≤ 40 ∧ Jar (N + 360) j st' ∧ evS pg (callN pg 88) q6 [.v (.ref j), x1, .v (.lst [a, b, c, w]), .ol rows, .no, .no, .no, .no, .no, .no, .no, .no] st = .ok (.nx [.v (.ref j), x1, .v (.lst [a, b, c, w]), .ol rows', x4, x5, x6, .no, .no, .no, .no, .no]) st' := by
  obtain ⟨env', s', ⟨⟨rows', x4, x5, x6, rfl, g1, g2⟩, hJ⟩, hf⟩ := forL_invB (f := fun d e => match bindT (.tv 4) d e with
      | some e => evB pg (callN pg 88) (.cons q6a (.cons q6b (.cons q6c .nil))) e
      | none => fail) (fun i env st => (∃ rows' x4 x5 x6, env = [.v (.ref j), x1, .v (.lst [a, b, c, w]), .ol rows', x4, x5, x6, .no, .no, .no, .no, .no] ∧ (∀ d ∈ rows', RowL d) ∧ rows'.length ≤ 16 + i) ∧ Jar (N + 15 * i) j st) 24 (rangeD 0 24) 0 [.v (.ref j), x1, .v (.lst [a, b, c, w]), .ol rows, .no, .no, .no, .no, .no, .no, .no, .no] st (by show 0 + 24 ≤ 24; omega) ⟨⟨_, _, _, _, rfl, hr, hl⟩, hj⟩ fun i d env st hi hd hI => by
    obtain ⟨⟨rs, x4, x5, x6, rfl, g1, g2⟩, hJ⟩ := hI
    obtain ⟨a', b', c', w', y6, st', c1, c2, c3⟩ := q6b_ev h (N := N + 15 * i) (by omega) st hJ x1 (.v (.lst [a, b, c, w])) (.ol rs) (.v d) x6
    obtain ⟨rows', y5, d1, d2, d3⟩ := q6c_ev (j := j) c1 rs g1 (by unfold LIM; omega) st' x1 (.v (.lst [a, b, c, w])) (.v d) y6
    refine ⟨_, st', ⟨⟨rows', .v d, y5, y6, rfl, d1, by omega⟩, by rw [Nat.mul_succ, ← Nat.add_assoc]; exact c2⟩, ?_⟩
    show evB pg (callN pg 88) (.cons q6a (.cons q6b (.cons q6c .nil))) [.v (.ref j), x1, .v (.lst [a, b, c, w]), .ol rs, .v d, x5, x6, .no, .no, .no, .no, .no] st = _
    rw [evB_nxS (env' := [.v (.ref j), x1, .v (.lst [a, b, c, w]), .ol rs, .v d, .ol [a, b, c, w], x6, .no, .no, .no, .no, .no]) (st1 := st) rfl]
    rw [evB_nxS c3, evB_nxS d3]; rfl
  refine ⟨rows', x4, x5, x6, s', g1, ?_, hJ, ?_⟩
  · have : (rangeD 0 24).length = 24 := rfl
    omega
  · unfold q6
    exact ev_forS (st1 := st) rfl hf
theorem right_ev {N j : Nat} (hN : N ≤ 1000) (st : Store) (hj : Jar N j st) : ∃ st', Jar (N + 610) j st' ∧ callN pg 89 24 [.ref j] st = .ok (.bl true) st' := by
  obtain ⟨r1, s1, a1, a2, a3, a4⟩ := take_ev 87 N j 6 st (by omega) (by omega) (by omega) hj
  obtain ⟨r2, s2, b1, b2, b3, b4⟩ := take_ev 87 (N + 1) j 3 s1 (by omega) (by omega) (by omega) a3
  obtain ⟨r3, s3, c1, c2, c3, c4⟩ := take_ev 87 (N + 2) j 2 s2 (by omega) (by omega) (by omega) b3
  obtain ⟨w, s4, d1, d2, d3⟩ := of_ev 86 (N + 3) j [.str "both", .str "out"] s3 (by omega) (by decide) (by decide) c3
  have ow : Od 4 w := by
    simp only [List.mem_cons, List.not_mem_nil, or_false] at d1
    rcases d1 with rfl | rfl
    · exact od_both
    · exact od_out
  have hc : Cells (.int (1 + r1)) (.int (1 + r1 + r2)) (.int (1 + r3)) w := ⟨od_int (by omega) (by omega), od_int (by omega) (by omega), od_int (by omega) (by omega), ow, fun e => by
    have := D.int.inj e
    omega⟩
  have hrow : RowL (.lst [.int (1 + r1), .int (1 + r1 + r2), .int (1 + r3), w]) := row_ii (by omega) (by omega) hc.oc ow fun k e h1 h2 h3 h4 h5 => by
    have := D.int.inj e
    exact .inr ⟨by omega, by omega⟩
  have hrows : ∀ d ∈ (D.lst [.int (1 + r1), .int (1 + r1 + r2), .int (1 + r3), w] :: rows1) ++ rows2 ++ rows3, RowL d := fun d hd => by
    rcases List.mem_cons.mp (show d ∈ D.lst [.int (1 + r1), .int (1 + r1 + r2), .int (1 + r3), w] :: (rows1 ++ rows2 ++ rows3) from hd) with rfl | hd
    · exact hrow
    · exact rows_fix d hd
  obtain ⟨rows', x4, x5, x6, s5, e1, e2, e3, e4⟩ := q6_ev hc ((D.lst [.int (1 + r1), .int (1 + r1 + r2), .int (1 + r3), w] :: rows1) ++ rows2 ++ rows3) hrows (by show 16 ≤ 16; omega) (N := N + 4) (by omega) s4 d2 (.v (.int (1 + r1)))
  obtain ⟨env', s6, f1, f2⟩ := q8_ev rows' e1 e2 (N := N + 4 + 360) (by omega) s5 e3 (.v (.int (1 + r1))) (.v (.lst [.int (1 + r1), .int (1 + r1 + r2), .int (1 + r3), w])) x4 x5 x6 .no .no .no .no .no
  refine ⟨s6, f1.mono (by omega), runF_rtS (P := pg) (cf := callN pg 88) (fd := ⟨1, 12, t24⟩) (ds := [.ref j]) rfl ?_⟩
  show evB pg (callN pg 88) t24 [.v (.ref j), .no, .no, .no, .no, .no, .no, .no, .no, .no, .no, .no] st = _
  rw [q_all]
  have g1 : evS pg (callN pg 88) q1 [.v (.ref j), .no, .no, .no, .no, .no, .no, .no, .no, .no, .no, .no] st = .ok (.nx [.v (.ref j), .v (.int (1 + r1)), .no, .no, .no, .no, .no, .no, .no, .no, .no, .no]) s1 :=
    ev_asgS (ev_binS (d := .int 1) (st1 := st) rfl (ev_callS (ds := [.ref j, .int 6]) (st1 := st) rfl a4) ne_int ne_int rfl)
  rw [evB_nxS g1]
  have g2 : evS pg (callN pg 88) q2 [.v (.ref j), .v (.int (1 + r1)), .no, .no, .no, .no, .no, .no, .no, .no, .no, .no] s1 = .ok (.nx [.v (.ref j), .v (.int (1 + r1)), .v (.lst [.int (1 + r1), .int (1 + r1 + r2), .int (1 + r3), w]), .no, .no, .no, .no, .no, .no, .no, .no, .no]) s4 := by
    refine ev_asgS (d := .lst [.int (1 + r1), .int (1 + r1 + r2), .int (1 + r3), w]) (ev_lstS (ds := [.int (1 + r1), .int (1 + r1 + r2), .int (1 + r3), w]) ?_ (by show 4 ≤ LIM; unfold LIM; omega))
    refine evA_consS (st1 := s1) (by intro _ h; exact nomatch h) rfl (evA_consS (st1 := s2) (by intro _ h; exact nomatch h) ?_ (evA_consS (st1 := s3) (by intro _ h; exact nomatch h) ?_ (evA_consS (st1 := s4) (ds := []) (by intro _ h; exact nomatch h) ?_ rfl)))
    · exact ev_binS (d := .int (1 + r1)) (st1 := s1) rfl (ev_callS (ds := [.ref j, .int 3]) (st1 := s1) rfl b4) ne_int ne_int rfl
    · exact ev_binS (d := .int 1) (st1 := s2) rfl (ev_callS (ds := [.ref j, .int 2]) (st1 := s2) rfl c4) ne_int ne_int rfl
    · exact ev_callS (ds := [.ref j, .lst [.str "both", .str "out"]]) (st1 := s3) rfl d3
  rw [evB_nxS g2]
  rw [evB_nxS (s := q3) (env' := [.v (.ref j), .v (.int (1 + r1)), .v (.lst [.int (1 + r1), .int (1 + r1 + r2), .int (1 + r3), w]), .ol (D.lst [.int (1 + r1), .int (1 + r1 + r2), .int (1 + r3), w] :: rows1), .no, .no, .no, .no, .no, .no, .no, .no]) (st1 := s4) rfl]
  rw [evB_nxS (s := q4) (env' := [.v (.ref j), .v (.int (1 + r1)), .v (.lst [.int (1 + r1), .int (1 + r1 + r2), .int (1 + r3), w]), .ol ((D.lst [.int (1 + r1), .int (1 + r1 + r2), .int (1 + r3), w] :: rows1) ++ rows2), .no, .no, .no, .no, .no, .no, .no, .no]) (st1 := s4) rfl]
  rw [evB_nxS (s := q5) (env' := [.v (.ref j), .v (.int (1 + r1)), .v (.lst [.int (1 + r1), .int (1 + r1 + r2), .int (1 + r3), w]), .ol ((D.lst [.int (1 + r1), .int (1 + r1 + r2), .int (1 + r3), w] :: rows1) ++ rows2 ++ rows3), .no, .no, .no, .no, .no, .no, .no, .no]) (st1 := s4) rfl]
  rw [evB_nxS e4]
  rw [evB_nxS (s := q7) (env' := [.v (.ref j), .v (.int (1 + r1)), .v (.lst [.int (1 + r1), .int (1 + r1 + r2), .int (1 + r3), w]), .v (.lst rows'), x4, x5, x6, .no, .no, .no, .no, .no]) (st1 := s5) rfl]
  rw [evB_nxS f2]
  exact evB_rtS rfl
end K77
end ZK77c
section ZK77l
set_option Elab.async false
set_option linter.all false
set_option maxRecDepth 100000
set_option maxHeartbeats 400000
set_option exponentiation.threshold 5000
namespace K77
open PySem PD
theorem ev_bif2S {P : Prog} {cf : Calls} {env : PD.Env} {st st1 st2 : Store} {k : Bi} {x y : PD.X} {i j : Int} {r : D} (h : evE P cf x env st = .ok (.int i) st1) (h2 : evE P cf y env st1 = .ok (.int j) st2) (hb : biD k [.int i, .int j] = some r) : evE P cf (.bif k (.cons x (.cons y .nil))) env st = .ok r st2 := by
  show bnd (bnd (evE P cf x env) fun d => bnd (bnd (evE P cf y env) fun d => bnd (PD.ret []) fun ds => PD.ret (d :: ds)) fun ds => PD.ret (d :: ds)) (fun ds => bnd (vws ds) fun ds => opt (biD k ds)) st = _
  have e2 : bnd (bnd (evE P cf y env) fun d => bnd (PD.ret []) fun ds => PD.ret (d :: ds)) (fun ds => PD.ret (D.int i :: ds)) st1 = .ok [.int i, .int j] st2 := by
    rw [bnd2 h2]; rfl
  rw [bnd2 h, bnd_ok e2]
  show opt (biD k [.int i, .int j]) st2 = _
  rw [hb]; rfl
theorem law_ev (ns : List Int) : ∃ st', callN pg 90 25 [.scr ns] [.tbl] = .ok (.bl true) st' := by
  have hmx : ∃ m : Int, 1 ≤ m ∧ m ≤ 3 ∧ evE pg (callN pg 89) (.bif .max (.cons (.lit (.int 1)) (.cons (.bif .min (.cons (.lit (.int 3)) (.cons (.bif .len (.cons (.var 0) .nil)) .nil))) .nil))) [.v (.scr ns), .no, .no, .no] [.tbl] = .ok (.int m) [.tbl] := by
    have h1 : evE pg (callN pg 89) (.bif .min (.cons (.lit (.int 3)) (.cons (.bif .len (.cons (.var 0) .nil)) .nil))) [.v (.scr ns), .no, .no, .no] [.tbl] = .ok (.int (if (ns.length : Int) < 3 then (ns.length : Int) else 3)) [.tbl] := ev_bif2S (i := 3) (j := ns.length) (st1 := [.tbl]) rfl rfl rfl
    generalize hv : (if (ns.length : Int) < 3 then (ns.length : Int) else 3) = v at h1
    refine ⟨if v > 1 then v else 1, ?_, ?_, ev_bif2S (i := 1) (j := v) (st1 := [.tbl]) rfl h1 rfl⟩
    · split <;> omega
    · have : v ≤ 3 := by rw [← hv]; split <;> omega
      split <;> omega
  obtain ⟨m, hm1, hm3, hm⟩ := hmx
  obtain ⟨env', st', ⟨⟨a, b, c, rfl⟩, _⟩, h3⟩ := forL_inv (f := fun d e => match bindT (.tv 1) d e with
      | some e => evB pg (callN pg 89) (.cons (.asg 2 (.pl (.call 18 (.cons (.var 0) (.cons (.var 1) .nil))))) (.cons (.if_ (.not_ (.bif .all (.cons (.lc [3] (.tv 3) (.rng (.cons (.lit (.int 2)) .nil)) (.lit (.bl true)) (.call 24 (.cons (.var 2) .nil))) .nil))) (.cons (.rt (.lit (.bl false))) .nil) .nil) .nil)) e
      | none => fail) (fun _ env st => (∃ a b c, env = [.v (.scr ns), a, b, c]) ∧ st[0]? = some O.tbl) (rangeD 0 m) 0 [.v (.scr ns), .no, .no, .no] [.tbl] ⟨⟨_, _, _, rfl⟩, rfl⟩ fun i d env st hd hI => by
    obtain ⟨⟨a, b, c, rfl⟩, hI0⟩ := hI
    obtain ⟨k, rfl, hk1, hk2⟩ := mem_range hd
    obtain ⟨s1, g1, g2⟩ := jar_ev 88 ns k.toNat (by omega) st hI0
    rw [Int.toNat_of_nonneg hk1] at g2
    obtain ⟨s2, gj2, g3⟩ := right_ev (N := 0) (by omega) s1 g1
    obtain ⟨s3, gj3, g4⟩ := right_ev (N := 0 + 610) (by omega) s2 gj2
    refine ⟨[.v (.scr ns), .v (.int k), .v (.ref st.length), c], s3, ⟨⟨_, _, _, rfl⟩, gj3.tab⟩, ?_⟩
    show evB pg (callN pg 89) _ [.v (.scr ns), .v (.int k), b, c] st = _
    rw [evB_nxS (ev_asgS (ev_callS (ds := [.scr ns, .int k]) (st1 := st) rfl g2))]
    show evB pg (callN pg 89) _ [.v (.scr ns), .v (.int k), .v (.ref st.length), c] s1 = _
    have hl : evE pg (callN pg 89) (.lc [3] (.tv 3) (.rng (.cons (.lit (.int 2)) .nil)) (.lit (.bl true)) (.call 24 (.cons (.var 2) .nil))) [.v (.scr ns), .v (.int k), .v (.ref st.length), c] s1 = .ok (.lst [.bl true, .bl true]) s3 := by
      show bnd (mapL (fun d => match bindT (.tv 3) d [.v (.scr ns), .v (.int k), .v (.ref st.length), .no] with
        | some e => bnd (bnd (evE pg (callN pg 89) (.lit (.bl true)) e) blD) fun c => if c then bnd (evE pg (callN pg 89) (.call 24 (.cons (.var 2) .nil)) e) fun y => PD.ret (some y) else PD.ret none
        | none => fail) [.int 0, .int 1]) (fun rs => PD.ret (D.lst rs)) s1 = _
      rw [bnd_ok (mapL_consS (x := .bl true) (st1 := s2) (by
        show bnd (callN pg 89 24 [.ref st.length]) (fun y => PD.ret (some y)) s1 = _
        rw [bnd_ok g3]; rfl) (mapL_consS (x := .bl true) (st1 := s3) (by
        show bnd (callN pg 89 24 [.ref st.length]) (fun y => PD.ret (some y)) s2 = _
        rw [bnd_ok g4]; rfl) (xs := []) rfl))]
      rfl
    rw [evB_nxS (env' := [.v (.scr ns), .v (.int k), .v (.ref st.length), c]) (st1 := s3) ((ev_ifS (ev_notS (ev_bif1S hl rfl rfl))).trans rfl)]
    rfl
  refine ⟨st', runF_rtS (P := pg) (cf := callN pg 89) (fd := ⟨1, 4, t25⟩) (ds := [.scr ns]) rfl ?_⟩
  show evB pg (callN pg 89) t25 [.v (.scr ns), .no, .no, .no] [.tbl] = _
  unfold t25
  have hit : evIt pg (callN pg 89) (.rng (.cons (.bif .max (.cons (.lit (.int 1)) (.cons (.bif .min (.cons (.lit (.int 3)) (.cons (.bif .len (.cons (.var 0) .nil)) .nil))) .nil))) .nil)) [.v (.scr ns), .no, .no, .no] [.tbl] = .ok (rangeD 0 m) [.tbl] := by
    show bnd (evE pg (callN pg 89) (.bif .max (.cons (.lit (.int 1)) (.cons (.bif .min (.cons (.lit (.int 3)) (.cons (.bif .len (.cons (.var 0) .nil)) .nil))) .nil))) [.v (.scr ns), .no, .no, .no]) (fun x => match x with
      | .int j => if gRng j then PD.ret (rangeD 0 j) else fail
      | _ => fail) [.tbl] = _
    rw [bnd_ok hm]
    show (if gRng m then PD.ret (rangeD 0 m) else fail) [.tbl] = _
    rw [if_pos (by unfold gRng; rw [decide_eq_true_eq]; omega)]; rfl
  rw [evB_nxS (ev_forS hit h3)]
  exact evB_rtS rfl
end K77
end ZK77l
section ZK77b
set_option Elab.async false
set_option linter.all false
set_option maxRecDepth 100000
set_option maxHeartbeats 4000000
namespace K77
open PySem PySem.Spec L2 PyProof.Rows PD
structure Funs (T : Tb) (a : Nat → Addr) (fd : Nat → FuncData) (c : Addr) : Prop where
  u0 : Fun T.K "is_integer" "is_integer" s0 (a 0) (fd 0)
  u1 : Fun T.K "is_between" "is_between" s1 (a 1) (fd 1)
  u2 : Fun T.K "is_word" "is_word" s2 (a 2) (fd 2)
  u3 : Fun T.K "state_of" "state_of" s3 (a 3) (fd 3)
  u4 : Fun T.K "first_state" "first_state" s4 (a 4) (fd 4)
  u5 : Fun T.K "is_known" "is_known" s5 (a 5) (fd 5)
  u6 : Fun T.K "behind" "behind" s6 (a 6) (fd 6)
  u7 : Fun T.K "tests_of" "tests_of" s7 (a 7) (fd 7)
  u8 : Fun T.K "states_behind" "states_behind" s8 (a 8) (fd 8)
  u9 : Fun T.K "all_states" "all_states" s9 (a 9) (fd 9)
  u10 : Fun T.K "__init__" "Learner.__init__" s10 (a 10) (fd 10)
  u11 : Fun T.K "time_of" "Learner.time_of" s11 (a 11) (fd 11)
  u12 : Fun T.K "good_test" "Learner.good_test" s12 (a 12) (fd 12)
  u13 : Fun T.K "settle" "Learner.settle" s13 (a 13) (fd 13)
  u14 : Fun T.K "plan" "Learner.plan" s14 (a 14) (fd 14)
  u15 : Fun T.K "table" "Learner.table" s15 (a 15) (fd 15)
  u16 : Fun T.K "check_asked" "check_asked" s16 (a 16) (fd 16)
  u17 : Fun T.K "learned" "learned" s17 (a 17) (fd 17)
  u18 : Fun T.K "_law_jar" "_law_jar" s18 (a 18) (fd 18)
  u19 : Fun T.K "_law_take" "_law_take" s19 (a 19) (fd 19)
  u20 : Fun T.K "_law_of" "_law_of" s20 (a 20) (fd 20)
  u21 : Fun T.K "_law_odd" "_law_odd" s21 (a 21) (fd 21)
  u22 : Fun T.K "_law_is_number" "_law_is_number" s22 (a 22) (fd 22)
  u23 : Fun T.K "_law_due" "_law_due" s23 (a 23) (fd 23)
  u24 : FunC T.K "_law_right" "_law_right" s24 (a 24) (fd 24) c
  u25 : Fun T.K "law" "law" s25 (a 25) (fd 25)
  u26 : Fun T.K "is_tuple" "is_tuple" s26 (a 26) (fd 26)
  u27 : Fun T.K "shows_learned" "shows_learned" s27 (a 27) (fd 27)
  uM : Fun T.K "_law_met" "_law_met" sM (a 30) (fd 30)
section
variable {T : Tb} {base : Heap} {a : Nat → Addr} {fd : Nat → FuncData} {c : Addr}
theorem bi0 (u : Funs T a fd c) : Binds T.K (fd 0) ["value"] [] := u.u0.binds (ps := ["value"]) fun _ _ _ _ _ _ us hl => match us, hl with | [_], _ => rfl
theorem bi1 (u : Funs T a fd c) : Binds T.K (fd 1) ["value", "low", "high"] [] := u.u1.binds (ps := ["value", "low", "high"]) fun _ _ _ _ _ _ us hl => match us, hl with | [_, _, _], _ => rfl
theorem bi2 (u : Funs T a fd c) : Binds T.K (fd 2) ["value", "words"] [] := u.u2.binds (ps := ["value", "words"]) fun _ _ _ _ _ _ us hl => match us, hl with | [_, _], _ => rfl
theorem bi3 (u : Funs T a fd c) : Binds T.K (fd 3) ["least", "most", "ages"] [] := u.u3.binds (ps := ["least", "most", "ages"]) fun _ _ _ _ _ _ us hl => match us, hl with | [_, _, _], _ => rfl
theorem bi4 (u : Funs T a fd c) : Binds T.K (fd 4) ["least", "most", "doors"] [] := u.u4.binds (ps := ["least", "most", "doors"]) fun _ _ _ _ _ _ us hl => match us, hl with | [_, _, _], _ => rfl
theorem bi5 (u : Funs T a fd c) : Binds T.K (fd 5) ["state"] [] := u.u5.binds (ps := ["state"]) fun _ _ _ _ _ _ us hl => match us, hl with | [_], _ => rfl
theorem bi6 (u : Funs T a fd c) : Binds T.K (fd 6) ["state", "many", "door", "counting"] [] := u.u6.binds (ps := ["state", "many", "door", "counting"]) fun _ _ _ _ _ _ us hl => match us, hl with | [_, _, _, _], _ => rfl
theorem bi7 (u : Funs T a fd c) : Binds T.K (fd 7) ["state"] [] := u.u7.binds (ps := ["state"]) fun _ _ _ _ _ _ us hl => match us, hl with | [_], _ => rfl
theorem bi8 (u : Funs T a fd c) : Binds T.K (fd 8) ["state", "test", "counting"] [] := u.u8.binds (ps := ["state", "test", "counting"]) fun _ _ _ _ _ _ us hl => match us, hl with | [_, _, _], _ => rfl
theorem bi9 (u : Funs T a fd c) : Binds T.K (fd 9) ["begun", "counting"] [] := u.u9.binds (ps := ["begun", "counting"]) fun _ _ _ _ _ _ us hl => match us, hl with | [_, _], _ => rfl
theorem bi10 (u : Funs T a fd c) : Binds T.K (fd 10) ["self", "begun", "counting"] [] := u.u10.binds (ps := ["self", "begun", "counting"]) fun _ _ _ _ _ _ us hl => match us, hl with | [_, _, _], _ => rfl
theorem bi11 (u : Funs T a fd c) : Binds T.K (fd 11) ["self", "state"] [] := u.u11.binds (ps := ["self", "state"]) fun _ _ _ _ _ _ us hl => match us, hl with | [_, _], _ => rfl
theorem bi12 (u : Funs T a fd c) : Binds T.K (fd 12) ["self", "state"] [] := u.u12.binds (ps := ["self", "state"]) fun _ _ _ _ _ _ us hl => match us, hl with | [_, _], _ => rfl
theorem bi13 (u : Funs T a fd c) : Binds T.K (fd 13) ["self"] [] := u.u13.binds (ps := ["self"]) fun _ _ _ _ _ _ us hl => match us, hl with | [_], _ => rfl
theorem bi14 (u : Funs T a fd c) : Binds T.K (fd 14) ["self", "state"] [] := u.u14.binds (ps := ["self", "state"]) fun _ _ _ _ _ _ us hl => match us, hl with | [_, _], _ => rfl
theorem bi15 (u : Funs T a fd c) : Binds T.K (fd 15) ["self"] [] := u.u15.binds (ps := ["self"]) fun _ _ _ _ _ _ us hl => match us, hl with | [_], _ => rfl
theorem bi16 (u : Funs T a fd c) : Binds T.K (fd 16) ["least", "most", "doors", "counting"] [] := u.u16.binds (ps := ["least", "most", "doors", "counting"]) fun _ _ _ _ _ _ us hl => match us, hl with | [_, _, _, _], _ => rfl
theorem bi17 (u : Funs T a fd c) : Binds T.K (fd 17) ["least", "most", "doors", "counting"] [] := u.u17.binds (ps := ["least", "most", "doors", "counting"]) fun _ _ _ _ _ _ us hl => match us, hl with | [_, _, _, _], _ => rfl
theorem bi18 (u : Funs T a fd c) : Binds T.K (fd 18) ["script", "k"] [] := u.u18.binds (ps := ["script", "k"]) fun _ _ _ _ _ _ us hl => match us, hl with | [_, _], _ => rfl
theorem bi19 (u : Funs T a fd c) : Binds T.K (fd 19) ["jar", "many"] [] := u.u19.binds (ps := ["jar", "many"]) fun _ _ _ _ _ _ us hl => match us, hl with | [_, _], _ => rfl
theorem bi20 (u : Funs T a fd c) : Binds T.K (fd 20) ["jar", "some"] [] := u.u20.binds (ps := ["jar", "some"]) fun _ _ _ _ _ _ us hl => match us, hl with | [_, _], _ => rfl
theorem bi21 (u : Funs T a fd c) : Binds T.K (fd 21) ["jar"] [] := u.u21.binds (ps := ["jar"]) fun _ _ _ _ _ _ us hl => match us, hl with | [_], _ => rfl
theorem bi22 (u : Funs T a fd c) : Binds T.K (fd 22) ["thing", "low", "high"] [] := u.u22.binds (ps := ["thing", "low", "high"]) fun _ _ _ _ _ _ us hl => match us, hl with | [_, _, _], _ => rfl
theorem bi23 (u : Funs T a fd c) : Binds T.K (fd 23) ["some"] [] := u.u23.binds (ps := ["some"]) fun _ _ _ _ _ _ us hl => match us, hl with | [_], _ => rfl
theorem bi24 (u : Funs T a fd c) : Binds T.K (fd 24) ["jar"] [] := u.u24.fn.binds (ps := ["jar"]) fun _ _ _ _ _ _ us hl => match us, hl with | [_], _ => rfl
theorem bi25 (u : Funs T a fd c) : Binds T.K (fd 25) ["script"] [] := u.u25.binds (ps := ["script"]) fun _ _ _ _ _ _ us hl => match us, hl with | [_], _ => rfl
theorem bi26 (u : Funs T a fd c) : Binds T.K (fd 26) ["value", "low", "high"] [] := u.u26.binds (ps := ["value", "low", "high"]) fun _ _ _ _ _ _ us hl => match us, hl with | [_, _, _], _ => rfl
theorem bi27 (u : Funs T a fd c) : Binds T.K (fd 27) ["least", "most", "doors", "counting", "value"] [] := u.u27.binds (ps := ["least", "most", "doors", "counting", "value"]) fun _ _ _ _ _ _ us hl => match us, hl with | [_, _, _, _, _], _ => rfl
theorem biM (u : Funs T a fd c) : Binds T.K (fd 30) ["query"] [] := u.uM.binds (ps := ["query"]) fun _ _ _ _ _ _ us hl => match us, hl with | [_], _ => rfl
theorem all (t : Txt T a) (hP : T.hf = hfF) (hN : T.nm = nmF) (u : Funs T a fd c) (TB : LamX.TabB base T.mg c T.tb) : ∀ n, All T base a n ∧ All T base a (n - 1)
  | 0 =>
    have z : All T base a 0 := ⟨.zero (bi0 u) u.u0.kp, .zero (bi1 u) u.u1.kp, .zero (bi2 u) u.u2.kp, .zero (bi3 u) u.u3.kp, .zero (bi4 u) u.u4.kp, .zero (bi5 u) u.u5.kp, .zero (bi6 u) u.u6.kp, .zero (bi7 u) u.u7.kp, .zero (bi8 u) u.u8.kp, .zero (bi9 u) u.u9.kp, .zero (bi10 u) u.u10.kp, .zero (bi11 u) u.u11.kp, .zero (bi12 u) u.u12.kp, .zero (bi13 u) u.u13.kp, .zero (bi14 u) u.u14.kp, .zero (bi15 u) u.u15.kp, .zero (bi16 u) u.u16.kp, .zero (bi17 u) u.u17.kp, .zero (bi18 u) u.u18.kp, .zero (bi19 u) u.u19.kp, .zero (bi20 u) u.u20.kp, .zero (bi21 u) u.u21.kp, .zero (bi22 u) u.u22.kp, .zero (bi23 u) u.u23.kp, .zero (bi24 u) u.u24.kp, .zero (bi25 u) u.u25.kp, .zero (bi26 u) u.u26.kp, .zero (bi27 u) u.u27.kp⟩
    ⟨z, z⟩
  | n + 1 => ⟨⟨.succ u.u0 sc0 (bi0 u) rfl fun cdv A outer s H E hr => body0 t hP hN (all t hP hN u TB n).1 cdv A outer s H E hr,
    .succ u.u1 sc1 (bi1 u) rfl fun cdv A outer s H E hr => body1 t hP hN (all t hP hN u TB n).1 cdv A outer s H E hr,
    .succ u.u2 sc2 (bi2 u) rfl fun cdv A outer s H E hr => body2 t hP hN (all t hP hN u TB n).1 cdv A outer s H E hr,
    .succ u.u3 sc3 (bi3 u) rfl fun cdv A outer s H E hr => body3 t hP hN (all t hP hN u TB n).1 cdv A outer s H E hr,
    .succ u.u4 sc4 (bi4 u) rfl fun cdv A outer s H E hr => body4 t hP hN (all t hP hN u TB n).1 cdv A outer s H E hr,
    .succ u.u5 sc5 (bi5 u) rfl fun cdv A outer s H E hr => body5 t hP hN (all t hP hN u TB n).1 cdv A outer s H E hr,
    .succ u.u6 sc6 (bi6 u) rfl fun cdv A outer s H E hr => body6 t hP hN (all t hP hN u TB n).1 cdv A outer s H E hr,
    .succ u.u7 sc7 (bi7 u) rfl fun cdv A outer s H E hr => body7 t hP hN (all t hP hN u TB n).1 cdv A outer s H E hr,
    .succ u.u8 sc8 (bi8 u) rfl fun cdv A outer s H E hr => body8 t hP hN (all t hP hN u TB n).1 cdv A outer s H E hr,
    .succ u.u9 sc9 (bi9 u) rfl fun cdv A outer s H E hr => body9 t hP hN (all t hP hN u TB n).1 cdv A outer s H E hr,
    .succ u.u10 sc10 (bi10 u) rfl fun cdv A outer s H E hr => body10 t hP hN (all t hP hN u TB n).1 cdv A outer s H E hr,
    .succ u.u11 sc11 (bi11 u) rfl fun cdv A outer s H E hr => body11 t hP hN (all t hP hN u TB n).1 cdv A outer s H E hr,
    .succ u.u12 sc12 (bi12 u) rfl fun cdv A outer s H E hr => body12 t hP hN (all t hP hN u TB n).1 cdv A outer s H E hr,
    .succ u.u13 sc13 (bi13 u) rfl fun cdv A outer s H E hr => body13 t hP hN (all t hP hN u TB n).1 cdv A outer s H E hr,
    .succ u.u14 sc14 (bi14 u) rfl fun cdv A outer s H E hr => body14 t hP hN (all t hP hN u TB n).1 cdv A outer s H E hr,
    .succ u.u15 sc15 (bi15 u) rfl fun cdv A outer s H E hr => body15 t hP hN (all t hP hN u TB n).1 cdv A outer s H E hr,
    .succ u.u16 sc16 (bi16 u) rfl fun cdv A outer s H E hr => body16 t hP hN (all t hP hN u TB n).1 cdv A outer s H E hr,
    .succ u.u17 sc17 (bi17 u) rfl fun cdv A outer s H E hr => body17 t hP hN (all t hP hN u TB n).1 cdv A outer s H E hr,
    .succ u.u18 sc18 (bi18 u) rfl fun cdv A outer s H E hr => body18 t hP hN (all t hP hN u TB n).1 cdv A outer s H E hr,
    .succ u.u19 sc19 (bi19 u) rfl fun cdv A outer s H E hr => body19 t hP hN (all t hP hN u TB n).1 cdv A outer s H E hr,
    .succ u.u20 sc20 (bi20 u) rfl fun cdv A outer s H E hr => body20 t hP hN (all t hP hN u TB n).1 cdv A outer s H E hr,
    .succ u.u21 sc21 (bi21 u) rfl fun cdv A outer s H E hr => body21 t hP hN (all t hP hN u TB n).1 cdv A outer s H E hr,
    .succ u.u22 sc22 (bi22 u) rfl fun cdv A outer s H E hr => body22 t hP hN (all t hP hN u TB n).1 cdv A outer s H E hr,
    .succF u.u23 sc23 (bi23 u) rfl fun cdv A outer s H hr hg => body23 t hP hN (all t hP hN u TB n).1 cdv A outer s H E0 hr hg,
    .succC u.u24 sc24 (bi24 u) rfl fun A outer s H hr hg => body24 t hP hN (all t hP hN u TB n).1 c (all t hP hN u TB n).2 TB u.uM (biM u) A outer s H E0 hr hg,
    .succF u.u25 sc25 (bi25 u) rfl fun cdv A outer s H hr hg => body25 t hP hN (all t hP hN u TB n).1 cdv A outer s H E0 hr hg,
    .succ u.u26 sc26 (bi26 u) rfl fun cdv A outer s H E hr => body26 t hP hN (all t hP hN u TB n).1 cdv A outer s H E hr,
    .succ u.u27 sc27 (bi27 u) rfl fun cdv A outer s H E hr => body27 t hP hN (all t hP hN u TB n).1 cdv A outer s H E hr⟩, (all t hP hN u TB n).1⟩
end
/-- what is asked of the law's own run -/
def RunOk : Prop := ∀ ns : List Int, ns.length ≤ 63 → ∃ st', callN pg 90 25 [.scr ns] [.tbl] = .ok (.bl true) st'
def spLaw (K : PySem.W.Frag) (tb : Addr) : Sp := fun vs H Q _ => ∃ (a : Addr) (ns : List Int), vs = [.ref a] ∧ SqL K H a (ns.map V.int) ∧ ns.length ≤ 63 ∧ H tb = some (.tbl #[]) ∧ ∀ H', Q (.bl true) H'
theorem nm_inj (c f g : Nat) (h1 : hfF c f = true) (h2 : hfF c g = true) (e : nmF f = nmF g) : f = g := by
  have key : ∀ f' : Fin 6, ∀ g' : Fin 6, nmF f'.1 = nmF g'.1 → f' = g' := by decide +kernel
  have hf : f < 6 := by
    by_cases z : f < 6
    · exact z
    · unfold hfF at h1; split at h1 <;> first | omega | cases h1
  have hg : g < 6 := by
    by_cases z : g < 6
    · exact z
    · unfold hfF at h2; split at h2 <;> first | omega | cases h2
  exact congrArg Fin.val (key ⟨f, hf⟩ ⟨g, hg⟩ e)
theorem supM : ∃ p0 p1 p2 p3 p4 p5 p6 p7 p8 p9, defBody sS = [.Expr (.Call (.Attribute (.Call (.Name "super" p0) [] [] p1) "__init__" p2) [.Name "value" p3] [] p4) p5, .Assign [.Attribute (.Name "self" p6) erF p7] (.Name "value" p8) p9] ∧
    ∀ env : PySem.Env, ∃ pl : Sem Bool, eval (.Call (.Attribute (.Call (.Name "super" p0) [] [] p1) "__init__" p2) [.Name "value" p3] [] p4) env = (do
      let ov ← attributeBase (.Call (.Name "super" p0) [] [] p1) "__init__" env (eval (.Call (.Name "super" p0) [] [] p1) env)
      standAt p2.atName
      let (m, first) ← holding [ov] (getMethod ov "__init__" pl)
      callWith p4 m first (backTo p4 (starEach [.Name "value" p3] env)) []) ∧
      swapsWith (.Call (.Attribute (.Call (.Name "super" p0) [] [] p1) "__init__" p2) [.Name "value" p3] [] p4) none p5.line env = pure false ∧ swapsWith (.Name "value" p8) (some (.Attribute (.Name "self" p6) erF p7)) p9.line env = pure false ∧
      starEach [.Name "value" p3] env = (false, eval (.Name "value" p3) env) :: starEach [] env :=
  ⟨_, _, _, _, _, _, _, _, _, _, rfl, fun env => ⟨_, rfl, rfl, rfl, rfl⟩⟩
theorem fnAt {T : Tb} {base : Heap} {a : Nat → Addr} {fd : Nat → FuncData} {c : Addr} (D : All T base a 89) (t : Txt T a) (u : Funs T a fd c) (hP : T.hf = hfF := by rfl) (hN : T.nm = nmF := by rfl) : FnG T.P T.w T.K T.mg base 180 (a 25) (fd 25) ["script"] (spC T (callN pg 90) 25 1) := by
  obtain ⟨oc, od, kV, dc, pm, an, cd, ct, sl, e, lk, hcd⟩ := u.u25.ex
  rw [e]
  rw [e] at lk
  exact fnG (k := 179) (pg := pg) (f := 25) (tree := t25) (N := ["script", "k", "jar", "turn"]) (ps := ["script"]) lk hcd sc25 rfl fun A outer s H hr hg => body25 t hP hN D cd A outer s H E0 hr hg
theorem all_mk (run : RunOk) {l : PySem.W.OpenLaw} {w : World} {K : PySem.W.Frag} {h : Heap} {mg : Str → Option Value} {fa f0 f1 f2 f3 f4 f5 f6 f7 f8 f9 f10 f11 f12 f13 f14 f15 f16 f17 f18 f19 f20 f21 f22 f23 f24 f25 f26 f27 C0 E1 E2 E3 fM fS cR tb cS cc : Addr} (X : K.In h) (G : h.Ns mainGlobals mg) (hfa : mg "law" = some (.ref fa))
    {od0 an0 od1 an1 od2 an2 od3 an3 od4 an4 od5 an5 od6 an6 od7 an7 od8 an8 od9 an9 od10 an10 od11 an11 od12 an12 od13 an13 od14 an14 od15 an15 od16 an16 od17 an17 od18 an18 od19 an19 od20 an20 od21 an21 od22 an22 od23 an23 od24 an24 od25 an25 od26 an26 od27 an27 odM anM odS anS odS1 odS2 odR : Option Addr} {sl0 sl1 sl2 sl3 sl4 sl5 sl6 sl7 sl8 sl9 sl10 sl11 sl12 sl13 sl14 sl15 sl16 sl17 sl18 sl19 sl20 sl21 sl22 sl23 sl24 sl25 sl26 sl27 slM slS slS1 slS2 slR : Array (Option Value)} {oc0 kV0 dc0 pm0 cd0 ct0 oc1 kV1 dc1 pm1 cd1 ct1 oc2 kV2 dc2 pm2 cd2 ct2 oc3 kV3 dc3 pm3 cd3 ct3 oc4 kV4 dc4 pm4 cd4 ct4 oc5 kV5 dc5 pm5 cd5 ct5 oc6 kV6 dc6 pm6 cd6 ct6 oc7 kV7 dc7 pm7 cd7 ct7 oc8 kV8 dc8 pm8 cd8 ct8 oc9 kV9 dc9 pm9 cd9 ct9 oc10 kV10 dc10 pm10 cd10 ct10 oc11 kV11 dc11 pm11 cd11 ct11 oc12 kV12 dc12 pm12 cd12 ct12 oc13 kV13 dc13 pm13 cd13 ct13 oc14 kV14 dc14 pm14 cd14 ct14 oc15 kV15 dc15 pm15 cd15 ct15 oc16 kV16 dc16 pm16 cd16 ct16 oc17 kV17 dc17 pm17 cd17 ct17 oc18 kV18 dc18 pm18 cd18 ct18 oc19 kV19 dc19 pm19 cd19 ct19 oc20 kV20 dc20 pm20 cd20 ct20 oc21 kV21 dc21 pm21 cd21 ct21 oc22 kV22 dc22 pm22 cd22 ct22 oc23 kV23 dc23 pm23 cd23 ct23 oc24 kV24 dc24 pm24 ct24 oc25 kV25 dc25 pm25 cd25 ct25 oc26 kV26 dc26 pm26 cd26 ct26 oc27 kV27 dc27 pm27 cd27 ct27 ocM kVM dcM pmM cdM ctM ocS kVS dcS pmS ctS clS1 clS2 ocR : Value} {vsR vsS : Array Value} {fileS : Str} {cdE : ClassData} {tk0 tk1 tk2 tk3_0 tk3_1 tk4 tkS : Tok} {ad3 : Addr} {dd3 : Option Addr} {sl_3 : Array (Option Value)} {n3 : Nat} {nm1 qn1 : Str} {N1 : Addr} {bs1 bm1 su1 : List Value} {sn1 : List Str} {ab1 : Bool} {co1 : Option Bool} {dd_1 : Option Addr} {k0_1 k1_1 k2_1 k3_1 k5_1 : Option Value} {nm2 qn2 : Str} {N2 : Addr} {bs2 bm2 su2 : List Value} {sn2 : List Str} {ab2 : Bool} {co2 : Option Bool} {dd_2 : Option Addr} {k0_2 k1_2 k2_2 k3_2 k5_2 : Option Value}
    (a0 : PySem.W.nsIn K mainGlobals "is_integer" = some (some (.ref f0)))
    (l0 : K.lookup f0 = some ⟨oc0, od0, .func (PySem.W.fnOf "is_integer" "is_integer" (defArgs s0) (defBody s0) (defScope s0) .none kV0 dc0 pm0 an0 cd0 ct0), sl0⟩)
    (c0 : PySem.W.codeIn K cd0 "is_integer" = true)
    (k0 : PySem.W.keepIn K (.ref f0) = true)
    (a1 : PySem.W.nsIn K mainGlobals "is_between" = some (some (.ref f1)))
    (l1 : K.lookup f1 = some ⟨oc1, od1, .func (PySem.W.fnOf "is_between" "is_between" (defArgs s1) (defBody s1) (defScope s1) .none kV1 dc1 pm1 an1 cd1 ct1), sl1⟩)
    (c1 : PySem.W.codeIn K cd1 "is_between" = true)
    (k1 : PySem.W.keepIn K (.ref f1) = true)
    (a2 : PySem.W.nsIn K mainGlobals "is_word" = some (some (.ref f2)))
    (l2 : K.lookup f2 = some ⟨oc2, od2, .func (PySem.W.fnOf "is_word" "is_word" (defArgs s2) (defBody s2) (defScope s2) .none kV2 dc2 pm2 an2 cd2 ct2), sl2⟩)
    (c2 : PySem.W.codeIn K cd2 "is_word" = true)
    (k2 : PySem.W.keepIn K (.ref f2) = true)
    (a3 : PySem.W.nsIn K mainGlobals "state_of" = some (some (.ref f3)))
    (l3 : K.lookup f3 = some ⟨oc3, od3, .func (PySem.W.fnOf "state_of" "state_of" (defArgs s3) (defBody s3) (defScope s3) .none kV3 dc3 pm3 an3 cd3 ct3), sl3⟩)
    (c3 : PySem.W.codeIn K cd3 "state_of" = true)
    (k3 : PySem.W.keepIn K (.ref f3) = true)
    (a4 : PySem.W.nsIn K mainGlobals "first_state" = some (some (.ref f4)))
    (l4 : K.lookup f4 = some ⟨oc4, od4, .func (PySem.W.fnOf "first_state" "first_state" (defArgs s4) (defBody s4) (defScope s4) .none kV4 dc4 pm4 an4 cd4 ct4), sl4⟩)
    (c4 : PySem.W.codeIn K cd4 "first_state" = true)
    (k4 : PySem.W.keepIn K (.ref f4) = true)
    (a5 : PySem.W.nsIn K mainGlobals "is_known" = some (some (.ref f5)))
    (l5 : K.lookup f5 = some ⟨oc5, od5, .func (PySem.W.fnOf "is_known" "is_known" (defArgs s5) (defBody s5) (defScope s5) .none kV5 dc5 pm5 an5 cd5 ct5), sl5⟩)
    (c5 : PySem.W.codeIn K cd5 "is_known" = true)
    (k5 : PySem.W.keepIn K (.ref f5) = true)
    (a6 : PySem.W.nsIn K mainGlobals "behind" = some (some (.ref f6)))
    (l6 : K.lookup f6 = some ⟨oc6, od6, .func (PySem.W.fnOf "behind" "behind" (defArgs s6) (defBody s6) (defScope s6) .none kV6 dc6 pm6 an6 cd6 ct6), sl6⟩)
    (c6 : PySem.W.codeIn K cd6 "behind" = true)
    (k6 : PySem.W.keepIn K (.ref f6) = true)
    (a7 : PySem.W.nsIn K mainGlobals "tests_of" = some (some (.ref f7)))
    (l7 : K.lookup f7 = some ⟨oc7, od7, .func (PySem.W.fnOf "tests_of" "tests_of" (defArgs s7) (defBody s7) (defScope s7) .none kV7 dc7 pm7 an7 cd7 ct7), sl7⟩)
    (c7 : PySem.W.codeIn K cd7 "tests_of" = true)
    (k7 : PySem.W.keepIn K (.ref f7) = true)
    (a8 : PySem.W.nsIn K mainGlobals "states_behind" = some (some (.ref f8)))
    (l8 : K.lookup f8 = some ⟨oc8, od8, .func (PySem.W.fnOf "states_behind" "states_behind" (defArgs s8) (defBody s8) (defScope s8) .none kV8 dc8 pm8 an8 cd8 ct8), sl8⟩)
    (c8 : PySem.W.codeIn K cd8 "states_behind" = true)
    (k8 : PySem.W.keepIn K (.ref f8) = true)
    (a9 : PySem.W.nsIn K mainGlobals "all_states" = some (some (.ref f9)))
    (l9 : K.lookup f9 = some ⟨oc9, od9, .func (PySem.W.fnOf "all_states" "all_states" (defArgs s9) (defBody s9) (defScope s9) .none kV9 dc9 pm9 an9 cd9 ct9), sl9⟩)
    (c9 : PySem.W.codeIn K cd9 "all_states" = true)
    (k9 : PySem.W.keepIn K (.ref f9) = true)
    (a10 : PySem.W.findIn K (.ref C0) "__init__" = some (some (.ref f10)))
    (i10 : PySem.W.isFn K (.ref f10) = true)
    (l10 : K.lookup f10 = some ⟨oc10, od10, .func (PySem.W.fnOf "__init__" "Learner.__init__" (defArgs s10) (defBody s10) (defScope s10) .none kV10 dc10 pm10 an10 cd10 ct10), sl10⟩)
    (c10 : PySem.W.codeIn K cd10 "Learner.__init__" = true)
    (k10 : PySem.W.keepIn K (.ref f10) = true)
    (a11 : PySem.W.findIn K (.ref C0) "time_of" = some (some (.ref f11)))
    (i11 : PySem.W.isFn K (.ref f11) = true)
    (l11 : K.lookup f11 = some ⟨oc11, od11, .func (PySem.W.fnOf "time_of" "Learner.time_of" (defArgs s11) (defBody s11) (defScope s11) .none kV11 dc11 pm11 an11 cd11 ct11), sl11⟩)
    (c11 : PySem.W.codeIn K cd11 "Learner.time_of" = true)
    (k11 : PySem.W.keepIn K (.ref f11) = true)
    (a12 : PySem.W.findIn K (.ref C0) "good_test" = some (some (.ref f12)))
    (i12 : PySem.W.isFn K (.ref f12) = true)
    (l12 : K.lookup f12 = some ⟨oc12, od12, .func (PySem.W.fnOf "good_test" "Learner.good_test" (defArgs s12) (defBody s12) (defScope s12) .none kV12 dc12 pm12 an12 cd12 ct12), sl12⟩)
    (c12 : PySem.W.codeIn K cd12 "Learner.good_test" = true)
    (k12 : PySem.W.keepIn K (.ref f12) = true)
    (a13 : PySem.W.findIn K (.ref C0) "settle" = some (some (.ref f13)))
    (i13 : PySem.W.isFn K (.ref f13) = true)
    (l13 : K.lookup f13 = some ⟨oc13, od13, .func (PySem.W.fnOf "settle" "Learner.settle" (defArgs s13) (defBody s13) (defScope s13) .none kV13 dc13 pm13 an13 cd13 ct13), sl13⟩)
    (c13 : PySem.W.codeIn K cd13 "Learner.settle" = true)
    (k13 : PySem.W.keepIn K (.ref f13) = true)
    (a14 : PySem.W.findIn K (.ref C0) "plan" = some (some (.ref f14)))
    (i14 : PySem.W.isFn K (.ref f14) = true)
    (l14 : K.lookup f14 = some ⟨oc14, od14, .func (PySem.W.fnOf "plan" "Learner.plan" (defArgs s14) (defBody s14) (defScope s14) .none kV14 dc14 pm14 an14 cd14 ct14), sl14⟩)
    (c14 : PySem.W.codeIn K cd14 "Learner.plan" = true)
    (k14 : PySem.W.keepIn K (.ref f14) = true)
    (a15 : PySem.W.findIn K (.ref C0) "table" = some (some (.ref f15)))
    (i15 : PySem.W.isFn K (.ref f15) = true)
    (l15 : K.lookup f15 = some ⟨oc15, od15, .func (PySem.W.fnOf "table" "Learner.table" (defArgs s15) (defBody s15) (defScope s15) .none kV15 dc15 pm15 an15 cd15 ct15), sl15⟩)
    (c15 : PySem.W.codeIn K cd15 "Learner.table" = true)
    (k15 : PySem.W.keepIn K (.ref f15) = true)
    (a16 : PySem.W.nsIn K mainGlobals "check_asked" = some (some (.ref f16)))
    (l16 : K.lookup f16 = some ⟨oc16, od16, .func (PySem.W.fnOf "check_asked" "check_asked" (defArgs s16) (defBody s16) (defScope s16) .none kV16 dc16 pm16 an16 cd16 ct16), sl16⟩)
    (c16 : PySem.W.codeIn K cd16 "check_asked" = true)
    (k16 : PySem.W.keepIn K (.ref f16) = true)
    (a17 : PySem.W.nsIn K mainGlobals "learned" = some (some (.ref f17)))
    (l17 : K.lookup f17 = some ⟨oc17, od17, .func (PySem.W.fnOf "learned" "learned" (defArgs s17) (defBody s17) (defScope s17) .none kV17 dc17 pm17 an17 cd17 ct17), sl17⟩)
    (c17 : PySem.W.codeIn K cd17 "learned" = true)
    (k17 : PySem.W.keepIn K (.ref f17) = true)
    (a18 : PySem.W.nsIn K mainGlobals "_law_jar" = some (some (.ref f18)))
    (l18 : K.lookup f18 = some ⟨oc18, od18, .func (PySem.W.fnOf "_law_jar" "_law_jar" (defArgs s18) (defBody s18) (defScope s18) .none kV18 dc18 pm18 an18 cd18 ct18), sl18⟩)
    (c18 : PySem.W.codeIn K cd18 "_law_jar" = true)
    (k18 : PySem.W.keepIn K (.ref f18) = true)
    (a19 : PySem.W.nsIn K mainGlobals "_law_take" = some (some (.ref f19)))
    (l19 : K.lookup f19 = some ⟨oc19, od19, .func (PySem.W.fnOf "_law_take" "_law_take" (defArgs s19) (defBody s19) (defScope s19) .none kV19 dc19 pm19 an19 cd19 ct19), sl19⟩)
    (c19 : PySem.W.codeIn K cd19 "_law_take" = true)
    (k19 : PySem.W.keepIn K (.ref f19) = true)
    (a20 : PySem.W.nsIn K mainGlobals "_law_of" = some (some (.ref f20)))
    (l20 : K.lookup f20 = some ⟨oc20, od20, .func (PySem.W.fnOf "_law_of" "_law_of" (defArgs s20) (defBody s20) (defScope s20) .none kV20 dc20 pm20 an20 cd20 ct20), sl20⟩)
    (c20 : PySem.W.codeIn K cd20 "_law_of" = true)
    (k20 : PySem.W.keepIn K (.ref f20) = true)
    (a21 : PySem.W.nsIn K mainGlobals "_law_odd" = some (some (.ref f21)))
    (l21 : K.lookup f21 = some ⟨oc21, od21, .func (PySem.W.fnOf "_law_odd" "_law_odd" (defArgs s21) (defBody s21) (defScope s21) .none kV21 dc21 pm21 an21 cd21 ct21), sl21⟩)
    (c21 : PySem.W.codeIn K cd21 "_law_odd" = true)
    (k21 : PySem.W.keepIn K (.ref f21) = true)
    (a22 : PySem.W.nsIn K mainGlobals "_law_is_number" = some (some (.ref f22)))
    (l22 : K.lookup f22 = some ⟨oc22, od22, .func (PySem.W.fnOf "_law_is_number" "_law_is_number" (defArgs s22) (defBody s22) (defScope s22) .none kV22 dc22 pm22 an22 cd22 ct22), sl22⟩)
    (c22 : PySem.W.codeIn K cd22 "_law_is_number" = true)
    (k22 : PySem.W.keepIn K (.ref f22) = true)
    (a23 : PySem.W.nsIn K mainGlobals "_law_due" = some (some (.ref f23)))
    (l23 : K.lookup f23 = some ⟨oc23, od23, .func (PySem.W.fnOf "_law_due" "_law_due" (defArgs s23) (defBody s23) (defScope s23) .none kV23 dc23 pm23 an23 cd23 ct23), sl23⟩)
    (c23 : PySem.W.codeIn K cd23 "_law_due" = true)
    (k23 : PySem.W.keepIn K (.ref f23) = true)
    (a24 : PySem.W.nsIn K mainGlobals "_law_right" = some (some (.ref f24)))
    (l24 : K.lookup f24 = some ⟨oc24, od24, .func (PySem.W.fnOf "_law_right" "_law_right" (defArgs s24) (defBody s24) (defScope s24) .none kV24 dc24 pm24 an24 (.ref cR) ct24), sl24⟩)
    (c24 : PySem.W.codeIn K (.ref cR) "_law_right" = true)
    (k24 : PySem.W.keepIn K (.ref f24) = true)
    (a25 : PySem.W.nsIn K mainGlobals "law" = some (some (.ref f25)))
    (l25 : K.lookup f25 = some ⟨oc25, od25, .func (PySem.W.fnOf "law" "law" (defArgs s25) (defBody s25) (defScope s25) .none kV25 dc25 pm25 an25 cd25 ct25), sl25⟩)
    (c25 : PySem.W.codeIn K cd25 "law" = true)
    (k25 : PySem.W.keepIn K (.ref f25) = true)
    (a26 : PySem.W.nsIn K mainGlobals "is_tuple" = some (some (.ref f26)))
    (l26 : K.lookup f26 = some ⟨oc26, od26, .func (PySem.W.fnOf "is_tuple" "is_tuple" (defArgs s26) (defBody s26) (defScope s26) .none kV26 dc26 pm26 an26 cd26 ct26), sl26⟩)
    (c26 : PySem.W.codeIn K cd26 "is_tuple" = true)
    (k26 : PySem.W.keepIn K (.ref f26) = true)
    (a27 : PySem.W.nsIn K mainGlobals "shows_learned" = some (some (.ref f27)))
    (l27 : K.lookup f27 = some ⟨oc27, od27, .func (PySem.W.fnOf "shows_learned" "shows_learned" (defArgs s27) (defBody s27) (defScope s27) .none kV27 dc27 pm27 an27 cd27 ct27), sl27⟩)
    (c27 : PySem.W.codeIn K cd27 "shows_learned" = true)
    (k27 : PySem.W.keepIn K (.ref f27) = true)
    (aM : PySem.W.nsIn K mainGlobals "_law_met" = some (some (.ref fM)))
    (lM : K.lookup fM = some ⟨ocM, odM, .func (PySem.W.fnOf "_law_met" "_law_met" (defArgs sM) (defBody sM) (defScope sM) .none kVM dcM pmM anM cdM ctM), slM⟩)
    (cM : PySem.W.codeIn K cdM "_law_met" = true)
    (kM : PySem.W.keepIn K (.ref fM) = true)
    (lR : K.lookup cR = some ⟨ocR, odR, .fields vsR, slR⟩)
    (tR : vsR[11]? = some (.ref tb))
    (hR : PySem.W.codeHdIn K cR tb = true)
    (nT : K.lookup tb = none)
    (aC0 : PySem.W.nsIn K mainGlobals "Learner" = some (some (.ref C0)))
    (pg0 : PySem.W.plainGet K C0 Str.empty = true)
    (hd0 : PySem.W.hasDictIn K C0 = true)
    (po0 : PySem.W.plainOver K C0 = true)
    (sa0 : PySem.W.findIn K (.ref C0) "__setattr__" = some (some (.builtin "object.__setattr__")))
    (mk0 : PySem.W.makesIn K C0 = true)
    (kc0 : PySem.W.keepIn K (.ref C0) = true)
    (nf0_0 : PySem.W.findIn K (.ref C0) "own_counting" = some none)
    (nf0_1 : PySem.W.findIn K (.ref C0) "begun_state" = some none)
    (nf0_2 : PySem.W.findIn K (.ref C0) "times" = some none)
    (nf0_3 : PySem.W.findIn K (.ref C0) "tests" = some none)
    (nf0_4 : PySem.W.findIn K (.ref C0) "left" = some none)
    (nf0_5 : PySem.W.findIn K (.ref C0) "found_time" = some none)
    (aC_1 : PySem.W.nsIn K mainGlobals "BadMany" = some (some (.ref E1)))
    (aC_2 : PySem.W.nsIn K mainGlobals "BadWord" = some (some (.ref E2)))
    (aC_3 : PySem.W.nsIn K mainGlobals "DoorError" = some (some (.ref E3)))
    (iS : PySem.W.findIn K (.ref E1) "__init__" = some (some (.ref fS)))
    (lS : K.lookup fS = some ⟨ocS, odS, .func (PySem.W.ksFn "__init__" "DoorError.__init__" (defArgs sS) (defBody sS) (defScope sS) .none kVS dcS pmS anS (.ref cS) ctS cc), slS⟩)
    (cS_ : PySem.W.codeIn K (.ref cS) "DoorError.__init__" = true)
    (lS2 : K.lookup cS = some ⟨clS1, odS1, .fields vsS, slS1⟩)
    (fS2 : vsS[2]? = some (.str fileS tkS))
    (eS : ((l.prog.main.file : Str) == fileS) = true)
    (lS3 : K.lookup cc = some ⟨clS2, odS2, .cell (some (.ref E3)), slS2⟩)
    (dE : PySem.W.clsIn K E3 = some cdE)
    (tS : PySem.W.typeIn K (.ref fS) = some (.type "function"))
    (tp : (l.prog.main.scope.names.lookup ("super" : Str)).isSome = false)
    (oq : PySem.W.nsIn K cStatics "thirdparty.any" = some none)
    (hn : PySem.W.specialIn K (.builtin "object.__class__") "__get__" = some (some (.builtin "getset_descriptor.__get__")))
    (ht : PySem.W.takesIn K (.builtin "object.__class__") = some true)
    (oc_1 : K.lookup E1 = some (excClassObj nm1 qn1 E1 N1 bs1 bm1 true sn1 su1 ab1 co1 dd_1 k0_1 k1_1 k2_1 k3_1 k5_1 "ValueError.__new__"))
    (rv1 : PySem.HandSPX.refsVE bm1 = true)
    (es1 : PySem.W.findIn K (.ref E1) "__setattr__" = some (some (.builtin "object.__setattr__")))
    (xb1 : PySem.W.subIn K (.ref E1) (.type "BaseException") = some true)
    (ty1 : PySem.W.typeIn K (.ref E1) = some (.type "type"))
    (ek1 : PySem.W.keepIn K (.ref E1) = true)
    (mr1 : PySem.W.mroIn K E1 (.ref E3) = some true)
    (sp1 : PySem.W.ks_superIn K E1 E3 "__init__" = some (some (.builtin "ValueError.__init__")))
    (ve1 : PySem.W.subIn K (.ref E1) (.type "ValueError") = some true)
    (nv1 : PySem.W.findIn K (.ref E1) "value" = some none)
    (in1 : PySem.W.findIn K (.ref E1) "__init__" = some (some (.ref fS)))
    (ga1 : PySem.W.findIn K (.ref E1) "__getattribute__" = some (some (.builtin "BaseException.__getattribute__")))
    (ge1 : PySem.W.findIn K (.ref E1) "__getattr__" = some none)
    (hd_1 : PySem.W.hasDictIn K E1 = true)
    (cl1 : PySem.W.findIn K (.ref E1) "__class__" = some (some (.builtin "object.__class__")))
    (mo1 : PySem.W.mroIn K E1 (.type "object") = some true)
    (ex1 : PySem.W.exmOne K (.ref E1) (.ref E3) = some true)
    (ki1 : PySem.W.kitOne K (.ref E1) (.ref E1) = some true)
    (kw1 : PySem.W.kitOne K (.ref E1) (.ref E2) = some false)
    (kv1 : PySem.W.kitOne K (.ref E1) (.type "ValueError") = some true)
    (oc_2 : K.lookup E2 = some (excClassObj nm2 qn2 E2 N2 bs2 bm2 true sn2 su2 ab2 co2 dd_2 k0_2 k1_2 k2_2 k3_2 k5_2 "ValueError.__new__"))
    (rv2 : PySem.HandSPX.refsVE bm2 = true)
    (es2 : PySem.W.findIn K (.ref E2) "__setattr__" = some (some (.builtin "object.__setattr__")))
    (xb2 : PySem.W.subIn K (.ref E2) (.type "BaseException") = some true)
    (ty2 : PySem.W.typeIn K (.ref E2) = some (.type "type"))
    (ek2 : PySem.W.keepIn K (.ref E2) = true)
    (mr2 : PySem.W.mroIn K E2 (.ref E3) = some true)
    (sp2 : PySem.W.ks_superIn K E2 E3 "__init__" = some (some (.builtin "ValueError.__init__")))
    (ve2 : PySem.W.subIn K (.ref E2) (.type "ValueError") = some true)
    (nv2 : PySem.W.findIn K (.ref E2) "value" = some none)
    (in2 : PySem.W.findIn K (.ref E2) "__init__" = some (some (.ref fS)))
    (ga2 : PySem.W.findIn K (.ref E2) "__getattribute__" = some (some (.builtin "BaseException.__getattribute__")))
    (ge2 : PySem.W.findIn K (.ref E2) "__getattr__" = some none)
    (hd_2 : PySem.W.hasDictIn K E2 = true)
    (cl2 : PySem.W.findIn K (.ref E2) "__class__" = some (some (.builtin "object.__class__")))
    (mo2 : PySem.W.mroIn K E2 (.type "object") = some true)
    (ex2 : PySem.W.exmOne K (.ref E2) (.ref E3) = some true)
    (ki2 : PySem.W.kitOne K (.ref E2) (.ref E1) = some false)
    (kw2 : PySem.W.kitOne K (.ref E2) (.ref E2) = some true)
    (kv2 : PySem.W.kitOne K (.ref E2) (.type "ValueError") = some true)
    (z_ValueError : PySem.W.nsIn K mainGlobals "ValueError" = some none)
    (z_abs : PySem.W.nsIn K mainGlobals "abs" = some none)
    (z_all : PySem.W.nsIn K mainGlobals "all" = some none)
    (z_bool : PySem.W.nsIn K mainGlobals "bool" = some none)
    (z_int : PySem.W.nsIn K mainGlobals "int" = some none)
    (z_isinstance : PySem.W.nsIn K mainGlobals "isinstance" = some none)
    (z_len : PySem.W.nsIn K mainGlobals "len" = some none)
    (z_list : PySem.W.nsIn K mainGlobals "list" = some none)
    (z_max : PySem.W.nsIn K mainGlobals "max" = some none)
    (z_min : PySem.W.nsIn K mainGlobals "min" = some none)
    (z_range : PySem.W.nsIn K mainGlobals "range" = some none)
    (z_repr : PySem.W.nsIn K mainGlobals "repr" = some none)
    (z_sorted : PySem.W.nsIn K mainGlobals "sorted" = some none)
    (z_str : PySem.W.nsIn K mainGlobals "str" = some none)
    (z_super : PySem.W.nsIn K mainGlobals "super" = some none)
    (z_tuple : PySem.W.nsIn K mainGlobals "tuple" = some none)
    (hT : h.get? tb = some emptyTab)
    (gg0 : PySem.W.nsIn K mainGlobals "MOST_WAIT" = some (some (.int 8 tk0)))
    (gg1 : PySem.W.nsIn K mainGlobals "BOTH" = some (some (.str "both" tk1)))
    (gg2 : PySem.W.nsIn K mainGlobals "MOST_DOORS" = some (some (.int 3 tk2)))
    (gg3 : PySem.W.nsIn K mainGlobals "COUNTINGS" = some (some (.ref ad3)))
    (ggl3 : K.lookup ad3 = some ⟨.type "tuple", dd3, .seq #[Value.str "both" tk3_0, Value.str "out" tk3_1] n3, sl_3⟩)
    (gg4 : PySem.W.nsIn K mainGlobals "TRIPLE" = some (some (.int 3 tk4))) :
    LawG l w K 180 63 "script" mg fa h := by
  have e := hfa.symm.trans (PySem.W.mg_of X G a25)
  cases e
  let a : Nat → Addr := fun i => [f0, f1, f2, f3, f4, f5, f6, f7, f8, f9, f10, f11, f12, f13, f14, f15, f16, f17, f18, f19, f20, f21, f22, f23, f24, fa, f26, f27, fa, fa, fM, fS].getD i 0
  let fd : Nat → FuncData := fun i => [PySem.W.fnOf "is_integer" "is_integer" (defArgs s0) (defBody s0) (defScope s0) .none kV0 dc0 pm0 an0 cd0 ct0, PySem.W.fnOf "is_between" "is_between" (defArgs s1) (defBody s1) (defScope s1) .none kV1 dc1 pm1 an1 cd1 ct1, PySem.W.fnOf "is_word" "is_word" (defArgs s2) (defBody s2) (defScope s2) .none kV2 dc2 pm2 an2 cd2 ct2, PySem.W.fnOf "state_of" "state_of" (defArgs s3) (defBody s3) (defScope s3) .none kV3 dc3 pm3 an3 cd3 ct3, PySem.W.fnOf "first_state" "first_state" (defArgs s4) (defBody s4) (defScope s4) .none kV4 dc4 pm4 an4 cd4 ct4, PySem.W.fnOf "is_known" "is_known" (defArgs s5) (defBody s5) (defScope s5) .none kV5 dc5 pm5 an5 cd5 ct5, PySem.W.fnOf "behind" "behind" (defArgs s6) (defBody s6) (defScope s6) .none kV6 dc6 pm6 an6 cd6 ct6, PySem.W.fnOf "tests_of" "tests_of" (defArgs s7) (defBody s7) (defScope s7) .none kV7 dc7 pm7 an7 cd7 ct7, PySem.W.fnOf "states_behind" "states_behind" (defArgs s8) (defBody s8) (defScope s8) .none kV8 dc8 pm8 an8 cd8 ct8, PySem.W.fnOf "all_states" "all_states" (defArgs s9) (defBody s9) (defScope s9) .none kV9 dc9 pm9 an9 cd9 ct9, PySem.W.fnOf "__init__" "Learner.__init__" (defArgs s10) (defBody s10) (defScope s10) .none kV10 dc10 pm10 an10 cd10 ct10, PySem.W.fnOf "time_of" "Learner.time_of" (defArgs s11) (defBody s11) (defScope s11) .none kV11 dc11 pm11 an11 cd11 ct11, PySem.W.fnOf "good_test" "Learner.good_test" (defArgs s12) (defBody s12) (defScope s12) .none kV12 dc12 pm12 an12 cd12 ct12, PySem.W.fnOf "settle" "Learner.settle" (defArgs s13) (defBody s13) (defScope s13) .none kV13 dc13 pm13 an13 cd13 ct13, PySem.W.fnOf "plan" "Learner.plan" (defArgs s14) (defBody s14) (defScope s14) .none kV14 dc14 pm14 an14 cd14 ct14, PySem.W.fnOf "table" "Learner.table" (defArgs s15) (defBody s15) (defScope s15) .none kV15 dc15 pm15 an15 cd15 ct15, PySem.W.fnOf "check_asked" "check_asked" (defArgs s16) (defBody s16) (defScope s16) .none kV16 dc16 pm16 an16 cd16 ct16, PySem.W.fnOf "learned" "learned" (defArgs s17) (defBody s17) (defScope s17) .none kV17 dc17 pm17 an17 cd17 ct17, PySem.W.fnOf "_law_jar" "_law_jar" (defArgs s18) (defBody s18) (defScope s18) .none kV18 dc18 pm18 an18 cd18 ct18, PySem.W.fnOf "_law_take" "_law_take" (defArgs s19) (defBody s19) (defScope s19) .none kV19 dc19 pm19 an19 cd19 ct19, PySem.W.fnOf "_law_of" "_law_of" (defArgs s20) (defBody s20) (defScope s20) .none kV20 dc20 pm20 an20 cd20 ct20, PySem.W.fnOf "_law_odd" "_law_odd" (defArgs s21) (defBody s21) (defScope s21) .none kV21 dc21 pm21 an21 cd21 ct21, PySem.W.fnOf "_law_is_number" "_law_is_number" (defArgs s22) (defBody s22) (defScope s22) .none kV22 dc22 pm22 an22 cd22 ct22, PySem.W.fnOf "_law_due" "_law_due" (defArgs s23) (defBody s23) (defScope s23) .none kV23 dc23 pm23 an23 cd23 ct23, PySem.W.fnOf "_law_right" "_law_right" (defArgs s24) (defBody s24) (defScope s24) .none kV24 dc24 pm24 an24 (.ref cR) ct24, PySem.W.fnOf "law" "law" (defArgs s25) (defBody s25) (defScope s25) .none kV25 dc25 pm25 an25 cd25 ct25, PySem.W.fnOf "is_tuple" "is_tuple" (defArgs s26) (defBody s26) (defScope s26) .none kV26 dc26 pm26 an26 cd26 ct26, PySem.W.fnOf "shows_learned" "shows_learned" (defArgs s27) (defBody s27) (defScope s27) .none kV27 dc27 pm27 an27 cd27 ct27, PySem.W.fnOf "law" "law" (defArgs s25) (defBody s25) (defScope s25) .none kV25 dc25 pm25 an25 cd25 ct25, PySem.W.fnOf "law" "law" (defArgs s25) (defBody s25) (defScope s25) .none kV25 dc25 pm25 an25 cd25 ct25, PySem.W.fnOf "_law_met" "_law_met" (defArgs sM) (defBody sM) (defScope sM) .none kVM dcM pmM anM cdM ctM].getD i (PySem.W.fnOf "law" "law" (defArgs s25) (defBody s25) (defScope s25) .none kV25 dc25 pm25 an25 cd25 ct25)
  let T : Tb := ⟨l.prog, w, K, mg, fun c => [C0, E1, E2, E3].getD c 0, nmF, hfF, tb, "_law_right.<locals>.<lambda>"⟩
  have tabok : TabOk T := by
    refine ⟨fun c f h => ?_, fun c f g h1 h2 e => ?_⟩
    · have h' : hfF c f = true := h
      match c, f, h' with
      | 0, 0, _ => exact nf0_0
      | 0, 1, _ => exact nf0_1
      | 0, 2, _ => exact nf0_2
      | 0, 3, _ => exact nf0_3
      | 0, 4, _ => exact nf0_4
      | 0, 5, _ => exact nf0_5
    · have h1' : hfF c f = true := h1
      have h2' : hfF c g = true := h2
      exact nm_inj c f g h1' h2' e
  have hsup : SupI T.K T.P (a 31) (T.ca 3) sS "DoorError.__init__" "value" erF :=
    ⟨⟨_, _, _, _, _, _, _, _, _, _, _, _, _, _, _, _, _, _, _, _, lS, cS_, lS2, fS2, eS, lS3, dE⟩, supM, ⟨_, rfl, rfl⟩, fun _ _ _ _ _ _ _ _ _ => rfl, rfl, rfl, rfl, by decide +kernel, rfl, rfl, rfl, rfl, by decide +kernel, by decide +kernel, tp⟩
  have t : Txt T a := ⟨tabok, PySem.W.mg_none_of X G z_abs, PySem.W.mg_none_of X G z_all, PySem.W.mg_none_of X G z_bool, PySem.W.mg_none_of X G z_int, PySem.W.mg_none_of X G z_isinstance, PySem.W.mg_none_of X G z_len, PySem.W.mg_none_of X G z_list, PySem.W.mg_none_of X G z_max, PySem.W.mg_none_of X G z_min, PySem.W.mg_none_of X G z_range, PySem.W.mg_none_of X G z_repr, PySem.W.mg_none_of X G z_sorted, PySem.W.mg_none_of X G z_str, PySem.W.mg_none_of X G z_tuple, PySem.W.mg_of X G a0, PySem.W.mg_of X G a1, PySem.W.mg_of X G a2, PySem.W.mg_of X G a3, PySem.W.mg_of X G a4, PySem.W.mg_of X G a5, PySem.W.mg_of X G a6, PySem.W.mg_of X G a7, PySem.W.mg_of X G a8, PySem.W.mg_of X G a9, PySem.W.mg_of X G a16, PySem.W.mg_of X G a17, PySem.W.mg_of X G a18, PySem.W.mg_of X G a19, PySem.W.mg_of X G a20, PySem.W.mg_of X G a21, PySem.W.mg_of X G a22, PySem.W.mg_of X G a23, PySem.W.mg_of X G a24, PySem.W.mg_of X G a25, PySem.W.mg_of X G a26, PySem.W.mg_of X G a27, PySem.W.mg_of X G aC0, ⟨pg0, hd0, po0, sa0⟩, ⟨mk0, a10, i10, kc0⟩, ⟨a11, i11, k11⟩, ⟨a12, i12, k12⟩, ⟨a13, i13, k13⟩, ⟨a14, i14, k14⟩, ⟨a15, i15, k15⟩, PySem.W.mg_none_of X G z_super, PySem.W.mg_none_of X G z_ValueError, hsup, tS, PySem.W.mg_of X G aM, rfl, PySem.W.mg_of X G aC_1, ⟨⟨⟨_, _, _, _, _, _, _, _, _, _, _, _, _, _, _, oc_1, rv1⟩, es1, xb1, ty1, ek1⟩, mr1, oq, sp1, ve1, nv1⟩, in1, ⟨ex1, ⟨ga1, ge1, xb1, hd_1, cl1, hn, ht, mo1⟩, ⟨ga1, ge1, xb1, hd_1⟩, nv1, true, ki1, kw1, kv1, rfl⟩, PySem.W.mg_of X G aC_2, ⟨⟨⟨_, _, _, _, _, _, _, _, _, _, _, _, _, _, _, oc_2, rv2⟩, es2, xb2, ty2, ek2⟩, mr2, oq, sp2, ve2, nv2⟩, in2, ⟨ex2, ⟨ga2, ge2, xb2, hd_2, cl2, hn, ht, mo2⟩, ⟨ga2, ge2, xb2, hd_2⟩, nv2, false, ki2, kw2, kv2, rfl⟩, PySem.W.mg_of X G aC_3, ⟨_, PySem.W.mg_of X G gg0⟩, ⟨_, PySem.W.mg_of X G gg1⟩, ⟨_, PySem.W.mg_of X G gg2⟩, ⟨_, _, _, _, _, _, PySem.W.mg_of X G gg3, ggl3⟩, ⟨_, PySem.W.mg_of X G gg4⟩⟩
  have u : Funs T a fd cR := ⟨fun_mk (st := s0) l0 c0 k0, fun_mk (st := s1) l1 c1 k1, fun_mk (st := s2) l2 c2 k2, fun_mk (st := s3) l3 c3 k3, fun_mk (st := s4) l4 c4 k4, fun_mk (st := s5) l5 c5 k5, fun_mk (st := s6) l6 c6 k6, fun_mk (st := s7) l7 c7 k7, fun_mk (st := s8) l8 c8 k8, fun_mk (st := s9) l9 c9 k9, fun_mk (st := s10) l10 c10 k10, fun_mk (st := s11) l11 c11 k11, fun_mk (st := s12) l12 c12 k12, fun_mk (st := s13) l13 c13 k13, fun_mk (st := s14) l14 c14 k14, fun_mk (st := s15) l15 c15 k15, fun_mk (st := s16) l16 c16 k16, fun_mk (st := s17) l17 c17 k17, fun_mk (st := s18) l18 c18 k18, fun_mk (st := s19) l19 c19 k19, fun_mk (st := s20) l20 c20 k20, fun_mk (st := s21) l21 c21 k21, fun_mk (st := s22) l22 c22 k22, fun_mk (st := s23) l23 c23 k23, funC_mk (st := s24) l24 c24 k24, fun_mk (st := s25) l25 c25 k25, fun_mk (st := s26) l26 c26 k26, fun_mk (st := s27) l27 c27 k27, fun_mk (st := sM) lM cM kM⟩
  refine ⟨fd 25, cR, tb, spLaw K tb, hT, nT, PySem.W.codeHd_of_K X hR, fun s v => .of_eq rfl, fun H a ns hl hH hS => ⟨a, ns, rfl, hS, hl, hH, fun _ => rfl⟩, fun base KB GB TB => ?_⟩
  have F2 : FnG l.prog w K mg base 180 fa (fd 25) ["script"] (spC T (callN pg 90) 25 1) := fnAt (all (base := base) t rfl rfl u TB 89).1 t u
  refine F2.imp fun vs H Q E hh => ?_
  obtain ⟨ad, ns, rfl, hs, hl, hH, q⟩ := hh
  obtain ⟨st', ev⟩ := run ns hl
  have nad : ∀ xs, Rd H ad (.lst xs) → ad ∉ [tb] := fun xs hr hm => by
    rw [List.mem_singleton.mp hm] at hr
    rcases hr with hr | ⟨ob, hr⟩ <;> rw [hH] at hr <;> cases hr
  have g0 : GoodT T (fun _ => False) [tb] H [.tbl] := by
    refine ⟨fun _ z => z.elim, fun _ _ z => z, ⟨rfl, by simp, fun i o b h1 h2 => ?_⟩⟩
    cases i with
    | zero =>
      cases h1
      cases h2
      refine ⟨rfl, #[], hH, True.intro, fun pos cv hc => ?_⟩
      have z : codeAmong pos [] = some cv := hc
      simp [codeAmong] at z
    | succ i => simp at h1
  refine ⟨fun _ => False, [tb], [.tbl], [.scr ns], .bl true, st', g0, ⟨.ref ad, [], rfl, ⟨ad, rfl, ?_⟩, rfl⟩, rfl, ev, fun v H' μ' _ hv => ?_⟩
  · rcases hs with hs | hs
    · exact .inl ⟨hs, fun z => by rcases z with z | z; exact nad _ hs z; exact z⟩
    · exact .inr hs
  · obtain rfl : v = .bl true := hv
    exact q H'
theorem walk {l : PySem.W.OpenLaw} {q : Program} {loose : List Str} {XP : (Str → Option Value) → Heap → Prop} {YP : World → Heap → Prop} {d : DefRec} {K : Params → PySem.W.Frag} (hn : l.most = some 63) (hdf : d.params.defaults = [])
    (hY : ∀ (w : World) (h : Heap), YP w h → (K w.params).In h)
    (F : ∀ (w : World) (mg : Str → Option Value) (fa : Addr) (h : Heap), YP w h → (K w.params).In h → h.Ns mainGlobals mg → mg d.name = some (.ref fa) → LawG l w (K w.params) 180 63 "script" mg fa h) :
    PySem.W.WalkO q loose XP YP l.row.toRowW d [] (fun f vs => PySem.call f vs) := walk_ofG hn (by decide) hdf ⟨rfl, by decide, by decide⟩ hY F
end K77
end ZK77b
section ZK77end
set_option Elab.async false
set_option maxRecDepth 100000
theorem K77.runOk : K77.RunOk := fun ns _ => K77.law_ev ns
open PySem PySem.W PyProof.Rows
set_option maxRecDepth 100000 in
set_option maxHeartbeats 0 in
theorem PySem.Challenge.cw_doorsleep_k77_learning_refused_holds : PySem.Challenge.rw_doorsleep_k77_learning_refused.Holds := by
  w_on; o_law; k_head; (case hw => w_witness2)
  k_fill
  refine K77.walk (l := PySem.Challenge.rw_doorsleep_k77_learning_refused) rfl rfl (fun w h Y => PySem.W.km_in_of Y) ?F
  case F =>
    intro w mg fa h Y KX G hmg
    refine' K77.all_mk K77.runOk KX G hmg ?a0 ?l0 ?c0 ?k0 ?a1 ?l1 ?c1 ?k1 ?a2 ?l2 ?c2 ?k2 ?a3 ?l3 ?c3 ?k3 ?a4 ?l4 ?c4 ?k4 ?a5 ?l5 ?c5 ?k5 ?a6 ?l6 ?c6 ?k6 ?a7 ?l7 ?c7 ?k7 ?a8 ?l8 ?c8 ?k8 ?a9 ?l9 ?c9 ?k9 ?a10 ?i10 ?l10 ?c10 ?k10 ?a11 ?i11 ?l11 ?c11 ?k11 ?a12 ?i12 ?l12 ?c12 ?k12 ?a13 ?i13 ?l13 ?c13 ?k13 ?a14 ?i14 ?l14 ?c14 ?k14 ?a15 ?i15 ?l15 ?c15 ?k15 ?a16 ?l16 ?c16 ?k16 ?a17 ?l17 ?c17 ?k17 ?a18 ?l18 ?c18 ?k18 ?a19 ?l19 ?c19 ?k19 ?a20 ?l20 ?c20 ?k20 ?a21 ?l21 ?c21 ?k21 ?a22 ?l22 ?c22 ?k22 ?a23 ?l23 ?c23 ?k23 ?a24 ?l24 ?c24 ?k24 ?a25 ?l25 ?c25 ?k25 ?a26 ?l26 ?c26 ?k26 ?a27 ?l27 ?c27 ?k27 ?aM ?lM ?cM ?kM ?lR ?tR ?hR ?nT ?aC0 ?pg0 ?hd0 ?po0 ?sa0 ?mk0 ?kc0 ?nf0_0 ?nf0_1 ?nf0_2 ?nf0_3 ?nf0_4 ?nf0_5 ?aC_1 ?aC_2 ?aC_3 ?iS ?lS ?cS_ ?lS2 ?fS2 ?eS ?lS3 ?dE ?tS ?tp ?oq ?hn ?ht ?oc_1 ?rv1 ?es1 ?xb1 ?ty1 ?ek1 ?mr1 ?sp1 ?ve1 ?nv1 ?in1 ?ga1 ?ge1 ?hd_1 ?cl1 ?mo1 ?ex1 ?ki1 ?kw1 ?kv1 ?oc_2 ?rv2 ?es2 ?xb2 ?ty2 ?ek2 ?mr2 ?sp2 ?ve2 ?nv2 ?in2 ?ga2 ?ge2 ?hd_2 ?cl2 ?mo2 ?ex2 ?ki2 ?kw2 ?kv2 ?z_ValueError ?z_abs ?z_all ?z_bool ?z_int ?z_isinstance ?z_len ?z_list ?z_max ?z_min ?z_range ?z_repr ?z_sorted ?z_str ?z_super ?z_tuple ?hT ?gg0 ?gg1 ?gg2 ?gg3 ?ggl3 ?gg4
    (case aC0 => k_is)
    (case aC_1 => k_is)
    (case aC_2 => k_is)
    (case aC_3 => k_is)
    (case a0 => k_is)
    (case l0 => k_is)
    (case c0 => k_is)
    (case k0 => k_is)
    (case a1 => k_is)
    (case l1 => k_is)
    (case c1 => k_is)
    (case k1 => k_is)
    (case a2 => k_is)
    (case l2 => k_is)
    (case c2 => k_is)
    (case k2 => k_is)
    (case a3 => k_is)
    (case l3 => k_is)
    (case c3 => k_is)
    (case k3 => k_is)
    (case a4 => k_is)
    (case l4 => k_is)
    (case c4 => k_is)
    (case k4 => k_is)
    (case a5 => k_is)
    (case l5 => k_is)
    (case c5 => k_is)
    (case k5 => k_is)
    (case a6 => k_is)
    (case l6 => k_is)
    (case c6 => k_is)
    (case k6 => k_is)
    (case a7 => k_is)
    (case l7 => k_is)
    (case c7 => k_is)
    (case k7 => k_is)
    (case a8 => k_is)
    (case l8 => k_is)
    (case c8 => k_is)
    (case k8 => k_is)
    (case a9 => k_is)
    (case l9 => k_is)
    (case c9 => k_is)
    (case k9 => k_is)
    (case a10 => k_is)
    (case i10 => k_is)
    (case l10 => k_is)
    (case c10 => k_is)
    (case k10 => k_is)
    (case a11 => k_is)
    (case i11 => k_is)
    (case l11 => k_is)
    (case c11 => k_is)
    (case k11 => k_is)
    (case a12 => k_is)
    (case i12 => k_is)
    (case l12 => k_is)
    (case c12 => k_is)
    (case k12 => k_is)
    (case a13 => k_is)
    (case i13 => k_is)
    (case l13 => k_is)
    (case c13 => k_is)
    (case k13 => k_is)
    (case a14 => k_is)
    (case i14 => k_is)
    (case l14 => k_is)
    (case c14 => k_is)
    (case k14 => k_is)
    (case a15 => k_is)
    (case i15 => k_is)
    (case l15 => k_is)
    (case c15 => k_is)
    (case k15 => k_is)
    (case a16 => k_is)
    (case l16 => k_is)
    (case c16 => k_is)
    (case k16 => k_is)
    (case a17 => k_is)
    (case l17 => k_is)
    (case c17 => k_is)
    (case k17 => k_is)
    (case a18 => k_is)
    (case l18 => k_is)
    (case c18 => k_is)
    (case k18 => k_is)
    (case a19 => k_is)
    (case l19 => k_is)
    (case c19 => k_is)
    (case k19 => k_is)
    (case a20 => k_is)
    (case l20 => k_is)
    (case c20 => k_is)
    (case k20 => k_is)
    (case a21 => k_is)
    (case l21 => k_is)
    (case c21 => k_is)
    (case k21 => k_is)
    (case a22 => k_is)
    (case l22 => k_is)
    (case c22 => k_is)
    (case k22 => k_is)
    (case a23 => k_is)
    (case l23 => k_is)
    (case c23 => k_is)
    (case k23 => k_is)
    (case a24 => k_is)
    (case l24 => k_is)
    (case c24 => k_is)
    (case k24 => k_is)
    (case a25 => k_is)
    (case l25 => k_is)
    (case c25 => k_is)
    (case k25 => k_is)
    (case a26 => k_is)
    (case l26 => k_is)
    (case c26 => k_is)
    (case k26 => k_is)
    (case a27 => k_is)
    (case l27 => k_is)
    (case c27 => k_is)
    (case k27 => k_is)
    (case aM => k_is)
    (case lM => k_is)
    (case cM => k_is)
    (case kM => k_is)
    (case lR => k_is)
    (case tR => rfl)
    (case hR => kernel_rfl)
    (case nT => kernel_rfl)
    (case pg0 => k_is)
    (case hd0 => k_is)
    (case po0 => k_is)
    (case sa0 => k_is)
    (case mk0 => k_is)
    (case kc0 => k_is)
    (case nf0_0 => k_is)
    (case nf0_1 => k_is)
    (case nf0_2 => k_is)
    (case nf0_3 => k_is)
    (case nf0_4 => k_is)
    (case nf0_5 => k_is)
    (case iS => k_is)
    (case lS => k_is)
    (case cS_ => k_is)
    (case lS2 => k_is)
    (case fS2 => rfl)
    (case eS => kernel_rfl)
    (case lS3 => k_is)
    (case dE => k_is)
    (case tS => k_is)
    (case tp => kernel_rfl)
    (case oq => k_is)
    (case hn => k_is)
    (case ht => k_is)
    (case oc_1 => k_is)
    (case rv1 => rfl)
    (case es1 => k_is)
    (case xb1 => k_is)
    (case ty1 => k_is)
    (case ek1 => k_is)
    (case mr1 => k_is)
    (case sp1 => ks_is)
    (case ve1 => k_is)
    (case nv1 => k_is)
    (case in1 => k_is)
    (case ga1 => k_is)
    (case ge1 => k_is)
    (case hd_1 => k_is)
    (case cl1 => k_is)
    (case mo1 => k_is)
    (case ex1 => kernel_rfl)
    (case ki1 => kernel_rfl)
    (case kw1 => kernel_rfl)
    (case kv1 => kernel_rfl)
    (case oc_2 => k_is)
    (case rv2 => rfl)
    (case es2 => k_is)
    (case xb2 => k_is)
    (case ty2 => k_is)
    (case ek2 => k_is)
    (case mr2 => k_is)
    (case sp2 => ks_is)
    (case ve2 => k_is)
    (case nv2 => k_is)
    (case in2 => k_is)
    (case ga2 => k_is)
    (case ge2 => k_is)
    (case hd_2 => k_is)
    (case cl2 => k_is)
    (case mo2 => k_is)
    (case ex2 => kernel_rfl)
    (case ki2 => kernel_rfl)
    (case kw2 => kernel_rfl)
    (case kv2 => kernel_rfl)
    (case z_ValueError => k_is)
    (case z_abs => k_is)
    (case z_all => k_is)
    (case z_bool => k_is)
    (case z_int => k_is)
    (case z_isinstance => k_is)
    (case z_len => k_is)
    (case z_list => k_is)
    (case z_max => k_is)
    (case z_min => k_is)
    (case z_range => k_is)
    (case z_repr => k_is)
    (case z_sorted => k_is)
    (case z_str => k_is)
    (case z_super => k_is)
    (case z_tuple => k_is)
    (case hT => exact PySem.W.km_tabs_of Y _ (by simp))
    (case gg0 => k_is)
    (case gg1 => k_is)
    (case gg2 => k_is)
    (case gg3 => k_is)
    (case ggl3 => k_is)
    (case gg4 => k_is)
#print axioms PySem.Challenge.cw_doorsleep_k77_learning_refused_holds
end ZK77end
