import PyProof.Rows.All
import HandS.CallSlots
import HandS.Comp
import HandS.Conv
import HandS.Deep
import HandS.Defaults
import HandS.DictTup
import HandS.Exc
import HandS.ExcOwn
import HandS.Flow
import HandS.ForMost
import HandS.Head0
import HandS.Head1
import HandS.Head2
import HandS.HeadEnd
import HandS.HeadHook1
import HandS.HeadHook2
import HandS.IsInst
import HandS.SetFor
import HandS.Small
import HandS.Strs
import HandS.Style
import HandS.TryMany
import HandS.TryOnly
import HandS.TupAny
import HandS.Walk
import HandS.Zip
import KE.KDictPairs
import PyProof.P3Statements
import PySem.Str
import PySem.Syntax
import PySem.Challenge.RW_dwellers_k79_main_across_whole_meetings
set_option Elab.async false
section
set_option linter.all false
/-! Rf1: a small interpreter of our own: values, store, syntax, evaluation. Tuples are trees; lists, dicts, instances stand in a store by number. -/
namespace Rf
open PySem

inductive PV where
  | non | bl (b : Bool) | int (i : Int) | str (x : Str) | tup (xs : List PV)
  /-- a list that is never written -/
  | rol (xs : List PV)
  /-- what changes, by its number -/
  | obj (n : Nat)
  deriving Inhabited

inductive MO where
  | lst (xs : List PV)
  /-- a dict; lk: it is being walked -/
  | dct (lk : Bool) (kvs : List (PV × PV))
  /-- an instance of the class number c -/
  | ins (c : Nat) (fs : List (Nat × PV))
  deriving Inhabited

abbrev Sto := List MO
abbrev Loc := List (Option PV)

/-- a text is the other one -/
def nats : List Nat → List Nat → Bool
  | [], [] => true
  | a :: r, b :: s => Nat.beq a b && nats r s
  | _, _ => false
def strB (x y : Str) : Bool := nats x.cps.toList y.cps.toList
/-- a text of code points -/
def SOk (x : Str) : Bool := x.cps.all (· < 0x110000)
mutual
def PV.beq : PV → PV → Bool
  | .non, .non => true
  | .bl a, .bl b => a == b
  | .int a, .int b => decide (a = b)
  | .str a, .str b => strB a b
  | .tup a, .tup b => PV.beqs a b
  | .rol a, .rol b => PV.beqs a b
  | .obj a, .obj b => Nat.beq a b
  | _, _ => false
def PV.beqs : List PV → List PV → Bool
  | [], [] => true
  | a :: r, b :: s => PV.beq a b && PV.beqs r s
  | _, _ => false
end
mutual
/-- nothing that changes stands in it -/
def PV.pure : PV → Bool
  | .tup xs => PV.pures xs
  | .rol xs => PV.pures xs
  | .obj _ => false
  | _ => true
def PV.pures : List PV → Bool
  | [] => true
  | x :: r => PV.pure x && PV.pures r
end
mutual
/-- only objects below n stand in it -/
def PV.under (n : Nat) : PV → Bool
  | .tup xs => PV.unders n xs
  | .rol xs => PV.unders n xs
  | .obj k => Nat.blt k n
  | _ => true
def PV.unders (n : Nat) : List PV → Bool
  | [] => true
  | x :: r => PV.under n x && PV.unders n r
end
def MO.under (n : Nat) : MO → Bool
  | .lst xs => PV.unders n xs
  | .dct _ kvs => kvs.all fun p => PV.under n p.1 && PV.under n p.2
  | .ins _ fs => fs.all fun p => PV.under n p.2
def Sto.closed (n : Nat) (st : Sto) : Bool := st.all fun o => MO.under n o

/-- as data, at most so deep -/
def toD (st : Sto) : Nat → PV → Option PyData
  | 0, _ => none
  | n + 1, v => match v with
    | .non => some .none
    | .bl b => some (.bool b)
    | .int i => some (.int i)
    | .str x => some (.str x)
    | .tup xs => (xs.mapM (toD st n)).map .tuple
    | .rol xs => (xs.mapM (toD st n)).map .list
    | .obj k => (match st[k]? with
      | some (.lst xs) => (xs.mapM (toD st n)).map .list
      | _ => none)

/-- an answer -/
inductive R (α : Type) where
  | ok (a : α) (st : Sto)
  | exc (c : Nat) (fs : List PV) (st : Sto)
  | stuck
  deriving Inhabited
def R.bind {α β : Type} (r : R α) (f : α → Sto → R β) : R β := match r with
  | .ok a st => f a st
  | .exc c fs st => .exc c fs st
  | .stuck => .stuck

inductive BOp where | add | sub | mul | fdiv | mod | pow
  deriving DecidableEq, Repr
inductive COp where | eq | ne | lt | le | gt | ge | isN | notN | in_ | notIn
  deriving DecidableEq, Repr
inductive Kd where | kint | kbool | kstr | klist | ktup
  deriving DecidableEq, Repr
/-- built-ins of one or two arguments -/
inductive Bl where | abs | int | len | max2 | min2 | list | tuple | sum | max | min | sorted | all | any | dict | sortset | str
  deriving DecidableEq, Repr
/-- methods of lists, dicts, tuples -/
inductive Bm where | append | extend | pop | popAt | get1 | get2 | count | index
  deriving DecidableEq, Repr

mutual
inductive Ex where
  | var (i : Nat)
  | lit (v : PV)
  | tup (es : List Ex)
  | lst (es : List Ex)
  | dnew
  | bin (op : BOp) (a b : Ex)
  | cmp (op : COp) (a b : Ex)
  | cmp2 (op op' : COp) (a b c : Ex)
  | not (a : Ex)
  | neg (a : Ex)
  | and (a b : Ex)
  | or (a b : Ex)
  | ife (c a b : Ex)
  | ix (a b : Ex)
  | slice (a : Ex) (lo hi : Option Ex)
  | rev (a : Ex)
  | fld (a : Ex) (f : Nat)
  | call (f : Nat) (es : List Ex)
  | meth (o : Ex) (m : Nat) (es : List Ex)
  | make (c : Nat) (es : List Ex)
  | bl (b : Bl) (es : List Ex)
  | bm (o : Ex) (m : Bm) (es : List Ex)
  | isin (a : Ex) (ks : List Kd)
  | comp (elt : Ex) (tg : Tg) (it : Itr) (ifs : Option Ex) (own : List Nat)
  | comp2 (elt : Ex) (tg : Tg) (it : Itr) (ifs : Option Ex) (tg1 : Tg) (it1 : Itr) (ifs1 : Option Ex) (own own1 : List Nat)
  | stuck
/-- where a value is stored -/
inductive Tg where
  | name (i : Nat)
  | fld (o : Ex) (f : Nat)
  | sub (o i : Ex)
  | tup (ts : List Tg)
inductive Itr where
  | seq (e : Ex)
  | rng1 (a : Ex)
  | rng2 (a b : Ex)
  | enum (a : Ex)
  | zip (a b : Ex)
end
mutual
/-- the slots that a target sets -/
def Tg.ixs : Tg → List Nat
  | .name i => [i]
  | .tup ts => Tg.ixss ts
  | _ => []
def Tg.ixss : List Tg → List Nat
  | [] => []
  | t :: ts => Tg.ixs t ++ Tg.ixss ts
end
instance : Inhabited Ex := ⟨.stuck⟩
instance : Inhabited Tg := ⟨.name 0⟩
instance : Inhabited Itr := ⟨.seq .stuck⟩

inductive Sm where
  | asg (t : Tg) (e : Ex)
  | ex (e : Ex)
  | ret (e : Option Ex)
  | ife (c : Ex) (a b : List Sm)
  | for_ (t : Tg) (it : Itr) (b : List Sm)
  | while_ (c : Ex) (b : List Sm)
  | brk | cont | pass
  | raise (c : Nat) (es : List Ex)
  | try_ (b : List Sm) (hs : List (Nat × List Sm))
  | stuck
  deriving Inhabited

structure Fn where
  arity : Nat
  slots : Nat
  body : List Sm
  deriving Inhabited
structure Cl where
  init : Option Nat
  meths : List (Nat × Nat)
  deriving Inhabited
structure Pg where
  fns : List Fn
  cls : List Cl
  /-- so many own exceptions -/
  nx : Nat
  deriving Inhabited

/-! ### helpers on values -/
def ixOf (n : Nat) (i : Int) : Option Nat :=
  if 0 ≤ i then (if i.toNat < n then some i.toNat else none) else (if 0 ≤ i + n then some (i + n).toNat else none)
def atI {α : Type} (xs : List α) (i : Int) : Option α := (ixOf xs.length i).bind fun j => xs[j]?
/-- a slice's end, clamped -/
def clamp (n : Nat) (d : Nat) : Option Int → Nat
  | none => d
  | some i => if 0 ≤ i then min i.toNat n else (i + n).toNat
def cut {α : Type} (xs : List α) (lo hi : Option Int) : List α :=
  (xs.drop (clamp xs.length 0 lo)).take (clamp xs.length xs.length hi - clamp xs.length 0 lo)
def big : Nat := 16777216
def pints : List PV → Option (List Int)
  | [] => some []
  | .int i :: r => (pints r).map (i :: ·)
  | _ => none
def bools : List PV → Option (List Bool)
  | [] => some []
  | .bl i :: r => (bools r).map (i :: ·)
  | _ => none
def insI (a : Int) : List Int → List Int
  | [] => [a]
  | b :: r => if a ≤ b then a :: b :: r else b :: insI a r
def sortI : List Int → List Int
  | [] => []
  | a :: r => insI a (sortI r)
def dedup : List Int → List Int
  | a :: b :: r => if a = b then dedup (b :: r) else a :: dedup (b :: r)
  | l => l
def keyOk : PV → Bool
  | .int _ => true
  | .str _ => true
  | _ => false
def look (kvs : List (PV × PV)) (k : PV) : Option PV := (kvs.find? fun p => PV.beq p.1 k).map (·.2)
def put (kvs : List (PV × PV)) (k v : PV) : List (PV × PV) :=
  if (kvs.any fun p => PV.beq p.1 k) = true then kvs.map (fun p => if PV.beq p.1 k = true then (p.1, v) else p) else kvs ++ [(k, v)]
def merge (kvs more : List (PV × PV)) : List (PV × PV) := more.foldl (fun acc p => put acc p.1 p.2) kvs
def pairsOf : List PV → Option (List (PV × PV))
  | [] => some []
  | .tup [k, v] :: r => if keyOk k then (pairsOf r).map ((k, v) :: ·) else none
  | _ => none
/-- what stands in a list or a tuple -/
def seqOf (st : Sto) : PV → Option (List PV)
  | .tup xs => some xs
  | .rol xs => some xs
  | .obj k => (match st[k]? with
    | some (.lst xs) => some xs
    | _ => none)
  | _ => none
def newO {α : Type} (f : PV → α) (st : Sto) (o : MO) : R α := .ok (f (.obj st.length)) (st ++ [o])
def mulOk (i j : Int) : Bool := (decide (-(2 ^ 64) < i) && decide (i < 2 ^ 64)) || (decide (-(2 ^ 64) < j) && decide (j < 2 ^ 64))

def binop (op : BOp) (x y : PV) (st : Sto) : R PV := match op, x, y with
  | .add, .int i, .int j => .ok (.int (i + j)) st
  | .add, .tup a, .tup b => if a.length + b.length ≤ big then .ok (.tup (a ++ b)) st else .stuck
  | .add, .obj a, .obj b => (match st[a]?, st[b]? with
    | some (.lst xs), some (.lst ys) => if xs.length + ys.length ≤ big then newO id st (.lst (xs ++ ys)) else .stuck
    | _, _ => .stuck)
  | .sub, .int i, .int j => .ok (.int (i - j)) st
  | .mul, .int i, .int j => if mulOk i j then .ok (.int (i * j)) st else .stuck
  | .mul, .obj a, .int k => (match st[a]? with
    | some (.lst xs) => if 0 ≤ k ∧ k ≤ 1000 ∧ xs.length * k.toNat ≤ big then newO id st (.lst (List.replicate k.toNat xs).flatten) else .stuck
    | _ => .stuck)
  | .fdiv, .int i, .int j => if 0 < j ∧ j < 1073741824 then .ok (.int (i / j)) st else .stuck
  | .mod, .int i, .int j => if 0 < j then .ok (.int (i % j)) st else .stuck
  | .pow, .int i, .int j => if 0 ≤ j ∧ j ≤ 1000000 ∧ i.natAbs < 2 ^ 64 then .ok (.int (i ^ j.toNat)) st else .stuck
  | _, _, _ => .stuck
/-- is y within: a dict, a list, a tuple -/
def within (x y : PV) (st : Sto) : Option Bool := match y with
  | .tup ys => do
    let d ← toD st 60 x
    let ds ← ys.mapM (toD st 60)
    return ds.any fun e => PyData.eqv e d
  | .rol ys => do
    let d ← toD st 60 x
    let ds ← ys.mapM (toD st 60)
    return ds.any fun e => PyData.eqv e d
  | .obj k => (match st[k]? with
    | some (.lst ys) => do
      let d ← toD st 60 x
      let ds ← ys.mapM (toD st 60)
      return ds.any fun e => PyData.eqv e d
    | some (.dct _ kvs) => if keyOk x then some (look kvs x).isSome else none
    | _ => none)
  | _ => none
def eqD (x y : PV) (st : Sto) : Option Bool := do
  let d ← toD st 60 x
  let e ← toD st 60 y
  return PyData.eqv d e
def cmpop (op : COp) (x y : PV) (st : Sto) : Option Bool := match op, x, y with
  | .eq, _, _ => eqD x y st
  | .ne, _, _ => (eqD x y st).map (!·)
  | .lt, .int i, .int j => some (decide (i < j))
  | .le, .int i, .int j => some (decide (i ≤ j))
  | .gt, .int i, .int j => some (decide (j < i))
  | .ge, .int i, .int j => some (decide (j ≤ i))
  | .isN, x, .non => some (match x with | .non => true | _ => false)
  | .notN, x, .non => some (match x with | .non => false | _ => true)
  | .in_, _, _ => within x y st
  | .notIn, _, _ => (within x y st).map (!·)
  | _, _, _ => none
def kindOf (x : PV) (st : Sto) : Kd → Option Bool := fun k => match x, k with
  | .int _, .kint => some true
  | .bl _, .kbool => some true
  | .bl _, .kint => some true
  | .str _, .kstr => some true
  | .tup _, .ktup => some true
  | .rol _, .klist => some true
  | .obj n, k => (match st[n]? with
    | some (.lst _) => some (decide (k = .klist))
    | _ => none)
  | _, _ => some false
def isin (x : PV) (st : Sto) : List Kd → Option Bool
  | [] => some false
  | k :: r => do
    let a ← kindOf x st k
    let b ← isin x st r
    return a || b
def oR {α : Type} (o : Option α) (st : Sto) : R α := match o with
  | some a => .ok a st
  | none => .stuck
def item (x y : PV) (st : Sto) : Option PV := match x, y with
  | .tup xs, .int i => atI xs i
  | .rol xs, .int i => atI xs i
  | .obj k, y => (match st[k]?, y with
    | some (.lst xs), .int i => atI xs i
    | some (.dct _ kvs), y => if keyOk y then look kvs y else none
    | _, _ => none)
  | _, _ => none
def sliceOf (x : PV) (a b : Option Int) (st : Sto) : R PV := match x with
  | .tup xs => .ok (.tup (cut xs a b)) st
  | .rol xs => newO id st (.lst (cut xs a b))
  | .obj k => (match st[k]? with
    | some (.lst xs) => newO id st (.lst (cut xs a b))
    | _ => .stuck)
  | _ => .stuck
def revOf (x : PV) (st : Sto) : R PV := match x with
  | .tup xs => .ok (.tup xs.reverse) st
  | .rol xs => newO id st (.lst xs.reverse)
  | .obj k => (match st[k]? with
    | some (.lst xs) => newO id st (.lst xs.reverse)
    | _ => .stuck)
  | _ => .stuck
/-- a built-in over what its argument holds (t: it is a tuple) -/
def blSeq (b : Bl) (t : Bool) (xs : List PV) (st : Sto) : R PV := match b, t with
  | .list, _ => newO id st (.lst xs)
  | .tuple, _ => .ok (.tup xs) st
  | .len, _ => .ok (.int xs.length) st
  | .sum, false => (match pints xs with | some ns => .ok (.int ns.sum) st | none => .stuck)
  | .all, false => (match bools xs with | some ns => .ok (.bl (ns.all id)) st | none => .stuck)
  | .any, false => (match bools xs with | some ns => .ok (.bl (ns.any id)) st | none => .stuck)
  | .max, false => (match pints xs with | some (n :: ns) => .ok (.int (ns.foldl max n)) st | _ => .stuck)
  | .min, false => (match pints xs with | some (n :: ns) => .ok (.int (ns.foldl min n)) st | _ => .stuck)
  | .sorted, false => (match pints xs with | some ns => if ns.length < 64 then newO id st (.lst ((sortI ns).map .int)) else .stuck | none => .stuck)
  | .sortset, _ => (match pints xs with | some ns => if ns.length < 999 ∧ (dedup (sortI ns)).length < 64 then newO id st (.lst ((dedup (sortI ns)).map .int)) else .stuck | none => .stuck)
  | .dict, _ => (match pairsOf xs with | some ps => newO id st (.dct false (merge [] ps)) | none => .stuck)
  | _, _ => .stuck
def blOf (b : Bl) (vs : List PV) (st : Sto) : R PV := match b, vs with
  | .abs, [.int i] => .ok (.int (if i < 0 then -i else i)) st
  | .int, [.int i] => .ok (.int i) st
  | .int, [.bl k] => .ok (.int (if k then 1 else 0)) st
  | .max2, [.int i, .int j] => .ok (.int (if j > i then j else i)) st
  | .min2, [.int i, .int j] => .ok (.int (if j < i then j else i)) st
  | b, [.tup xs] => blSeq b true xs st
  | b, [.rol xs] => blSeq b false xs st
  | b, [.obj k] => (match st[k]? with
    | some (.lst xs) => blSeq b false xs st
    | some (.dct lk kvs) => (match b with
      | .list => if lk then .stuck else newO id st (.lst (kvs.map (·.1)))
      | .len => if lk then .stuck else .ok (.int kvs.length) st
      | .sorted => (match pints (kvs.map (·.1)) with | some ns => if ns.length < 64 then newO id st (.lst ((sortI ns).map .int)) else .stuck | none => .stuck)
      | _ => .stuck)
    | _ => .stuck)
  | _, _ => .stuck
def appR (x : PV) (vs : List PV) (st : Sto) : R PV := match x, vs with
  | .obj k, [y] => (match st[k]? with
    | some (.lst xs) => if xs.length < big then .ok .non (st.set k (.lst (xs ++ [y]))) else .stuck
    | _ => .stuck)
  | _, _ => .stuck
/-- x.extend of what holds ys -/
def extR (x : PV) (ys : List PV) (st : Sto) : R PV := match x with
  | .obj k => (match st[k]? with
    | some (.lst xs) => if xs.length + ys.length ≤ big then .ok .non (st.set k (.lst (xs ++ ys))) else .stuck
    | _ => .stuck)
  | _ => .stuck
def extOR (x : PV) (vs : List PV) (st : Sto) : R PV := match vs with
  | [.obj j] => (match st[j]? with
    | some (.lst ys) => extR x ys st
    | _ => .stuck)
  | _ => .stuck
def popR (x : PV) (vs : List PV) (st : Sto) : R PV := match x, vs with
  | .obj k, [] => (match st[k]? with
    | some (.lst xs) => (match xs.getLast? with
      | some y => .ok y (st.set k (.lst xs.dropLast))
      | none => .stuck)
    | _ => .stuck)
  | _, _ => .stuck
def popAtR (x : PV) (vs : List PV) (st : Sto) : R PV := match x, vs with
  | .obj k, [.int i] => (match st[k]? with
    | some (.lst xs) => if xs.length ≤ big then (match ixOf xs.length i with
      | some j => (match xs[j]? with
        | some y => .ok y (st.set k (.lst (xs.eraseIdx j)))
        | none => .stuck)
      | none => .stuck) else .stuck
    | _ => .stuck)
  | _, _ => .stuck
/-- the value at a key, or another one -/
def getR (x y d : PV) (st : Sto) : R PV := match x with
  | .obj k => (match st[k]? with
    | some (.dct _ kvs) => if keyOk y = true then .ok ((look kvs y).getD d) st else .stuck
    | _ => .stuck)
  | _ => .stuck
def bmOf (m : Bm) (x : PV) (vs : List PV) (st : Sto) : R PV := match m, vs with
  | .append, vs => appR x vs st
  | .extend, vs => extOR x vs st
  | .pop, vs => popR x vs st
  | .popAt, vs => popAtR x vs st
  | .get1, [y] => getR x y .non st
  | .get2, [y, d] => getR x y d st
  | _, _ => .stuck
/-- a list for a list's method, a dict for a dict's -/
def bmTy (m : Bm) (x : PV) (st : Sto) : Bool := match x with
  | .obj k => (match st[k]?, m with
    | some (.dct _ _), .get1 => true
    | some (.dct _ _), .get2 => true
    | some (.lst _), .append => true
    | some (.lst _), .extend => true
    | some (.lst _), .pop => true
    | some (.lst _), .popAt => true
    | _, _ => false)
  | _ => false
def truth : PV → Option Bool
  | .bl b => some b
  | _ => none
/-- by its truth -/
def truthy (x : PV) (st : Sto) : Option Bool := match x with
  | .bl b => some b
  | .non => some false
  | .int i => some (decide (i ≠ 0))
  | .tup xs => some (!xs.isEmpty)
  | .rol xs => some (!xs.isEmpty)
  | .obj k => (match st[k]? with
    | some (.lst xs) => some (!xs.isEmpty)
    | some (.dct false kvs) => some (!kvs.isEmpty)
    | _ => none)
  | _ => none
def putF (f : Nat) (v : PV) : List (Nat × PV) → List (Nat × PV)
  | [] => [(f, v)]
  | p :: r => if Nat.beq p.1 f then (f, v) :: r else p :: putF f v r
def lookF (f : Nat) : List (Nat × PV) → Option PV
  | [] => none
  | p :: r => if Nat.beq p.1 f then some p.2 else lookF f r

/-! ### walks -/
/-- where items come from: items as they are, or a list of the store, from a place on -/
inductive Sr where
  | fix (xs : List PV)
  | live (k i : Nat)
  deriving Inhabited
/-- the next one; none within: it ends; none: stuck -/
def Sr.next (s : Sr) (st : Sto) : Option (Option (PV × Sr)) := match s with
  | .fix [] => some none
  | .fix (x :: r) => some (some (x, .fix r))
  | .live k i => (match st[k]? with
    | some (.lst xs) => (match xs[i]? with
      | some x => some (some (x, .live k (i + 1)))
      | none => some none)
    | _ => none)
/-- it still is a list -/
def Sr.okB (s : Sr) (st : Sto) : Bool := match s with
  | .fix _ => true
  | .live k _ => (match st[k]? with
    | some (.lst _) => true
    | _ => false)
/-- what is walked -/
inductive Wk where
  | one (s : Sr)
  | enum (n : Nat) (s : Sr)
  | zip (s t : Sr)
  | rng (lo : Int) (n : Nat)
  /-- the keys of a dict that is locked -/
  | keys (k i : Nat)
  deriving Inhabited
def Wk.next (w : Wk) (st : Sto) : Option (Option (PV × Wk)) := match w with
  | .one s => (match s.next st with
    | some (some (x, s1)) => some (some (x, .one s1))
    | some none => some none
    | none => none)
  | .enum n s => (match s.next st with
    | some (some (x, s1)) => some (some (.tup [.int n, x], .enum (n + 1) s1))
    | some none => some none
    | none => none)
  | .zip s t => (match s.next st, t.next st with
    | some (some (x, s1)), some (some (y, t1)) => some (some (.tup [x, y], .zip s1 t1))
    | some none, some _ => some none
    | some (some _), some none => some none
    | _, _ => none)
  | .rng _ 0 => some none
  | .rng lo (n + 1) => some (some (.int lo, .rng (lo + 1) n))
  | .keys k i => (match st[k]? with
    | some (.dct true kvs) => (match kvs[i]? with
      | some p => some (some (p.1, .keys k (i + 1)))
      | none => some none)
    | _ => none)

/-- its items are values of their own -/
def Wk.plain : Wk → Bool
  | .one _ => true
  | .rng _ _ => true
  | .keys _ _ => true
  | _ => false
/-! ### evaluation -/
/-- how a statement ends -/
inductive Fl where
  | nx (σ : Loc) (st : Sto)
  | rt (v : PV) (st : Sto)
  | bk (σ : Loc) (st : Sto)
  | ct (σ : Loc) (st : Sto)
  | exc (c : Nat) (fs : List PV) (σ : Loc) (st : Sto)
  | stuck
  deriving Inhabited
def R.fl {α : Type} (r : R α) (σ : Loc) (f : α → Sto → Fl) : Fl := match r with
  | .ok a st => f a st
  | .exc c fs st => .exc c fs σ st
  | .stuck => .stuck
/-- values, items, targets, blocks -/
structure Ev where
  e : Ex → Loc → Sto → R PV
  c : Ex → Loc → Sto → R (List PV)
  t : Tg → PV → Loc → Sto → R Loc
  s : List Sm → Loc → Sto → Fl
abbrev CallF := Nat → List PV → Sto → R PV
def wipe (σ : Loc) : List Nat → Loc
  | [] => σ
  | v :: vs => (wipe σ vs).set v none
/-- nothing leaves a comprehension's block by an exception -/
def noexc {α : Type} : R α → R α
  | .exc .. => .stuck
  | r => r
def evs (V : Ex → Loc → Sto → R PV) : List Ex → Loc → Sto → R (List PV)
  | [], _, st => .ok [] st
  | e :: r, σ, st => (V e σ st).bind fun v st1 => (evs V r σ st1).bind fun vs st2 => .ok (v :: vs) st2
/-- a slice's part -/
def evO (V : Ex → Loc → Sto → R PV) : Option Ex → Loc → Sto → R (Option Int)
  | none, _, st => .ok none st
  | some e, σ, st => (V e σ st).bind fun v st1 => match v with
    | .int i => .ok (some i) st1
    | _ => .stuck
/-- a test's truth -/
def tst (V : Ex → Loc → Sto → R PV) (e : Ex) (σ : Loc) (st : Sto) : R Bool := (V e σ st).bind fun v st1 => oR (truthy v st1) st1
/-- made there and then -/
def isNew : Ex → Bool
  | .comp .. => true
  | .comp2 .. => true
  | .lst _ => true
  | _ => false
/-- the source that an expression gives; is it a tuple -/
def srcOf (V : Ev) (e : Ex) (σ : Loc) (st : Sto) : R (Bool × Sr) := if isNew e = true then (V.c e σ st).bind fun xs st1 => .ok (false, .fix xs) st1
    else (V.e e σ st).bind fun v st1 => (match v with
      | .tup xs => .ok (true, .fix xs) st1
      | .rol xs => .ok (false, .fix xs) st1
      | .obj k => (match st1[k]? with
        | some (.lst _) => .ok (false, .live k 0) st1
        | _ => .stuck)
      | _ => .stuck)
def stepW (V : Ev) (it : Itr) (σ : Loc) (st : Sto) : R Wk := match it with
  | .seq e => (srcOf V e σ st).bind fun s st1 => .ok (.one s.2) st1
  | .rng1 a => (V.e a σ st).bind fun v st1 => (match v with
    | .int j => if -(2 ^ 62) ≤ j ∧ j < 2 ^ 62 then .ok (.rng 0 j.toNat) st1 else .stuck
    | _ => .stuck)
  | .rng2 a b => (V.e a σ st).bind fun v st1 => (V.e b σ st1).bind fun u st2 => (match v, u with
    | .int i, .int j => if -(2 ^ 62) ≤ i ∧ i < 2 ^ 62 ∧ -(2 ^ 62) ≤ j ∧ j < 2 ^ 62 then .ok (.rng i (j - i).toNat) st2 else .stuck
    | _, _ => .stuck)
  | .enum a => (srcOf V a σ st).bind fun s st1 => if s.1 = false then .ok (.enum 0 s.2) st1 else .stuck
  | .zip a b => (srcOf V a σ st).bind fun s st1 => (srcOf V b σ st1).bind fun t st2 => if s.1 = t.1 ∧ s.2.okB st2 = true then .ok (.zip s.2 t.2) st2 else .stuck
/-- what a comprehension makes of a walk -/
def compGo (V : Ev) (elt : Ex) (tg : Tg) (ifs : Option Ex) (σ : Loc) : Nat → Wk → List PV → Sto → R (List PV)
  | 0, _, _, _ => .stuck
  | n + 1, w, acc, st => match w.next st with
    | none => .stuck
    | some none => .ok acc.reverse st
    | some (some (x, w1)) => (noexc (V.t tg x σ st)).bind fun σ2 st0 => match ifs with
        | none => (noexc (V.e elt σ2 st0)).bind fun y st1 => compGo V elt tg ifs σ n w1 (y :: acc) st1
        | some c => (noexc (tst V.e c σ2 st0)).bind fun b st1 => match b with
          | true => (noexc (V.e elt σ2 st1)).bind fun y st2 => compGo V elt tg ifs σ n w1 (y :: acc) st2
          | false => compGo V elt tg ifs σ n w1 acc st1
/-- .. of two walks, one within the other -/
def comp2Go (V : Ev) (L : Nat) (elt : Ex) (tg : Tg) (ifs : Option Ex) (tg1 : Tg) (it1 : Itr) (ifs1 : Option Ex) (σ : Loc) (own1 : List Nat) : Nat → Wk → List PV → Sto → R (List PV)
  | 0, _, _, _ => .stuck
  | n + 1, w, acc, st => match w.next st with
    | none => .stuck
    | some none => .ok acc st
    | some (some (x, w1)) => (noexc (V.t tg x σ st)).bind fun σ2 st0 => (match ifs with
          | none => R.ok true st0
          | some c => noexc (tst V.e c σ2 st0)).bind fun b st1 => match b with
          | true => (noexc (stepW V it1 σ2 st1)).bind fun w2 st2 => (compGo V elt tg1 ifs1 (wipe σ2 own1) L w2 [] st2).bind fun ys st3 =>
              comp2Go V L elt tg ifs tg1 it1 ifs1 σ own1 n w1 (acc ++ ys) st3
          | false => comp2Go V L elt tg ifs tg1 it1 ifs1 σ own1 n w1 acc st1
def blSeqB : Bl → Bool
  | .abs => false | .int => false | .max2 => false | .min2 => false | .str => false
  | _ => true
def findM (m : Nat) : List (Nat × Nat) → Option Nat
  | [] => none
  | p :: r => if Nat.beq p.1 m then some p.2 else findM m r

/-- the items of what is made there and then, else of a list or a tuple -/
def stepC (V : Ev) (L : Nat) (e : Ex) (σ : Loc) (st : Sto) : R (List PV) := match e with
  | .comp elt tg it ifs own => (stepW V it σ st).bind fun w st1 => compGo V elt tg ifs (wipe σ own) L w [] st1
  | .comp2 elt tg it ifs tg1 it1 ifs1 own own1 => (stepW V it σ st).bind fun w st1 => comp2Go V L elt tg ifs tg1 it1 ifs1 (wipe σ own) own1 L w [] st1
  | .lst es => (evs V.e es σ st).bind fun vs st1 => if vs.length ≤ big then .ok vs st1 else .stuck
  | _ => .stuck
def bindAll (T : Tg → PV → Loc → Sto → R Loc) : List Tg → List PV → Loc → Sto → R Loc
  | [], [], σ, st => .ok σ st
  | t :: ts, v :: vs, σ, st => (noexc (T t v σ st)).bind fun σ1 st1 => bindAll T ts vs σ1 st1
  | _, _, _, _ => .stuck
def setItem (o i v : PV) (st : Sto) : Option Sto := match o with
  | .obj k => (match st[k]?, i with
    | some (.lst xs), .int j => (match ixOf xs.length j with
      | some m => some (st.set k (.lst (xs.set m v)))
      | none => none)
    | some (.dct false kvs), i => if keyOk i && decide (kvs.length < big) then some (st.set k (.dct false (put kvs i v))) else none
    | _, _ => none)
  | _ => none
def stepT (P : Pg) (V : Ev) (t : Tg) (v : PV) (σ : Loc) (st : Sto) : R Loc := match t with
  | .name i => .ok (σ.set i (some v)) st
  | .fld o f => (V.e o σ st).bind fun x st1 => (match x with
    | .obj k => (match st1[k]? with
      | some (.ins c fs) => if fs.length < 1000 ∧ c < P.cls.length then .ok σ (st1.set k (.ins c (putF f v fs))) else .stuck
      | _ => .stuck)
    | _ => .stuck)
  | .sub o i => (V.e o σ st).bind fun x st1 => (V.e i σ st1).bind fun y st2 => (match setItem x y v st2 with
    | some st3 => .ok σ st3
    | none => .stuck)
  | .tup ts => (match seqOf st v with
    | some vs => if vs.length = ts.length then bindAll V.t ts vs σ st else .stuck
    | none => .stuck)
/-- what a method's call does -/
def methR (P : Pg) (C : CallF) (i : Nat) (x : PV) (fs : Sto → R (List PV)) (st1 : Sto) : R PV := match x with
  | .obj k => (match st1[k]? with
    | some (.ins c _) => (match P.cls[c]? with
      | some d => (match findM i d.meths with
        | some f => (fs st1).bind fun vs st2 => C f (x :: vs) st2
        | none => .stuck)
      | none => .stuck)
    | _ => .stuck)
  | _ => .stuck
/-- what a maker does -/
def makeR (P : Pg) (C : CallF) (c : Nat) (vs : List PV) (st1 : Sto) : R PV := match P.cls[c]? with
    | some d => (match d.init with
      | some f => (noexc (C f (.obj st1.length :: vs) (st1 ++ [.ins c []]))).bind fun r st2 => (match r with
        | .non => .ok (.obj st1.length) st2
        | _ => .stuck)
      | none => .stuck)
    | none => .stuck
def stepE (P : Pg) (C : CallF) (L : Nat) (V : Ev) (e : Ex) (σ : Loc) (st : Sto) : R PV := match e with
  | .var i => (match σ[i]? with
    | some (some v) => .ok v st
    | _ => .stuck)
  | .lit v => .ok v st
  | .tup es => (evs V.e es σ st).bind fun vs st1 => if vs.length ≤ big then .ok (.tup vs) st1 else .stuck
  | .lst es => (evs V.e es σ st).bind fun vs st1 => if vs.length ≤ big then newO id st1 (.lst vs) else .stuck
  | .dnew => newO id st (.dct false [])
  | .bin op a b => (V.e a σ st).bind fun x st1 => (V.e b σ st1).bind fun y st2 => binop op x y st2
  | .cmp op a b => (V.e a σ st).bind fun x st1 => (V.e b σ st1).bind fun y st2 => (oR (cmpop op x y st2) st2).bind fun c st3 => .ok (.bl c) st3
  | .cmp2 op op' a b c => (V.e a σ st).bind fun x st1 => (V.e b σ st1).bind fun y st2 => (oR (cmpop op x y st2) st2).bind fun k st3 => match k with
      | true => (V.e c σ st3).bind fun z st4 => (oR (cmpop op' y z st4) st4).bind fun c st5 => .ok (.bl c) st5
      | false => .ok (.bl false) st3
  | .not a => (tst V.e a σ st).bind fun c st1 => .ok (.bl (!c)) st1
  | .neg a => (V.e a σ st).bind fun x st1 => (match x with
    | .int i => .ok (.int (-i)) st1
    | _ => .stuck)
  | .and a b => (V.e a σ st).bind fun x st1 => (oR (truthy x st1) st1).bind fun c st2 => match c with
    | true => V.e b σ st2
    | false => .ok x st2
  | .or a b => (V.e a σ st).bind fun x st1 => (oR (truthy x st1) st1).bind fun c st2 => match c with
    | true => .ok x st2
    | false => V.e b σ st2
  | .ife c a b => (tst V.e c σ st).bind fun k st1 => match k with
    | true => V.e a σ st1
    | false => V.e b σ st1
  | .ix a b => (V.e a σ st).bind fun x st1 => (V.e b σ st1).bind fun y st2 => oR (item x y st2) st2
  | .slice a lo hi => (V.e a σ st).bind fun x st1 => (evO V.e lo σ st1).bind fun l st2 => (evO V.e hi σ st2).bind fun h st3 => sliceOf x l h st3
  | .rev a => (V.e a σ st).bind fun x st1 => revOf x st1
  | .fld a f => (V.e a σ st).bind fun x st1 => (match x with
    | .obj k => (match st1[k]? with
      | some (.ins c fs) => if c < P.cls.length then oR (lookF f fs) st1 else .stuck
      | _ => .stuck)
    | _ => .stuck)
  | .call f es => (evs V.e es σ st).bind fun vs st1 => C f vs st1
  | .meth o m es => (V.e o σ st).bind fun x st1 => methR P C m x (evs V.e es σ) st1
  | .make c es => (evs V.e es σ st).bind fun vs st1 => makeR P C c vs st1
  | .bl b [e] => if isNew e && blSeqB b then (V.c e σ st).bind fun xs st1 => blSeq b false xs st1
      else (V.e e σ st).bind fun v st1 => blOf b [v] st1
  | .bl b es => (evs V.e es σ st).bind fun vs st1 => blOf b vs st1
  | .bm o .extend [e] => if isNew e then (V.e o σ st).bind fun x st1 => if bmTy .extend x st1 = true then (V.c e σ st1).bind fun ys st2 => extR x ys st2 else .stuck
      else (V.e o σ st).bind fun x st1 => if bmTy .extend x st1 = true then (evs V.e [e] σ st1).bind fun vs st2 => bmOf .extend x vs st2 else .stuck
  | .bm o m es => (V.e o σ st).bind fun x st1 => if bmTy m x st1 = true then (evs V.e es σ st1).bind fun vs st2 => bmOf m x vs st2 else .stuck
  | .isin a ks => (V.e a σ st).bind fun x st1 => (oR (isin x st1 ks) st1).bind fun c st2 => .ok (.bl c) st2
  | .comp elt tg it ifs own => (stepC V L (.comp elt tg it ifs own) σ st).bind fun xs st2 => newO id st2 (.lst xs)
  | .comp2 elt tg it ifs tg1 it1 ifs1 own own1 => (stepC V L (.comp2 elt tg it ifs tg1 it1 ifs1 own own1) σ st).bind fun xs st2 => newO id st2 (.lst xs)
  | .stuck => .stuck
def whileGo (V : Ev) (c : Ex) (b : List Sm) : Nat → Loc → Sto → Fl
  | 0, _, _ => .stuck
  | n + 1, σ, st => (tst V.e c σ st).fl σ fun k st1 => match k with
    | false => .nx σ st1
    | true => match V.s b σ st1 with
      | .nx σ2 st2 => whileGo V c b n σ2 st2
      | .ct σ2 st2 => whileGo V c b n σ2 st2
      | .bk σ2 st2 => .nx σ2 st2
      | r => r
def forGo (V : Ev) (t : Tg) (b : List Sm) : Nat → Wk → Loc → Sto → Fl
  | 0, _, _, _ => .stuck
  | n + 1, w, σ, st => match w.next st with
    | none => .stuck
    | some none => .nx σ st
    | some (some (x, w1)) => (V.t t x σ st).fl σ fun σ1 st1 => match V.s b σ1 st1 with
      | .nx σ2 st2 => forGo V t b n w1 σ2 st2
      | .ct σ2 st2 => forGo V t b n w1 σ2 st2
      | .bk σ2 st2 => .nx σ2 st2
      | r => r
/-- unlocked -/
def unlk (k : Nat) (st : Sto) : Sto := match st[k]? with
  | some (.dct _ kvs) => st.set k (.dct false kvs)
  | _ => st
def Fl.unlk (k : Nat) : Fl → Fl
  | .nx σ st => .nx σ (Rf.unlk k st)
  | .rt v st => .rt v (Rf.unlk k st)
  | .bk σ st => .bk σ (Rf.unlk k st)
  | .ct σ st => .ct σ (Rf.unlk k st)
  | r => r
/-- the dict that is walked over, if it is one -/
def lockAt (V : Ev) (it : Itr) (σ : Loc) (st : Sto) : Option Nat := match it with
  | .seq e => if isNew e = true then none else (match V.e e σ st with
    | .ok (.obj k) st1 => (match st1[k]? with
      | some (.dct _ _) => some k
      | _ => none)
    | _ => none)
  | _ => none
/-- a walk over the dict k, locked -/
def forD (V : Ev) (t : Tg) (it : Itr) (b : List Sm) (L k : Nat) (σ : Loc) (st : Sto) : Fl := match it with
  | .seq e => (V.e e σ st).fl σ fun v st2 => (match v with
    | .obj k' => if Nat.beq k' k = true then forGo V t b L (.keys k 0) σ st2 else .stuck
    | _ => .stuck)
  | _ => .stuck
def findH (d : Nat) : List (Nat × List Sm) → Option (List Sm)
  | [] => none
  | p :: r => if Nat.beq d p.1 then some p.2 else findH d r
def stepS (P : Pg) (V : Ev) (L : Nat) (s : Sm) (σ : Loc) (st : Sto) : Fl := match s with
  | .asg t e => (V.e e σ st).fl σ fun v st1 => (V.t t v σ st1).fl σ fun σ1 st2 => .nx σ1 st2
  | .ex e => (V.e e σ st).fl σ fun _ st1 => .nx σ st1
  | .ret none => .rt .non st
  | .ret (some e) => (V.e e σ st).fl σ fun v st1 => .rt v st1
  | .ife c a b => (tst V.e c σ st).fl σ fun k st1 => match k with
    | true => V.s a σ st1
    | false => V.s b σ st1
  | .for_ t it b => (match lockAt V it σ st with
    | some k => (match st[k]? with
      | some (.dct false kvs) => (forD V t it b L k σ (st.set k (.dct true kvs))).unlk k
      | _ => .stuck)
    | none => (stepW V it σ st).fl σ fun w st1 => forGo V t b L w σ st1)
  | .while_ c b => whileGo V c b L σ st
  | .brk => .bk σ st
  | .cont => .ct σ st
  | .pass => .nx σ st
  | .raise c es => (evs V.e es σ st).fl σ fun vs st1 => .exc c vs σ st1
  | .try_ b hs => match V.s b σ st with
    | .exc d fs σ1 st1 => if d < P.nx ∧ fs.isEmpty = true then (match findH d hs with
      | some h => V.s h σ1 st1
      | none => .exc d fs σ1 st1) else .stuck
    | r => r
  | .stuck => .stuck
def stepSs (P : Pg) (V : Ev) (L : Nat) : List Sm → Loc → Sto → Fl
  | [], σ, st => .nx σ st
  | s :: r, σ, st => match stepS P V L s σ st with
    | .nx σ1 st1 => stepSs P V L r σ1 st1
    | f => f
/-- so deep into the text -/
def evN (P : Pg) (C : CallF) (L : Nat) : Nat → Ev
  | 0 => ⟨fun _ _ _ => .stuck, fun _ _ _ => .stuck, fun _ _ _ _ => .stuck, fun _ _ _ => .stuck⟩
  | n + 1 => ⟨stepE P C L (evN P C L n), stepC (evN P C L n) L, stepT P (evN P C L n), stepSs P (evN P C L n) L⟩
/-- what a call hands back: objects made within are forgotten if nothing of them is left -/
def R.trim (n : Nat) (r : R PV) : R PV := match r with
  | .ok v st => if Nat.beq st.length n then .ok v st else if PV.under n v && Sto.closed n (st.take n) then .ok v (st.take n) else .ok v st
  | .exc c fs st => if Nat.beq st.length n then .exc c fs st else if PV.unders n fs && Sto.closed n (st.take n) then .exc c fs (st.take n) else .exc c fs st
  | .stuck => .stuck
/-- how a body's end is a call's -/
def flR : Fl → R PV
  | .nx _ st1 => .ok .non st1
  | .rt v st1 => .ok v st1
  | .exc c fs _ st1 => .exc c fs st1
  | _ => .stuck
def callN (P : Pg) (L D : Nat) : Nat → CallF
  | 0, _, _, _ => .stuck
  | k + 1, f, vs, st => match P.fns[f]? with
    | none => .stuck
    | some fn => if vs.length = fn.arity then R.trim st.length (flR ((evN P (callN P L D k) L D).s fn.body (vs.map some ++ List.replicate (fn.slots - fn.arity) none) st)) else .stuck
end Rf
end
section
set_option linter.all false
/-! Rf2: the text of the program, made into the small syntax. What is not served becomes stuck. -/
namespace Rf
open PySem
def ixS (x : Str) : List Str → Option Nat
  | [] => none
  | y :: r => if y = x then some 0 else (ixS x r).map (· + 1)
structure Cc where
  /-- where a function stands: a global's name; a class and its method -/
  fns : List (Str × Option Str)
  /-- the parameters of each -/
  pars : List (List Str)
  cls : List Str
  /-- own exceptions without an __init__ -/
  excs : List Str
  consts : List (Str × PV)
  flds : List Str
  mths : List Str
  deriving Inhabited
def ixF (p : Str × Option Str) : List (Str × Option Str) → Option Nat
  | [] => none
  | q :: r => if q = p then some 0 else (ixF p r).map (· + 1)
/-- no name with a meaning of its own -/
def plainN (x : Str) : Bool := !(x == ("__debug__" : Str)) && !(x == ("__classdict__" : Str)) && !(x == ("__name__" : Str))
def visB (sc : Scope) (x : Str) : Bool := plainN x && (match sc.names.lookup x with
  | some .local => true
  | some .cell => true
  | some .free => true
  | _ => false)
def gloB (sc : Scope) (x : Str) : Bool := plainN x && (match sc.names.lookup x with
  | some .globalImplicit => true
  | _ => false)
/-- a name of no top statement -/
def Cc.freeB (cc : Cc) (x : Str) : Bool := (ixF (x, none) cc.fns).isNone && (ixS x cc.cls).isNone && (ixS x cc.excs).isNone && (cc.consts.lookup x).isNone
/-- as the layer has it: a block's scope within another one -/
def relS (scope sc : Scope) : Scope := { scope with names := scope.names.map fun (n, k) => if k == .free && sc.kind == .function && sc.names.lookup n == some .cell then (n, .cell) else (n, k) }
def ownOf (N : List Str) (scope : Scope) : List (Str × Nat) := scope.names.filterMap fun y => match y.2 with
  | .local => (ixS y.1 N).map fun i => (y.1, i)
  | .cell => (ixS y.1 N).map fun i => (y.1, i)
  | _ => none
def blOfName (x : Str) (n : Nat) : Option Bl :=
  if x = ("abs" : Str) ∧ n = 1 then some .abs else if x = ("int" : Str) ∧ n = 1 then some .int else if x = ("len" : Str) ∧ n = 1 then some .len
  else if x = ("max" : Str) ∧ n = 2 then some .max2 else if x = ("min" : Str) ∧ n = 2 then some .min2
  else if x = ("list" : Str) ∧ n = 1 then some .list else if x = ("tuple" : Str) ∧ n = 1 then some .tuple else if x = ("sum" : Str) ∧ n = 1 then some .sum
  else if x = ("max" : Str) ∧ n = 1 then some .max else if x = ("min" : Str) ∧ n = 1 then some .min else if x = ("sorted" : Str) ∧ n = 1 then some .sorted
  else if x = ("all" : Str) ∧ n = 1 then some .all else if x = ("any" : Str) ∧ n = 1 then some .any else if x = ("dict" : Str) ∧ n = 1 then some .dict else none
def bmOfName (x : Str) (n : Nat) : Option Bm :=
  if x = ("append" : Str) ∧ n = 1 then some .append else if x = ("extend" : Str) ∧ n = 1 then some .extend
  else if x = ("pop" : Str) ∧ n = 0 then some .pop else if x = ("pop" : Str) ∧ n = 1 then some .popAt
  else if x = ("get" : Str) ∧ n = 1 then some .get1 else if x = ("get" : Str) ∧ n = 2 then some .get2 else none
def kdOf (cc : Cc) (sc : Scope) : Expr → Option Kd
  | .Name x _ => if gloB sc x && cc.freeB x then (if x = ("int" : Str) then some .kint else if x = ("bool" : Str) then some .kbool else if x = ("str" : Str) then some .kstr
      else if x = ("list" : Str) then some .klist else if x = ("tuple" : Str) then some .ktup else none) else none
  | _ => none
def opOf : Operator → Option BOp
  | .Add => some .add | .Sub => some .sub | .Mult => some .mul | .FloorDiv => some .fdiv | .Mod => some .mod | .Pow => some .pow | _ => none
def coOf : CmpOp → Expr → Option COp
  | .Eq, _ => some .eq | .NotEq, _ => some .ne | .Lt, _ => some .lt | .LtE, _ => some .le | .Gt, _ => some .gt | .GtE, _ => some .ge
  | .Is, .Constant .none _ _ => some .isN | .IsNot, .Constant .none _ _ => some .notN | .In, _ => some .in_ | .NotIn, _ => some .notIn | _, _ => none
/-- a set display is not served behind «in» -/
def noSet : Expr → Bool
  | .Set .. => false
  | _ => true
def noStar (es : List Expr) : Bool := es.all fun e => match e with
  | .Starred .. => false
  | _ => true
/-- C().f is not served -/
def plainBase : Expr → Bool
  | .Call (.Name ..) [] [] _ => false
  | _ => true
def isTup : Expr → Bool
  | .Tuple .. => true
  | _ => false
def conOf : Const → Option PV
  | .none => some .non
  | .bool b => some (.bl b)
  | .int i => some (.int i)
  | .str x => if SOk x = true then some (.str x) else none
  | _ => none
/-- set(a), alone among the arguments -/
def setArg (cc : Cc) (sc : Scope) : List Expr → Option Expr
  | [.Call (.Name y _) [a] [] _] => if y = ("set" : Str) ∧ gloB sc y = true ∧ cc.freeB y = true ∧ noStar [a] = true then some a else none
  | _ => none
/-- isinstance -/
def isC (cc : Cc) (sc : Scope) (args : List Expr) (cs : List Ex) : Ex := match args, cs with
  | [_, .Tuple ks _ _], [c, _] => (match ks.mapM (kdOf cc sc) with
    | some l => if l.isEmpty = false ∧ l.length ≤ 30 then .isin c l else .stuck
    | none => .stuck)
  | [_, k], [c, _] => (match kdOf cc sc k with | some l => .isin c [l] | none => .stuck)
  | _, _ => .stuck
def bltC (x : Str) (cs : List Ex) : Ex := match blOfName x cs.length with
  | some b => .bl b cs
  | none => .stuck
/-- a call by a name -/
def nmC (cc : Cc) (sc : Scope) (x : Str) (args : List Expr) (cs : List Ex) (si : Option Ex) : Ex := if (gloB sc x && noStar args) = true then (match ixF (x, none) cc.fns with
    | some f => .call f cs
    | none => (match ixS x cc.cls with
      | some c => .make c cs
      | none => if cc.freeB x = true then (if x = ("isinstance" : Str) then isC cc sc args cs
          else (match si with
            | some i => if x = ("sorted" : Str) then .bl .sortset [i] else bltC x cs
            | none => bltC x cs)) else .stuck)) else .stuck
/-- a call of a method -/
def mtC (cc : Cc) (o : Expr) (m : Str) (ap : Pos) (args : List Expr) (cp : Pos) (co : Ex) (cs : List Ex) : Ex := if (plainBase o && noStar args && decide (args.length < 20) && ap.endLine == cp.line) = true then (match ixS m cc.mths with
        | some i => .meth co i cs
        | none => (match bmOfName m args.length with | some b => .bm co b cs | none => .stuck)) else .stuck
mutual
def cE (cc : Cc) (N : List Str) : Nat → Scope → Expr → Ex
  | 0, _, _ => .stuck
  | n + 1, sc, e => match e with
    | .Constant c _ _ => (match conOf c with | some v => .lit v | none => .stuck)
    | .Name x _ => if visB sc x then (match ixS x N with | some i => .var i | none => .stuck)
      else if gloB sc x then (match cc.consts.lookup x with | some v => .lit v | none => .stuck) else .stuck
    | .Tuple es _ _ => if noStar es then .tup (es.map (cE cc N n sc)) else .stuck
    | .List es _ => if noStar es then .lst (es.map (cE cc N n sc)) else .stuck
    | .Dict [] [] _ => .dnew
    | .BinOp a op b _ => (match opOf op with | some o => .bin o (cE cc N n sc a) (cE cc N n sc b) | none => .stuck)
    | .UnaryOp .Not a _ => .not (cE cc N n sc a)
    | .UnaryOp .USub a _ => .neg (cE cc N n sc a)
    | .BoolOp op [a] _ => cE cc N n sc a
    | .BoolOp .And (a :: b :: r) p => .and (cE cc N n sc a) (cE cc N n sc (.BoolOp .And (b :: r) p))
    | .BoolOp .Or (a :: b :: r) p => .or (cE cc N n sc a) (cE cc N n sc (.BoolOp .Or (b :: r) p))
    | .Compare a [op] [b] _ => if noSet b then (match coOf op b with | some o => .cmp o (cE cc N n sc a) (cE cc N n sc b) | none => .stuck) else .stuck
    | .Compare a [op, op'] [b, c] _ => if noSet b && noSet c then (match coOf op b, coOf op' c with | some o, some o' => .cmp2 o o' (cE cc N n sc a) (cE cc N n sc b) (cE cc N n sc c) | _, _ => .stuck) else .stuck
    | .IfExp c a b _ => .ife (cE cc N n sc c) (cE cc N n sc a) (cE cc N n sc b)
    | .Subscript a (.Slice lo hi none _) _ => .slice (cE cc N n sc a) (lo.map (cE cc N n sc)) (hi.map (cE cc N n sc))
    | .Subscript a (.Slice ..) _ => .stuck
    | .Subscript a b _ => .ix (cE cc N n sc a) (cE cc N n sc b)
    | .Attribute o f _ => if plainBase o then (match ixS f cc.flds with | some i => .fld (cE cc N n sc o) i | none => .stuck) else .stuck
    | .Call (.Name x _) args [] _ => nmC cc sc x args (args.map (cE cc N n sc)) ((setArg cc sc args).map (cE cc N n sc))
    | .Call (.Attribute o m ap) args [] cp => mtC cc o m ap args cp (cE cc N n sc o) (args.map (cE cc N n sc))
    | .ListComp elt [⟨tg, it, ifs, 0⟩] scope _ => if L2.blkC N sc scope (ownOf N scope) && noSet it && ((cT cc N n (relS scope sc) scope tg).ixs.all fun i => ((ownOf N scope).map (·.2)).contains i) then
      (match ifs with
        | [] => .comp (cE cc N n (relS scope sc) elt) (cT cc N n (relS scope sc) scope tg) (cI cc N (isTup tg) n sc it) none ((ownOf N scope).map (·.2))
        | [c] => .comp (cE cc N n (relS scope sc) elt) (cT cc N n (relS scope sc) scope tg) (cI cc N (isTup tg) n sc it) (some (cE cc N n (relS scope sc) c)) ((ownOf N scope).map (·.2))
        | _ => .stuck) else .stuck
    | _ => .stuck
def cI (cc : Cc) (N : List Str) (tg : Bool) : Nat → Scope → Expr → Itr
  | 0, _, _ => .seq .stuck
  | n + 1, sc, e => match e with
    | .Call (.Name x _) [a] [] _ => if (gloB sc x && cc.freeB x && noStar [a] && decide (x = ("range" : Str))) = true then .rng1 (cE cc N n sc a)
      else if (gloB sc x && cc.freeB x && noStar [a] && decide (x = ("enumerate" : Str)) && tg) = true then .enum (cE cc N n sc a) else .seq (cE cc N n sc e)
    | .Call (.Name x _) [a, b] [] _ => if (gloB sc x && cc.freeB x && noStar [a, b] && decide (x = ("range" : Str))) = true then .rng2 (cE cc N n sc a) (cE cc N n sc b)
      else if (gloB sc x && cc.freeB x && noStar [a, b] && decide (x = ("zip" : Str)) && tg) = true then .zip (cE cc N n sc a) (cE cc N n sc b) else .seq (cE cc N n sc e)
    | e => .seq (cE cc N n sc e)
def cT (cc : Cc) (N : List Str) : Nat → Scope → Scope → Expr → Tg
  | 0, _, _, _ => .fld .stuck 0
  | n + 1, sc, sc0, e => match e with
    | .Name x _ => (match sc0.names.lookup x, ixS x N with
      | some .local, some i => .name i
      | some .cell, some i => .name i
      | _, _ => .fld .stuck 0)
    | .Tuple es _ _ => if noStar es then .tup (es.map (cT cc N n sc sc0)) else .fld .stuck 0
    | .Attribute o f _ => (match ixS f cc.flds with | some i => .fld (cE cc N n sc o) i | none => .fld .stuck 0)
    | .Subscript _ (.Slice ..) _ => .fld .stuck 0
    | .Subscript o i _ => .sub (cE cc N n sc o) (cE cc N n sc i)
    | _ => .fld .stuck 0
end
/-- a suite of an except clause: simple rows alone -/
def cH (N : List Str) (sc : Scope) : Stmt → Sm
  | .Return none _ => .ret none
  | .Return (some (.Constant c _ _)) _ => (match conOf c with | some v => .ret (some (.lit v)) | none => .stuck)
  | .Pass _ => .pass
  | _ => .stuck
def cHs (cc : Cc) (N : List Str) (sc : Scope) : ExceptHandler → Option (Nat × List Sm)
  | .ExceptHandler (some (.Name x _)) none h _ => (match ixS x cc.excs with | some c => if gloB sc x = true then (match h with | [] => none | s0 :: ss => some (c, (s0 :: ss).map (cH N sc))) else none | none => none)
  | _ => none
/-- plain local names of a row -/
def nmsOf (sc : Scope) (ts : List Expr) : List Str := ts.filterMap fun
  | .Name id pos => if sc.names.lookup id == some .local && pos.line == (ts.head?.map (·.pos.line)).getD 0 then some id else none
  | _ => none
/-- no swapped stores -/
def noSwap (sc : Scope) (ts vs : List Expr) : Bool := !(ts.length == 2 || ts.length == 3) || vs.length != ts.length || (nmsOf sc ts).length != ts.length || vs.all (foldedForSure 8)
/-- swapped stores of two or three plain local names -/
def swap2 (sc : Scope) (N : List Str) (ts vs : List Expr) : Bool := match ts, vs with
  | [.Name x px, .Name y py], [a, b] => decide (sc.names.lookup x = some .local) && decide (sc.names.lookup y = some .local) && decide (x ≠ y) && (px.line == py.line) && (ixS x N).isSome && (ixS y N).isSome && noStar [a, b] && !([a, b].all (foldedForSure 8)) && !([a, b].all (constantsAlone 8))
  | _, _ => false
def asgOk (sc : Scope) (N : List Str) (t e : Expr) : Bool := noStar [t] && (match t with | .List .. => false | _ => true) && (match e with | .SetComp .. => false | .DictComp .. => false | _ => true) &&
  (match t, e with
    | .Tuple ts _ _, .Tuple vs _ _ => noSwap sc ts vs || swap2 sc N ts vs
    | .Name y _, .ListComp .. => (ixS y N).isSome
    | _, _ => true)
mutual
def cS (cc : Cc) (N : List Str) : Nat → Scope → Stmt → Sm
  | 0, _, _ => .stuck
  | n + 1, sc, s => match s with
    | .Assign [t] e _ => if asgOk sc N t e = true then .asg (cT cc N n sc sc t) (cE cc N n sc e) else .stuck
    | .Expr (.Constant (.str _) _ _) _ => .pass
    | .Expr (.ListComp ..) _ => .stuck
    | .Expr (.SetComp ..) _ => .stuck
    | .Expr (.DictComp ..) _ => .stuck
    | .Expr e _ => .ex (cE cc N n sc e)
    | .Return none _ => .ret none
    | .Return (some e) _ => .ret (some (cE cc N n sc e))
    | .If c a b _ => .ife (cE cc N n sc c) (a.map (cS cc N n sc)) (b.map (cS cc N n sc))
    | .For t it b [] _ => if noSet it = true then .for_ (cT cc N n sc sc t) (cI cc N (isTup t) n sc it) (b.map (cS cc N n sc)) else .stuck
    | .While c b [] _ => .while_ (cE cc N n sc c) (b.map (cS cc N n sc))
    | .Break _ => .brk
    | .Continue _ => .cont
    | .Pass _ => .pass
    | .Raise (some (.Call (.Name x _) [] [] _)) none _ => (match ixS x cc.excs with | some c => if gloB sc x then .raise c [] else .stuck | none => .stuck)
    | .Try b (h0 :: hs) [] [] _ => (match (h0 :: hs).mapM (cHs cc N sc) with | some l => .try_ (b.map (cS cc N n sc)) l | none => .stuck)
    | _ => .stuck
end
/-! ### the whole text -/
structure Df where
  at_ : Str × Option Str
  name : Str
  qual : Str
  args : Arguments
  body : List Stmt
  scope : Scope
  deriving Inhabited
def Df.pars (d : Df) : List Str := d.args.args.map (·.arg)
def dot : Str := "."
def defsIn (c : Str) : List Stmt → List Df
  | [] => []
  | .FunctionDef n a b _ _ _ sc _ _ _ :: r => ⟨(c, some n), n, c ++ dot ++ n, a, b, sc⟩ :: defsIn c r
  | _ :: r => defsIn c r
def isExcBase : List Expr → Bool
  | [.Name x _] => decide (x = ("ValueError" : Str) ∨ x = ("LookupError" : Str))
  | _ => false
def defsOf : List Stmt → List Df
  | [] => []
  | .FunctionDef n a b _ _ _ sc _ _ _ :: r => ⟨(n, none), n, n, a, b, sc⟩ :: defsOf r
  | .ClassDef n bs _ b _ _ _ _ _ _ _ :: r => (if bs.isEmpty then defsIn n b else []) ++ defsOf r
  | _ :: r => defsOf r
def clsOf : List Stmt → List Str
  | [] => []
  | .ClassDef n bs _ b _ _ _ _ _ _ _ :: r => if bs.isEmpty then n :: clsOf r else clsOf r
  | _ :: r => clsOf r
def excsOf : List Stmt → List Str
  | [] => []
  | .ClassDef n [.Name x _] _ [.Pass _] _ _ _ _ _ _ _ :: r => if x = ("ValueError" : Str) then n :: excsOf r else excsOf r
  | _ :: r => excsOf r
def litOf : Nat → Expr → Option PV
  | 0, _ => none
  | n + 1, e => match e with
    | .Constant c _ _ => conOf c
    | .Tuple es _ _ => (es.mapM (litOf n)).map .tup
    | _ => none
def constsOf : List Stmt → List (Str × PV)
  | [] => []
  | .Assign [.Name x _] e _ :: r => if x = ("__name__" : Str) then constsOf r else (match litOf 20 e with | some v => (x, v) :: constsOf r | none => constsOf r)
  | _ :: r => constsOf r
/-- every attribute that is stored -/
def addS (x : Str) (l : List Str) : List Str := if (ixS x l).isSome then l else l ++ [x]
def tgFlds (l : List Str) : Nat → Expr → List Str
  | 0, _ => l
  | n + 1, e => match e with
    | .Attribute _ f _ => addS f l
    | .Tuple es _ _ => es.foldl (fun l e => tgFlds l n e) l
    | _ => l
def stFlds : Nat → List Str → Stmt → List Str
  | 0, l, _ => l
  | n + 1, l, s => match s with
    | .Assign ts _ _ => ts.foldl (fun l t => tgFlds l 5 t) l
    | .If _ a b _ => (a ++ b).foldl (stFlds n) l
    | .For _ _ b _ _ => b.foldl (stFlds n) l
    | .While _ b _ _ => b.foldl (stFlds n) l
    | _ => l
def ccOf (body : List Stmt) : Cc :=
  let ds := defsOf body
  { fns := ds.map (·.at_), pars := ds.map Df.pars, cls := clsOf body, excs := excsOf body, consts := constsOf body,
    flds := ds.foldl (fun l d => if d.at_.2.isSome then d.body.foldl (stFlds 20) l else l) [],
    mths := ds.foldl (fun l d => match d.at_.2 with | some m => addS m l | none => l) [] }
mutual
/-- the comprehensions' own names -/
def scE : Nat → List Str → Expr → List Str
  | 0, l, _ => l
  | n + 1, l, e => match e with
    | .BoolOp _ es _ => es.foldl (scE n) l
    | .BinOp a _ b _ => scE n (scE n l a) b
    | .UnaryOp _ a _ => scE n l a
    | .IfExp a b c _ => scE n (scE n (scE n l a) b) c
    | .Compare a _ es _ => es.foldl (scE n) (scE n l a)
    | .Call f es ks _ => ks.foldl (scK n) (es.foldl (scE n) (scE n l f))
    | .Attribute a _ _ => scE n l a
    | .Subscript a b _ => scE n (scE n l a) b
    | .List es _ => es.foldl (scE n) l
    | .Tuple es _ _ => es.foldl (scE n) l
    | .Slice a b c _ => c.toList.foldl (scE n) (b.toList.foldl (scE n) (a.toList.foldl (scE n) l))
    | .ListComp e gs sc _ => gs.foldl (scG n) (scE n (sc.names.foldl (fun l y => match y.2 with | .local => addS y.1 l | .cell => addS y.1 l | _ => l) l) e)
    | _ => l
def scG : Nat → List Str → Comprehension → List Str
  | 0, l, _ => l
  | n + 1, l, g => g.ifs.foldl (scE n) (scE n (scE n l g.iter) g.target)
def scK : Nat → List Str → Keyword → List Str
  | 0, l, _ => l
  | n + 1, l, g => scE n l g.value
end
def scS : Nat → List Str → Stmt → List Str
  | 0, l, _ => l
  | n + 1, l, s => match s with
    | .Assign ts e _ => scE n (ts.foldl (scE n) l) e
    | .Expr e _ => scE n l e
    | .Return (some e) _ => scE n l e
    | .If c a b _ => b.foldl (scS n) (a.foldl (scS n) (scE n l c))
    | .For t i b _ _ => b.foldl (scS n) (scE n (scE n l t) i)
    | .While c b _ _ => b.foldl (scS n) (scE n l c)
    | .Raise (some e) _ _ => scE n l e
    | .Try b hs _ _ _ => b.foldl (scS n) l
    | _ => l
def namesOf (d : Df) : List Str :=
  d.body.foldl (scS 40) (d.scope.names.foldl (fun l y => match y.2 with | .local => addS y.1 l | .cell => addS y.1 l | _ => l) d.pars)
def fnOf (cc : Cc) (d : Df) : Fn := { arity := d.pars.length, slots := (namesOf d).length, body := d.body.map (cS cc (namesOf d) 40 d.scope) }
def pgOf (body : List Stmt) : Pg :=
  let cc := ccOf body
  let ds := defsOf body
  { nx := cc.excs.length, fns := ds.map (fnOf cc), cls := cc.cls.map fun c => { init := ixF (c, some "__init__") cc.fns, meths := (cc.fns.zip (List.range cc.fns.length)).filterMap fun (p, i) => if p.1 = c then p.2.bind fun m => (ixS m cc.mths).map fun j => (j, i) else none } }
end Rf
end
section
set_option Elab.async false
set_option linter.all false
set_option maxRecDepth 100000
/-! Rf3: how our values and stores stand in the layer's abstract heap. -/
namespace Rf
open PySem PySem.Spec PyProof.Rows L2

/-- where the text's own things stand -/
structure Lk where
  cls : Nat → Addr
  exc : Nat → Addr
  fld : Nat → Str
/-- a list that is never written -/
def RoL (K : PySem.W.Frag) (H : Hp) (a : Addr) (vs : List V) : Prop :=
  (∃ o, H a = some (.frz o (.lst vs))) ∨
    ∃ (o : Obj) (its : Array Value) (n : Nat), K.lookup a = some o ∧ o.cls = .type "list" ∧ o.dict = none ∧ o.data = .seq its n ∧ its.size ≤ sizeLine ∧ Vals vs its.toList
theorem RoL.sq {K : PySem.W.Frag} {H : Hp} {a : Addr} {vs : List V} (h : RoL K H a vs) : SqL K H a vs := h.elim (fun h => .inl (.inr h)) .inr
/-- a tuple, known as it lies -/
def SqF (K : PySem.W.Frag) (H : Hp) (a : Addr) (vs : List V) : Prop :=
  (∃ o, H a = some (.frz o (.tup vs)) ∧ o.dict = none) ∨
    ∃ (o : Obj) (its : Array Value) (n : Nat), K.lookup a = some o ∧ o.cls = .type "tuple" ∧ o.dict = none ∧ o.data = .seq its n ∧ its.size ≤ sizeLine ∧ Vals vs its.toList
theorem SqF.sq {K : PySem.W.Frag} {H : Hp} {a : Addr} {vs : List V} : SqF K H a vs → SqT K H a vs
  | .inl ⟨o, h, _⟩ => .inl (.inr ⟨o, h⟩)
  | .inr ⟨o, its, n, h1, h2, _, h3, h4, h5⟩ => .inr ⟨o, its, n, h1, h2, h3, h4, h5⟩
mutual
def RV (K : PySem.W.Frag) (ρ : List Addr) (H : Hp) : PV → V → Prop
  | .non, v => v = .non
  | .bl b, v => v = .bl b
  | .int i, v => v = .int i
  | .str x, v => v = .str x ∧ SOk x = true
  | .tup xs, v => ∃ a vs, v = .ref a ∧ SqF K H a vs ∧ RVs K ρ H xs vs
  | .rol xs, v => ∃ a vs, v = .ref a ∧ RoL K H a vs ∧ RVs K ρ H xs vs
  | .obj k, v => ∃ a, v = .ref a ∧ ρ[k]? = some a
def RVs (K : PySem.W.Frag) (ρ : List Addr) (H : Hp) : List PV → List V → Prop
  | [], vs => vs = []
  | x :: r, vs => ∃ u us, vs = u :: us ∧ RV K ρ H x u ∧ RVs K ρ H r us
end
/-- a key -/
def pk : PV → Option Key
  | .int i => some (.inl i)
  | .str x => some (.inr x)
  | _ => none
def RKs (K : PySem.W.Frag) (ρ : List Addr) (H : Hp) : List (PV × PV) → List (Key × V) → Prop
  | [], l => l = []
  | p :: r, l => ∃ k u us, l = (k, u) :: us ∧ pk p.1 = some k ∧ RV K ρ H p.1 (kV k) ∧ RV K ρ H p.2 u ∧ RKs K ρ H r us
def RFs (L : Lk) (K : PySem.W.Frag) (ρ : List Addr) (H : Hp) : List (Nat × PV) → List (Str × V) → Prop
  | [], l => l = []
  | p :: r, l => ∃ u us, l = (L.fld p.1, u) :: us ∧ RV K ρ H p.2 u ∧ RFs L K ρ H r us
/-- an object of the store -/
def SO (L : Lk) (K : PySem.W.Frag) (ρ : List Addr) (H : Hp) : MO → Addr → Prop
  | .lst xs, a => ∃ vs, H a = some (.lst vs) ∧ RVs K ρ H xs vs
  | .dct lk kvs, a => ∃ ks, RKs K ρ H kvs ks ∧ (if lk = true then ∃ od, H a = some (.frz od (.dK ks)) else H a = some (.dK ks))
  | .ins c fs, a => ∃ dx l, H a = some (.ins (L.cls c) dx l) ∧ RFs L K ρ H fs l
structure Sim (L : Lk) (K : PySem.W.Frag) (ρ : List Addr) (st : Sto) (H : Hp) : Prop where
  len : ρ.length = st.length
  nd : ρ.Nodup
  obj : ∀ (k : Nat) (o : MO) (a : Addr), st[k]? = some o → ρ[k]? = some a → SO L K ρ H o a
/-- what is frozen stays -/
def FrzLe (H H' : Hp) : Prop := ∀ a o u, H a = some (.frz o u) → H' a = some (.frz o u)
/-- what comes later -/
structure Ext (ρ : List Addr) (H : Hp) (ρ' : List Addr) (H' : Hp) : Prop where
  pre : ∃ l, ρ' = ρ ++ l
  fresh : ∀ a, a ∈ ρ' → a ∉ ρ → H a = none
  keep : ∀ a o, H a = some o → a ∉ ρ → H' a = some o
  frz : FrzLe H H'
theorem Ext.refl {ρ : List Addr} {H : Hp} : Ext ρ H ρ H := ⟨⟨[], by simp⟩, fun a h n => absurd h n, fun _ _ h _ => h, fun _ _ _ h => h⟩
theorem Ext.mem {ρ ρ' : List Addr} {H H' : Hp} (e : Ext ρ H ρ' H') {a : Addr} (h : a ∈ ρ) : a ∈ ρ' := by
  obtain ⟨l, rfl⟩ := e.pre
  exact List.mem_append_left _ h
theorem Ext.get {ρ ρ' : List Addr} {H H' : Hp} (e : Ext ρ H ρ' H') {k : Nat} {a : Addr} (h : ρ[k]? = some a) : ρ'[k]? = some a := by
  obtain ⟨l, rfl⟩ := e.pre
  rw [List.getElem?_append_left (List.getElem?_eq_some_iff.mp h).1]
  exact h
theorem Ext.trans {ρ ρ1 ρ2 : List Addr} {H H1 H2 : Hp} (e : Ext ρ H ρ1 H1) (f : Ext ρ1 H1 ρ2 H2) : Ext ρ H ρ2 H2 where
  pre := by
    obtain ⟨l, rfl⟩ := e.pre
    obtain ⟨m, rfl⟩ := f.pre
    exact ⟨l ++ m, by simp⟩
  fresh := fun a h n => by
    cases q : H a with
    | none => rfl
    | some o =>
      have h1 := e.keep a o q n
      by_cases m : a ∈ ρ1
      · have := e.fresh a m n
        rw [q] at this
        cases this
      · have := f.fresh a h m
        rw [h1] at this
        cases this
  keep := fun a o h n => by
    have h1 := e.keep a o h n
    refine f.keep a o h1 fun m => ?_
    have := e.fresh a m n
    rw [h] at this
    cases this
  frz := fun a o u h => f.frz a o u (e.frz a o u h)
section
variable {L : Lk} {K : PySem.W.Frag} {ρ ρ' : List Addr} {H H' : Hp} {st : Sto}
theorem Sim.at_ (s : Sim L K ρ st H) {a : Addr} (h : a ∈ ρ) : ∃ (k : Nat) (o : MO), st[k]? = some o ∧ ρ[k]? = some a ∧ SO L K ρ H o a := by
  obtain ⟨k, hk, e⟩ := List.getElem_of_mem h
  have e2 : ρ[k]? = some a := by rw [List.getElem?_eq_getElem hk, e]
  have hk2 : k < st.length := by rw [← s.len]; exact hk
  have e3 : st[k]? = some st[k] := List.getElem?_eq_getElem hk2
  exact ⟨k, st[k], e3, e2, s.obj k _ a e3 e2⟩
theorem Sim.has (s : Sim L K ρ st H) {a : Addr} (h : a ∈ ρ) : ∃ o, H a = some o := by
  obtain ⟨k, o, _, _, q⟩ := s.at_ h
  cases o with
  | lst xs => obtain ⟨vs, e, _⟩ := q; exact ⟨_, e⟩
  | dct lk kvs =>
    obtain ⟨ks, _, e⟩ := q
    cases lk with
    | true => simp only [if_true] at e; obtain ⟨od, e⟩ := e; exact ⟨_, e⟩
    | false => exact ⟨_, by simpa using e⟩
  | ins c fs => obtain ⟨dx, l, e, _⟩ := q; exact ⟨_, e⟩
theorem Sim.noTup (s : Sim L K ρ st H) {a : Addr} {vs : List V} (h : H a = some (.tup vs) ∨ ∃ o, H a = some (.frz o (.tup vs))) : a ∉ ρ := fun hm => by
  obtain ⟨k, o, _, _, q⟩ := s.at_ hm
  cases o with
  | lst xs => obtain ⟨vs, e, _⟩ := q; rcases h with h | ⟨o, h⟩ <;> (rw [e] at h; cases h)
  | dct lk kvs =>
    obtain ⟨ks, _, e⟩ := q
    cases lk with
    | true => simp only [if_true] at e; obtain ⟨od, e⟩ := e; rcases h with h | ⟨o, h⟩ <;> (rw [e] at h; cases h)
    | false => simp only [Bool.false_eq_true, if_false] at e; rcases h with h | ⟨o, h⟩ <;> (rw [e] at h; cases h)
  | ins c fs => obtain ⟨dx, l, e, _⟩ := q; rcases h with h | ⟨o, h⟩ <;> (rw [e] at h; cases h)
theorem Sim.noRo (s : Sim L K ρ st H) {a : Addr} {vs : List V} {o' : Obj} (h : H a = some (.frz o' (.lst vs))) : a ∉ ρ := fun hm => by
  obtain ⟨k, o, _, _, q⟩ := s.at_ hm
  cases o with
  | lst xs => obtain ⟨vs, e, _⟩ := q; rw [e] at h; cases h
  | dct lk kvs =>
    obtain ⟨ks, _, e⟩ := q
    cases lk with
    | true => simp only [if_true] at e; obtain ⟨od, e⟩ := e; rw [e] at h; cases h
    | false => simp only [Bool.false_eq_true, if_false] at e; rw [e] at h; cases h
  | ins c fs => obtain ⟨dx, l, e, _⟩ := q; rw [e] at h; cases h
theorem SqF.ext (s : Sim L K ρ st H) (e : Ext ρ H ρ' H') {a : Addr} {vs : List V} (h : SqF K H a vs) : SqF K H' a vs := by
  rcases h with ⟨o, h, hd⟩ | h
  · exact .inl ⟨o, e.keep a _ h (s.noTup (.inr ⟨o, h⟩)), hd⟩
  · exact .inr h
theorem RoL.ext (s : Sim L K ρ st H) (e : Ext ρ H ρ' H') {a : Addr} {vs : List V} (h : RoL K H a vs) : RoL K H' a vs := by
  rcases h with ⟨o, h⟩ | h
  · exact .inl ⟨o, e.keep a _ h (s.noRo h)⟩
  · exact .inr h
mutual
theorem RV.ext (s : Sim L K ρ st H) (e : Ext ρ H ρ' H') : ∀ (x : PV) (v : V), RV K ρ H x v → RV K ρ' H' x v
  | .non, _, h => h
  | .bl _, _, h => h
  | .int _, _, h => h
  | .str _, _, h => h
  | .tup xs, _, h => by
    obtain ⟨a, vs, rfl, h1, h2⟩ := h
    exact ⟨a, vs, rfl, SqF.ext s e h1, RVs.ext s e xs vs h2⟩
  | .rol xs, _, h => by
    obtain ⟨a, vs, rfl, h1, h2⟩ := h
    exact ⟨a, vs, rfl, RoL.ext s e h1, RVs.ext s e xs vs h2⟩
  | .obj k, _, h => by
    obtain ⟨a, rfl, h⟩ := h
    exact ⟨a, rfl, e.get h⟩
theorem RVs.ext (s : Sim L K ρ st H) (e : Ext ρ H ρ' H') : ∀ (xs : List PV) (vs : List V), RVs K ρ H xs vs → RVs K ρ' H' xs vs
  | [], _, h => h
  | x :: r, _, h => by
    obtain ⟨u, us, rfl, h1, h2⟩ := h
    exact ⟨u, us, rfl, RV.ext s e x u h1, RVs.ext s e r us h2⟩
end
theorem RKs.ext (s : Sim L K ρ st H) (e : Ext ρ H ρ' H') : ∀ (xs : List (PV × PV)) (vs : List (Key × V)), RKs K ρ H xs vs → RKs K ρ' H' xs vs
  | [], _, h => h
  | x :: r, _, h => by
    obtain ⟨k, u, us, rfl, h1, h2, h3, h4⟩ := h
    exact ⟨k, u, us, rfl, h1, RV.ext s e _ _ h2, RV.ext s e _ _ h3, RKs.ext s e r us h4⟩
theorem RFs.ext (s : Sim L K ρ st H) (e : Ext ρ H ρ' H') : ∀ (xs : List (Nat × PV)) (vs : List (Str × V)), RFs L K ρ H xs vs → RFs L K ρ' H' xs vs
  | [], _, h => h
  | x :: r, _, h => by
    obtain ⟨u, us, rfl, h1, h2⟩ := h
    exact ⟨u, us, rfl, RV.ext s e _ _ h1, RFs.ext s e r us h2⟩
/-! ### lists of values -/
theorem RVs.length : ∀ {xs : List PV} {vs : List V}, RVs K ρ H xs vs → xs.length = vs.length
  | [], _, h => by rw [h]; rfl
  | x :: r, _, h => by
    obtain ⟨u, us, rfl, _, h2⟩ := h
    rw [List.length_cons, List.length_cons, RVs.length h2]
theorem RVs.get : ∀ {xs : List PV} {vs : List V} {i : Nat} {x : PV}, RVs K ρ H xs vs → xs[i]? = some x → ∃ v, vs[i]? = some v ∧ RV K ρ H x v
  | [], _, _, _, _, e => by simp at e
  | y :: r, _, 0, x, h, e => by
    obtain ⟨u, us, rfl, h1, _⟩ := h
    simp at e
    subst e
    exact ⟨u, rfl, h1⟩
  | y :: r, _, i + 1, x, h, e => by
    obtain ⟨u, us, rfl, _, h2⟩ := h
    obtain ⟨v, e1, h3⟩ := RVs.get (i := i) (x := x) h2 (by simpa using e)
    exact ⟨v, by simpa using e1, h3⟩
theorem RVs.get' : ∀ {xs : List PV} {vs : List V} {i : Nat} {v : V}, RVs K ρ H xs vs → vs[i]? = some v → ∃ x, xs[i]? = some x ∧ RV K ρ H x v
  | [], _, i, _, h, e => by rw [h] at e; simp at e
  | y :: r, _, 0, v, h, e => by
    obtain ⟨u, us, rfl, h1, _⟩ := h
    simp at e
    subst e
    exact ⟨y, rfl, h1⟩
  | y :: r, _, i + 1, v, h, e => by
    obtain ⟨u, us, rfl, _, h2⟩ := h
    obtain ⟨x, e1, h3⟩ := RVs.get' (i := i) (v := v) h2 (by simpa using e)
    exact ⟨x, by simpa using e1, h3⟩
theorem RVs.append : ∀ {xs ys : List PV} {vs us : List V}, RVs K ρ H xs vs → RVs K ρ H ys us → RVs K ρ H (xs ++ ys) (vs ++ us)
  | [], _, _, _, h, h' => by rw [h]; exact h'
  | x :: r, _, _, _, h, h' => by
    obtain ⟨u, us, rfl, h1, h2⟩ := h
    exact ⟨u, _, rfl, h1, RVs.append h2 h'⟩
theorem RVs.take : ∀ (n : Nat) {xs : List PV} {vs : List V}, RVs K ρ H xs vs → RVs K ρ H (xs.take n) (vs.take n)
  | 0, _, _, _ => rfl
  | n + 1, [], _, h => by rw [h]; rfl
  | n + 1, x :: r, _, h => by
    obtain ⟨u, us, rfl, h1, h2⟩ := h
    exact ⟨u, _, rfl, h1, RVs.take n h2⟩
theorem RVs.drop : ∀ (n : Nat) {xs : List PV} {vs : List V}, RVs K ρ H xs vs → RVs K ρ H (xs.drop n) (vs.drop n)
  | 0, _, _, h => h
  | n + 1, [], _, h => by rw [h]; rfl
  | n + 1, x :: r, _, h => by
    obtain ⟨u, us, rfl, h1, h2⟩ := h
    exact RVs.drop n h2
theorem RVs.one {x : PV} {v : V} (h : RV K ρ H x v) : RVs K ρ H [x] [v] := ⟨v, [], rfl, h, rfl⟩
theorem RVs.reverse : ∀ {xs : List PV} {vs : List V}, RVs K ρ H xs vs → RVs K ρ H xs.reverse vs.reverse
  | [], _, h => by rw [h]; rfl
  | x :: r, _, h => by
    obtain ⟨u, us, rfl, h1, h2⟩ := h
    rw [List.reverse_cons, List.reverse_cons]
    exact RVs.append (RVs.reverse h2) (RVs.one h1)
theorem RVs.set : ∀ (i : Nat) {xs : List PV} {vs : List V} {x : PV} {v : V}, RVs K ρ H xs vs → RV K ρ H x v → RVs K ρ H (xs.set i x) (vs.set i v)
  | _, [], _, _, _, h, _ => by rw [h]; rfl
  | 0, y :: r, _, _, _, h, hx => by
    obtain ⟨u, us, rfl, h1, h2⟩ := h
    exact ⟨_, us, rfl, hx, h2⟩
  | i + 1, y :: r, _, _, _, h, hx => by
    obtain ⟨u, us, rfl, h1, h2⟩ := h
    exact ⟨u, _, rfl, h1, RVs.set i h2 hx⟩
theorem RVs.dropLast {xs : List PV} {vs : List V} (h : RVs K ρ H xs vs) : RVs K ρ H xs.dropLast vs.dropLast := by
  rw [List.dropLast_eq_take, List.dropLast_eq_take, h.length]
  exact h.take _
theorem RVs.eraseIdx : ∀ (i : Nat) {xs : List PV} {vs : List V}, RVs K ρ H xs vs → RVs K ρ H (xs.eraseIdx i) (vs.eraseIdx i)
  | _, [], _, h => by rw [h]; rfl
  | 0, y :: r, _, h => by
    obtain ⟨u, us, rfl, h1, h2⟩ := h
    exact h2
  | i + 1, y :: r, _, h => by
    obtain ⟨u, us, rfl, h1, h2⟩ := h
    exact ⟨u, _, rfl, h1, RVs.eraseIdx i h2⟩
theorem RVs.cut {xs : List PV} {vs : List V} (lo hi : Option Int) (h : RVs K ρ H xs vs) : RVs K ρ H (Rf.cut xs lo hi) (Rf.cut vs lo hi) := by
  unfold Rf.cut
  rw [h.length]
  exact (h.drop _).take _
theorem RVs.flatRep {xs : List PV} {vs : List V} (h : RVs K ρ H xs vs) : ∀ n : Nat, RVs K ρ H (List.replicate n xs).flatten (List.replicate n vs).flatten
  | 0 => rfl
  | n + 1 => by
    rw [List.replicate_succ, List.replicate_succ, List.flatten_cons, List.flatten_cons]
    exact h.append (RVs.flatRep h n)
theorem RVs.pints : ∀ {ns : List Int} {vs : List V}, RVs K ρ H (ns.map PV.int) vs → vs = ns.map V.int
  | [], _, h => h
  | n :: r, _, h => by
    obtain ⟨u, us, rfl, h1, h2⟩ := h
    rw [RVs.pints h2, show u = V.int n from h1]
    rfl
theorem RVs.ofInts : ∀ (ns : List Int), RVs K ρ H (ns.map PV.int) (ns.map V.int)
  | [] => rfl
  | n :: r => ⟨_, _, rfl, rfl, RVs.ofInts r⟩
theorem RVs.bools : ∀ {ns : List Bool} {vs : List V}, RVs K ρ H (ns.map PV.bl) vs → vs = ns.map V.bl
  | [], _, h => h
  | n :: r, _, h => by
    obtain ⟨u, us, rfl, h1, h2⟩ := h
    rw [RVs.bools h2, show u = V.bl n from h1]
    rfl
theorem ints_eq : ∀ {xs : List PV} {ns : List Int}, Rf.pints xs = some ns → xs = ns.map PV.int
  | [], ns, h => by
    simp only [Rf.pints, Option.some.injEq] at h
    subst h
    rfl
  | .int i :: r, ns, h => by
    simp only [Rf.pints, Option.map_eq_some_iff] at h
    obtain ⟨l, h1, rfl⟩ := h
    rw [ints_eq h1]
    rfl
  | .non :: _, _, h => by simp [Rf.pints] at h
  | .bl _ :: _, _, h => by simp [Rf.pints] at h
  | .str _ :: _, _, h => by simp [Rf.pints] at h
  | .tup _ :: _, _, h => by simp [Rf.pints] at h
  | .rol _ :: _, _, h => by simp [Rf.pints] at h
  | .obj _ :: _, _, h => by simp [Rf.pints] at h
theorem bools_eq : ∀ {xs : List PV} {ns : List Bool}, Rf.bools xs = some ns → xs = ns.map PV.bl
  | [], ns, h => by
    simp only [Rf.bools, Option.some.injEq] at h
    subst h
    rfl
  | .bl i :: r, ns, h => by
    simp only [Rf.bools, Option.map_eq_some_iff] at h
    obtain ⟨l, h1, rfl⟩ := h
    rw [bools_eq h1]
    rfl
  | .non :: _, _, h => by simp [Rf.bools] at h
  | .int _ :: _, _, h => by simp [Rf.bools] at h
  | .str _ :: _, _, h => by simp [Rf.bools] at h
  | .tup _ :: _, _, h => by simp [Rf.bools] at h
  | .rol _ :: _, _, h => by simp [Rf.bools] at h
  | .obj _ :: _, _, h => by simp [Rf.bools] at h
/-- a fresh address is none of ours -/
theorem Sim.fresh (s : Sim L K ρ st H) {p : Addr} (h : H p = none) : p ∉ ρ := fun m => by
  obtain ⟨o, e⟩ := s.has m
  rw [h] at e
  cases e
theorem Ext.laid {p : Addr} {o : HO} (h : H p = none) : Ext ρ H ρ (upd H p o) := ⟨⟨[], by simp⟩, fun a h n => absurd h n, fun a o' e _ => by rw [upd_ne (ne_of_none e h)]; exact e, fun a o' u e => by rw [upd_ne (ne_of_none e h)]; exact e⟩
theorem SO.ext (s : Sim L K ρ st H) (e : Ext ρ H ρ' H') {o : MO} {a : Addr} (h : SO L K ρ H o a) (ha : ∀ u, H a = some u → H' a = some u) : SO L K ρ' H' o a := by
  cases o with
  | lst xs => obtain ⟨vs, h1, h2⟩ := h; exact ⟨vs, ha _ h1, RVs.ext s e xs vs h2⟩
  | dct lk kvs =>
    obtain ⟨ks, h1, h2⟩ := h
    refine ⟨ks, RKs.ext s e _ _ h1, ?_⟩
    cases lk with
    | true => simp only [if_true] at h2 ⊢; obtain ⟨od, h2⟩ := h2; exact ⟨od, ha _ h2⟩
    | false => simp only [Bool.false_eq_true, if_false] at h2 ⊢; exact ha _ h2
  | ins c fs => obtain ⟨dx, l, h1, h2⟩ := h; exact ⟨dx, l, ha _ h1, RFs.ext s e _ _ h2⟩
/-- what is laid and not of the store leaves the store as it is -/
theorem Sim.laid (s : Sim L K ρ st H) {p : Addr} {o : HO} (h : H p = none) : Sim L K ρ st (upd H p o) :=
  ⟨s.len, s.nd, fun k u a e1 e2 => SO.ext s (Ext.laid h) (s.obj k u a e1 e2) fun w e => by rw [upd_ne (ne_of_none e h)]; exact e⟩
/-- a new object of the store -/
theorem Ext.new {p : Addr} {o : HO} (s : Sim L K ρ st H) (h : H p = none) : Ext ρ H (ρ ++ [p]) (upd H p o) where
  pre := ⟨[p], rfl⟩
  fresh := fun a h1 n => by
    rcases List.mem_append.mp h1 with h1 | h1
    · exact absurd h1 n
    · rw [List.mem_singleton.mp h1]; exact h
  keep := fun a o' e _ => by rw [upd_ne (ne_of_none e h)]; exact e
  frz := fun a o' u e => by rw [upd_ne (ne_of_none e h)]; exact e
theorem Sim.new (s : Sim L K ρ st H) {p : Addr} {o : HO} {m : MO} (h : H p = none) (hs : SO L K (ρ ++ [p]) (upd H p o) m p) : Sim L K (ρ ++ [p]) (st ++ [m]) (upd H p o) where
  len := by rw [List.length_append, List.length_append, s.len]; rfl
  nd := List.nodup_append.mpr ⟨s.nd, by simp, fun a ha b hb => by
    rw [List.mem_singleton.mp hb]
    exact fun e => s.fresh h (e ▸ ha)⟩
  obj := fun k u a e1 e2 => by
    by_cases hk : k < st.length
    · rw [List.getElem?_append_left hk] at e1
      rw [List.getElem?_append_left (by rw [s.len]; exact hk)] at e2
      exact SO.ext s (Ext.new s h) (s.obj k u a e1 e2) fun w e => by rw [upd_ne (ne_of_none e h)]; exact e
    · have hk1 : k < st.length + 1 := by
        have := (List.getElem?_eq_some_iff.mp e1).1
        simpa using this
      have ek : k = st.length := by omega
      subst ek
      rw [List.getElem?_append_right (Nat.le_refl _)] at e1
      rw [List.getElem?_append_right (by rw [s.len]; exact Nat.le_refl _), s.len] at e2
      simp at e1 e2
      subst e1 e2
      exact hs
/-- an object of the store is written -/
theorem lst_nf {a : Addr} {vs : List V} (h : H a = some (.lst vs)) : ∀ o u, H a ≠ some (.frz o u) := fun o u e => by rw [h] at e; cases e
theorem dK_nf {a : Addr} {vs : List (Key × V)} (h : H a = some (.dK vs)) : ∀ o u, H a ≠ some (.frz o u) := fun o u e => by rw [h] at e; cases e
theorem ins_nf {a c d : Addr} {vs : List (Str × V)} (h : H a = some (.ins c d vs)) : ∀ o u, H a ≠ some (.frz o u) := fun o u e => by rw [h] at e; cases e
theorem Ext.write {k : Nat} {a : Addr} {o : HO} (h : ρ[k]? = some a) (hn : ∀ o u, H a ≠ some (.frz o u)) : Ext ρ H ρ (upd H a o) where
  pre := ⟨[], by simp⟩
  fresh := fun a h n => absurd h n
  keep := fun b o' e n => by
    rw [upd_ne]
    · exact e
    · rintro rfl
      exact n (List.mem_of_getElem? h)
  frz := fun b p u e => by
    rw [upd_ne]
    · exact e
    · rintro rfl
      exact hn _ _ e
theorem Sim.write (s : Sim L K ρ st H) {k : Nat} {a : Addr} {o : HO} {m : MO} (h : ρ[k]? = some a) (hn : ∀ o u, H a ≠ some (.frz o u)) (hs : SO L K ρ (upd H a o) m a) : Sim L K ρ (st.set k m) (upd H a o) where
  len := by rw [List.length_set]; exact s.len
  nd := s.nd
  obj := fun j u b e1 e2 => by
    by_cases hj : k = j
    · subst hj
      have hlt : k < st.length := by
        have := (List.getElem?_eq_some_iff.mp e2).1
        rw [s.len] at this
        exact this
      rw [List.getElem?_set_self hlt] at e1
      rw [h] at e2
      cases e1
      cases e2
      exact hs
    · rw [List.getElem?_set_ne hj] at e1
      have hab : b ≠ a := fun e => hj (by
        have h1 := (List.getElem?_eq_some_iff.mp h)
        have h2 := (List.getElem?_eq_some_iff.mp e2)
        obtain ⟨p1, q1⟩ := h1
        obtain ⟨p2, q2⟩ := h2
        exact ((List.getElem_inj s.nd).mp (by rw [q1, q2, e] : ρ[j] = ρ[k])).symm)
      exact SO.ext s (Ext.write h hn) (s.obj j u b e1 e2) fun w e => by rw [upd_ne hab]; exact e
end
/-! ### slots -/
def RLo (K : PySem.W.Frag) (ρ : List Addr) (H : Hp) : Loc → List (Option V) → Prop
  | [], l => l = []
  | x :: r, l => ∃ u us, l = u :: us ∧ (match x with | some p => ∃ v, u = some v ∧ RV K ρ H p v | none => True) ∧ RLo K ρ H r us
section
variable {L : Lk} {K : PySem.W.Frag} {ρ ρ' : List Addr} {H H' : Hp} {st : Sto}
theorem RLo.ext (s : Sim L K ρ st H) (e : Ext ρ H ρ' H') : ∀ (σ : Loc) (l : List (Option V)), RLo K ρ H σ l → RLo K ρ' H' σ l
  | [], _, h => h
  | none :: r, _, h => by
    obtain ⟨u, us, rfl, h1, h2⟩ := h
    exact ⟨u, us, rfl, trivial, RLo.ext s e r us h2⟩
  | some p :: r, _, h => by
    obtain ⟨u, us, rfl, ⟨v, rfl, h1⟩, h2⟩ := h
    exact ⟨_, us, rfl, ⟨v, rfl, RV.ext s e _ _ h1⟩, RLo.ext s e r us h2⟩
theorem RLo.get : ∀ {σ : Loc} {l : List (Option V)} {i : Nat} {p : PV}, RLo K ρ H σ l → σ[i]? = some (some p) → ∃ v, l[i]? = some (some v) ∧ RV K ρ H p v
  | [], _, _, _, _, e => by simp at e
  | x :: r, _, 0, p, h, e => by
    obtain ⟨u, us, rfl, h1, _⟩ := h
    simp at e
    subst e
    obtain ⟨v, rfl, h1⟩ := h1
    exact ⟨v, rfl, h1⟩
  | x :: r, _, i + 1, p, h, e => by
    obtain ⟨u, us, rfl, _, h2⟩ := h
    obtain ⟨v, e1, h3⟩ := RLo.get (i := i) (p := p) h2 (by simpa using e)
    exact ⟨v, by simpa using e1, h3⟩
theorem RLo.set : ∀ (i : Nat) {σ : Loc} {l : List (Option V)} {p : PV} {v : V}, RLo K ρ H σ l → RV K ρ H p v → RLo K ρ H (σ.set i (some p)) (l.set i (some v))
  | _, [], _, _, _, h, _ => by rw [h]; rfl
  | 0, x :: r, _, _, v, h, hp => by
    obtain ⟨u, us, rfl, _, h2⟩ := h
    exact ⟨_, us, rfl, ⟨v, rfl, hp⟩, h2⟩
  | i + 1, x :: r, _, _, _, h, hp => by
    obtain ⟨u, us, rfl, h1, h2⟩ := h
    exact ⟨u, _, rfl, h1, RLo.set i h2 hp⟩
theorem RLo.setN : ∀ (i : Nat) {σ : Loc} {l : List (Option V)}, RLo K ρ H σ l → RLo K ρ H (σ.set i none) (l.set i none)
  | _, [], _, h => by rw [h]; rfl
  | 0, x :: r, _, h => by
    obtain ⟨u, us, rfl, _, h2⟩ := h
    exact ⟨_, us, rfl, trivial, h2⟩
  | i + 1, x :: r, _, h => by
    obtain ⟨u, us, rfl, h1, h2⟩ := h
    exact ⟨u, _, rfl, h1, RLo.setN i h2⟩
theorem RLo.wipe {σ : Loc} {l : List (Option V)} (h : RLo K ρ H σ l) : ∀ vs : List Nat, RLo K ρ H (Rf.wipe σ vs) (L2.wipe l vs)
  | [] => h
  | v :: vs => RLo.setN v (RLo.wipe h vs)
theorem RLo.start : ∀ {xs : List PV} {vs : List V} (n : Nat), RVs K ρ H xs vs → RLo K ρ H (xs.map some ++ List.replicate n none) (vs.map some ++ List.replicate n none)
  | [], _, 0, h => by rw [h]; rfl
  | [], _, n + 1, h => by
    rw [h]
    exact ⟨none, List.replicate n none, by simp [List.replicate_succ], trivial, RLo.start (xs := []) (vs := []) n rfl⟩
  | x :: r, _, n, h => by
    obtain ⟨u, us, rfl, h1, h2⟩ := h
    exact ⟨some u, _, rfl, ⟨u, rfl, h1⟩, RLo.start n h2⟩
theorem RLo.length : ∀ {σ : Loc} {l : List (Option V)}, RLo K ρ H σ l → σ.length = l.length
  | [], _, h => by rw [h]; rfl
  | x :: r, _, h => by
    obtain ⟨u, us, rfl, _, h2⟩ := h
    rw [List.length_cons, List.length_cons, RLo.length h2]
end
end Rf
end
section
set_option Elab.async false
set_option linter.all false
set_option maxRecDepth 100000
set_option maxHeartbeats 1000000
/-! Rf4: answers in the layer, data, operators. -/
namespace Rf
open PySem PySem.Spec PyProof.Rows L2
section
variable {L : Lk} {K : PySem.W.Frag} {ρ ρ' ρ1 : List Addr} {H H' H1 : Hp} {st : Sto} {W : WX} {σ : List (Option V)}
/-- an answer, as the layer is to have it -/
def okR {α : Type} (L : Lk) (K : PySem.W.Frag) (W : WX) (ρ : List Addr) (H : Hp) (σ : List (Option V)) (r : R α) (Φ : α → Sto → List Addr → Hp → Prop) : Prop := match r with
  | .ok a st' => ∀ ρ' H', Ext ρ H ρ' H' → Sim L K ρ' st' H' → Φ a st' ρ' H'
  | .exc c fs st' => fs = [] ∧ ∀ ρ' H', Ext ρ H ρ' H' → Sim L K ρ' st' H' → W (.ref (L.exc c)) none σ H'
  | .stuck => False
theorem okR.ext {α : Type} {r : R α} {Φ : α → Sto → List Addr → Hp → Prop} (h : okR L K W ρ H σ r Φ) (e : Ext ρ H ρ1 H1) : okR L K W ρ1 H1 σ r Φ := by
  cases r with
  | ok a st' => exact fun ρ' H' e' s' => h ρ' H' (e.trans e') s'
  | exc c fs st' => exact ⟨h.1, fun ρ' H' e' s' => h.2 ρ' H' (e.trans e') s'⟩
  | stuck => exact h
theorem okR.bind {α β : Type} {r : R α} {f : α → Sto → R β} {Φ : β → Sto → List Addr → Hp → Prop} (h : okR L K W ρ H σ (r.bind f) Φ) :
    okR L K W ρ H σ r fun a st1 ρ1 H1 => okR L K W ρ1 H1 σ (f a st1) Φ := by
  cases r with
  | ok a st1 => exact fun ρ1 H1 e s => okR.ext (r := f a st1) h e
  | exc c fs st1 => exact h
  | stuck => exact h
theorem okR.mono {α : Type} {r : R α} {Φ Φ' : α → Sto → List Addr → Hp → Prop} (h : okR L K W ρ H σ r Φ) (f : ∀ a st' ρ' H', Ext ρ H ρ' H' → Sim L K ρ' st' H' → Φ a st' ρ' H' → Φ' a st' ρ' H') : okR L K W ρ H σ r Φ' := by
  cases r with
  | ok a st' => exact fun ρ' H' e s => f _ _ _ _ e s (h ρ' H' e s)
  | exc c fs st' => exact h
  | stuck => exact h
/-- a value's wish -/
def vQ (K : PySem.W.Frag) (Q : VK) : PV → Sto → List Addr → Hp → Prop := fun v _ ρ' H' => ∀ x, RV K ρ' H' v x → Q x H'
theorem okR.now {α : Type} {a : α} {Φ : α → Sto → List Addr → Hp → Prop} (h : okR L K W ρ H σ (.ok a st) Φ) (s : Sim L K ρ st H) : Φ a st ρ H := h ρ H Ext.refl s
theorem okR.oR {α : Type} {o : Option α} {Φ : α → Sto → List Addr → Hp → Prop} (h : okR L K W ρ H σ (Rf.oR o st) Φ) : ∃ a, o = some a ∧ okR L K W ρ H σ (.ok a st) Φ := by
  cases o with
  | none => exact h.elim
  | some a => exact ⟨a, rfl, h⟩
/-- a new object: the layer lays it -/
theorem okR.newO {α : Type} {f : PV → α} {m : MO} {Φ : α → Sto → List Addr → Hp → Prop} (h : okR L K W ρ H σ (Rf.newO f st m) Φ) (s : Sim L K ρ st H) {p : Addr} {o : HO} (hp : H p = none) (hs : SO L K (ρ ++ [p]) (upd H p o) m p) :
    Φ (f (.obj st.length)) (st ++ [m]) (ρ ++ [p]) (upd H p o) ∧ RV K (ρ ++ [p]) (upd H p o) (.obj st.length) (.ref p) :=
  ⟨h _ _ (Ext.new s hp) (s.new hp hs), p, rfl, by rw [List.getElem?_append_right (by rw [s.len]; exact Nat.le_refl _), s.len]; simp⟩

/-! ### data -/
mutual
theorem dp_of (s : Sim L K ρ st H) : ∀ (n : Nat) (v : PV) (d : PyData) (x : V), toD st n v = some d → RV K ρ H v x → Dp K H x d ∧ d.canLay0 = true ∧ d.depth ≤ n
  | 0, v, d, x, h, _ => by simp [toD] at h
  | n + 1, .non, d, x, h, r => by
    simp only [toD, Option.some.injEq] at h
    subst h
    rw [show x = V.non from r]
    exact ⟨.non, by simp [PyData.canLay0], by simp [PyData.depth]⟩
  | n + 1, .bl b, d, x, h, r => by
    simp only [toD, Option.some.injEq] at h
    subst h
    rw [show x = V.bl b from r]
    exact ⟨.bl b, by simp [PyData.canLay0], by simp [PyData.depth]⟩
  | n + 1, .int i, d, x, h, r => by
    simp only [toD, Option.some.injEq] at h
    subst h
    rw [show x = V.int i from r]
    exact ⟨.int i, by simp [PyData.canLay0], by simp [PyData.depth]⟩
  | n + 1, .str z, d, x, h, r => by
    simp only [toD, Option.some.injEq] at h
    subst h
    obtain ⟨rfl, hz⟩ := r
    exact ⟨.str z, by simp only [PyData.canLay0]; exact hz, by simp [PyData.depth]⟩
  | n + 1, .tup xs, d, x, h, r => by
    simp only [toD, Option.map_eq_some_iff] at h
    obtain ⟨ds, h, rfl⟩ := h
    obtain ⟨a, vs, rfl, ht, hr⟩ := r
    obtain ⟨h1, h2, h3⟩ := dpAll_of s n xs ds vs h hr
    exact ⟨.tup ht.sq h1, by simp only [PyData.canLay0]; exact h2, by simp only [PyData.depth]; omega⟩
  | n + 1, .rol xs, d, x, h, r => by
    simp only [toD, Option.map_eq_some_iff] at h
    obtain ⟨ds, h, rfl⟩ := h
    obtain ⟨a, vs, rfl, ht, hr⟩ := r
    obtain ⟨h1, h2, h3⟩ := dpAll_of s n xs ds vs h hr
    exact ⟨.lst ht.sq h1, by simp only [PyData.canLay0]; exact h2, by simp only [PyData.depth]; omega⟩
  | n + 1, .obj k, d, x, h, r => by
    simp only [toD] at h
    obtain ⟨a, rfl, ha⟩ := r
    split at h
    · rename_i xs e
      simp only [Option.map_eq_some_iff] at h
      obtain ⟨ds, h, rfl⟩ := h
      obtain ⟨vs, hH, hr⟩ := s.obj k _ a e ha
      obtain ⟨h1, h2, h3⟩ := dpAll_of s n xs ds vs h hr
      exact ⟨.lst (SqL.of hH) h1, by simp only [PyData.canLay0]; exact h2, by simp only [PyData.depth]; omega⟩
    · cases h
theorem dpAll_of (s : Sim L K ρ st H) : ∀ (n : Nat) (xs : List PV) (ds : List PyData) (vs : List V), xs.mapM (toD st n) = some ds → RVs K ρ H xs vs → DpAll K H vs ds ∧ PyData.canLayAll0 ds = true ∧ PyData.depthAll ds ≤ n
  | n, [], ds, vs, h, r => by
    have h' : ds = [] := by simpa using h.symm
    subst h'
    rw [show vs = [] from r]
    exact ⟨.nil, by simp [PyData.canLayAll0], by simp [PyData.depthAll]⟩
  | n, x :: xs, ds, vs, h, r => by
    simp only [List.mapM_cons, Option.bind_eq_bind, Option.bind_eq_some_iff, Option.pure_def, Option.some.injEq] at h
    obtain ⟨d, hd, ds', hds, rfl⟩ := h
    obtain ⟨u, us, rfl, r1, r2⟩ := r
    obtain ⟨a1, a2, a3⟩ := dp_of s n x d u hd r1
    obtain ⟨b1, b2, b3⟩ := dpAll_of s n xs ds' us hds r2
    exact ⟨.cons a1 b1, by simp only [PyData.canLayAll0, a2, b2, Bool.and_self], by simp only [PyData.depthAll]; omega⟩
end
theorem shaped_of {d : PyData} (h : d.canLay0 = true) (h2 : d.depth ≤ 64) : SeqAt.shaped d = true := by
  unfold SeqAt.shaped
  rw [h, decide_eq_true h2]
  rfl
end
section
variable {X : Cx}
/-- x in t, t a tuple -/
def rInTD (K : PySem.W.Frag) (neg : Bool) : R2 := fun x y H Q => ∃ d ds, Dp K H x d ∧ Dp K H y (.tuple ds) ∧ SeqAt.shaped d = true ∧ SeqAt.shaped (.tuple ds) = true ∧ Q (.bl (if neg then !(ds.any fun z => PyData.eqv z d) else ds.any fun z => PyData.eqv z d)) H
theorem op_inTD (hu : X.A.units + 65 < cLine) : OpR X (compareOp .In) (rInTD X.K false) := by
  intro pins s σ H x y v u Q I rx ry h
  obtain ⟨d, ds, hd, he, sd, se, q⟩ := h
  obtain ⟨as, r1⟩ := Dp.reads I d x v hd rx
  obtain ⟨bs, r2⟩ := Dp.reads I (.tuple ds) y u he ry
  exact SeqAt.in_tuple_reads r2 r1 (SeqAt.canLay_of_shaped se) (SeqAt.canLay_of_shaped sd) (room_in_shaped sd hu) ⟨.bl _, H, I, rfl, q⟩
theorem op_notInTD (hu : X.A.units + 65 < cLine) : OpR X (compareOp .NotIn) (rInTD X.K true) := by
  intro pins s σ H x y v u Q I rx ry h
  obtain ⟨d, ds, hd, he, sd, se, q⟩ := h
  obtain ⟨as, r1⟩ := Dp.reads I d x v hd rx
  obtain ⟨bs, r2⟩ := Dp.reads I (.tuple ds) y u he ry
  exact SeqAt.notIn_tuple_reads r2 r1 (SeqAt.canLay_of_shaped se) (SeqAt.canLay_of_shaped sd) (room_in_shaped sd hu) ⟨.bl _, H, I, rfl, q⟩
end
/-! ### two-place operations, as they are evaluated -/
def rdOp (L : Lk) (K : PySem.W.Frag) (W : WX) (f : PV → PV → Sto → R PV) : R2 := fun x y H Q =>
  ∃ (ρ : List Addr) (st : Sto) (σ : List (Option V)) (v w : PV), Sim L K ρ st H ∧ RV K ρ H v x ∧ RV K ρ H w y ∧ okR L K W ρ H σ (f v w st) (vQ K Q)
def opName : BOp → Operator
  | .add => .Add | .sub => .Sub | .mul => .Mult | .fdiv => .FloorDiv | .mod => .Mod | .pow => .Pow
section
variable {X : Cx} {L : Lk} {W : WX}
theorem big_line : big ≤ sizeLine := by rw [sizeLine_eq]; decide
/-! ### tuples, laid so that they are known as they lie -/
def rCatF (K : PySem.W.Frag) : R2 := fun x y H Q => ∃ a b xs ys, x = .ref a ∧ y = .ref b ∧ SqT K H a xs ∧ SqT K H b ys ∧ xs.length + ys.length ≤ sizeLine ∧
  (xs = [] → Q (.ref b) H) ∧ (ys = [] → Q (.ref a) H) ∧ ∀ p o, o.dict = none → H p = none → Q (.ref p) (upd H p (.frz o (.tup (xs ++ ys))))
theorem op_catF : OpR X (binaryOp .Add) (rCatF X.K) := by
  intro pins s σ H x y v u Q I rx ry h
  obtain ⟨a, b, xs, ys, rfl, rfl, ha, hb, hz, q0, q1, q2⟩ := h
  cases rx
  cases ry
  obtain ⟨its, r1, p1, _⟩ := I.tuple ha
  obtain ⟨its2, r2, p2, _⟩ := I.tuple hb
  by_cases hx : xs = []
  · subst hx
    cases r1
    exact cat_tup0 p1 p2 ⟨.ref b, H, I, rfl, q0 rfl⟩
  · refine HT.cat_tup p1 p2 (fun z => hx (r1.nil_iff.mp z)) (fun z => ?_) (fun z => ?_) (r1.length ▸ r2.length ▸ hz)
    · exact ⟨.ref a, H, I, rfl, q1 (r2.nil_iff.mp z)⟩
    · have hn := I.hok.fresh (Nat.le_refl s.heap.objs.size)
      refine ⟨.ref s.heap.objs.size, _, I.laid (t' := s.toks) (o := .frz _ (.tup (xs ++ ys))) (fun b ob q => Heap.get?_push_of_some _ q) (Nat.le_refl _) ⟨Heap.get?_push_size _ rfl, ?_⟩, rfl, q2 _ _ rfl hn⟩
      exact ⟨List.length_append ▸ hz, _, r1.append r2, IsTup.new _ _⟩
theorem catA_ok {K : PySem.W.Frag} {ρ : List Addr} {H : Hp} {st : Sto} {σ : List (Option V)} {Q : VK} {a b : Addr} {va vb : List V} {xs ys : List PV} (s : Sim L K ρ st H) (ha : SqF K H a va) (hb : SqF K H b vb) (ra : RVs K ρ H xs va) (rb : RVs K ρ H ys vb)
    (h : okR L K W ρ H σ (.ok (.tup (xs ++ ys)) st) (vQ K Q)) (hz : xs.length + ys.length ≤ big) : rCatF K (.ref a) (.ref b) H Q := by
  refine ⟨a, b, va, vb, rfl, rfl, ha.sq, hb.sq, ?_, fun e => ?_, fun e => ?_, fun q o hd hq => ?_⟩
  · rw [← ra.length, ← rb.length]
    exact Nat.le_trans hz big_line
  · subst e
    have e2 : xs = [] := by
      have := ra.length
      simpa using this
    subst e2
    exact (h.now s) _ ⟨b, vb, rfl, hb, rb⟩
  · subst e
    have e2 : ys = [] := by
      have := rb.length
      simpa using this
    subst e2
    rw [List.append_nil] at h
    exact (h.now s) _ ⟨a, va, rfl, ha, ra⟩
  · have e := Ext.laid (ρ := ρ) (o := .frz o (.tup (va ++ vb))) hq
    exact h _ _ e (s.laid hq) _ ⟨q, va ++ vb, rfl, .inl ⟨o, upd_same, hd⟩, (RVs.ext s e _ _ ra).append (RVs.ext s e _ _ rb)⟩
theorem op_bin (o : BOp) : OpR X (binaryOp (opName o)) (rdOp L X.K W (binop o)) := by
  intro pins s σ H x y v u Q I rx ry h
  obtain ⟨ρ, st, σ', p, q, sm, rp, rq, h⟩ := h
  cases o with
  | add =>
    cases p <;> cases q <;> simp only [binop] at h <;> try exact h.elim
    · obtain rfl : x = V.int _ := rp
      obtain rfl : y = V.int _ := rq
      exact op_add pins s σ H _ _ v u Q I rx ry ⟨_, _, rfl, rfl, h.now sm _ rfl⟩
    · split at h
      · rename_i hz
        obtain ⟨a, va, rfl, ha, ra⟩ := rp
        obtain ⟨b, vb, rfl, hb, rb⟩ := rq
        exact op_catF pins s σ H _ _ v u Q I rx ry (catA_ok sm ha hb ra rb h hz)
      · exact h.elim
    · split at h
      · rename_i xs ys e1 e2
        split at h
        · rename_i hz
          obtain ⟨a, rfl, ha⟩ := rp
          obtain ⟨b, rfl, hb⟩ := rq
          obtain ⟨va, h1, ra⟩ := sm.obj _ _ a e1 ha
          obtain ⟨vb, h2, rb⟩ := sm.obj _ _ b e2 hb
          refine op_cat pins s σ H _ _ v u Q I rx ry ⟨a, b, va, vb, rfl, rfl, h1, h2, ?_, fun l hl => ?_⟩
          · rw [← ra.length, ← rb.length]
            exact Nat.le_trans hz big_line
          · obtain ⟨h3, h4⟩ := h.newO sm (o := .lst (va ++ vb)) hl ⟨_, upd_same, (RVs.ext sm (Ext.new sm hl) _ _ ra).append (RVs.ext sm (Ext.new sm hl) _ _ rb)⟩
            exact h3 _ h4
        · exact h.elim
      · exact h.elim
  | sub =>
    cases p <;> cases q <;> simp only [binop] at h <;> try exact h.elim
    obtain rfl : x = V.int _ := rp
    obtain rfl : y = V.int _ := rq
    exact op_sub pins s σ H _ _ v u Q I rx ry ⟨_, _, rfl, rfl, h.now sm _ rfl⟩
  | mul =>
    cases p <;> cases q <;> simp only [binop] at h <;> try exact h.elim
    · split at h
      · rename_i hm
        obtain rfl : x = V.int _ := rp
        obtain rfl : y = V.int _ := rq
        refine op_mul pins s σ H _ _ v u Q I rx ry ⟨_, _, rfl, rfl, ?_, h.now sm _ rfl⟩
        unfold mulOk at hm
        simp only [Bool.or_eq_true, Bool.and_eq_true, decide_eq_true_eq] at hm
        exact hm
      · exact h.elim
    · split at h
      · rename_i xs e1
        split at h
        · rename_i hz
          obtain ⟨a, rfl, ha⟩ := rp
          obtain rfl : y = V.int _ := rq
          obtain ⟨va, h1, ra⟩ := sm.obj _ _ a e1 ha
          refine op_rep pins s σ H _ _ v u Q I rx ry ⟨a, _, va, rfl, rfl, h1, by omega, by omega, ?_, fun l hl => ?_⟩
          · rw [← ra.length]
            exact Nat.le_trans hz.2.2 big_line
          · obtain ⟨h3, h4⟩ := h.newO sm (o := .lst _) hl ⟨_, upd_same, RVs.flatRep (RVs.ext sm (Ext.new sm hl) _ _ ra) _⟩
            exact h3 _ h4
        · exact h.elim
      · exact h.elim
  | fdiv =>
    cases p <;> cases q <;> simp only [binop] at h <;> try exact h.elim
    split at h
    · rename_i hm
      obtain rfl : x = V.int _ := rp
      obtain rfl : y = V.int _ := rq
      exact op_fdiv pins s σ H _ _ v u Q I rx ry ⟨_, _, rfl, rfl, hm, h.now sm _ rfl⟩
    · exact h.elim
  | mod =>
    cases p <;> cases q <;> simp only [binop] at h <;> try exact h.elim
    split at h
    · rename_i hm
      obtain rfl : x = V.int _ := rp
      obtain rfl : y = V.int _ := rq
      exact op_mod pins s σ H _ _ v u Q I rx ry ⟨_, _, rfl, rfl, hm, h.now sm _ rfl⟩
    · exact h.elim
  | pow =>
    cases p <;> cases q <;> simp only [binop] at h <;> try exact h.elim
    split at h
    · rename_i hm
      obtain rfl : x = V.int _ := rp
      obtain rfl : y = V.int _ := rq
      exact op_pow pins s σ H _ _ v u Q I rx ry ⟨_, _, rfl, rfl, hm, h.now sm _ rfl⟩
    · exact h.elim
end
end Rf
end
section
set_option Elab.async false
set_option linter.all false
set_option maxRecDepth 100000
set_option maxHeartbeats 1000000
/-! Rf5: comparisons, items, slices, tests, built-ins, methods. -/
namespace Rf
open PySem PySem.Spec PyProof.Rows L2
/-! ### keys -/
theorem nats_iff : ∀ (a b : List Nat), nats a b = true ↔ a = b
  | [], [] => by simp [nats]
  | [], _ :: _ => by simp [nats]
  | _ :: _, [] => by simp [nats]
  | a :: r, b :: s => by
    simp only [nats, Bool.and_eq_true, Nat.beq_eq, nats_iff r s, List.cons.injEq]
theorem strB_iff (x y : Str) : strB x y = true ↔ x = y := by
  unfold strB
  rw [nats_iff]
  constructor
  · intro h
    cases x; cases y
    simp only [Str.mk.injEq]
    exact Array.toList_inj.mp h
  · rintro rfl; rfl
theorem strB_dec (x y : Str) : strB x y = decide (x = y) := by
  by_cases h : x = y
  · rw [decide_eq_true h, (strB_iff x y).mpr h]
  · rw [decide_eq_false h]
    cases q : strB x y with
    | false => rfl
    | true => exact absurd ((strB_iff x y).mp q) h
theorem pk_of {x : PV} (h : keyOk x = true) : ∃ k, pk x = some k := by
  cases x <;> simp_all [keyOk, pk]
theorem pk_beq {x y : PV} {k j : Key} (h : pk x = some k) (h' : pk y = some j) : PV.beq x y = decide (k = j) := by
  cases x <;> simp only [pk, Option.some.injEq, reduceCtorEq] at h <;> cases y <;> simp only [pk, Option.some.injEq, reduceCtorEq] at h'
  · subst h h'
    simp only [PV.beq, Sum.inl.injEq]
  · subst h h'
    simp only [PV.beq, reduceCtorEq, decide_false]
  · subst h h'
    simp only [PV.beq, reduceCtorEq, decide_false]
  · subst h h'
    simp only [PV.beq, Sum.inr.injEq]
    exact strB_dec _ _
section
variable {L : Lk} {K : PySem.W.Frag} {ρ ρ' ρ1 : List Addr} {H H' H1 : Hp} {st : Sto} {W : WX} {σ : List (Option V)}
theorem RV.key {x : PV} {v : V} {k : Key} (h : pk x = some k) (r : RV K ρ H x v) : v = kV k := by
  cases x <;> simp only [pk, Option.some.injEq, reduceCtorEq] at h
  · subst h; exact r
  · subst h; exact r.1
theorem RKs.length : ∀ {kvs : List (PV × PV)} {ks : List (Key × V)}, RKs K ρ H kvs ks → kvs.length = ks.length
  | [], _, h => by rw [h]; rfl
  | p :: r, _, h => by
    obtain ⟨k, u, us, rfl, _, _, _, h4⟩ := h
    rw [List.length_cons, List.length_cons, RKs.length h4]
theorem RKs.look : ∀ {kvs : List (PV × PV)} {ks : List (Key × V)} {x : PV} {k : Key}, RKs K ρ H kvs ks → pk x = some k →
    (∃ v u, Rf.look kvs x = some v ∧ valV ks k = some u ∧ RV K ρ H v u) ∨ (Rf.look kvs x = none ∧ valV ks k = none)
  | [], _, x, k, h, _ => by rw [h]; exact .inr ⟨rfl, rfl⟩
  | p :: r, _, x, k, h, hk => by
    obtain ⟨j, u, us, rfl, h1, _, h3, h4⟩ := h
    have hb := pk_beq h1 hk
    unfold Rf.look
    by_cases e : j = k
    · rw [decide_eq_true e] at hb
      refine .inl ⟨p.2, u, ?_, valV_pos (p := (j, u)) e, h3⟩
      rw [List.find?_cons, hb]
      rfl
    · rw [decide_eq_false e] at hb
      rw [valV_neg (p := (j, u)) e, List.find?_cons, hb]
      exact RKs.look h4 hk
theorem RKs.any : ∀ {kvs : List (PV × PV)} {ks : List (Key × V)} {x : PV} {k : Key}, RKs K ρ H kvs ks → pk x = some k → (kvs.any fun p => PV.beq p.1 x) = (ks.any fun kv => decide (kv.1 = k))
  | [], _, x, k, h, _ => by rw [h]; rfl
  | p :: r, _, x, k, h, hk => by
    obtain ⟨j, u, us, rfl, h1, _, _, h4⟩ := h
    rw [List.any_cons, List.any_cons, pk_beq h1 hk, RKs.any h4 hk]
theorem RKs.mapv : ∀ {kvs : List (PV × PV)} {ks : List (Key × V)} {x v : PV} {k : Key} {u : V}, RKs K ρ H kvs ks → pk x = some k → RV K ρ H v u →
    RKs K ρ H (kvs.map fun p => if PV.beq p.1 x = true then (p.1, v) else p) (ks.map fun kv => if kv.1 = k then (kv.1, u) else kv)
  | [], _, _, _, _, _, h, _, _ => by rw [h]; rfl
  | p :: r, _, x, v, k, u, h, hk, hv => by
    obtain ⟨j, u', us, rfl, h1, h2, h3, h4⟩ := h
    rw [List.map_cons, List.map_cons, pk_beq h1 hk]
    by_cases e : j = k
    · subst e
      simp only [decide_true, if_true]
      exact ⟨j, u, _, rfl, h1, h2, hv, RKs.mapv h4 hk hv⟩
    · simp only [e, decide_false, Bool.false_eq_true, if_false]
      exact ⟨j, u', _, rfl, h1, h2, h3, RKs.mapv h4 hk hv⟩
theorem RKs.snoc : ∀ {kvs : List (PV × PV)} {ks : List (Key × V)} {x v : PV} {k : Key} {u : V}, RKs K ρ H kvs ks → pk x = some k → RV K ρ H x (kV k) → RV K ρ H v u → RKs K ρ H (kvs ++ [(x, v)]) (ks ++ [(k, u)])
  | [], _, _, _, k, u, h, hk, hx, hv => by rw [h]; exact ⟨k, u, [], rfl, hk, hx, hv, rfl⟩
  | p :: r, _, x, v, k, u, h, hk, hx, hv => by
    obtain ⟨j, u', us, rfl, h1, h2, h3, h4⟩ := h
    exact ⟨j, u', _, rfl, h1, h2, h3, RKs.snoc h4 hk hx hv⟩
theorem RKs.put {kvs : List (PV × PV)} {ks : List (Key × V)} {x v : PV} {k : Key} {u : V} (h : RKs K ρ H kvs ks) (hk : pk x = some k) (hx : RV K ρ H x (kV k)) (hv : RV K ρ H v u) : RKs K ρ H (Rf.put kvs x v) (putK ks k u) := by
  unfold Rf.put putK
  rw [h.any hk]
  split
  · exact h.mapv hk hv
  · exact h.snoc hk hx hv
theorem RKs.keys : ∀ {kvs : List (PV × PV)} {ks : List (Key × V)}, RKs K ρ H kvs ks → RVs K ρ H (kvs.map (·.1)) (ks.map fun kv => kV kv.1)
  | [], _, h => by rw [h]; rfl
  | p :: r, _, h => by
    obtain ⟨j, u', us, rfl, h1, h2, h3, h4⟩ := h
    exact ⟨kV j, _, rfl, h2, RKs.keys h4⟩
end
/-! ### comparisons -/
def coName : COp → CmpOp
  | .eq => .Eq | .ne => .NotEq | .lt => .Lt | .le => .LtE | .gt => .Gt | .ge => .GtE | .isN => .Is | .notN => .IsNot | .in_ => .In | .notIn => .NotIn
def rdCmp (L : Lk) (K : PySem.W.Frag) (f : PV → PV → Sto → Option Bool) : R2 := fun x y H Q =>
  ∃ (ρ : List Addr) (st : Sto) (v w : PV) (b : Bool), Sim L K ρ st H ∧ RV K ρ H v x ∧ RV K ρ H w y ∧ f v w st = some b ∧ Q (.bl b) H
section
variable {X : Cx} {L : Lk} {W : WX}
theorem lst_of {K : PySem.W.Frag} {ρ : List Addr} {H : Hp} {st : Sto} {v : PV} {x : V} {xs : List PV} (s : Sim L K ρ st H) (r : RV K ρ H v x) (h : seqOf st v = some xs) :
    ∃ a vs, x = .ref a ∧ RVs K ρ H xs vs ∧ (((∃ ys, v = .tup ys) ∧ SqT K H a vs) ∨ ((∀ ys, v ≠ .tup ys) ∧ SqL K H a vs)) := by
  cases v <;> simp only [seqOf, reduceCtorEq, Option.some.injEq] at h
  · subst h
    obtain ⟨a, vs, rfl, h1, h2⟩ := r
    exact ⟨a, vs, rfl, h2, .inl ⟨⟨_, rfl⟩, h1.sq⟩⟩
  · subst h
    obtain ⟨a, vs, rfl, h1, h2⟩ := r
    exact ⟨a, vs, rfl, h2, .inr ⟨(fun _ e => nomatch e), h1.sq⟩⟩
  · split at h
    · rename_i ys e
      simp only [Option.some.injEq] at h
      subst h
      obtain ⟨a, rfl, ha⟩ := r
      obtain ⟨vs, h1, h2⟩ := s.obj _ _ a e ha
      exact ⟨a, vs, rfl, h2, .inr ⟨(fun _ e => nomatch e), SqL.of h1⟩⟩
    · cases h
theorem op_within (hu : X.A.units + 70 < cLine) (neg : Bool) : OpR X (compareOp (if neg then .NotIn else .In)) (rdCmp L X.K fun x y st => (within x y st).map fun b => if neg then !b else b) := by
  intro pins s σ H x y v u Q I rx ry h
  obtain ⟨ρ, st, p, q, b, sm, rp, rq, h, hQ⟩ := h
  simp only [Option.map_eq_some_iff] at h
  obtain ⟨b', h, rfl⟩ := h
  have seq : ∀ (ys : List PV) (a : Addr) (vs : List V), y = .ref a → RVs X.K ρ H ys vs → (do let d ← toD st 60 p; let ds ← ys.mapM (toD st 60); return ds.any fun e => PyData.eqv e d) = some b' →
      (SqT X.K H a vs ∨ SqL X.K H a vs) → wpAny (model X.prog X.w) X.A (compareOp (if neg then .NotIn else .In) v u) (EP X pins σ Q) X.xe s := by
    intro ys a vs ey rv hh hs
    simp only [Option.bind_eq_bind, Option.bind_eq_some_iff, Option.pure_def, Option.some.injEq] at hh
    obtain ⟨d, hd, ds, hds, rfl⟩ := hh
    obtain ⟨a1, a2, a3⟩ := dp_of sm 60 p d x hd rp
    obtain ⟨b1, b2, b3⟩ := dpAll_of sm 60 ys ds vs hds rv
    have sd : SeqAt.shaped d = true := shaped_of a2 (by omega)
    subst ey
    rcases hs with hs | hs
    · have se : SeqAt.shaped (.tuple ds) = true := shaped_of (by simp only [PyData.canLay0]; exact b2) (by simp only [PyData.depth]; omega)
      cases neg with
      | false => exact op_inTD (by omega) pins s σ H x _ v u Q I rx ry ⟨d, ds, a1, .tup hs b1, sd, se, hQ⟩
      | true => exact op_notInTD (by omega) pins s σ H x _ v u Q I rx ry ⟨d, ds, a1, .tup hs b1, sd, se, hQ⟩
    · have se : SeqAt.shaped (.list ds) = true := shaped_of (by simp only [PyData.canLay0]; exact b2) (by simp only [PyData.depth]; omega)
      cases neg with
      | false => exact op_inD (by omega) pins s σ H x _ v u Q I rx ry ⟨d, ds, a1, .lst hs b1, sd, se, hQ⟩
      | true => exact op_notInD (by omega) pins s σ H x _ v u Q I rx ry ⟨d, ds, a1, .lst hs b1, sd, se, hQ⟩
  cases q <;> simp only [within, reduceCtorEq] at h
  · obtain ⟨a, vs, rfl, h1, h2⟩ := rq
    exact seq _ a vs rfl h2 h (.inl h1.sq)
  · obtain ⟨a, vs, rfl, h1, h2⟩ := rq
    exact seq _ a vs rfl h2 h (.inr h1.sq)
  · obtain ⟨a, rfl, ha⟩ := rq
    split at h
    · rename_i ys e
      obtain ⟨vs, h1, h2⟩ := sm.obj _ _ a e ha
      exact seq _ a vs rfl h2 h (.inr (SqL.of h1))
    · rename_i lk kvs e
      split at h
      · rename_i hk
        simp only [Option.some.injEq] at h
        subst h
        obtain ⟨k, hk⟩ := pk_of hk
        obtain ⟨ks, h1, h2⟩ := sm.obj _ _ a e ha
        have rd : Rd H a (.dK ks) := by
          cases lk with
          | true => simp only [if_true] at h2; exact .inr h2
          | false => simp only [Bool.false_eq_true, if_false] at h2; exact .inl h2
        have g : DGet H a x (valV ks k) := .inl ⟨ks, k, rd, RV.key hk rp, rfl⟩
        have es : (Rf.look kvs p).isSome = (valV ks k).isSome := by
          rcases h1.look hk with ⟨v, u, e1, e2, _⟩ | ⟨e1, e2⟩ <;> rw [e1, e2] <;> rfl
        obtain rfl : u = Value.ref a := ry
        cases neg with
        | false => exact d_in (by omega) I g rx fun s3 I3 => ⟨.bl _, H, I3, rfl, by rw [← es]; exact hQ⟩
        | true => exact d_notIn (by omega) I g rx fun s3 I3 => ⟨.bl _, H, I3, rfl, by rw [← es]; exact hQ⟩
      · cases h
    · cases h
theorem op_cmp (hu : X.A.units + 70 < cLine) (o : COp) : OpR X (compareOp (coName o)) (rdCmp L X.K (cmpop o)) := by
  have hI : ∀ (o : COp) (p : Int → Int → Bool), (∀ i j st, cmpop o (.int i) (.int j) st = some (p i j)) → (∀ x y st b, cmpop o x y st = some b → (∃ i j, x = .int i ∧ y = .int j)) →
      OpR X (compareOp (coName o)) (rI0 fun i j => .bl (p i j)) → OpR X (compareOp (coName o)) (rdCmp L X.K (cmpop o)) := by
    intro o p h1 h2 op pins s σ H x y v u Q I rx ry h
    obtain ⟨ρ, st, a, b, c, sm, rp, rq, h, hQ⟩ := h
    obtain ⟨i, j, rfl, rfl⟩ := h2 _ _ _ _ h
    rw [h1] at h
    obtain rfl := Option.some.inj h
    exact op pins s σ H x y v u Q I rx ry ⟨i, j, rp, rq, hQ⟩
  cases o with
  | eq =>
    intro pins s σ H x y v u Q I rx ry h
    obtain ⟨ρ, st, p, q, b, sm, rp, rq, h, hQ⟩ := h
    simp only [cmpop, eqD, Option.bind_eq_bind, Option.bind_eq_some_iff, Option.pure_def, Option.some.injEq] at h
    obtain ⟨d, hd, e, he, rfl⟩ := h
    obtain ⟨a1, a2, a3⟩ := dp_of sm 60 p d x hd rp
    obtain ⟨b1, b2, b3⟩ := dp_of sm 60 q e y he rq
    exact op_eqD (by omega) pins s σ H x y v u Q I rx ry ⟨d, e, a1, b1, shaped_of a2 (by omega), shaped_of b2 (by omega), hQ⟩
  | ne =>
    intro pins s σ H x y v u Q I rx ry h
    obtain ⟨ρ, st, p, q, b, sm, rp, rq, h, hQ⟩ := h
    simp only [cmpop, eqD, Option.bind_eq_bind, Option.bind_eq_some_iff, Option.pure_def, Option.some.injEq, Option.map_eq_some_iff] at h
    obtain ⟨b', ⟨d, hd, e, he, rfl⟩, rfl⟩ := h
    obtain ⟨a1, a2, a3⟩ := dp_of sm 60 p d x hd rp
    obtain ⟨b1, b2, b3⟩ := dp_of sm 60 q e y he rq
    exact op_neD (by omega) pins s σ H x y v u Q I rx ry ⟨d, e, a1, b1, shaped_of a2 (by omega), shaped_of b2 (by omega), hQ⟩
  | lt => exact hI .lt (fun i j => decide (i < j)) (fun _ _ _ => rfl) (fun x y st b h => by cases x <;> cases y <;> simp [cmpop] at h; exact ⟨_, _, rfl, rfl⟩) op_lt
  | le => exact hI .le (fun i j => decide (i ≤ j)) (fun _ _ _ => rfl) (fun x y st b h => by cases x <;> cases y <;> simp [cmpop] at h; exact ⟨_, _, rfl, rfl⟩) op_le
  | gt => exact hI .gt (fun i j => decide (j < i)) (fun _ _ _ => rfl) (fun x y st b h => by cases x <;> cases y <;> simp [cmpop] at h; exact ⟨_, _, rfl, rfl⟩) op_gt
  | ge => exact hI .ge (fun i j => decide (j ≤ i)) (fun _ _ _ => rfl) (fun x y st b h => by cases x <;> cases y <;> simp [cmpop] at h; exact ⟨_, _, rfl, rfl⟩) op_ge
  | isN =>
    intro pins s σ H x y v u Q I rx ry h
    obtain ⟨ρ, st, p, q, b, sm, rp, rq, h, hQ⟩ := h
    cases q <;> simp only [cmpop, reduceCtorEq, Option.some.injEq] at h
    obtain rfl : y = V.non := rq
    refine op_isN pins s σ H x _ v u Q I rx ry ⟨rfl, ?_⟩
    have e : decide (x = V.non) = b := by
      subst h
      cases p
      · rw [show x = V.non from rp]; rfl
      · rw [show x = V.bl _ from rp]; rfl
      · rw [show x = V.int _ from rp]; rfl
      · rw [rp.1]; rfl
      · obtain ⟨a, vs, rfl, _⟩ := rp; rfl
      · obtain ⟨a, vs, rfl, _⟩ := rp; rfl
      · obtain ⟨a, rfl, _⟩ := rp; rfl
    rw [e]
    exact hQ
  | notN =>
    intro pins s σ H x y v u Q I rx ry h
    obtain ⟨ρ, st, p, q, b, sm, rp, rq, h, hQ⟩ := h
    cases q <;> simp only [cmpop, reduceCtorEq, Option.some.injEq] at h
    obtain rfl : y = V.non := rq
    refine op_notN pins s σ H x _ v u Q I rx ry ⟨rfl, ?_⟩
    have e : (!decide (x = V.non)) = b := by
      subst h
      cases p
      · rw [show x = V.non from rp]; rfl
      · rw [show x = V.bl _ from rp]; rfl
      · rw [show x = V.int _ from rp]; rfl
      · rw [rp.1]; rfl
      · obtain ⟨a, vs, rfl, _⟩ := rp; rfl
      · obtain ⟨a, vs, rfl, _⟩ := rp; rfl
      · obtain ⟨a, rfl, _⟩ := rp; rfl
    rw [e]
    exact hQ
  | in_ =>
    have h := op_within (X := X) (L := L) hu false
    simp only [Bool.false_eq_true, if_false] at h
    intro pins s σ H x y v u Q I rx ry ⟨ρ, st, p, q, b, sm, rp, rq, hh, hQ⟩
    exact h pins s σ H x y v u Q I rx ry ⟨ρ, st, p, q, b, sm, rp, rq, by simpa [cmpop] using hh, hQ⟩
  | notIn =>
    have h := op_within (X := X) (L := L) hu true
    simp only [if_true] at h
    intro pins s σ H x y v u Q I rx ry ⟨ρ, st, p, q, b, sm, rp, rq, hh, hQ⟩
    exact h pins s σ H x y v u Q I rx ry ⟨ρ, st, p, q, b, sm, rp, rq, by simpa [cmpop] using hh, hQ⟩
/-! ### items -/
theorem ixOf_eq (n : Nat) (i : Int) : ixOf n i = ixN n i := by
  unfold ixOf ixN
  by_cases h : 0 ≤ i
  · rw [if_pos h, if_pos h]
    by_cases h2 : i < n
    · rw [if_pos h2, if_pos (by omega)]
    · rw [if_neg h2, if_neg (by omega)]
  · rw [if_neg h, if_neg h]
    by_cases h2 : -(n : Int) ≤ i
    · rw [if_pos h2, if_pos (by omega)]
    · rw [if_neg h2, if_neg (by omega)]
theorem RVs.atI {K : PySem.W.Frag} {ρ : List Addr} {H : Hp} {xs : List PV} {vs : List V} {i : Int} {x : PV} (h : RVs K ρ H xs vs) (e : Rf.atI xs i = some x) : ∃ v, L2.atI vs i = some v ∧ RV K ρ H x v := by
  unfold Rf.atI at e
  unfold L2.atI
  rw [ixOf_eq] at e
  rw [← h.length]
  simp only [Option.bind_eq_some_iff] at e ⊢
  obtain ⟨j, hj, e⟩ := e
  obtain ⟨v, e1, e2⟩ := h.get e
  exact ⟨v, ⟨j, hj, e1⟩, e2⟩
/-- an item of a dict, by the subscript's own road -/
theorem ix_dict (hu : X.A.units + 1 < cLine) : IxR X (fun x y H Q => ∃ a v, x = .ref a ∧ DGet H a y (some v) ∧ Q v H) := by
  intro value slice pins s σ H x y v u Q I rx ry h hs
  obtain ⟨a, z, rfl, g, q⟩ := h
  obtain rfl : v = Value.ref a := rx
  have hT := dict_typeIs I g
  unfold subscriptTail
  refine wpAny_bind ?_
  rw [getitemInPython_of_ne hT.not_modules]
  refine wpAny_bind (wpAny_specialOf hT PySem.F.slot_dict_getitem.lookup ?_)
  have fin : wpAny (model X.prog X.w) X.A (subscripted slice false (.ref a) u) (fun r s₃ => wpAny (model X.prog X.w) X.A (letTemporaryGo value (.ref a) r >>= fun _ => pure r) (EP X pins σ Q) X.xe s₃) X.xe s := by
    rw [hs]
    exact wpAny_operating (d_getItem hu I g ry fun w' s3 I3 rw' => wpAny_bind (wpAny_letTemporaryGo (wpAny_pure ⟨z, H, I3, rw', q⟩)))
  first
    | exact wpAny_pure (wpAny_bind fin)
    | exact wpAny_bind (wpAny_pure (wpAny_bind fin))
    | exact wpAny_bind fin
def rdItem (L : Lk) (K : PySem.W.Frag) : R2 := fun x y H Q =>
  ∃ (ρ : List Addr) (st : Sto) (v w z : PV), Sim L K ρ st H ∧ RV K ρ H v x ∧ RV K ρ H w y ∧ item v w st = some z ∧ ∀ u, RV K ρ H z u → Q u H
theorem ix_item (hu : X.A.units + 1 < cLine) : IxR X (rdItem L X.K) := by
  intro value slice pins s σ H x y v u Q I rx ry h hs
  obtain ⟨ρ, st, p, q, z, sm, rp, rq, h, hQ⟩ := h
  cases p <;> simp only [item, reduceCtorEq] at h
  · cases q <;> simp only [reduceCtorEq] at h
    obtain ⟨a, vs, rfl, h1, h2⟩ := rp
    obtain ⟨w, e1, e2⟩ := h2.atI h
    exact ix_tup value slice pins s σ H _ y v u Q I rx ry ⟨a, vs, _, w, rfl, rq, h1.sq, e1, hQ w e2⟩ hs
  · cases q <;> simp only [reduceCtorEq] at h
    obtain ⟨a, vs, rfl, h1, h2⟩ := rp
    obtain ⟨w, e1, e2⟩ := h2.atI h
    exact ix_list value slice pins s σ H _ y v u Q I rx ry ⟨a, vs, _, w, rfl, rq, h1.sq, e1, hQ w e2⟩ hs
  · obtain ⟨a, rfl, ha⟩ := rp
    split at h
    · rename_i xs i e
      obtain ⟨vs, h1, h2⟩ := sm.obj _ _ a e ha
      obtain ⟨w, e1, e2⟩ := h2.atI h
      exact ix_list value slice pins s σ H _ y v u Q I rx ry ⟨a, vs, _, w, rfl, rq, SqL.of h1, e1, hQ w e2⟩ hs
    · rename_i lk kvs e
      split at h
      · rename_i hk
        obtain ⟨k, hk⟩ := pk_of hk
        obtain ⟨ks, h1, h2⟩ := sm.obj _ _ a (by assumption) ha
        have rd : Rd H a (.dK ks) := by
          cases lk with
          | true => simp only [if_true] at h2; exact .inr h2
          | false => simp only [Bool.false_eq_true, if_false] at h2; exact .inl h2
        rcases h1.look hk with ⟨v', u', e1, e2, r⟩ | ⟨e1, _⟩
        · rw [e1] at h
          obtain rfl := Option.some.inj h
          exact ix_dict hu value slice pins s σ H _ y v u Q I rx ry ⟨a, u', rfl, .inl ⟨ks, k, rd, RV.key hk rq, e2.symm⟩, hQ u' r⟩ hs
        · rw [e1] at h; cases h
      · cases h
    · cases h
/-! ### slices -/
theorem clamp_eq (n d : Nat) (o : Option Int) : clamp n d o = HT.sIx n d o := by
  cases o with
  | none => rfl
  | some i =>
    show (if 0 ≤ i then min i.toNat n else (i + n).toNat) = if i < 0 then (i + (n : Int)).toNat else min i.toNat n
    by_cases h : 0 ≤ i
    · rw [if_pos h, if_neg (by omega)]
    · rw [if_neg h, if_pos (by omega)]
theorem cut_eq (vs : List V) (lo hi : Option Int) : Rf.cut vs lo hi = cutV vs lo hi := by
  unfold Rf.cut cutV
  rw [clamp_eq, clamp_eq]
theorem RVs.cutV {K : PySem.W.Frag} {ρ : List Addr} {H : Hp} {xs : List PV} {vs : List V} (lo hi : Option Int) (h : RVs K ρ H xs vs) : RVs K ρ H (Rf.cut xs lo hi) (L2.cutV vs lo hi) := by
  rw [← cut_eq]
  exact h.cut lo hi
theorem cut_whole {xs : List V} {lo hi : Option Int} (h : HT.sIx xs.length 0 lo = 0 ∧ HT.sIx xs.length xs.length hi = xs.length) : L2.cutV xs lo hi = xs := by
  unfold L2.cutV
  rw [h.1, h.2]
  simp
def rdSl (L : Lk) (K : PySem.W.Frag) (W : WX) : V → Option Int → Option Int → Hp → VK → Prop := fun x lo hi H Q =>
  ∃ (ρ : List Addr) (st : Sto) (σ : List (Option V)) (v : PV), Sim L K ρ st H ∧ RV K ρ H v x ∧ okR L K W ρ H σ (sliceOf v lo hi st) (vQ K Q)
def rSlF (K : PySem.W.Frag) : V → Option Int → Option Int → Hp → VK → Prop := fun x lo hi H Q => ∃ a xs, x = .ref a ∧ SqT K H a xs ∧
  (HT.sIx xs.length 0 lo = 0 ∧ HT.sIx xs.length xs.length hi = xs.length → Q (.ref a) H) ∧ ∀ o p, o.dict = none → H p = none → Q (.ref p) (upd H p (.frz o (.tup (cutV xs lo hi))))
theorem sl_tupF : SlR X (rSlF X.K) := by
  intro pins s σ H x v vl vu lo hi sl Q I rx hs pl pu h
  obtain ⟨a, xs, rfl, hx, q1, q2⟩ := h
  cases rx
  obtain ⟨its, r, ht, hz⟩ := I.tuple hx
  have hlen : its.toArray.size = xs.length := r.length.symm
  refine ⟨"tuple", _, PyProof.Rows.slot_tuple_getitem.lookup, ht.typeIs, ?_⟩
  by_cases hw : HT.sIx xs.length 0 lo = 0 ∧ HT.sIx xs.length xs.length hi = xs.length
  · exact getItem_tuple_whole ht hs pl pu (hlen.symm ▸ hw) ⟨.ref a, H, I, rfl, q1 hw⟩
  · refine HT.getItem_tuple_cut ht hs pl pu (hlen.symm ▸ hw) ?_ (hlen.symm ▸ hz)
    rw [hlen]
    have hn := I.hok.fresh (Nat.le_refl s.heap.objs.size)
    refine ⟨.ref s.heap.objs.size, _, I.laid (t' := s.toks) (o := .frz _ (.tup (cutV xs lo hi))) (fun b ob q => Heap.get?_push_of_some _ q) (Nat.le_refl _) ⟨Heap.get?_push_size _ rfl, ?_⟩, rfl, q2 _ _ rfl hn⟩
    exact ⟨Nat.le_trans (cutV_length xs lo hi) hz, _, (r.drop _).take _, IsTup.new _ _⟩
theorem sl_any : SlR X (rdSl L X.K W) := by
  intro pins s σ H x v vl vu lo hi sl Q I rx hs pl pu h
  obtain ⟨ρ, st, σ', p, sm, rp, h⟩ := h
  have lst : ∀ (xs : List PV) (a : Addr) (vs : List V), x = .ref a → SqL X.K H a vs → RVs X.K ρ H xs vs → okR L X.K W ρ H σ' (newO id st (.lst (Rf.cut xs lo hi))) (vQ X.K Q) →
      ∃ T id, typeLookup (.type T) "__getitem__" = pure (some (.builtin id)) ∧ s.TypeIs v T ∧ wpAny (model X.prog X.w) X.A (getItem v (.ref sl)) (EP X pins σ Q) X.xe s := by
    intro xs a vs ex h1 h2 h
    subst ex
    refine sl_list pins s σ H _ v vl vu lo hi sl Q I rx hs pl pu ⟨a, vs, rfl, h1, fun q hq => ?_⟩
    obtain ⟨h3, h4⟩ := h.newO sm (o := .lst (cutV vs lo hi)) hq ⟨_, upd_same, RVs.cutV lo hi (RVs.ext sm (Ext.new sm hq) _ _ h2)⟩
    exact h3 _ h4
  unfold sliceOf at h
  cases p <;> simp only at h <;> try exact h.elim
  · obtain ⟨a, vs, rfl, h1, h2⟩ := rp
    refine sl_tupF pins s σ H _ v vl vu lo hi sl Q I rx hs pl pu ⟨a, vs, rfl, h1.sq, fun hw => ?_, fun o q ho hq => ?_⟩
    · have r := RVs.cutV lo hi h2
      rw [cut_whole hw] at r
      exact (h.now sm) _ ⟨a, vs, rfl, h1, r⟩
    · have e := Ext.laid (ρ := ρ) (o := .frz o (.tup (cutV vs lo hi))) ‹H q = none›
      exact h _ _ e (sm.laid ‹H q = none›) _ ⟨q, _, rfl, .inl ⟨o, upd_same, ho⟩, RVs.ext sm e _ _ (RVs.cutV lo hi h2)⟩
  · obtain ⟨a, vs, rfl, h1, h2⟩ := rp
    exact lst _ a vs rfl h1.sq h2 h
  · split at h
    · rename_i xs e
      obtain ⟨a, rfl, ha⟩ := rp
      obtain ⟨vs, h1, h2⟩ := sm.obj _ _ a e ha
      exact lst _ a vs rfl (SqL.of h1) h2 h
    · exact h.elim
/-! ### truth -/
theorem tru_of {K : PySem.W.Frag} {ρ : List Addr} {H : Hp} {st : Sto} {p : PV} {x : V} {b : Bool} (sm : Sim L K ρ st H) (r : RV K ρ H p x) (h : truthy p st = some b) : TruV K x H b := by
  cases p <;> simp only [Rf.truthy, reduceCtorEq, Option.some.injEq] at h
  · rw [show x = V.non from r]; exact h.symm
  · rw [show x = V.bl _ from r]; exact h.symm
  · rw [show x = V.int _ from r]
    show b = (_ != 0)
    rw [← h]
    exact (Bool.eq_iff_iff.mpr (by simp))
  · obtain ⟨a, vs, rfl, h1, h2⟩ := r
    refine .inr (.inl ⟨vs, h1.sq, ?_⟩)
    rw [← h]
    have := h2.length
    cases vs <;> cases ‹List PV› <;> simp_all
  · obtain ⟨a, vs, rfl, h1, h2⟩ := r
    refine .inl ⟨vs, h1.sq, ?_⟩
    rw [← h]
    have := h2.length
    cases vs <;> cases ‹List PV› <;> simp_all
  · obtain ⟨a, rfl, ha⟩ := r
    split at h
    · rename_i xs e
      obtain ⟨vs, h1, h2⟩ := sm.obj _ _ a e ha
      refine .inl ⟨vs, SqL.of h1, ?_⟩
      simp only [Option.some.injEq] at h
      rw [← h]
      have := h2.length
      cases vs <;> cases xs <;> simp_all
    · rename_i kvs e
      obtain ⟨ks, h1, h2⟩ := sm.obj _ _ a e ha
      simp only [Bool.false_eq_true, if_false] at h2
      refine .inr (.inr ⟨ks, h2, ?_⟩)
      simp only [Option.some.injEq] at h
      rw [← h]
      have := h1.length
      cases ks <;> cases kvs <;> simp_all
    · cases h
end
end Rf
end
section
set_option Elab.async false
set_option linter.all false
set_option maxRecDepth 100000
set_option maxHeartbeats 1000000
/-! Rf6: built-ins and methods. -/
namespace Rf
open PySem PySem.Spec PyProof.Rows L2
/-! ### what is sorted is one list -/
theorem insI_perm (a : Int) : ∀ l : List Int, (insI a l).Perm (a :: l)
  | [] => List.Perm.refl _
  | b :: r => by
    unfold insI
    split
    · exact List.Perm.refl _
    · exact ((insI_perm a r).cons b).trans (List.Perm.swap a b r)
theorem sortI_perm : ∀ l : List Int, (sortI l).Perm l
  | [] => List.Perm.refl _
  | a :: r => (insI_perm a _).trans ((sortI_perm r).cons a)
theorem insI_mem {a x : Int} {l : List Int} : x ∈ insI a l ↔ x = a ∨ x ∈ l := by rw [(insI_perm a l).mem_iff, List.mem_cons]
theorem insI_asc (a : Int) : ∀ l : List Int, l.Pairwise (· ≤ ·) → (insI a l).Pairwise (· ≤ ·)
  | [], _ => List.pairwise_singleton _ _
  | b :: r, h => by
    unfold insI
    obtain ⟨h1, h2⟩ := List.pairwise_cons.mp h
    split
    · rename_i hab
      refine List.pairwise_cons.mpr ⟨fun y hy => ?_, h⟩
      rcases List.mem_cons.mp hy with rfl | hy
      · exact hab
      · exact Int.le_trans hab (h1 y hy)
    · rename_i hab
      refine List.pairwise_cons.mpr ⟨fun y hy => ?_, insI_asc a r h2⟩
      rcases insI_mem.mp hy with rfl | hy
      · omega
      · exact h1 y hy
theorem sortI_asc : ∀ l : List Int, (sortI l).Pairwise (· ≤ ·)
  | [] => List.Pairwise.nil
  | a :: r => insI_asc a _ (sortI_asc r)
theorem asc_same : ∀ {l m : List Int}, l.Perm m → l.Pairwise (· ≤ ·) → m.Pairwise (· ≤ ·) → l = m
  | [], m, p, _, _ => (List.nil_perm.mp p).symm
  | a :: l, [], p, _, _ => absurd p.length_eq (by simp)
  | a :: l, b :: m, p, h, g => by
    obtain ⟨h1, h2⟩ := List.pairwise_cons.mp h
    obtain ⟨g1, g2⟩ := List.pairwise_cons.mp g
    have ha : b ≤ a := by
      rcases List.mem_cons.mp (p.mem_iff.mp List.mem_cons_self) with e | e
      · omega
      · exact g1 a e
    have hb : a ≤ b := by
      rcases List.mem_cons.mp (p.mem_iff.mpr List.mem_cons_self) with e | e
      · omega
      · exact h1 b e
    have e : a = b := by omega
    subst e
    rw [asc_same (List.perm_cons a |>.mp p) h2 g2]
theorem sort_same {ys ns : List Int} (p : ys.Perm ns) (h : ys.Pairwise (· ≤ ·)) : ys = sortI ns := asc_same (p.trans (sortI_perm ns).symm) h (sortI_asc ns)
theorem dedup_mem : ∀ (n : Nat) {l : List Int} {x : Int}, l.length ≤ n → (x ∈ dedup l ↔ x ∈ l)
  | _, [], x, _ => by simp [dedup]
  | _, [a], x, _ => by simp [dedup]
  | 0, a :: b :: r, x, h => by simp at h
  | n + 1, a :: b :: r, x, h => by
    unfold dedup
    have ih := dedup_mem n (l := b :: r) (x := x) (by simpa using h)
    split
    · rename_i e
      subst e
      rw [ih]
      simp
    · rw [List.mem_cons, ih, List.mem_cons (l := b :: r)]
theorem dedup_lt : ∀ (n : Nat) {l : List Int}, l.length ≤ n → l.Pairwise (· ≤ ·) → (dedup l).Pairwise (· < ·)
  | _, [], _, _ => by simp [dedup]
  | _, [a], _, _ => by simp [dedup]
  | 0, a :: b :: r, h, _ => by simp at h
  | n + 1, a :: b :: r, h, g => by
    unfold dedup
    obtain ⟨g1, g2⟩ := List.pairwise_cons.mp g
    have ih := dedup_lt n (l := b :: r) (by simpa using h) g2
    split
    · exact ih
    · rename_i e
      refine List.pairwise_cons.mpr ⟨fun y hy => ?_, ih⟩
      have hy := (dedup_mem n (by simpa using h)).mp hy
      obtain ⟨g3, _⟩ := List.pairwise_cons.mp g2
      have h1 := g1 b List.mem_cons_self
      rcases List.mem_cons.mp hy with rfl | hy
      · omega
      · have := g3 y hy
        omega
theorem strict_same : ∀ {l m : List Int}, (∀ x, x ∈ l ↔ x ∈ m) → l.Pairwise (· < ·) → m.Pairwise (· < ·) → l = m
  | [], [], _, _, _ => rfl
  | [], b :: m, p, _, _ => absurd ((p b).mpr List.mem_cons_self) (by simp)
  | a :: l, [], p, _, _ => absurd ((p a).mp List.mem_cons_self) (by simp)
  | a :: l, b :: m, p, h, g => by
    obtain ⟨h1, h2⟩ := List.pairwise_cons.mp h
    obtain ⟨g1, g2⟩ := List.pairwise_cons.mp g
    have ha : b ≤ a := by
      rcases List.mem_cons.mp ((p a).mp List.mem_cons_self) with e | e
      · omega
      · have := g1 a e; omega
    have hb : a ≤ b := by
      rcases List.mem_cons.mp ((p b).mpr List.mem_cons_self) with e | e
      · omega
      · have := h1 b e; omega
    have e : a = b := by omega
    subst e
    rw [strict_same (fun x => ?_) h2 g2]
    constructor
    · intro hx
      rcases List.mem_cons.mp ((p x).mp (List.mem_cons_of_mem _ hx)) with e | e
      · have := h1 x hx; omega
      · exact e
    · intro hx
      rcases List.mem_cons.mp ((p x).mpr (List.mem_cons_of_mem _ hx)) with e | e
      · have := g1 x hx; omega
      · exact e
theorem set_same {ys ns : List Int} (p : ∀ x, x ∈ ys ↔ x ∈ ns) (h : ys.Pairwise (· < ·)) : ys = dedup (sortI ns) :=
  strict_same (fun x => by rw [p x, dedup_mem _ (Nat.le_refl _), (sortI_perm ns).mem_iff]) h (dedup_lt _ (Nat.le_refl _) (sortI_asc ns))
theorem foldl_max : ∀ (l : List Int) (a : Int), l.foldl max a ∈ a :: l ∧ ∀ y ∈ a :: l, y ≤ l.foldl max a
  | [], a => ⟨by simp, fun y hy => by simp at hy; subst hy; exact Int.le_refl _⟩
  | b :: r, a => by
    obtain ⟨h1, h2⟩ := foldl_max r (max a b)
    rw [List.foldl_cons]
    refine ⟨?_, fun y hy => ?_⟩
    · rcases List.mem_cons.mp h1 with e | e
      · rw [e]
        rcases Int.le_total a b with h | h
        · rw [Int.max_eq_right h]; simp
        · rw [Int.max_eq_left h]; simp
      · simp [e]
    · have h3 := h2 (max a b) List.mem_cons_self
      rcases List.mem_cons.mp hy with rfl | hy
      · exact Int.le_trans (Int.le_max_left _ _) h3
      · rcases List.mem_cons.mp hy with rfl | hy
        · exact Int.le_trans (Int.le_max_right _ _) h3
        · exact h2 y (List.mem_cons_of_mem _ hy)
theorem foldl_min : ∀ (l : List Int) (a : Int), l.foldl min a ∈ a :: l ∧ ∀ y ∈ a :: l, l.foldl min a ≤ y
  | [], a => ⟨by simp, fun y hy => by simp at hy; subst hy; exact Int.le_refl _⟩
  | b :: r, a => by
    obtain ⟨h1, h2⟩ := foldl_min r (min a b)
    rw [List.foldl_cons]
    refine ⟨?_, fun y hy => ?_⟩
    · rcases List.mem_cons.mp h1 with e | e
      · rw [e]
        rcases Int.le_total a b with h | h
        · rw [Int.min_eq_left h]; simp
        · rw [Int.min_eq_right h]; simp
      · simp [e]
    · have h3 := h2 (min a b) List.mem_cons_self
      rcases List.mem_cons.mp hy with rfl | hy
      · exact Int.le_trans h3 (Int.min_le_left _ _)
      · rcases List.mem_cons.mp hy with rfl | hy
        · exact Int.le_trans h3 (Int.min_le_right _ _)
        · exact h2 y (List.mem_cons_of_mem _ hy)
theorem max_same {m : Int} {ns : List Int} {n : Int} (h : m ∈ n :: ns) (h' : ∀ y ∈ n :: ns, y ≤ m) : m = ns.foldl max n := by
  obtain ⟨h1, h2⟩ := foldl_max ns n
  have := h' _ h1
  have := h2 _ h
  omega
theorem min_same {m : Int} {ns : List Int} {n : Int} (h : m ∈ n :: ns) (h' : ∀ y ∈ n :: ns, m ≤ y) : m = ns.foldl min n := by
  obtain ⟨h1, h2⟩ := foldl_min ns n
  have := h' _ h1
  have := h2 _ h
  omega
/-! ### built-ins -/
def blVal : Bl → Value
  | .abs => .builtin "abs" | .int => .type "int" | .len => .builtin "len" | .max2 => .builtin "max" | .min2 => .builtin "min" | .list => .type "list" | .tuple => .type "tuple"
  | .sum => .builtin "sum" | .max => .builtin "max" | .min => .builtin "min" | .sorted => .builtin "sorted" | .all => .builtin "all" | .any => .builtin "any" | .dict => .type "dict"
  | .sortset => .none | .str => .type "str"
/-- what a built-in makes of what is held -/
def rdSeq (L : Lk) (K : PySem.W.Frag) (W : WX) (b : Bl) (t : Bool) : List V → Hp → VK → Prop := fun args H Q =>
  ∃ (ρ : List Addr) (st : Sto) (σ : List (Option V)) (xs : List PV) (a : Addr) (vs : List V), args = [.ref a] ∧ Sim L K ρ st H ∧ RVs K ρ H xs vs ∧ (if t = true then SqF K H a vs else SqL K H a vs) ∧ okR L K W ρ H σ (blSeq b t xs st) (vQ K Q)
def rdBl (L : Lk) (K : PySem.W.Frag) (W : WX) (b : Bl) : List V → Hp → VK → Prop := fun args H Q =>
  ∃ (ρ : List Addr) (st : Sto) (σ : List (Option V)) (vs : List PV), Sim L K ρ st H ∧ RVs K ρ H vs args ∧ okR L K W ρ H σ (blOf b vs st) (vQ K Q)
theorem Paired.ofSq {K : PySem.W.Frag} {ρ : List Addr} {H : Hp} : ∀ {xs : List PV} {ps : List (PV × PV)} {vs : List V}, Rf.pairsOf xs = some ps → RVs K ρ H xs vs →
    ∃ (as : List Addr) (ks : List (Key × V)), vs = as.map V.ref ∧ Paired (fun p kv => SqT K H p [kV kv.1, kv.2]) as ks ∧ RKs K ρ H ps ks
  | [], ps, vs, h, r => by
    simp only [pairsOf, Option.some.injEq] at h
    subst h
    exact ⟨[], [], r, .nil, rfl⟩
  | x :: xs, ps, vs, h, r => by
    unfold pairsOf at h
    split at h
    · rename_i e; cases e
    · rename_i k v r' e
      cases e
      split at h
      · rename_i hk
        simp only [Option.map_eq_some_iff] at h
        obtain ⟨l, h1, rfl⟩ := h
        obtain ⟨u, us, rfl, ⟨a, w, rfl, ht, hr⟩, r2⟩ := r
        obtain ⟨as, ks, rfl, h3, h4⟩ := Paired.ofSq h1 r2
        obtain ⟨u1, w1, rfl, q1, ⟨u2, w2, rfl, q2, rfl⟩⟩ := hr
        obtain ⟨kk, hk⟩ := pk_of hk
        have e1 := RV.key hk q1
        subst e1
        exact ⟨a :: as, (kk, u2) :: ks, rfl, .cons ht.sq h3, kk, u2, ks, rfl, hk, q1, q2, h4⟩
      · cases h
    · cases h
theorem RKs.merge {K : PySem.W.Frag} {ρ : List Addr} {H : Hp} : ∀ {ps kvs : List (PV × PV)} {qs ks : List (Key × V)}, RKs K ρ H kvs ks → RKs K ρ H ps qs → RKs K ρ H (Rf.merge kvs ps) (mergeK ks qs)
  | [], kvs, qs, ks, h, h' => by rw [show qs = [] from h']; exact h
  | p :: ps, kvs, qs, ks, h, h' => by
    obtain ⟨k, u, us, rfl, h1, h2, h3, h4⟩ := h'
    show RKs K ρ H (Rf.merge (Rf.put kvs p.1 p.2) ps) (mergeK (putK ks k u) us)
    exact RKs.merge (h.put h1 h2 h3) h4
section
variable {X : Cx} {L : Lk} {W : WX}
/-- tuple(l), known as it lies -/
theorem call_tupleF : CallR X (.type "tuple") (fun xs H Q => ∃ p ys, xs = [.ref p] ∧ SqL X.K H p ys ∧ ∀ l o, o.dict = none → H l = none → Q (.ref l) (upd H l (.frz o (.tup ys)))) := by
  intro pins s σ H xs us Q I r h
  obtain ⟨p, ys, rfl, hq, q⟩ := h
  obtain ⟨u, rfl, rx⟩ := vals1 r
  cases rx
  obtain ⟨its, r', pl, hz⟩ := I.list hq
  have hlen := r'.length
  refine call_tuple_list pl.isList (fun h' kp => ?_) (by simp only [List.size_toArray] <;> omega)
  have I1 : Inv X pins σ H { s with heap := h' } := I.kept (t' := s.toks) kp
  have hn := I1.hok.fresh (Nat.le_refl h'.objs.size)
  refine ⟨.ref h'.objs.size, _, I1.laid (t' := s.toks) (o := .frz _ (.tup ys)) (fun b o e => Heap.get?_push_of_some _ e) (Nat.le_refl _) ⟨Heap.get?_push_size _ rfl, ?_⟩, rfl, q _ _ rfl hn⟩
  exact ⟨hz, its, r', IsTup.new _ _⟩
theorem cr_seq (hc : X.calm = true) (b : Bl) (hb : b ≠ .sortset) (hd : b ≠ .dict) (t : Bool) : CallR X (blVal b) (rdSeq L X.K W b t) := by
  intro pins s σ H args us Q I r h
  obtain ⟨ρ, st, σ', xs, a, vs, rfl, sm, rv, sq, h⟩ := h
  have either : SqL X.K H a vs ∨ SqT X.K H a vs := by
    cases t with
    | true => exact .inr (SqF.sq sq)
    | false => exact .inl sq
  have intsL : ∀ {ns : List Int}, Rf.pints xs = some ns → vs = ns.map V.int := fun e => RVs.pints (K := X.K) (ρ := ρ) (H := H) (by rw [← ints_eq e]; exact rv)
  have boolsL : ∀ {ns : List Bool}, Rf.bools xs = some ns → vs = ns.map V.bl := fun e => RVs.bools (K := X.K) (ρ := ρ) (H := H) (by rw [← bools_eq e]; exact rv)
  cases b <;> cases t <;> simp only [blSeq, ne_eq, not_true_eq_false, reduceCtorEq, not_false_eq_true] at h hb hd <;> try exact h.elim
  case len.false => exact call_len_seq pins s σ H _ us Q I r ⟨a, vs, rfl, either, by rw [← rv.length]; exact h.now sm _ rfl⟩
  case len.true => exact call_len_seq pins s σ H _ us Q I r ⟨a, vs, rfl, either, by rw [← rv.length]; exact h.now sm _ rfl⟩
  case list.false | list.true =>
    refine call_list_of pins s σ H _ us Q I r ⟨a, vs, rfl, either, fun l hl => ?_⟩
    obtain ⟨h3, h4⟩ := h.newO sm (o := .lst vs) hl ⟨_, upd_same, RVs.ext sm (Ext.new sm hl) _ _ rv⟩
    exact h3 _ h4
  case tuple.false =>
    refine call_tupleF pins s σ H _ us Q I r ⟨a, vs, rfl, sq, fun l o hd hl => ?_⟩
    have e := Ext.laid (ρ := ρ) (o := .frz o (.tup vs)) hl
    exact h _ _ e (sm.laid hl) _ ⟨l, vs, rfl, .inl ⟨o, upd_same, hd⟩, RVs.ext sm e _ _ rv⟩
  case tuple.true =>
    exact call_tuple_of pins s σ H _ us Q I r ⟨a, vs, rfl, .inr ⟨sq.sq, h.now sm _ ⟨a, vs, rfl, sq, rv⟩⟩⟩
  case sum.false =>
    split at h
    · rename_i ns e
      exact cr_sum hc pins s σ H _ us Q I r ⟨a, ns, rfl, by rw [← intsL e]; exact sq, h.now sm _ rfl⟩
    · exact h.elim
  case all.false =>
    split at h
    · rename_i ns e
      exact cr_all hc pins s σ H _ us Q I r ⟨a, ns, rfl, by rw [← boolsL e]; exact sq, h.now sm _ rfl⟩
    · exact h.elim
  case any.false =>
    split at h
    · rename_i ns e
      exact cr_any hc pins s σ H _ us Q I r ⟨a, ns, rfl, by rw [← boolsL e]; exact sq, h.now sm _ rfl⟩
    · exact h.elim
  case max.false =>
    split at h
    · rename_i n ns e
      refine cr_max hc pins s σ H _ us Q I r ⟨a, n :: ns, rfl, by rw [← intsL e]; exact sq, by simp, fun m hm hy => ?_⟩
      rw [max_same hm hy]
      exact h.now sm _ rfl
    · exact h.elim
  case min.false =>
    split at h
    · rename_i n ns e
      refine cr_min hc pins s σ H _ us Q I r ⟨a, n :: ns, rfl, by rw [← intsL e]; exact sq, by simp, fun m hm hy => ?_⟩
      rw [min_same hm hy]
      exact h.now sm _ rfl
    · exact h.elim
  case sorted.false =>
    split at h
    · rename_i ns e
      split at h
      · rename_i h64
        refine cr_sorted pins s σ H _ us Q I r ⟨a, ns, rfl, by rw [← intsL e]; exact sq, h64, fun ys p hp hs hn => ?_⟩
        rw [sort_same hp hs]
        obtain ⟨h3, h4⟩ := h.newO sm (o := .lst ((sortI ns).map V.int)) hn ⟨_, upd_same, RVs.ofInts _⟩
        exact h3 _ h4
      · exact h.elim
    · exact h.elim
theorem cr_dictL (hc : X.calm = true) : CallR X (.type "dict") (rdSeq L X.K W .dict false) := by
  intro pins s σ H args us Q I r h
  obtain ⟨ρ, st, σ', xs, a, vs, rfl, sm, rv, sq, h⟩ := h
  simp only [blSeq] at h
  split at h
  · rename_i ps e
    obtain ⟨as, ks, rfl, h3, h4⟩ := Paired.ofSq e rv
    refine call_dictP hc pins s σ H _ us Q I r ⟨a, as, ks, rfl, sq, h3, fun p hp => ?_⟩
    obtain ⟨h5, h6⟩ := h.newO sm (o := .dK (mergeK [] ks)) hp ⟨_, RKs.merge rfl (RKs.ext sm (Ext.new sm hp) _ _ h4), by simpa using upd_same⟩
    exact h5 _ h6
  · exact h.elim
end
end Rf
end
section
set_option Elab.async false
set_option linter.all false
set_option maxRecDepth 100000
set_option maxHeartbeats 1000000
/-! Rf7: dict of a tuple, sets that are sorted, isinstance, methods. -/
namespace Rf
open PySem PySem.Spec PyProof.Rows L2
section
variable {X : Cx} {L : Lk} {W : WX}
theorem dict_of_tup {pins : List (Addr × Obj)} {σ : L2.St} {H : Hp} {s : Shared} {E : Value → Shared → Prop} {a : Addr} {o : Obj} {its : Array Value} {n : Nat} {as : List Addr} {ks : List (Key × V)} {Q : VK} (hc : X.calm = true) (I : Inv X pins σ H s)
    (ho : s.heap.get? a = some o) (hcl : o.cls = .type "tuple") (hd : o.dict = none) (hdat : o.data = .seq its n) (rv : Vals (as.map V.ref) its.toList) (hz : as.length ≤ sizeLine) (hp : Paired (fun p kv => SqT X.K H p [kV kv.1, kv.2]) as ks)
    (q : ∀ p, H p = none → Q (.ref p) (upd H p (.dK (mergeK [] ks)))) : wpAny (model X.prog X.w) X.A (call (.type "dict") [.ref a]) (EP X pins σ Q) E s := by
  obtain ⟨prs, rel, hl, hpr⟩ := pairs_of I hp
  have ei := refs_at rv
  obtain ⟨ps, hps⟩ : ∃ ps : List (Value × Value), ps.length = prs.length ∧ ∀ (j : Nat) (q : Key × Value), prs[j]? = some q → ∃ u, ps[j]? = some (u, q.2) ∧ (mixKind X.prog X.w).is q.1 u = true ∧ ∃ b, as[j]? = some b ∧ IsTup s.heap b #[u, q.2] := by
    clear rel q
    suffices h : ∀ (l : List (Key × Value)) (i : Nat), (∀ (j : Nat) (q : Key × Value), l[j]? = some q → ∃ (b : Addr) (u : Value), as[i + j]? = some b ∧ IsTup s.heap b #[u, q.2] ∧ keyIs q.1 u = true) →
        ∃ ps : List (Value × Value), ps.length = l.length ∧ ∀ (j : Nat) (q : Key × Value), l[j]? = some q → ∃ u, ps[j]? = some (u, q.2) ∧ (mixKind X.prog X.w).is q.1 u = true ∧ ∃ b, as[i + j]? = some b ∧ IsTup s.heap b #[u, q.2] by
      obtain ⟨ps, h1, h2⟩ := h prs 0 (by simpa using hpr)
      exact ⟨ps, h1, by simpa using h2⟩
    intro l
    induction l with
    | nil => exact fun i _ => ⟨[], rfl, fun j q e => by simp at e⟩
    | cons p l ih =>
      intro i h
      obtain ⟨b, u, e1, e2, e3⟩ := h 0 p rfl
      obtain ⟨ps, h1, h2⟩ := ih (i + 1) fun j q e => by
        obtain ⟨b, u, z1, z2, z3⟩ := h (j + 1) q (by simpa using e)
        exact ⟨b, u, by rw [show i + 1 + j = i + (j + 1) by omega]; exact z1, z2, z3⟩
      refine ⟨(u, p.2) :: ps, by simp [h1], fun j q e => ?_⟩
      cases j with
      | zero =>
        have e' : p = q := Option.some.inj e
        subst e'
        exact ⟨u, rfl, e3, b, e1, e2⟩
      | succ j =>
        obtain ⟨u', y1, y2, b', y3, y4⟩ := h2 j q (by simpa using e)
        exact ⟨u', by simpa using y1, y2, b', by rw [show i + (j + 1) = i + 1 + j by omega]; exact y3, y4⟩
  obtain ⟨hps, hat⟩ := hps
  have hsz : its.size = ps.length := by
    rw [hps, hl, ← Array.length_toList, ei, List.length_map]
  refine PySem.call_dict_pairs (knd := mixKind X.prog X.w) (kvs := prs) (PairArg.tuple a its (fun j => as.getD j 0) ps) (I.ok.hd hc) ⟨⟨o, n, ho, hcl, hd, hdat⟩, hsz, fun j k v e => ?_⟩ ⟨hps.symm, fun i key v e => ?_⟩ (by rw [hps, hl]; exact hz) fun h' tk hd' k => ?_
  · obtain ⟨qk, hq⟩ : ∃ q, prs[j]? = some q := ⟨prs[j]'(by have := (List.getElem?_eq_some_iff.mp e).1; omega), List.getElem?_eq_getElem _⟩
    obtain ⟨u, y1, y2, b, y3, y4⟩ := hat j qk hq
    rw [y1] at e
    cases e
    refine ⟨?_, .inl ?_⟩
    · rw [← Array.getElem?_toList, ei, List.getElem?_map, y3]
      simp [List.getD_eq_getElem?_getD, y3]
    · show s.heap.IsTuple (as.getD j 0) _
      rw [List.getD_eq_getElem?_getD, y3]
      exact y4
  · obtain ⟨qk, hq⟩ : ∃ q, prs[i]? = some q := ⟨prs[i]'(by have := (List.getElem?_eq_some_iff.mp e).1; omega), List.getElem?_eq_getElem _⟩
    obtain ⟨u, y1, y2, _⟩ := hat i qk hq
    have e' : ps[i]? = some (key, v) := e
    rw [y1] at e'
    cases e'
    exact ⟨qk.1, hq, y2⟩
  · have hm : (s.heap.objs.size == sysModules) = false := beq_eq_false_iff_ne.mpr (Nat.ne_of_gt I.big)
    have hlen : (mergeK [] ks).length ≤ sizeLine := by
      refine Nat.le_trans (length_mergeK ks []) ?_
      rw [List.length_nil, Nat.zero_add, rel.length, hl]
      exact hz
    have hn := I.hok.fresh (Nat.le_refl s.heap.objs.size)
    refine ⟨.ref s.heap.objs.size, _, I.laid (t' := tk) (o := .dK (mergeK [] ks)) (fun b o e => k b o (by simp) e) (Nat.le_refl _) ⟨hlen, hm, merged [] prs, KV.merge rel .nil, hd'⟩, rfl, q _ hn⟩
theorem SqF.at_ {pins : List (Addr × Obj)} {σ : L2.St} {H : Hp} {s : Shared} {a : Addr} {vs : List V} (I : Inv X pins σ H s) (h : SqF X.K H a vs) :
    ∃ (o : Obj) (its : Array Value) (n : Nat), s.heap.get? a = some o ∧ o.cls = .type "tuple" ∧ o.dict = none ∧ o.data = .seq its n ∧ Vals vs its.toList ∧ vs.length ≤ sizeLine := by
  rcases h with ⟨o, h, hd⟩ | ⟨o, its, n, h1, h2, hd, h3, h4, h5⟩
  · obtain ⟨e1, hz, its, r, o', e2, hc, n, hdat⟩ := (show ObjOk X.prog X.w H s.heap a (.frz o (.tup vs)) from I.hok a _ h)
    rw [e1] at e2
    cases e2
    exact ⟨o, its.toArray, n, e1, hc, hd, hdat, r, hz⟩
  · exact ⟨o, its, n, I.kIn a o h1, h2, hd, h3, h5, by rw [h5.length, Array.length_toList]; exact h4⟩
theorem cr_dictT (hc : X.calm = true) : CallR X (.type "dict") (rdSeq L X.K W .dict true) := by
  intro pins s σ H args us Q I r h
  obtain ⟨ρ, st, σ', xs, a, vs, rfl, sm, rv, sq, h⟩ := h
  simp only [blSeq] at h
  split at h
  · rename_i ps e
    obtain ⟨as, ks, rfl, h3, h4⟩ := Paired.ofSq e rv
    obtain ⟨u, rfl, rx⟩ := vals1 r
    cases rx
    obtain ⟨o, its, n, e1, e2, e3, e4, rr, hz⟩ := SqF.at_ I sq
    refine dict_of_tup hc I e1 e2 e3 e4 rr (by simpa using hz) h3 fun p hp => ?_
    obtain ⟨h5, h6⟩ := h.newO sm (o := .dK (mergeK [] ks)) hp ⟨_, RKs.merge rfl (RKs.ext sm (Ext.new sm hp) _ _ h4), by simpa using upd_same⟩
    exact h5 _ h6
  · exact h.elim
theorem keys_int : ∀ {ks : List (Key × V)} {ns : List Int}, (ks.map fun kv => kV kv.1) = ns.map V.int → ks.map (fun x => x.1) = ns.map Sum.inl
  | [], [], _ => rfl
  | [], _ :: _, h => by simp at h
  | _ :: _, [], h => by simp at h
  | (k, v) :: ks, n :: ns, h => by
    simp only [List.map_cons, List.cons.injEq] at h ⊢
    refine ⟨?_, keys_int h.2⟩
    cases k with
    | inl i => cases h.1; rfl
    | inr x => cases h.1
/-! ### the call of a built-in -/
theorem cr_bl (hc : X.calm = true) (b : Bl) (hb : b ≠ .sortset) : CallR X (blVal b) (rdBl L X.K W b) := by
  intro pins s σ H args us Q I r h
  obtain ⟨ρ, st, σ', vs, sm, rv, h⟩ := h
  have seq : ∀ (t : Bool), rdSeq L X.K W b t args H Q → wpAny (model X.prog X.w) X.A (call (blVal b) us) (EP X pins σ Q) X.xe s := by
    intro t h
    by_cases hd : b = .dict
    · subst hd
      cases t with
      | true => exact cr_dictT hc pins s σ H _ us Q I r h
      | false => exact cr_dictL hc pins s σ H _ us Q I r h
    · exact cr_seq hc b hb hd t pins s σ H _ us Q I r h
  unfold blOf at h
  split at h
  · obtain ⟨u, us', rfl, r1, rfl⟩ := rv
    obtain rfl : u = V.int _ := r1
    exact call_abs pins s σ H _ us Q I r ⟨_, rfl, h.now sm _ rfl⟩
  · obtain ⟨u, us', rfl, r1, rfl⟩ := rv
    obtain rfl : u = V.int _ := r1
    exact call_int1 pins s σ H _ us Q I r (.inl ⟨_, rfl, h.now sm _ rfl⟩)
  · obtain ⟨u, us', rfl, r1, rfl⟩ := rv
    obtain rfl : u = V.bl _ := r1
    exact call_int1 pins s σ H _ us Q I r (.inr ⟨_, rfl, h.now sm _ rfl⟩)
  · obtain ⟨u, us', rfl, r1, u', us'', rfl, r2, rfl⟩ := rv
    obtain rfl : u = V.int _ := r1
    obtain rfl : u' = V.int _ := r2
    exact call_max2 hc pins s σ H _ us Q I r ⟨_, _, rfl, h.now sm _ rfl⟩
  · obtain ⟨u, us', rfl, r1, u', us'', rfl, r2, rfl⟩ := rv
    obtain rfl : u = V.int _ := r1
    obtain rfl : u' = V.int _ := r2
    exact call_min2 hc pins s σ H _ us Q I r ⟨_, _, rfl, h.now sm _ rfl⟩
  · obtain ⟨u, us', rfl, ⟨a, vs, rfl, h1, h2⟩, rfl⟩ := rv
    exact seq true ⟨ρ, st, σ', _, a, vs, rfl, sm, h2, h1, h⟩
  · obtain ⟨u, us', rfl, ⟨a, vs, rfl, h1, h2⟩, rfl⟩ := rv
    exact seq false ⟨ρ, st, σ', _, a, vs, rfl, sm, h2, h1.sq, h⟩
  · obtain ⟨u, us', rfl, ⟨a, rfl, ha⟩, rfl⟩ := rv
    split at h
    · rename_i xs e
      obtain ⟨vs, h1, h2⟩ := sm.obj _ _ a e ha
      exact seq false ⟨ρ, st, σ', _, a, vs, rfl, sm, h2, SqL.of h1, h⟩
    · rename_i lk kvs e
      obtain ⟨ks, h1, h2⟩ := sm.obj _ _ a e ha
      split at h
      · cases lk with
        | true => exact h.elim
        | false =>
          simp only [Bool.false_eq_true, if_false] at h2 h
          refine call_list_dK hc pins s σ H _ us Q I r ⟨a, ks, rfl, h2, fun q hq => ?_⟩
          obtain ⟨h5, h6⟩ := h.newO sm (o := .lst _) hq ⟨_, upd_same, RVs.ext sm (Ext.new sm hq) _ _ h1.keys⟩
          exact h5 _ h6
      · cases lk with
        | true => exact h.elim
        | false =>
          simp only [Bool.false_eq_true, if_false] at h2 h
          refine call_lenD pins s σ H _ us Q I r ⟨a, ks, rfl, h2, ?_⟩
          rw [← h1.length]
          exact h.now sm _ rfl
      · split at h
        · rename_i ns e2
          split at h
          · rename_i h64
            have rd : Rd H a (.dK ks) := by
              cases lk with
              | true => simp only [if_true] at h2; exact .inr h2
              | false => simp only [Bool.false_eq_true, if_false] at h2; exact .inl h2
            have e3 : ks.map (fun x => x.1) = ns.map Sum.inl := by
              have r3 := h1.keys
              rw [ints_eq e2] at r3
              exact keys_int r3.pints
            refine call_sortedDI hc pins s σ H _ us Q I r ⟨a, ks, ns, rfl, rd, e3, h64, fun ys p hp hs hn => ?_⟩
            rw [sort_same hp hs]
            obtain ⟨h5, h6⟩ := h.newO sm (o := .lst ((sortI ns).map V.int)) hn ⟨_, upd_same, RVs.ofInts _⟩
            exact h5 _ h6
          · exact h.elim
        · exact h.elim
      · exact h.elim
    · exact h.elim
  · exact h.elim
end
end Rf
end
section
set_option Elab.async false
set_option linter.all false
set_option maxRecDepth 100000
set_option maxHeartbeats 3200000
/-! Rf8: sorted(set(xs)) of pints. -/
namespace Rf
open PySem PySem.Spec PyProof.Rows L2
/-- a set without anything -/
abbrev es0 (w : World) : Obj :=
  { cls := .type "set", dict := none
    data := .set #[] 0 (.fresh 0 0 (!w.params.followText "set-order")) }
section
variable {P : Program} {w : World} {A : Around} {E : Value → Shared → Prop} {s : Shared}
theorem set_listI {l : Addr} {items : Array Value} (ns : List Int) {Q : Value → Shared → Prop} (hA : A.handled = none) (hL : s.heap.IsList l items)
    (hi : IntsAre items.toList ns) (hb : ns.length + 1 < scanBound)
    (fin : ∀ (h' : Heap) (tk c : Nat), SetR w h' s.heap.objs.size (fun j => decide (j ∈ ns)) c → c ≤ ns.length →
      (∀ b o, s.heap.get? b = some o → h'.get? b = some o) → Q (.ref s.heap.objs.size) { s with heap := h', toks := tk }) :
    wpAny (model P w) A (call (.type "set") [.ref l]) Q E s := by
  have hsz : items.size = ns.length := by
    have := hi.length
    rwa [Array.length_toList] at this
  obtain ⟨_, _, hmro⟩ := F.called_set.mro
  have m1 := F.called_set.made
  have m2 := F.called_set.sub
  refine wpAny_call (codeAny_of_tree (show wpAny _ _ (callAny (.type "set") _) _ _ _ from ?_))
  refine wpAny_pure ⟨?q, codeAny_builtin F.entry_type_call ?_⟩
  case q => exact Code.quiet_builtin _ (by decide +kernel)
  rw [Around.under_plain (weight_type_call_type "set" [.ref l] []) rfl]
  have m3 := F.called_set.notType
  have m4 := F.called_set.canCreate
  have m5 := F.typeCall_set_1 (.ref l)
  repeat (any_goals (first | assumption | wp_step))
  refine codeAny_mono (code_set_led1 (.ref l) (E := E) (Q₁ := fun obj s1 => obj = .ref s.heap.objs.size ∧
    s1 = { s with heap := s.heap.push (es0 w) }) ⟨rfl, rfl⟩) fun r s1 hr => ?_
  match r, hr with
  | .error e, hr => exact hr
  | .ok (.ret obj), hr =>
    obtain ⟨rfl, rfl⟩ := hr
    have g0 : (s.heap.push (es0 w)).get? s.heap.objs.size = some (es0 w) := Heap.get?_push_size _ rfl
    have hT : Shared.TypeIs { s with heap := s.heap.push (es0 w) } (.ref s.heap.objs.size) "set" := ⟨_, g0, rfl⟩
    have m6 := F.called_set.init.lookup
    have m7 := F.called_set.init.bind (.ref s.heap.objs.size)
    repeat (any_goals (first | assumption | wp_step))
    refine codeAny_mono (codeAny_call_builtin (R := wants (fun r s2 => r = .none ∧ ∃ h' tk c, s2 = { s with heap := h', toks := tk } ∧
        SetR w h' s.heap.objs.size (fun j => decide (j ∈ ns)) c ∧ c ≤ ns.length ∧ (∀ b o, s.heap.get? b = some o → h'.get? b = some o)) E)
      F.called_set.init.plain F.entry_set_init (check_set_init_1 hT ?_)) fun r2 s2 hr2 => ?_
    · obtain ⟨⟨c0, d0, dt, sl⟩, hol, hcl, nl, hdl⟩ := hL
      simp only at hcl hdl
      subst hcl hdl
      have hol' := Heap.get?_push_of_some (es0 w) hol
      have q1 := F.sub_list_set
      have q2 := F.sub_list_frozenset
      have q3 : (Value.type "list" == Value.type "dict") = false := by decide
      have hl1 : (s.heap.push (es0 w)).IsList l items := ⟨_, hol', rfl, nl, rfl⟩
      unfold Builtin.«set.__init__» noKeywords Builtin.Frozenset.updateFrom
      generalize hPI : pyIter = PI
      wp_walk
      subst hPI
      refine wpAny_pyIter_list hl1 (wpAny_bind (wpAny_runValue ?_))
      have hlS := Heap.lt_size hol
      have hh3 : A.in1.in1.in1.handled = none := by simp [hA]
      have hp1 : (s.heap.push (es0 w)).objs.size = s.heap.objs.size + 1 := Heap.size_push ..
      have lt1 : s.heap.objs.size < (s.heap.push (es0 w)).objs.size := hp1 ▸ Nat.lt_succ_self _
      have hne : l ≠ (s.heap.push (es0 w)).objs.size := Nat.ne_of_lt (Nat.lt_trans hlS lt1)
      have hSf : s.heap.objs.size ∉ [(s.heap.push (es0 w)).objs.size, l] := by
        simp only [List.mem_cons, List.not_mem_nil, or_false, not_or]
        exact ⟨Nat.ne_of_lt lt1, Nat.ne_of_gt hlS⟩
      have hval : ∀ (i : Nat) (v : Value), items[i]? = some v → ∃ k t, ns[i]? = some k ∧ v = .int k t := fun i v hv => by
        have hi' : i < ns.length := hsz ▸ (Array.getElem?_eq_some_iff.mp hv).1
        obtain ⟨t, e⟩ := hi.int_at i v (by rw [Array.getElem?_toList]; exact hv)
        refine ⟨ns[i], t, List.getElem?_eq_getElem hi', ?_⟩
        rw [e, List.getD_eq_getElem?_getD, List.getElem?_eq_getElem hi']
        rfl
      refine set_update_ints ((Walks.list hh3 _ l hne items).toS) s.heap.objs.size hSf ns hsz hb hval (items.size - 0) 0 _ (by omega)
        (Nat.zero_le _) ⟨⟨_, Heap.get?_push_size _ rfl, rfl, rfl⟩, hl1.push _⟩ ⟨0, Nat.le_refl 0, setR_new_at (Heap.get?_push_of_some _ g0)⟩ ?_
      intro s3 c hm hc hS
      obtain ⟨h3, g3, d3, t3, o3⟩ := s3
      obtain rfl : g3 = s.gens := hm.gens
      obtain rfl : d3 = s.drawn := hm.drawn
      obtain rfl : o3 = s.os := hm.os
      show wpAny _ _ _ _ _ _
      refine wpAny_pure ?_
      show wpAny _ _ (ret Value.none) _ _ _
      rw [hsz] at hc
      refine wpAny_pure ⟨rfl, h3, t3, c, rfl, hS, hc, fun b o e => ?_⟩
      have hb0 := Heap.lt_size e
      refine hm.heap b o ?_ (Heap.get?_push_of_some _ (Heap.get?_push_of_some _ e))
      simp only [List.mem_cons, List.not_mem_nil, or_false, not_or]
      exact ⟨Nat.ne_of_lt hb0, Nat.ne_of_lt (Nat.lt_trans hb0 lt1)⟩
    · match r2, hr2 with
      | .error e, hr2 => exact hr2
      | .ok (.ret r), hr2 =>
        obtain ⟨rfl, h', tk, c, rfl, a1, a2, a3⟩ := hr2
        repeat (any_goals (first | assumption | wp_step))
        exact fin _ _ _ a1 a2 a3
end
section
variable {X : Cx} {L : Lk} {W : WX}
theorem nodup_few : ∀ {l m : List Int}, l.Nodup → (∀ x ∈ l, x ∈ m) → l.length ≤ m.length
  | [], _, _, _ => Nat.zero_le _
  | x :: l, m, hn, hs => by
    obtain ⟨h1, h2⟩ := List.nodup_cons.mp hn
    have hx : x ∈ m := hs x List.mem_cons_self
    have ih := nodup_few h2 (m := m.erase x) fun y hy => (List.mem_erase_of_ne (show y ≠ x from fun e => h1 (e ▸ hy))).2 (hs y (List.mem_cons_of_mem _ hy))
    have e := List.length_erase_of_mem hx
    have hp := List.length_pos_of_mem hx
    rw [List.length_cons]
    omega
/-- a set has no more members than different ones were given -/
theorem setR_few {w : World} {h : Heap} {a : Addr} {ns : List Int} {c : Nat} (R : SetR w h a (fun j => decide (j ∈ ns)) c) : c ≤ (dedup (sortI ns)).length := by
  obtain ⟨o, es, ep, t, _, _, _, _, nd, mem, _, _, hz, _⟩ := R
  have e : (es.toList.map keyOf).length = c := by rw [List.length_map, Array.length_toList, hz]
  rw [← e]
  refine nodup_few nd fun x hx => ?_
  rw [dedup_mem _ (Nat.le_refl _), (sortI_perm ns).mem_iff]
  exact of_decide_eq_true ((mem x).mpr hx)
def rSetI (K : PySem.W.Frag) (w : World) : List V → Hp → VK → Prop := fun xs H Q => ∃ (a : Addr) (ns : List Int), xs = [.ref a] ∧ (SqL K H a (ns.map V.int) ∨ SqT K H a (ns.map V.int)) ∧ ns.length < 1000 ∧
  ∀ (p : Addr) (n : Nat), H p = none → n ≤ (dedup (sortI ns)).length → Q (.ref p) (upd H p (SetO w p (fun j => decide (j ∈ ns)) n))
theorem cr_setI (hc : X.calm = true) : CallR X (.type "set") (rSetI X.K X.w) := by
  intro pins s σ H xs us Q I r h
  obtain ⟨a, ns, rfl, hq, hl, q⟩ := h
  obtain ⟨u, rfl, rx⟩ := vals1 r
  cases rx
  have hn := I.hok.fresh (Nat.le_refl s.heap.objs.size)
  have last : ∀ (h' : Heap) (tk c : Nat), SetR X.w h' s.heap.objs.size (fun j => decide (j ∈ ns)) c → c ≤ ns.length →
      (∀ b o, s.heap.get? b = some o → h'.get? b = some o) → EP X pins σ Q (.ref s.heap.objs.size) { s with heap := h', toks := tk } := fun h' tk c R hcn k =>
    ⟨.ref s.heap.objs.size, _, I.laid (t' := tk) k (Nat.le_refl _) (setO_new R), rfl, q _ c hn (setR_few R)⟩
  rcases hq with hq | hq
  · obtain ⟨its, rv, pl, _⟩ := I.list hq
    exact set_listI ns (I.ok.hd hc) pl.isList (ints_of_vals rv) (by unfold scanBound; omega) last
  · obtain ⟨its, rv, pl, _⟩ := I.tuple hq
    exact call_set_tupI ns (I.ok.hd hc) (show s.heap.IsTuple a its.toArray from pl) (ints_of_vals rv) (by unfold scanBound; omega) last
end
end Rf
end
section
set_option Elab.async false
set_option linter.all false
set_option maxRecDepth 100000
set_option maxHeartbeats 1000000
/-! Rf9: expressions without walks: what is evaluated is what the layer has. -/
namespace Rf
open PySem PySem.Spec PyProof.Rows L2
/-! ### readings -/
def rdE (L : Lk) (K : PySem.W.Frag) (W : WX) (f : Loc → Sto → R PV) : TE := fun σ H Q => ∃ ρ st σp, Sim L K ρ st H ∧ RLo K ρ H σp σ ∧ okR L K W ρ H σ (f σp st) (vQ K Q)
def rdT (L : Lk) (K : PySem.W.Frag) (W : WX) (f : Loc → Sto → R Bool) : TT := fun σ H Q => ∃ ρ st σp, Sim L K ρ st H ∧ RLo K ρ H σp σ ∧ okR L K W ρ H σ (f σp st) fun b _ _ H' => Q b H'
def aQ (K : PySem.W.Frag) (Q : List V → Hp → Prop) : List PV → Sto → List Addr → Hp → Prop := fun vs _ ρ' H' => ∀ xs, RVs K ρ' H' vs xs → Q xs H'
def rdA (L : Lk) (K : PySem.W.Frag) (W : WX) (f : Loc → Sto → R (List PV)) : TA := fun σ H Q => ∃ ρ st σp, Sim L K ρ st H ∧ RLo K ρ H σp σ ∧ okR L K W ρ H σ (f σp st) (aQ K Q)
section
variable {L : Lk} {K : PySem.W.Frag} {W : WX} {ρ : List Addr} {st : Sto} {H : Hp} {σ : List (Option V)} {σp : Loc} {β : Type} {Φ : β → Sto → List Addr → Hp → Prop}
theorem rdE.step {f : Loc → Sto → R PV} {g : PV → Sto → R β} {Q : VK} (s : Sim L K ρ st H) (l : RLo K ρ H σp σ) (h : okR L K W ρ H σ ((f σp st).bind g) Φ)
    (k : ∀ v st1 ρ1 H1 x, Ext ρ H ρ1 H1 → Sim L K ρ1 st1 H1 → RLo K ρ1 H1 σp σ → RV K ρ1 H1 v x → okR L K W ρ1 H1 σ (g v st1) Φ → Q x H1) : rdE L K W f σ H Q :=
  ⟨ρ, st, σp, s, l, okR.mono h.bind fun v st1 ρ1 H1 e1 s1 h1 x r => k v st1 ρ1 H1 x e1 s1 (RLo.ext s e1 _ _ l) r h1⟩
theorem rdT.step {f : Loc → Sto → R Bool} {g : Bool → Sto → R β} {Q : Bool → Hp → Prop} (s : Sim L K ρ st H) (l : RLo K ρ H σp σ) (h : okR L K W ρ H σ ((f σp st).bind g) Φ)
    (k : ∀ v st1 ρ1 H1, Ext ρ H ρ1 H1 → Sim L K ρ1 st1 H1 → RLo K ρ1 H1 σp σ → okR L K W ρ1 H1 σ (g v st1) Φ → Q v H1) : rdT L K W f σ H Q :=
  ⟨ρ, st, σp, s, l, okR.mono h.bind fun v st1 ρ1 H1 e1 s1 h1 => k v st1 ρ1 H1 e1 s1 (RLo.ext s e1 _ _ l) h1⟩
theorem rdA.step {f : Loc → Sto → R (List PV)} {g : List PV → Sto → R β} {Q : List V → Hp → Prop} (s : Sim L K ρ st H) (l : RLo K ρ H σp σ) (h : okR L K W ρ H σ ((f σp st).bind g) Φ)
    (k : ∀ v st1 ρ1 H1 x, Ext ρ H ρ1 H1 → Sim L K ρ1 st1 H1 → RLo K ρ1 H1 σp σ → RVs K ρ1 H1 v x → okR L K W ρ1 H1 σ (g v st1) Φ → Q x H1) : rdA L K W f σ H Q :=
  ⟨ρ, st, σp, s, l, okR.mono h.bind fun v st1 ρ1 H1 e1 s1 h1 x r => k v st1 ρ1 H1 x e1 s1 (RLo.ext s e1 _ _ l) r h1⟩
end
theorem okR.assoc {L : Lk} {K : PySem.W.Frag} {W : WX} {ρ : List Addr} {H : Hp} {σ : List (Option V)} {α β γ : Type} {r : R α} {f : α → Sto → R β} {g : β → Sto → R γ} {Φ : γ → Sto → List Addr → Hp → Prop} (h : okR L K W ρ H σ ((r.bind f).bind g) Φ) :
    okR L K W ρ H σ (r.bind fun a st => (f a st).bind g) Φ := by
  cases r <;> exact h
section
variable {X : Cx} {e : Expr} {es : List Expr}
theorem _root_.L2.PE.of {t t' : TE} (h : PE X e t) (i : ∀ σ H Q, t' σ H Q → t σ H Q) : PE X e t' := ⟨fun pins s σ H Q I q => h.run pins s σ H Q I (i σ H Q q)⟩
theorem _root_.L2.PT.of {t t' : TT} (h : PT X e t) (i : ∀ σ H Q, t' σ H Q → t σ H Q) : PT X e t' := ⟨fun pins s σ H Q I q => h.run pins s σ H Q I (i σ H Q q)⟩
theorem _root_.L2.PW.of {t t' : TT} (h : PW X e t) (i : ∀ σ H Q, t' σ H Q → t σ H Q) : PW X e t' := ⟨fun wh pins s σ H Q I q => h.run wh pins s σ H Q I (i σ H Q q)⟩
theorem _root_.L2.PA.of {t t' : TA} (h : PA X es t) (i : ∀ σ H Q, t' σ H Q → t σ H Q) : PA X es t' := ⟨fun pos pins s σ H Q I q => h.run pos pins s σ H Q I (i σ H Q q)⟩
theorem _root_.L2.PE.no {t : TE} (i : ∀ σ H Q, ¬ t σ H Q) : PE X e t := ⟨fun pins s σ H Q I q => (i σ H Q q).elim⟩
theorem _root_.L2.PT.no {t : TT} (i : ∀ σ H Q, ¬ t σ H Q) : PT X e t := ⟨fun pins s σ H Q I q => (i σ H Q q).elim⟩
end
/-! ### the form of the text -/
theorem star_one {e : Expr} {es : List Expr} {env : Env} (h : noStar (e :: es) = true) : starEach (e :: es) env = (false, eval e env) :: starEach es env := by
  unfold noStar at h
  rw [List.all_cons] at h
  cases e <;> first | rfl | cases h
theorem noStar_tl {e : Expr} {es : List Expr} (h : noStar (e :: es) = true) : noStar es = true := by
  unfold noStar at h ⊢
  rw [List.all_cons, Bool.and_eq_true] at h
  exact h.2
theorem star_plain {env : Env} {pos : Pos} : ∀ {es : List Expr}, noStar es = true → (backTo pos (starEach es env)).any (·.1) = false
  | [], _ => rfl
  | e :: es, h => by
    rw [star_one h]
    exact star_plain (noStar_tl h)
theorem star_trees {env : Env} {pos : Pos} : ∀ {es : List Expr}, noStar es = true → backTo pos (starEach es env) = es.map fun e => (false, eval e env)
  | [], _ => rfl
  | e :: es, h => by
    rw [star_one h]
    show (false, eval e env) :: backTo pos (starEach es env) = _
    rw [star_trees (noStar_tl h)]
    rfl
theorem base_plain {o : Expr} {f : Str} {env : Env} {w : Sem Value} (h : plainBase o = true) : attributeBase o f env w = w := by
  unfold attributeBase
  split
  · cases h
  · rfl
theorem behind_plain {op : CmpOp} {e : Expr} (h : noSet e = true) : behindInMarks op e = false := by cases e <;> first | rfl | cases h
theorem folded_plain {e : Expr} {env : Env} (h : noSet e = true) (x : Value) : foldedSetIterable e env x = pure x := by cases e <;> first | rfl | cases h
theorem vis_of {sc : Scope} {x : Str} (h : visB sc x = true) : Vis sc x ∧ (x == ("__debug__" : Str)) = false ∧ (x == ("__classdict__" : Str)) = false := by
  unfold visB plainN at h
  simp only [Bool.and_eq_true, Bool.not_eq_true'] at h
  obtain ⟨⟨⟨h1, h2⟩, h3⟩, h4⟩ := h
  refine ⟨?_, h1, h2⟩
  unfold Vis
  split at h4 <;> first | exact .inl (by assumption) | exact .inr (.inl (by assumption)) | exact .inr (.inr (by assumption)) | cases h4
theorem glo_of {X : Cx} {x : Str} (h : gloB X.env.scope x = true) : Gl X x ∧ (x == ("__debug__" : Str)) = false := by
  unfold gloB plainN at h
  simp only [Bool.and_eq_true, Bool.not_eq_true'] at h
  obtain ⟨⟨⟨h1, h2⟩, h3⟩, h4⟩ := h
  refine ⟨?_, h1⟩
  unfold Gl Env.kindOf
  split at h4 <;> first | assumption | cases h4
theorem ixS_get {x : Str} : ∀ {l : List Str} {i : Nat}, ixS x l = some i → l[i]? = some x
  | [], i, h => by cases h
  | y :: r, i, h => by
    unfold ixS at h
    split at h
    · rename_i e
      cases h
      rw [e]; rfl
    · simp only [Option.map_eq_some_iff] at h
      obtain ⟨j, h, rfl⟩ := h
      simpa using ixS_get h
theorem ixF_get {p : Str × Option Str} : ∀ {l : List (Str × Option Str)} {i : Nat}, ixF p l = some i → l[i]? = some p
  | [], i, h => by cases h
  | y :: r, i, h => by
    unfold ixF at h
    split at h
    · rename_i e
      cases h
      rw [e]; rfl
    · simp only [Option.map_eq_some_iff] at h
      obtain ⟨j, h, rfl⟩ := h
      simpa using ixF_get h
/-! ### what is known of the program -/
/-- the names of built-ins that are served -/
def blts : List Str := ["abs", "int", "len", "max", "min", "list", "tuple", "sum", "sorted", "all", "any", "dict", "set", "isinstance", "range", "enumerate", "zip", "bool", "str"]
/-- a call's promise -/
def FSp (L : Lk) (K : PySem.W.Frag) (C : CallF) (f : Nat) : Sp := fun vs H Q E => ∃ ρ st args, Sim L K ρ st H ∧ RVs K ρ H args vs ∧ okR L K (fun c d _ H' => E c d H') ρ H [] (C f args st) (vQ K Q)
structure Kx (cc : Cc) (P : Pg) (C : CallF) (L : Lk) (X : Cx) (W : WX) : Prop where
  calm : X.calm = true
  nd : X.N.Nodup
  units : X.A.units + 200 < cLine
  takes : Takes X W
  fld : ∀ (i : Nat) (f : Str), cc.flds[i]? = some f → L.fld i = f
  finj : ∀ i j, L.fld i = L.fld j → i = j
  fmth : ∀ (i j : Nat) (m : Str), cc.mths[j]? = some m → L.fld i ≠ m
  const : ∀ x v, cc.consts.lookup x = some v → ∃ vv u, X.mg x = some u ∧ RelV vv u ∧ ∀ ρ H, RV X.K ρ H v vv
  free : ∀ x, x ∈ blts → cc.freeB x = true → X.mg x = none
  fn : ∀ (f : Nat) (p : Str × Option Str), cc.fns[f]? = some p → ∃ (a : Addr) (fd : FuncData) (ps : List Str) (k : Nat), FnOk X.prog X.w X.K X.mg X.base (L2.CX X.prog X.w) k a fd ps (FSp L X.K C f) ∧ Room (k + 1) X.A ∧ Room k X.A ∧ Binds X.K fd ps [] ∧ PySem.W.keepIn X.K (.ref a) = true ∧
    (p.2 = none → X.mg p.1 = some (.ref a)) ∧ ∀ (m : Str) (c : Nat), p.2 = some m → cc.cls[c]? = some p.1 → Meth X.K (L.cls c) m a ∧ (m = "__init__" → Mk X.K (L.cls c) a)
  cls : ∀ (c : Nat) (x : Str), cc.cls[c]? = some x → Cls X.K (L.cls c) ∧ X.mg x = some (.ref (L.cls c)) ∧ ∀ (i : Nat) (f : Str), cc.flds[i]? = some f → NoAttr X.K (L.cls c) f
  inits : ∀ (i : Nat) (x : Str), cc.cls[i]? = some x → ∃ (d : Cl) (f : Nat), P.cls[i]? = some d ∧ d.init = some f
  pcls : ∀ (c : Nat) (d : Cl), P.cls[c]? = some d → ∃ x, cc.cls[c]? = some x ∧ (∀ f : Nat, d.init = some f → cc.fns[f]? = some (x, some ("__init__" : Str))) ∧ ∀ (m f : Nat) (nm : Str), cc.mths[m]? = some nm → findM m d.meths = some f → cc.fns[f]? = some (x, some nm)
section
variable {cc : Cc} {P : Pg} {C : CallF} {L : Lk} {X : Cx} {W : WX} {a b c e o : Expr} {es : List Expr} {pos : Pos} {fa fb fc : Loc → Sto → R PV}
theorem g_bin (g : BOp) (ha : PE X a (rdE L X.K W fa)) (hb : PE X b (rdE L X.K W fb)) :
    PE X (.BinOp a (opName g) b pos) (rdE L X.K W fun σ st => (fa σ st).bind fun x st1 => (fb σ st1).bind fun y st2 => binop g x y st2) :=
  (pe_op (op_bin g) ha hb).of fun σ H Q ⟨ρ, st, σp, s, l, h⟩ => rdE.step s l h fun v st1 ρ1 H1 x e1 s1 l1 r1 h1 => rdE.step s1 l1 h1 fun w st2 ρ2 H2 y e2 s2 l2 r2 h2 =>
    ⟨ρ2, st2, σ, v, w, s2, RV.ext s1 e2 _ _ r1, r2, h2⟩
theorem cmp_step {σ : List (Option V)} {H : Hp} {Q : VK} {ρ : List Addr} {st : Sto} {v w : PV} {x y : V} {g : COp} (s : Sim L X.K ρ st H) (r1 : RV X.K ρ H v x) (r2 : RV X.K ρ H w y)
    (h : okR L X.K W ρ H σ ((oR (cmpop g v w st) st).bind fun c st3 => .ok (.bl c) st3) (vQ X.K Q)) : rdCmp L X.K (cmpop g) x y H Q := by
  obtain ⟨b, hb, h⟩ := h.bind.oR
  exact ⟨ρ, st, v, w, b, s, r1, r2, hb, (h.now s).now s _ rfl⟩
theorem g_cmp (K : Kx cc P C L X W) (g : COp) (hs : noSet b = true) (ha : PE X a (rdE L X.K W fa)) (hb : PE X b (rdE L X.K W fb)) :
    PE X (.Compare a [coName g] [b] pos) (rdE L X.K W fun σ st => (fa σ st).bind fun x st1 => (fb σ st1).bind fun y st2 => (oR (cmpop g x y st2) st2).bind fun c st3 => .ok (.bl c) st3) :=
  (pe_cmpR (op_cmp (by have := K.units; omega) g) ha hb (behind_plain hs)).of fun σ H Q ⟨ρ, st, σp, s, l, h⟩ => rdE.step s l h fun v st1 ρ1 H1 x e1 s1 l1 r1 h1 => rdE.step s1 l1 h1 fun w st2 ρ2 H2 y e2 s2 l2 r2 h2 =>
    cmp_step s2 (RV.ext s1 e2 _ _ r1) r2 h2
theorem last_plain {op op' : CmpOp} (h : noSet c = true) : lastMarks [op, op'] [b, c] = false := by
  show lastMarks [op'] [c] = false
  exact behind_plain h
theorem g_cmp2 (K : Kx cc P C L X W) (g g' : COp) (hs : noSet c = true) (ha : PE X a (rdE L X.K W fa)) (hb : PE X b (rdE L X.K W fb)) (hc : PE X c (rdE L X.K W fc)) :
    PE X (.Compare a [coName g, coName g'] [b, c] pos) (rdE L X.K W fun σ st => (fa σ st).bind fun x st1 => (fb σ st1).bind fun y st2 => (oR (cmpop g x y st2) st2).bind fun k st3 => match k with
      | true => (fc σ st3).bind fun z st4 => (oR (cmpop g' y z st4) st4).bind fun c st5 => .ok (.bl c) st5
      | false => .ok (.bl false) st3) :=
  have hu : X.A.units + 70 < cLine := by have := K.units; omega
  (pe_chain (op_cmp hu g) (op_cmp hu g') ha hb hc (last_plain hs)).of fun σ H Q ⟨ρ, st, σp, s, l, h⟩ => rdE.step s l h fun v st1 ρ1 H1 x e1 s1 l1 r1 h1 => rdE.step s1 l1 h1 fun w st2 ρ2 H2 y e2 s2 l2 r2 h2 => by
    obtain ⟨k, hk, h⟩ := h2.bind.oR
    have h := h.now s2
    refine ⟨ρ2, st2, v, w, k, s2, RV.ext s1 e2 _ _ r1, r2, hk, k, rfl, ?_⟩
    cases k with
    | true =>
      rw [if_pos rfl]
      exact rdE.step s2 l2 h fun z st3 ρ3 H3 y' e3 s3 l3 r3 h3 => cmp_step s3 (RV.ext s2 e3 _ _ r2) r3 h3
    | false => exact (h.now s2) _ rfl
/-! ### truth -/
theorem pt_of (he : PE X e (rdE L X.K W fa)) (hp : ∀ whole, isTrue e X.env whole = (do let v ← whole; standAt e.pos; holding [v] (PySem.truthy v))) : PT X e (rdT L X.K W fun σ st => (fa σ st).bind fun v st1 => oR (truthy v st1) st1) :=
  (pt_truth he hp).of fun σ H Q ⟨ρ, st, σp, s, l, h⟩ => rdE.step s l h fun v st1 ρ1 H1 x e1 s1 l1 r1 h1 => by
    obtain ⟨b, hb, h⟩ := h1.oR
    exact ⟨b, tru_of s1 r1 hb, h.now s1⟩
theorem tru_step {σ : List (Option V)} {H : Hp} {ρ : List Addr} {st : Sto} {v : PV} {x : V} {β : Type} {Φ : β → Sto → List Addr → Hp → Prop} {g : Bool → Sto → R β} (s : Sim L X.K ρ st H) (r1 : RV X.K ρ H v x)
    (h : okR L X.K W ρ H σ ((oR (truthy v st) st).bind g) Φ) : ∃ k, TruV X.K x H k ∧ okR L X.K W ρ H σ (g k st) Φ := by
  obtain ⟨b, hb, h⟩ := h.bind.oR
  exact ⟨b, tru_of s r1 hb, h.now s⟩
theorem g_not {fe : Loc → Sto → R PV} (he : PE X e (rdE L X.K W fe)) : PE X (.UnaryOp .Not e pos) (rdE L X.K W fun σ st => ((fe σ st).bind fun v st1 => oR (truthy v st1) st1).bind fun c st1 => .ok (.bl (!c)) st1) :=
  (pe_notT he).of fun σ H Q ⟨ρ, st, σp, s, l, h⟩ => by
    exact rdE.step s l (okR.assoc h) fun v st1 ρ1 H1 x e1 s1 l1 r1 h1 => by
      obtain ⟨k, hk, h⟩ := tru_step s1 r1 h1
      exact ⟨k, hk, (h.now s1) _ rfl⟩
theorem g_neg {fe : Loc → Sto → R PV} (he : PE X e (rdE L X.K W fe)) : PE X (.UnaryOp .USub e pos) (rdE L X.K W fun σ st => (fe σ st).bind fun x st1 => match x with
    | .int i => .ok (.int (-i)) st1
    | _ => .stuck) :=
  (pe_un un_neg he).of fun σ H Q ⟨ρ, st, σp, s, l, h⟩ => rdE.step s l h fun v st1 ρ1 H1 x e1 s1 l1 r1 h1 => by
    cases v <;> simp only at h1 <;> first | exact h1.elim | skip
    exact ⟨_, r1, (h1.now s1) _ rfl⟩
theorem g_and {rest : List Expr} (ha : PE X a (rdE L X.K W fa)) (hb : PE X (.BoolOp .And (b :: rest) pos) (rdE L X.K W fb)) :
    PE X (.BoolOp .And (a :: b :: rest) pos) (rdE L X.K W fun σ st => (fa σ st).bind fun x st1 => (oR (truthy x st1) st1).bind fun c st2 => match c with
      | true => fb σ st2
      | false => .ok x st2) :=
  (pe_andT ha hb).of fun σ H Q ⟨ρ, st, σp, s, l, h⟩ => rdE.step s l h fun v st1 ρ1 H1 x e1 s1 l1 r1 h1 => by
    obtain ⟨k, hk, h⟩ := tru_step s1 r1 h1
    refine ⟨k, hk, ?_⟩
    cases k with
    | true => exact ⟨ρ1, st1, σp, s1, l1, h⟩
    | false => exact (h.now s1) _ r1
theorem g_or {rest : List Expr} (ha : PE X a (rdE L X.K W fa)) (hb : PE X (.BoolOp .Or (b :: rest) pos) (rdE L X.K W fb)) :
    PE X (.BoolOp .Or (a :: b :: rest) pos) (rdE L X.K W fun σ st => (fa σ st).bind fun x st1 => (oR (truthy x st1) st1).bind fun c st2 => match c with
      | true => .ok x st2
      | false => fb σ st2) :=
  (pe_orT ha hb).of fun σ H Q ⟨ρ, st, σp, s, l, h⟩ => rdE.step s l h fun v st1 ρ1 H1 x e1 s1 l1 r1 h1 => by
    obtain ⟨k, hk, h⟩ := tru_step s1 r1 h1
    refine ⟨k, hk, ?_⟩
    cases k with
    | true => exact (h.now s1) _ r1
    | false => exact ⟨ρ1, st1, σp, s1, l1, h⟩
theorem g_ife {tc : Loc → Sto → R Bool} (hc : PT X c (rdT L X.K W tc)) (ha : PE X a (rdE L X.K W fa)) (hb : PE X b (rdE L X.K W fb)) :
    PE X (.IfExp c a b pos) (rdE L X.K W fun σ st => (tc σ st).bind fun k st1 => match k with
      | true => fa σ st1
      | false => fb σ st1) :=
  (pe_ifExp hc ha hb).of fun σ H Q ⟨ρ, st, σp, s, l, h⟩ => rdT.step s l h fun v st1 ρ1 H1 e1 s1 l1 h1 => by
    cases v with
    | true => exact ⟨ρ1, st1, σp, s1, l1, h1⟩
    | false => exact ⟨ρ1, st1, σp, s1, l1, h1⟩
theorem t_not {tc : Loc → Sto → R Bool} (he : PT X e (rdT L X.K W tc)) : PT X (.UnaryOp .Not e pos) (rdT L X.K W fun σ st => (tc σ st).bind fun c st1 => .ok (!c) st1) :=
  (pt_not he).of fun σ H Q ⟨ρ, st, σp, s, l, h⟩ => rdT.step s l h fun v st1 ρ1 H1 e1 s1 l1 h1 => h1.now s1
theorem t_and {rest : List Expr} {ta tb : Loc → Sto → R Bool} (ha : PT X a (rdT L X.K W ta)) (hb : PW X (.BoolOp .And (b :: rest) pos) (rdT L X.K W tb)) :
    PW X (.BoolOp .And (a :: b :: rest) pos) (rdT L X.K W fun σ st => (ta σ st).bind fun c st1 => match c with
      | true => tb σ st1
      | false => .ok false st1) :=
  (pw_and ha hb).of fun σ H Q ⟨ρ, st, σp, s, l, h⟩ => rdT.step s l h fun v st1 ρ1 H1 e1 s1 l1 h1 => by
    cases v with
    | true => exact ⟨ρ1, st1, σp, s1, l1, h1⟩
    | false => exact h1.now s1
theorem t_or {rest : List Expr} {ta tb : Loc → Sto → R Bool} (ha : PT X a (rdT L X.K W ta)) (hb : PW X (.BoolOp .Or (b :: rest) pos) (rdT L X.K W tb)) :
    PW X (.BoolOp .Or (a :: b :: rest) pos) (rdT L X.K W fun σ st => (ta σ st).bind fun c st1 => match c with
      | true => .ok true st1
      | false => tb σ st1) :=
  (pw_or ha hb).of fun σ H Q ⟨ρ, st, σp, s, l, h⟩ => rdT.step s l h fun v st1 ρ1 H1 e1 s1 l1 h1 => by
    cases v with
    | true => exact h1.now s1
    | false => exact ⟨ρ1, st1, σp, s1, l1, h1⟩
/-! ### places -/
theorem ix_plain (h : ∀ lo hi p, b ≠ .Slice lo hi none p) : PlainIx b := by
  intro o i
  cases b with
  | Slice lo hi stp p =>
    cases stp with
    | none => exact absurd rfl (h _ _ _)
    | some x => rfl
  | _ => rfl
theorem g_ix (K : Kx cc P C L X W) (hp : PlainIx b) (ha : PE X a (rdE L X.K W fa)) (hb : PE X b (rdE L X.K W fb)) :
    PE X (.Subscript a b pos) (rdE L X.K W fun σ st => (fa σ st).bind fun x st1 => (fb σ st1).bind fun y st2 => oR (item x y st2) st2) :=
  (pe_ix (ix_item (by have := K.units; omega)) ha hb hp).of fun σ H Q ⟨ρ, st, σp, s, l, h⟩ => rdE.step s l h fun v st1 ρ1 H1 x e1 s1 l1 r1 h1 => rdE.step s1 l1 h1 fun w st2 ρ2 H2 y e2 s2 l2 r2 h2 => by
    obtain ⟨z, hz, h⟩ := h2.oR
    exact ⟨ρ2, st2, v, w, z, s2, RV.ext s1 e2 _ _ r1, r2, hz, h.now s2⟩
/-- a slice's part -/
def rdO (L : Lk) (K : PySem.W.Frag) (W : WX) (f : Loc → Sto → R (Option Int)) : TO := fun σ H Q => ∃ ρ st σp, Sim L K ρ st H ∧ RLo K ρ H σp σ ∧ okR L K W ρ H σ (f σp st) fun v _ _ H' => Q v H'
theorem po_of0 {V : Ex → Loc → Sto → R PV} : PO X none (rdO L X.K W (evO V none)) :=
  ⟨fun pins s σ H Q I ⟨ρ, st, σp, sm, l, h⟩ => po_none.run pins s σ H Q I (okR.now h sm)⟩
theorem po_of1 {V : Ex → Loc → Sto → R PV} {c : Ex} (h : PE X e (rdE L X.K W (V c))) : PO X (some e) (rdO L X.K W (evO V (some c))) :=
  ⟨fun pins s σ H Q I ⟨ρ, st, σp, sm, l, hq⟩ => (po_some h).run pins s σ H Q I (rdE.step sm l hq fun v st1 ρ1 H1 x e1 s1 l1 r1 h1 => by
    cases v <;> simp only at h1 <;> first | exact h1.elim | skip
    exact ⟨_, r1, h1.now s1⟩)⟩
theorem g_slice {lo hi : Option Expr} {p2 : Pos} {V : Ex → Loc → Sto → R PV} {ol oh : Option Ex} (ha : PE X a (rdE L X.K W fa)) (hl : PO X lo (rdO L X.K W (evO V ol))) (hh : PO X hi (rdO L X.K W (evO V oh))) :
    PE X (.Subscript a (.Slice lo hi none p2) pos) (rdE L X.K W fun σ st => (fa σ st).bind fun x st1 => (evO V ol σ st1).bind fun l st2 => (evO V oh σ st2).bind fun h st3 => sliceOf x l h st3) :=
  (pe_slice sl_any ha hl hh).of fun σ H Q ⟨ρ, st, σp, s, l, h⟩ => rdE.step s l h fun v st1 ρ1 H1 x e1 s1 l1 r1 h1 =>
    ⟨ρ1, st1, σp, s1, l1, okR.mono h1.bind fun y st2 ρ2 H2 e2 s2 h2 => ⟨ρ2, st2, σp, s2, RLo.ext s1 e2 _ _ l1, okR.mono h2.bind fun z st3 ρ3 H3 e3 s3 h3 =>
      ⟨ρ3, st3, σ, v, s3, RV.ext s2 e3 _ _ (RV.ext s1 e2 _ _ r1), h3⟩⟩⟩
end
end Rf
end
section
set_option Elab.async false
set_option linter.all false
set_option maxRecDepth 100000
set_option maxHeartbeats 1000000
/-! Rf10: names, displays, fields, calls. -/
namespace Rf
open PySem PySem.Spec PyProof.Rows L2
section
variable {cc : Cc} {P : Pg} {C : CallF} {L : Lk} {X : Cx} {W : WX} {a b c e o : Expr} {es : List Expr} {pos apos : Pos} {fa fb fc : Loc → Sto → R PV} {VV : Ex → Loc → Sto → R PV} {ct : Expr → Ex}
theorem g_var {x : Str} {i : Nat} (hv : visB X.env.scope x = true) (hi : ixS x X.N = some i) : PE X (.Name x pos) (rdE L X.K W fun σ st => match σ[i]? with
    | some (some v) => .ok v st
    | _ => .stuck) :=
  (pe_var (ixS_get hi) (vis_of hv).1 (vis_of hv).2.1 (vis_of hv).2.2).of fun σ H Q ⟨ρ, st, σp, s, l, h⟩ => by
    simp only at h
    split at h
    · rename_i v e
      obtain ⟨x, e1, r⟩ := l.get e
      exact ⟨x, e1, h.now s _ r⟩
    · exact h.elim
theorem g_const {x : Str} {v : PV} (K : Kx cc P C L X W) (hg : gloB X.env.scope x = true) (hc : cc.consts.lookup x = some v) : PE X (.Name x pos) (rdE L X.K W fun _ st => .ok v st) := by
  obtain ⟨vv, u, hm, r, hr⟩ := K.const x v hc
  exact (pe_glob (glo_of hg).1 hm r (glo_of hg).2).of fun σ H Q ⟨ρ, st, σp, s, l, h⟩ => h.now s _ (hr ρ H)
theorem g_lit {k : Const} {v : PV} {j : _} (hk : conOf k = some v) : PE X (.Constant k j pos) (rdE L X.K W fun _ st => .ok v st) := by
  cases k <;> simp only [conOf, reduceCtorEq, Option.some.injEq, Option.ite_none_right_eq_some] at hk
  · subst hk; exact pe_non.of fun σ H Q ⟨ρ, st, σp, s, l, h⟩ => h.now s _ rfl
  · subst hk; exact pe_bl.of fun σ H Q ⟨ρ, st, σp, s, l, h⟩ => h.now s _ rfl
  · subst hk; exact pe_int.of fun σ H Q ⟨ρ, st, σp, s, l, h⟩ => h.now s _ rfl
  · obtain ⟨h1, rfl⟩ := hk; exact pe_str.of fun σ H Q ⟨ρ, st, σp, s, l, h⟩ => h.now s _ ⟨rfl, h1⟩
theorem g_args : ∀ {es : List Expr}, noStar es = true → (∀ e ∈ es, PE X e (rdE L X.K W (VV (ct e)))) → PA X es (rdA L X.K W (evs VV (es.map ct)))
  | [], _, _ => pa_nil.of fun σ H Q ⟨ρ, st, σp, s, l, h⟩ => h.now s _ rfl
  | e :: es, hs, h => (pa_cons (h e List.mem_cons_self) (g_args (noStar_tl hs) fun e he => h e (List.mem_cons_of_mem _ he)) (star_one hs)).of fun σ H Q ⟨ρ, st, σp, s, l, h⟩ =>
    rdE.step s l h fun v st1 ρ1 H1 x e1 s1 l1 r1 h1 => rdA.step s1 l1 h1 fun vs st2 ρ2 H2 xs e2 s2 l2 r2 h2 => h2.now s2 _ ⟨x, xs, rfl, RV.ext s1 e2 _ _ r1, r2⟩
def tTupF (t : TA) : TE := fun σ H Q => t σ H fun xs H1 => xs.length ≤ sizeLine ∧ ∀ p o, o.dict = none → H1 p = none → Q (.ref p) (upd H1 p (.frz o (.tup xs)))
theorem pe_tupF {k : Nat} {t : TA} (h : PA X es t) : PE X (.Tuple es k pos) (tTupF t) := by
  refine ⟨fun pins s σ H Q I hq => wpAny_Tuple_spliced (thn (h.run pos pins s σ H _ I hq) fun us s1 hh => ?_)⟩
  obtain ⟨xs, H1, I1, r, z, q⟩ := hh
  refine ⟨r.length ▸ z, ?_⟩
  have hf := I1.hok.fresh (Nat.le_refl s1.heap.objs.size)
  refine ⟨.ref s1.heap.objs.size, _, I1.laid (t' := s1.toks) (o := .frz _ (.tup xs)) (fun b u e => Heap.get?_push_of_some _ e) (Nat.le_refl _) ⟨Heap.get?_push_size _ rfl, z, us, r, ?_⟩, rfl, q _ _ rfl hf⟩
  exact ⟨_, Heap.get?_push_size _ rfl, rfl, _, rfl⟩
theorem g_tup {k : Nat} {f : Loc → Sto → R (List PV)} (h : PA X es (rdA L X.K W f)) : PE X (.Tuple es k pos) (rdE L X.K W fun σ st => (f σ st).bind fun vs st1 => if vs.length ≤ big then .ok (.tup vs) st1 else .stuck) :=
  (pe_tupF h).of fun σ H Q ⟨ρ, st, σp, s, l, h⟩ => rdA.step s l h fun vs st1 ρ1 H1 xs e1 s1 l1 r1 h1 => by
    split at h1
    · rename_i hz
      refine ⟨by rw [← r1.length]; exact Nat.le_trans hz big_line, fun p o hd hp => ?_⟩
      have e := Ext.laid (ρ := ρ1) (o := .frz o (.tup xs)) hp
      exact h1 _ _ e (s1.laid hp) _ ⟨p, xs, rfl, .inl ⟨o, upd_same, hd⟩, RVs.ext s1 e _ _ r1⟩
    · exact h1.elim
theorem g_lst {f : Loc → Sto → R (List PV)} (h : PA X es (rdA L X.K W f)) : PE X (.List es pos) (rdE L X.K W fun σ st => (f σ st).bind fun vs st1 => if vs.length ≤ big then newO id st1 (.lst vs) else .stuck) :=
  (pe_lst h).of fun σ H Q ⟨ρ, st, σp, s, l, h⟩ => rdA.step s l h fun vs st1 ρ1 H1 xs e1 s1 l1 r1 h1 => by
    split at h1
    · rename_i hz
      refine ⟨by rw [← r1.length]; exact Nat.le_trans hz big_line, fun p hp => ?_⟩
      obtain ⟨h3, h4⟩ := h1.newO s1 (o := .lst xs) hp ⟨_, upd_same, RVs.ext s1 (Ext.new s1 hp) _ _ r1⟩
      exact h3 _ h4
    · exact h1.elim
theorem g_dnew : PE X (.Dict [] [] pos) (rdE L X.K W fun _ st => newO id st (.dct false [])) :=
  pe_dnewK.of fun σ H Q ⟨ρ, st, σp, s, l, h⟩ p hp => by
    obtain ⟨h3, h4⟩ := h.newO s (o := .dK []) hp ⟨[], rfl, by simpa using upd_same⟩
    exact h3 _ h4
theorem RFs.look {K : PySem.W.Frag} {ρ : List Addr} {H : Hp} (hj : ∀ i j, L.fld i = L.fld j → i = j) {i : Nat} : ∀ {fs : List (Nat × PV)} {l : List (Str × V)}, RFs L K ρ H fs l →
    (∃ v u, lookF i fs = some v ∧ l.lookup (L.fld i) = some u ∧ RV K ρ H v u) ∨ (lookF i fs = none ∧ l.lookup (L.fld i) = none)
  | [], _, h => by rw [h]; exact .inr ⟨rfl, rfl⟩
  | p :: r, _, h => by
    obtain ⟨u, us, rfl, h1, h2⟩ := h
    unfold lookF
    rw [List.lookup_cons]
    by_cases e : p.1 = i
    · subst e
      refine .inl ⟨p.2, u, ?_, ?_, h1⟩
      · rw [if_pos (Nat.beq_refl _)]
      · rw [show (L.fld p.1 == L.fld p.1) = true from by simp]
    · have h3 : (Nat.beq p.1 i) = false := by
        cases q : Nat.beq p.1 i with
        | false => rfl
        | true => exact absurd (Nat.eq_of_beq_eq_true q) e
      rw [h3, show (L.fld i == L.fld p.1) = false from beq_eq_false_iff_ne.mpr fun q => e (hj _ _ q).symm]
      exact RFs.look hj h2
theorem RFs.noM {K : PySem.W.Frag} {ρ : List Addr} {H : Hp} {m : Str} (hj : ∀ i, L.fld i ≠ m) : ∀ {fs : List (Nat × PV)} {l : List (Str × V)}, RFs L K ρ H fs l → l.lookup m = none
  | [], _, h => by rw [h]; rfl
  | p :: r, _, h => by
    obtain ⟨u, us, rfl, h1, h2⟩ := h
    rw [List.lookup_cons, show (m == L.fld p.1) = false from beq_eq_false_iff_ne.mpr fun q => hj _ q.symm]
    exact RFs.noM hj h2
theorem Kx.at (K : Kx cc P C L X W) {k : Nat} (h : k < P.cls.length) : ∃ x d, P.cls[k]? = some d ∧ cc.cls[k]? = some x ∧ (∀ f : Nat, d.init = some f → cc.fns[f]? = some (x, some ("__init__" : Str))) ∧
    (∀ (m f : Nat) (nm : Str), cc.mths[m]? = some nm → findM m d.meths = some f → cc.fns[f]? = some (x, some nm)) := by
  have e : P.cls[k]? = some P.cls[k] := List.getElem?_eq_getElem h
  obtain ⟨x, h1, h2, h3⟩ := K.pcls k _ e
  exact ⟨x, _, e, h1, h2, h3⟩
theorem g_fld {f : Str} {i : Nat} (K : Kx cc P C L X W) (hb : plainBase e = true) (hi : ixS f cc.flds = some i) (he : PE X e (rdE L X.K W fa)) : PE X (.Attribute e f pos) (rdE L X.K W fun σ st => (fa σ st).bind fun x st1 => match x with
    | .obj k => (match st1[k]? with
      | some (.ins c fs) => if c < P.cls.length then oR (lookF i fs) st1 else .stuck
      | _ => .stuck)
    | _ => .stuck) :=
  (pe_fld he (base_plain hb)).of fun σ H Q ⟨ρ, st, σp, s, l, h⟩ => rdE.step s l h fun v st1 ρ1 H1 x e1 s1 l1 r1 h1 => by
    cases v <;> simp only at h1 <;> first | exact h1.elim | skip
    split at h1
    · rename_i c fs e
      split at h1
      · rename_i hc
        obtain ⟨a, rfl, ha⟩ := r1
        obtain ⟨dx, l, h2, h3⟩ := s1.obj _ _ a e ha
        obtain ⟨x, d, _, hx, _⟩ := K.at hc
        obtain ⟨k1, k2, k3⟩ := K.cls _ _ hx
        obtain ⟨z, hz, h1⟩ := h1.oR
        have ef := K.fld i f (ixS_get hi)
        rcases RFs.look K.finj (i := i) h3 with ⟨v, u, q1, q2, q3⟩ | ⟨q1, _⟩
        · rw [q1] at hz
          obtain rfl := Option.some.inj hz
          rw [ef] at q2
          exact ⟨a, _, dx, l, u, rfl, h2, k1, k3 i f (ixS_get hi), q2, h1.now s1 _ q3⟩
        · rw [q1] at hz
          cases hz
      · exact h1.elim
    · exact h1.elim
/-! ### calls -/
theorem sp_of {f : Nat} {σ : List (Option V)} {H : Hp} {Q : VK} {ρ : List Addr} {st : Sto} {vs : List PV} {xs : List V} (s : Sim L X.K ρ st H) (r : RVs X.K ρ H vs xs) (h : okR L X.K W ρ H σ (C f vs st) (vQ X.K Q)) : FSp L X.K C f xs H Q (WE W σ) := by
  refine ⟨ρ, st, vs, s, r, ?_⟩
  generalize C f vs st = q at h ⊢
  cases q <;> exact h
theorem g_call0 {x : Str} {p : Pos} {f : Nat} (K : Kx cc P C L X W) (hg : gloB X.env.scope x = true) (hf : ixF (x, none) cc.fns = some f) : PE X (.Call (.Name x p) [] [] pos) (rdE L X.K W fun _ st => C f [] st) := by
  obtain ⟨a, fd, ps, k, F, _, hr, hb, hk, hm, _⟩ := K.fn f _ (ixF_get hf)
  obtain ⟨g1, g2⟩ := glo_of hg
  refine ⟨fun pins s σ H Q I ⟨ρ, st, σp, sm, l, h⟩ => wpAny_Call_Name_kw (ld_glob I g1 (hm rfl) ?_ g2)⟩
  exact PySem.W.callWith_K0 I.kIn hk (run_fnS (us := []) F hr hb (passAt K.takes σ) I .nil (sp_of (vs := []) sm rfl h))
theorem g_call {x : Str} {p : Pos} {f : Nat} (K : Kx cc P C L X W) (hg : gloB X.env.scope x = true) (hs : noStar (e :: es) = true) (hf : ixF (x, none) cc.fns = some f) {fs : Loc → Sto → R (List PV)} (ha : PA X (e :: es) (rdA L X.K W fs)) :
    PE X (.Call (.Name x p) (e :: es) [] pos) (rdE L X.K W fun σ st => (fs σ st).bind fun vs st1 => C f vs st1) := by
  obtain ⟨a, fd, ps, k, F, _, hr, hb, hk, hm, _⟩ := K.fn f _ (ixF_get hf)
  obtain ⟨g1, g2⟩ := glo_of hg
  exact (pe_callS F hr g1 (hm rfl) hk hb (fun σ => passAt K.takes σ) ha g2 (star_one hs) (star_plain (noStar_tl hs))).of fun σ H Q ⟨ρ, st, σp, sm, l, h⟩ => rdA.step sm l h fun vs st1 ρ1 H1 xs e1 s1 l1 r1 h1 => sp_of s1 r1 h1
/-! ### methods and makers -/
theorem form_of {env : Env} {es : List Expr} {cpos : Pos} (hs : noStar es = true) (hl : es.length < 20) : methodCallForm (es.length + ([] : List Keyword).length) (backTo cpos (starEach es env)) (backToKw cpos (keywordEach [] env)) = true := by
  unfold methodCallForm
  rw [star_trees hs]
  simp only [Bool.and_eq_true, List.all_eq_true, List.mem_map, forall_exists_index, and_imp, decide_eq_true_eq]
  refine ⟨⟨?_, ?_⟩, ?_⟩
  · rintro _ x _ rfl
    rfl
  · intro x hx
    cases hx
  · show es.length + 0 + 0 < 30
    omega
theorem meth_wp {m : Str} {cpos : Pos} {pins : List (Addr × Obj)} {s : Shared} {σ : List (Option V)} {H : Hp} {Q : Value → Shared → Prop} {t : TE} (hb : plainBase o = true) (hs : noStar es = true) (hl : es.length < 20) (hline : (apos.endLine == cpos.line) = true) (ho : PE X o t)
    (I : Inv X pins σ H s) (h : t σ H fun x H1 => ∃ a Cl dx fs g, x = .ref a ∧ H1 a = some (.ins Cl dx fs) ∧ fs.lookup m = none ∧ Cls X.K Cl ∧ Meth X.K Cl m g ∧
      ∀ s1, Inv X pins σ H1 s1 → wpAny (model X.prog X.w) X.A (callWith cpos (.ref g) [.ref a] (backTo cpos (starEach es X.env)) (backToKw cpos (keywordEach [] X.env))) Q X.xe s1) :
    wpAny (model X.prog X.w) X.A (eval (.Call (.Attribute o m apos) es [] cpos) X.env) Q X.xe s := by
  rw [show eval (.Call (.Attribute o m apos) es [] cpos) X.env = (do
    let ov ← attributeBase o m X.env (eval o X.env)
    standAt apos.atName
    methodCall o m apos cpos X.env ov (es.length + ([] : List Keyword).length) (backTo cpos (starEach es X.env)) (backToKw cpos (keywordEach [] X.env))) from rfl, base_plain hb]
  refine wpAny_bind (thn (ho.run pins s σ H _ I h) fun u s1 hh => ?_)
  obtain ⟨x, H1, I1, r1, a, Cl, dx, fs, g, ex, ea, hn, c, k, q⟩ := hh
  subst ex
  obtain rfl : u = Value.ref a := r1
  refine wpAny_bind (wpAny_standAt ?_)
  have hpos : methodCallPos true o X.env apos cpos = pure cpos := by
    unfold methodCallPos
    simp [hline]
  unfold methodCall
  rw [form_of hs hl]
  refine wpAny_bind (wpAny_holding ?_)
  show wpAny _ _ (getMethod (.ref a) m _) _ _ _
  refine getmeth_ok I1 ea c k hn ?_
  exact wpAny_bind (wpAny_of_eq hpos (q s1 I1))
theorem g_meth {m : Str} {i : Nat} {cpos : Pos} {fs : Loc → Sto → R (List PV)} (K : Kx cc P C L X W) (hb : plainBase o = true) (hs : noStar es = true) (hl : es.length < 20) (hline : (apos.endLine == cpos.line) = true) (hi : ixS m cc.mths = some i) (ho : PE X o (rdE L X.K W fa))
    (hA : PA X es (rdA L X.K W fs)) (hz : es = [] → fs = fun _ st => .ok [] st) : PE X (.Call (.Attribute o m apos) es [] cpos) (rdE L X.K W fun σ st => (fa σ st).bind fun x st1 => methR P C i x (fs σ) st1) := by
  refine ⟨fun pins s σ H Q I ⟨ρ, st, σp, sm, l, h⟩ => meth_wp hb hs hl hline ho I (rdE.step sm l h fun v st1 ρ1 H1 x e1 s1 l1 r1 h1 => ?_)⟩
  unfold methR at h1
  cases v <;> simp only at h1 <;> first | exact h1.elim | skip
  split at h1
  · rename_i c fl e
    split at h1
    · rename_i d ed
      split at h1
      · rename_i f ef
        have r1' := r1
        obtain ⟨a, rfl, ha⟩ := r1
        obtain ⟨dx, lf, h2, h3⟩ := s1.obj _ _ a e ha
        obtain ⟨x, d', ed', hx, _, hm⟩ := K.at (List.getElem?_eq_some_iff.mp ed).1
        rw [ed] at ed'
        cases ed'
        obtain ⟨k1, k2, k3⟩ := K.cls _ _ hx
        obtain ⟨g, fd, ps, k, F, _, hr, hbd, hk, _, hM⟩ := K.fn f _ (hm i f m (ixS_get hi) ef)
        obtain ⟨M, _⟩ := hM m c rfl hx
        refine ⟨a, _, dx, lf, g, rfl, h2, RFs.noM (fun j => K.fmth j i m (ixS_get hi)) h3, k1, M, fun s5 I5 => ?_⟩
        have step : rdA L X.K W fs σ H1 fun vs H2 => FSp L X.K C f (.ref a :: vs) H2 Q (WE W σ) := rdA.step s1 l1 h1 fun vs st2 ρ2 H2 xs e2 s2 l2 r2 h2 => sp_of s2 (vs := _ :: vs) ⟨_, _, rfl, RV.ext s1 e2 _ _ r1', r2⟩ h2
        cases es with
        | nil =>
          obtain rfl := hz rfl
          obtain ⟨ρ', st', σ', sm', l', h'⟩ := step
          exact PySem.W.callWith_K0 I5.kIn M.kp (run_fnS (us := [.ref a]) (vs := [.ref a]) F hr hbd (passAt K.takes σ) I5 (.cons rfl .nil) (h'.now sm' _ rfl))
        | cons e es =>
          refine PySem.W.callWith_K (first := [.ref a]) (h₀ := X.base) I5.ok.mod.kin M.kp (thn (hA.run cpos pins s5 σ H1 _ I5 step) fun us s6 ⟨vs, H6, I6, r6, q6⟩ => ⟨I6.kIn, ?_⟩) (star_one hs) (star_plain (noStar_tl hs))
          exact run_fnS (us := .ref a :: us) (vs := .ref a :: vs) F hr hbd (passAt K.takes σ) I6 (.cons rfl r6) q6
      · exact h1.elim
    · exact h1.elim
  · exact h1.elim
end
end Rf
end
section
set_option Elab.async false
set_option linter.all false
set_option maxRecDepth 100000
set_option maxHeartbeats 1000000
/-! Rf11: makers, built-ins, isinstance, built-in methods. -/
namespace Rf
open PySem PySem.Spec PyProof.Rows L2
section
variable {cc : Cc} {P : Pg} {C : CallF} {L : Lk} {X : Cx} {W : WX} {a b c e o : Expr} {es : List Expr} {pos apos : Pos} {fa fb fc : Loc → Sto → R PV} {ct : Expr → Ex}
theorem make_sp {f c : Nat} {σ : List (Option V)} {H : Hp} {Q : VK} {ρ : List Addr} {st1 : Sto} {vs : List PV} {xs : List V} {x dx : Addr} (s1 : Sim L X.K ρ st1 H) (r1 : RVs X.K ρ H vs xs)
    (h : okR L X.K W ρ H σ ((noexc (C f (.obj st1.length :: vs) (st1 ++ [.ins c []]))).bind fun r st2 => (match r with
        | .non => .ok (.obj st1.length) st2
        | _ => .stuck)) (vQ X.K Q)) (hx : H x = none) (hdx : H dx = none) (hne : dx ≠ x) :
    FSp L X.K C f (.ref x :: (xs ++ [])) (upd (upd H dx (.own x)) x (.ins (L.cls c) dx [])) (fun v H2 => v = .non ∧ Q (.ref x) H2) (fun _ _ _ => False) := by
  have hx2 : (upd H dx (.own x)) x = none := by rw [upd_ne (Ne.symm hne)]; exact hx
  have e1 := Ext.laid (ρ := ρ) (o := HO.own x) hdx
  have s2 := s1.laid (o := HO.own x) hdx
  have e2 := Ext.new (o := HO.ins (L.cls c) dx []) s2 hx2
  have s3 := s2.new (o := HO.ins (L.cls c) dx []) (m := .ins c []) hx2 ⟨dx, [], upd_same, rfl⟩
  have e := e1.trans e2
  have hat : (ρ ++ [x])[st1.length]? = some x := by
    rw [List.getElem?_append_right (by rw [s1.len]; exact Nat.le_refl _), s1.len]
    simp
  refine ⟨ρ ++ [x], st1 ++ [.ins c []], .obj st1.length :: vs, s3, ⟨_, _, rfl, ⟨x, rfl, hat⟩, ?_⟩, ?_⟩
  · rw [List.append_nil]
    exact RVs.ext s1 e _ _ r1
  · generalize C f (.obj st1.length :: vs) (st1 ++ [.ins c []]) = q at h ⊢
    cases q with
    | stuck => exact h
    | exc d fs st' => exact h.elim
    | ok r st' =>
      cases r <;> first | exact h.elim | skip
      intro ρ' H' ee ss y ry
      exact ⟨ry, h ρ' H' (e.trans ee) ss _ ⟨x, rfl, ee.get hat⟩⟩
theorem passes_none {tk : Takes X W} : Passes (L2.CX X.prog X.w) X (fun _ _ _ => False) := passes_call (E := fun _ _ _ => False) tk fun _ _ _ _ z => z.elim
theorem make_out {c : Nat} {σ : List (Option V)} {H : Hp} {Q : VK} {ρ : List Addr} {st1 : Sto} {vs : List PV} (h : okR L X.K W ρ H σ (makeR P C c vs st1) (vQ X.K Q)) : ∃ d f, P.cls[c]? = some d ∧ d.init = some f ∧
    okR L X.K W ρ H σ ((noexc (C f (.obj st1.length :: vs) (st1 ++ [.ins c []]))).bind fun r st2 => (match r with
        | .non => .ok (.obj st1.length) st2
        | _ => .stuck)) (vQ X.K Q) := by
  unfold makeR at h
  split at h
  · rename_i d ed
    split at h
    · rename_i f ef
      exact ⟨d, f, ed, ef, h⟩
    · exact h.elim
  · exact h.elim
theorem g_make0 {x : Str} {p : Pos} {i : Nat} (K : Kx cc P C L X W) (hg : gloB X.env.scope x = true) (hi : ixS x cc.cls = some i) : PE X (.Call (.Name x p) [] [] pos) (rdE L X.K W fun _ st => makeR P C i [] st) := by
  obtain ⟨g1, g2⟩ := glo_of hg
  refine ⟨fun pins s σ H Q I hq => ?_⟩
  obtain ⟨ρ, st, σp, sm, l, h⟩ := hq
  obtain ⟨d, f, ed, ef, h⟩ := make_out h
  obtain ⟨x', hx, hin, _⟩ := K.pcls i d ed
  rw [ixS_get hi] at hx
  obtain rfl := Option.some.inj hx
  obtain ⟨k1, k2, k3⟩ := K.cls i x (ixS_get hi)
  obtain ⟨g, fd, ps, k, F, hr1, hr, hbd, hk, _, hM⟩ := K.fn f _ (hin f ef)
  obtain ⟨_, hMk⟩ := hM _ i rfl (ixS_get hi)
  exact (pe_make0 (hMk rfl) F hr1 g1 k2 hbd .nil (passes_none (tk := K.takes)) g2).run pins s σ H Q I fun y dy hy hdy hne => make_sp (vs := []) (xs := []) sm rfl h hy hdy hne
theorem g_make {x : Str} {p : Pos} {i : Nat} {fs : Loc → Sto → R (List PV)} (K : Kx cc P C L X W) (hg : gloB X.env.scope x = true) (hs : noStar (e :: es) = true) (hi : ixS x cc.cls = some i) (ha : PA X (e :: es) (rdA L X.K W fs))
    {d : Cl} {f : Nat} (ed : P.cls[i]? = some d) (ef : d.init = some f) :
    PE X (.Call (.Name x p) (e :: es) [] pos) (rdE L X.K W fun σ st => (fs σ st).bind fun vs st1 => makeR P C i vs st1) := by
  obtain ⟨g1, g2⟩ := glo_of hg
  obtain ⟨x', hx, hin, _⟩ := K.pcls i d ed
  rw [ixS_get hi] at hx
  obtain rfl := Option.some.inj hx
  obtain ⟨k1, k2, k3⟩ := K.cls i x (ixS_get hi)
  obtain ⟨g, fd, ps, k, F, hr1, hr, hbd, hk, _, hM⟩ := K.fn f _ (hin f ef)
  obtain ⟨_, hMk⟩ := hM _ i rfl (ixS_get hi)
  exact (pe_make (hMk rfl) F hr1 g1 k2 hbd .nil (passes_none (tk := K.takes)) ha g2 (star_one hs) (star_plain (noStar_tl hs))).of fun σ H Q ⟨ρ, st, σp, sm, l, h⟩ => rdA.step sm l h fun vs st1 ρ1 H1 xs e1 s1 l1 r1 h1 => by
    obtain ⟨d', f', ed', ef', h⟩ := make_out h1
    rw [ed] at ed'
    cases ed'
    rw [ef] at ef'
    cases ef'
    exact fun y dy hy hdy hne => make_sp s1 r1 h hy hdy hne
/-- a maker that never is -/
theorem make_no {i : Nat} {fs : Loc → Sto → R (List PV)} (h : ∀ d f, P.cls[i]? = some d → d.init = some f → False) (ha : PA X (e :: es) (rdA L X.K W fs)) {x : Str} {p : Pos} (hs : noStar (e :: es) = true) : True := trivial
/-! ### built-ins -/
def blName : Bl → Str
  | .abs => "abs" | .int => "int" | .len => "len" | .max2 => "max" | .min2 => "min" | .list => "list" | .tuple => "tuple" | .sum => "sum" | .max => "max" | .min => "min" | .sorted => "sorted" | .all => "all" | .any => "any" | .dict => "dict" | .sortset => "" | .str => ""
theorem bl_call {g : Bl} {r : List V → Hp → VK → Prop} {t : TA} {p : Pos} (K : Kx cc P C L X W) (hg : gloB X.env.scope (blName g) = true) (hf : cc.freeB (blName g) = true) (h1 : g ≠ .sortset) (h2 : g ≠ .str) (hr : CallR X (blVal g) r) (hs : noStar (e :: es) = true) (ha : PA X (e :: es) t) :
    PE X (.Call (.Name (blName g) p) (e :: es) [] pos) (tCB r t) := by
  obtain ⟨g1, g2⟩ := glo_of hg
  have s1 := star_one (env := X.env) hs
  have s2 := star_plain (env := X.env) (pos := pos) (noStar_tl hs)
  cases g with
  | sortset => exact absurd rfl h1
  | str => exact absurd rfl h2
  | abs => exact pe_callB hr g1 (K.free _ (by decide) hf) (by decide +kernel) ha (by decide) g2 s1 s2
  | int => exact pe_callTy hr g1 (K.free _ (by decide) hf) (by decide +kernel) ha (by decide) g2 s1 s2
  | len => exact pe_callB hr g1 (K.free _ (by decide) hf) (by decide +kernel) ha (by decide) g2 s1 s2
  | max2 => exact pe_callB hr g1 (K.free _ (by decide) hf) (by decide +kernel) ha (by decide) g2 s1 s2
  | min2 => exact pe_callB hr g1 (K.free _ (by decide) hf) (by decide +kernel) ha (by decide) g2 s1 s2
  | list => exact pe_callTy hr g1 (K.free _ (by decide) hf) (by decide +kernel) ha (by decide) g2 s1 s2
  | tuple => exact pe_callTy hr g1 (K.free _ (by decide) hf) (by decide +kernel) ha (by decide) g2 s1 s2
  | sum => exact pe_callB hr g1 (K.free _ (by decide) hf) (by decide +kernel) ha (by decide) g2 s1 s2
  | max => exact pe_callB hr g1 (K.free _ (by decide) hf) (by decide +kernel) ha (by decide) g2 s1 s2
  | min => exact pe_callB hr g1 (K.free _ (by decide) hf) (by decide +kernel) ha (by decide) g2 s1 s2
  | sorted => exact pe_callB hr g1 (K.free _ (by decide) hf) (by decide +kernel) ha (by decide) g2 s1 s2
  | all => exact pe_callB hr g1 (K.free _ (by decide) hf) (by decide +kernel) ha (by decide) g2 s1 s2
  | any => exact pe_callB hr g1 (K.free _ (by decide) hf) (by decide +kernel) ha (by decide) g2 s1 s2
  | dict => exact pe_callTy hr g1 (K.free _ (by decide) hf) (by decide +kernel) ha (by decide) g2 s1 s2
theorem g_bl {g : Bl} {p : Pos} {fs : Loc → Sto → R (List PV)} (K : Kx cc P C L X W) (hg : gloB X.env.scope (blName g) = true) (hf : cc.freeB (blName g) = true) (h1 : g ≠ .sortset) (h2 : g ≠ .str) (hs : noStar (e :: es) = true) (ha : PA X (e :: es) (rdA L X.K W fs)) :
    PE X (.Call (.Name (blName g) p) (e :: es) [] pos) (rdE L X.K W fun σ st => (fs σ st).bind fun vs st1 => blOf g vs st1) :=
  (bl_call K hg hf h1 h2 (cr_bl (L := L) (W := W) K.calm g h1) hs ha).of fun σ H Q ⟨ρ, st, σp, sm, l, h⟩ => rdA.step sm l h fun vs st1 ρ1 H1 xs e1 s1 l1 r1 h1 => ⟨ρ1, st1, σ, vs, s1, r1, h1⟩
/-- what is made there and then: a list of its own -/
def rdN (L : Lk) (K : PySem.W.Frag) (W : WX) (f : Loc → Sto → R (List PV)) : TE := fun σ H Q => ∃ ρ st σp, Sim L K ρ st H ∧ RLo K ρ H σp σ ∧
  okR L K W ρ H σ (f σp st) fun xs _ ρ' H' => ∀ (a : Addr) (vs : List V), H a = none → a ∉ ρ' → H' a = some (.lst vs) → RVs K ρ' H' xs vs → Q (.ref a) H'
theorem rdN.step {L : Lk} {K : PySem.W.Frag} {ρ : List Addr} {st : Sto} {H : Hp} {σ : List (Option V)} {σp : Loc} {β : Type} {Φ : β → Sto → List Addr → Hp → Prop} {f : Loc → Sto → R (List PV)} {g : List PV → Sto → R β} {Q : VK} (s : Sim L K ρ st H) (l : RLo K ρ H σp σ) (h : okR L K W ρ H σ ((f σp st).bind g) Φ)
    (k : ∀ xs st1 ρ1 H1 a vs, Ext ρ H ρ1 H1 → Sim L K ρ1 st1 H1 → RLo K ρ1 H1 σp σ → H a = none → a ∉ ρ1 → H1 a = some (.lst vs) → RVs K ρ1 H1 xs vs → okR L K W ρ1 H1 σ (g xs st1) Φ → Q (.ref a) H1) : rdN L K W f σ H Q :=
  ⟨ρ, st, σp, s, l, okR.mono h.bind fun xs st1 ρ1 H1 e1 s1 h1 a vs ha hn hv r => k xs st1 ρ1 H1 a vs e1 s1 (RLo.ext s e1 _ _ l) ha hn hv r h1⟩
/-- it is taken among the things of the store -/
theorem Sim.adopt {ρ : List Addr} {st : Sto} {H : Hp} {p : Addr} {m : MO} {K : PySem.W.Frag} (s : Sim L K ρ st H) (h : p ∉ ρ) (hs : SO L K ρ H m p) : Sim L K (ρ ++ [p]) (st ++ [m]) H where
  len := by rw [List.length_append, List.length_append, s.len]; rfl
  nd := List.nodup_append.mpr ⟨s.nd, by simp, fun a ha b hb => by
    rw [List.mem_singleton.mp hb]
    exact fun e => h (e ▸ ha)⟩
  obj := fun k u a e1 e2 => by
    have ext : ∀ {o : MO} {a : Addr}, SO L K ρ H o a → SO L K (ρ ++ [p]) H o a := fun {o a} q => by
      have mono : ∀ (x : PV) (v : V), RV K ρ H x v → RV K (ρ ++ [p]) H x v := fun x => by
        refine PV.rec (motive_1 := fun x => ∀ v, RV K ρ H x v → RV K (ρ ++ [p]) H x v) (motive_2 := fun xs => ∀ vs, RVs K ρ H xs vs → RVs K (ρ ++ [p]) H xs vs) ?_ ?_ ?_ ?_ ?_ ?_ ?_ ?_ ?_ x
        · exact fun v h => h
        · exact fun _ v h => h
        · exact fun _ v h => h
        · exact fun _ v h => h
        · rintro xs ih v ⟨a, vs, rfl, h1, h2⟩
          exact ⟨a, vs, rfl, h1, ih vs h2⟩
        · rintro xs ih v ⟨a, vs, rfl, h1, h2⟩
          exact ⟨a, vs, rfl, h1, ih vs h2⟩
        · rintro n v ⟨a, rfl, h⟩
          refine ⟨a, rfl, ?_⟩
          rw [List.getElem?_append_left (List.getElem?_eq_some_iff.mp h).1]
          exact h
        · exact fun vs h => h
        · rintro x xs ih ihs vs ⟨u, us, rfl, h1, h2⟩
          exact ⟨u, us, rfl, ih u h1, ihs us h2⟩
      have monos : ∀ (xs : List PV) (vs : List V), RVs K ρ H xs vs → RVs K (ρ ++ [p]) H xs vs := fun xs => by
        induction xs with
        | nil => exact fun vs h => h
        | cons x xs ih =>
          rintro vs ⟨u, us, rfl, h1, h2⟩
          exact ⟨u, us, rfl, mono _ _ h1, ih us h2⟩
      cases o with
      | lst xs => obtain ⟨vs, h1, h2⟩ := q; exact ⟨vs, h1, monos _ _ h2⟩
      | dct lk kvs =>
        obtain ⟨ks, h1, h2⟩ := q
        refine ⟨ks, ?_, h2⟩
        clear h2
        induction kvs generalizing ks with
        | nil => exact h1
        | cons y ys ih =>
          obtain ⟨k, u, us, rfl, q1, q2, q3, q4⟩ := h1
          exact ⟨k, u, us, rfl, q1, mono _ _ q2, mono _ _ q3, ih _ q4⟩
      | ins c fs =>
        obtain ⟨dx, l, h1, h2⟩ := q
        refine ⟨dx, l, h1, ?_⟩
        clear h1
        induction fs generalizing l with
        | nil => exact h2
        | cons y ys ih =>
          obtain ⟨u, us, rfl, q1, q2⟩ := h2
          exact ⟨u, us, rfl, mono _ _ q1, ih _ q2⟩
    by_cases hk : k < st.length
    · rw [List.getElem?_append_left hk] at e1
      rw [List.getElem?_append_left (by rw [s.len]; exact hk)] at e2
      exact ext (s.obj k u a e1 e2)
    · have hk1 : k < st.length + 1 := by
        have := (List.getElem?_eq_some_iff.mp e1).1
        simpa using this
      have ek : k = st.length := by omega
      subst ek
      rw [List.getElem?_append_right (Nat.le_refl _)] at e1
      rw [List.getElem?_append_right (by rw [s.len]; exact Nat.le_refl _), s.len] at e2
      simp at e1 e2
      subst e1 e2
      exact ext hs
theorem okR.raw {ρ : List Addr} {H : Hp} {σ : List (Option V)} {α β : Type} {r : R α} {g : α → Sto → R β} {Φ : β → Sto → List Addr → Hp → Prop} {K : PySem.W.Frag} (h : okR L K W ρ H σ (r.bind g) Φ) : okR L K W ρ H σ r fun a st1 _ _ => okR L K W ρ H σ (g a st1) Φ := by
  cases r with
  | ok a st1 => exact fun _ _ _ _ => h
  | exc c fs st1 => exact h
  | stuck => exact h
theorem Ext.adopt {ρ ρ1 : List Addr} {H H1 : Hp} {a : Addr} (e : Ext ρ H ρ1 H1) (h : H a = none) : Ext ρ H (ρ1 ++ [a]) H1 where
  pre := by
    obtain ⟨l, rfl⟩ := e.pre
    exact ⟨l ++ [a], by simp⟩
  fresh := fun b hb n => by
    rcases List.mem_append.mp hb with hb | hb
    · exact e.fresh b hb n
    · rw [List.mem_singleton.mp hb]; exact h
  keep := e.keep
  frz := e.frz
theorem adopt_imp {f : Loc → Sto → R (List PV)} {σ : L2.St} {H : Hp} {Q : VK} (hh : rdE L X.K W (fun σ st => (f σ st).bind fun xs st2 => newO id st2 (.lst xs)) σ H Q) : rdN L X.K W f σ H Q := by
  obtain ⟨ρ, st, σp, sm, l, h⟩ := hh
  exact ⟨ρ, st, σp, sm, l, okR.mono (okR.raw h) fun xs st1 ρ1 H1 e1 s1 h1 a vs ha hn hv r => by
    refine h1 (ρ1 ++ [a]) H1 (e1.adopt ha) (s1.adopt hn ⟨vs, hv, r⟩) _ ⟨a, rfl, ?_⟩
    rw [List.getElem?_append_right (by rw [s1.len]; exact Nat.le_refl _), s1.len]
    simp⟩
theorem g_adopt {f : Loc → Sto → R (List PV)} (h : PE X e (rdN L X.K W f)) : PE X e (rdE L X.K W fun σ st => (f σ st).bind fun xs st2 => newO id st2 (.lst xs)) :=
  h.of fun σ H Q h => adopt_imp h
/-- a display of its own -/
theorem n_lst {f : Loc → Sto → R (List PV)} (h : PA X es (rdA L X.K W f)) : PE X (.List es pos) (rdN L X.K W fun σ st => (f σ st).bind fun vs st1 => if vs.length ≤ big then .ok vs st1 else .stuck) :=
  (pe_lst h).of fun σ H Q ⟨ρ, st, σp, s, l, h⟩ => ⟨ρ, st, σp, s, l, okR.mono (okR.raw h) fun vs st1 ρ1 H1 e1 s1 h1 xs r1 => by
    split at h1
    · rename_i hz
      refine ⟨by rw [← r1.length]; exact Nat.le_trans hz big_line, fun p hp => ?_⟩
      have hn : H p = none := by
        cases q : H p with
        | none => rfl
        | some o =>
          by_cases m : p ∈ ρ
          · obtain ⟨o', e⟩ := s1.has (e1.mem m)
            rw [hp] at e
            cases e
          · rw [e1.keep p o q m] at hp
            cases hp
      have e2 := Ext.laid (ρ := ρ1) (o := .lst xs) hp
      exact h1 _ _ (e1.trans e2) (s1.laid hp) p xs hn (s1.fresh hp) upd_same (RVs.ext s1 e2 _ _ r1)
    · exact h1.elim⟩
theorem back_none {ρ ρ1 : List Addr} {H H1 : Hp} {st1 : Sto} {K : PySem.W.Frag} {p : Addr} (e1 : Ext ρ H ρ1 H1) (s1 : Sim L K ρ1 st1 H1) (hp : H1 p = none) : H p = none := by
  cases q : H p with
  | none => rfl
  | some o =>
    by_cases m : p ∈ ρ
    · obtain ⟨o', e⟩ := s1.has (e1.mem m)
      rw [hp] at e
      cases e
    · rw [e1.keep p o q m] at hp
      cases hp
/-- a built-in over what is made there and then -/
theorem g_blN {g : Bl} {p : Pos} {f : Loc → Sto → R (List PV)} (K : Kx cc P C L X W) (hg : gloB X.env.scope (blName g) = true) (hf : cc.freeB (blName g) = true) (h1 : g ≠ .sortset) (h2 : g ≠ .str) (hs : noStar [e] = true) (he : PE X e (rdN L X.K W f)) :
    PE X (.Call (.Name (blName g) p) [e] [] pos) (rdE L X.K W fun σ st => (f σ st).bind fun xs st1 => blSeq g false xs st1) := by
  have cr : CallR X (blVal g) (rdSeq L X.K W g false) := by
    by_cases hd : g = .dict
    · subst hd
      exact cr_dictL K.calm
    · exact cr_seq K.calm g h1 hd false
  exact (bl_call K hg hf h1 h2 cr hs (pa_cons he pa_nil (star_one hs))).of fun σ H Q ⟨ρ, st, σp, sm, l, h⟩ =>
    show rdN L X.K W f σ H (fun x H1 => rdSeq L X.K W g false [x] H1 Q) from rdN.step sm l h fun xs st1 ρ1 H1 a vs e1 s1 l1 ha hn hv r h1 => ⟨ρ1, st1, σ, xs, a, vs, rfl, s1, r, SqL.of hv, h1⟩
/-! ### isinstance -/
def kdTy : Kd → String
  | .kint => "int" | .kbool => "bool" | .kstr => "str" | .klist => "list" | .ktup => "tuple"
def pvTy : PV → String
  | .non => "NoneType" | .bl _ => "bool" | .int _ => "int" | .str _ => "str" | .tup _ => "tuple" | .rol _ => "list" | .obj _ => "list"
theorem ty_of {ρ : List Addr} {st : Sto} {H : Hp} {x : PV} {v : V} {k : Kd} {b : Bool} (s : Sim L X.K ρ st H) (r : RV X.K ρ H x v) (h : kindOf x st k = some b) : TyX X.K H v (.type (pvTy x)) ∧ kitB (pvTy x) (kdTy k) = some b := by
  cases x with
  | non =>
    rw [show v = V.non from r]
    refine ⟨.base .non, ?_⟩
    cases k <;> simp only [kindOf, Option.some.injEq] at h <;> subst h <;> (simp only [pvTy, kdTy]; decide +kernel)
  | bl y =>
    rw [show v = V.bl y from r]
    refine ⟨.base (.bl y), ?_⟩
    cases k <;> simp only [kindOf, Option.some.injEq] at h <;> subst h <;> (simp only [pvTy, kdTy]; decide +kernel)
  | int y =>
    rw [show v = V.int y from r]
    refine ⟨.base (.int y), ?_⟩
    cases k <;> simp only [kindOf, Option.some.injEq] at h <;> subst h <;> (simp only [pvTy, kdTy]; decide +kernel)
  | str y =>
    rw [show v = V.str y from r.1]
    refine ⟨.base (.str y), ?_⟩
    cases k <;> simp only [kindOf, Option.some.injEq] at h <;> subst h <;> (simp only [pvTy, kdTy]; decide +kernel)
  | tup y =>
    obtain ⟨a, vs, rfl, h1, h2⟩ := r
    refine ⟨?_, ?_⟩
    · rcases h1 with ⟨o, e, _⟩ | ⟨o, its, n, e, c, _⟩
      · exact .fTuple e
      · exact .kTuple e c
    · cases k <;> simp only [kindOf, Option.some.injEq] at h <;> subst h <;> (simp only [pvTy, kdTy]; decide +kernel)
  | rol y =>
    obtain ⟨a, vs, rfl, h1, h2⟩ := r
    refine ⟨?_, ?_⟩
    · rcases h1 with ⟨o, e⟩ | ⟨o, its, n, e, c, _⟩
      · exact .base (.frz e)
      · exact .kList e c
    · cases k <;> simp only [kindOf, Option.some.injEq] at h <;> subst h <;> (simp only [pvTy, kdTy]; decide +kernel)
  | obj n =>
    obtain ⟨a, rfl, ha⟩ := r
    simp only [kindOf] at h
    split at h
    · rename_i xs e
      obtain ⟨vs, h1, _⟩ := s.obj _ _ a e ha
      refine ⟨.base (.lst h1), ?_⟩
      cases k <;> simp only [Option.some.injEq] at h <;> subst h <;> (simp only [pvTy, kdTy]; decide +kernel)
    · cases h
theorem kdOf_name {sc : Scope} {k : Expr} {d : Kd} (h : kdOf cc sc k = some d) : ∃ p, k = .Name (show Str from kdTy d) p ∧ gloB sc (kdTy d) = true ∧ cc.freeB (kdTy d) = true := by
  unfold kdOf at h
  split at h
  · rename_i x p
    split at h
    · rename_i hg
      rw [Bool.and_eq_true] at hg
      split at h
      · rename_i e; cases h; subst e; exact ⟨p, rfl, hg.1, hg.2⟩
      · split at h
        · rename_i e; cases h; subst e; exact ⟨p, rfl, hg.1, hg.2⟩
        · split at h
          · rename_i e; cases h; subst e; exact ⟨p, rfl, hg.1, hg.2⟩
          · split at h
            · rename_i e; cases h; subst e; exact ⟨p, rfl, hg.1, hg.2⟩
            · split at h
              · rename_i e; cases h; subst e; exact ⟨p, rfl, hg.1, hg.2⟩
              · cases h
    · cases h
  · cases h
theorem pe_kd {d : Kd} {p : Pos} (K : Kx cc P C L X W) (hg : gloB X.env.scope (kdTy d) = true) (hf : cc.freeB (kdTy d) = true) : PE X (.Name (show Str from kdTy d) p) (tC (.ty (kdTy d))) := by
  obtain ⟨g1, g2⟩ := glo_of hg
  cases d
  · exact pe_bltn g1 (K.free _ (by decide) hf) (u := .type "int") (by decide +kernel) rfl (by decide) g2
  · exact pe_bltn g1 (K.free _ (by decide) hf) (u := .type "bool") (by decide +kernel) rfl (by decide) g2
  · exact pe_bltn g1 (K.free _ (by decide) hf) (u := .type "str") (by decide +kernel) rfl (by decide) g2
  · exact pe_bltn g1 (K.free _ (by decide) hf) (u := .type "list") (by decide +kernel) rfl (by decide) g2
  · exact pe_bltn g1 (K.free _ (by decide) hf) (u := .type "tuple") (by decide +kernel) rfl (by decide) g2
theorem isin_one {x : PV} {st : Sto} {k : Kd} {b : Bool} (h : isin x st [k] = some b) : kindOf x st k = some b := by
  simp only [isin, Option.bind_eq_bind, Option.bind_eq_some_iff, Option.pure_def, Option.some.injEq] at h
  obtain ⟨a, h1, b', rfl, rfl⟩ := h
  rw [h1, Bool.or_false]
theorem g_isin1 {k : Expr} {d : Kd} {p : Pos} (K : Kx cc P C L X W) (hg : gloB X.env.scope "isinstance" = true) (hf : cc.freeB "isinstance" = true) (hk : kdOf cc X.env.scope k = some d) (hs : noStar [e, k] = true) (he : PE X e (rdE L X.K W fa)) :
    PE X (.Call (.Name "isinstance" p) [e, k] [] pos) (rdE L X.K W fun σ st => (fa σ st).bind fun x st1 => (oR (isin x st1 [d]) st1).bind fun c st2 => .ok (.bl c) st2) := by
  obtain ⟨g1, g2⟩ := glo_of hg
  obtain ⟨q, rfl, k1, k2⟩ := kdOf_name hk
  have ha := pa_cons he (pa_cons (pe_kd K k1 k2 (p := q)) pa_nil (star_one (noStar_tl hs))) (star_one hs)
  exact (pe_callB call_isi g1 (K.free _ (by decide) hf) (by decide +kernel) ha (by decide) g2 (star_one hs) (star_plain (noStar_tl hs))).of fun σ H Q ⟨ρ, st, σp, sm, l, h⟩ => rdE.step sm l h fun v st1 ρ1 H1 x e1 s1 l1 r1 h1 => by
    obtain ⟨b, hb, h⟩ := h1.bind.oR
    obtain ⟨t1, t2⟩ := ty_of s1 r1 (isin_one hb)
    exact ⟨x, .ty (kdTy d), _, .type (kdTy d), b, rfl, .ty _, t1, kit_ty t2, (h.now s1).now s1 _ rfl⟩
theorem kits_of {ρ : List Addr} {st : Sto} {H : Hp} {x : PV} {v : V} (s : Sim L X.K ρ st H) (r : RV X.K ρ H x v) : ∀ {ds : List Kd} {b : Bool}, isin x st ds = some b → (ds ≠ [] → TyX X.K H v (.type (pvTy x))) ∧ PySem.W.kitAny X.K (.type (pvTy x)) (ds.map fun d => .type (kdTy d)) = some b
  | [], b, h => by
    simp only [isin, Option.some.injEq] at h
    subst h
    exact ⟨fun q => absurd rfl q, kitAny_nil⟩
  | d :: ds, b, h => by
    simp only [isin, Option.bind_eq_bind, Option.bind_eq_some_iff, Option.pure_def, Option.some.injEq] at h
    obtain ⟨a, h1, b', h2, rfl⟩ := h
    obtain ⟨t1, t2⟩ := ty_of s r h1
    obtain ⟨_, ih⟩ := kits_of s r h2
    refine ⟨fun _ => t1, kitAny_cons (kit_ty t2) (fun e => ?_) (fun e => ?_)⟩
    · subst e
      rw [Bool.false_or]
      exact ih
    · rw [e, Bool.true_or]
theorem pa_kds (K : Kx cc P C L X W) : ∀ {ks : List Expr} {ds : List Kd}, ks.mapM (kdOf cc X.env.scope) = some ds → PA X ks (fun σ H Q => Q (ds.map fun d => V.ty (kdTy d)) H)
  | [], ds, h => by
    have e : ds = [] := by simpa using h.symm
    subst e
    exact pa_nil
  | k :: ks, ds, h => by
    simp only [List.mapM_cons, Option.bind_eq_bind, Option.bind_eq_some_iff, Option.pure_def, Option.some.injEq] at h
    obtain ⟨d, hd, ds', hds, rfl⟩ := h
    obtain ⟨q, rfl, k1, k2⟩ := kdOf_name hd
    exact (pa_cons (pe_kd K k1 k2 (p := q)) (pa_kds K hds) rfl).of fun σ H Q h => h
theorem cls_all : ∀ ds : List Kd, Paired ClsV (ds.map fun d => V.ty (kdTy d)) (ds.map fun d => Value.type (kdTy d))
  | [] => .nil
  | d :: ds => .cons (.ty _) (cls_all ds)
theorem g_isinT {ks : List Expr} {ds : List Kd} {k : Nat} {p p2 : Pos} (K : Kx cc P C L X W) (hg : gloB X.env.scope "isinstance" = true) (hf : cc.freeB "isinstance" = true) (hk : ks.mapM (kdOf cc X.env.scope) = some ds) (hd : ds ≠ [] ∧ ds.length ≤ 30) (hs : noStar [e, .Tuple ks k p2] = true) (he : PE X e (rdE L X.K W fa)) :
    PE X (.Call (.Name "isinstance" p) [e, .Tuple ks k p2] [] pos) (rdE L X.K W fun σ st => (fa σ st).bind fun x st1 => (oR (isin x st1 ds) st1).bind fun c st2 => .ok (.bl c) st2) := by
  obtain ⟨g1, g2⟩ := glo_of hg
  have ha := pa_cons he (pa_cons (pe_tup (pa_kds K hk) (pos := p2) (x1 := k)) pa_nil (star_one (noStar_tl hs))) (star_one hs)
  exact (pe_callB call_isiT g1 (K.free _ (by decide) hf) (by decide +kernel) ha (by decide) g2 (star_one hs) (star_plain (noStar_tl hs))).of fun σ H Q ⟨ρ, st, σp, sm, l, h⟩ => rdE.step sm l h fun v st1 ρ1 H1 x e1 s1 l1 r1 h1 => by
    obtain ⟨b, hb, h⟩ := h1.bind.oR
    refine ⟨by rw [List.length_map, sizeLine_eq]; omega, fun q hq => ?_⟩
    have e2 := Ext.laid (ρ := ρ1) (o := .tup (ds.map fun d => V.ty (kdTy d))) hq
    have s2 := s1.laid (o := .tup (ds.map fun d => V.ty (kdTy d))) hq
    obtain ⟨t1, t2⟩ := kits_of s2 (RV.ext s1 e2 _ _ r1) hb
    exact ⟨x, q, _, _, _, b, rfl, upd_same, cls_all ds, t1 hd.1, t2, h _ _ e2 s2 _ _ Ext.refl s2 _ rfl⟩
end
end Rf
end
section
set_option Elab.async false
set_option linter.all false
set_option maxRecDepth 100000
set_option maxHeartbeats 1000000
/-! Rf12: sorted(set(..)), methods of lists and dicts. -/
namespace Rf
open PySem PySem.Spec PyProof.Rows L2
section
variable {cc : Cc} {P : Pg} {C : CallF} {L : Lk} {X : Cx} {W : WX} {a b c e o : Expr} {es : List Expr} {pos apos cpos : Pos} {fa fb fc : Loc → Sto → R PV} {ct : Expr → Ex}
theorem sortset_step {ρ : List Addr} {st : Sto} {H : Hp} {σ : List (Option V)} {Q : VK} {t : Bool} {xs : List PV} {vs : List V} {q : Addr} (s : Sim L X.K ρ st H) (r : RVs X.K ρ H xs vs) (sq : SqL X.K H q vs ∨ SqT X.K H q vs) (h : okR L X.K W ρ H σ (blSeq .sortset t xs st) (vQ X.K Q)) :
    rSetI X.K X.w [.ref q] H fun y H1 => rSortedSet X.w [y] H1 Q := by
  simp only [blSeq] at h
  split at h
  · rename_i ns e
    split at h
    · rename_i h63
      have ev : vs = ns.map V.int := RVs.pints (K := X.K) (ρ := ρ) (H := H) (by rw [← ints_eq e]; exact r)
      subst ev
      obtain ⟨h63a, h63b⟩ := h63
      refine ⟨q, ns, rfl, sq, by omega, fun p n hp hn => ⟨p, _, n, rfl, upd_same, by omega, fun ys l hs hm hl hf => ?_⟩⟩
      rw [set_same (ns := ns) (fun x => by rw [hm x, decide_eq_true_eq]) hs]
      have e1 := Ext.laid (ρ := ρ) (o := SetO X.w p (fun j => decide (j ∈ ns)) n) hp
      have s1 := s.laid (o := SetO X.w p (fun j => decide (j ∈ ns)) n) hp
      obtain ⟨h3, h4⟩ := (okR.ext h e1).newO s1 (o := .lst ((dedup (sortI ns)).map V.int)) hf ⟨_, upd_same, RVs.ofInts _⟩
      exact h3 _ h4
    · exact h.elim
  · exact h.elim
theorem pe_sortset {t : TE} {p p2 pos2 : Pos} (K : Kx cc P C L X W) (hg : gloB X.env.scope "sorted" = true) (hf : cc.freeB "sorted" = true) (hg2 : gloB X.env.scope "set" = true) (hf2 : cc.freeB "set" = true) (hs : noStar [e] = true) (he : PE X e t) :
    PE X (.Call (.Name "sorted" p) [.Call (.Name "set" p2) [e] [] pos2] [] pos) (fun σ H Q => t σ H fun y H1 => rSetI X.K X.w [y] H1 fun z H2 => rSortedSet X.w [z] H2 Q) := by
  obtain ⟨g1, g2⟩ := glo_of hg
  obtain ⟨g3, g4⟩ := glo_of hg2
  have h1 : PE X (.Call (.Name "set" p2) [e] [] pos2) (tCB (rSetI X.K X.w) (tCons t tNil)) := pe_callTy (cr_setI K.calm) g3 (K.free _ (by decide) hf2) (by decide +kernel) (pa_cons he pa_nil (star_one hs)) (by decide) g4 (star_one hs) rfl
  exact (pe_callB (cr_sortedSet K.calm) g1 (K.free _ (by decide) hf) (by decide +kernel) (pa_cons h1 pa_nil rfl) (by decide) g2 rfl rfl).of fun σ H Q h => h
theorem g_sortset {p p2 pos2 : Pos} (K : Kx cc P C L X W) (hg : gloB X.env.scope "sorted" = true) (hf : cc.freeB "sorted" = true) (hg2 : gloB X.env.scope "set" = true) (hf2 : cc.freeB "set" = true) (hs : noStar [e] = true) (he : PE X e (rdE L X.K W fa)) :
    PE X (.Call (.Name "sorted" p) [.Call (.Name "set" p2) [e] [] pos2] [] pos) (rdE L X.K W fun σ st => (fa σ st).bind fun v st1 => blOf .sortset [v] st1) :=
  (pe_sortset K hg hf hg2 hf2 hs he).of fun σ H Q ⟨ρ, st, σp, sm, l, h⟩ => rdE.step sm l h fun v st1 ρ1 H1 x e1 s1 l1 r1 h1 => by
    cases v with
    | tup ys => obtain ⟨q, vs, rfl, k1, k2⟩ := r1; exact sortset_step (t := true) s1 k2 (.inr k1.sq) h1
    | rol ys => obtain ⟨q, vs, rfl, k1, k2⟩ := r1; exact sortset_step (t := false) s1 k2 (.inl k1.sq) h1
    | obj k =>
      obtain ⟨q, rfl, ha⟩ := r1
      simp only [blOf] at h1
      split at h1
      · rename_i ys e
        obtain ⟨vs, k1, k2⟩ := s1.obj _ _ q e ha
        exact sortset_step (t := false) s1 k2 (.inl (SqL.of k1)) h1
      · exact h1.elim
      · exact h1.elim
    | _ => exact h1.elim
theorem g_sortsetN {f : Loc → Sto → R (List PV)} {p p2 pos2 : Pos} (K : Kx cc P C L X W) (hg : gloB X.env.scope "sorted" = true) (hf : cc.freeB "sorted" = true) (hg2 : gloB X.env.scope "set" = true) (hf2 : cc.freeB "set" = true) (hs : noStar [e] = true) (he : PE X e (rdN L X.K W f)) :
    PE X (.Call (.Name "sorted" p) [.Call (.Name "set" p2) [e] [] pos2] [] pos) (rdE L X.K W fun σ st => (f σ st).bind fun xs st1 => blSeq .sortset false xs st1) :=
  (pe_sortset K hg hf hg2 hf2 hs he).of fun σ H Q ⟨ρ, st, σp, sm, l, h⟩ => rdN.step sm l h fun xs st1 ρ1 H1 a vs e1 s1 l1 ha hn hv r h1 => sortset_step s1 r (.inl (SqL.of hv)) h1
/-! ### methods of lists -/
theorem ty_lst {ρ : List Addr} {st : Sto} {H : Hp} {v : PV} {x : V} {m : Bm} (s : Sim L X.K ρ st H) (r : RV X.K ρ H v x) (h : bmTy m v st = true) (hm : m ≠ .get1 ∧ m ≠ .get2) : tyV X.K "list" x H := by
  unfold bmTy at h
  cases v <;> simp only [Bool.false_eq_true] at h
  obtain ⟨a, rfl, ha⟩ := r
  split at h
  · exact absurd rfl hm.1
  · exact absurd rfl hm.2
  all_goals first
    | (rename_i e; obtain ⟨vs, h1, _⟩ := s.obj _ _ a e ha; exact .inl ⟨rfl, vs, SqL.of h1⟩)
    | cases h
theorem lst_at {ρ : List Addr} {st : Sto} {H : Hp} {k : Nat} {x : V} {xs : List PV} (s : Sim L X.K ρ st H) (r : RV X.K ρ H (.obj k) x) (e : st[k]? = some (.lst xs)) : ∃ a vs, x = .ref a ∧ ρ[k]? = some a ∧ H a = some (.lst vs) ∧ RVs X.K ρ H xs vs := by
  obtain ⟨a, rfl, ha⟩ := r
  obtain ⟨vs, h1, h2⟩ := s.obj _ _ a e ha
  exact ⟨a, vs, rfl, ha, h1, h2⟩
theorem wr_step {ρ : List Addr} {st : Sto} {H : Hp} {σ : List (Option V)} {Q : VK} {k : Nat} {a : Addr} {v : PV} {x : V} {ys : List PV} {us : List V} (s : Sim L X.K ρ st H) (ha : ρ[k]? = some a) {vs0 : List V} (h0 : H a = some (.lst vs0)) (rs : RVs X.K ρ H ys us) (rx : RV X.K ρ H v x)
    (h : okR L X.K W ρ H σ (.ok v (st.set k (.lst ys))) (vQ X.K Q)) : Q x (upd H a (.lst us)) := by
  have e := Ext.write (H := H) (o := .lst us) ha (lst_nf h0)
  exact h _ _ e (s.write ha (lst_nf h0) ⟨us, upd_same, RVs.ext s e _ _ rs⟩) _ (RV.ext s e _ _ rx)
theorem app_step {ρ : List Addr} {st : Sto} {H : Hp} {σ : List (Option V)} {Q : VK} {v : PV} {x : V} {vs : List PV} {xs : List V} (s : Sim L X.K ρ st H) (r : RV X.K ρ H v x) (rs : RVs X.K ρ H vs xs) (h : okR L X.K W ρ H σ (appR v vs st) (vQ X.K Q)) : rAppend x xs H Q := by
  unfold appR at h
  split at h
  · split at h
    · rename_i ys e
      split at h
      · rename_i hz
        obtain ⟨a, us, rfl, ha, h1, h2⟩ := lst_at s r e
        obtain ⟨u, _, rfl, ru, rfl⟩ := rs
        exact ⟨a, us, u, rfl, rfl, h1, by rw [← h2.length]; exact Nat.lt_of_lt_of_le hz big_line, wr_step s ha h1 (v := .non) (h2.append (RVs.one ru)) rfl h⟩
      · exact h.elim
    · exact h.elim
  · exact h.elim
theorem ext_step {ρ : List Addr} {st : Sto} {H : Hp} {σ : List (Option V)} {Q : VK} {v : PV} {x : V} {ys : List PV} {us : List V} {q : Addr} (s : Sim L X.K ρ st H) (r : RV X.K ρ H v x) (hq : H q = some (.lst us)) (rs : RVs X.K ρ H ys us) (h : okR L X.K W ρ H σ (extR v ys st) (vQ X.K Q)) : rExtend x [.ref q] H Q := by
  unfold extR at h
  split at h
  · split at h
    · rename_i xs e
      split at h
      · rename_i hz
        obtain ⟨a, vs, rfl, ha, h1, h2⟩ := lst_at s r e
        exact ⟨a, q, vs, us, rfl, rfl, h1, hq, by rw [← h2.length, ← rs.length]; exact Nat.le_trans hz big_line, wr_step s ha h1 (v := .non) (h2.append rs) rfl h⟩
      · exact h.elim
    · exact h.elim
  · exact h.elim
theorem extO_step {ρ : List Addr} {st : Sto} {H : Hp} {σ : List (Option V)} {Q : VK} {v : PV} {x : V} {vs : List PV} {xs : List V} (s : Sim L X.K ρ st H) (r : RV X.K ρ H v x) (rs : RVs X.K ρ H vs xs) (h : okR L X.K W ρ H σ (extOR v vs st) (vQ X.K Q)) : rExtend x xs H Q := by
  unfold extOR at h
  split at h
  · split at h
    · rename_i ys e
      obtain ⟨u, _, rfl, ru, rfl⟩ := rs
      obtain ⟨q, us, rfl, hq, h1, h2⟩ := lst_at s ru e
      exact ext_step s r h1 h2 h
    · exact h.elim
  · exact h.elim
theorem pop_step {ρ : List Addr} {st : Sto} {H : Hp} {σ : List (Option V)} {Q : VK} {v : PV} {x : V} {vs : List PV} {xs : List V} (s : Sim L X.K ρ st H) (r : RV X.K ρ H v x) (rs : RVs X.K ρ H vs xs) (h : okR L X.K W ρ H σ (popR v vs st) (vQ X.K Q)) : rPop x xs H Q := by
  unfold popR at h
  split at h
  · split at h
    · rename_i ys e
      split at h
      · rename_i y ey
        obtain ⟨a, us, rfl, ha, h1, h2⟩ := lst_at s r e
        rw [List.getLast?_eq_getElem?] at ey
        obtain ⟨u, eu, ru⟩ := h2.get ey
        rw [h2.length] at eu
        exact ⟨a, us, u, rfl, rs, h1, eu, wr_step s ha h1 h2.dropLast ru h⟩
      · exact h.elim
    · exact h.elim
  · exact h.elim
theorem popAt_step {ρ : List Addr} {st : Sto} {H : Hp} {σ : List (Option V)} {Q : VK} {v : PV} {x : V} {vs : List PV} {xs : List V} (s : Sim L X.K ρ st H) (r : RV X.K ρ H v x) (rs : RVs X.K ρ H vs xs) (h : okR L X.K W ρ H σ (popAtR v vs st) (vQ X.K Q)) : rPopAt x xs H Q := by
  unfold popAtR at h
  split at h
  · rename_i i
    split at h
    · rename_i ys e
      split at h
      · rename_i hz
        split at h
        · rename_i j ej
          split at h
          · rename_i y ey
            obtain ⟨a, us, rfl, ha, h1, h2⟩ := lst_at s r e
            obtain ⟨w, _, rfl, rw', rfl⟩ := rs
            obtain rfl : w = V.int i := rw'
            obtain ⟨u, eu, ru⟩ := h2.get ey
            rw [ixOf_eq, h2.length] at ej
            obtain ⟨k1, k2, k3, k4⟩ := ixN_seq ej
            rw [h2.length] at hz
            have hb : big = 16777216 := rfl
            exact ⟨a, us, i, j, u, rfl, rfl, h1, by omega, by omega, k1, eu, wr_step s ha h1 (h2.eraseIdx j) ru h⟩
          · exact h.elim
        · exact h.elim
      · exact h.elim
    · exact h.elim
  · exact h.elim
theorem g_lm {m : Bm} {name : Str} {id : String} {r : V → List V → Hp → VK → Prop} {fs : Loc → Sto → R (List PV)} (hm : m ≠ .get1 ∧ m ≠ .get2) (hb : plainBase o = true) (hs : noStar (e :: es) = true) (hl : (e :: es).length < 20) (hline : (apos.endLine == cpos.line) = true)
    (slot : Slot "list" name id) (ty : typeOf (.builtin id) = pure (.type "method_descriptor")) (mt : MtR X id r)
    (step : ∀ {ρ : List Addr} {st : Sto} {H : Hp} {σ : List (Option V)} {Q : VK} {v : PV} {x : V} {vs : List PV} {xs : List V}, Sim L X.K ρ st H → RV X.K ρ H v x → RVs X.K ρ H vs xs → okR L X.K W ρ H σ (bmOf m v vs st) (vQ X.K Q) → r x xs H Q)
    (ho : PE X o (rdE L X.K W fa)) (ha : PA X (e :: es) (rdA L X.K W fs)) :
    PE X (.Call (.Attribute o name apos) (e :: es) [] cpos) (rdE L X.K W fun σ st => (fa σ st).bind fun x st1 => if bmTy m x st1 = true then (fs σ st1).bind fun vs st2 => bmOf m x vs st2 else .stuck) :=
  (pe_bm PySem.F.plainAttrs_list slot ty mt ho ha (base_plain hb) (form_of hs hl) hline (star_one hs) (star_plain (noStar_tl hs))).of fun σ H Q ⟨ρ, st, σp, sm, l, h⟩ => rdE.step sm l h fun v st1 ρ1 H1 x e1 s1 l1 r1 h1 => by
    split at h1
    · rename_i hty
      exact ⟨ty_lst s1 r1 hty hm, rdA.step s1 l1 h1 fun vs st2 ρ2 H2 xs e2 s2 l2 r2 h2 => step s2 (RV.ext s1 e2 _ _ r1) r2 h2⟩
    · exact h1.elim
theorem g_append {fs : Loc → Sto → R (List PV)} (hb : plainBase o = true) (hs : noStar (e :: es) = true) (hl : (e :: es).length < 20) (hline : (apos.endLine == cpos.line) = true) (ho : PE X o (rdE L X.K W fa)) (ha : PA X (e :: es) (rdA L X.K W fs)) :
    PE X (.Call (.Attribute o "append" apos) (e :: es) [] cpos) (rdE L X.K W fun σ st => (fa σ st).bind fun x st1 => if bmTy .append x st1 = true then (fs σ st1).bind fun vs st2 => bmOf .append x vs st2 else .stuck) :=
  g_lm (by decide) hb hs hl hline PySem.F.slot_list_append PySem.F.type_list_append mt_append app_step ho ha
theorem g_extend {fs : Loc → Sto → R (List PV)} (hb : plainBase o = true) (hs : noStar (e :: es) = true) (hl : (e :: es).length < 20) (hline : (apos.endLine == cpos.line) = true) (ho : PE X o (rdE L X.K W fa)) (ha : PA X (e :: es) (rdA L X.K W fs)) :
    PE X (.Call (.Attribute o "extend" apos) (e :: es) [] cpos) (rdE L X.K W fun σ st => (fa σ st).bind fun x st1 => if bmTy .extend x st1 = true then (fs σ st1).bind fun vs st2 => bmOf .extend x vs st2 else .stuck) :=
  g_lm (by decide) hb hs hl hline PySem.F.slot_list_extend PySem.F.type_list_extend mt_extend extO_step ho ha
theorem g_popAt {fs : Loc → Sto → R (List PV)} (hb : plainBase o = true) (hs : noStar (e :: es) = true) (hl : (e :: es).length < 20) (hline : (apos.endLine == cpos.line) = true) (ho : PE X o (rdE L X.K W fa)) (ha : PA X (e :: es) (rdA L X.K W fs)) :
    PE X (.Call (.Attribute o "pop" apos) (e :: es) [] cpos) (rdE L X.K W fun σ st => (fa σ st).bind fun x st1 => if bmTy .popAt x st1 = true then (fs σ st1).bind fun vs st2 => bmOf .popAt x vs st2 else .stuck) :=
  g_lm (by decide) hb hs hl hline PySem.F.slot_list_pop PySem.F.type_list_pop mt_popAt popAt_step ho ha
theorem g_pop (hb : plainBase o = true) (hline : (apos.endLine == cpos.line) = true) (ho : PE X o (rdE L X.K W fa)) :
    PE X (.Call (.Attribute o "pop" apos) [] [] cpos) (rdE L X.K W fun σ st => (fa σ st).bind fun x st1 => if bmTy .pop x st1 = true then bmOf .pop x [] st1 else .stuck) :=
  (pe_bm0 PySem.F.plainAttrs_list PySem.F.slot_list_pop PySem.F.type_list_pop mt_pop ho (base_plain hb) hline).of fun σ H Q ⟨ρ, st, σp, sm, l, h⟩ => rdE.step sm l h fun v st1 ρ1 H1 x e1 s1 l1 r1 h1 => by
    split at h1
    · rename_i hty
      exact ⟨ty_lst s1 r1 hty (by decide), pop_step (vs := []) s1 r1 rfl h1⟩
    · exact h1.elim
/-- extend by what is made there and then -/
theorem g_extN {f : Loc → Sto → R (List PV)} (hb : plainBase o = true) (hs : noStar [e] = true) (hline : (apos.endLine == cpos.line) = true) (ho : PE X o (rdE L X.K W fa)) (he : PE X e (rdN L X.K W f)) :
    PE X (.Call (.Attribute o "extend" apos) [e] [] cpos) (rdE L X.K W fun σ st => (fa σ st).bind fun x st1 => if bmTy .extend x st1 = true then (f σ st1).bind fun ys st2 => extR x ys st2 else .stuck) :=
  (pe_bm PySem.F.plainAttrs_list PySem.F.slot_list_extend PySem.F.type_list_extend mt_extend ho (pa_cons he pa_nil (star_one hs)) (base_plain hb) (form_of hs (show _ < 20 by simp)) hline (star_one hs) rfl).of fun σ H Q ⟨ρ, st, σp, sm, l, h⟩ => rdE.step sm l h fun v st1 ρ1 H1 x e1 s1 l1 r1 h1 => by
    split at h1
    · rename_i hty
      exact ⟨ty_lst s1 r1 hty (by decide), show rdN L X.K W f σ H1 (fun y H2 => rExtend x [y] H2 Q) from rdN.step s1 l1 h1 fun ys st2 ρ2 H2 a vs e2 s2 l2 ha hn hv r2 h2 => ext_step s2 (RV.ext s1 e2 _ _ r1) hv r2 h2⟩
    · exact h1.elim
/-! ### d.get -/
theorem dct_at {ρ : List Addr} {st : Sto} {H : Hp} {k : Nat} {x : V} {lk : Bool} {kvs : List (PV × PV)} (s : Sim L X.K ρ st H) (r : RV X.K ρ H (.obj k) x) (e : st[k]? = some (.dct lk kvs)) : ∃ a ks, x = .ref a ∧ ρ[k]? = some a ∧ Rd H a (.dK ks) ∧ RKs X.K ρ H kvs ks := by
  obtain ⟨a, rfl, ha⟩ := r
  obtain ⟨ks, h1, h2⟩ := s.obj _ _ a e ha
  refine ⟨a, ks, rfl, ha, ?_, h1⟩
  cases lk with
  | true => simp only [if_true] at h2; exact .inr h2
  | false => simp only [Bool.false_eq_true, if_false] at h2; exact .inl h2
theorem ty_dct {ρ : List Addr} {st : Sto} {H : Hp} {v : PV} {x : V} {m : Bm} (s : Sim L X.K ρ st H) (r : RV X.K ρ H v x) (h : bmTy m v st = true) (hm : m = .get1 ∨ m = .get2) : ∃ a, x = .ref a ∧ IsD H a := by
  unfold bmTy at h
  cases v <;> simp only [Bool.false_eq_true] at h
  split at h
  · rename_i e; obtain ⟨a, ks, rfl, _, h1, _⟩ := dct_at s r e; exact ⟨a, rfl, .inl ⟨ks, h1⟩⟩
  · rename_i e; obtain ⟨a, ks, rfl, _, h1, _⟩ := dct_at s r e; exact ⟨a, rfl, .inl ⟨ks, h1⟩⟩
  all_goals first | (cases h; done) | (rcases hm with hm | hm <;> cases hm)
theorem get_step {ρ : List Addr} {st : Sto} {H : Hp} {σ : List (Option V)} {Q : VK} {v y d : PV} {a : Addr} {ky z : V} (s : Sim L X.K ρ st H) (r : RV X.K ρ H v (.ref a)) (ry : RV X.K ρ H y ky) (rz : RV X.K ρ H d z) (h : okR L X.K W ρ H σ (getR v y d st) (vQ X.K Q)) : ∃ o, DGet H a ky o ∧ Q (o.getD z) H := by
  unfold getR at h
  split at h
  · split at h
    · rename_i lk kvs e
      split at h
      · rename_i hk
        obtain ⟨k, hk⟩ := pk_of hk
        obtain ⟨a', ks, e1, _, h1, h2⟩ := dct_at s r e
        cases e1
        refine ⟨valV ks k, .inl ⟨ks, k, h1, RV.key hk ry, rfl⟩, ?_⟩
        rcases h2.look hk with ⟨w, u, q1, q2, q3⟩ | ⟨q1, q2⟩
        · rw [q1] at h
          rw [q2]
          exact h.now s _ q3
        · rw [q1] at h
          rw [q2]
          exact h.now s _ rz
      · exact h.elim
    · exact h.elim
  · exact h.elim
theorem g_get1 (K : Kx cc P C L X W) (hb : plainBase o = true) (hs : noStar [e] = true) (hline : (apos.endLine == cpos.line) = true) {f : Loc → Sto → R PV} (ho : PE X o (rdE L X.K W fa)) (he : PE X e (rdE L X.K W f)) :
    PE X (.Call (.Attribute o "get" apos) [e] [] cpos) (rdE L X.K W fun σ st => (fa σ st).bind fun x st1 => if bmTy .get1 x st1 = true then ((f σ st1).bind fun v st2 => R.bind (.ok [] st2) fun vs st3 => .ok (v :: vs) st3).bind fun vs st2 => bmOf .get1 x vs st2 else .stuck) :=
  (pe_dget1 (by have := K.units; omega) ho he ⟨base_plain hb, form_of hs (show _ < 20 by simp), hline, star_trees hs⟩).of fun σ H Q ⟨ρ, st, σp, sm, l, h⟩ => rdE.step sm l h fun v st1 ρ1 H1 x e1 s1 l1 r1 h1 => by
    split at h1
    · rename_i hty
      obtain ⟨a, rfl, hd⟩ := ty_dct s1 r1 hty (.inl rfl)
      exact ⟨a, rfl, hd, rdE.step s1 l1 (okR.assoc h1) fun y st2 ρ2 H2 ky e2 s2 l2 r2 h2 => get_step s2 (RV.ext s1 e2 _ _ r1) r2 (d := .non) (z := .non) rfl h2⟩
    · exact h1.elim
theorem g_get2 (K : Kx cc P C L X W) (hb : plainBase o = true) (hs : noStar [e, a] = true) (hline : (apos.endLine == cpos.line) = true) {f g : Loc → Sto → R PV} (ho : PE X o (rdE L X.K W fa)) (he : PE X e (rdE L X.K W f)) (hg : PE X a (rdE L X.K W g)) :
    PE X (.Call (.Attribute o "get" apos) [e, a] [] cpos) (rdE L X.K W fun σ st => (fa σ st).bind fun x st1 => if bmTy .get2 x st1 = true then ((f σ st1).bind fun v st2 => ((g σ st2).bind fun v st3 => R.bind (.ok [] st3) fun vs st3 => .ok (v :: vs) st3).bind fun vs st3 => .ok (v :: vs) st3).bind fun vs st2 => bmOf .get2 x vs st2 else .stuck) :=
  (pe_dget2 (by have := K.units; omega) ho he hg ⟨base_plain hb, form_of hs (show _ < 20 by simp), hline, star_trees hs⟩).of fun σ H Q ⟨ρ, st, σp, sm, l, h⟩ => rdE.step sm l h fun v st1 ρ1 H1 x e1 s1 l1 r1 h1 => by
    split at h1
    · rename_i hty
      obtain ⟨a, rfl, hd⟩ := ty_dct s1 r1 hty (.inr rfl)
      exact ⟨a, rfl, hd, rdE.step s1 l1 (okR.assoc h1) fun y st2 ρ2 H2 ky e2 s2 l2 r2 h2 => rdE.step s2 l2 (okR.assoc (okR.assoc h2)) fun w st3 ρ3 H3 z e3 s3 l3 r3 h3 =>
        get_step s3 (RV.ext s2 e3 _ _ (RV.ext s1 e2 _ _ r1)) (RV.ext s2 e3 _ _ r2) r3 h3⟩
    · exact h1.elim
end
end Rf
end
section
set_option Elab.async false
set_option linter.all false
set_option maxRecDepth 100000
set_option maxHeartbeats 1000000
/-! Rf13: targets and walks. -/
namespace Rf
open PySem PySem.Spec PyProof.Rows L2
/-- a value, or a tuple of an iterator's -/
def RVt (K : PySem.W.Frag) (ρ : List Addr) (H : Hp) (p : PV) (v : V) : Prop := RV K ρ H p v ∨ ∃ a vs xs, p = .tup xs ∧ v = .ref a ∧ SqT K H a vs ∧ RVs K ρ H xs vs
def SameBut (is : List Nat) (σ' σ : List (Option V)) : Prop := ∀ vs : List Nat, (∀ i ∈ is, i ∈ vs) → L2.wipe σ' vs = L2.wipe σ vs
theorem SameBut.refl {is : List Nat} {σ : List (Option V)} : SameBut is σ σ := fun _ _ => rfl
theorem wipe_set {σ : List (Option V)} {i : Nat} {v : Option V} : ∀ {vs : List Nat}, i ∈ vs → L2.wipe (σ.set i v) vs = L2.wipe σ vs
  | w :: vs, h => by
    unfold L2.wipe
    rcases List.mem_cons.mp h with e | h
    · subst e
      clear h
      have : ∀ {us : List Nat} {τ : List (Option V)}, (L2.wipe (τ.set i v) us).set i none = (L2.wipe τ us).set i none := fun {us} => by
        induction us with
        | nil => intro τ; simp [L2.wipe]
        | cons u us ih =>
          intro τ
          unfold L2.wipe
          by_cases hu : u = i
          · subst hu
            simpa using ih
          · rw [List.set_comm _ _ hu, ih, List.set_comm _ _ (Ne.symm hu)]
      exact this
    · rw [wipe_set h]
/-- no exception is wanted -/
def nev : WX := fun _ _ _ _ => False
theorem okR.any {L : Lk} {K : PySem.W.Frag} {W : WX} {ρ : List Addr} {H : Hp} {σ σ' : List (Option V)} {α : Type} {r : R α} {Φ : α → Sto → List Addr → Hp → Prop} {st : Sto} (s : Sim L K ρ st H) (h : okR L K nev ρ H σ r Φ) : okR L K W ρ H σ' r Φ := by
  cases r with
  | ok a st' => exact h
  | exc c fs st' => exact ⟨h.1, fun ρ' H' e s' => (h.2 ρ' H' e s').elim⟩
  | stuck => exact h
theorem okR.noexc {L : Lk} {K : PySem.W.Frag} {W W' : WX} {ρ : List Addr} {H : Hp} {σ σ' : List (Option V)} {α : Type} {r : R α} {Φ : α → Sto → List Addr → Hp → Prop} (h : okR L K W ρ H σ (Rf.noexc r) Φ) : okR L K W' ρ H σ' r Φ := by
  cases r with
  | ok a st' => exact h
  | exc c fs st' => exact h.elim
  | stuck => exact h
/-- a target's store -/
def gQ (K : PySem.W.Frag) (is : List Nat) (σ : List (Option V)) (Q : L2.St → Hp → Prop) : Loc → Sto → List Addr → Hp → Prop := fun σp' _ ρ' H' => ∀ σ', RLo K ρ' H' σp' σ' → SameBut is σ' σ → Q σ' H'
def rdG (L : Lk) (K : PySem.W.Frag) (W : WX) (is : List Nat) (f : PV → Loc → Sto → R Loc) : TG := fun v σ H Q => ∃ ρ st σp p, Sim L K ρ st H ∧ RLo K ρ H σp σ ∧ RV K ρ H p v ∧ okR L K W ρ H σ (f p σp st) (gQ K is σ Q)
/-- .. where a tuple may be an iterator's -/
def rdGt (L : Lk) (K : PySem.W.Frag) (W : WX) (is : List Nat) (f : PV → Loc → Sto → R Loc) : TG := fun v σ H Q => ∃ ρ st σp p, Sim L K ρ st H ∧ RLo K ρ H σp σ ∧ RVt K ρ H p v ∧ okR L K W ρ H σ (f p σp st) (gQ K is σ Q)
def rdGs (L : Lk) (K : PySem.W.Frag) (W : WX) (is : List Nat) (f : List PV → Loc → Sto → R Loc) : TGs := fun vs σ H Q => ∃ ρ st σp ps, Sim L K ρ st H ∧ RLo K ρ H σp σ ∧ RVs K ρ H ps vs ∧ okR L K nev ρ H σ (f ps σp st) (gQ K is σ Q)
section
variable {X : Cx} {e : Expr} {es : List Expr}
theorem _root_.L2.PG.of {t t' : TG} (h : PG X e t) (i : ∀ v σ H Q, t' v σ H Q → t v σ H Q) : PG X e t' := ⟨fun pins s σ H v u Q I r q => h.run pins s σ H v u Q I r (i v σ H Q q)⟩
theorem _root_.L2.PGs.of {t t' : TGs} (h : PGs X es t) (i : ∀ v σ H Q, t' v σ H Q → t v σ H Q) : PGs X es t' := ⟨fun pins s σ H v u Q I r q => h.run pins s σ H v u Q I r (i v σ H Q q)⟩
theorem asg_one {e : Expr} {es : List Expr} {env : Env} (h : noStar (e :: es) = true) : (assignEach (e :: es) env).map (·.2) = assign e env :: (assignEach es env).map (·.2) := by
  unfold noStar at h
  rw [List.all_cons] at h
  cases e <;> first | rfl | cases h
theorem asg_len {env : Env} : ∀ {es : List Expr}, (assignEach es env).length = es.length
  | [] => rfl
  | e :: es => by
    have := asg_len (env := env) (es := es)
    cases e <;> simp [assignEach, this]
theorem asg_none {env : Env} : ∀ {es : List Expr}, noStar es = true → (assignEach es env).findIdx? (·.1) = none
  | [], _ => rfl
  | e :: es, h => by
    have ih := asg_none (env := env) (noStar_tl h)
    unfold noStar at h
    rw [List.all_cons] at h
    have : assignEach (e :: es) env = (false, assign e env) :: assignEach es env := by cases e <;> first | rfl | cases h
    rw [this, List.findIdx?_cons, ih]
    rfl
end
section
variable {cc : Cc} {P : Pg} {C : CallF} {L : Lk} {X : Cx} {W : WX} {a b c e o : Expr} {es : List Expr} {pos apos cpos : Pos} {fa fb fc : Loc → Sto → R PV}
/-- a scope's own names may be set -/
def OwnOk (X : Cx) (sc0 : Scope) : Prop := ∀ x, (sc0.names.lookup x = some .local ∨ sc0.names.lookup x = some .cell) → L2.Loc X.env.scope x ∧ (X.fn x = true ∨ X.env.scope.names.lookup x = some .local)
theorem gg_name {x : Str} {i : Nat} (K : Kx cc P C L X W) (hi : ixS x X.N = some i) (hl : L2.Loc X.env.scope x ∧ (X.fn x = true ∨ X.env.scope.names.lookup x = some .local)) : PG X (.Name x pos) (rdG L X.K W [i] fun v σ st => .ok (σ.set i (some v)) st) :=
  (pg_name K.nd (ixS_get hi) hl.1 hl.2).of fun v σ H Q ⟨ρ, st, σp, p, s, l, r, h⟩ => h.now s _ (RLo.set i l r) fun vs hv => wipe_set (hv i (by simp))
theorem gg_cons {T : Tg → PV → Loc → Sto → R Loc} {t : Tg} {ts : List Tg} {is js : List Nat} (hs : noStar (e :: es) = true) (h1 : PG X e (rdG L X.K W is (T t))) (h2 : PGs X es (rdGs L X.K W js (bindAll T ts))) : PGs X (e :: es) (rdGs L X.K W (is ++ js) (bindAll T (t :: ts))) :=
  (pgs_cons h1 h2 (asg_one hs)).of fun vs σ H Q ⟨ρ, st, σp, ps, s, l, r, h⟩ => by
    cases ps with
    | nil => exact h.elim
    | cons p ps =>
      obtain ⟨u, us, rfl, r1, r2⟩ := r
      refine ⟨u, us, rfl, ρ, st, σp, p, s, l, r1, okR.mono (okR.noexc h.bind) fun σp1 st1 ρ1 H1 e1 s1 h1 σ1 l1 b1 => ⟨ρ1, st1, σp1, ps, s1, l1, RVs.ext s e1 _ _ r2, okR.mono (okR.any s1 h1) fun σp2 st2 ρ2 H2 e2 s2 h2 σ2 l2 b2 => h2 σ2 l2 fun vs hv => ?_⟩⟩
      rw [b2 vs fun i hi => hv i (List.mem_append_right _ hi), b1 vs fun i hi => hv i (List.mem_append_left _ hi)]
theorem gg_nil' {T : Tg → PV → Loc → Sto → R Loc} : PGs X [] (rdGs L X.K W [] (bindAll T [])) :=
  pgs_nil.of fun v σ H Q ⟨ρ, st, σp, ps, s, l, r, h⟩ => by
    cases ps with
    | nil => exact ⟨r, h.now s _ l .refl⟩
    | cons p ps => exact h.elim
/-- a tuple of targets: what is stored is a tuple or a list of that length -/
theorem gg_tup {k : Nat} {is : List Nat} {f : List PV → Loc → Sto → R Loc} (K : Kx cc P C L X W) (hs : noStar es = true) (h : PGs X es (rdGs L X.K W is f)) (hne : ∀ ps σ st c fs st', f ps σ st ≠ .exc c fs st') :
    PG X (.Tuple es k pos) (rdGt L X.K W is fun p σ st => match seqOf st p with
      | some vs => if vs.length = es.length then f vs σ st else .stuck
      | none => .stuck) := by
  refine ⟨fun pins s σ H v u Q I r ⟨ρ, st, σp, p, sm, l, rp, hq⟩ => ?_⟩
  simp only at hq
  split at hq
  · rename_i vs e
    split at hq
    · rename_i hlen
      have down : okR L X.K nev ρ H σ (f vs σp st) (gQ X.K is σ Q) := by
        generalize hr : f vs σp st = r at hq ⊢
        cases r with
        | ok a st' => exact hq
        | exc c fs st' => exact absurd hr (hne _ _ _ _ _ _)
        | stuck => exact hq
      have main : ∃ a us, v = .ref a ∧ RVs X.K ρ H vs us ∧ (SqT X.K H a us ∨ SqL X.K H a us) := by
        rcases rp with rp | ⟨a, us, xs, rfl, rfl, h1, h2⟩
        · obtain ⟨a, us, rfl, h1, h2⟩ := lst_of sm rp e
          rcases h2 with ⟨_, h2⟩ | ⟨_, h2⟩
          · exact ⟨a, us, rfl, h1, .inl h2⟩
          · exact ⟨a, us, rfl, h1, .inr h2⟩
        · cases e
          exact ⟨a, us, rfl, h2, .inl h1⟩
      obtain ⟨a, us, rfl, h1, h2⟩ := main
      rcases h2 with h2 | h2
      · exact (pg_tup K.calm h asg_len (asg_none hs)).run pins s σ H _ u Q I r ⟨a, us, rfl, h2, by rw [← h1.length, hlen], ρ, st, σp, vs, sm, l, h1, down⟩
      · exact (pg_lst K.calm h asg_len (asg_none hs)).run pins s σ H _ u Q I r ⟨a, us, rfl, h2, by rw [← h1.length, hlen], ρ, st, σp, vs, sm, l, h1, down⟩
    · exact hq.elim
  · exact hq.elim
/-! ### o[i] = v -/
theorem set_any (hu : X.A.units + 1 < cLine) : PSet X (fun o i v H Q => ∃ ρ st p q w st', Sim L X.K ρ st H ∧ RV X.K ρ H p o ∧ RV X.K ρ H q i ∧ RV X.K ρ H w v ∧ Rf.setItem p q w st = some st' ∧ ∀ ρ' H', Ext ρ H ρ' H' → Sim L X.K ρ' st' H' → Q H') := by
  intro pins s σ H o i v ov iv u Q I ro ri rv h
  obtain ⟨ρ, st, p, q, w, st', sm, rp, rq, rw', e, hQ⟩ := h
  unfold Rf.setItem at e
  split at e
  · rename_i k
    split at e
    · rename_i xs j ex
      split at e
      · rename_i m em
        cases e
        obtain ⟨a, us, rfl, ha, h1, h2⟩ := lst_at sm rp ex
        obtain rfl : i = V.int j := rq
        have em' := em
        rw [ixOf_eq, h2.length] at em
        refine set_list pins s σ H _ _ v ov iv u Q I ro ri rv ⟨a, us, j, m, rfl, rfl, h1, em, ?_⟩
        have e1 := Ext.write (H := H) (o := .lst (us.set m v)) ha (lst_nf h1)
        exact hQ _ _ e1 (sm.write ha (lst_nf h1) ⟨_, upd_same, RVs.set m (RVs.ext sm e1 _ _ h2) (RV.ext sm e1 _ _ rw')⟩)
      · cases e
    · rename_i kvs i' ek
      split at e
      · rename_i hk
        cases e
        rw [Bool.and_eq_true, decide_eq_true_eq] at hk
        obtain ⟨kk, hkk⟩ := pk_of hk.1
        obtain ⟨a, rfl, ha⟩ := rp
        obtain ⟨ks, h1, h2⟩ := sm.obj _ _ a ek ha
        simp only [Bool.false_eq_true, if_false] at h2
        obtain rfl := RV.key hkk rq
        refine set_dict hu pins s σ H _ _ v ov iv u Q I ro ri rv ⟨a, _, rfl, DPut.k h2 (by rw [← h1.length]; exact Nat.lt_of_lt_of_le hk.2 big_line), ?_⟩
        have e1 := Ext.write (H := H) (o := .dK (putK ks kk v)) ha (dK_nf h2)
        exact hQ _ _ e1 (sm.write ha (dK_nf h2) ⟨_, RKs.put (RKs.ext sm e1 _ _ h1) hkk (RV.ext sm e1 _ _ rq) (RV.ext sm e1 _ _ rw'), by simpa using upd_same⟩)
      · cases e
    · cases e
  · cases e
theorem asg_sub {o i : Expr} {p : Pos} {env : Env} (h : ∀ lo hi q, i ≠ .Slice lo hi none q) (v : Value) : assign (.Subscript o i p) env v = (do
      let ov ← holding [v] (eval o env)
      let iv ← holding [v, ov] (eval i env)
      standAt p
      holding [v, ov, iv] (PySem.setItem ov iv v)
      release [v, ov, iv] []) := by
  cases i with
  | Slice lo hi stp q =>
    cases stp with
    | none => exact absurd rfl (h _ _ _)
    | some x => rfl
  | _ => rfl
theorem gg_sub {i : Expr} (K : Kx cc P C L X W) (hsl : ∀ lo hi q, i ≠ .Slice lo hi none q) (ho : PE X o (rdE L X.K W fa)) (hi : PE X i (rdE L X.K W fb)) : PG X (.Subscript o i pos) (rdG L X.K W [] fun v σ st => (fa σ st).bind fun x st1 => (fb σ st1).bind fun y st2 => match Rf.setItem x y v st2 with
      | some st3 => .ok σ st3
      | none => .stuck) :=
  (pg_sub ho hi (set_any (L := L) (by have := K.units; omega)) (asg_sub hsl)).of fun v σ H Q ⟨ρ, st, σp, p, s, l, r, h⟩ => rdE.step s l h fun x st1 ρ1 H1 x' e1 s1 l1 r1 h1 => rdE.step s1 l1 h1 fun y st2 ρ2 H2 y' e2 s2 l2 r2 h2 => by
    split at h2
    · rename_i st3 e3
      exact ⟨ρ2, st2, x, y, p, st3, s2, RV.ext s1 e2 _ _ r1, r2, RV.ext s1 e2 _ _ (RV.ext s e1 _ _ r), e3, fun ρ' H' e s' => h2 ρ' H' e s' σ (RLo.ext s2 e _ _ l2) .refl⟩
    · exact h2.elim
end
end Rf
end
section
set_option Elab.async false
set_option linter.all false
set_option maxRecDepth 100000
set_option maxHeartbeats 1000000
/-! Rf14: walks. -/
namespace Rf
open PySem PySem.Spec PyProof.Rows L2
def SrAt (K : PySem.W.Frag) (ρ : List Addr) (H : Hp) (t : Bool) (a : Addr) (i : Nat) : Sr → Prop
  | .fix r => ∃ vs : List V, RVs K ρ H r (vs.drop i) ∧ (if t = true then SqF K H a vs else RoL K H a vs ∨ (H a = some (.lst vs) ∧ a ∉ ρ))
  | .live k j => t = false ∧ j = i ∧ ρ[k]? = some a
def WkAt (K : PySem.W.Frag) (ρ : List Addr) (H : Hp) (J : It) (i : Nat) : Wk → Prop
  | .one s => ∃ a t, J = (if t = true then Itt K a else Itl K a) ∧ SrAt K ρ H t a i s
  | .enum n s => n = i ∧ ∃ a, J = Ite K a ∧ SrAt K ρ H false a i s
  | .zip s s' => ∃ a b t, J = (if t = true then RZ.ItzT K a b else Itz K a b) ∧ SrAt K ρ H t a i s ∧ SrAt K ρ H t b i s'
  | .rng lo n => ∃ lo0 n0, J = L2.Itr lo0 n0 ∧ lo = lo0 + (i : Int) ∧ n + i = n0
  | .keys k j => j = i ∧ ∃ d o ks, J = Itk d o ks ∧ ρ[k]? = some d ∧ H d = some (.frz o (.dK ks))
section
variable {L : Lk} {K : PySem.W.Frag} {ρ ρ' : List Addr} {H H' : Hp} {st : Sto} {J : It} {i : Nat}
theorem SrAt.ext {t : Bool} {a : Addr} {s : Sr} (sm : Sim L K ρ st H) (e : Ext ρ H ρ' H') (h : SrAt K ρ H t a i s) : SrAt K ρ' H' t a i s := by
  cases s with
  | fix r =>
    obtain ⟨vs, h1, h2⟩ := h
    refine ⟨vs, RVs.ext sm e _ _ h1, ?_⟩
    cases t with
    | true => exact SqF.ext sm e h2
    | false =>
      rcases h2 with h2 | ⟨h2, h3⟩
      · exact .inl (RoL.ext sm e h2)
      · refine .inr ⟨e.keep a _ h2 h3, fun m => ?_⟩
        have := e.fresh a m h3
        rw [h2] at this
        cases this
  | live k j => exact ⟨h.1, h.2.1, e.get h.2.2⟩
theorem WkAt.ext {w : Wk} (sm : Sim L K ρ st H) (e : Ext ρ H ρ' H') (h : WkAt K ρ H J i w) : WkAt K ρ' H' J i w := by
  cases w with
  | one s => obtain ⟨a, t, h1, h2⟩ := h; exact ⟨a, t, h1, h2.ext sm e⟩
  | enum n s => obtain ⟨h0, a, h1, h2⟩ := h; exact ⟨h0, a, h1, h2.ext sm e⟩
  | zip s s' => obtain ⟨a, b, t, h1, h2, h3⟩ := h; exact ⟨a, b, t, h1, h2.ext sm e, h3.ext sm e⟩
  | rng lo n => exact h
  | keys k j => obtain ⟨h0, d, o, ks, h1, h2, h3⟩ := h; exact ⟨h0, d, o, ks, h1, e.get h2, e.frz _ _ _ h3⟩
theorem keys_at {k : Nat} {d : Addr} {o : Obj} {ks : List (Key × V)} {kvs : List (PV × PV)} (sm : Sim L K ρ st H) (h : ρ[k]? = some d) (hd : H d = some (.frz o (.dK ks))) (e : st[k]? = some (.dct true kvs)) : RKs K ρ H kvs ks := by
  obtain ⟨ks', h1, h2⟩ := sm.obj _ _ d e h
  simp only [if_true] at h2
  obtain ⟨od, h2⟩ := h2
  rw [hd] at h2
  cases h2
  exact h1
/-- what a source gives -/
theorem SrAt.next {t : Bool} {a : Addr} {s : Sr} {r : Option (PV × Sr)} (sm : Sim L K ρ st H) (h : SrAt K ρ H t a i s) (e : s.next st = some r) :
    ∃ vs : List V, (if t = true then SqT K H a vs else SqL K H a vs) ∧ (match r with
      | none => vs.length ≤ i
      | some (x, s1) => ∃ v, vs[i]? = some v ∧ RV K ρ H x v ∧ SrAt K ρ H t a (i + 1) s1) := by
  cases s with
  | fix l =>
    obtain ⟨vs, h1, h2⟩ := h
    refine ⟨vs, ?_, ?_⟩
    · cases t with
      | true => exact SqF.sq h2
      | false =>
        rcases h2 with h2 | ⟨h2, _⟩
        · exact h2.sq
        · exact SqL.of h2
    · cases l with
      | nil =>
        simp only [Sr.next, Option.some.injEq] at e
        subst e
        have : vs.drop i = [] := h1
        simpa using List.drop_eq_nil_iff.mp this
      | cons x l =>
        simp only [Sr.next, Option.some.injEq] at e
        subst e
        obtain ⟨u, us, e1, r1, r2⟩ := h1
        have e2 : vs[i]? = some u := by
          have := congrArg List.head? e1
          rw [List.head?_drop] at this
          exact this
        have e3 : vs.drop (i + 1) = us := by
          have := congrArg List.tail e1
          rw [List.tail_drop] at this
          exact this
        exact ⟨u, e2, r1, vs, by rw [e3]; exact r2, h2⟩
  | live k j =>
    obtain ⟨rfl, rfl, ha⟩ := h
    simp only [Sr.next] at e
    split at e
    · rename_i xs ex
      obtain ⟨vs, h1, h2⟩ := sm.obj _ _ a ex ha
      refine ⟨vs, SqL.of h1, ?_⟩
      split at e
      · rename_i x ey
        cases e
        obtain ⟨v, e1, e2⟩ := h2.get ey
        exact ⟨v, e1, e2, rfl, rfl, ha⟩
      · rename_i ey
        cases e
        show vs.length ≤ j
        rw [← h2.length]
        exact List.getElem?_eq_none_iff.mp ey
    · cases e
theorem WkAt.succ {w w1 : Wk} {x : PV} (sm : Sim L K ρ st H) (h : WkAt K ρ H J i w) (e : w.next st = some (some (x, w1))) : WkAt K ρ H J (i + 1) w1 := by
  cases w with
  | one s =>
    obtain ⟨a, t, rfl, h2⟩ := h
    simp only [Wk.next] at e
    split at e
    · rename_i y s1 es
      cases e
      obtain ⟨vs, k1, v, k2, k3, k4⟩ := h2.next sm es
      exact ⟨a, t, rfl, k4⟩
    · cases e
    · cases e
  | enum n s =>
    obtain ⟨rfl, a, rfl, h2⟩ := h
    simp only [Wk.next] at e
    split at e
    · rename_i y s1 es
      cases e
      obtain ⟨vs, k1, v, k2, k3, k4⟩ := h2.next sm es
      exact ⟨rfl, a, rfl, k4⟩
    · cases e
    · cases e
  | zip s s' =>
    obtain ⟨a, b, t, rfl, h2, h3⟩ := h
    simp only [Wk.next] at e
    split at e
    · rename_i y s1 z t1 e1 e2
      cases e
      obtain ⟨vs, k1, v, k2, k3, k4⟩ := h2.next sm e1
      obtain ⟨us, l1, u, l2, l3, l4⟩ := h3.next sm e2
      exact ⟨a, b, t, rfl, k4, l4⟩
    · cases e
    · cases e
    · cases e
  | rng lo n =>
    obtain ⟨lo0, n0, rfl, h1, h2⟩ := h
    cases n with
    | zero => cases e
    | succ n =>
      cases e
      exact ⟨lo0, n0, rfl, by rw [h1]; push_cast; omega, by omega⟩
  | keys k j =>
    obtain ⟨rfl, d, o, ks, rfl, h2, h3⟩ := h
    simp only [Wk.next] at e
    split at e
    · split at e
      · cases e; exact ⟨rfl, d, o, ks, rfl, h2, h3⟩
      · cases e
    · cases e
theorem WkAt.stop {w : Wk} (sm : Sim L K ρ st H) (h : WkAt K ρ H J i w) (e : w.next st = some none) : J.stop i H := by
  cases w with
  | one s =>
    obtain ⟨a, t, rfl, h2⟩ := h
    simp only [Wk.next] at e
    split at e
    · cases e
    · rename_i es
      obtain ⟨vs, k1, k2⟩ := h2.next sm es
      cases t with
      | true => exact ⟨vs, k1, k2⟩
      | false => exact ⟨vs, k1, k2⟩
    · cases e
  | enum n s =>
    obtain ⟨_, a, rfl, h2⟩ := h
    simp only [Wk.next] at e
    split at e
    · cases e
    · rename_i es
      obtain ⟨vs, k1, k2⟩ := h2.next sm es
      exact ⟨vs, k1, k2⟩
    · cases e
  | zip s s' =>
    obtain ⟨a, b, t, rfl, h2, h3⟩ := h
    simp only [Wk.next] at e
    split at e
    · cases e
    · rename_i r e1 e2
      obtain ⟨vs, k1, k2⟩ := h2.next sm e1
      obtain ⟨us, l1, _⟩ := h3.next sm e2
      cases t with
      | true => exact ⟨vs, us, k1, l1, .inl k2⟩
      | false => exact ⟨vs, us, k1, l1, .inl k2⟩
    · rename_i r e1 e2
      obtain ⟨vs, k1, _⟩ := h2.next sm e1
      obtain ⟨us, l1, l2⟩ := h3.next sm e2
      cases t with
      | true => exact ⟨vs, us, k1, l1, .inr l2⟩
      | false => exact ⟨vs, us, k1, l1, .inr l2⟩
    · cases e
  | rng lo n =>
    obtain ⟨lo0, n0, rfl, h1, h2⟩ := h
    cases n with
    | zero => show n0 ≤ i; omega
    | succ n => cases e
  | keys k j =>
    obtain ⟨rfl, d, o, ks, rfl, h2, h3⟩ := h
    simp only [Wk.next] at e
    split at e
    · rename_i kvs ek
      have r := keys_at sm h2 h3 ek
      split at e
      · cases e
      · rename_i en
        refine ⟨h3, ?_⟩
        rw [← r.length]
        exact List.getElem?_eq_none_iff.mp en
    · cases e
theorem WkAt.go {w w1 : Wk} {x : PV} (sm : Sim L K ρ st H) (h : WkAt K ρ H J i w) (e : w.next st = some (some (x, w1))) :
    J.go i H ∧ ∀ v H', J.yld i H v H' → Ext ρ H ρ H' ∧ Sim L K ρ st H' ∧ RVt K ρ H' x v ∧ WkAt K ρ H' J (i + 1) w1 ∧ (w.plain = true → RV K ρ H' x v ∧ w1.plain = true) := by
  cases w with
  | one s =>
    obtain ⟨a, t, rfl, h2⟩ := h
    simp only [Wk.next] at e
    split at e
    · rename_i y s1 es
      cases e
      obtain ⟨vs, k1, v, k2, k3, k4⟩ := h2.next sm es
      cases t with
      | true =>
        refine ⟨⟨vs, v, k1, k2⟩, fun u H' hy => ?_⟩
        obtain ⟨rfl, hy⟩ := hy
        have := hy vs k1
        rw [k2] at this
        cases this
        exact ⟨.refl, sm, .inl k3, ⟨a, true, rfl, k4⟩, fun _ => ⟨k3, rfl⟩⟩
      | false =>
        refine ⟨⟨vs, v, k1, k2⟩, fun u H' hy => ?_⟩
        obtain ⟨rfl, hy⟩ := hy
        have := hy vs k1
        rw [k2] at this
        cases this
        exact ⟨.refl, sm, .inl k3, ⟨a, false, rfl, k4⟩, fun _ => ⟨k3, rfl⟩⟩
    · cases e
    · cases e
  | enum n s =>
    obtain ⟨rfl, a, rfl, h2⟩ := h
    simp only [Wk.next] at e
    split at e
    · rename_i y s1 es
      cases e
      obtain ⟨vs, k1, v, k2, k3, k4⟩ := h2.next sm es
      refine ⟨⟨vs, v, k1, k2⟩, fun u H' hy => ?_⟩
      obtain ⟨T, z, rfl, hT, rfl, hy⟩ := hy
      have := hy vs k1
      rw [k2] at this
      cases this
      have e1 := Ext.laid (ρ := ρ) (o := .tup [.int (n : Nat), v]) hT
      exact ⟨e1, sm.laid hT, .inr ⟨T, _, _, rfl, rfl, SqT.of upd_same, _, _, rfl, rfl, _, _, rfl, RV.ext sm e1 _ _ k3, rfl⟩, ⟨rfl, a, rfl, k4.ext sm e1⟩, fun z => nomatch z⟩
    · cases e
    · cases e
  | zip s s' =>
    obtain ⟨a, b, t, rfl, h2, h3⟩ := h
    simp only [Wk.next] at e
    split at e
    · rename_i y s1 z t1 e1 e2
      cases e
      obtain ⟨vs, k1, v, k2, k3, k4⟩ := h2.next sm e1
      obtain ⟨us, l1, u, l2, l3, l4⟩ := h3.next sm e2
      have fin : ∀ {T : Addr}, H T = none → Ext ρ H ρ (upd H T (.tup [v, u])) ∧ Sim L K ρ st (upd H T (.tup [v, u])) ∧ RVt K ρ (upd H T (.tup [v, u])) (.tup [y, z]) (.ref T) ∧
          SrAt K ρ (upd H T (.tup [v, u])) t a (i + 1) s1 ∧ SrAt K ρ (upd H T (.tup [v, u])) t b (i + 1) t1 := fun {T} hT => by
        have e3 := Ext.laid (ρ := ρ) (o := .tup [v, u]) hT
        exact ⟨e3, sm.laid hT, .inr ⟨T, _, _, rfl, rfl, SqT.of upd_same, _, _, rfl, RV.ext sm e3 _ _ k3, _, _, rfl, RV.ext sm e3 _ _ l3, rfl⟩, k4.ext sm e3, l4.ext sm e3⟩
      cases t with
      | true =>
        refine ⟨⟨vs, us, v, u, k1, l1, k2, l2⟩, fun q H' hy => ?_⟩
        obtain ⟨T, v', u', rfl, hT, rfl, hy1, hy2⟩ := hy
        have q1 := hy1 vs k1
        have q2 := hy2 us l1
        rw [k2] at q1
        rw [l2] at q2
        cases q1
        cases q2
        obtain ⟨f1, f2, f3, f4, f5⟩ := fin hT
        exact ⟨f1, f2, f3, ⟨a, b, true, rfl, f4, f5⟩, fun z => nomatch z⟩
      | false =>
        refine ⟨⟨vs, us, v, u, k1, l1, k2, l2⟩, fun q H' hy => ?_⟩
        obtain ⟨T, v', u', rfl, hT, rfl, hy1, hy2⟩ := hy
        have q1 := hy1 vs k1
        have q2 := hy2 us l1
        rw [k2] at q1
        rw [l2] at q2
        cases q1
        cases q2
        obtain ⟨f1, f2, f3, f4, f5⟩ := fin hT
        exact ⟨f1, f2, f3, ⟨a, b, false, rfl, f4, f5⟩, fun z => nomatch z⟩
    · cases e
    · cases e
    · cases e
  | rng lo n =>
    obtain ⟨lo0, n0, rfl, h1, h2⟩ := h
    cases n with
    | zero => cases e
    | succ n =>
      cases e
      refine ⟨show i < n0 by omega, fun v H' hy => ?_⟩
      obtain ⟨rfl, rfl⟩ := hy
      have r : ∀ G, RV K ρ G (.int lo) (.int (lo0 + (i : Int))) := fun G => by rw [h1]; rfl
      exact ⟨.refl, sm, .inl (r _), ⟨lo0, n0, rfl, by rw [h1]; push_cast; omega, by omega⟩, fun _ => ⟨r _, rfl⟩⟩
  | keys k j =>
    obtain ⟨rfl, d, o, ks, rfl, h2, h3⟩ := h
    simp only [Wk.next] at e
    split at e
    · rename_i kvs ek
      have r := keys_at sm h2 h3 ek
      split at e
      · rename_i p ep
        cases e
        have hlt : j < kvs.length := (List.getElem?_eq_some_iff.mp ep).1
        refine ⟨⟨h3, by rw [← r.length]; exact hlt⟩, fun v H' hy => ?_⟩
        obtain ⟨rfl, k', v', e1, rfl⟩ := hy
        obtain ⟨u, e2, e3⟩ := r.keys.get (i := j) (x := p.1) (by rw [List.getElem?_map, ep]; rfl)
        rw [List.getElem?_map, e1] at e2
        cases e2
        exact ⟨.refl, sm, .inl e3, ⟨rfl, d, o, ks, rfl, h2, h3⟩, fun _ => ⟨e3, rfl⟩⟩
      · cases e
    · cases e
end
end Rf
end
section
set_option Elab.async false
set_option linter.all false
set_option maxRecDepth 100000
set_option maxHeartbeats 1000000
/-! Rf15: what is walked over, comprehensions. -/
namespace Rf
open PySem PySem.Spec PyProof.Rows L2
def SqX (K : PySem.W.Frag) (H : Hp) (t : Bool) (a : Addr) (vs : List V) : Prop := if t = true then SqT K H a vs else SqL K H a vs
/-- a source's reading, when it is known to be a tuple or not -/
def rdS (L : Lk) (K : PySem.W.Frag) (W : WX) (t : Bool) (f : Loc → Sto → R (Bool × Sr)) : TE := fun σ H Q => ∃ ρ st σp, Sim L K ρ st H ∧ RLo K ρ H σp σ ∧
  okR L K W ρ H σ (f σp st) fun s _ ρ' H' => s.1 = t ∧ ∀ a, (∃ vs, SqX K H' t a vs) → SrAt K ρ' H' t a 0 s.2 → Q (.ref a) H'
def rdI (L : Lk) (K : PySem.W.Frag) (W : WX) (tb : Bool) (f : Loc → Sto → R Wk) : TI := fun σ H R => ∃ ρ st σp, Sim L K ρ st H ∧ RLo K ρ H σp σ ∧ okR L K W ρ H σ (f σp st) fun w _ ρ' H' => ∀ J, WkAt K ρ' H' J 0 w → (tb = false → w.plain = true) → R J H'
section
variable {cc : Cc} {P : Pg} {C : CallF} {L : Lk} {X : Cx} {W : WX} {a b c e o tg : Expr} {es : List Expr} {pos apos cpos : Pos} {fa fb fc : Loc → Sto → R PV}
theorem _root_.L2.PI.of {t t' : TI} (h : PI X tg e t) (i : ∀ σ H R, t' σ H R → t σ H R) : PI X tg e t' := ⟨fun pins s σ H R I q => h.run pins s σ H R I (i σ H R q)⟩
theorem s_new {f : Loc → Sto → R (List PV)} (h : PE X e (rdN L X.K W f)) (t : Bool) : PE X e (rdS L X.K W t fun σ st => (f σ st).bind fun xs st1 => .ok (false, .fix xs) st1) :=
  h.of fun σ H Q ⟨ρ, st, σp, sm, l, h⟩ => rdN.step sm l h fun xs st1 ρ1 H1 a vs e1 s1 l1 ha hn hv r h1 => by
    obtain ⟨k1, k2⟩ := h1.now s1
    have k1 : false = t := k1
    subst k1
    exact k2 a ⟨vs, SqL.of hv⟩ ⟨vs, r, .inr ⟨hv, hn⟩⟩
theorem s_old (h : PE X e (rdE L X.K W fa)) (t : Bool) : PE X e (rdS L X.K W t fun σ st => (fa σ st).bind fun v st1 => (match v with
      | .tup xs => .ok (true, .fix xs) st1
      | .rol xs => .ok (false, .fix xs) st1
      | .obj k => (match st1[k]? with
        | some (.lst _) => .ok (false, .live k 0) st1
        | _ => .stuck)
      | _ => .stuck)) :=
  h.of fun σ H Q ⟨ρ, st, σp, sm, l, h⟩ => rdE.step sm l h fun v st1 ρ1 H1 x e1 s1 l1 r1 h1 => by
    cases v with
    | tup xs =>
      obtain ⟨a, vs, rfl, q1, q2⟩ := r1
      obtain ⟨k1, k2⟩ := h1.now s1
      have k1 : true = t := k1
      subst k1
      exact k2 a ⟨vs, q1.sq⟩ ⟨vs, q2, q1⟩
    | rol xs =>
      obtain ⟨a, vs, rfl, q1, q2⟩ := r1
      obtain ⟨k1, k2⟩ := h1.now s1
      have k1 : false = t := k1
      subst k1
      exact k2 a ⟨vs, q1.sq⟩ ⟨vs, q2, .inl q1⟩
    | obj k =>
      simp only at h1
      split at h1
      · rename_i xs ex
        obtain ⟨a, vs, rfl, ha, q1, q2⟩ := lst_at s1 r1 ex
        obtain ⟨k1, k2⟩ := h1.now s1
        have k1 : false = t := k1
        subst k1
        exact k2 a ⟨vs, SqL.of q1⟩ ⟨rfl, rfl, ha⟩
      · exact h1.elim
    | _ => exact h1.elim
theorem SrAt.wit {K : PySem.W.Frag} {ρ : List Addr} {H : Hp} {st : Sto} {t : Bool} {a : Addr} {i : Nat} {s : Sr} (sm : Sim L K ρ st H) (h : SrAt K ρ H t a i s) (hk : s.okB st = true) : ∃ vs, SqX K H t a vs := by
  cases s with
  | fix r =>
    obtain ⟨vs, _, h2⟩ := h
    refine ⟨vs, ?_⟩
    cases t with
    | true => exact SqF.sq h2
    | false =>
      rcases h2 with h2 | ⟨h2, _⟩
      · exact h2.sq
      · exact SqL.of h2
  | live k j =>
    obtain ⟨rfl, rfl, ha⟩ := h
    unfold Sr.okB at hk
    simp only at hk
    split at hk
    · rename_i xs ex
      obtain ⟨vs, h1, _⟩ := sm.obj _ _ a ex ha
      exact ⟨vs, SqL.of h1⟩
    · cases hk
theorem i_one {tb : Bool} {f : Loc → Sto → R (Bool × Sr)} (h : ∀ t, PE X e (rdS L X.K W t f)) : PI X tg e (rdI L X.K W tb fun σ st => (f σ st).bind fun s st1 => .ok (.one s.2) st1) := by
  refine ⟨fun pins s σ H R I ⟨ρ, st, σp, sm, l, hq⟩ => ?_⟩
  cases hr : f σp st with
  | ok ts st1 =>
    obtain ⟨t, sr⟩ := ts
    simp only [hr] at hq
    cases t with
    | false => exact (pi_list (h false)).run pins s σ H R I ⟨ρ, st, σp, sm, l, by rw [hr]; exact fun ρ1 H1 e1 s1 => ⟨rfl, fun a w ha => ⟨a, rfl, w, hq ρ1 H1 e1 s1 _ ⟨a, false, rfl, ha⟩ fun _ => rfl⟩⟩⟩
    | true => exact (pi_tup (h true)).run pins s σ H R I ⟨ρ, st, σp, sm, l, by rw [hr]; exact fun ρ1 H1 e1 s1 => ⟨rfl, fun a w ha => ⟨a, rfl, w, hq ρ1 H1 e1 s1 _ ⟨a, true, rfl, ha⟩ fun _ => rfl⟩⟩⟩
  | exc c fs st1 =>
    simp only [hr] at hq
    exact (pi_list (h false)).run pins s σ H R I ⟨ρ, st, σp, sm, l, by rw [hr]; exact hq⟩
  | stuck =>
    simp only [hr] at hq
    exact hq.elim
theorem i_rng1 {tb : Bool} {p : Pos} (K : Kx cc P C L X W) (hg : gloB X.env.scope "range" = true) (hf : cc.freeB "range" = true) (hs : noStar [e] = true) (he : PE X e (rdE L X.K W fa)) : PI X tg (.Call (.Name "range" p) [e] [] pos) (rdI L X.K W tb fun σ st => (fa σ st).bind fun v st1 => (match v with
    | .int j => if -(2 ^ 62) ≤ j ∧ j < 2 ^ 62 then .ok (.rng 0 j.toNat) st1 else .stuck
    | _ => .stuck)) :=
  (pi_range1 (glo_of hg).1 (K.free _ (by decide) hf) (pa_cons he pa_nil (star_one hs)) (star_one hs)).of fun σ H R ⟨ρ, st, σp, sm, l, h⟩ => rdE.step sm l h fun v st1 ρ1 H1 x e1 s1 l1 r1 h1 => by
    cases v with
    | int j =>
      obtain rfl : x = V.int j := r1
      simp only at h1
      split at h1
      · rename_i hj
        exact ⟨j, rfl, hj.1, hj.2, h1.now s1 _ ⟨0, j.toNat, rfl, by simp, by simp⟩ fun _ => rfl⟩
      · exact h1.elim
    | _ => exact h1.elim
theorem i_rng2 {tb : Bool} {p : Pos} (K : Kx cc P C L X W) (hg : gloB X.env.scope "range" = true) (hf : cc.freeB "range" = true) (hs : noStar [a, b] = true) (ha : PE X a (rdE L X.K W fa)) (hb : PE X b (rdE L X.K W fb)) : PI X tg (.Call (.Name "range" p) [a, b] [] pos) (rdI L X.K W tb fun σ st => (fa σ st).bind fun v st1 => (fb σ st1).bind fun u st2 => (match v, u with
    | .int i, .int j => if -(2 ^ 62) ≤ i ∧ i < 2 ^ 62 ∧ -(2 ^ 62) ≤ j ∧ j < 2 ^ 62 then .ok (.rng i (j - i).toNat) st2 else .stuck
    | _, _ => .stuck)) :=
  (pi_range2 (glo_of hg).1 (K.free _ (by decide) hf) (pa_cons ha (pa_cons hb pa_nil (star_one (noStar_tl hs))) (star_one hs)) ((star_one hs).trans (by rw [star_one (noStar_tl hs)]; rfl)) (star_one (noStar_tl hs))).of fun σ H R ⟨ρ, st, σp, sm, l, h⟩ => rdE.step sm l h fun v st1 ρ1 H1 x e1 s1 l1 r1 h1 => rdE.step s1 l1 h1 fun w st2 ρ2 H2 y e2 s2 l2 r2 h2 => by
    cases v with
    | int i =>
      cases w with
      | int j =>
        obtain rfl : x = V.int i := r1
        obtain rfl : y = V.int j := r2
        simp only at h2
        split at h2
        · rename_i hj
          exact ⟨i, j, rfl, hj, h2.now s2 _ ⟨i, _, rfl, by simp, by simp⟩ fun _ => rfl⟩
        · exact h2.elim
      | _ => exact h2.elim
    | _ => exact h2.elim
theorem i_enum {f : Loc → Sto → R (Bool × Sr)} {elts : List Expr} {kk : Nat} {p tpos : Pos} (K : Kx cc P C L X W) (hg : gloB X.env.scope "enumerate" = true) (hf : cc.freeB "enumerate" = true) (hs : noStar [e] = true) (h : ∀ t, PE X e (rdS L X.K W t f)) :
    PI X (.Tuple elts kk tpos) (.Call (.Name "enumerate" p) [e] [] pos) (rdI L X.K W true fun σ st => (f σ st).bind fun s st1 => if s.1 = false then .ok (.enum 0 s.2) st1 else .stuck) :=
  (pi_enum (glo_of hg).1 (K.free _ (by decide) hf) (pa_cons (h false) pa_nil (star_one hs)) (star_one hs)).of fun σ H R ⟨ρ, st, σp, sm, l, h⟩ => ⟨ρ, st, σp, sm, l, okR.mono h.bind fun s st1 ρ1 H1 e1 s1 h1 => by
    split at h1
    · rename_i hs
      refine ⟨hs, fun a w ha => ?_⟩
      obtain ⟨vs, w⟩ := w
      exact ⟨a, vs, rfl, w, h1.now s1 _ ⟨rfl, a, rfl, ha⟩ (fun z => nomatch z)⟩
    · exact h1.elim⟩
theorem i_zip {f g : Loc → Sto → R (Bool × Sr)} {elts : List Expr} {kk : Nat} {p tpos : Pos} (K : Kx cc P C L X W) (hg : gloB X.env.scope "zip" = true) (hf : cc.freeB "zip" = true) (hs : noStar [a, b] = true) (ha : ∀ t, PE X a (rdS L X.K W t f)) (hb : ∀ t, PE X b (rdS L X.K W t g)) :
    PI X (.Tuple elts kk tpos) (.Call (.Name "zip" p) [a, b] [] pos) (rdI L X.K W true fun σ st => (f σ st).bind fun s st1 => (g σ st1).bind fun t st2 => if s.1 = t.1 ∧ s.2.okB st2 = true then .ok (.zip s.2 t.2) st2 else .stuck) := by
  have rule : ∀ t, PI X (.Tuple elts kk tpos) (.Call (.Name "zip" p) [a, b] [] pos) (RZ.iZipA X.K (tCons (rdS L X.K W t f) (tCons (rdS L X.K W t g) tNil))) := fun t =>
    RZ.pi_zipA (glo_of hg).1 (K.free _ (by decide) hf) (pa_cons (ha t) (pa_cons (hb t) pa_nil (star_one (noStar_tl hs))) (star_one hs)) (star_one hs) (star_plain (noStar_tl hs))
  refine ⟨fun pins s σ H R I ⟨ρ, st, σp, sm, l, hq⟩ => ?_⟩
  cases hr : f σp st with
  | ok ts st1 =>
    obtain ⟨t, sr⟩ := ts
    simp only [hr] at hq
    refine (rule t).run pins s σ H R I ⟨ρ, st, σp, sm, l, ?_⟩
    rw [hr]
    intro ρ1 H1 e1 s1
    refine ⟨rfl, fun a' w ha' => ?_⟩
    show rdS L X.K W t g σ H1 _
    refine ⟨ρ1, st1, σp, s1, RLo.ext sm e1 _ _ l, okR.mono (okR.bind (okR.ext (r := (g σp st1).bind _) hq e1)) fun s' st2 ρ2 H2 e2 s2 h2 => ?_⟩
    split at h2
    · rename_i hh
      obtain ⟨h1, h3⟩ := hh
      have h1 : t = s'.1 := h1
      refine ⟨h1.symm, fun b' w' hb' => ?_⟩
      have ha2 := SrAt.ext s1 e2 ha'
      obtain ⟨vs, wv⟩ := SrAt.wit s2 ha2 h3
      obtain ⟨us, wu⟩ := w'
      have q := h2.now s2
      cases t with
      | false => exact ⟨a', b', vs, us, rfl, .inl ⟨wv, wu, q _ ⟨a', b', false, rfl, ha2, hb'⟩ (fun z => nomatch z)⟩⟩
      | true => exact ⟨a', b', vs, us, rfl, .inr ⟨wv, wu, q _ ⟨a', b', true, rfl, ha2, hb'⟩ (fun z => nomatch z)⟩⟩
    · exact h2.elim
  | exc c fs st1 =>
    simp only [hr] at hq
    exact (rule false).run pins s σ H R I ⟨ρ, st, σp, sm, l, by rw [hr]; exact hq⟩
  | stuck =>
    simp only [hr] at hq
    exact hq.elim
end
end Rf
end
section
set_option Elab.async false
set_option linter.all false
set_option maxRecDepth 100000
set_option maxHeartbeats 1000000
/-! Rf16: comprehensions. -/
namespace Rf
open PySem PySem.Spec PyProof.Rows L2
/-- what is frozen stays, dicts aside -/
def FrzS (H H' : Hp) : Prop := ∀ a o u, H a = some (.frz o u) → (∀ ks, u ≠ .dK ks) → H' a = some (.frz o u)
theorem FrzLe.s {H H' : Hp} (f : FrzLe H H') : FrzS H H' := fun a o u h _ => f a o u h
section
variable {L : Lk} {K : PySem.W.Frag} {ρ ρ' : List Addr} {H H' : Hp} {st : Sto}
theorem SqF.frz (f : FrzS H H') {a : Addr} {vs : List V} (h : SqF K H a vs) : SqF K H' a vs := by
  rcases h with ⟨o, h, hd⟩ | h
  · exact .inl ⟨o, f _ _ _ h (fun _ z => nomatch z), hd⟩
  · exact .inr h
theorem RoL.frz (f : FrzS H H') {a : Addr} {vs : List V} (h : RoL K H a vs) : RoL K H' a vs := by
  rcases h with ⟨o, h⟩ | h
  · exact .inl ⟨o, f _ _ _ h (fun _ z => nomatch z)⟩
  · exact .inr h
mutual
theorem RV.frz (f : FrzS H H') : ∀ (x : PV) (v : V), RV K ρ H x v → RV K ρ H' x v
  | .non, _, h => h
  | .bl _, _, h => h
  | .int _, _, h => h
  | .str _, _, h => h
  | .tup xs, _, h => by
    obtain ⟨a, vs, rfl, h1, h2⟩ := h
    exact ⟨a, vs, rfl, h1.frz f, RVs.frz f xs vs h2⟩
  | .rol xs, _, h => by
    obtain ⟨a, vs, rfl, h1, h2⟩ := h
    exact ⟨a, vs, rfl, h1.frz f, RVs.frz f xs vs h2⟩
  | .obj k, _, h => h
theorem RVs.frz (f : FrzS H H') : ∀ (xs : List PV) (vs : List V), RVs K ρ H xs vs → RVs K ρ H' xs vs
  | [], _, h => h
  | x :: r, _, h => by
    obtain ⟨u, us, rfl, h1, h2⟩ := h
    exact ⟨u, us, rfl, RV.frz f x u h1, RVs.frz f r us h2⟩
end
theorem RKs.frz (f : FrzS H H') : ∀ (xs : List (PV × PV)) (vs : List (Key × V)), RKs K ρ H xs vs → RKs K ρ H' xs vs
  | [], _, h => h
  | x :: r, _, h => by
    obtain ⟨k, u, us, rfl, h1, h2, h3, h4⟩ := h
    exact ⟨k, u, us, rfl, h1, RV.frz f _ _ h2, RV.frz f _ _ h3, RKs.frz f r us h4⟩
theorem RFs.frz (f : FrzS H H') : ∀ (xs : List (Nat × PV)) (vs : List (Str × V)), RFs L K ρ H xs vs → RFs L K ρ H' xs vs
  | [], _, h => h
  | x :: r, _, h => by
    obtain ⟨u, us, rfl, h1, h2⟩ := h
    exact ⟨u, us, rfl, RV.frz f _ _ h1, RFs.frz f r us h2⟩
theorem RLo.frz (f : FrzS H H') : ∀ (σ : Loc) (l : List (Option V)), RLo K ρ H σ l → RLo K ρ H' σ l
  | [], _, h => h
  | none :: r, _, h => by
    obtain ⟨u, us, rfl, h1, h2⟩ := h
    exact ⟨u, us, rfl, trivial, RLo.frz f r us h2⟩
  | some p :: r, _, h => by
    obtain ⟨u, us, rfl, ⟨v, rfl, h1⟩, h2⟩ := h
    exact ⟨_, us, rfl, ⟨v, rfl, RV.frz f _ _ h1⟩, RLo.frz f r us h2⟩
theorem SO.frz (f : FrzS H H') {o : MO} {a : Addr} (e : H' a = H a) (h : SO L K ρ H o a) : SO L K ρ H' o a := by
  cases o with
  | lst xs => obtain ⟨vs, h1, h2⟩ := h; exact ⟨vs, e.trans h1, RVs.frz f xs vs h2⟩
  | dct lk kvs =>
    obtain ⟨ks, h1, h2⟩ := h
    refine ⟨ks, RKs.frz f _ _ h1, ?_⟩
    rw [e]
    exact h2
  | ins c fs => obtain ⟨dx, l, h1, h2⟩ := h; exact ⟨dx, l, e.trans h1, RFs.frz f _ _ h2⟩
theorem Sim.frz (f : FrzS H H') (e : ∀ a ∈ ρ, H' a = H a) (s : Sim L K ρ st H) : Sim L K ρ st H' :=
  ⟨s.len, s.nd, fun k u a e1 e2 => SO.frz f (e a (List.mem_of_getElem? e2)) (s.obj k u a e1 e2)⟩
/-- all but one -/
def era (H : Hp) (D : Addr) : Hp := fun a => if a = D then none else H a
theorem era_ne {D a : Addr} (h : a ≠ D) : era H D a = H a := if_neg h
theorem era_self {D : Addr} : era H D D = none := if_pos rfl
theorem era_some {D a : Addr} {o : HO} (h : era H D a = some o) : a ≠ D ∧ H a = some o := by
  by_cases e : a = D
  · subst e
    rw [era_self] at h
    cases h
  · rw [era_ne e] at h
    exact ⟨e, h⟩
theorem era_upd {D : Addr} {o : HO} : era (upd H D o) D = era H D := by
  funext a
  by_cases e : a = D
  · subst e; rw [era_self, era_self]
  · rw [era_ne e, era_ne e, upd_ne e]
theorem era_none {D : Addr} (h : H D = none) : era H D = H := by
  funext a
  by_cases e : a = D
  · subst e; rw [era_self, h]
  · rw [era_ne e]
theorem Ext.un {D : Addr} : Ext ρ (era H D) ρ H := ⟨⟨[], by simp⟩, fun a h n => absurd h n, fun a o h _ => (era_some h).2, fun a o u h => (era_some h).2⟩
theorem Ext.era {D : Addr} (e : Ext ρ H ρ' H') (hD : D ∉ ρ) : Ext ρ (Rf.era H D) ρ' (Rf.era H' D) where
  pre := e.pre
  fresh := fun a h n => by
    by_cases q : a = D
    · rw [q]; exact era_self
    · rw [era_ne q]; exact e.fresh a h n
  keep := fun a o h n => by
    obtain ⟨q, h⟩ := era_some h
    rw [era_ne q]
    exact e.keep a o h n
  frz := fun a o u h => by
    obtain ⟨q, h⟩ := era_some h
    rw [era_ne q]
    exact e.frz a o u h
theorem FrzLe.era {D : Addr} (h : ∀ o u, H D ≠ some (.frz o u)) : FrzLe H (Rf.era H D) := fun a o u e => by
  rw [era_ne]
  · exact e
  · rintro rfl
    exact h _ _ e
theorem FrzLe.upd {D : Addr} {o : HO} (h : ∀ o u, H D ≠ some (.frz o u)) : FrzLe H (L2.upd H D o) := fun a p u e => by
  rw [upd_ne]
  · exact e
  · rintro rfl
    exact h _ _ e
theorem Sim.era {D : Addr} (s : Sim L K ρ st H) (hD : D ∉ ρ) (h : ∀ o u, H D ≠ some (.frz o u)) : Sim L K ρ st (Rf.era H D) := s.frz (FrzLe.era h).s fun a ha => era_ne fun e => hD (e ▸ ha)
theorem Sim.off {D : Addr} {o : HO} (s : Sim L K ρ st H) (hD : D ∉ ρ) (h : ∀ o u, H D ≠ some (.frz o u)) : Sim L K ρ st (upd H D o) := s.frz (FrzLe.upd h).s fun a ha => upd_ne fun e => hD (e ▸ ha)
end
/-! ### slots forgotten twice -/
theorem wipe_none {σ : List (Option V)} {i : Nat} : ∀ {vs : List Nat}, i ∈ vs → (L2.wipe σ vs).set i none = L2.wipe σ vs
  | w :: vs, h => by
    unfold L2.wipe
    by_cases e : w = i
    · subst e
      simp
    · rcases List.mem_cons.mp h with q | q
      · exact absurd q.symm e
      · rw [List.set_comm _ _ e, wipe_none q]
theorem wipe_twice {σ : List (Option V)} {us : List Nat} : ∀ {vs : List Nat}, (∀ i ∈ vs, i ∈ us) → L2.wipe (L2.wipe σ us) vs = L2.wipe σ us
  | [], _ => rfl
  | v :: vs, h => by
    show (L2.wipe (L2.wipe σ us) vs).set v none = _
    rw [wipe_twice fun i hi => h i (List.mem_cons_of_mem _ hi)]
    exact wipe_none (h v List.mem_cons_self)
def RVb (b : Bool) (K : PySem.W.Frag) (ρ : List Addr) (H : Hp) (p : PV) (v : V) : Prop := if b = true then RVt K ρ H p v else RV K ρ H p v
def rdGb (L : Lk) (K : PySem.W.Frag) (W : WX) (b : Bool) (is : List Nat) (f : PV → Loc → Sto → R Loc) : TG := fun v σ H Q => ∃ ρ st σp p, Sim L K ρ st H ∧ RLo K ρ H σp σ ∧ RVb b K ρ H p v ∧ okR L K W ρ H σ (f p σp st) (gQ K is σ Q)
section
variable {cc : Cc} {P : Pg} {C : CallF} {L : Lk} {X : Cx} {W : WX} {elt it tg : Expr} {pos : Pos} {scope : Scope} {own : List (Str × Nat)} {ifs : List Expr} {fw : Loc → Sto → R Wk} {V : Ev} {el : Ex} {t : Tg} {fi : Option Ex} {tb : Bool} {LL : Nat}
/-- the tests of a comprehension -/
def rdIf (L : Lk) (K : PySem.W.Frag) (V : Ev) (fi : Option Ex) : TT := rdT L K nev fun σ st => match fi with
  | none => .ok true st
  | some c => tst V.e c σ st
theorem comp_imp {own : List (Str × Nat)} (hLL : LL ≤ big) (hix : ∀ i ∈ t.ixs, i ∈ own.map (·.2)) (σ : L2.St) (H0 : Hp) (Q : VK) (hh : rdN L X.K W (fun σ st => (fw σ st).bind fun w st1 => compGo V el t fi (Rf.wipe σ (own.map (·.2))) LL w [] st1) σ H0 Q) :
    tLc (rdI L X.K W tb fw) (rdGb L X.K nev tb t.ixs (V.t t)) (rdIf L X.K V fi) (rdE L X.K nev (V.e el)) (own.map (·.2)) σ H0 Q := by
    obtain ⟨ρ0, st0, σp, sm0, l0, h0⟩ := hh
    refine ⟨ρ0, st0, σp, sm0, l0, okR.mono (okR.raw h0) fun w st1 ρ1 H1 e1 s1 h1 J hJ hpl D hD => ?_⟩
    have hD0 := back_none e1 s1 hD
    refine ⟨fun i m H => ∃ ρ st w acc us, Sim L X.K ρ st H ∧ RLo X.K ρ H (Rf.wipe σp (own.map (·.2))) (L2.wipe σ (own.map (·.2))) ∧ WkAt X.K ρ (era H D) J i w ∧ (tb = false → w.plain = true) ∧ H D = some (.lst us) ∧ D ∉ ρ ∧ RVs X.K ρ H acc.reverse us ∧ acc.length + m ≤ LL ∧
      Ext ρ0 H0 ρ (era H D) ∧ okR L X.K W ρ0 H0 σ (compGo V el t fi (Rf.wipe σp (own.map (·.2))) m w acc st) fun xs _ ρ' H' => ∀ a vs, H0 a = none → a ∉ ρ' → H' a = some (.lst vs) → RVs X.K ρ' H' xs vs → Q (.ref a) H', ⟨LL, ρ1, st1, w, [], [], s1.laid hD, ?_, ?_, hpl, upd_same, s1.fresh hD, (show RVs X.K ρ1 _ ([] : List PV).reverse [] from rfl), by simp, ?_, h1⟩, ?_⟩
    · exact RLo.wipe (RLo.ext s1 (Ext.laid hD) _ _ (RLo.ext sm0 e1 _ _ l0)) _
    · rw [era_upd, era_none hD]; exact hJ
    · rw [era_upd, era_none hD]; exact e1
    · rintro i m H ⟨ρ, st, w, acc, us, sm, l, hw, hp, hDl, hDn, ra, hlen, ee, hq⟩
      have nf : ∀ o u, H D ≠ some (.frz o u) := fun o u z => by rw [hDl] at z; cases z
      have smE := sm.era hDn nf
      cases m with
      | zero => exact hq.elim
      | succ m =>
        unfold compGo at hq
        split at hq
        · exact hq.elim
        · rename_i hn
          exact .inl ⟨(hw.ext smE .un).stop sm hn, hq ρ H (ee.trans .un) sm D us hD0 hDn hDl ra⟩
        · rename_i x w1 hn
          obtain ⟨go, hy⟩ := (hw.ext smE .un).go sm hn
          have hw1 := hw.succ smE hn
          refine .inr ⟨go, fun H' => ∃ ρ st w acc us, Sim L X.K ρ st H' ∧ RLo X.K ρ H' (Rf.wipe σp (own.map (·.2))) (L2.wipe σ (own.map (·.2))) ∧ WkAt X.K ρ (era H' D) J (i + 1) w ∧ (tb = false → w.plain = true) ∧ H' D = some (.lst us) ∧ D ∉ ρ ∧ RVs X.K ρ H' acc.reverse us ∧ acc.length + m ≤ LL ∧
            Ext ρ0 H0 ρ (era H' D) ∧ okR L X.K W ρ0 H0 σ (compGo V el t fi (Rf.wipe σp (own.map (·.2))) m w acc st) fun xs _ ρ' H' => ∀ a vs, H0 a = none → a ∉ ρ' → H' a = some (.lst vs) → RVs X.K ρ' H' xs vs → Q (.ref a) H', fun H' q => ⟨m, Nat.lt_succ_self m, q⟩, fun v H' yld => ?_⟩
          obtain ⟨e2, sm2, rt, _, rp⟩ := hy v H' yld
          have hraw := okR.raw hq
          have eAll : Ext ρ0 H0 ρ H' := (ee.trans .un).trans e2
          refine ⟨ρ, st, Rf.wipe σp (own.map (·.2)), x, sm2, RLo.ext sm e2 _ _ l, ?_, okR.mono (okR.noexc (W' := nev) (σ' := L2.wipe σ (own.map (·.2))) (okR.ext hraw eAll)) fun σ2p st2 ρ2 H2 e3 sm3 h3 σ2 l2 b2 => ?_⟩
          · cases tb with
            | true => exact rt
            | false => exact (rp (hp rfl)).1
          · refine ⟨(b2 _ hix).trans (wipe_twice fun i hi => hi), ?_⟩
            have e13 := e2.trans e3
            have keepD : ∀ {ρ4 : List Addr} {H4 : Hp}, Ext ρ H ρ4 H4 → H4 D = some (.lst us) ∧ D ∉ ρ4 := fun {ρ4 H4} e => ⟨e.keep _ _ hDl hDn, fun z => by
              have := e.fresh D z hDn
              rw [hDl] at this
              cases this⟩
            have p1 : tb = false → w1.plain = true := fun z => (rp (hp z)).2
            have last : ∀ {st4 : Sto} {ρ4 : List Addr} {H4 : Hp} {y : L2.V} {yp : PV}, Ext ρ H ρ4 H4 → Sim L X.K ρ4 st4 H4 → RV X.K ρ4 H4 yp y → okR L X.K W ρ0 H0 σ (compGo V el t fi (Rf.wipe σp (own.map (·.2))) m w1 (yp :: acc) st4) (fun xs _ ρ' H' => ∀ a vs, H0 a = none → a ∉ ρ' → H' a = some (.lst vs) → RVs X.K ρ' H' xs vs → Q (.ref a) H') →
                ∃ acc, H4 D = some (.lst acc) ∧ acc.length < sizeLine ∧ ∃ ρ st w acc' us, Sim L X.K ρ st (upd H4 D (.lst (acc ++ [y]))) ∧ RLo X.K ρ (upd H4 D (.lst (acc ++ [y]))) (Rf.wipe σp (own.map (·.2))) (L2.wipe σ (own.map (·.2))) ∧ WkAt X.K ρ (era (upd H4 D (.lst (acc ++ [y]))) D) J (i + 1) w ∧ (tb = false → w.plain = true) ∧ (upd H4 D (.lst (acc ++ [y]))) D = some (.lst us) ∧ D ∉ ρ ∧ RVs X.K ρ (upd H4 D (.lst (acc ++ [y]))) acc'.reverse us ∧ acc'.length + m ≤ LL ∧
                  Ext ρ0 H0 ρ (era (upd H4 D (.lst (acc ++ [y]))) D) ∧ okR L X.K W ρ0 H0 σ (compGo V el t fi (Rf.wipe σp (own.map (·.2))) m w acc' st) fun xs _ ρ' H' => ∀ a vs, H0 a = none → a ∉ ρ' → H' a = some (.lst vs) → RVs X.K ρ' H' xs vs → Q (.ref a) H' := by
              intro st4 ρ4 H4 y yp e4 s4 r4 h4
              obtain ⟨d1, d2⟩ := keepD e4
              have nf4 : ∀ o u, H4 D ≠ some (.frz o u) := fun o u z => by rw [d1] at z; cases z
              have hl : us.length = acc.length := by
                have := ra.length
                simp at this
                exact this.symm
              refine ⟨us, d1, ?_, ρ4, st4, w1, yp :: acc, us ++ [y], s4.off d2 nf4, RLo.frz (FrzLe.upd nf4).s _ _ (RLo.ext sm e4 _ _ l), ?_, p1, upd_same, d2, ?_, ?_, ?_, h4⟩
              · have := big_line
                omega
              · rw [era_upd]; exact hw1.ext smE (e4.era hDn)
              · rw [List.reverse_cons]
                exact RVs.frz (FrzLe.upd nf4).s _ _ ((RVs.ext sm e4 _ _ ra).append (RVs.one r4))
              · simp only [List.length_cons]; omega
              · rw [era_upd]; exact ee.trans (e4.era hDn)
            cases fi with
            | none =>
              refine ⟨ρ2, st2, σ2p, sm3, l2, fun ρ3 H3 e5 sm5 => ?_⟩
              refine ⟨ρ3, st2, σ2p, sm5, RLo.ext sm3 e5 _ _ l2, okR.mono (okR.noexc (W' := nev) (σ' := σ2) (okR.ext (okR.raw h3) (eAll.trans (e3.trans e5)))) fun yp st4 ρ4 H4 e6 sm6 h6 y ry => ?_⟩
              exact last (e13.trans (e5.trans e6)) sm6 ry h6
            | some c =>
              refine ⟨ρ2, st2, σ2p, sm3, l2, okR.mono (okR.noexc (W' := nev) (σ' := σ2) (okR.ext (okR.raw h3) (eAll.trans e3))) fun bb st3 ρ3 H3 e5 sm5 h5 => ?_⟩
              cases bb with
              | true =>
                rw [if_pos rfl]
                refine ⟨ρ3, st3, σ2p, sm5, RLo.ext sm3 e5 _ _ l2, okR.mono (okR.noexc (W' := nev) (σ' := σ2) (okR.ext (okR.raw h5) (eAll.trans (e3.trans e5)))) fun yp st4 ρ4 H4 e6 sm6 h6 y ry => ?_⟩
                exact last (e13.trans (e5.trans e6)) sm6 ry h6
              | false =>
                rw [if_neg (by decide)]
                have e4 := e13.trans e5
                obtain ⟨d1, d2⟩ := keepD e4
                have nf4 : ∀ o u, H3 D ≠ some (.frz o u) := fun o u z => by rw [d1] at z; cases z
                exact ⟨ρ3, st3, w1, acc, us, sm5, RLo.ext sm e4 _ _ l, hw1.ext smE (e4.era hDn), p1, d1, d2, RVs.ext sm e4 _ _ ra, by omega, ee.trans (e4.era hDn), h5⟩
theorem comp_core (hLL : LL ≤ big) (K : Kx cc P C L X W) (ok : BlkOk X.N X.env.scope scope own) (hi : PI X tg it (rdI L X.K W tb fw)) (hf : ∀ x, foldedSetIterable it X.env x = pure x) (hix : ∀ i ∈ t.ixs, i ∈ own.map (·.2))
    (hg : ∀ (s : Shared) (H : Hp) (Cl : Addr) (cl : List (Str × Addr)) (fp : List Addr), PG (X.blk s H scope (compEnvC scope cl Cl X.env) fp) tg (rdGb L X.K nev tb t.ixs (V.t t)))
    (ht : ∀ (s : Shared) (H : Hp) (Cl : Addr) (cl : List (Str × Addr)) (fp : List Addr), PTs (X.blk s H scope (compEnvC scope cl Cl X.env) fp) ifs (rdIf L X.K V fi))
    (he : ∀ (s : Shared) (H : Hp) (Cl : Addr) (cl : List (Str × Addr)) (fp : List Addr), PE (X.blk s H scope (compEnvC scope cl Cl X.env) fp) elt (rdE L X.K nev (V.e el))) :
    PE X (.ListComp elt [⟨tg, it, ifs, 0⟩] scope pos) (rdN L X.K W fun σ st => (fw σ st).bind fun w st1 => compGo V el t fi (Rf.wipe σ (own.map (·.2))) LL w [] st1) :=
  (pe_lc K.calm K.nd hi ok hg ht he hf).of fun σ H0 Q h => comp_imp hLL hix σ H0 Q h
end
end Rf
end
section
set_option Elab.async false
set_option linter.all false
set_option maxRecDepth 100000
set_option maxHeartbeats 2000000
/-! Rf17: the soundness of expressions. -/
namespace Rf
open PySem PySem.Spec PyProof.Rows L2
structure IH (cc : Cc) (P : Pg) (C : CallF) (L : Lk) (LL n : Nat) : Prop where
  E : ∀ {X : Cx} {W : WX}, Kx cc P C L X W → ∀ (e : Expr) (D : Nat), PE X e (rdE L X.K W ((evN P C LL D).e (cE cc X.N n X.env.scope e)))
  T : ∀ {X : Cx} {W : WX}, Kx cc P C L X W → ∀ (e : Expr) (D : Nat), PT X e (rdT L X.K W (tst (evN P C LL D).e (cE cc X.N n X.env.scope e)))
  B : ∀ {X : Cx} {W : WX}, Kx cc P C L X W → ∀ (op : BoolOp) (es : List Expr) (p : Pos) (D : Nat), PW X (.BoolOp op es p) (rdT L X.K W (tst (evN P C LL D).e (cE cc X.N n X.env.scope (.BoolOp op es p))))
  N : ∀ {X : Cx} {W : WX}, Kx cc P C L X W → ∀ (e : Expr) (D : Nat), isNew (cE cc X.N n X.env.scope e) = true → PE X e (rdN L X.K W ((evN P C LL D).c (cE cc X.N n X.env.scope e)))
  I : ∀ {X : Cx} {W : WX}, Kx cc P C L X W → ∀ (tg it : Expr) (D : Nat), PI X tg it (rdI L X.K W (isTup tg) (stepW (evN P C LL D) (cI cc X.N (isTup tg) n X.env.scope it)))
  G : ∀ {X : Cx} {W : WX}, Kx cc P C L X W → ∀ (sc0 : Scope), OwnOk X sc0 → ∀ (e : Expr) (D : Nat), PG X e (rdGb L X.K W (isTup e) (cT cc X.N n X.env.scope sc0 e).ixs ((evN P C LL D).t (cT cc X.N n X.env.scope sc0 e)))
section
variable {cc : Cc} {P : Pg} {C : CallF} {L : Lk} {LL n : Nat} {X : Cx} {W : WX}
theorem e_no {e : Expr} {D : Nat} : PE X e (rdE L X.K W ((evN P C LL D).e .stuck)) := by
  cases D <;> exact PE.no fun σ H Q ⟨_, _, _, _, _, h⟩ => h.elim
theorem e_zero {e : Expr} {x : Ex} : PE X e (rdE L X.K W ((evN P C LL 0).e x)) := PE.no fun σ H Q ⟨_, _, _, _, _, h⟩ => h.elim
theorem opOf_name {op : Operator} {o : BOp} (h : opOf op = some o) : op = opName o := by
  cases op <;> simp only [opOf, reduceCtorEq, Option.some.injEq] at h <;> subst h <;> rfl
theorem coOf_name {op : CmpOp} {b : Expr} {o : COp} (h : coOf op b = some o) : op = coName o := by
  unfold coOf at h
  split at h <;> first | (cases h; rfl) | cases h
theorem if_name {x y : Str} {m k : Nat} {b c : Bl} {r : Option Bl} (h : (if x = y ∧ m = k then some c else r) = some b) : (x = y ∧ m = k ∧ b = c) ∨ r = some b := by
  split at h
  · rename_i q
    cases h
    exact .inl ⟨q.1, q.2, rfl⟩
  · exact .inr h
theorem blOf_name {x : Str} {m : Nat} {b : Bl} (h : blOfName x m = some b) : x = blName b ∧ b ≠ .sortset ∧ b ≠ .str ∧ m ≠ 0 := by
  unfold blOfName at h
  iterate 14
    rcases if_name h with ⟨rfl, rfl, rfl⟩ | h
    exact ⟨rfl, by decide, by decide, by decide⟩
  cases h
theorem bmOf_name {x : Str} {m : Nat} {b : Bm} (h : bmOfName x m = some b) : (b = .append ∧ x = "append" ∧ m = 1) ∨ (b = .extend ∧ x = "extend" ∧ m = 1) ∨ (b = .pop ∧ x = "pop" ∧ m = 0) ∨ (b = .popAt ∧ x = "pop" ∧ m = 1) ∨ (b = .get1 ∧ x = "get" ∧ m = 1) ∨ (b = .get2 ∧ x = "get" ∧ m = 2) := by
  unfold bmOfName at h
  split at h
  · rename_i q; cases h; exact .inl ⟨rfl, q⟩
  · split at h
    · rename_i q; cases h; exact .inr (.inl ⟨rfl, q⟩)
    · split at h
      · rename_i q; cases h; exact .inr (.inr (.inl ⟨rfl, q⟩))
      · split at h
        · rename_i q; cases h; exact .inr (.inr (.inr (.inl ⟨rfl, q⟩)))
        · split at h
          · rename_i q; cases h; exact .inr (.inr (.inr (.inr (.inl ⟨rfl, q⟩))))
          · split at h
            · rename_i q; cases h; exact .inr (.inr (.inr (.inr (.inr ⟨rfl, q⟩))))
            · cases h
theorem kx_blk (K : Kx cc P C L X W) (s : Shared) (H : Hp) (scope : Scope) (ce : Env) (fp : List Addr) : Kx cc P C L (X.blk s H scope ce fp) nev where
  calm := K.calm
  nd := K.nd
  units := K.units
  takes := fun u s' ⟨a, B, sI, pins, σ, H, cls, d, e, I, nb, up, sky, na, os, ag, w⟩ => w.elim
  fld := K.fld
  finj := K.finj
  fmth := K.fmth
  const := K.const
  free := K.free
  fn := K.fn
  cls := K.cls
  inits := K.inits
  pcls := K.pcls
theorem scope_blk (s : Shared) (H : Hp) (scope : Scope) (Cl : Addr) (cl : List (Str × Addr)) (fp : List Addr) : (X.blk s H scope (compEnvC scope cl Cl X.env) fp).env.scope = relS scope X.env.scope := rfl
theorem rel_local {sc : Scope} {x : Str} {kd : NameKind} (hk : kd ≠ .free) : ∀ {l : List (Str × NameKind)}, l.lookup x = some kd → (l.map fun (n, k) => if k == .free && sc.kind == .function && sc.names.lookup n == some .cell then (n, NameKind.cell) else (n, k)).lookup x = some kd
  | [], h => by cases h
  | (n, k) :: r, h => by
    rw [List.map_cons]
    by_cases e : x = n
    · subst e
      rw [List.lookup_cons_self] at h
      cases h
      have : (kd == NameKind.free) = false := by cases kd <;> first | rfl | exact absurd rfl hk
      simp only [this, Bool.false_and, Bool.false_eq_true, if_false, List.lookup_cons_self]
    · have e' : (x == n) = false := beq_eq_false_iff_ne.mpr e
      rw [List.lookup_cons, e'] at h
      have ih := rel_local (sc := sc) hk h
      by_cases c : (k == NameKind.free && sc.kind == ScopeKind.function && sc.names.lookup n == some NameKind.cell) = true
      · simp only [c, if_true]
        rw [List.lookup_cons, e']
        exact ih
      · simp only [Bool.not_eq_true] at c
        simp only [c, Bool.false_eq_true, if_false]
        rw [List.lookup_cons, e']
        exact ih
theorem own_blk (s : Shared) (H : Hp) (scope : Scope) (Cl : Addr) (cl : List (Str × Addr)) (fp : List Addr) : OwnOk (X.blk s H scope (compEnvC scope cl Cl X.env) fp) scope := by
  intro x h
  rcases h with h | h
  · have q : (relS scope X.env.scope).names.lookup x = some .local := rel_local (by decide) h
    exact ⟨.inl q, .inr q⟩
  · have q : (relS scope X.env.scope).names.lookup x = some .cell := rel_local (by decide) h
    refine ⟨.inr q, .inl ?_⟩
    show (scope.names.lookup x == some .cell) = true
    rw [h]
    rfl
theorem args_ok (ih : IH cc P C L LL n) (K : Kx cc P C L X W) {es : List Expr} (hs : noStar es = true) (D : Nat) : PA X es (rdA L X.K W (evs (evN P C LL D).e (es.map (cE cc X.N n X.env.scope)))) :=
  g_args hs fun e _ => ih.E K e D
theorem rdE_eq {e : Expr} {f g : Loc → Sto → R PV} (h : PE X e (rdE L X.K W f)) (q : ∀ σ st, f σ st = g σ st) : PE X e (rdE L X.K W g) := by
  have : f = g := funext fun σ => funext fun st => q σ st
  rw [← this]
  exact h
/-- a built-in -/
theorem blt_ok (ih : IH cc P C L LL n) (K : Kx cc P C L X W) (x : Str) (p pos : Pos) (args : List Expr) (D : Nat) (hg : gloB X.env.scope x = true) (hs : noStar args = true) (hf : cc.freeB x = true) :
    PE X (.Call (.Name x p) args [] pos) (rdE L X.K W (stepE P C LL (evN P C LL D) (bltC x (args.map (cE cc X.N n X.env.scope))))) := by
  have stk : PE X (.Call (.Name x p) args [] pos) (rdE L X.K W (stepE P C LL (evN P C LL D) .stuck)) := PE.no fun σ H Q ⟨_, _, _, _, _, h⟩ => h.elim
  unfold bltC
  split
  · rename_i b hb
    obtain ⟨rfl, h1, h2, h0⟩ := blOf_name hb
    match args, hs, h0 with
    | [], _, h0 => exact absurd rfl h0
    | [e], hs, _ =>
      by_cases hn : (isNew (cE cc X.N n X.env.scope e) && blSeqB b) = true
      · rw [Bool.and_eq_true] at hn
        refine rdE_eq (g_blN K hg hf h1 h2 hs (ih.N K e D hn.1)) fun σ st => ?_
        show _ = (if (isNew (cE cc X.N n X.env.scope e) && blSeqB b) = true then _ else _)
        rw [if_pos (by rw [hn.1, hn.2]; rfl)]
      · refine rdE_eq (g_bl K hg hf h1 h2 hs (args_ok ih K hs D)) fun σ st => ?_
        show _ = (if (isNew (cE cc X.N n X.env.scope e) && blSeqB b) = true then _ else _)
        rw [if_neg hn]
        show R.bind (R.bind ((evN P C LL D).e (cE cc X.N n X.env.scope e) σ st) _) _ = _
        cases (evN P C LL D).e (cE cc X.N n X.env.scope e) σ st <;> rfl
    | e :: e2 :: es, hs, _ => exact g_bl K hg hf h1 h2 hs (args_ok ih K hs D)
  · exact stk
theorem isC_ok (ih : IH cc P C L LL n) (K : Kx cc P C L X W) (p pos : Pos) (args : List Expr) (D : Nat) (hg : gloB X.env.scope "isinstance" = true) (hs : noStar args = true) (hf : cc.freeB "isinstance" = true) :
    PE X (.Call (.Name "isinstance" p) args [] pos) (rdE L X.K W (stepE P C LL (evN P C LL D) (isC cc X.env.scope args (args.map (cE cc X.N n X.env.scope))))) := by
  have stk : PE X (.Call (.Name "isinstance" p) args [] pos) (rdE L X.K W (stepE P C LL (evN P C LL D) .stuck)) := PE.no fun σ H Q ⟨_, _, _, _, _, h⟩ => h.elim
  unfold isC
  split
  · rename_i e ks k q c c2 hc
    split
    · rename_i ds hk
      split
      · rename_i hd
        simp only [List.map_cons, List.map_nil, List.cons.injEq] at hc
        obtain ⟨rfl, _⟩ := hc
        exact g_isinT K hg hf hk ⟨by intro z; rw [z] at hd; simp at hd, hd.2⟩ hs (ih.E K e D)
      · exact stk
    · exact stk
  · rename_i e k c c2 hne hc
    split
    · rename_i d hk
      simp only [List.map_cons, List.map_nil, List.cons.injEq] at hc
      obtain ⟨rfl, _⟩ := hc
      exact g_isin1 K hg hf hk hs (ih.E K e D)
    · exact stk
  · exact stk
/-- a call by a name -/
theorem nm_ok (ih : IH cc P C L LL n) (K : Kx cc P C L X W) (x : Str) (p pos : Pos) (args : List Expr) (D : Nat) :
    PE X (.Call (.Name x p) args [] pos) (rdE L X.K W (stepE P C LL (evN P C LL D) (nmC cc X.env.scope x args (args.map (cE cc X.N n X.env.scope)) ((setArg cc X.env.scope args).map (cE cc X.N n X.env.scope))))) := by
  have stk : PE X (.Call (.Name x p) args [] pos) (rdE L X.K W (stepE P C LL (evN P C LL D) .stuck)) := PE.no fun σ H Q ⟨_, _, _, _, _, h⟩ => h.elim
  unfold nmC
  split
  · rename_i hg
    rw [Bool.and_eq_true] at hg
    obtain ⟨hg, hs⟩ := hg
    split
    · rename_i f hf
      cases args with
      | nil => exact g_call0 K hg hf
      | cons e es => exact g_call K hg hs hf (args_ok ih K hs D)
    · split
      · rename_i i hi
        cases args with
        | nil => exact g_make0 K hg hi
        | cons e es =>
          obtain ⟨d, f, ed, ef⟩ := K.inits i x (ixS_get hi)
          exact g_make K hg hs hi (args_ok ih K hs D) ed ef
      · split
        · rename_i hf
          split
          · rename_i ex
            subst ex
            exact isC_ok ih K p pos args D hg hs hf
          · cases hsi : setArg cc X.env.scope args with
            | none => exact blt_ok ih K x p pos args D hg hs hf
            | some a =>
              simp only [Option.map_some]
              split
              · rename_i ex
                subst ex
                unfold setArg at hsi
                split at hsi
                · rename_i y p2 a' pos2
                  split at hsi
                  · rename_i hy
                    obtain ⟨rfl, h3, h4, h5⟩ := hy
                    cases hsi
                    by_cases hn : isNew (cE cc X.N n X.env.scope a) = true
                    · refine rdE_eq (g_sortsetN K hg hf h3 h4 h5 (ih.N K a D hn)) fun σ st => ?_
                      show _ = (if (isNew (cE cc X.N n X.env.scope a) && blSeqB .sortset) = true then _ else _)
                      rw [if_pos (by rw [hn]; rfl)]
                    · refine rdE_eq (g_sortset K hg hf h3 h4 h5 (ih.E K a D)) fun σ st => ?_
                      show _ = (if (isNew (cE cc X.N n X.env.scope a) && blSeqB .sortset) = true then _ else _)
                      rw [if_neg (by intro z; rw [Bool.and_eq_true] at z; exact hn z.1)]
                  · cases hsi
                · cases hsi
              · exact blt_ok ih K x p pos args D hg hs hf
        · exact stk
  · exact stk
theorem len1 {α : Type} {l : List α} (h : l.length = 1) : ∃ a, l = [a] := by
  match l, h with
  | [a], _ => exact ⟨a, rfl⟩
theorem len2 {α : Type} {l : List α} (h : l.length = 2) : ∃ a b, l = [a, b] := by
  match l, h with
  | [a, b], _ => exact ⟨a, b, rfl⟩
/-- a call of a method -/
theorem mt_ok (ih : IH cc P C L LL n) (K : Kx cc P C L X W) (o : Expr) (m : Str) (ap cp : Pos) (args : List Expr) (D : Nat) :
    PE X (.Call (.Attribute o m ap) args [] cp) (rdE L X.K W (stepE P C LL (evN P C LL D) (mtC cc o m ap args cp (cE cc X.N n X.env.scope o) (args.map (cE cc X.N n X.env.scope))))) := by
  have stk : PE X (.Call (.Attribute o m ap) args [] cp) (rdE L X.K W (stepE P C LL (evN P C LL D) .stuck)) := PE.no fun σ H Q ⟨_, _, _, _, _, h⟩ => h.elim
  unfold mtC
  split
  · rename_i hh
    simp only [Bool.and_eq_true, decide_eq_true_eq] at hh
    obtain ⟨⟨⟨hb, hs⟩, hl⟩, hline⟩ := hh
    have ho := ih.E K o D
    split
    · rename_i i hi
      exact g_meth K hb hs hl hline hi ho (args_ok ih K hs D) fun e => by subst e; rfl
    · split
      · rename_i b hbm
        rcases bmOf_name hbm with ⟨rfl, rfl, hz⟩ | ⟨rfl, rfl, hz⟩ | ⟨rfl, rfl, hz⟩ | ⟨rfl, rfl, hz⟩ | ⟨rfl, rfl, hz⟩ | ⟨rfl, rfl, hz⟩
        · obtain ⟨e, rfl⟩ := len1 hz
          exact g_append hb hs hl hline ho (args_ok ih K hs D)
        · obtain ⟨e, rfl⟩ := len1 hz
          by_cases hn : isNew (cE cc X.N n X.env.scope e) = true
          · refine rdE_eq (g_extN hb hs hline ho (ih.N K e D hn)) fun σ st => ?_
            show _ = (if isNew (cE cc X.N n X.env.scope e) = true then _ else _)
            rw [if_pos hn]
          · refine rdE_eq (g_extend hb hs hl hline ho (args_ok ih K hs D)) fun σ st => ?_
            show _ = (if isNew (cE cc X.N n X.env.scope e) = true then _ else _)
            rw [if_neg hn]
            rfl
        · cases List.length_eq_zero_iff.mp hz
          exact g_pop hb hline ho
        · obtain ⟨e, rfl⟩ := len1 hz
          exact g_popAt hb hs hl hline ho (args_ok ih K hs D)
        · obtain ⟨e, rfl⟩ := len1 hz
          exact g_get1 K hb hs hline ho (ih.E K e D)
        · obtain ⟨e, e2, rfl⟩ := len2 hz
          exact g_get2 K hb hs hline ho (ih.E K e D) (ih.E K e2 D)
      · exact stk
  · exact stk
/-- a comprehension -/
theorem comp_ok (hLL : LL ≤ big) (ih : IH cc P C L LL n) (K : Kx cc P C L X W) (elt tg it : Expr) (ifs : List Expr) (fi : Option Ex) (scope : Scope) (pos : Pos) (D : Nat)
    (hb : (L2.blkC X.N X.env.scope scope (ownOf X.N scope) && noSet it && ((cT cc X.N n (relS scope X.env.scope) scope tg).ixs.all fun i => ((ownOf X.N scope).map (·.2)).contains i)) = true)
    (hif : (ifs = [] ∧ fi = none) ∨ ∃ c, ifs = [c] ∧ fi = some (cE cc X.N n (relS scope X.env.scope) c)) :
    PE X (.ListComp elt [⟨tg, it, ifs, 0⟩] scope pos) (rdN L X.K W fun σ st => (stepW (evN P C LL D) (cI cc X.N (isTup tg) n X.env.scope it) σ st).bind fun w st1 =>
      compGo (evN P C LL D) (cE cc X.N n (relS scope X.env.scope) elt) (cT cc X.N n (relS scope X.env.scope) scope tg) fi (Rf.wipe σ ((ownOf X.N scope).map (·.2))) LL w [] st1) := by
  rw [Bool.and_eq_true, Bool.and_eq_true] at hb
  obtain ⟨⟨h1, h2⟩, h3⟩ := hb
  refine comp_core (tb := isTup tg) hLL K (blkOk_by h1) (ih.I K tg it D) (folded_plain h2) (fun i hi => ?_) (fun s H Cl cl fp => ?_) (fun s H Cl cl fp => ?_) (fun s H Cl cl fp => ?_)
  · have := List.all_eq_true.mp h3 i hi
    simpa using this
  · exact ih.G (kx_blk K s H scope (compEnvC scope cl Cl X.env) fp) scope (own_blk s H scope Cl cl fp) tg D
  · rcases hif with ⟨rfl, rfl⟩ | ⟨c, rfl, rfl⟩
    · refine ⟨fun pins s σ H Q I ⟨ρ, st, σp, sm, l, h⟩ => pts_nil.run pins s σ H Q I (h.now sm)⟩
    · exact pts_one (ih.T (kx_blk K s H scope (compEnvC scope cl Cl X.env) fp) c D)
  · exact ih.E (kx_blk K s H scope (compEnvC scope cl Cl X.env) fp) elt D
theorem E_step (hLL : LL ≤ big) (ih : IH cc P C L LL n) (K : Kx cc P C L X W) (e : Expr) (D : Nat) : PE X e (rdE L X.K W (stepE P C LL (evN P C LL D) (cE cc X.N (n + 1) X.env.scope e))) := by
  have stk : PE X e (rdE L X.K W (stepE P C LL (evN P C LL D) .stuck)) := PE.no fun σ H Q ⟨_, _, _, _, _, h⟩ => h.elim
  unfold cE
  split
  · split
    · rename_i hc
      exact g_lit hc
    · exact stk
  · rename_i x p
    split
    · rename_i hv
      split
      · rename_i hi
        exact g_var hv hi
      · exact stk
    · split
      · rename_i hg
        split
        · rename_i hc
          exact g_const K hg hc
        · exact stk
      · exact stk
  · split
    · rename_i hs
      exact g_tup (args_ok ih K hs D)
    · exact stk
  · split
    · rename_i hs
      exact g_lst (args_ok ih K hs D)
    · exact stk
  · exact g_dnew
  · split
    · rename_i ho
      obtain rfl := opOf_name ho
      exact g_bin _ (ih.E K _ D) (ih.E K _ D)
    · exact stk
  · rename_i a p
    refine rdE_eq (g_not (ih.E K a D)) fun σ st => ?_
    rfl
  · exact g_neg (ih.E K _ D)
  · exact pe_one (ih.E K _ (D + 1))
  · exact g_and (ih.E K _ D) (ih.E K _ D)
  · exact g_or (ih.E K _ D) (ih.E K _ D)
  · split
    · rename_i hs
      split
      · rename_i ho
        obtain rfl := coOf_name ho
        exact g_cmp K _ hs (ih.E K _ D) (ih.E K _ D)
      · exact stk
    · exact stk
  · split
    · rename_i hs
      rw [Bool.and_eq_true] at hs
      split
      · rename_i ho ho'
        obtain rfl := coOf_name ho
        obtain rfl := coOf_name ho'
        exact g_cmp2 K _ _ hs.2 (ih.E K _ D) (ih.E K _ D) (ih.E K _ D)
      · exact stk
    · exact stk
  · exact g_ife (ih.T K _ D) (ih.E K _ D) (ih.E K _ D)
  · rename_i a lo hi p1 p2
    refine g_slice (ih.E K _ D) ?_ ?_
    · cases lo with
      | none => exact po_of0
      | some l => exact po_of1 (ih.E K l D)
    · cases hi with
      | none => exact po_of0
      | some l => exact po_of1 (ih.E K l D)
  · exact stk
  · rename_i a b p h1 h2
    exact g_ix K (ix_plain fun lo hi q z => h2 _ _ _ _ z) (ih.E K _ D) (ih.E K _ D)
  · split
    · rename_i hb
      split
      · rename_i hi
        exact g_fld K hb hi (ih.E K _ D)
      · exact stk
    · exact stk
  · exact nm_ok ih K _ _ _ _ D
  · exact mt_ok ih K _ _ _ _ _ D
  · split
    · rename_i hb
      split
      · exact g_adopt (comp_ok hLL ih K _ _ _ _ none _ _ D hb (.inl ⟨rfl, rfl⟩))
      · exact g_adopt (comp_ok hLL ih K _ _ _ _ (some _) _ _ D hb (.inr ⟨_, rfl, rfl⟩))
      · exact stk
    · exact stk
  · exact stk
end
end Rf
end
section
set_option Elab.async false
set_option linter.all false
set_option maxRecDepth 100000
set_option maxHeartbeats 2000000
/-! Rf18: tests, displays of their own, walks, targets; the soundness of all. -/
namespace Rf
open PySem PySem.Spec PyProof.Rows L2
section
variable {cc : Cc} {P : Pg} {C : CallF} {L : Lk} {LL n : Nat} {X : Cx} {W : WX} {a b c e o : Expr} {pos : Pos} {fa fb fc : Loc → Sto → R PV}
theorem rdT_eq {e : Expr} {f g : Loc → Sto → R Bool} (h : PT X e (rdT L X.K W f)) (q : ∀ σ st, f σ st = g σ st) : PT X e (rdT L X.K W g) := by
  have : f = g := funext fun σ => funext fun st => q σ st
  rw [← this]
  exact h
theorem rdW_eq {e : Expr} {f g : Loc → Sto → R Bool} (h : PW X e (rdT L X.K W f)) (q : ∀ σ st, f σ st = g σ st) : PW X e (rdT L X.K W g) := by
  have : f = g := funext fun σ => funext fun st => q σ st
  rw [← this]
  exact h
theorem t_ife {ta tb tc : Loc → Sto → R Bool} (hc : PT X c (rdT L X.K W tc)) (ha : PT X a (rdT L X.K W ta)) (hb : PT X b (rdT L X.K W tb)) :
    PT X (.IfExp c a b pos) (rdT L X.K W fun σ st => (tc σ st).bind fun k st1 => match k with
      | true => ta σ st1
      | false => tb σ st1) := by
  refine ⟨fun pins s σ H Q I ⟨ρ, st, σp, sm, l, h⟩ => ?_⟩
  have step : rdT L X.K W tc σ H fun k H1 => if k = true then rdT L X.K W ta σ H1 Q else rdT L X.K W tb σ H1 Q := rdT.step sm l h fun v st1 ρ1 H1 e1 s1 l1 h1 => by
    cases v with
    | true => rw [if_pos rfl]; exact ⟨ρ1, st1, σp, s1, l1, h1⟩
    | false => rw [if_neg (by decide)]; exact ⟨ρ1, st1, σp, s1, l1, h1⟩
  refine PyProof.Rows.isTrue_IfExp (thn (hc.run pins s σ H _ I step) fun k s1 hk => ?_)
  obtain ⟨H1, I1, q⟩ := hk
  cases k with
  | true => exact ha.run pins s1 σ H1 Q I1 q
  | false => exact hb.run pins s1 σ H1 Q I1 q
theorem t_cmp (K : Kx cc P C L X W) (g : COp) (hs : noSet b = true) (ha : PE X a (rdE L X.K W fa)) (hb : PE X b (rdE L X.K W fb)) :
    PT X (.Compare a [coName g] [b] pos) (rdT L X.K W fun σ st => ((fa σ st).bind fun x st1 => (fb σ st1).bind fun y st2 => (oR (cmpop g x y st2) st2).bind fun c st3 => .ok (.bl c) st3).bind fun v st1 => oR (truthy v st1) st1) :=
  (pt_cmpR (op_cmp (by have := K.units; omega) g) ha hb (behind_plain hs)).of fun σ H Q ⟨ρ, st, σp, s, l, h⟩ => rdE.step s l (okR.assoc h) fun v st1 ρ1 H1 x e1 s1 l1 r1 h1 => rdE.step s1 l1 (okR.assoc h1) fun w st2 ρ2 H2 y e2 s2 l2 r2 h2 => by
    obtain ⟨b, hb, h⟩ := (okR.assoc h2).bind.oR
    exact ⟨ρ2, st2, v, w, b, s2, RV.ext s1 e2 _ _ r1, r2, hb, b, rfl, (h.now s2).now s2⟩
theorem t_cmp2 (K : Kx cc P C L X W) (g g' : COp) (hs : noSet c = true) (ha : PE X a (rdE L X.K W fa)) (hb : PE X b (rdE L X.K W fb)) (hc : PE X c (rdE L X.K W fc)) :
    PT X (.Compare a [coName g, coName g'] [b, c] pos) (rdT L X.K W fun σ st => ((fa σ st).bind fun x st1 => (fb σ st1).bind fun y st2 => (oR (cmpop g x y st2) st2).bind fun k st3 => match k with
      | true => (fc σ st3).bind fun z st4 => (oR (cmpop g' y z st4) st4).bind fun c st5 => .ok (.bl c) st5
      | false => .ok (.bl false) st3).bind fun v st1 => oR (truthy v st1) st1) :=
  have hu : X.A.units + 70 < cLine := by have := K.units; omega
  (pt_chain (op_cmp hu g) (op_cmp hu g') ha hb hc (last_plain hs)).of fun σ H Q ⟨ρ, st, σp, s, l, h⟩ => rdE.step s l (okR.assoc h) fun v st1 ρ1 H1 x e1 s1 l1 r1 h1 => rdE.step s1 l1 (okR.assoc h1) fun w st2 ρ2 H2 y e2 s2 l2 r2 h2 => by
    obtain ⟨k, hk, h⟩ := (okR.assoc h2).bind.oR
    have h := h.now s2
    refine ⟨ρ2, st2, v, w, k, s2, RV.ext s1 e2 _ _ r1, r2, hk, k, rfl, ?_⟩
    cases k with
    | true =>
      rw [if_pos rfl]
      exact rdE.step s2 l2 (okR.assoc h) fun z st3 ρ3 H3 y' e3 s3 l3 r3 h3 => by
        obtain ⟨b, hb, h⟩ := (okR.assoc h3).bind.oR
        exact ⟨ρ3, st3, w, z, b, s3, RV.ext s2 e3 _ _ r2, r3, hb, b, rfl, (h.now s3).now s3⟩
    | false => exact ⟨false, rfl, h.now s2⟩
theorem T_zero {x : Ex} : PT X e (rdT L X.K W (tst (evN P C LL 0).e x)) := PT.no fun σ H Q ⟨_, _, _, _, _, h⟩ => h.elim
theorem T_stuck {D : Nat} : PT X e (rdT L X.K W (tst (evN P C LL D).e .stuck)) := by
  cases D <;> exact PT.no fun σ H Q ⟨_, _, _, _, _, h⟩ => h.elim
theorem B_step (ih : IH cc P C L LL n) (K : Kx cc P C L X W) (op : BoolOp) (es : List Expr) (p : Pos) (D : Nat) : PW X (.BoolOp op es p) (rdT L X.K W (tst (evN P C LL D).e (cE cc X.N (n + 1) X.env.scope (.BoolOp op es p)))) := by
  have no : ∀ {t : TT}, (∀ σ H Q, ¬ t σ H Q) → PW X (.BoolOp op es p) t := fun i => ⟨fun wh pins s σ H Q I q => (i σ H Q q).elim⟩
  match es with
  | [] => cases op <;> (unfold cE; cases D <;> exact no fun σ H Q ⟨_, _, _, _, _, h⟩ => h.elim)
  | [a] =>
    unfold cE
    cases op with
    | And => exact (pw_and1 (ih.T K a D)).of fun σ H Q h => h
    | Or => exact (pw_or1 (ih.T K a D)).of fun σ H Q h => h
  | a :: b :: r =>
    cases D with
    | zero => exact no fun σ H Q ⟨_, _, _, _, _, h⟩ => h.elim
    | succ D =>
      cases op with
      | And =>
        unfold cE
        refine rdW_eq (t_and (ih.T K a D) (ih.B K .And (b :: r) p D)) fun σ st => ?_
        show R.bind (R.bind ((evN P C LL D).e _ σ st) _) _ = R.bind (R.bind ((evN P C LL D).e _ σ st) fun x st1 => (oR (truthy x st1) st1).bind fun c st2 => match c with
          | true => (evN P C LL D).e _ σ st2
          | false => .ok x st2) _
        cases (evN P C LL D).e (cE cc X.N n X.env.scope a) σ st with
        | ok x st1 =>
          show R.bind (oR (truthy x st1) st1) _ = R.bind (R.bind (oR (truthy x st1) st1) _) _
          cases hx : truthy x st1 with
          | none => rfl
          | some k =>
            cases k with
            | true => rfl
            | false => show R.ok false st1 = oR (truthy x st1) st1; rw [hx]; rfl
        | exc c fs st1 => rfl
        | stuck => rfl
      | Or =>
        unfold cE
        refine rdW_eq (t_or (ih.T K a D) (ih.B K .Or (b :: r) p D)) fun σ st => ?_
        show R.bind (R.bind ((evN P C LL D).e _ σ st) _) _ = R.bind (R.bind ((evN P C LL D).e _ σ st) fun x st1 => (oR (truthy x st1) st1).bind fun c st2 => match c with
          | true => .ok x st2
          | false => (evN P C LL D).e _ σ st2) _
        cases (evN P C LL D).e (cE cc X.N n X.env.scope a) σ st with
        | ok x st1 =>
          show R.bind (oR (truthy x st1) st1) _ = R.bind (R.bind (oR (truthy x st1) st1) _) _
          cases hx : truthy x st1 with
          | none => rfl
          | some k =>
            cases k with
            | false => rfl
            | true => show R.ok true st1 = oR (truthy x st1) st1; rw [hx]; rfl
        | exc c fs st1 => rfl
        | stuck => rfl
theorem T_step (hLL : LL ≤ big) (ih : IH cc P C L LL n) (K : Kx cc P C L X W) (e : Expr) (D : Nat) : PT X e (rdT L X.K W (tst (evN P C LL D).e (cE cc X.N (n + 1) X.env.scope e))) := by
  cases D with
  | zero => exact T_zero
  | succ D =>
    have gen : (∀ whole, isTrue e X.env whole = (do let v ← whole; standAt e.pos; holding [v] (PySem.truthy v))) → PT X e (rdT L X.K W (tst (evN P C LL (D + 1)).e (cE cc X.N (n + 1) X.env.scope e))) := fun h => pt_of (E_step hLL ih K e D) h
    cases e with
    | BoolOp op es p => exact (B_step ih K op es p (D + 1)).pt
    | UnaryOp op x p =>
      cases op with
      | Not =>
        unfold cE
        refine rdT_eq (t_not (ih.T K x D)) fun σ st => ?_
        show R.bind (tst (evN P C LL D).e _ σ st) _ = R.bind (R.bind (tst (evN P C LL D).e _ σ st) _) _
        cases tst (evN P C LL D).e (cE cc X.N n X.env.scope x) σ st <;> rfl
      | _ => exact gen fun _ => rfl
    | IfExp c a b p =>
      unfold cE
      refine rdT_eq (t_ife (ih.T K c D) (ih.T K a D) (ih.T K b D)) fun σ st => ?_
      show R.bind (tst (evN P C LL D).e _ σ st) _ = R.bind (R.bind (tst (evN P C LL D).e _ σ st) _) _
      cases tst (evN P C LL D).e (cE cc X.N n X.env.scope c) σ st with
      | ok k st1 => cases k <;> rfl
      | _ => rfl
    | Compare a ops bs p =>
      have stk : PT X (.Compare a ops bs p) (rdT L X.K W (tst (evN P C LL (D + 1)).e .stuck)) := T_stuck
      unfold cE
      split <;> rename_i heq <;> first | cases heq | skip
      · split
        · rename_i hs
          split
          · rename_i ho
            obtain rfl := coOf_name ho
            exact t_cmp K _ hs (ih.E K _ D) (ih.E K _ D)
          · exact stk
        · exact stk
      · split
        · rename_i hs
          rw [Bool.and_eq_true] at hs
          split
          · rename_i ho ho'
            obtain rfl := coOf_name ho
            obtain rfl := coOf_name ho'
            exact t_cmp2 K _ _ hs.2 (ih.E K _ D) (ih.E K _ D) (ih.E K _ D)
          · exact stk
        · exact stk
      · exact stk
    | _ => exact gen fun _ => rfl
/-! ### what is made there and then -/
theorem N_no {e : Expr} {D : Nat} : PE X e (rdN L X.K W ((evN P C LL D).c .stuck)) := by
  cases D <;> exact PE.no fun σ H Q ⟨_, _, _, _, _, h⟩ => h.elim
theorem new_nm {sc : Scope} {x : Str} {args : List Expr} {cs : List Ex} {si : Option Ex} : isNew (nmC cc sc x args cs si) = false := by
  have hb : ∀ y ds, isNew (bltC y ds) = false := fun y ds => by unfold bltC; split <;> rfl
  have hi : isNew (isC cc sc args cs) = false := by
    unfold isC
    split
    · split
      · split <;> rfl
      · rfl
    · split <;> rfl
    · rfl
  unfold nmC
  split
  · split
    · rfl
    · split
      · rfl
      · split
        · split
          · exact hi
          · split
            · split
              · rfl
              · exact hb _ _
            · exact hb _ _
        · rfl
  · rfl
theorem new_mt {o : Expr} {m : Str} {ap cp : Pos} {args : List Expr} {co : Ex} {cs : List Ex} : isNew (mtC cc o m ap args cp co cs) = false := by
  unfold mtC
  split
  · split
    · rfl
    · split <;> rfl
  · rfl
theorem N_step (hLL : LL ≤ big) (ih : IH cc P C L LL n) (K : Kx cc P C L X W) (e : Expr) (D : Nat) (hn : isNew (cE cc X.N (n + 1) X.env.scope e) = true) : PE X e (rdN L X.K W ((evN P C LL D).c (cE cc X.N (n + 1) X.env.scope e))) := by
  cases D with
  | zero => exact PE.no fun σ H Q ⟨_, _, _, _, _, h⟩ => h.elim
  | succ D =>
    unfold cE at hn ⊢
    split at hn
    · split at hn <;> cases hn
    · split at hn
      · split at hn <;> cases hn
      · split at hn
        · split at hn <;> cases hn
        · cases hn
    · split at hn <;> cases hn
    · rename_i es p
      split at hn
      · rename_i hs
        simp only [hs, if_true]
        exact n_lst (args_ok ih K hs D)
      · cases hn
    · cases hn
    · split at hn <;> cases hn
    · cases hn
    · cases hn
    · rename_i op a p
      exact pe_one (ih.N K a (D + 1) hn)
    · cases hn
    · cases hn
    · split at hn
      · split at hn <;> cases hn
      · cases hn
    · split at hn
      · split at hn <;> cases hn
      · cases hn
    · cases hn
    · cases hn
    · cases hn
    · cases hn
    · split at hn
      · split at hn <;> cases hn
      · cases hn
    · rw [new_nm] at hn; cases hn
    · rw [new_mt] at hn; cases hn
    · rename_i elt tg it ifs scope p
      split at hn
      · rename_i hb
        simp only [hb, if_true]
        split at hn
        · exact comp_ok hLL ih K _ _ _ _ none _ _ D hb (.inl ⟨rfl, rfl⟩)
        · exact comp_ok hLL ih K _ _ _ _ (some _) _ _ D hb (.inr ⟨_, rfl, rfl⟩)
        · cases hn
      · cases hn
    · cases hn
/-! ### walks -/
theorem src_ok (ih : IH cc P C L LL n) (K : Kx cc P C L X W) (e : Expr) (D : Nat) (t : Bool) : PE X e (rdS L X.K W t (srcOf (evN P C LL D) (cE cc X.N n X.env.scope e))) := by
  by_cases hn : isNew (cE cc X.N n X.env.scope e) = true
  · have q : srcOf (evN P C LL D) (cE cc X.N n X.env.scope e) = fun σ st => ((evN P C LL D).c (cE cc X.N n X.env.scope e) σ st).bind fun xs st1 => .ok (false, .fix xs) st1 := by
      funext σ st
      unfold srcOf
      rw [if_pos hn]
    rw [q]
    exact s_new (ih.N K e D hn) t
  · have q : srcOf (evN P C LL D) (cE cc X.N n X.env.scope e) = fun σ st => ((evN P C LL D).e (cE cc X.N n X.env.scope e) σ st).bind fun v st1 => (match v with
      | .tup xs => .ok (true, .fix xs) st1
      | .rol xs => .ok (false, .fix xs) st1
      | .obj k => (match st1[k]? with
        | some (.lst _) => .ok (false, .live k 0) st1
        | _ => .stuck)
      | _ => .stuck) := by
      funext σ st
      unfold srcOf
      rw [if_neg hn]
      all_goals congr 1
    rw [q]
    exact s_old (ih.E K e D) t
theorem tup_form {e : Expr} (h : isTup e = true) : ∃ es k p, e = .Tuple es k p := by
  cases e <;> first | exact ⟨_, _, _, rfl⟩ | cases h
theorem I_step (ih : IH cc P C L LL n) (K : Kx cc P C L X W) (tg it : Expr) (D : Nat) : PI X tg it (rdI L X.K W (isTup tg) (stepW (evN P C LL D) (cI cc X.N (isTup tg) (n + 1) X.env.scope it))) := by
  have one : ∀ e, PI X tg e (rdI L X.K W (isTup tg) (stepW (evN P C LL D) (.seq (cE cc X.N n X.env.scope e)))) := fun e => i_one fun t => src_ok ih K e D t
  unfold cI
  split
  · split
    · rename_i h
      simp only [Bool.and_eq_true, decide_eq_true_eq] at h
      obtain ⟨⟨⟨h1, h2⟩, h3⟩, rfl⟩ := h
      exact i_rng1 K h1 h2 h3 (ih.E K _ D)
    · split
      · rename_i h
        simp only [Bool.and_eq_true, decide_eq_true_eq] at h
        obtain ⟨⟨⟨⟨h1, h2⟩, h3⟩, rfl⟩, h4⟩ := h
        obtain ⟨es, k, p, rfl⟩ := tup_form h4
        exact i_enum K h1 h2 h3 fun t => src_ok ih K _ D t
      · exact one _
  · split
    · rename_i h
      simp only [Bool.and_eq_true, decide_eq_true_eq] at h
      obtain ⟨⟨⟨h1, h2⟩, h3⟩, rfl⟩ := h
      exact i_rng2 K h1 h2 h3 (ih.E K _ D) (ih.E K _ D)
    · split
      · rename_i h
        simp only [Bool.and_eq_true, decide_eq_true_eq] at h
        obtain ⟨⟨⟨⟨h1, h2⟩, h3⟩, rfl⟩, h4⟩ := h
        obtain ⟨es, k, p, rfl⟩ := tup_form h4
        exact i_zip K h1 h2 h3 (fun t => src_ok ih K _ D t) fun t => src_ok ih K _ D t
      · exact one _
  · exact one _
/-! ### targets -/
theorem G_no {e : Expr} {tb : Bool} {is : List Nat} {f : PV → Loc → Sto → R Loc} (h : ∀ p σ st, f p σ st = .stuck) : PG X e (rdGb L X.K W tb is f) :=
  ⟨fun pins s σ H v u Q I r ⟨ρ, st, σp, p, sm, l, rv, hq⟩ => by rw [h] at hq; exact hq.elim⟩
theorem bind_ne {T : Tg → PV → Loc → Sto → R Loc} : ∀ (ts : List Tg) (ps : List PV) (σ : Loc) (st : Sto) (c : Nat) (fs : List PV) (st' : Sto), bindAll T ts ps σ st ≠ .exc c fs st'
  | [], [], σ, st, c, fs, st', h => by cases h
  | [], _ :: _, σ, st, c, fs, st', h => by cases h
  | _ :: _, [], σ, st, c, fs, st', h => by cases h
  | t :: ts, p :: ps, σ, st, c, fs, st', h => by
    unfold bindAll at h
    cases hr : T t p σ st with
    | ok σ1 st1 => rw [hr] at h; exact bind_ne ts ps σ1 st1 c fs st' h
    | exc c' fs' st1 => rw [hr] at h; cases h
    | stuck => rw [hr] at h; cases h
theorem gb_g {e : Expr} {tb : Bool} {is : List Nat} {f : PV → Loc → Sto → R Loc} (h : PG X e (rdGb L X.K W tb is f)) : PG X e (rdG L X.K W is f) :=
  h.of fun v σ H Q ⟨ρ, st, σp, p, s, l, r, q⟩ => ⟨ρ, st, σp, p, s, l, by cases tb; exact r; exact .inl r, q⟩
theorem pgs_ok (ih : IH cc P C L LL n) (K : Kx cc P C L X W) (sc0 : Scope) (ho : OwnOk X sc0) (D : Nat) : ∀ {es : List Expr}, noStar es = true → PGs X es (rdGs L X.K W (Tg.ixss (es.map (cT cc X.N n X.env.scope sc0))) (bindAll (evN P C LL D).t (es.map (cT cc X.N n X.env.scope sc0))))
  | [], _ => gg_nil'
  | e :: es, hs => gg_cons hs (gb_g (ih.G K sc0 ho e D)) (pgs_ok ih K sc0 ho D (noStar_tl hs))
theorem lk_fld {ρ : List Addr} {H : Hp} {v : PV} {x : V} {i : Nat} (hj : ∀ i j, L.fld i = L.fld j → i = j) : ∀ {fs : List (Nat × PV)} {l : List (Str × V)}, RFs L X.K ρ H fs l → RV X.K ρ H v x → RFs L X.K ρ H (Rf.putF i v fs) (L2.putF (L.fld i) x l)
  | [], _, h, hv => by rw [h]; exact ⟨x, [], rfl, hv, rfl⟩
  | p :: r, _, h, hv => by
    obtain ⟨u, us, rfl, h1, h2⟩ := h
    unfold Rf.putF L2.putF
    by_cases e : p.1 = i
    · subst e
      rw [if_pos (Nat.beq_refl _), if_pos rfl]
      exact ⟨x, us, rfl, hv, h2⟩
    · have h3 : (Nat.beq p.1 i) = false := by
        cases q : Nat.beq p.1 i with
        | false => rfl
        | true => exact absurd (Nat.eq_of_beq_eq_true q) e
      rw [h3, if_neg (by decide), if_neg fun q => e (hj _ _ q)]
      exact ⟨u, _, rfl, h1, lk_fld hj h2 hv⟩
theorem RFs.length {ρ : List Addr} {H : Hp} : ∀ {fs : List (Nat × PV)} {l : List (Str × V)}, RFs L X.K ρ H fs l → fs.length = l.length
  | [], _, h => by rw [h]; rfl
  | p :: r, _, h => by
    obtain ⟨u, us, rfl, _, h2⟩ := h
    rw [List.length_cons, List.length_cons, RFs.length h2]
/-- o.f = v, among the targets -/
theorem gg_fld {f : Str} {i : Nat} (K : Kx cc P C L X W) (hi : ixS f cc.flds = some i) (ho : PE X o (rdE L X.K W fa)) : PG X (.Attribute o f pos) (rdG L X.K W [] fun v σ st => (fa σ st).bind fun x st1 => match x with
    | .obj k => (match st1[k]? with
      | some (.ins c fs) => if fs.length < 1000 ∧ c < P.cls.length then .ok σ (st1.set k (.ins c (Rf.putF i v fs))) else .stuck
      | _ => .stuck)
    | _ => .stuck) := by
  refine ⟨fun pins s σ H v u Q I r ⟨ρ, st, σp, p, sm, l, rp, hq⟩ => ?_⟩
  rw [show assign (.Attribute o f pos) X.env u = (do
    let ov ← holding [u] (eval o X.env)
    standAt pos.atName
    holding [u, ov] (setAttr ov f u)
    release [u, ov] []) from rfl]
  have step : rdE L X.K W fa σ H fun x H1 => ∃ a Cl dx fs, x = .ref a ∧ H1 a = some (.ins Cl dx fs) ∧ Cls X.K Cl ∧ NoAttr X.K Cl f ∧ fs.length < 1000 ∧ Q σ (upd H1 a (.ins Cl dx (L2.putF f v fs))) := rdE.step sm l hq fun x st1 ρ1 H1 y e1 s1 l1 r1 h1 => by
    cases x <;> simp only at h1 <;> first | exact h1.elim | skip
    split at h1
    · rename_i c fs e
      split at h1
      · rename_i hc
        obtain ⟨a, rfl, ha⟩ := r1
        obtain ⟨dx, lf, h2, h3⟩ := s1.obj _ _ a e ha
        obtain ⟨x, d, _, hx, _⟩ := K.at hc.2
        obtain ⟨k1, k2, k3⟩ := K.cls _ _ hx
        have ef := K.fld i f (ixS_get hi)
        refine ⟨a, _, dx, lf, rfl, h2, k1, k3 i f (ixS_get hi), by rw [← RFs.length h3]; exact hc.1, ?_⟩
        have e2 := Ext.write (H := H1) (o := .ins (L.cls c) dx (L2.putF f v lf)) ha (ins_nf h2)
        refine h1 _ _ e2 (s1.write ha (ins_nf h2) ⟨dx, _, upd_same, ?_⟩) σ (RLo.ext s1 e2 _ _ l1) .refl
        rw [← ef]
        exact lk_fld K.finj (by rw [ef]; exact RFs.ext s1 e2 _ _ h3) (by rw [ef]; exact RV.ext s1 e2 _ _ (RV.ext sm e1 _ _ rp))
      · exact h1.elim
    · exact h1.elim
  refine wpAny_bind (wpAny_holding (thn (ho.run pins s σ H _ I step) fun ov s1 hh => ?_))
  obtain ⟨y, H1, I1, r1, a, Cl, dx, fs, rfl, ea, c, nn, hl, q⟩ := hh
  obtain rfl : ov = Value.ref a := r1
  refine wpAny_bind (wpAny_standAt (wpAny_bind (wpAny_holding ?_)))
  exact setattr_ok I1 ea c nn hl r fun s3 I3 => wpAny_release ⟨σ, _, I3, q⟩
theorem tb_no (p : PV) (σ : Loc) (st : Sto) (V : Ev) (hV : V.e .stuck σ st = .stuck) : stepT P V (.fld .stuck 0) p σ st = .stuck := by
  show R.bind (V.e .stuck σ st) _ = _
  rw [hV]
  rfl
theorem ev_stuck (D : Nat) (σ : Loc) (st : Sto) : (evN P C LL D).e .stuck σ st = .stuck := by cases D <;> rfl
theorem G_step (ih : IH cc P C L LL n) (K : Kx cc P C L X W) (sc0 : Scope) (ho : OwnOk X sc0) (e : Expr) (D : Nat) : PG X e (rdGb L X.K W (isTup e) (cT cc X.N (n + 1) X.env.scope sc0 e).ixs ((evN P C LL D).t (cT cc X.N (n + 1) X.env.scope sc0 e))) := by
  cases D with
  | zero => exact G_no fun _ _ _ => rfl
  | succ D =>
    have stk : ∀ {tb : Bool} {is : List Nat}, PG X e (rdGb L X.K W tb is ((evN P C LL (D + 1)).t (.fld .stuck 0))) := G_no fun p σ st => tb_no p σ st _ (ev_stuck D σ st)
    unfold cT
    split
    · rename_i x p
      split
      · rename_i i h1 h2
        exact gg_name K h2 (ho x (.inl h1))
      · rename_i i h1 h2
        exact gg_name K h2 (ho x (.inr h1))
      · exact stk
    · rename_i es k p
      split
      · rename_i hs
        have q := gg_tup (k := k) (pos := p) K hs (pgs_ok ih K sc0 ho D hs) fun ps σ st c fs st' => bind_ne _ _ _ _ _ _ _
        refine q.of fun v σ H Q ⟨ρ, st, σp, p, sm, l, rp, hq⟩ => ⟨ρ, st, σp, p, sm, l, rp, ?_⟩
        have hq : okR L X.K W ρ H σ (match seqOf st p with
          | some vs => if vs.length = (es.map (cT cc X.N n X.env.scope sc0)).length then bindAll (evN P C LL D).t (es.map (cT cc X.N n X.env.scope sc0)) vs σp st else .stuck
          | none => .stuck) (gQ X.K (Tg.ixss (es.map (cT cc X.N n X.env.scope sc0))) σ Q) := hq
        rw [List.length_map] at hq
        exact hq
      · exact stk
    · split
      · rename_i hi
        exact gg_fld K hi (ih.E K _ D)
      · exact stk
    · exact stk
    · rename_i o i p hne
      exact gg_sub K (fun lo hi q z => hne _ _ _ _ z) (ih.E K _ D) (ih.E K _ D)
    · exact stk
theorem ih_zero : IH cc P C L LL 0 where
  E := fun K e D => e_no
  T := fun K e D => T_stuck
  B := fun {X W} K op es p D => ⟨fun wh pins s σ H Q I ⟨_, _, _, _, _, h⟩ => by cases D <;> exact h.elim⟩
  N := fun K e D h => by cases h
  I := fun {X W} K tg it D => by
    refine i_one fun t => ?_
    have : srcOf (evN P C LL D) Ex.stuck = fun _ _ => .stuck := by
      funext σ st
      show (if isNew Ex.stuck = true then _ else _) = _
      rw [if_neg (by decide), ev_stuck]
      rfl
    show PE X it (rdS L X.K W t (srcOf (evN P C LL D) Ex.stuck))
    rw [this]
    exact PE.no fun σ H Q ⟨_, _, _, _, _, h⟩ => h.elim
  G := fun {X W} K sc0 ho e D => by
    cases D with
    | zero => exact G_no fun _ _ _ => rfl
    | succ D => exact G_no fun p σ st => tb_no p σ st _ (ev_stuck D σ st)
theorem ih_all (hLL : LL ≤ big) : ∀ n, IH cc P C L LL n
  | 0 => ih_zero
  | n + 1 =>
    have ih := ih_all hLL n
    { E := fun K e D => by
        cases D with
        | zero => exact e_zero
        | succ D => exact E_step hLL ih K e D
      T := fun K e D => T_step hLL ih K e D
      B := fun K op es p D => B_step ih K op es p D
      N := fun K e D h => N_step hLL ih K e D h
      I := fun K tg it D => I_step ih K tg it D
      G := fun K sc0 ho e D => G_step ih K sc0 ho e D }
end
end Rf
end
section
set_option Elab.async false
set_option linter.all false
set_option maxRecDepth 100000
set_option maxHeartbeats 2000000
/-! Rf19: statements. -/
namespace Rf
open PySem PySem.Spec PyProof.Rows L2
/-- how a statement ends, as the layer is to have it -/
def okF (L : Lk) (K : PySem.W.Frag) (W : WX) (ρ : List Addr) (H : Hp) (D : Ends) : Fl → Prop
  | .nx σp st' => ∀ ρ' H' σ', Ext ρ H ρ' H' → Sim L K ρ' st' H' → RLo K ρ' H' σp σ' → D.nx σ' H'
  | .rt v st' => ∀ ρ' H', Ext ρ H ρ' H' → Sim L K ρ' st' H' → ∀ x, RV K ρ' H' v x → D.rt x H'
  | .bk σp st' => ∀ ρ' H' σ', Ext ρ H ρ' H' → Sim L K ρ' st' H' → RLo K ρ' H' σp σ' → D.bk σ' H'
  | .ct σp st' => ∀ ρ' H' σ', Ext ρ H ρ' H' → Sim L K ρ' st' H' → RLo K ρ' H' σp σ' → D.ct σ' H'
  | .exc c fs σp st' => fs = [] ∧ ∀ ρ' H' σ', Ext ρ H ρ' H' → Sim L K ρ' st' H' → RLo K ρ' H' σp σ' → W (.ref (L.exc c)) none σ' H'
  | .stuck => False
def rdF (L : Lk) (K : PySem.W.Frag) (W : WX) (f : Loc → Sto → Fl) : TS := fun D σ H => ∃ ρ st σp, Sim L K ρ st H ∧ RLo K ρ H σp σ ∧ okF L K W ρ H D (f σp st)
section
variable {L : Lk} {K : PySem.W.Frag} {W : WX} {ρ ρ1 : List Addr} {st : Sto} {H H1 : Hp} {σ : List (Option V)} {σp : Loc} {D : Ends}
theorem okF.ext {r : Fl} (h : okF L K W ρ H D r) (e : Ext ρ H ρ1 H1) : okF L K W ρ1 H1 D r := by
  cases r with
  | nx σp st' => exact fun ρ' H' σ' e' => h ρ' H' σ' (e.trans e')
  | rt v st' => exact fun ρ' H' e' => h ρ' H' (e.trans e')
  | bk σp st' => exact fun ρ' H' σ' e' => h ρ' H' σ' (e.trans e')
  | ct σp st' => exact fun ρ' H' σ' e' => h ρ' H' σ' (e.trans e')
  | exc c fs σp st' => exact ⟨h.1, fun ρ' H' σ' e' => h.2 ρ' H' σ' (e.trans e')⟩
  | stuck => exact h
theorem okF.fl {α : Type} {r : R α} {f : α → Sto → Fl} (s : Sim L K ρ st H) (l : RLo K ρ H σp σ) (h : okF L K W ρ H D (r.fl σp f)) : okR L K W ρ H σ r fun a st1 ρ1 H1 => okF L K W ρ1 H1 D (f a st1) := by
  cases r with
  | ok a st1 => exact fun ρ1 H1 e s1 => okF.ext (r := f a st1) h e
  | exc c fs st1 => exact ⟨h.1, fun ρ1 H1 e s1 => h.2 ρ1 H1 σ e s1 (RLo.ext s e _ _ l)⟩
  | stuck => exact h
/-- other ends -/
theorem okF.imp {D' : Ends} {r : Fl} (h : okF L K W ρ H D r) (h1 : ∀ ρ' H' σp' st' σ', r = .nx σp' st' → Ext ρ H ρ' H' → Sim L K ρ' st' H' → RLo K ρ' H' σp' σ' → D.nx σ' H' → D'.nx σ' H') (h2 : ∀ x H', D.rt x H' → D'.rt x H') (h3 : ∀ σ' H', D.bk σ' H' → D'.bk σ' H') (h4 : ∀ σ' H', D.ct σ' H' → D'.ct σ' H') : okF L K W ρ H D' r := by
  cases r with
  | nx σp st' => exact fun ρ' H' σ' e s l => h1 ρ' H' σp st' σ' rfl e s l (h ρ' H' σ' e s l)
  | rt v st' => exact fun ρ' H' e s x r => h2 _ _ (h ρ' H' e s x r)
  | bk σp st' => exact fun ρ' H' σ' e s l => h3 _ _ (h ρ' H' σ' e s l)
  | ct σp st' => exact fun ρ' H' σ' e s l => h4 _ _ (h ρ' H' σ' e s l)
  | exc c fs σp st' => exact h
  | stuck => exact h
end
section
variable {X : Cx} {s : Stmt} {ss : List Stmt}
theorem _root_.L2.PS.of {t t' : TS} (h : PS X s t) (i : ∀ D σ H, t' D σ H → t D σ H) : PS X s t' := ⟨fun pins s σ H D I q => h.run pins s σ H D I (i D σ H q)⟩
theorem _root_.L2.PSs.of {t t' : TS} (h : PSs X ss t) (i : ∀ D σ H, t' D σ H → t D σ H) : PSs X ss t' := ⟨fun pins s σ H D I q => h.run pins s σ H D I (i D σ H q)⟩
theorem _root_.L2.PS.no {t : TS} (i : ∀ D σ H, ¬ t D σ H) : PS X s t := ⟨fun pins s σ H D I q => (i D σ H q).elim⟩
end
/-! ### an own exception without arguments -/
theorem pmk_own0 {X : Cx} {C : Addr} {bmB : List Value} {B newId initId : String} {x : Str} {p pos : Pos} (F : ExcBaseFacts B newId initId bmB) (q : PySem.W.excIn X.K C bmB newId = true) (gC : X.mg x = some (.ref C)) (kC : PySem.W.keepIn X.K (.ref C) = true) (r : Raises X (.ref C)) (hg : Gl X x)
    (hdb : (x == ("__debug__" : Str)) = false) : PMk X (.Call (.Name x p) [] [] pos) (fun _ H Q => Q (.ref C) none H) := by
  intro pins s σ H Q I h
  refine wpAny_Call_Name_kw (ld_glob I hg gC ?_ hdb)
  refine PySem.W.callWith_K0 I.kIn kC ?_
  show wpAny _ _ (call (.ref C) []) _ _ _
  obtain ⟨bm, N, nm, qn, bs, hdct, sn, sub, ab, col, dd, k0, k1, k2, k3, k5, mN, hC, hN, hni, T⟩ := exc_obj I.kIn q
  exact wpAny_call_exc_subT F T hC hN hni (fun h' e hm => mk_of I hm r h (I.hok.gone hm.new)) (Nat.zero_le _)
structure ExcOk (X : Cx) (x : Str) (C : Addr) : Prop where
  mg : X.mg x = some (.ref C)
  kp : PySem.W.keepIn X.K (.ref C) = true
  mak : ∃ (bmB : List Value) (B newId initId : String), ExcBaseFacts B newId initId bmB ∧ PySem.W.excIn X.K C bmB newId = true
  rs : Raises X (.ref C)
structure Sx (cc : Cc) (P : Pg) (C : CallF) (L : Lk) (X : Cx) (W : WX) : Prop where
  k : Kx cc P C L X W
  passes : PassesOwn (model X.prog X.w) X.A X.env X.xe
  stack : X.stack = X.env :: X.outer
  frame : X.env.frame = some X.env.locals
  own : OwnOk X X.env.scope
  kind : X.env.scope.kind = .function
  nx : P.nx = cc.excs.length
  exc : ∀ (i : Nat) (x : Str), cc.excs[i]? = some x → ExcOk X x (L.exc i)
  exm : ∀ i j : Nat, i < cc.excs.length → j < cc.excs.length → PySem.W.exmOne X.K (.ref (L.exc i)) (.ref (L.exc j)) = some (Nat.beq i j)
structure IS (cc : Cc) (P : Pg) (C : CallF) (L : Lk) (LL n : Nat) : Prop where
  S : ∀ {X : Cx} {W : WX}, Sx cc P C L X W → ∀ (s : Stmt) (D : Nat), PS X s (rdF L X.K W (stepS P (evN P C LL D) LL (cS cc X.N n X.env.scope s)))
section
variable {cc : Cc} {P : Pg} {C : CallF} {L : Lk} {LL n : Nat} {X : Cx} {W : WX} {a b c e : Expr} {pos : Pos}
theorem S_no {s : Stmt} {D : Nat} : PS X s (rdF L X.K W (stepS P (evN P C LL D) LL .stuck)) := PS.no fun D σ H ⟨_, _, _, _, _, h⟩ => h.elim
theorem Ss_ok (is : IS cc P C L LL n) (K : Sx cc P C L X W) (D : Nat) : ∀ ss : List Stmt, PSs X ss (rdF L X.K W (stepSs P (evN P C LL D) LL (ss.map (cS cc X.N n X.env.scope))))
  | [] => pss_nil.of fun D σ H ⟨ρ, st, σp, s, l, h⟩ => h ρ H σ .refl s l
  | t :: ss => (pss_cons (is.S K t D) (Ss_ok is K D ss)).of fun E σ H ⟨ρ, st, σp, s, l, h⟩ => by
    refine ⟨ρ, st, σp, s, l, ?_⟩
    have h : okF L X.K W ρ H E (match stepS P (evN P C LL D) LL (cS cc X.N n X.env.scope t) σp st with
      | .nx σ1 st1 => stepSs P (evN P C LL D) LL (ss.map (cS cc X.N n X.env.scope)) σ1 st1
      | f => f) := h
    cases q : stepS P (evN P C LL D) LL (cS cc X.N n X.env.scope t) σp st with
    | nx σ1 st1 =>
      rw [q] at h
      exact fun ρ' H' σ' e s' l' => ⟨ρ', st1, σ1, s', l', h.ext e⟩
    | _ => rw [q] at h; exact h
/-- a block -/
theorem B_ok (is : IS cc P C L LL n) (K : Sx cc P C L X W) (D : Nat) (ss : List Stmt) : PSs X ss (rdF L X.K W ((evN P C LL D).s (ss.map (cS cc X.N n X.env.scope)))) := by
  cases D with
  | zero => exact ⟨fun pins s σ H D I ⟨_, _, _, _, _, h⟩ => h.elim⟩
  | succ D => exact Ss_ok is K D ss
theorem f_expr {f : Loc → Sto → R PV} (he : PE X e (rdE L X.K W f)) (hs : swapsWith e none pos.line X.env = pure false) : PS X (.Expr e pos) (rdF L X.K W fun σ st => (f σ st).fl σ fun _ st1 => .nx σ st1) :=
  (ps_expr he hs).of fun D σ H ⟨ρ, st, σp, s, l, h⟩ => ⟨ρ, st, σp, s, l, okR.mono (okF.fl s l h) fun v st1 ρ1 H1 e1 s1 h1 x r => h1 ρ1 H1 σ .refl s1 (RLo.ext s e1 _ _ l)⟩
theorem f_ret {f : Loc → Sto → R PV} (he : PE X e (rdE L X.K W f)) : PS X (.Return (some e) pos) (rdF L X.K W fun σ st => (f σ st).fl σ fun v st1 => .rt v st1) :=
  (ps_ret he).of fun D σ H ⟨ρ, st, σp, s, l, h⟩ => ⟨ρ, st, σp, s, l, okR.mono (okF.fl s l h) fun v st1 ρ1 H1 e1 s1 h1 x r => h1 ρ1 H1 .refl s1 x r⟩
theorem f_retN : PS X (.Return none pos) (rdF L X.K W fun _ st => .rt .non st) := ps_retN.of fun D σ H ⟨ρ, st, σp, s, l, h⟩ => h ρ H .refl s _ rfl
theorem f_if {p q : List Stmt} {t : Loc → Sto → R Bool} {f g : Loc → Sto → Fl} (hc : PT X c (rdT L X.K W t)) (ha : PSs X p (rdF L X.K W f)) (hb : PSs X q (rdF L X.K W g)) : PS X (.If c p q pos) (rdF L X.K W fun σ st => (t σ st).fl σ fun k st1 => match k with
    | true => f σ st1
    | false => g σ st1) :=
  (ps_if hc ha hb).of fun D σ H ⟨ρ, st, σp, s, l, h⟩ => ⟨ρ, st, σp, s, l, okR.mono (okF.fl s l h) fun k st1 ρ1 H1 e1 s1 h1 => by
    cases k with
    | true => exact ⟨ρ1, st1, σp, s1, RLo.ext s e1 _ _ l, h1⟩
    | false => exact ⟨ρ1, st1, σp, s1, RLo.ext s e1 _ _ l, h1⟩⟩
theorem f_while {p : List Stmt} {V : Ev} {ce : Ex} {cb : List Sm} (K : Sx cc P C L X W) (hc : PT X c (rdT L X.K W (tst V.e ce))) (hb : PSs X p (rdF L X.K W (V.s cb))) : PS X (.While c p [] pos) (rdF L X.K W (whileGo V ce cb LL)) :=
  (ps_while K.passes hc hb).of fun D σ H ⟨ρ, st, σp, s, l, h⟩ => by
    refine ⟨fun m σ H => ∃ ρ st σp, Sim L X.K ρ st H ∧ RLo X.K ρ H σp σ ∧ okF L X.K W ρ H D (whileGo V ce cb m σp st), ⟨LL, ρ, st, σp, s, l, h⟩, ?_⟩
    rintro m σ H ⟨ρ, st, σp, s, l, h⟩
    cases m with
    | zero => exact h.elim
    | succ m =>
      refine ⟨ρ, st, σp, s, l, okR.mono (okF.fl s l h) fun k st1 ρ1 H1 e1 s1 h1 => ?_⟩
      cases k with
      | false => rw [if_neg (by decide)]; exact h1 ρ1 H1 σ .refl s1 (RLo.ext s e1 _ _ l)
      | true =>
        rw [if_pos rfl]
        refine ⟨fun σ' H' => ∃ ρ st σp, Sim L X.K ρ st H' ∧ RLo X.K ρ H' σp σ' ∧ okF L X.K W ρ H' D (whileGo V ce cb m σp st), fun σ' H' q => ⟨m, Nat.lt_succ_self m, q⟩, ρ1, st1, σp, s1, RLo.ext s e1 _ _ l, ?_⟩
        simp only at h1
        cases q : V.s cb σp st1 with
        | nx σ2 st2 => rw [q] at h1; exact fun ρ' H' σ' e s' l' => ⟨ρ', st2, σ2, s', l', h1.ext e⟩
        | ct σ2 st2 => rw [q] at h1; exact fun ρ' H' σ' e s' l' => ⟨ρ', st2, σ2, s', l', h1.ext e⟩
        | bk σ2 st2 => rw [q] at h1; exact h1
        | _ => rw [q] at h1; exact h1
/-- a walk's loop, from where it stands -/
theorem for_imp {p : List Stmt} {V : Ev} {t : Tg} {cb : List Sm} {tb : Bool} {J : It} {D : Ends} {σ : L2.St} {H : Hp} {ρ : List Addr} {st : Sto} {σp : Loc} {w : Wk} (s : Sim L X.K ρ st H) (l : RLo X.K ρ H σp σ) (hw : WkAt X.K ρ H J 0 w) (hp : tb = false → w.plain = true)
    (h : okF L X.K W ρ H D (forGo V t cb LL w σp st)) : ∃ Wi : Nat → Nat → L2.St → Hp → Prop, (∃ m, Wi 0 m σ H) ∧ ∀ i m σ H, Wi i m σ H →
      (J.stop i H ∧ D.nx σ H) ∨ (J.go i H ∧ ∃ N : L2.St → Hp → Prop, (∀ σ' H', N σ' H' → ∃ m', m' < m ∧ Wi (i + 1) m' σ' H') ∧ ∀ x H', J.yld i H x H' → rdGb L X.K W tb t.ixs (V.t t) x σ H' fun σ2 H2 => rdF L X.K W (V.s cb) { D with nx := N, ct := N, bk := D.nx } σ2 H2) := by
  refine ⟨fun i m σ H => ∃ ρ st σp w, Sim L X.K ρ st H ∧ RLo X.K ρ H σp σ ∧ WkAt X.K ρ H J i w ∧ (tb = false → w.plain = true) ∧ okF L X.K W ρ H D (forGo V t cb m w σp st), ⟨LL, ρ, st, σp, w, s, l, hw, hp, h⟩, ?_⟩
  rintro i m σ H ⟨ρ, st, σp, w, s, l, hw, hp, h⟩
  cases m with
  | zero => exact h.elim
  | succ m =>
    unfold forGo at h
    split at h
    · exact h.elim
    · rename_i hn
      exact .inl ⟨hw.stop s hn, h ρ H σ .refl s l⟩
    · rename_i x w1 hn
      obtain ⟨go, hy⟩ := hw.go s hn
      refine .inr ⟨go, fun σ' H' => ∃ ρ st σp w, Sim L X.K ρ st H' ∧ RLo X.K ρ H' σp σ' ∧ WkAt X.K ρ H' J (i + 1) w ∧ (tb = false → w.plain = true) ∧ okF L X.K W ρ H' D (forGo V t cb m w σp st), fun σ' H' q => ⟨m, Nat.lt_succ_self m, q⟩, fun v H' yld => ?_⟩
      obtain ⟨e2, sm2, rt, hw1, rp⟩ := hy v H' yld
      have l2 := RLo.ext s e2 _ _ l
      refine ⟨ρ, st, σp, x, sm2, l2, ?_, okR.mono (okF.fl sm2 l2 (h.ext e2)) fun σ1p st1 ρ1 H1 e3 s3 h3 σ1 l3 b3 => ⟨ρ1, st1, σ1p, s3, l3, ?_⟩⟩
      · cases tb with
        | true => exact rt
        | false => exact (rp (hp rfl)).1
      · have hw3 := hw1.ext sm2 e3
        have p1 : tb = false → w1.plain = true := fun z => (rp (hp z)).2
        cases q : V.s cb σ1p st1 with
        | nx σ2 st2 => rw [q] at h3; exact fun ρ' H' σ' e s' l' => ⟨ρ', st2, σ2, w1, s', l', hw3.ext s3 e, p1, h3.ext e⟩
        | ct σ2 st2 => rw [q] at h3; exact fun ρ' H' σ' e s' l' => ⟨ρ', st2, σ2, w1, s', l', hw3.ext s3 e, p1, h3.ext e⟩
        | bk σ2 st2 => rw [q] at h3; exact h3
        | _ => rw [q] at h3; exact h3
theorem f_for {tg it : Expr} {p : List Stmt} {V : Ev} {t : Tg} {cb : List Sm} {fw : Loc → Sto → R Wk} {tb : Bool} (K : Sx cc P C L X W) (hn : noSet it = true) (hi : PI X tg it (rdI L X.K W tb fw)) (hg : PG X tg (rdGb L X.K W tb t.ixs (V.t t))) (hb : PSs X p (rdF L X.K W (V.s cb))) :
    PS X (.For tg it p [] pos) (rdF L X.K W fun σ st => (fw σ st).fl σ fun w st1 => forGo V t cb LL w σ st1) :=
  (ps_for K.passes K.k.calm hi hg hb (folded_plain hn)).of fun D σ H ⟨ρ, st, σp, s, l, h⟩ => ⟨ρ, st, σp, s, l, okR.mono (okF.fl s l h) fun w st1 ρ1 H1 e1 s1 h1 J hJ hp => for_imp (p := p) s1 (RLo.ext s e1 _ _ l) hJ hp h1⟩
theorem f_raise {x : Str} {i : Nat} {p p2 : Pos} (K : Sx cc P C L X W) (hg : gloB X.env.scope x = true) (hi : ixS x cc.excs = some i) : PS X (.Raise (some (.Call (.Name x p) [] [] p2)) none pos) (rdF L X.K W fun σ st => .exc i [] σ st) := by
  have q := K.exc i x (ixS_get hi)
  obtain ⟨bmB, B, newId, initId, F, hx⟩ := q.mak
  exact (ps_raise K.k.calm K.k.takes (pmk_own0 F hx q.mg q.kp q.rs (glo_of hg).1 (glo_of hg).2)).of fun D σ H ⟨ρ, st, σp, s, l, h⟩ => h.2 ρ H σ .refl s l
end
end Rf
end
section
set_option Elab.async false
set_option linter.all false
set_option maxRecDepth 100000
set_option maxHeartbeats 2000000
/-! Rf20: stores, walks over dicts, try. -/
namespace Rf
open PySem PySem.Spec PyProof.Rows L2
theorem sw_plain {t e : Expr} {env : Env} (h : ∀ ts k p vs k2 p2, t = .Tuple ts k p → e = .Tuple vs k2 p2 → False) (h2 : ∀ ts p, t ≠ .List ts p) : swappedStores [t] e env = pure none := by
  cases t with
  | Tuple ts k p =>
    cases e with
    | Tuple vs k2 p2 => exact (h _ _ _ _ _ _ rfl rfl).elim
    | _ => rfl
  | List ts p => exact absurd rfl (h2 _ _)
  | _ => rfl
theorem sw_none {ts vs : List Expr} {k k2 : Nat} {p p2 : Pos} {env : Env} (h : noSwap env.scope ts vs = true) : swappedStores [.Tuple ts k p] (.Tuple vs k2 p2) env = pure none := by
  unfold swappedStores
  simp only
  unfold noSwap nmsOf at h
  split
  · rfl
  · rename_i h1
    split
    · rfl
    · split
      · rfl
      · rename_i h3
        split
        · rfl
        · rename_i h4
          exfalso
          simp only [Bool.or_eq_true, not_or] at h h1 h3
          obtain ⟨⟨a1, a2⟩, a3⟩ := h1
          rcases h with ((q | q) | q) | q
          · exact a1 q
          · exact a2 q
          · exact h3.1 q
          · exact h4 q
theorem sw_two {x y : Str} {px py : Pos} {a b : Expr} {k k2 : Nat} {p p2 : Pos} {env : Env} (hk : env.scope.kind = .function) (hx : env.scope.names.lookup x = some .local) (hy : env.scope.names.lookup y = some .local) (hxy : x ≠ y) (hl : (px.line == py.line) = true) (hs : noStar [a, b] = true)
    (hf : ([a, b].all (foldedForSure 8)) = false) (hc : ([a, b].all (constantsAlone 8)) = false) : swappedStores [.Tuple [.Name x px, .Name y py] k p] (.Tuple [a, b] k2 p2) env = pure (some [x, y]) := by
  have kx : env.kindOf x = some .local := hx
  have ky : env.kindOf y = some .local := hy
  have hbk : (env.blockKind != ScopeKind.function) = false := by
    unfold Env.blockKind
    rw [hk]
    rfl
  have hl2 : (py.line == px.line) = true := by
    rw [beq_iff_eq] at hl ⊢
    exact hl.symm
  have hst : ([a, b].any fun | .Starred .. => true | _ => false) = false := by
    unfold noStar at hs
    simp only [List.all_cons, List.all_nil, Bool.and_true, Bool.and_eq_true] at hs
    simp only [List.any_cons, List.any_nil, Bool.or_false, Bool.or_eq_false_iff]
    refine ⟨?_, ?_⟩
    · cases a <;> first | rfl | cases hs.1
    · cases b <;> first | rfl | cases hs.2
  have hyx : (y == x) = false := beq_eq_false_iff_ne.mpr (Ne.symm hxy)
  have hxy' : (x == y) = false := beq_eq_false_iff_ne.mpr hxy
  unfold swappedStores
  simp only [hbk, hst, hf, hc, List.length_cons, List.length_nil, List.head?_cons, Option.map_some, Option.getD_some, List.filterMap_cons, List.filterMap_nil, kx, ky, Expr.pos, hl2, beq_self_eq_true, Bool.and_self, if_true]
  simp [List.eraseDups_cons, hxy', hyx, hxy, Ne.symm hxy]
  unfold noStar at hs
  simp only [List.all_cons, List.all_nil, Bool.and_true, Bool.and_eq_true] at hs
  intro q
  exfalso
  rcases q with q | q
  · cases a <;> first | (cases q; done) | (cases hs.1; done)
  · cases b <;> first | (cases q; done) | (cases hs.2; done)
/-! ### stores -/
section
variable {cc : Cc} {P : Pg} {C : CallF} {L : Lk} {LL n : Nat} {X : Cx} {W : WX} {e tg : Expr} {pos : Pos}
theorem f_asg {f : Loc → Sto → R PV} {g : PV → Loc → Sto → R Loc} {is : List Nat} (he : PE X e (rdE L X.K W f)) (hg : PG X tg (rdG L X.K W is g)) (hs : swapsWithSole [tg] e pos.line X.env = pure false) (hw : swappedStores [tg] e X.env = pure none) (hn : noStar [tg] = true) :
    PS X (.Assign [tg] e pos) (rdF L X.K W fun σ st => (f σ st).fl σ fun v st1 => (g v σ st1).fl σ fun σ1 st2 => .nx σ1 st2) :=
  (ps_asg he hg hs hw (asg_one hn)).of fun D σ H ⟨ρ, st, σp, s, l, h⟩ => ⟨ρ, st, σp, s, l, okR.mono (okF.fl s l h) fun v st1 ρ1 H1 e1 s1 h1 x r =>
    ⟨ρ1, st1, σp, v, s1, RLo.ext s e1 _ _ l, r, okR.mono (okF.fl s1 (RLo.ext s e1 _ _ l) h1) fun σ2p st2 ρ2 H2 e2 s2 h2 σ2 l2 b2 => h2 ρ2 H2 σ2 .refl s2 l2⟩⟩
/-- two plain local names, stored from the right -/
theorem f_swap2 {x y : Str} {i j : Nat} {px py p p2 : Pos} {k k2 : Nat} {a b : Expr} {V : Ex → Loc → Sto → R PV} {ct : Expr → Ex} {fa : Loc → Sto → R (List PV)} (K : Kx cc P C L X W) (hi : ixS x X.N = some i) (hj : ixS y X.N = some j) (hxy : x ≠ y) (hx : X.env.scope.names.lookup x = some .local) (hy : X.env.scope.names.lookup y = some .local)
    (ha : PA X [a, b] (rdA L X.K W fa)) (hw : swappedStores [.Tuple [.Name x px, .Name y py] k p] (.Tuple [a, b] k2 p2) X.env = pure (some [x, y])) :
    PS X (.Assign [.Tuple [.Name x px, .Name y py] k p] (.Tuple [a, b] k2 p2) pos) (rdF L X.K W fun σ st => (fa σ st).fl σ fun vs st1 => match vs with
      | [v, w] => .nx ((σ.set i (some v)).set j (some w)) st1
      | _ => .stuck) := by
  have hij : i ≠ j := fun z => hxy (by
    have h1 := ixS_get hi
    have h2 := ixS_get hj
    rw [z, h2] at h1
    exact (Option.some.inj h1).symm)
  exact (ps_par K.calm K.nd (ixS_get hi) (ixS_get hj) hij hx hy ha hw rfl).of fun D σ H ⟨ρ, st, σp, s, l, h⟩ => ⟨ρ, st, σp, s, l, okR.mono (okF.fl s l h) fun vs st1 ρ1 H1 e1 s1 h1 xs r => by
    split at h1
    · obtain ⟨u, us, rfl, r1, u2, us2, rfl, r2, rfl⟩ := r
      exact ⟨u, u2, rfl, h1 ρ1 H1 _ .refl s1 (RLo.set j (RLo.set i (RLo.ext s e1 _ _ l) r1) r2)⟩
    · exact h1.elim⟩
/-- name = [..], on one line -/
theorem f_setLc {elt it tg1 : Expr} {y : Str} {i : Nat} {py lp : Pos} {scope : Scope} {own : List (Str × Nat)} {ifs : List Expr} {fw : Loc → Sto → R Wk} {V : Ev} {el : Ex} {t : Tg} {fi : Option Ex} {tb : Bool} (hLL : LL ≤ big) (K : Kx cc P C L X W) (hy : ixS y X.N = some i) (hyl : X.env.scope.names.lookup y = some .local)
    (hsw : swapsWith (.ListComp elt [⟨tg1, it, ifs, 0⟩] scope lp) (some (.Name y py)) pos.line X.env = pure true) (ok : BlkOk X.N X.env.scope scope own) (hi : PI X tg1 it (rdI L X.K W tb fw)) (hf : ∀ x, foldedSetIterable it X.env x = pure x) (hix : ∀ i ∈ t.ixs, i ∈ own.map (·.2))
    (hg : ∀ (s : Shared) (H : Hp) (Cl : Addr) (cl : List (Str × Addr)) (fp : List Addr), PG (X.blk s H scope (compEnvC scope cl Cl X.env) fp) tg1 (rdGb L X.K nev tb t.ixs (V.t t)))
    (ht : ∀ (s : Shared) (H : Hp) (Cl : Addr) (cl : List (Str × Addr)) (fp : List Addr), PTs (X.blk s H scope (compEnvC scope cl Cl X.env) fp) ifs (rdIf L X.K V fi))
    (he : ∀ (s : Shared) (H : Hp) (Cl : Addr) (cl : List (Str × Addr)) (fp : List Addr), PE (X.blk s H scope (compEnvC scope cl Cl X.env) fp) elt (rdE L X.K nev (V.e el))) :
    PS X (.Assign [.Name y py] (.ListComp elt [⟨tg1, it, ifs, 0⟩] scope lp) pos) (rdF L X.K W fun σ st => (((fw σ st).bind fun w st1 => compGo V el t fi (Rf.wipe σ (own.map (·.2))) LL w [] st1).bind fun xs st2 => newO id st2 (.lst xs)).fl σ fun v st1 => .nx (σ.set i (some v)) st1) :=
  (ps_setLc K.calm K.nd (ixS_get hy) hyl hsw hi ok hg ht he hf).of fun D σ H ⟨ρ, st, σp, s, l, h⟩ => comp_imp hLL hix σ H _ (adopt_imp (L := L) (W := W) ⟨ρ, st, σp, s, l, okR.mono (okF.fl s l h) fun v st1 ρ1 H1 e1 s1 h1 x r => h1 ρ1 H1 _ .refl s1 (RLo.set i (RLo.ext s e1 _ _ l) r)⟩)
end
end Rf
end
section
set_option Elab.async false
set_option linter.all false
set_option maxRecDepth 100000
set_option maxHeartbeats 2000000
/-! Rf21: walks over dicts, try. -/
namespace Rf
open PySem PySem.Spec PyProof.Rows L2
section
variable {L : Lk} {K : PySem.W.Frag} {W : WX} {ρ ρ1 ρ' : List Addr} {st st' : Sto} {H H1 H' : Hp} {σ : List (Option V)} {σp : Loc} {D : Ends}
theorem FrzS.unlock {d : Addr} {od : Obj} {ks : List (Key × V)} (h : H d = some (.frz od (.dK ks))) : FrzS H (upd H d (.dK ks)) := fun a o u e hu => by
  rw [upd_ne]
  · exact e
  · rintro rfl
    rw [h] at e
    cases e
    exact hu ks rfl
theorem Sim.unlock {k : Nat} {d : Addr} {od : Obj} {ks : List (Key × V)} (s : Sim L K ρ st H) (hk : ρ[k]? = some d) (h : H d = some (.frz od (.dK ks))) : Sim L K ρ (unlk k st) (upd H d (.dK ks)) := by
  have hlt : k < st.length := by
    have := (List.getElem?_eq_some_iff.mp hk).1
    rw [s.len] at this
    exact this
  have e0 : st[k]? = some st[k] := List.getElem?_eq_getElem hlt
  obtain ⟨kvs, e1⟩ : ∃ kvs, st[k]? = some (.dct true kvs) := by
    have q := s.obj k _ d e0 hk
    cases z : st[k] with
    | lst xs => rw [z] at q; obtain ⟨vs, q, _⟩ := q; rw [h] at q; cases q
    | dct lk kvs =>
      rw [z] at q
      obtain ⟨ks', _, q⟩ := q
      cases lk with
      | true => exact ⟨kvs, by rw [e0, z]⟩
      | false => simp only [Bool.false_eq_true, if_false] at q; rw [h] at q; cases q
    | ins c fs => rw [z] at q; obtain ⟨dx, l, q, _⟩ := q; rw [h] at q; cases q
  have r := keys_at s hk h e1
  have f := FrzS.unlock h
  unfold unlk
  rw [e1]
  refine ⟨by rw [List.length_set]; exact s.len, s.nd, fun j u b e2 e3 => ?_⟩
  by_cases hj : k = j
  · subst hj
    simp only at e2
    rw [List.getElem?_set_self hlt] at e2
    rw [hk] at e3
    cases e2
    cases e3
    exact ⟨ks, RKs.frz f _ _ r, by simpa using upd_same⟩
  · simp only at e2
    rw [List.getElem?_set_ne hj] at e2
    have hne : b ≠ d := fun z => hj (by
      subst z
      obtain ⟨p1, q1⟩ := List.getElem?_eq_some_iff.mp hk
      obtain ⟨p2, q2⟩ := List.getElem?_eq_some_iff.mp e3
      exact (List.getElem_inj s.nd).mp (by rw [q1, q2] : ρ[k] = ρ[j]))
    exact SO.frz f (upd_ne hne) (s.obj j u b e2 e3)
theorem Ext.unlock {k : Nat} {d : Addr} {od : Obj} {ks : List (Key × V)} (e : Ext ρ (upd H d (.frz od (.dK ks))) ρ' H') (hk : ρ[k]? = some d) (h0 : H d = some (.dK ks)) : Ext ρ H ρ' (upd H' d (.dK ks)) where
  pre := e.pre
  fresh := fun a h n => by
    have := e.fresh a h n
    rw [upd_ne] at this
    · exact this
    · rintro rfl
      exact n (List.mem_of_getElem? hk)
  keep := fun a o h n => by
    have ha : a ≠ d := by
      rintro rfl
      exact n (List.mem_of_getElem? hk)
    rw [upd_ne ha]
    exact e.keep a o (by rw [upd_ne ha]; exact h) n
  frz := fun a o u h => by
    have ha : a ≠ d := by
      rintro rfl
      rw [h0] at h
      cases h
    rw [upd_ne ha]
    exact e.frz a o u (by rw [upd_ne ha]; exact h)
/-- the ends of what stands under a lock -/
def lockD (d : Addr) (od : Obj) (ks : List (Key × V)) (D : Ends) : Ends :=
  ⟨fun σ' H' => H' d = some (.frz od (.dK ks)) ∧ D.nx σ' (upd H' d (.dK ks)), fun v H' => H' d = some (.frz od (.dK ks)) ∧ D.rt v (upd H' d (.dK ks)),
    fun σ' H' => H' d = some (.frz od (.dK ks)) ∧ D.bk σ' (upd H' d (.dK ks)), fun σ' H' => H' d = some (.frz od (.dK ks)) ∧ D.ct σ' (upd H' d (.dK ks))⟩
theorem okF.unlk {k : Nat} {d : Addr} {od : Obj} {ks : List (Key × V)} {r : Fl} (hk : ρ[k]? = some d) (h0 : H d = some (.dK ks)) (h : okF L K W ρ H D (r.unlk k)) : okF L K W ρ (upd H d (.frz od (.dK ks))) (lockD d od ks D) r := by
  have at_ : ∀ {ρ' : List Addr} {H' : Hp}, Ext ρ (upd H d (.frz od (.dK ks))) ρ' H' → H' d = some (.frz od (.dK ks)) := fun e => e.frz _ _ _ upd_same
  cases r with
  | nx σp st' => exact fun ρ' H' σ' e s l => ⟨at_ e, h ρ' _ σ' (e.unlock hk h0) (s.unlock (e.get hk) (at_ e)) (RLo.frz (FrzS.unlock (at_ e)) _ _ l)⟩
  | rt v st' => exact fun ρ' H' e s x r => ⟨at_ e, h ρ' _ (e.unlock hk h0) (s.unlock (e.get hk) (at_ e)) x (RV.frz (FrzS.unlock (at_ e)) _ _ r)⟩
  | bk σp st' => exact fun ρ' H' σ' e s l => ⟨at_ e, h ρ' _ σ' (e.unlock hk h0) (s.unlock (e.get hk) (at_ e)) (RLo.frz (FrzS.unlock (at_ e)) _ _ l)⟩
  | ct σp st' => exact fun ρ' H' σ' e s l => ⟨at_ e, h ρ' _ σ' (e.unlock hk h0) (s.unlock (e.get hk) (at_ e)) (RLo.frz (FrzS.unlock (at_ e)) _ _ l)⟩
  | exc c fs σp st' => exact ⟨h.1, fun ρ' H' σ' e s l => h.2 ρ' H' σ' ((Ext.write hk (dK_nf h0)).trans e) s l⟩
  | stuck => exact h
end
section
variable {cc : Cc} {P : Pg} {C : CallF} {L : Lk} {LL n : Nat} {X : Cx} {W : WX} {pos : Pos}
theorem f_forD {tg it : Expr} {p : List Stmt} {V : Ev} {t : Tg} {ie : Ex} {cb : List Sm} {tb : Bool} {k : Nat} {D : Ends} {σ : L2.St} {H : Hp} {s : Shared} {pins : List (Addr × Obj)} {ρ : List Addr} {st : Sto} {σp : Loc} {kvs : List (PV × PV)} (K : Sx cc P C L X W) (hn : noSet it = true) (he : PE X it (rdE L X.K W (V.e ie))) (hg : PG X tg (rdGb L X.K W tb t.ixs (V.t t))) (hb : PSs X p (rdF L X.K W (V.s cb)))
    (I : Inv X pins σ H s) (sm : Sim L X.K ρ st H) (l : RLo X.K ρ H σp σ) (ek : st[k]? = some (.dct false kvs)) (h : okF L X.K W ρ H D ((forD V t (.seq ie) cb LL k σp (st.set k (.dct true kvs))).unlk k)) :
    wpAny (model X.prog X.w) X.A (exec (.For tg it p [] pos) X.env) (SP X pins D) X.xe s := by
  have hlt : k < ρ.length := by rw [sm.len]; exact (List.getElem?_eq_some_iff.mp ek).1
  obtain ⟨d, hd⟩ : ∃ d, ρ[k]? = some d := ⟨ρ[k], List.getElem?_eq_getElem hlt⟩
  obtain ⟨ks, h1, h2⟩ := sm.obj k _ d ek hd
  simp only [Bool.false_eq_true, if_false] at h2
  refine (ps_lock (ps_for (pos := pos) K.passes K.k.calm (pi_keys he) hg hb (folded_plain hn))).run pins s σ H D I ⟨d, .dK ks, h2, trivial, fun od => ?_⟩
  have eL := Ext.write (H := H) (o := .frz od (.dK ks)) hd (dK_nf h2)
  have sL := sm.write (o := .frz od (.dK ks)) (m := .dct true kvs) hd (dK_nf h2) ⟨ks, RKs.ext sm eL _ _ h1, by simpa using ⟨od, upd_same⟩⟩
  have lL := RLo.ext sm eL _ _ l
  have hq := okF.unlk (od := od) hd h2 h
  unfold forD at hq
  refine ⟨ρ, _, σp, sL, lL, okR.mono (okF.fl sL lL hq) fun v st2 ρ2 H2 e2 s2 h3 x r => ?_⟩
  cases v <;> simp only at h3 <;> first | exact h3.elim | skip
  rename_i k'
  split at h3
  · rename_i hkk
    have := Nat.eq_of_beq_eq_true hkk
    subst this
    obtain ⟨d', rfl, hd'⟩ := r
    rw [e2.get hd] at hd'
    cases hd'
    have hfr := e2.frz _ _ _ (upd_same (H := H) (a := d) (o := .frz od (.dK ks)))
    exact ⟨d, od, rfl, .inl ⟨ks, hfr, for_imp (p := p) (w := .keys _ 0) s2 (RLo.ext sL e2 _ _ lL) ⟨rfl, d, od, ks, rfl, e2.get hd, hfr⟩ (fun _ => rfl) h3⟩⟩
  · exact h3.elim
theorem f_forAny {tg it : Expr} {p : List Stmt} {V : Ev} {t : Tg} {ie : Itr} {cb : List Sm} {tb : Bool} (K : Sx cc P C L X W) (hn : noSet it = true) (hi : PI X tg it (rdI L X.K W tb (stepW V ie))) (he : ∀ c, ie = .seq c → PE X it (rdE L X.K W (V.e c))) (hg : PG X tg (rdGb L X.K W tb t.ixs (V.t t))) (hb : PSs X p (rdF L X.K W (V.s cb))) :
    PS X (.For tg it p [] pos) (rdF L X.K W (stepS P V LL (.for_ t ie cb))) := by
  refine ⟨fun pins s σ H D I ⟨ρ, st, σp, sm, l, h⟩ => ?_⟩
  have h : okF L X.K W ρ H D (match lockAt V ie σp st with
    | some k => (match st[k]? with
      | some (.dct false kvs) => (forD V t ie cb LL k σp (st.set k (.dct true kvs))).unlk k
      | _ => .stuck)
    | none => (stepW V ie σp st).fl σp fun w st1 => forGo V t cb LL w σp st1) := h
  split at h
  · rename_i k hk
    split at h
    · rename_i kvs ek
      cases ie with
      | seq c => exact f_forD K hn (he c rfl) hg hb I sm l ek h
      | _ => cases hk
    · exact h.elim
  · exact (f_for K hn hi hg hb).run pins s σ H D I ⟨ρ, st, σp, sm, l, h⟩
/-! ### try -/
theorem f_hand {N : List Str} {sc : Scope} {D : Nat} {s : Stmt} : PS X s (rdF L X.K W (stepS P (evN P C LL D) LL (cH N sc s))) := by
  unfold cH
  split
  · exact f_retN
  · split
    · rename_i hc
      cases D with
      | zero => exact PS.no fun D σ H ⟨_, _, _, _, _, h⟩ => h.elim
      | succ D => exact f_ret (g_lit hc)
    · exact PS.no fun D σ H ⟨_, _, _, _, _, h⟩ => h.elim
  · exact ps_pass.of fun D σ H ⟨ρ, st, σp, s, l, h⟩ => h ρ H σ .refl s l
  · exact PS.no fun D σ H ⟨_, _, _, _, _, h⟩ => h.elim
theorem f_hands {N : List Str} {sc : Scope} {D : Nat} : ∀ ss : List Stmt, PSs X ss (rdF L X.K W (stepSs P (evN P C LL D) LL (ss.map (cH N sc))))
  | [] => pss_nil.of fun D σ H ⟨ρ, st, σp, s, l, h⟩ => h ρ H σ .refl s l
  | t :: ss => (pss_cons (f_hand (s := t) (D := D) (N := N) (sc := sc)) (f_hands ss)).of fun E σ H ⟨ρ, st, σp, s, l, h⟩ => by
    refine ⟨ρ, st, σp, s, l, ?_⟩
    have h : okF L X.K W ρ H E (match stepS P (evN P C LL D) LL (cH N sc t) σp st with
      | .nx σ1 st1 => stepSs P (evN P C LL D) LL (ss.map (cH N sc)) σ1 st1
      | f => f) := h
    cases q : stepS P (evN P C LL D) LL (cH N sc t) σp st with
    | nx σ1 st1 =>
      rw [q] at h
      exact fun ρ' H' σ' e s' l' => ⟨ρ', st1, σ1, s', l', h.ext e⟩
    | _ => rw [q] at h; exact h
theorem f_handB {N : List Str} {sc : Scope} {D : Nat} (ss : List Stmt) : PSs X ss (rdF L X.K W ((evN P C LL D).s (ss.map (cH N sc)))) := by
  cases D with
  | zero => exact ⟨fun pins s σ H D I ⟨_, _, _, _, _, h⟩ => h.elim⟩
  | succ D => exact f_hands ss
/-- the clauses, as the layer has them -/
theorem hds_ok (K : Sx cc P C L X W) (D : Nat) : ∀ {hs : List ExceptHandler} {l : List (Nat × List Sm)}, hs.mapM (cHs cc X.N X.env.scope) = some l →
    HdsOk X hs (l.map fun p => (.ref (L.exc p.1), fun _ _ _ => rdF L X.K W ((evN P C LL D).s p.2)))
  | [], l, h => by
    have e : l = [] := by simpa using h.symm
    subst e
    exact .nil
  | hd :: hs, l, h => by
    simp only [List.mapM_cons, Option.bind_eq_bind, Option.bind_eq_some_iff, Option.pure_def, Option.some.injEq] at h
    obtain ⟨p, hp, l', hl, rfl⟩ := h
    unfold cHs at hp
    split at hp
    · rename_i x np ss pos'
      split at hp
      · rename_i i hi
        split at hp
        · rename_i hg
          cases ss with
          | nil => cases hp
          | cons s0 ss =>
            cases hp
            have q := K.exc i x (ixS_get hi)
            obtain ⟨g1, g2⟩ := glo_of hg
            exact .cons ⟨g1, g2, .inl q.mg⟩ (fun a oe cls d pn _ _ => f_handB (s0 :: ss)) (hds_ok K D hl)
        · cases hp
      · cases hp
    · cases hp
theorem find_exm (K : Sx cc P C L X W) {c : Nat} (hc : c < cc.excs.length) {σ : L2.St} {H : Hp} {E : Ends} {ts : List Sm → TS} : ∀ {l : List (Nat × List Sm)}, (∀ p ∈ l, p.1 < cc.excs.length) →
    (match findH c l with
      | some h => ts h E σ H
      | none => W (.ref (L.exc c)) none σ H) → wMany X.K W E (l.map fun p => (Value.ref (L.exc p.1), fun _ _ _ => ts p.2)) (.ref (L.exc c)) none σ H
  | [], _, h => h
  | p :: l, hl, h => by
    refine ⟨Nat.beq c p.1, K.exm c p.1 hc (hl p List.mem_cons_self), fun e a _ => ?_, fun e => ?_⟩
    · unfold findH at h
      rw [if_pos e] at h
      exact h
    · unfold findH at h
      rw [if_neg (by rw [e]; decide)] at h
      exact find_exm K hc (fun q hq => hl q (List.mem_cons_of_mem _ hq)) h
end
end Rf
end
section
set_option Elab.async false
set_option linter.all false
set_option maxRecDepth 100000
set_option maxHeartbeats 2000000
/-! Rf22: the soundness of statements. -/
namespace Rf
open PySem PySem.Spec PyProof.Rows L2
section
variable {cc : Cc} {P : Pg} {C : CallF} {L : Lk} {LL n : Nat} {X : Cx} {W : WX} {pos : Pos}
theorem sx_tr (K : Sx cc P C L X W) {W' : WX} {pn : List (Addr × Obj)} {xe : Value → Shared → Prop} (tk : Takes (X.tr pn xe) W') (hp : PassesOwn (model X.prog X.w) X.A X.env xe) : Sx cc P C L (X.tr pn xe) W' where
  k := ⟨K.k.calm, K.k.nd, K.k.units, tk, K.k.fld, K.k.finj, K.k.fmth, K.k.const, K.k.free, K.k.fn, K.k.cls, K.k.inits, K.k.pcls⟩
  passes := hp
  stack := K.stack
  frame := K.frame
  own := K.own
  kind := K.kind
  nx := K.nx
  exc := fun i x h => let q := K.exc i x h; ⟨q.mg, q.kp, q.mak, q.rs⟩
  exm := K.exm
theorem hds_lt {N : List Str} {sc : Scope} : ∀ {hs : List ExceptHandler} {l : List (Nat × List Sm)}, hs.mapM (cHs cc N sc) = some l → ∀ p ∈ l, p.1 < cc.excs.length
  | [], l, h, p, hp => by
    have e : l = [] := by simpa using h.symm
    subst e
    cases hp
  | hd :: hs, l, h, p, hp => by
    simp only [List.mapM_cons, Option.bind_eq_bind, Option.bind_eq_some_iff, Option.pure_def, Option.some.injEq] at h
    obtain ⟨q, hq, l', hl, rfl⟩ := h
    rcases List.mem_cons.mp hp with rfl | hp
    · unfold cHs at hq
      split at hq
      · split at hq
        · rename_i i hi
          split at hq
          · split at hq
            · cases hq
            · cases hq
              exact (List.getElem?_eq_some_iff.mp (ixS_get hi)).1
          · cases hq
        · cases hq
      · cases hq
    · exact hds_lt hl p hp
theorem f_try {body : List Stmt} {h0 : ExceptHandler} {hs : List ExceptHandler} {l : List (Nat × List Sm)} {D : Nat} {cb : List Sm} (K : Sx cc P C L X W) (hl : (h0 :: hs).mapM (cHs cc X.N X.env.scope) = some l)
    (hb : ∀ {X' : Cx} {W' : WX}, X'.N = X.N → X'.env = X.env → X'.K = X.K → Sx cc P C L X' W' → PSs X' body (rdF L X'.K W' ((evN P C LL D).s cb))) :
    PS X (.Try body (h0 :: hs) [] [] pos) (rdF L X.K W (stepS P (evN P C LL D) LL (.try_ cb l))) :=
  (ps_try_many (tb := fun W' => rdF L X.K W' ((evN P C LL D).s cb)) K.stack K.frame K.k.takes (fun W' pn xe tk hp => hb (X' := X.tr pn xe) rfl rfl rfl (sx_tr K tk hp)) (hds_ok K D hl)).of fun E σ H ⟨ρ, st, σp, s, lo, h⟩ => by
    refine ⟨ρ, st, σp, s, lo, ?_⟩
    have h : okF L X.K W ρ H E (match (evN P C LL D).s cb σp st with
      | .exc d fs σ1 st1 => if d < P.nx ∧ fs.isEmpty = true then (match findH d l with
        | some h => (evN P C LL D).s h σ1 st1
        | none => .exc d fs σ1 st1) else .stuck
      | r => r) := h
    cases q : (evN P C LL D).s cb σp st with
    | exc d fs σ1 st1 =>
      rw [q] at h
      simp only at h
      split at h
      · rename_i hd
        have hfs : fs = [] := List.isEmpty_iff.mp hd.2
        subst hfs
        refine ⟨rfl, fun ρ' H' σ' e s' l' => find_exm K (by rw [← K.nx]; exact hd.1) (ts := fun sm => rdF L X.K W ((evN P C LL D).s sm)) (hds_lt hl) ?_⟩
        split at h
        · rename_i hh hf
          try rw [hf]
          exact ⟨ρ', st1, σ1, s', l', h.ext e⟩
        · rename_i hf
          try rw [hf]
          exact h.2 ρ' H' σ' e s' l'
      · exact h.elim
    | _ => rw [q] at h; exact h
theorem swS_plain {t e : Expr} {line : Nat} (h : (match e with | .ListComp .. => false | .SetComp .. => false | .DictComp .. => false | _ => true) = true) : swapsWithSole [t] e line X.env = pure false := by
  cases e <;> first | rfl | cases h
theorem sw_expr {e : Expr} {line : Nat} (h : (match e with | .ListComp .. => false | .SetComp .. => false | .DictComp .. => false | _ => true) = true) : swapsWith e none line X.env = pure false := by
  cases e <;> first | rfl | cases h
theorem A_no {s : Stmt} {D : Nat} {t : Tg} : PS X s (rdF L X.K W (stepS P (evN P C LL D) LL (.asg t .stuck))) := PS.no fun E σ H ⟨ρ, st, σp, sm, l, h⟩ => by
  have h : okF L X.K W ρ H E (((evN P C LL D).e .stuck σp st).fl σp _) := h
  rw [ev_stuck] at h
  exact h.elim
theorem A_zero {s : Stmt} {t : Tg} {x : Ex} : PS X s (rdF L X.K W (stepS P (evN P C LL 0) LL (.asg t x))) := PS.no fun E σ H ⟨ρ, st, σp, sm, l, h⟩ => h.elim
theorem asg_lc (hLL : LL ≤ big) (K : Sx cc P C L X W) (y : Str) (py : Pos) (elt : Expr) (gens : List Comprehension) (scope : Scope) (lp : Pos) (D : Nat) (hy : (ixS y X.N).isSome = true) :
    PS X (.Assign [.Name y py] (.ListComp elt gens scope lp) pos) (rdF L X.K W (stepS P (evN P C LL D) LL (.asg (cT cc X.N n X.env.scope X.env.scope (.Name y py)) (cE cc X.N n X.env.scope (.ListComp elt gens scope lp))))) := by
  have ih : IH cc P C L LL n := ih_all hLL n
  have hg := gb_g (ih.G K.k X.env.scope K.own (.Name y py) D)
  have he := ih.E K.k (.ListComp elt gens scope lp) D
  have hsw : ∃ b, swapsWith (.ListComp elt gens scope lp) (some (.Name y py)) pos.line X.env = pure b ∧ (b = true → X.env.scope.names.lookup y = some .local) := by
    refine ⟨_, rfl, fun h => ?_⟩
    simp only [Bool.and_eq_true, beq_iff_eq] at h
    exact h.1.1.2
  obtain ⟨b, hb, hl⟩ := hsw
  cases b with
  | false => exact f_asg he hg hb (sw_plain (fun ts k p vs k2 p2 h => nomatch h) (fun ts p h => nomatch h)) rfl
  | true =>
    have hl := hl rfl
    obtain ⟨i, hi⟩ := Option.isSome_iff_exists.mp hy
    cases D with
    | zero => exact A_zero
    | succ D =>
      cases n with
      | zero => exact A_no
      | succ m =>
        have im : IH cc P C L LL m := ih_all hLL m
        have ht : cT cc X.N (m + 1) X.env.scope X.env.scope (.Name y py) = .name i := by
          unfold cT
          simp only [hl, hi]
        rw [ht]
        unfold cE
        split <;> rename_i heq <;> first | cases heq | skip
        · split
          · rename_i tg it ifs hbk
            have hbk' := hbk
            simp only [Bool.and_eq_true] at hbk'
            obtain ⟨⟨k1, k2⟩, k3⟩ := hbk'
            have hix : ∀ j ∈ (cT cc X.N m (relS scope X.env.scope) scope tg).ixs, j ∈ (ownOf X.N scope).map (·.2) := fun j hj => by
              have := List.all_eq_true.mp k3 j hj
              simpa using this
            split
            · exact f_setLc (V := evN P C LL D) hLL K.k hi hl hb (blkOk_by k1) (im.I K.k tg it D) (folded_plain k2) hix (fun s H Cl cl fp => im.G (kx_blk K.k s H scope (compEnvC scope cl Cl X.env) fp) scope (own_blk s H scope Cl cl fp) tg D)
                (fun s H Cl cl fp => ⟨fun pins s σ H Q I ⟨ρ, st, σp, sm, l, h⟩ => pts_nil.run pins s σ H Q I (h.now sm)⟩) (fun s H Cl cl fp => im.E (kx_blk K.k s H scope (compEnvC scope cl Cl X.env) fp) elt D) (fi := none)
            · rename_i c
              exact f_setLc (V := evN P C LL D) hLL K.k hi hl hb (blkOk_by k1) (im.I K.k tg it D) (folded_plain k2) hix (fun s H Cl cl fp => im.G (kx_blk K.k s H scope (compEnvC scope cl Cl X.env) fp) scope (own_blk s H scope Cl cl fp) tg D)
                (fun s H Cl cl fp => pts_one (im.T (kx_blk K.k s H scope (compEnvC scope cl Cl X.env) fp) c D)) (fun s H Cl cl fp => im.E (kx_blk K.k s H scope (compEnvC scope cl Cl X.env) fp) elt D) (fi := some _)
            · exact A_no
          · exact A_no
        · exact A_no
theorem asg_sw (hLL : LL ≤ big) (K : Sx cc P C L X W) (ts vs : List Expr) (k k2 : Nat) (p p2 : Pos) (D : Nat) (h : swap2 X.env.scope X.N ts vs = true) :
    PS X (.Assign [.Tuple ts k p] (.Tuple vs k2 p2) pos) (rdF L X.K W (stepS P (evN P C LL D) LL (.asg (cT cc X.N n X.env.scope X.env.scope (.Tuple ts k p)) (cE cc X.N n X.env.scope (.Tuple vs k2 p2))))) := by
  unfold swap2 at h
  split at h
  · rename_i x px y py a b
    simp only [Bool.and_eq_true, decide_eq_true_eq, Bool.not_eq_true'] at h
    obtain ⟨⟨⟨⟨⟨⟨⟨⟨h1, h2⟩, h3⟩, h4⟩, h5⟩, h6⟩, h7⟩, h8⟩, h9⟩ := h
    obtain ⟨i, hi⟩ := Option.isSome_iff_exists.mp h5
    obtain ⟨j, hj⟩ := Option.isSome_iff_exists.mp h6
    cases D with
    | zero => exact A_zero
    | succ D =>
      cases n with
      | zero => exact A_no
      | succ m =>
        have im : IH cc P C L LL m := ih_all hLL m
        refine (f_swap2 (V := (evN P C LL D).e) (ct := cE cc X.N m X.env.scope) K.k hi hj h3 h1 h2 (args_ok im K.k h7 D) (sw_two K.kind h1 h2 h3 h4 h7 h8 h9)).of fun E σ H ⟨ρ, st, σp, sm, l, hq⟩ => ⟨ρ, st, σp, sm, l, ?_⟩
        have ce : cE cc X.N (m + 1) X.env.scope (.Tuple [a, b] k2 p2) = .tup ([a, b].map (cE cc X.N m X.env.scope)) := by
          unfold cE
          simp only [h7, if_true]
        rw [ce] at hq
        have hq : okF L X.K W ρ H E (((evs (evN P C LL D).e ([a, b].map (cE cc X.N m X.env.scope)) σp st).bind fun vs st1 => if vs.length ≤ big then .ok (.tup vs) st1 else .stuck).fl σp fun v st1 =>
          ((evN P C LL (D + 1)).t (cT cc X.N (m + 1) X.env.scope X.env.scope (.Tuple [.Name x px, .Name y py] k p)) v σp st1).fl σp fun σ1 st2 => .nx σ1 st2) := hq
        show okF L X.K W ρ H E ((evs (evN P C LL D).e ([a, b].map (cE cc X.N m X.env.scope)) σp st).fl σp _)
        cases hr : evs (evN P C LL D).e ([a, b].map (cE cc X.N m X.env.scope)) σp st with
        | stuck => rw [hr] at hq; exact hq.elim
        | exc c fs st1 => rw [hr] at hq; exact hq
        | ok us st1 =>
          rw [hr] at hq
          have hq : okF L X.K W ρ H E ((if us.length ≤ big then R.ok (.tup us) st1 else .stuck).fl σp fun v st1 =>
            ((evN P C LL (D + 1)).t (cT cc X.N (m + 1) X.env.scope X.env.scope (.Tuple [.Name x px, .Name y py] k p)) v σp st1).fl σp fun σ1 st2 => .nx σ1 st2) := hq
          split at hq
          · have hq : okF L X.K W ρ H E (((evN P C LL (D + 1)).t (cT cc X.N (m + 1) X.env.scope X.env.scope (.Tuple [.Name x px, .Name y py] k p)) (.tup us) σp st1).fl σp fun σ1 st2 => .nx σ1 st2) := hq
            have ct : cT cc X.N (m + 1) X.env.scope X.env.scope (.Tuple [.Name x px, .Name y py] k p) = .tup [cT cc X.N m X.env.scope X.env.scope (.Name x px), cT cc X.N m X.env.scope X.env.scope (.Name y py)] := by
              show (if noStar [Expr.Name x px, Expr.Name y py] = true then Tg.tup (List.map (cT cc X.N m X.env.scope X.env.scope) [Expr.Name x px, Expr.Name y py]) else Tg.fld Ex.stuck 0) = _
              rw [if_pos (show noStar [Expr.Name x px, Expr.Name y py] = true from rfl)]
              rfl
            rw [ct] at hq
            have hq : okF L X.K W ρ H E ((if us.length = 2 then bindAll (evN P C LL D).t [cT cc X.N m X.env.scope X.env.scope (.Name x px), cT cc X.N m X.env.scope X.env.scope (.Name y py)] us σp st1 else .stuck).fl σp fun σ1 st2 => .nx σ1 st2) := hq
            split at hq
            · rename_i hl2
              obtain ⟨v, w, rfl⟩ := len2 hl2
              cases D with
              | zero => exact hq.elim
              | succ D =>
                cases m with
                | zero => cases D <;> exact hq.elim
                | succ m =>
                  have c1 : cT cc X.N (m + 1) X.env.scope X.env.scope (.Name x px) = .name i := by unfold cT; simp only [h1, hi]
                  have c2 : cT cc X.N (m + 1) X.env.scope X.env.scope (.Name y py) = .name j := by unfold cT; simp only [h2, hj]
                  rw [c1, c2] at hq
                  exact hq
            · exact hq.elim
          · exact hq.elim
  · cases h
theorem asg_ok (hLL : LL ≤ big) (K : Sx cc P C L X W) (t e : Expr) (D : Nat) (hk : asgOk X.env.scope X.N t e = true) : PS X (.Assign [t] e pos) (rdF L X.K W (stepS P (evN P C LL D) LL (.asg (cT cc X.N n X.env.scope X.env.scope t) (cE cc X.N n X.env.scope e)))) := by
  have ih : IH cc P C L LL n := ih_all hLL n
  unfold asgOk at hk
  simp only [Bool.and_eq_true] at hk
  obtain ⟨⟨⟨h1, h2⟩, h3⟩, h4⟩ := hk
  have hg := gb_g (ih.G K.k X.env.scope K.own t D)
  have he := ih.E K.k e D
  have hnl : ∀ ts p, t ≠ .List ts p := fun ts p z => by subst z; cases h2
  by_cases hlc : ∃ a b c d, e = .ListComp a b c d
  · obtain ⟨elt, gens, scope, lp, rfl⟩ := hlc
    have hsp := sw_plain (t := t) (e := .ListComp elt gens scope lp) (env := X.env) (fun ts k p vs k2 p2 _ h => nomatch h) hnl
    cases t with
    | Name y py => exact asg_lc hLL K y py elt gens scope lp D h4
    | _ => exact f_asg he hg rfl hsp h1
  · have hsw : swapsWithSole [t] e pos.line X.env = pure false := swS_plain (by
      cases e <;> first | rfl | exact absurd ⟨_, _, _, _, rfl⟩ hlc | cases h3)
    by_cases htt : ∃ ts k p vs k2 p2, t = .Tuple ts k p ∧ e = .Tuple vs k2 p2
    · obtain ⟨ts, k, p, vs, k2, p2, rfl, rfl⟩ := htt
      simp only [Bool.or_eq_true] at h4
      rcases h4 with h4 | h4
      · exact f_asg he hg hsw (sw_none h4) h1
      · exact asg_sw hLL K ts vs k k2 p p2 D h4
    · exact f_asg he hg hsw (sw_plain (fun ts k p vs k2 p2 z1 z2 => htt ⟨ts, k, p, vs, k2, p2, z1, z2⟩) hnl) h1
theorem cI_seq (hLL : LL ≤ big) (K : Sx cc P C L X W) {tb : Bool} {it : Expr} {c : Ex} {D : Nat} (h : cI cc X.N tb n X.env.scope it = .seq c) : PE X it (rdE L X.K W ((evN P C LL D).e c)) := by
  cases n with
  | zero =>
    cases h
    exact e_no
  | succ m =>
    have im : IH cc P C L LL m := ih_all hLL m
    unfold cI at h
    split at h
    · split at h
      · cases h
      · split at h
        · cases h
        · cases h; exact im.E K.k _ D
    · split at h
      · cases h
      · split at h
        · cases h
        · cases h; exact im.E K.k _ D
    · cases h; exact im.E K.k _ D
theorem S_step (hLL : LL ≤ big) (is : IS cc P C L LL n) (K : Sx cc P C L X W) (s : Stmt) (D : Nat) : PS X s (rdF L X.K W (stepS P (evN P C LL D) LL (cS cc X.N (n + 1) X.env.scope s))) := by
  have ih : IH cc P C L LL n := ih_all hLL n
  have stk : PS X s (rdF L X.K W (stepS P (evN P C LL D) LL .stuck)) := S_no
  unfold cS
  split
  · split
    · rename_i hk
      exact asg_ok hLL K _ _ D hk
    · exact stk
  · exact ps_doc.of fun D σ H ⟨ρ, st, σp, s, l, h⟩ => h ρ H σ .refl s l
  · exact stk
  · exact stk
  · exact stk
  · rename_i e p h1 h2 h3 h4
    refine f_expr (ih.E K.k e D) (sw_expr ?_)
    cases e <;> first | rfl | exact (h2 _ _ _ _ rfl).elim | exact (h3 _ _ _ _ rfl).elim | exact (h4 _ _ _ _ _ rfl).elim
  · exact f_retN
  · exact f_ret (ih.E K.k _ D)
  · exact f_if (ih.T K.k _ D) (B_ok is K D _) (B_ok is K D _)
  · split
    · rename_i hn
      refine f_forAny K hn (ih.I K.k _ _ D) ?_ (ih.G K.k X.env.scope K.own _ D) (B_ok is K D _)
      exact fun c hc => cI_seq hLL K hc
    · exact stk
  · exact f_while K (ih.T K.k _ D) (B_ok is K D _)
  · exact ps_break.of fun D σ H ⟨ρ, st, σp, s, l, h⟩ => h ρ H σ .refl s l
  · exact ps_continue.of fun D σ H ⟨ρ, st, σp, s, l, h⟩ => h ρ H σ .refl s l
  · exact ps_pass.of fun D σ H ⟨ρ, st, σp, s, l, h⟩ => h ρ H σ .refl s l
  · split
    · rename_i hi
      split
      · rename_i hg
        exact f_raise K hg hi
      · exact stk
    · exact stk
  · rename_i b h0 hs p
    split
    · rename_i hl
      refine f_try K hl fun {X' W'} e1 e2 e3 K' => ?_
      have q := B_ok is K' D b
      rw [e1, e2] at q
      exact q
    · exact stk
  · exact stk
theorem is_all (hLL : LL ≤ big) : ∀ n, IS cc P C L LL n
  | 0 => ⟨fun K s D => S_no⟩
  | n + 1 => ⟨fun K s D => S_step hLL (is_all hLL n) K s D⟩
end
end Rf
end
section
set_option Elab.async false
set_option linter.all false
set_option maxRecDepth 100000
set_option maxHeartbeats 2000000
/-! Rf23: functions. -/
namespace Rf
open PySem PySem.Spec PyProof.Rows L2
/-! ### what a call leaves behind -/
section
variable {L : Lk} {K : PySem.W.Frag} {ρ : List Addr} {l : List Addr} {H : Hp}
mutual
theorem RV.down : ∀ (x : PV) (v : V), PV.under ρ.length x = true → RV K (ρ ++ l) H x v → RV K ρ H x v
  | .non, _, _, h => h
  | .bl _, _, _, h => h
  | .int _, _, _, h => h
  | .str _, _, _, h => h
  | .tup xs, _, u, h => by
    obtain ⟨a, vs, rfl, h1, h2⟩ := h
    exact ⟨a, vs, rfl, h1, RVs.down xs vs u h2⟩
  | .rol xs, _, u, h => by
    obtain ⟨a, vs, rfl, h1, h2⟩ := h
    exact ⟨a, vs, rfl, h1, RVs.down xs vs u h2⟩
  | .obj k, _, u, h => by
    obtain ⟨a, rfl, h⟩ := h
    refine ⟨a, rfl, ?_⟩
    have hk : k < ρ.length := Nat.blt_eq.mp u
    rw [List.getElem?_append_left hk] at h
    exact h
theorem RVs.down : ∀ (xs : List PV) (vs : List V), PV.unders ρ.length xs = true → RVs K (ρ ++ l) H xs vs → RVs K ρ H xs vs
  | [], _, _, h => h
  | x :: r, _, u, h => by
    obtain ⟨y, ys, rfl, h1, h2⟩ := h
    have u : (PV.under ρ.length x && PV.unders ρ.length r) = true := u
    rw [Bool.and_eq_true] at u
    exact ⟨y, ys, rfl, RV.down x y u.1 h1, RVs.down r ys u.2 h2⟩
end
theorem RKs.down : ∀ (xs : List (PV × PV)) (vs : List (Key × V)), (xs.all fun p => PV.under ρ.length p.1 && PV.under ρ.length p.2) = true → RKs K (ρ ++ l) H xs vs → RKs K ρ H xs vs
  | [], _, _, h => h
  | x :: r, _, u, h => by
    obtain ⟨k, y, ys, rfl, h1, h2, h3, h4⟩ := h
    rw [List.all_cons, Bool.and_eq_true, Bool.and_eq_true] at u
    exact ⟨k, y, ys, rfl, h1, RV.down _ _ u.1.1 h2, RV.down _ _ u.1.2 h3, RKs.down r ys u.2 h4⟩
theorem RFs.down : ∀ (xs : List (Nat × PV)) (vs : List (Str × V)), (xs.all fun p => PV.under ρ.length p.2) = true → RFs L K (ρ ++ l) H xs vs → RFs L K ρ H xs vs
  | [], _, _, h => h
  | x :: r, _, u, h => by
    obtain ⟨y, ys, rfl, h1, h2⟩ := h
    rw [List.all_cons, Bool.and_eq_true] at u
    exact ⟨y, ys, rfl, RV.down _ _ u.1 h1, RFs.down r ys u.2 h2⟩
theorem SO.down {o : MO} {a : Addr} (u : MO.under ρ.length o = true) (h : SO L K (ρ ++ l) H o a) : SO L K ρ H o a := by
  cases o with
  | lst xs => obtain ⟨vs, h1, h2⟩ := h; exact ⟨vs, h1, RVs.down _ _ u h2⟩
  | dct lk kvs => obtain ⟨ks, h1, h2⟩ := h; exact ⟨ks, RKs.down _ _ u h1, h2⟩
  | ins c fs => obtain ⟨dx, f, h1, h2⟩ := h; exact ⟨dx, f, h1, RFs.down _ _ u h2⟩
theorem Sim.down {st : Sto} (s : Sim L K (ρ ++ l) st H) (hn : ρ.length ≤ st.length) (u : Sto.closed ρ.length (st.take ρ.length) = true) : Sim L K ρ (st.take ρ.length) H where
  len := by rw [List.length_take]; omega
  nd := (List.nodup_append.mp s.nd).1
  obj := fun k o a e1 e2 => by
    have hk : k < ρ.length := (List.getElem?_eq_some_iff.mp e2).1
    have e3 := e1
    rw [List.getElem?_take_of_lt hk] at e1
    have q := s.obj k o a e1 (by rw [List.getElem?_append_left hk]; exact e2)
    unfold Sto.closed at u
    exact SO.down (List.all_eq_true.mp u o (List.mem_of_getElem? e3)) q
end
theorem trim_ok {L : Lk} {K : PySem.W.Frag} {W : WX} {ρ : List Addr} {st : Sto} {H : Hp} {σ : List (Option V)} {Q : VK} {r : R PV} (s : Sim L K ρ st H) (h : okR L K W ρ H σ (R.trim st.length r) (vQ K Q)) : okR L K W ρ H σ r (vQ K Q) := by
  have cut : ∀ {st' : Sto} {ρ' : List Addr} {H' : Hp}, Ext ρ H ρ' H' → Sim L K ρ' st' H' → Sto.closed st.length (st'.take st.length) = true → Ext ρ H ρ H' ∧ Sim L K ρ (st'.take st.length) H' ∧ ∃ l, ρ' = ρ ++ l := fun {st' ρ' H'} e s' u => by
    obtain ⟨l, rfl⟩ := e.pre
    rw [← s.len] at u ⊢
    refine ⟨⟨⟨[], by simp⟩, fun a h n => absurd h n, e.keep, e.frz⟩, s'.down ?_ u, l, rfl⟩
    have := s'.len
    rw [List.length_append] at this
    omega
  cases r with
  | stuck => exact h
  | ok v st' =>
    unfold R.trim at h
    simp only at h
    split at h
    · exact h
    · split at h
      · rename_i hu
        rw [Bool.and_eq_true] at hu
        intro ρ' H' e s' x rx
        obtain ⟨e2, s2, l, rfl⟩ := cut e s' hu.2
        exact h ρ H' e2 s2 x (RV.down _ _ (by rw [s.len]; exact hu.1) rx)
      · exact h
  | exc c fs st' =>
    unfold R.trim at h
    simp only at h
    split at h
    · exact h
    · split at h
      · rename_i hu
        rw [Bool.and_eq_true] at hu
        refine ⟨h.1, fun ρ' H' e s' => ?_⟩
        obtain ⟨e2, s2, l, rfl⟩ := cut e s' hu.2
        exact h.2 ρ H' e2 s2
      · exact h
theorem body_ok {L : Lk} {K : PySem.W.Frag} {E : XK} {ρ : List Addr} {H : Hp} {Q : VK} {r : Fl} (h : okR L K (fun c d _ H' => E c d H') ρ H [] (flR r) (vQ K Q)) : okF L K (fun c d _ H' => E c d H') ρ H { nx := fun _ H' => Q .non H', rt := Q } r := by
  cases r with
  | nx σ st1 => exact fun ρ' H' σ' e s l => h ρ' H' e s _ rfl
  | rt v st1 => exact fun ρ' H' e s x r => h ρ' H' e s x r
  | exc c fs σ st1 => exact ⟨h.1, fun ρ' H' σ' e s l => h.2 ρ' H' e s⟩
  | bk σ st1 => exact h.elim
  | ct σ st1 => exact h.elim
  | stuck => exact h
/-- the defs, as they lie -/
structure Dt where
  df : Nat → Df
  ad : Nat → Addr
  fd : Nat → FuncData
structure Wd (cc : Cc) (P : Pg) (L : Lk) (T : Dt) (prog : Program) (w : World) (K : PySem.W.Frag) (mg : Str → Option Value) : Prop where
  fld : ∀ (i : Nat) (f : Str), cc.flds[i]? = some f → L.fld i = f
  finj : ∀ i j, L.fld i = L.fld j → i = j
  fmth : ∀ (i j : Nat) (m : Str), cc.mths[j]? = some m → L.fld i ≠ m
  const : ∀ x v, cc.consts.lookup x = some v → ∃ vv u, mg x = some u ∧ RelV vv u ∧ ∀ ρ H, RV K ρ H v vv
  free : ∀ x, x ∈ blts → cc.freeB x = true → mg x = none
  cls : ∀ (c : Nat) (x : Str), cc.cls[c]? = some x → Cls K (L.cls c) ∧ mg x = some (.ref (L.cls c)) ∧ ∀ (i : Nat) (f : Str), cc.flds[i]? = some f → NoAttr K (L.cls c) f
  inits : ∀ (i : Nat) (x : Str), cc.cls[i]? = some x → ∃ (d : Cl) (f : Nat), P.cls[i]? = some d ∧ d.init = some f
  pcls : ∀ (c : Nat) (d : Cl), P.cls[c]? = some d → ∃ x, cc.cls[c]? = some x ∧ (∀ f : Nat, d.init = some f → cc.fns[f]? = some (x, some ("__init__" : Str))) ∧ ∀ (m f : Nat) (nm : Str), cc.mths[m]? = some nm → findM m d.meths = some f → cc.fns[f]? = some (x, some nm)
  nx : P.nx = cc.excs.length
  exm : ∀ i j : Nat, i < cc.excs.length → j < cc.excs.length → PySem.W.exmOne K (.ref (L.exc i)) (.ref (L.exc j)) = some (Nat.beq i j)
  exc : ∀ (i : Nat) (x : Str), cc.excs[i]? = some x → mg x = some (.ref (L.exc i)) ∧ PySem.W.keepIn K (.ref (L.exc i)) = true ∧ (∃ (bmB : List Value) (B newId initId : String), ExcBaseFacts B newId initId bmB ∧ PySem.W.excIn K (L.exc i) bmB newId = true) ∧
    PySem.W.subIn K (.ref (L.exc i)) (.type "BaseException") = some true ∧ PySem.W.typeIn K (.ref (L.exc i)) = some (.type "type")
  fn : ∀ (f : Nat) (p : Str × Option Str), cc.fns[f]? = some p → FunD K (T.df f).name (T.df f).qual (T.df f).args (T.df f).body (T.df f).scope [] [] (T.ad f) (T.fd f) ∧ FnScope (namesOf (T.df f)) (T.df f).pars (T.df f).scope ∧ Binds K (T.fd f) (T.df f).pars [] ∧
    (p.2 = none → mg p.1 = some (.ref (T.ad f))) ∧ (∀ (m : Str) (c : Nat), p.2 = some m → cc.cls[c]? = some p.1 → Meth K (L.cls c) m (T.ad f) ∧ (m = "__init__" → Mk K (L.cls c) (T.ad f))) ∧ P.fns[f]? = some (fnOf cc (T.df f))
section
variable {cc : Cc} {P : Pg} {L : Lk} {T : Dt} {prog : Program} {w : World} {K : PySem.W.Frag} {mg : Str → Option Value} {base : Heap} {LL D : Nat}
theorem fn_all (hLL : LL ≤ big) (Z : Wd cc P L T prog w K mg) : ∀ (j f : Nat) (p : Str × Option Str), cc.fns[f]? = some p → FnOk prog w K mg base (L2.CX prog w) (2 * j) (T.ad f) (T.fd f) (T.df f).pars (FSp L K (callN P LL D j) f)
  | 0, f, p, hf => ⟨fun vs H Q E ⟨_, _, _, _, _, h⟩ => h.elim, fun A outer s H args us vs Q E _ _ _ _ ⟨_, _, _, _, _, h⟩ => h.elim⟩
  | j + 1, f, p, hf => by
    obtain ⟨F, S, B, _, _, hP⟩ := Z.fn f p hf
    have unf : ∀ (args : List PV) (st : Sto), callN P LL D (j + 1) f args st = if args.length = (T.df f).pars.length then R.trim st.length (flR ((evN P (callN P LL D j) LL D).s ((T.df f).body.map (cS cc (namesOf (T.df f)) 40 (T.df f).scope)) (args.map some ++ List.replicate ((namesOf (T.df f)).length - (T.df f).pars.length) none) st)) else .stuck := by
      intro args st
      unfold callN
      rw [hP]
      rfl
    refine FunD.ok F S (fun vs H Q E ⟨ρ, st, args, sm, rv, h⟩ => ?_) fun cdv A outer s H vs Q E hr ⟨ρ, st, args, sm, rv, h⟩ => ?_
    · rw [unf] at h
      split at h
      · rename_i hl
        rw [← rv.length, hl]
      · exact h.elim
    · rw [unf] at h
      split at h
      · rename_i hl
        have hk : Kx cc P (callN P LL D j) L (cxOf (L2.CX prog w) prog w K mg base (namesOf (T.df f)) (T.df f).qual (T.df f).scope (T.ad f) cdv A outer s H E) (fun c d _ H' => E c d H') :=
          { calm := rfl
            nd := S.nd
            units := by have := hr.un; show (A.deeper _).units + 200 < cLine; omega
            takes := takes_of rfl rfl rfl rfl
            fld := Z.fld
            finj := Z.finj
            fmth := Z.fmth
            const := Z.const
            free := Z.free
            fn := fun g q hq => by
              obtain ⟨F', S', B', m1, m2, _⟩ := Z.fn g q hq
              exact ⟨T.ad g, T.fd g, (T.df g).pars, 2 * j, fn_all hLL Z j g q hq, hr, hr.mono (Nat.le_succ _), B', F'.kp, m1, m2⟩
            cls := Z.cls
            inits := Z.inits
            pcls := Z.pcls }
        have hs : Sx cc P (callN P LL D j) L (cxOf (L2.CX prog w) prog w K mg base (namesOf (T.df f)) (T.df f).qual (T.df f).scope (T.ad f) cdv A outer s H E) (fun c d _ H' => E c d H') :=
          { k := hk
            passes := passes_of rfl
            stack := rfl
            frame := rfl
            own := fun x hx => ⟨hx, .inl rfl⟩
            kind := S.kind
            nx := Z.nx
            exc := fun i x hx => by
              obtain ⟨m1, m2, m3, m4, m5⟩ := Z.exc i x hx
              exact ⟨m1, m2, m3, raises_own m4 m5⟩
            exm := Z.exm }
        refine ⟨_, B_ok (is_all hLL 40) hs D (T.df f).body, ρ, st, _, sm, ?_, body_ok (trim_ok sm h)⟩
        have r := RLo.start ((namesOf (T.df f)).length - (T.df f).pars.length) rv
        unfold L2.start
        rw [← rv.length, hl]
        exact r
      · exact h.elim
end
end Rf
end
section
set_option Elab.async false
set_option linter.all false
set_option maxRecDepth 100000
set_option maxHeartbeats 2000000
/-! Rf24: what the head tells of the program, as Wd asks it. -/
namespace Rf
open PySem PySem.Spec PyProof.Rows L2
theorem zip_has {α : Type} [BEq α] [LawfulBEq α] {β : Type} : ∀ {ns : List α} {us : List β}, us.length = ns.length → ∀ n ∈ ns, ((ns.zip us).lookup n).isNone = false
  | [], [], _, n, h => by cases h
  | m :: ns, u :: us, hl, n, h => by
    rw [List.zip_cons_cons, List.lookup_cons]
    by_cases e : n = m
    · subst e; simp
    · have e' : (n == m) = false := beq_eq_false_iff_ne.mpr e
      rw [e']
      rcases List.mem_cons.mp h with q | q
      · exact absurd q e
      · exact zip_has (by simpa using hl) n q
theorem fm_congr {α β : Type} {f g : α → Option β} : ∀ {l : List α}, (∀ n ∈ l, f n = g n) → l.filterMap f = l.filterMap g
  | [], _ => rfl
  | a :: l, h => by
    rw [List.filterMap_cons, List.filterMap_cons, h a List.mem_cons_self, fm_congr fun n hn => h n (List.mem_cons_of_mem _ hn)]
theorem zip_fm {α : Type} [BEq α] [LawfulBEq α] {β : Type} : ∀ {ns : List α} {us : List β}, ns.Nodup → us.length = ns.length → (ns.filterMap fun n => ((ns.zip us).lookup n).map fun u => (n, u)) = ns.zip us
  | [], [], _, _ => rfl
  | m :: ns, u :: us, hd, hl => by
    obtain ⟨h1, h2⟩ := List.nodup_cons.mp hd
    have ih := zip_fm h2 (us := us) (by simpa using hl)
    rw [List.zip_cons_cons, List.filterMap_cons, List.lookup_cons]
    simp only [beq_self_eq_true, Option.map_some]
    congr 1
    refine Eq.trans (fm_congr fun n hn => ?_) ih
    rw [List.lookup_cons]
    have : (n == m) = false := beq_eq_false_iff_ne.mpr fun e => h1 (e ▸ hn)
    rw [this]
theorem bind_simple {x qual : Str} {params : Arguments} {body : List Stmt} {scope : Scope} {kV doc pm cdv ct : Value} {an : Option Addr} {us : List Value} (h1 : params.posonlyargs = []) (h2 : params.vararg = none) (h3 : params.kwonlyargs = []) (h4 : params.kwarg = none) (hnd : (params.args.map (·.arg)).Nodup) (hl : us.length = (params.args.map (·.arg)).length) :
    bindArgs (PySem.W.fnOf x qual params body scope .none kV doc pm an cdv ct) ⟨us, []⟩ = pure ((params.args.map (·.arg)).zip us) := by
  have hm : ((params.args.map (·.arg)).filter fun n => (((params.args.map (·.arg)).zip us).lookup n).isNone) = [] := by
    rw [List.filter_eq_nil_iff]
    intro n hn
    rw [zip_has hl n hn]
    decide
  unfold bindArgs
  simp only [PySem.W.fnOf, h1, h2, h3, h4, List.map_nil, List.nil_append, seqItems?]
  have hn : notAStandIn Value.none = pure () := rfl
  have hz : ([] : List Value).toArray.toList = [] := rfl
  simp only [hn, hz, List.forIn_nil, pure_bind, Option.getD_none, List.drop_nil, List.length_nil, Nat.zero_sub, Nat.sub_zero, Nat.sub_self, List.drop_zero, List.take_length, hm, hl, Nat.lt_irrefl, gt_iff_lt, decide_false, Bool.false_and, List.isEmpty_nil, Bool.not_true, Bool.false_eq_true, if_false, List.drop_length, List.zip_nil_right, List.append_nil, zip_fm hnd hl]
def defD (cc : Cc) (i : Nat) (d : Df) : He.DefD := ⟨d.at_, d.name, d.qual, d.args, d.body, d.scope, [], []⟩
/-- the facts that are asked of the head -/
def faFn (p : Str × Option Str) : List He.Fa := match p.2 with
  | none => [.glo p.1]
  | some m => .meth p.1 m :: (if m = ("__init__" : Str) then [.mkr p.1] else [])
def faOf (cc : Cc) : List He.Fa :=
  cc.fns.flatMap faFn ++ (blts.filter cc.freeB).map He.Fa.free ++ (cc.cls.flatMap fun x => .cls x :: .glo x :: cc.flds.map fun f => .noat x f) ++
    (cc.excs.flatMap fun x => .exc x :: .glo x :: cc.excs.map fun y => .exm x y (decide (x = y)))
/-- a name of no program -/
def odd (i : Nat) : Str := ⟨#[0, i]⟩
def lkOf (cc : Cc) (K : PySem.W.Frag) : Lk :=
  { cls := fun c => He.ga K (cc.cls.getD c default), exc := fun c => He.ga K (cc.excs.getD c default), fld := fun i => (cc.flds[i]?).getD (odd i) }
section
variable {cc : Cc} {K : PySem.W.Frag} {ds : List Df}
theorem fa_in {c : He.SaysD (faOf cc) (ds.map fun d => defD cc 0 d) K} {f : He.Fa} (h : f ∈ faOf cc) : f.ok K = true := by
  have c1 := (He.ba (show (((faOf cc).all fun f => f.ok K) && (ds.map fun d => defD cc 0 d).all fun d => d.ok K) = true from congrArg (fun z : He.AlD => z.1) c)).1
  exact List.all_eq_true.mp c1 f h
def argB (a : Arguments) : Bool := a.posonlyargs.isEmpty && a.vararg.isNone && a.kwonlyargs.isEmpty && a.kwarg.isNone
def scB (N ps : List Str) (sc : Scope) : Bool := decide (sc.kind = .function) && !sc.isCoroutine && !sc.isGenerator && decide N.Nodup && decide (N.take ps.length = ps) &&
  (ps.all fun x => decide (sc.names.lookup x = some .local) || decide (sc.names.lookup x = some .cell)) && sc.names.all fun y => decide (y.2 ≠ .free)
def dfB (d : Df) : Bool := argB d.args && scB (namesOf d) d.pars d.scope && decide d.pars.Nodup
theorem sc_of {N ps : List Str} {sc : Scope} (h : scB N ps sc = true) : FnScope N ps sc := by
  unfold scB at h
  simp only [Bool.and_eq_true, decide_eq_true_eq, Bool.not_eq_true', List.all_eq_true, Bool.or_eq_true] at h
  obtain ⟨⟨⟨⟨⟨⟨h1, h2⟩, h3⟩, h4⟩, h5⟩, h6⟩, h7⟩ := h
  exact ⟨h1, h2, h3, h4, h5, h6, h7⟩
theorem binds_of {x qual : Str} {params : Arguments} {body : List Stmt} {scope : Scope} {f : Addr} {fd : FuncData} (h : argB params = true) (hn : (params.args.map (·.arg)).Nodup) (F : FunD K x qual params body scope [] [] f fd) : Binds K fd (params.args.map (·.arg)) [] := by
  unfold argB at h
  simp only [Bool.and_eq_true, List.isEmpty_iff, Option.isNone_iff_eq_none] at h
  obtain ⟨⟨⟨h1, h2⟩, h3⟩, h4⟩ := h
  exact F.bindsN fun kV doc pm an cdv ct us hl => bind_simple h1 h2 h3 h4 hn hl
/-- the classes of the program and of the text agree -/
def clsB (cc : Cc) (P : Pg) : Bool := decide (P.cls.length = cc.cls.length) && (P.cls.zip cc.cls).all fun q => (match q.1.init with
    | some f => decide (cc.fns[f]? = some (q.2, some ("__init__" : Str)))
    | none => false) && q.1.meths.all fun r => (match cc.mths[r.1]? with
    | some nm => decide (cc.fns[r.2]? = some (q.2, some nm))
    | none => true)
def fldB (cc : Cc) : Bool := decide cc.flds.Nodup && (cc.flds.all fun f => decide (f.cps.toList.head? ≠ some 0)) && (cc.mths.all fun f => decide (f.cps.toList.head? ≠ some 0)) && cc.flds.all fun f => !cc.mths.contains f
theorem findM_mem {m f : Nat} : ∀ {l : List (Nat × Nat)}, findM m l = some f → (m, f) ∈ l
  | [], h => by cases h
  | p :: r, h => by
    unfold findM at h
    split at h
    · rename_i e
      cases h
      have := Nat.eq_of_beq_eq_true e
      rw [← this]
      exact List.mem_cons_self
    · exact List.mem_cons_of_mem _ (findM_mem h)
theorem fld_some {i : Nat} {f : Str} (h : cc.flds[i]? = some f) : (lkOf cc K).fld i = f := by
  show (cc.flds[i]?).getD (odd i) = f
  rw [h]
  rfl
theorem fld_none {i : Nat} (h : cc.flds[i]? = none) : (lkOf cc K).fld i = odd i := by
  show (cc.flds[i]?).getD (odd i) = _
  rw [h]
  rfl
theorem finj_of (h : fldB cc = true) (i j : Nat) (e : (lkOf cc K).fld i = (lkOf cc K).fld j) : i = j := by
  unfold fldB at h
  simp only [Bool.and_eq_true, decide_eq_true_eq, List.all_eq_true] at h
  obtain ⟨⟨⟨h1, h2⟩, h3⟩, h4⟩ := h
  cases hi : cc.flds[i]? with
  | none =>
    cases hj : cc.flds[j]? with
    | none =>
      rw [fld_none hi, fld_none hj] at e
      simpa [odd] using e
    | some g =>
      rw [fld_none hi, fld_some hj] at e
      exact absurd (by rw [← e]; rfl) (h2 g (List.mem_of_getElem? hj))
  | some f =>
    cases hj : cc.flds[j]? with
    | none =>
      rw [fld_some hi, fld_none hj] at e
      exact absurd (by rw [e]; rfl) (h2 f (List.mem_of_getElem? hi))
    | some g =>
      rw [fld_some hi, fld_some hj] at e
      subst e
      obtain ⟨p1, q1⟩ := List.getElem?_eq_some_iff.mp hi
      obtain ⟨p2, q2⟩ := List.getElem?_eq_some_iff.mp hj
      exact (List.getElem_inj h1).mp (by rw [q1, q2])
theorem fmth_of (h : fldB cc = true) (i j : Nat) (m : Str) (hm : cc.mths[j]? = some m) : (lkOf cc K).fld i ≠ m := by
  unfold fldB at h
  simp only [Bool.and_eq_true, decide_eq_true_eq, List.all_eq_true] at h
  obtain ⟨⟨⟨h1, h2⟩, h3⟩, h4⟩ := h
  intro e
  cases hi : cc.flds[i]? with
  | none =>
    rw [fld_none hi] at e
    exact absurd (by rw [← e]; rfl) (h3 m (List.mem_of_getElem? hm))
  | some f =>
    rw [fld_some hi] at e
    subst e
    have := h4 f (List.mem_of_getElem? hi)
    simp [List.mem_of_getElem? hm] at this
theorem wd_of {P : Pg} {prog : Program} {w : World} {h : Heap} {mg : Str → Option Value} (X : K.In h) (G : h.Ns mainGlobals mg) (c : He.SaysD (faOf cc) (ds.map fun d => defD cc 0 d) K) (hP : P.fns = ds.map (fnOf cc)) (hat : ds.map Df.at_ = cc.fns) (hd : ds.all dfB = true) (hnx : P.nx = cc.excs.length)
    (hcl : clsB cc P = true) (hfl : fldB cc = true) (hex : cc.excs.Nodup) (hco : cc.consts = []) : ∃ T : Dt, Wd cc P (lkOf cc K) T prog w K mg ∧ ∀ (f : Nat) (d : Df), ds[f]? = some d → T.df f = d ∧ T.ad f = He.fAd K d.at_ := by
  have fa : ∀ {f : He.Fa}, f ∈ faOf cc → f.ok K = true := fun {f} hf => fa_in (c := c) hf
  have inFn : ∀ {p : Str × Option Str} {f : He.Fa}, p ∈ cc.fns → f ∈ faFn p → f ∈ faOf cc := fun hp hf => by
    unfold faOf
    exact List.mem_append_left _ (List.mem_append_left _ (List.mem_append_left _ (List.mem_flatMap.mpr ⟨_, hp, hf⟩)))
  have inCl : ∀ {x : Str} {f : He.Fa}, x ∈ cc.cls → f ∈ (.cls x :: .glo x :: cc.flds.map fun f => .noat x f : List He.Fa) → f ∈ faOf cc := fun hp hf => by
    unfold faOf
    exact List.mem_append_left _ (List.mem_append_right _ (List.mem_flatMap.mpr ⟨_, hp, hf⟩))
  have inEx : ∀ {x : Str} {f : He.Fa}, x ∈ cc.excs → f ∈ (.exc x :: .glo x :: cc.excs.map fun y => .exm x y (decide (x = y)) : List He.Fa) → f ∈ faOf cc := fun hp hf => by
    unfold faOf
    exact List.mem_append_right _ (List.mem_flatMap.mpr ⟨_, hp, hf⟩)
  have fds : ∀ f : Nat, ∃ fd : FuncData, ∀ d, ds[f]? = some d → FunD K d.name d.qual d.args d.body d.scope [] [] (He.fAd K d.at_) fd := fun f => by
    cases hq : ds[f]? with
    | none => exact ⟨Classical.choice (by
        by_cases z : ∃ d, d ∈ ds
        · obtain ⟨d, hd'⟩ := z
          obtain ⟨i, hi⟩ := List.getElem?_of_mem hd'
          obtain ⟨fd, _⟩ := c.def_ i (d := defD cc 0 d) (by rw [List.getElem?_map, hi]; rfl)
          exact ⟨fd⟩
        · exact ⟨PySem.W.fnOf default default default [] default .none .none .none .none none .none .none⟩), fun d h => nomatch h⟩
    | some d =>
      obtain ⟨fd, F⟩ := c.def_ f (d := defD cc 0 d) (by rw [List.getElem?_map, hq]; rfl)
      exact ⟨fd, fun d' h => by cases h; exact F⟩
  obtain ⟨fdOf, hfd⟩ := Classical.axiomOfChoice fds
  refine ⟨⟨fun f => (ds[f]?).getD default, fun f => He.fAd K ((ds[f]?).getD default).at_, fdOf⟩, ?_, fun f d h => by simp only [h]; exact ⟨rfl, rfl⟩⟩
  have clsAt : ∀ {i : Nat} {x : Str}, cc.cls[i]? = some x → (lkOf cc K).cls i = He.ga K x := fun {i x} h => by
    show He.ga K (cc.cls.getD i default) = _
    rw [List.getD_eq_getElem?_getD, h]
    rfl
  have excAt : ∀ {i : Nat} {x : Str}, cc.excs[i]? = some x → (lkOf cc K).exc i = He.ga K x := fun {i x} h => by
    show He.ga K (cc.excs.getD i default) = _
    rw [List.getD_eq_getElem?_getD, h]
    rfl
  have clsZ : P.cls.length = cc.cls.length ∧ ∀ q ∈ P.cls.zip cc.cls, ((match q.1.init with
    | some f => decide (cc.fns[f]? = some (q.2, some ("__init__" : Str)))
    | none => false) && q.1.meths.all fun r => (match cc.mths[r.1]? with
    | some nm => decide (cc.fns[r.2]? = some (q.2, some nm))
    | none => true)) = true := by
    unfold clsB at hcl
    rw [Bool.and_eq_true, decide_eq_true_eq, List.all_eq_true] at hcl
    exact hcl
  have zipAt : ∀ {i : Nat} {d : Cl} {x : Str}, P.cls[i]? = some d → cc.cls[i]? = some x → (d, x) ∈ P.cls.zip cc.cls := fun {i d x} h1 h2 => by
    refine List.mem_of_getElem? (i := i) ?_
    rw [List.getElem?_zip_eq_some]
    exact ⟨h1, h2⟩
  exact
    { fld := fun i f h => fld_some h
      finj := finj_of hfl
      fmth := fmth_of hfl
      const := fun x v h => by rw [hco] at h; cases h
      free := fun x hx hf => He.free_ok X G (fa (by
        unfold faOf
        exact List.mem_append_left _ (List.mem_append_left _ (List.mem_append_right _ (List.mem_map.mpr ⟨x, List.mem_filter.mpr ⟨hx, hf⟩, rfl⟩)))))
      cls := fun i x h => by
        have hm := List.mem_of_getElem? h
        rw [clsAt h]
        exact ⟨He.cls_ok (fa (inCl hm (by simp))), He.glo_ok X G (fa (inCl hm (by simp))), fun j f hf => He.noat_ok (fa (inCl hm (by simp [List.mem_of_getElem? hf])))⟩
      inits := fun i x h => by
        have hlt : i < P.cls.length := by rw [clsZ.1]; exact (List.getElem?_eq_some_iff.mp h).1
        have e : P.cls[i]? = some P.cls[i] := List.getElem?_eq_getElem hlt
        have q := clsZ.2 _ (zipAt e h)
        rw [Bool.and_eq_true] at q
        cases z : P.cls[i].init with
        | none => rw [z] at q; cases q.1
        | some f => exact ⟨_, f, e, z⟩
      pcls := fun i d h => by
        have hlt : i < cc.cls.length := by rw [← clsZ.1]; exact (List.getElem?_eq_some_iff.mp h).1
        have e : cc.cls[i]? = some cc.cls[i] := List.getElem?_eq_getElem hlt
        have q := clsZ.2 _ (zipAt h e)
        rw [Bool.and_eq_true, List.all_eq_true] at q
        refine ⟨_, e, fun f hf => ?_, fun m f nm h1 h2 => ?_⟩
        · have q1 := q.1
          simp only [hf] at q1
          exact of_decide_eq_true q1
        · have q2 := q.2 _ (findM_mem h2)
          simp only [h1] at q2
          exact of_decide_eq_true q2
      nx := hnx
      exm := fun i j hi hj => by
        have e1 : cc.excs[i]? = some cc.excs[i] := List.getElem?_eq_getElem hi
        have e2 : cc.excs[j]? = some cc.excs[j] := List.getElem?_eq_getElem hj
        rw [excAt e1, excAt e2]
        have q := He.exm_ok (fa (inEx (List.mem_of_getElem? e1) (f := .exm cc.excs[i] cc.excs[j] (decide (cc.excs[i] = cc.excs[j]))) (by
          refine List.mem_cons_of_mem _ (List.mem_cons_of_mem _ (List.mem_map.mpr ⟨_, List.mem_of_getElem? e2, rfl⟩)))))
        rw [q]
        congr 1
        by_cases z : i = j
        · subst z
          simp
        · have z2 : cc.excs[i] ≠ cc.excs[j] := fun w => z ((List.getElem_inj hex).mp w)
          rw [decide_eq_false z2]
          cases y : Nat.beq i j with
          | false => rfl
          | true => exact absurd (Nat.eq_of_beq_eq_true y) z
      exc := fun i x h => by
        have hm := List.mem_of_getElem? h
        rw [excAt h]
        obtain ⟨k1, k2, k3, k4⟩ := He.exc_ok (fa (inEx hm (f := .exc x) (by simp)))
        exact ⟨He.glo_ok X G (fa (inEx hm (by simp))), k2, ⟨_, _, _, _, PySem.F.excBase_ValueError, k1⟩, k3, k4⟩
      fn := fun f p hf => by
        have hl : f < ds.length := by
          have := (List.getElem?_eq_some_iff.mp hf).1
          rw [← hat, List.length_map] at this
          exact this
        have e : ds[f]? = some ds[f] := List.getElem?_eq_getElem hl
        have ep : ds[f].at_ = p := by
          rw [← hat, List.getElem?_map, e] at hf
          exact Option.some.inj hf
        have F := hfd f _ e
        simp only [e, Option.getD_some]
        have hB := List.all_eq_true.mp hd _ (List.getElem_mem hl)
        unfold dfB at hB
        simp only [Bool.and_eq_true, decide_eq_true_eq] at hB
        have hmem := List.mem_of_getElem? hf
        refine ⟨F, sc_of hB.1.2, binds_of hB.1.1 hB.2 F, fun hn => ?_, fun m i hm hc => ?_, ?_⟩
        · rw [ep]
          have q := He.glo_ok X G (fa (inFn hmem (f := .glo p.1) (by unfold faFn; rw [hn]; simp)))
          unfold He.fAd
          rw [hn]
          exact q
        · rw [clsAt hc, ep]
          have q := He.meth_ok (fa (inFn hmem (f := .meth p.1 m) (by unfold faFn; rw [hm]; simp)))
          have ea : He.fAd K p = He.ma K (He.ga K p.1) m := by unfold He.fAd; rw [hm]
          rw [ea]
          refine ⟨q, fun hi => ?_⟩
          subst hi
          exact He.mkr_ok (fa (inFn hmem (f := .mkr p.1) (by unfold faFn; rw [hm]; simp)))
        · rw [hP, List.getElem?_map, e]
          rfl }
end
end Rf
end
section
set_option Elab.async false
set_option linter.all false
set_option maxRecDepth 100000
set_option maxHeartbeats 2000000
/-! Rf25: a law's call. -/
namespace Rf
open PySem PySem.Spec PyProof.Rows L2
theorem rol_of {K : PySem.W.Frag} {H : Hp} {a : Addr} {vs : List V} (hO : Only H) (h : SqL K H a vs) : RoL K H a vs := by
  rcases h with (h | h) | h
  · rcases hO a with q | q
    · rw [h] at q; cases q
    · obtain ⟨o, xs, q⟩ := q
      rw [h] at q
      cases q
  · exact .inl h
  · exact .inr h
theorem sp_law {cc : Cc} {P : Pg} {L : Lk} {K : PySem.W.Frag} {LL D j f : Nat} (hl : ∀ ns : List Int, ns.length ≤ 63 → ∃ st', callN P LL D j f [.rol (ns.map PV.int)] [] = .ok (.bl true) st') (H : Hp) (a : Addr) (ns : List Int) (hn : ns.length ≤ 63) (hO : Only H) (hS : SqL K H a (ns.map V.int)) :
    FSp L K (callN P LL D j) f [.ref a] H (fun v _ => v = .bl true) fun _ _ _ => False := by
  obtain ⟨st', e⟩ := hl ns hn
  refine ⟨[], [], [.rol (ns.map PV.int)], ⟨rfl, List.nodup_nil, fun k o b e1 => by simp at e1⟩, ⟨.ref a, [], rfl, ⟨a, _, rfl, rol_of hO hS, RVs.ofInts ns⟩, rfl⟩, ?_⟩
  rw [e]
  exact fun ρ' H' _ _ x rx => rx
theorem cx_no {P : Program} {w : World} (H : Hp) (s : Shared) (e : Value) (s' : Shared) (h : L2.CX P w [] H s (fun _ _ _ => False) e s') : False := by
  unfold L2.CX at h
  obtain ⟨a, B, H', cls, d, h⟩ := h
  simp only [and_false, false_and] at h
end Rf
end
section
open PySem Rf
namespace P79
/-- tupled -/
def f0 : Fn := ⟨1, 3, [(.ret (some (.ife (.isin (.var 0) [.klist, .ktup]) (.bl .tuple [(.comp (.call 0 [(.var 2)]) (.name 2) (.seq (.var 0)) none [1, 2])]) (.var 0))))]⟩
/-- is_number -/
def f1 : Fn := ⟨1, 1, [(.ret (some (.and (.isin (.var 0) [.kint]) (.not (.isin (.var 0) [.kbool])))))]⟩
/-- is_count -/
def f2 : Fn := ⟨1, 1, [(.ret (some (.and (.call 1 [(.var 0)]) (.cmp .ge (.var 0) (.lit (.int (0)))))))]⟩
/-- is_tuple_of -/
def f3 : Fn := ⟨2, 2, [(.ret (some (.and (.isin (.var 0) [.ktup]) (.cmp .eq (.bl .len [(.var 0)]) (.var 1)))))]⟩
/-- set_of -/
def f4 : Fn := ⟨1, 1, [(.ret (some (.bl .tuple [(.bl .sortset [(.var 0)])])))]⟩
/-- rises -/
def f5 : Fn := ⟨1, 4, [(.ret (some (.bl .all [(.comp (.cmp .lt (.var 2) (.var 3)) (.tup [(.name 2), (.name 3)]) (.zip (.var 0) (.slice (.var 0) (some (.lit (.int (1)))) none)) none [1, 2, 3])])))]⟩
/-- sure_tuple -/
def f6 : Fn := ⟨1, 2, [(.asg (.name 1) (.call 0 [(.var 0)])), (.ife (.not (.isin (.var 1) [.ktup])) [(.raise 0 [])] []), (.ret (some (.var 1)))]⟩
/-- is_home -/
def f7 : Fn := ⟨1, 3, [(.ife (.or (.not (.call 3 [(.var 0), (.lit (.int (2)))])) (.or (.not (.isin (.ix (.var 0) (.lit (.int (0)))) [.ktup])) (.not (.call 2 [(.ix (.var 0) (.lit (.int (1))))])))) [(.ret (some (.lit (.bl false))))] []), (.ret (some (.bl .all [(.comp (.call 7 [(.var 2)]) (.name 2) (.seq (.ix (.var 0) (.lit (.int (0))))) none [1, 2])])))]⟩
/-- are_homes -/
def f8 : Fn := ⟨1, 3, [(.ret (some (.and (.isin (.var 0) [.ktup]) (.bl .all [(.comp (.call 7 [(.var 2)]) (.name 2) (.seq (.var 0)) none [1, 2])]))))]⟩
/-- sure_home -/
def f9 : Fn := ⟨1, 2, [(.asg (.name 1) (.call 0 [(.var 0)])), (.ife (.not (.call 7 [(.var 1)])) [(.raise 0 [])] []), (.ret (some (.var 1)))]⟩
/-- sure_homes -/
def f10 : Fn := ⟨1, 2, [(.asg (.name 1) (.call 0 [(.var 0)])), (.ife (.not (.call 8 [(.var 1)])) [(.raise 0 [])] []), (.ret (some (.var 1)))]⟩
/-- arrow -/
def f11 : Fn := ⟨2, 5, [(.asg (.name 2) (.call 10 [(.var 0)])), (.asg (.tup [(.name 3), (.name 4)]) (.call 9 [(.var 1)])), (.ret (some (.tup [(.bin .add (.var 2) (.var 3)), (.var 4)])))]⟩
/-- row_in -/
def f12 : Fn := ⟨1, 3, [(.asg (.name 1) (.tup [])), (.for_ (.name 2) (.seq (.ix (.var 0) (.lit (.int (0))))) [(.asg (.name 1) (.bin .add (.var 1) (.call 12 [(.var 2)])))]), (.ret (some (.bin .add (.var 1) (.tup [(.ix (.var 0) (.lit (.int (1))))]))))]⟩
/-- atoms -/
def f13 : Fn := ⟨1, 1, [(.ret (some (.call 4 [(.call 12 [(.call 9 [(.var 0)])])])))]⟩
/-- named_by -/
def f14 : Fn := ⟨2, 6, [(.asg (.tup [(.name 2), (.name 3)]) (.var 0)), (.ret (some (.tup [(.bl .tuple [(.comp (.call 14 [(.var 5), (.var 1)]) (.name 5) (.seq (.var 2)) none [4, 5])]), (.bm (.var 1) .get2 [(.var 3), (.var 3)])])))]⟩
/-- is_naming -/
def f15 : Fn := ⟨1, 3, [(.ife (.or (.not (.isin (.var 0) [.ktup])) (.not (.bl .all [(.comp (.call 3 [(.var 2), (.lit (.int (2)))]) (.name 2) (.seq (.var 0)) none [1, 2])]))) [(.ret (some (.lit (.bl false))))] []), (.ife (.not (.bl .all [(.comp (.and (.call 2 [(.ix (.var 2) (.lit (.int (0))))]) (.call 2 [(.ix (.var 2) (.lit (.int (1))))])) (.name 2) (.seq (.var 0)) none [1, 2])])) [(.ret (some (.lit (.bl false))))] []), (.ret (some (.call 5 [(.bl .tuple [(.comp (.ix (.var 2) (.lit (.int (0)))) (.name 2) (.seq (.var 0)) none [1, 2])])])))]⟩
/-- named -/
def f16 : Fn := ⟨2, 4, [(.asg (.tup [(.name 2), (.name 3)]) (.tup [(.call 9 [(.var 0)]), (.call 0 [(.var 1)])])), (.ife (.not (.call 15 [(.var 3)])) [(.raise 0 [])] []), (.ret (some (.call 14 [(.var 2), (.bl .dict [(.var 3)])])))]⟩
/-- first_names -/
def f17 : Fn := ⟨1, 4, [(.asg (.name 1) .dnew), (.for_ (.name 2) (.seq (.var 0)) [(.for_ (.name 3) (.seq (.call 12 [(.var 2)])) [(.ife (.cmp .notIn (.var 3) (.var 1)) [(.asg (.sub (.var 1) (.var 3)) (.bl .len [(.var 1)]))] [])])]), (.ret (some (.var 1)))]⟩
/-- plain_in -/
def f18 : Fn := ⟨1, 1, [(.ret (some (.call 14 [(.var 0), (.call 17 [(.lst [(.var 0)])])])))]⟩
/-- plain_home -/
def f19 : Fn := ⟨1, 1, [(.ret (some (.call 18 [(.call 9 [(.var 0)])])))]⟩
/-- is_filling -/
def f20 : Fn := ⟨1, 3, [(.ife (.or (.not (.isin (.var 0) [.ktup])) (.not (.bl .all [(.comp (.call 3 [(.var 2), (.lit (.int (2)))]) (.name 2) (.seq (.var 0)) none [1, 2])]))) [(.ret (some (.lit (.bl false))))] []), (.ife (.not (.bl .all [(.comp (.and (.call 2 [(.ix (.var 2) (.lit (.int (0))))]) (.call 7 [(.ix (.var 2) (.lit (.int (1))))])) (.name 2) (.seq (.var 0)) none [1, 2])])) [(.ret (some (.lit (.bl false))))] []), (.ret (some (.call 5 [(.bl .tuple [(.comp (.ix (.var 2) (.lit (.int (0)))) (.name 2) (.seq (.var 0)) none [1, 2])])])))]⟩
/-- sure_filling -/
def f21 : Fn := ⟨1, 2, [(.asg (.name 1) (.call 0 [(.var 0)])), (.ife (.not (.call 20 [(.var 1)])) [(.raise 0 [])] []), (.ret (some (.var 1)))]⟩
/-- put_by -/
def f22 : Fn := ⟨2, 7, [(.asg (.name 2) (.bl .tuple [(.comp (.call 22 [(.var 6), (.var 1)]) (.name 6) (.seq (.ix (.var 0) (.lit (.int (0))))) none [5, 6])])), (.ife (.cmp .notIn (.ix (.var 0) (.lit (.int (1)))) (.var 1)) [(.ret (some (.tup [(.var 2), (.ix (.var 0) (.lit (.int (1))))])))] []), (.asg (.tup [(.name 3), (.name 4)]) (.ix (.var 1) (.ix (.var 0) (.lit (.int (1)))))), (.ret (some (.tup [(.bin .add (.var 2) (.var 3)), (.var 4)])))]⟩
/-- put_home -/
def f23 : Fn := ⟨2, 3, [(.asg (.name 2) (.call 9 [(.var 0)])), (.ret (some (.call 22 [(.var 2), (.bl .dict [(.call 21 [(.var 1)])])])))]⟩
/-- filling_of -/
def f24 : Fn := ⟨1, 3, [(.ret (some (.bl .tuple [(.comp (.tup [(.var 2), (.ix (.var 0) (.var 2))]) (.name 2) (.seq (.bl .sorted [(.var 0)])) (some (.cmp .ne (.ix (.var 0) (.var 2)) (.tup [(.tup []), (.var 2)]))) [1, 2])])))]⟩
/-- put_behind -/
def f25 : Fn := ⟨2, 6, [(.asg (.name 2) (.bl .dict [(.call 21 [(.var 0)])])), (.asg (.name 3) (.bl .dict [(.call 21 [(.var 1)])])), (.asg (.name 4) .dnew), (.for_ (.name 5) (.seq (.bin .add (.bl .list [(.var 2)]) (.bl .list [(.var 3)]))) [(.asg (.sub (.var 4) (.var 5)) (.call 22 [(.call 22 [(.tup [(.tup []), (.var 5)]), (.var 2)]), (.var 3)]))]), (.ret (some (.call 24 [(.var 4)])))]⟩
/-- Meeting.__init__ -/
def f26 : Fn := ⟨1, 1, [(.asg (.fld (.var 0) 0) .dnew)]⟩
/-- Meeting.walked -/
def f27 : Fn := ⟨2, 5, [(.asg (.tup [(.name 2), (.name 3)]) (.var 1)), (.while_ (.cmp .in_ (.var 3) (.fld (.var 0) 0)) [(.asg (.tup [(.name 4), (.name 3)]) (.ix (.fld (.var 0) 0) (.var 3))), (.asg (.name 2) (.bin .add (.var 2) (.var 4)))]), (.ret (some (.tup [(.var 2), (.var 3)])))]⟩
/-- Meeting.resolved -/
def f28 : Fn := ⟨2, 6, [(.asg (.tup [(.name 2), (.name 3)]) (.meth (.var 0) 1 [(.var 1)])), (.ret (some (.tup [(.bl .tuple [(.comp (.meth (.var 0) 2 [(.var 5)]) (.name 5) (.seq (.var 2)) none [4, 5])]), (.var 3)])))]⟩
/-- Meeting.bind -/
def f29 : Fn := ⟨3, 3, [(.ife (.cmp .eq (.var 2) (.tup [(.tup []), (.var 1)])) [(.ret none)] []), (.ife (.cmp .in_ (.var 1) (.call 12 [(.meth (.var 0) 2 [(.var 2)])])) [(.raise 1 [])] []), (.asg (.sub (.fld (.var 0) 0) (.var 1)) (.var 2))]⟩
/-- Meeting.meet -/
def f30 : Fn := ⟨3, 11, [(.asg (.name 3) (.lst [(.tup [(.var 1), (.var 2)])])), (.while_ (.cmp .ne (.var 3) (.lst [])) [(.asg (.name 4) (.bm (.var 3) .pop [])), (.asg (.tup [(.name 5), (.name 6)]) (.tup [(.meth (.var 0) 1 [(.ix (.var 4) (.lit (.int (0))))]), (.meth (.var 0) 1 [(.ix (.var 4) (.lit (.int (1))))])])), (.asg (.name 7) (.bl .min2 [(.bl .len [(.ix (.var 5) (.lit (.int (0))))]), (.bl .len [(.ix (.var 6) (.lit (.int (0))))])])), (.ex (.bm (.var 3) .extend [(.comp (.tup [(.var 9), (.var 10)]) (.tup [(.name 9), (.name 10)]) (.zip (.slice (.ix (.var 5) (.lit (.int (0)))) none (some (.var 7))) (.slice (.ix (.var 6) (.lit (.int (0)))) none (some (.var 7)))) none [8, 9, 10])])), (.ife (.cmp .eq (.bl .len [(.ix (.var 5) (.lit (.int (0))))]) (.var 7)) [(.ex (.meth (.var 0) 3 [(.ix (.var 5) (.lit (.int (1)))), (.tup [(.slice (.ix (.var 6) (.lit (.int (0)))) (some (.var 7)) none), (.ix (.var 6) (.lit (.int (1))))])]))] [(.ex (.meth (.var 0) 3 [(.ix (.var 6) (.lit (.int (1)))), (.tup [(.slice (.ix (.var 5) (.lit (.int (0)))) (some (.var 7)) none), (.ix (.var 5) (.lit (.int (1))))])]))])])]⟩
/-- Meeting.filling -/
def f31 : Fn := ⟨1, 3, [(.asg (.name 1) .dnew), (.for_ (.name 2) (.seq (.fld (.var 0) 0)) [(.asg (.sub (.var 1) (.var 2)) (.meth (.var 0) 2 [(.tup [(.tup []), (.var 2)])]))]), (.ret (some (.call 24 [(.var 1)])))]⟩
/-- met -/
def f32 : Fn := ⟨1, 7, [(.asg (.name 1) (.call 6 [(.var 0)])), (.ife (.not (.bl .all [(.comp (.and (.call 3 [(.var 6), (.lit (.int (2)))]) (.call 8 [(.var 6)])) (.name 6) (.seq (.var 1)) none [5, 6])])) [(.raise 0 [])] []), (.asg (.name 2) (.make 0 [])), (.for_ (.tup [(.name 3), (.name 4)]) (.seq (.var 1)) [(.ex (.meth (.var 2) 4 [(.var 3), (.var 4)]))]), (.ret (some (.meth (.var 2) 5 [])))]⟩
/-- met_home -/
def f33 : Fn := ⟨2, 5, [(.asg (.name 2) (.call 9 [(.var 0)])), (.asg (.name 3) (.call 9 [(.var 1)])), (.asg (.name 4) (.make 0 [])), (.ex (.meth (.var 4) 4 [(.var 2), (.var 3)])), (.ret (some (.call 18 [(.meth (.var 4) 2 [(.var 2)])])))]⟩
/-- fits -/
def f34 : Fn := ⟨3, 8, [(.asg (.tup [(.name 3), (.name 4)]) (.var 0)), (.ife (.cmp .lt (.bl .len [(.ix (.var 1) (.lit (.int (0))))]) (.bl .len [(.var 3)])) [(.ret (some (.lit (.bl false))))] []), (.for_ (.tup [(.name 5), (.name 6)]) (.zip (.var 3) (.ix (.var 1) (.lit (.int (0))))) [(.ife (.not (.call 34 [(.var 5), (.var 6), (.var 2)])) [(.ret (some (.lit (.bl false))))] [])]), (.asg (.name 7) (.tup [(.slice (.ix (.var 1) (.lit (.int (0)))) (some (.bl .len [(.var 3)])) none), (.ix (.var 1) (.lit (.int (1))))])), (.ife (.cmp .notIn (.var 4) (.var 2)) [(.asg (.sub (.var 2) (.var 4)) (.var 7))] []), (.ret (some (.cmp .eq (.ix (.var 2) (.var 4)) (.var 7))))]⟩
/-- is_case -/
def f35 : Fn := ⟨2, 3, [(.asg (.name 2) (.call 9 [(.var 0)])), (.ret (some (.call 34 [(.var 2), (.call 9 [(.var 1)]), .dnew])))]⟩
/-- filling_by -/
def f36 : Fn := ⟨2, 5, [(.asg (.name 2) .dnew), (.ife (.not (.call 34 [(.var 0), (.var 1), (.var 2)])) [(.ret (some (.lit .non)))] []), (.ret (some (.bl .tuple [(.comp (.tup [(.var 4), (.ix (.var 2) (.var 4))]) (.name 4) (.seq (.bl .sorted [(.var 2)])) none [3, 4])])))]⟩
/-- filling_to -/
def f37 : Fn := ⟨2, 4, [(.asg (.name 2) (.call 9 [(.var 0)])), (.asg (.name 3) (.call 36 [(.var 2), (.call 9 [(.var 1)])])), (.ife (.cmp .isN (.var 3) (.lit .non)) [(.raise 2 [])] []), (.ret (some (.var 3)))]⟩
/-- are_cases_in -/
def f38 : Fn := ⟨2, 6, [(.asg (.name 2) .dnew), (.ret (some (.bl .all [(.comp (.call 34 [(.var 4), (.var 5), (.var 2)]) (.tup [(.name 4), (.name 5)]) (.zip (.var 0) (.var 1)) none [3, 4, 5])])))]⟩
/-- are_cases -/
def f39 : Fn := ⟨2, 4, [(.asg (.name 2) (.call 10 [(.var 0)])), (.asg (.name 3) (.call 10 [(.var 1)])), (.ife (.cmp .ne (.bl .len [(.var 2)]) (.bl .len [(.var 3)])) [(.raise 0 [])] []), (.ret (some (.call 38 [(.var 2), (.var 3)])))]⟩
/-- _law_box -/
def f40 : Fn := ⟨2, 3, [(.asg (.name 2) (.ife (.cmp .lt (.var 1) (.bl .len [(.var 0)])) (.ix (.var 0) (.var 1)) (.lit (.int (0))))), (.ret (some (.lst [(.bin .mul (.bl .abs [(.var 2)]) (.bl .int [(.cmp .ge (.bl .abs [(.var 2)]) (.bin .pow (.lit (.int (10))) (.lit (.int (18)))))])), (.bin .add (.bin .add (.bin .mod (.bl .int [(.var 2)]) (.lit (.int (2305843009213693951)))) (.bin .mul (.lit (.int (39373))) (.var 1))) (.lit (.int (26543)))), (.lit (.int (0)))])))]⟩
/-- _law_take -/
def f41 : Fn := ⟨2, 6, [(.ife (.cmp .gt (.ix (.var 0) (.lit (.int (0)))) (.lit (.int (0)))) [(.asg (.name 2) (.bin .mod (.bl .int [(.ix (.var 0) (.lit (.int (0))))]) (.var 1))), (.asg (.sub (.var 0) (.lit (.int (0)))) (.bin .fdiv (.ix (.var 0) (.lit (.int (0)))) (.var 1))), (.ret (some (.var 2)))] []), (.asg (.sub (.var 0) (.lit (.int (2)))) (.bin .add (.ix (.var 0) (.lit (.int (2)))) (.lit (.int (1))))), (.asg (.name 3) (.bin .mod (.bl .int [(.bin .mul (.bin .add (.ix (.var 0) (.lit (.int (1)))) (.bin .mul (.lit (.int (48271))) (.ix (.var 0) (.lit (.int (2)))))) (.bin .add (.lit (.int (39373))) (.ix (.var 0) (.lit (.int (2))))))]) (.lit (.int (2147483647))))), (.asg (.name 4) (.bin .add (.bin .mod (.bl .int [(.var 3)]) (.lit (.int (40009)))) (.lit (.int (7))))), (.asg (.name 5) (.bin .mod (.bl .int [(.bin .mul (.bin .add (.bin .add (.var 3) (.ix (.var 0) (.lit (.int (2))))) (.bin .fdiv (.ix (.var 0) (.lit (.int (1)))) (.lit (.int (1000003))))) (.var 4))]) (.lit (.int (2147483629))))), (.ret (some (.bin .mod (.bl .int [(.bin .fdiv (.bin .mod (.bl .int [(.bin .add (.bin .mul (.var 5) (.lit (.int (48271)))) (.var 3))]) (.lit (.int (2147483587)))) (.lit (.int (64))))]) (.var 1))))]⟩
/-- _law_cells -/
def f42 : Fn := ⟨2, 6, [(.asg (.name 2) (.or (.bl .list [(.slice (.var 0) none (some (.var 1)))]) (.lst [(.lit (.int (0)))]))), (.for_ (.tup [(.name 3), (.name 4)]) (.enum (.slice (.var 0) (some (.var 1)) (some (.lit (.int (63)))))) [(.asg (.name 5) (.bin .mod (.bl .int [(.var 3)]) (.var 1))), (.asg (.sub (.var 2) (.var 5)) (.bin .add (.ix (.var 2) (.var 5)) (.bin .mul (.var 4) (.bin .add (.var 3) (.lit (.int (2)))))))]), (.ret (some (.var 2)))]⟩
/-- _law_pick -/
def f43 : Fn := ⟨3, 6, [(.asg (.tup [(.name 3), (.name 4)]) (.tup [(.bl .list [(.var 1)]), (.lst [])])), (.for_ (.name 5) (.rng1 (.bl .min2 [(.bl .int [(.var 2)]), (.bl .len [(.var 3)])])) [(.ex (.bm (.var 4) .append [(.bm (.var 3) .popAt [(.call 41 [(.var 0), (.bl .len [(.var 3)])])])]))]), (.ret (some (.var 4)))]⟩
/-- _law_lists -/
def f44 : Fn := ⟨1, 3, [(.ret (some (.ife (.isin (.var 0) [.klist, .ktup]) (.comp (.call 44 [(.var 2)]) (.name 2) (.seq (.var 0)) none [1, 2]) (.var 0))))]⟩
/-- _law_home -/
def f45 : Fn := ⟨3, 7, [(.asg (.tup [(.name 3), (.name 4)]) (.tup [(.lst []), (.bin .sub (.var 1) (.lit (.int (1))))])), (.for_ (.name 5) (.rng1 (.ife (.cmp .gt (.var 4) (.lit (.int (0)))) (.call 41 [(.var 0), (.lit (.int (4)))]) (.lit (.int (0))))) [(.ife (.cmp .gt (.var 4) (.lit (.int (0)))) [(.asg (.name 6) (.call 45 [(.var 0), (.bin .add (.lit (.int (1))) (.call 41 [(.var 0), (.var 4)])), (.var 2)])), (.ex (.bm (.var 3) .append [(.var 6)])), (.asg (.name 4) (.bin .sub (.var 4) (.call 46 [(.var 6)])))] [])]), (.ret (some (.tup [(.bl .tuple [(.var 3)]), (.call 41 [(.var 0), (.var 2)])])))]⟩
/-- _law_places -/
def f46 : Fn := ⟨1, 3, [(.ret (some (.bin .add (.lit (.int (1))) (.bl .sum [(.comp (.call 46 [(.var 2)]) (.name 2) (.seq (.ix (.var 0) (.lit (.int (0))))) none [1, 2])]))))]⟩
/-- _law_row -/
def f47 : Fn := ⟨1, 3, [(.asg (.name 1) (.tup [])), (.for_ (.name 2) (.seq (.ix (.var 0) (.lit (.int (0))))) [(.asg (.name 1) (.bin .add (.var 1) (.call 47 [(.var 2)])))]), (.ret (some (.bin .add (.var 1) (.tup [(.ix (.var 0) (.lit (.int (1))))]))))]⟩
/-- _law_plain_names -/
def f48 : Fn := ⟨1, 4, [(.asg (.name 1) .dnew), (.for_ (.name 2) (.seq (.var 0)) [(.for_ (.name 3) (.seq (.call 47 [(.var 2)])) [(.asg (.sub (.var 1) (.var 3)) (.bm (.var 1) .get2 [(.var 3), (.bl .len [(.var 1)])]))])]), (.ret (some (.var 1)))]⟩
/-- _law_named -/
def f49 : Fn := ⟨2, 4, [(.ret (some (.tup [(.bl .tuple [(.comp (.call 49 [(.var 3), (.var 1)]) (.name 3) (.seq (.ix (.var 0) (.lit (.int (0))))) none [2, 3])]), (.bm (.var 1) .get2 [(.ix (.var 0) (.lit (.int (1)))), (.ix (.var 0) (.lit (.int (1))))])])))]⟩
/-- _law_walk -/
def f50 : Fn := ⟨2, 5, [(.for_ (.name 2) (.rng1 (.lit (.int (200)))) [(.ife (.cmp .notIn (.ix (.var 0) (.lit (.int (1)))) (.var 1)) [.brk] []), (.asg (.tup [(.name 3), (.name 4)]) (.ix (.var 1) (.ix (.var 0) (.lit (.int (1)))))), (.asg (.name 0) (.tup [(.bin .add (.ix (.var 0) (.lit (.int (0)))) (.var 3)), (.var 4)]))]), (.ret (some (.var 0)))]⟩
/-- _law_whole -/
def f51 : Fn := ⟨3, 8, [(.ife (.cmp .gt (.bl .len [(.var 2)]) (.lit (.int (60)))) [(.ret (some (.lit .non)))] []), (.asg (.tup [(.name 3), (.name 4)]) (.call 50 [(.var 0), (.var 1)])), (.asg (.name 5) (.comp (.call 51 [(.var 7), (.var 1), (.bin .add (.var 2) (.tup [(.lit (.int (0)))]))]) (.name 7) (.seq (.var 3)) none [6, 7])), (.ret (some (.ife (.cmp .in_ (.lit .non) (.var 5)) (.lit .non) (.tup [(.bl .tuple [(.var 5)]), (.var 4)]))))]⟩
/-- _law_met -/
def f52 : Fn := ⟨1, 12, [(.asg (.tup [(.name 1), (.name 2)]) (.tup [.dnew, (.bl .list [(.var 0)])])), (.for_ (.name 3) (.rng1 (.lit (.int (400)))) [(.ife (.cmp .eq (.var 2) (.lst [])) [(.ret (some (.var 1)))] []), (.asg (.tup [(.name 4), (.name 5)]) (.bm (.var 2) .pop [])), (.asg (.tup [(.name 4), (.name 5)]) (.tup [(.call 50 [(.var 4), (.var 1)]), (.call 50 [(.var 5), (.var 1)])])), (.asg (.name 6) (.bl .min2 [(.bl .len [(.ix (.var 4) (.lit (.int (0))))]), (.bl .len [(.ix (.var 5) (.lit (.int (0))))])])), (.ex (.bm (.var 2) .extend [(.comp (.tup [(.var 10), (.var 11)]) (.tup [(.name 10), (.name 11)]) (.zip (.slice (.ix (.var 4) (.lit (.int (0)))) none (some (.var 6))) (.slice (.ix (.var 5) (.lit (.int (0)))) none (some (.var 6)))) none [9, 10, 11])])), (.asg (.tup [(.name 7), (.name 8)]) (.tup [(.tup [(.slice (.ix (.var 4) (.lit (.int (0)))) (some (.var 6)) none), (.ix (.var 4) (.lit (.int (1))))]), (.tup [(.slice (.ix (.var 5) (.lit (.int (0)))) (some (.var 6)) none), (.ix (.var 5) (.lit (.int (1))))])])), (.ife (.cmp .ne (.ix (.var 7) (.lit (.int (0)))) (.tup [])) [(.asg (.tup [(.name 7), (.name 8)]) (.tup [(.var 8), (.var 7)]))] []), (.ife (.cmp .ne (.var 7) (.var 8)) [(.ife (.call 53 [(.ix (.var 7) (.lit (.int (1)))), (.var 8), (.var 1), (.lit (.int (0)))]) [(.ret (some (.lit .non)))] []), (.asg (.sub (.var 1) (.ix (.var 7) (.lit (.int (1))))) (.var 8))] [])]), (.ret (some (.lit .non)))]⟩
/-- _law_within -/
def f53 : Fn := ⟨4, 8, [(.ife (.cmp .gt (.var 3) (.lit (.int (80)))) [(.ret (some (.lit (.bl true))))] []), (.asg (.tup [(.name 4), (.name 5)]) (.call 50 [(.var 1), (.var 2)])), (.ret (some (.or (.cmp .eq (.var 5) (.var 0)) (.cmp .ne (.comp (.var 7) (.name 7) (.seq (.var 4)) (some (.call 53 [(.var 0), (.var 7), (.var 2), (.bin .add (.var 3) (.lit (.int (1))))])) [6, 7]) (.lst [])))))]⟩
/-- _law_heard -/
def f54 : Fn := ⟨3, 3, [(.try_ [(.ife (.cmp .eq (.var 0) (.lit (.int (0)))) [(.ret (some (.call 32 [(.var 1)])))] []), (.ret (some (.ife (.cmp .eq (.var 0) (.lit (.int (1)))) (.call 33 [(.var 1), (.var 2)]) (.call 37 [(.var 1), (.var 2)]))))] [(1, [(.ret (some (.lit .non)))]), (2, [(.ret (some (.lit (.str ⟨#[110, 111, 110, 101]⟩))))])])]⟩
/-- _law_plain_so -/
def f55 : Fn := ⟨1, 4, [(.asg (.name 1) (.call 48 [(.var 0)])), (.ret (some (.bl .tuple [(.comp (.call 49 [(.var 3), (.var 1)]) (.name 3) (.seq (.var 0)) none [2, 3])])))]⟩
/-- _law_row_right -/
def f56 : Fn := ⟨2, 15, [(.asg (.name 3) (.comp (.tup [(.var 10), (.var 2)]) (.tup [(.name 10), (.name 2)]) (.zip (.var 1) (.slice (.var 1) (some (.lit (.int (1)))) none)) none [9, 10, 2])), (.asg (.tup [(.name 4), (.name 5)]) (.tup [(.call 52 [(.var 3)]), (.call 54 [(.lit (.int (0))), (.bl .tuple [(.var 3)]), (.lit .non)])])), (.ife (.cmp .ne (.cmp .isN (.var 5) (.lit .non)) (.cmp .isN (.var 4) (.lit .non))) [(.ret (some (.lit (.bl false))))] []), (.asg (.name 6) (.bl .tuple [(.comp (.ife (.cmp .eq (.call 41 [(.var 0), (.lit (.int (2)))]) (.lit (.int (0)))) (.tup [(.ix (.var 11) (.lit (.int (1)))), (.ix (.var 11) (.lit (.int (0))))]) (.var 11)) (.name 11) (.seq (.call 43 [(.var 0), (.var 3), (.bl .len [(.var 3)])])) none [9, 11])])), (.asg (.name 2) (.call 54 [(.lit (.int (0))), (.call 44 [(.var 6)]), (.lit .non)])), (.ife (.cmp .ne (.cmp .isN (.var 2) (.lit .non)) (.cmp .isN (.var 5) (.lit .non))) [(.ret (some (.lit (.bl false))))] []), (.ife (.cmp .isN (.var 5) (.lit .non)) [(.ret (some (.or (.cmp .gt (.bl .len [(.var 1)]) (.lit (.int (2)))) (.cmp .isN (.call 54 [(.lit (.int (1))), (.ix (.var 1) (.lit (.int (0)))), (.ix (.var 1) (.lit (.int (1))))]) (.lit .non)))))] []), (.asg (.name 7) (.comp (.call 51 [(.var 11), (.var 4), (.tup [])]) (.name 11) (.seq (.var 1)) none [9, 11])), (.asg (.name 8) (.comp (.call 23 [(.var 11), (.var 5)]) (.name 11) (.seq (.var 1)) none [9, 11])), (.ife (.or (.cmp .ne (.var 7) (.bin .mul (.lst [(.ix (.var 7) (.lit (.int (0))))]) (.bl .len [(.var 7)]))) (.or (.cmp .ne (.var 8) (.bin .mul (.lst [(.ix (.var 8) (.lit (.int (0))))]) (.bl .len [(.var 8)]))) (.not (.call 20 [(.var 5)])))) [(.ret (some (.lit (.bl false))))] []), (.ife (.or (.cmp .ne (.call 55 [(.tup [(.ix (.var 8) (.lit (.int (0))))])]) (.call 55 [(.tup [(.ix (.var 7) (.lit (.int (0))))])])) (.cmp .ne (.call 19 [(.call 23 [(.ix (.var 1) (.lit (.int (0)))), (.var 2)])]) (.call 19 [(.ix (.var 8) (.lit (.int (0))))]))) [(.ret (some (.lit (.bl false))))] []), (.ife (.or (.cmp .ne (.comp (.var 12) (.tup [(.name 12), (.name 11)]) (.seq (.var 5)) (some (.cmp .ne (.comp (.var 14) (.tup [(.name 13), (.name 14)]) (.seq (.var 5)) (some (.cmp .in_ (.var 12) (.call 47 [(.var 14)]))) [9, 13, 14]) (.lst []))) [9, 12, 11]) (.lst [])) (.cmp .ne (.call 25 [(.var 5), (.var 5)]) (.var 5))) [(.ret (some (.lit (.bl false))))] []), (.ret (some (.call 57 [(.var 0), (.var 1), (.var 5), (.ix (.var 8) (.lit (.int (0))))])))]⟩
/-- _law_general_right -/
def f57 : Fn := ⟨4, 10, [(.asg (.name 4) (.bl .tuple [(.comp (.tup [(.var 8), (.call 45 [(.var 0), (.lit (.int (2))), (.lit (.int (3)))])]) (.name 8) (.seq (.bl .sortset [(.call 47 [(.var 3)])])) none [7, 8])])), (.asg (.name 5) (.call 25 [(.var 2), (.var 4)])), (.asg (.name 6) (.comp (.call 23 [(.var 9), (.var 5)]) (.name 9) (.seq (.var 1)) none [7, 9])), (.ife (.or (.cmp .ne (.var 6) (.bin .mul (.lst [(.ix (.var 6) (.lit (.int (0))))]) (.bl .len [(.var 6)]))) (.or (.cmp .ne (.ix (.var 6) (.lit (.int (0)))) (.call 23 [(.var 3), (.var 4)])) (.or (.not (.call 35 [(.var 3), (.ix (.var 6) (.lit (.int (0))))])) (.not (.call 39 [(.var 1), (.bl .tuple [(.var 6)])]))))) [(.ret (some (.lit (.bl false))))] []), (.ife (.cmp .ne (.call 54 [(.lit (.int (2))), (.var 3), (.ix (.var 6) (.lit (.int (0))))]) (.var 4)) [(.ret (some (.lit (.bl false))))] []), (.ret (some (.or (.cmp .gt (.bl .len [(.var 1)]) (.lit (.int (2)))) (.cmp .eq (.call 54 [(.lit (.int (1))), (.ix (.var 1) (.lit (.int (0)))), (.ix (.var 1) (.lit (.int (1))))]) (.call 19 [(.var 3)])))))]⟩
/-- law -/
def f58 : Fn := ⟨1, 10, [(.asg (.name 1) (.call 40 [(.call 42 [(.var 0), (.lit (.int (1)))]), (.lit (.int (0)))])), (.for_ (.name 2) (.rng1 (.lit (.int (4)))) [(.asg (.name 3) (.bl .tuple [(.comp (.call 45 [(.var 1), (.lit (.int (4))), (.lit (.int (5)))]) (.name 9) (.rng1 (.bin .add (.lit (.int (2))) (.call 41 [(.var 1), (.lit (.int (2)))]))) none [8, 9])])), (.ife (.not (.call 56 [(.var 1), (.var 3)])) [(.ret (some (.lit (.bl false))))] []), (.asg (.tup [(.name 4), (.name 5)]) (.tup [(.call 45 [(.var 1), (.lit (.int (4))), (.lit (.int (3)))]), (.call 45 [(.var 1), (.lit (.int (4))), (.lit (.int (3)))])])), (.asg (.name 6) (.call 49 [(.var 5), (.bl .dict [(.comp (.tup [(.var 9), (.bin .add (.var 9) (.lit (.int (7))))]) (.name 9) (.rng1 (.lit (.int (3)))) none [8, 9])])])), (.ife (.or (.cmp .ne (.call 16 [(.var 5), (.bl .tuple [(.comp (.tup [(.var 9), (.bin .add (.var 9) (.lit (.int (7))))]) (.name 9) (.rng1 (.lit (.int (3)))) none [8, 9])])]) (.var 6)) (.cmp .ne (.comp (.var 9) (.name 9) (.seq (.call 13 [(.var 6)])) (some (.cmp .in_ (.var 9) (.call 13 [(.var 4)]))) [8, 9]) (.lst []))) [(.ret (some (.lit (.bl false))))] []), (.asg (.name 7) (.call 11 [(.tup [(.var 4)]), (.var 6)])), (.ife (.or (.not (.call 35 [(.tup [(.tup []), (.lit (.int (0)))]), (.var 7)])) (.or (.cmp .ne (.call 54 [(.lit (.int (2))), (.tup [(.tup []), (.lit (.int (4)))]), (.var 7)]) (.tup [(.tup [(.lit (.int (4))), (.var 7)])])) (.cmp .ne (.cmp .isN (.call 54 [(.lit (.int (1))), (.var 4), (.var 6)]) (.lit .non)) (.cmp .isN (.call 52 [(.lst [(.tup [(.var 4), (.var 6)])])]) (.lit .non))))) [(.ret (some (.lit (.bl false))))] [])]), (.ret (some (.lit (.bl true))))]⟩
def pg : Pg := ⟨[f0, f1, f2, f3, f4, f5, f6, f7, f8, f9, f10, f11, f12, f13, f14, f15, f16, f17, f18, f19, f20, f21, f22, f23, f24, f25, f26, f27, f28, f29, f30, f31, f32, f33, f34, f35, f36, f37, f38, f39, f40, f41, f42, f43, f44, f45, f46, f47, f48, f49, f50, f51, f52, f53, f54, f55, f56, f57, f58], [⟨(some 26), [(0, 26), (1, 27), (2, 28), (3, 29), (4, 30), (5, 31)]⟩], 3⟩
end P79
end
section
set_option linter.all false
/-! W0: steps of the evaluator, as rules -/
namespace W79
open PySem Rf
section
variable {P : Pg} {C : CallF} {L n : Nat} {σ : Rf.Loc} {st : Sto} {V : Ev}
@[simp] theorem big_0 : 0 ≤ big := by decide
@[simp] theorem big_1 : 1 ≤ big := by decide
@[simp] theorem big_2 : 2 ≤ big := by decide
@[simp] theorem big_3 : 3 ≤ big := by decide
@[simp] theorem b_addI (i j : Int) (st : Sto) : binop .add (.int i) (.int j) st = .ok (.int (i + j)) st := rfl
@[simp] theorem b_subI (i j : Int) (st : Sto) : binop .sub (.int i) (.int j) st = .ok (.int (i - j)) st := rfl
@[simp] theorem b_addT (a b : List PV) (st : Sto) : binop .add (.tup a) (.tup b) st = if a.length + b.length ≤ big then .ok (.tup (a ++ b)) st else .stuck := rfl
@[simp] theorem b_mulI (i j : Int) (st : Sto) : binop .mul (.int i) (.int j) st = if mulOk i j then .ok (.int (i * j)) st else .stuck := rfl
@[simp] theorem b_fdivI (i j : Int) (st : Sto) : binop .fdiv (.int i) (.int j) st = if 0 < j ∧ j < 1073741824 then .ok (.int (i / j)) st else .stuck := rfl
@[simp] theorem b_modI (i j : Int) (st : Sto) : binop .mod (.int i) (.int j) st = if 0 < j then .ok (.int (i % j)) st else .stuck := rfl
@[simp] theorem it_0 (x : PV) (r : List PV) (st : Sto) : item (.tup (x :: r)) (.int 0) st = some x := by simp [item, atI, ixOf]
@[simp] theorem it_1 (x y : PV) (r : List PV) (st : Sto) : item (.tup (x :: y :: r)) (.int 1) st = some y := by
  simp [item, atI, ixOf]
@[simp] theorem rb_ok {α β : Type} (a : α) (st : Sto) (f : α → Sto → R β) : (R.ok a st).bind f = f a st := rfl
@[simp] theorem cp_eq (x y : PV) (st : Sto) : cmpop .eq x y st = eqD x y st := rfl
@[simp] theorem cp_ne (x y : PV) (st : Sto) : cmpop .ne x y st = (eqD x y st).map (!·) := rfl
@[simp] theorem cp_lt (i j : Int) (st : Sto) : cmpop .lt (.int i) (.int j) st = some (decide (i < j)) := rfl
@[simp] theorem cp_le (i j : Int) (st : Sto) : cmpop .le (.int i) (.int j) st = some (decide (i ≤ j)) := rfl
@[simp] theorem cp_gt (i j : Int) (st : Sto) : cmpop .gt (.int i) (.int j) st = some (decide (j < i)) := rfl
@[simp] theorem cp_ge (i j : Int) (st : Sto) : cmpop .ge (.int i) (.int j) st = some (decide (j ≤ i)) := rfl
@[simp] theorem cp_in (x y : PV) (st : Sto) : cmpop .in_ x y st = within x y st := rfl
@[simp] theorem cp_ni (x y : PV) (st : Sto) : cmpop .notIn x y st = (within x y st).map (!·) := rfl
@[simp] theorem eqD_int (i j : Int) (st : Sto) : eqD (.int i) (.int j) st = some (decide (i = j)) := by
  have : (i == j) = decide (i = j) := by by_cases h : i = j <;> simp [h]
  exact congrArg some this
@[simp] theorem rb_exc {α β : Type} (c : Nat) (fs : List PV) (st : Sto) (f : α → Sto → R β) : (R.exc c fs st : R α).bind f = .exc c fs st := rfl
@[simp] theorem rf_ok {α : Type} (a : α) (st : Sto) (σ : Rf.Loc) (f : α → Sto → Fl) : (R.ok a st).fl σ f = f a st := rfl
@[simp] theorem rf_exc {α : Type} (c : Nat) (fs : List PV) (st : Sto) (σ : Rf.Loc) (f : α → Sto → Fl) : (R.exc c fs st : R α).fl σ f = .exc c fs σ st := rfl
@[simp] theorem nx_ok {α : Type} (a : α) (st : Sto) : noexc (R.ok a st) = .ok a st := rfl
@[simp] theorem o_some {α : Type} (a : α) (st : Sto) : oR (some a) st = .ok a st := rfl
@[simp] theorem ev_e (e : Ex) : (evN P C L (n + 1)).e e = stepE P C L (evN P C L n) e := rfl
@[simp] theorem ev_c (e : Ex) : (evN P C L (n + 1)).c e = stepC (evN P C L n) L e := rfl
@[simp] theorem ev_t (e : Tg) : (evN P C L (n + 1)).t e = stepT P (evN P C L n) e := rfl
@[simp] theorem ev_s (e : List Sm) : (evN P C L (n + 1)).s e = stepSs P (evN P C L n) L e := rfl
/-! expressions -/
@[simp] theorem e_var (i : Nat) : stepE P C L V (.var i) σ st = (match σ[i]? with | some (some v) => .ok v st | _ => .stuck) := rfl
@[simp] theorem e_lit (v : PV) : stepE P C L V (.lit v) σ st = .ok v st := rfl
@[simp] theorem e_tup (es : List Ex) : stepE P C L V (.tup es) σ st = (evs V.e es σ st).bind fun vs st1 => if vs.length ≤ big then .ok (.tup vs) st1 else .stuck := rfl
@[simp] theorem e_lst (es : List Ex) : stepE P C L V (.lst es) σ st = (evs V.e es σ st).bind fun vs st1 => if vs.length ≤ big then .ok (.obj st1.length) (st1 ++ [.lst vs]) else .stuck := rfl
@[simp] theorem e_dnew : stepE P C L V .dnew σ st = .ok (.obj st.length) (st ++ [.dct false []]) := rfl
@[simp] theorem e_bin (op : BOp) (a b : Ex) : stepE P C L V (.bin op a b) σ st = (V.e a σ st).bind fun x st1 => (V.e b σ st1).bind fun y st2 => binop op x y st2 := rfl
@[simp] theorem e_cmp (op : COp) (a b : Ex) : stepE P C L V (.cmp op a b) σ st = (V.e a σ st).bind fun x st1 => (V.e b σ st1).bind fun y st2 => (oR (cmpop op x y st2) st2).bind fun c st3 => .ok (.bl c) st3 := rfl
@[simp] theorem e_not (a : Ex) : stepE P C L V (.not a) σ st = (tst V.e a σ st).bind fun c st1 => .ok (.bl (!c)) st1 := rfl
@[simp] theorem e_and (a b : Ex) : stepE P C L V (.and a b) σ st = (V.e a σ st).bind fun x st1 => (oR (Rf.truthy x st1) st1).bind fun c st2 => match c with
    | true => V.e b σ st2
    | false => .ok x st2 := rfl
@[simp] theorem e_or (a b : Ex) : stepE P C L V (.or a b) σ st = (V.e a σ st).bind fun x st1 => (oR (Rf.truthy x st1) st1).bind fun c st2 => match c with
    | true => .ok x st2
    | false => V.e b σ st2 := rfl
@[simp] theorem e_ife (c a b : Ex) : stepE P C L V (.ife c a b) σ st = (tst V.e c σ st).bind fun k st1 => match k with
    | true => V.e a σ st1
    | false => V.e b σ st1 := rfl
@[simp] theorem e_ix (a b : Ex) : stepE P C L V (.ix a b) σ st = (V.e a σ st).bind fun x st1 => (V.e b σ st1).bind fun y st2 => oR (item x y st2) st2 := rfl
@[simp] theorem e_slice (a : Ex) (lo hi : Option Ex) : stepE P C L V (.slice a lo hi) σ st = (V.e a σ st).bind fun x st1 => (evO V.e lo σ st1).bind fun l st2 => (evO V.e hi σ st2).bind fun h st3 => sliceOf x l h st3 := rfl
@[simp] theorem e_fld (a : Ex) (f : Nat) : stepE P C L V (.fld a f) σ st = (V.e a σ st).bind fun x st1 => (match x with
    | .obj k => (match st1[k]? with
      | some (.ins c fs) => if c < P.cls.length then oR (lookF f fs) st1 else .stuck
      | _ => .stuck)
    | _ => .stuck) := rfl
@[simp] theorem e_call (f : Nat) (es : List Ex) : stepE P C L V (.call f es) σ st = (evs V.e es σ st).bind fun vs st1 => C f vs st1 := rfl
@[simp] theorem e_meth (o : Ex) (m : Nat) (es : List Ex) : stepE P C L V (.meth o m es) σ st = (V.e o σ st).bind fun x st1 => methR P C m x (evs V.e es σ) st1 := rfl
@[simp] theorem e_make (c : Nat) (es : List Ex) : stepE P C L V (.make c es) σ st = (evs V.e es σ st).bind fun vs st1 => makeR P C c vs st1 := rfl
@[simp] theorem e_bl1 (b : Bl) (e : Ex) : stepE P C L V (.bl b [e]) σ st = if (isNew e && blSeqB b) = true then (V.c e σ st).bind fun xs st1 => blSeq b false xs st1 else (V.e e σ st).bind fun v st1 => blOf b [v] st1 := rfl
@[simp] theorem e_bl2 (b : Bl) (e f : Ex) : stepE P C L V (.bl b [e, f]) σ st = (evs V.e [e, f] σ st).bind fun vs st1 => blOf b vs st1 := rfl
@[simp] theorem e_ext (o e : Ex) : stepE P C L V (.bm o .extend [e]) σ st = if isNew e = true then (V.e o σ st).bind fun x st1 => if bmTy .extend x st1 = true then (V.c e σ st1).bind fun ys st2 => extR x ys st2 else .stuck
      else (V.e o σ st).bind fun x st1 => if bmTy .extend x st1 = true then (evs V.e [e] σ st1).bind fun vs st2 => bmOf .extend x vs st2 else .stuck := rfl
@[simp] theorem e_app (o : Ex) (es : List Ex) : stepE P C L V (.bm o .append es) σ st = (V.e o σ st).bind fun x st1 => if bmTy .append x st1 = true then (evs V.e es σ st1).bind fun vs st2 => bmOf .append x vs st2 else .stuck := by cases es <;> rfl
@[simp] theorem e_pop (o : Ex) : stepE P C L V (.bm o .pop []) σ st = (V.e o σ st).bind fun x st1 => if bmTy .pop x st1 = true then (evs V.e [] σ st1).bind fun vs st2 => bmOf .pop x vs st2 else .stuck := rfl
@[simp] theorem e_popAt (o e : Ex) : stepE P C L V (.bm o .popAt [e]) σ st = (V.e o σ st).bind fun x st1 => if bmTy .popAt x st1 = true then (evs V.e [e] σ st1).bind fun vs st2 => bmOf .popAt x vs st2 else .stuck := rfl
@[simp] theorem e_get2 (o e f : Ex) : stepE P C L V (.bm o .get2 [e, f]) σ st = (V.e o σ st).bind fun x st1 => if bmTy .get2 x st1 = true then (evs V.e [e, f] σ st1).bind fun vs st2 => bmOf .get2 x vs st2 else .stuck := rfl
@[simp] theorem e_isin (a : Ex) (ks : List Kd) : stepE P C L V (.isin a ks) σ st = (V.e a σ st).bind fun x st1 => (oR (isin x st1 ks) st1).bind fun c st2 => .ok (.bl c) st2 := rfl
@[simp] theorem e_comp (elt : Ex) (tg : Tg) (it : Itr) (ifs : Option Ex) (own : List Nat) : stepE P C L V (.comp elt tg it ifs own) σ st = (stepC V L (.comp elt tg it ifs own) σ st).bind fun xs st2 => .ok (.obj st2.length) (st2 ++ [.lst xs]) := rfl
@[simp] theorem c_comp (elt : Ex) (tg : Tg) (it : Itr) (ifs : Option Ex) (own : List Nat) : stepC V L (.comp elt tg it ifs own) σ st = (stepW V it σ st).bind fun w st1 => compGo V elt tg ifs (wipe σ own) L w [] st1 := rfl
@[simp] theorem c_lst (es : List Ex) : stepC V L (.lst es) σ st = (evs V.e es σ st).bind fun vs st1 => if vs.length ≤ big then .ok vs st1 else .stuck := rfl
@[simp] theorem s_nil {W : Ex → Rf.Loc → Sto → R PV} : evs W [] σ st = .ok [] st := rfl
@[simp] theorem s_cons {W : Ex → Rf.Loc → Sto → R PV} (e : Ex) (r : List Ex) : evs W (e :: r) σ st = (W e σ st).bind fun v st1 => (evs W r σ st1).bind fun vs st2 => .ok (v :: vs) st2 := rfl
@[simp] theorem o_none {W : Ex → Rf.Loc → Sto → R PV} : evO W none σ st = .ok none st := rfl
@[simp] theorem o_so {W : Ex → Rf.Loc → Sto → R PV} (e : Ex) : evO W (some e) σ st = (W e σ st).bind fun v st1 => match v with
    | .int i => .ok (some i) st1
    | _ => .stuck := rfl
@[simp] theorem t_st {W : Ex → Rf.Loc → Sto → R PV} (e : Ex) : tst W e σ st = (W e σ st).bind fun v st1 => oR (Rf.truthy v st1) st1 := rfl
/-! walks -/
@[simp] theorem w_seq (e : Ex) : stepW V (.seq e) σ st = (srcOf V e σ st).bind fun s st1 => .ok (.one s.2) st1 := rfl
@[simp] theorem w_rng (a : Ex) : stepW V (.rng1 a) σ st = (V.e a σ st).bind fun v st1 => (match v with
    | .int j => if -(2 ^ 62) ≤ j ∧ j < 2 ^ 62 then .ok (.rng 0 j.toNat) st1 else .stuck
    | _ => .stuck) := rfl
@[simp] theorem w_enum (a : Ex) : stepW V (.enum a) σ st = (srcOf V a σ st).bind fun s st1 => if s.1 = false then .ok (.enum 0 s.2) st1 else .stuck := rfl
@[simp] theorem w_zip (a b : Ex) : stepW V (.zip a b) σ st = (srcOf V a σ st).bind fun s st1 => (srcOf V b σ st1).bind fun t st2 => if s.1 = t.1 ∧ s.2.okB st2 = true then .ok (.zip s.2 t.2) st2 else .stuck := rfl
/-- a source that is an old value -/
def srcE (V : Ev) (e : Ex) (σ : Rf.Loc) (st : Sto) : R (Bool × Sr) := (V.e e σ st).bind fun v st1 => (match v with
      | .tup xs => .ok (true, .fix xs) st1
      | .rol xs => .ok (false, .fix xs) st1
      | .obj k => (match st1[k]? with
        | some (.lst _) => .ok (false, .live k 0) st1
        | _ => .stuck)
      | _ => .stuck)
def srcN (V : Ev) (e : Ex) (σ : Rf.Loc) (st : Sto) : R (Bool × Sr) := (V.c e σ st).bind fun xs st1 => .ok (false, .fix xs) st1
@[simp] theorem srcE_eq (e : Ex) : srcE V e σ st = (V.e e σ st).bind fun v st1 => (match v with
      | .tup xs => .ok (true, .fix xs) st1
      | .rol xs => .ok (false, .fix xs) st1
      | .obj k => (match st1[k]? with
        | some (.lst _) => .ok (false, .live k 0) st1
        | _ => .stuck)
      | _ => .stuck) := rfl
@[simp] theorem srcN_eq (e : Ex) : srcN V e σ st = (V.c e σ st).bind fun xs st1 => .ok (false, .fix xs) st1 := rfl
@[simp] theorem sr_var (i : Nat) : srcOf V (.var i) σ st = srcE V (.var i) σ st := rfl
@[simp] theorem sr_lit (i : PV) : srcOf V (.lit i) σ st = srcE V (.lit i) σ st := rfl
@[simp] theorem sr_tup (es : List Ex) : srcOf V (.tup es) σ st = srcE V (.tup es) σ st := rfl
@[simp] theorem sr_bin (o : BOp) (a b : Ex) : srcOf V (.bin o a b) σ st = srcE V (.bin o a b) σ st := rfl
@[simp] theorem sr_ife (c a b : Ex) : srcOf V (.ife c a b) σ st = srcE V (.ife c a b) σ st := rfl
@[simp] theorem sr_ix (a b : Ex) : srcOf V (.ix a b) σ st = srcE V (.ix a b) σ st := rfl
@[simp] theorem sr_slice (a : Ex) (l h : Option Ex) : srcOf V (.slice a l h) σ st = srcE V (.slice a l h) σ st := rfl
@[simp] theorem sr_fld (a : Ex) (f : Nat) : srcOf V (.fld a f) σ st = srcE V (.fld a f) σ st := rfl
@[simp] theorem sr_call (f : Nat) (es : List Ex) : srcOf V (.call f es) σ st = srcE V (.call f es) σ st := rfl
@[simp] theorem sr_meth (o : Ex) (m : Nat) (es : List Ex) : srcOf V (.meth o m es) σ st = srcE V (.meth o m es) σ st := rfl
@[simp] theorem sr_bl (m : Bl) (es : List Ex) : srcOf V (.bl m es) σ st = srcE V (.bl m es) σ st := rfl
@[simp] theorem sr_comp (elt : Ex) (tg : Tg) (it : Itr) (ifs : Option Ex) (own : List Nat) : srcOf V (.comp elt tg it ifs own) σ st = srcN V (.comp elt tg it ifs own) σ st := rfl
@[simp] theorem sr_lst (es : List Ex) : srcOf V (.lst es) σ st = srcN V (.lst es) σ st := rfl
@[simp] theorem okB_fix (xs : List PV) : (Sr.fix xs).okB st = true := rfl
@[simp] theorem n_comp (elt : Ex) (tg : Tg) (it : Itr) (ifs : Option Ex) (own : List Nat) : isNew (.comp elt tg it ifs own) = true := rfl
@[simp] theorem n_lst (es : List Ex) : isNew (.lst es) = true := rfl
@[simp] theorem n_var (i : Nat) : isNew (.var i) = false := rfl
@[simp] theorem n_lit (i : PV) : isNew (.lit i) = false := rfl
@[simp] theorem n_tup (i : List Ex) : isNew (.tup i) = false := rfl
@[simp] theorem n_dnew : isNew .dnew = false := rfl
@[simp] theorem n_bin (o : BOp) (a b : Ex) : isNew (.bin o a b) = false := rfl
@[simp] theorem n_cmp (o : COp) (a b : Ex) : isNew (.cmp o a b) = false := rfl
@[simp] theorem n_not (a : Ex) : isNew (.not a) = false := rfl
@[simp] theorem n_and (a b : Ex) : isNew (.and a b) = false := rfl
@[simp] theorem n_or (a b : Ex) : isNew (.or a b) = false := rfl
@[simp] theorem n_ife (c a b : Ex) : isNew (.ife c a b) = false := rfl
@[simp] theorem n_ix (a b : Ex) : isNew (.ix a b) = false := rfl
@[simp] theorem n_slice (a : Ex) (l h : Option Ex) : isNew (.slice a l h) = false := rfl
@[simp] theorem n_fld (a : Ex) (f : Nat) : isNew (.fld a f) = false := rfl
@[simp] theorem n_call (f : Nat) (es : List Ex) : isNew (.call f es) = false := rfl
@[simp] theorem n_meth (o : Ex) (m : Nat) (es : List Ex) : isNew (.meth o m es) = false := rfl
@[simp] theorem n_make (m : Nat) (es : List Ex) : isNew (.make m es) = false := rfl
@[simp] theorem n_bl (m : Bl) (es : List Ex) : isNew (.bl m es) = false := rfl
@[simp] theorem n_bm (o : Ex) (m : Bm) (es : List Ex) : isNew (.bm o m es) = false := rfl
@[simp] theorem n_isin (o : Ex) (ks : List Kd) : isNew (.isin o ks) = false := rfl
@[simp] theorem wipe_nil : wipe σ [] = σ := rfl
@[simp] theorem wipe_cons (v : Nat) (vs : List Nat) : wipe σ (v :: vs) = (wipe σ vs).set v none := rfl
/-! targets -/
@[simp] theorem t_name (i : Nat) (v : PV) : stepT P V (.name i) v σ st = .ok (σ.set i (some v)) st := rfl
@[simp] theorem t_fld (o : Ex) (f : Nat) (v : PV) : stepT P V (.fld o f) v σ st = (V.e o σ st).bind fun x st1 => (match x with
    | .obj k => (match st1[k]? with
      | some (.ins c fs) => if fs.length < 1000 ∧ c < P.cls.length then .ok σ (st1.set k (.ins c (putF f v fs))) else .stuck
      | _ => .stuck)
    | _ => .stuck) := rfl
@[simp] theorem t_sub (o i : Ex) (v : PV) : stepT P V (.sub o i) v σ st = (V.e o σ st).bind fun x st1 => (V.e i σ st1).bind fun y st2 => (match setItem x y v st2 with
    | some st3 => .ok σ st3
    | none => .stuck) := rfl
@[simp] theorem t_tup (ts : List Tg) (vs : List PV) : stepT P V (.tup ts) (.tup vs) σ st = if vs.length = ts.length then bindAll V.t ts vs σ st else .stuck := rfl
@[simp] theorem ba_nil {T : Tg → PV → Rf.Loc → Sto → R Rf.Loc} : bindAll T [] [] σ st = .ok σ st := rfl
@[simp] theorem ba_cons {T : Tg → PV → Rf.Loc → Sto → R Rf.Loc} (t : Tg) (ts : List Tg) (v : PV) (vs : List PV) : bindAll T (t :: ts) (v :: vs) σ st = (noexc (T t v σ st)).bind fun σ1 st1 => bindAll T ts vs σ1 st1 := rfl
/-! statements -/
/-- one statement, then the rest -/
def fseq (f : Fl) (k : Rf.Loc → Sto → Fl) : Fl := match f with
  | .nx σ st => k σ st
  | f => f
@[simp] theorem fs_nx (k : Rf.Loc → Sto → Fl) : fseq (.nx σ st) k = k σ st := rfl
@[simp] theorem fs_rt (v : PV) (k : Rf.Loc → Sto → Fl) : fseq (.rt v st) k = .rt v st := rfl
@[simp] theorem fs_bk (k : Rf.Loc → Sto → Fl) : fseq (.bk σ st) k = .bk σ st := rfl
@[simp] theorem fs_exc (c : Nat) (fs : List PV) (k : Rf.Loc → Sto → Fl) : fseq (.exc c fs σ st) k = .exc c fs σ st := rfl
@[simp] theorem ss_nil : stepSs P V L [] σ st = .nx σ st := rfl
@[simp] theorem ss_cons (s : Sm) (r : List Sm) : stepSs P V L (s :: r) σ st = fseq (stepS P V L s σ st) fun σ1 st1 => stepSs P V L r σ1 st1 := by
  simp only [stepSs, fseq]
  all_goals (cases stepS P V L s σ st <;> rfl)
@[simp] theorem s_asg (t : Tg) (e : Ex) : stepS P V L (.asg t e) σ st = (V.e e σ st).fl σ fun v st1 => (V.t t v σ st1).fl σ fun σ1 st2 => .nx σ1 st2 := rfl
@[simp] theorem s_ex (e : Ex) : stepS P V L (.ex e) σ st = (V.e e σ st).fl σ fun _ st1 => .nx σ st1 := rfl
@[simp] theorem s_ret0 : stepS P V L (.ret none) σ st = .rt .non st := rfl
@[simp] theorem s_ret (e : Ex) : stepS P V L (.ret (some e)) σ st = (V.e e σ st).fl σ fun v st1 => .rt v st1 := rfl
@[simp] theorem s_ife (c : Ex) (a b : List Sm) : stepS P V L (.ife c a b) σ st = (tst V.e c σ st).fl σ fun k st1 => match k with
    | true => V.s a σ st1
    | false => V.s b σ st1 := rfl
@[simp] theorem s_brk : stepS P V L .brk σ st = .bk σ st := rfl
@[simp] theorem s_raise (c : Nat) (es : List Ex) : stepS P V L (.raise c es) σ st = (evs V.e es σ st).fl σ fun vs st1 => .exc c vs σ st1 := rfl
@[simp] theorem s_while (c : Ex) (b : List Sm) : stepS P V L (.while_ c b) σ st = whileGo V c b L σ st := rfl
@[simp] theorem fl_nx : flR (.nx σ st) = .ok .non st := rfl
@[simp] theorem fl_rt (v : PV) : flR (.rt v st) = .ok v st := rfl
@[simp] theorem fl_exc (c : Nat) (fs : List PV) : flR (.exc c fs σ st) = .exc c fs st := rfl
theorem lock_new {it : Ex} (h : isNew it = true) : lockAt V (.seq it) σ st = none := by simp [lockAt, h]
theorem lock_tup {e : Ex} {xs : List PV} {st1 : Sto} (h : V.e e σ st = .ok (.tup xs) st1) : lockAt V (.seq e) σ st = none := by simp only [lockAt, h]; split <;> rfl
theorem lock_lst {e : Ex} {k : Nat} {xs : List PV} {st1 : Sto} (h : V.e e σ st = .ok (.obj k) st1) (h2 : st1[k]? = some (.lst xs)) : lockAt V (.seq e) σ st = none := by simp only [lockAt, h, h2]; split <;> rfl
/-- a walk that is not over a dict -/
theorem s_for (t : Tg) (it : Itr) (b : List Sm) (h : lockAt V it σ st = none) : stepS P V L (.for_ t it b) σ st = (stepW V it σ st).fl σ fun w st1 => forGo V t b L w σ st1 := by simp [stepS, h]
@[simp] theorem lock_rng (a : Ex) : lockAt V (.rng1 a) σ st = none := rfl
@[simp] theorem lock_zip (a b : Ex) : lockAt V (.zip a b) σ st = none := rfl
@[simp] theorem lock_enum (a : Ex) : lockAt V (.enum a) σ st = none := rfl
/-! calls -/
theorem call_eq (fn : Fn) (f k : Nat) (vs : List PV) (h : P.fns[f]? = some fn) (ha : vs.length = fn.arity) :
    callN P L n (k + 1) f vs st = R.trim st.length (flR ((evN P (callN P L n k) L n).s fn.body (vs.map some ++ List.replicate (fn.slots - fn.arity) none) st)) := by
  simp [callN, h, ha]
@[simp] theorem trim_ok (v : PV) : R.trim st.length (.ok v st) = .ok v st := by simp [R.trim]
@[simp] theorem trim_exc (c : Nat) (fs : List PV) : R.trim st.length (.exc c fs st) = .exc c fs st := by simp [R.trim]
/-- objects made within are forgotten -/
theorem trim_app (v : PV) (m : Sto) (hv : PV.under st.length v = true) (hc : Sto.closed st.length st = true) : R.trim st.length (.ok v (st ++ m)) = .ok v st := by
  unfold R.trim
  simp only [List.length_append]
  split
  · rename_i h
    have : m.length = 0 := by have := Nat.eq_of_beq_eq_true h; omega
    rw [List.eq_nil_of_length_eq_zero this]; simp
  · simp [hv, hc]
theorem trim_exc_app (c : Nat) (m : Sto) (hc : Sto.closed st.length st = true) : R.trim st.length (.exc c [] (st ++ m)) = .exc c [] st := by
  unfold R.trim
  simp only [List.length_append]
  split
  · rename_i h
    have : m.length = 0 := by have := Nat.eq_of_beq_eq_true h; omega
    rw [List.eq_nil_of_length_eq_zero this]; simp
  · simp [hc, PV.unders]
/-- .. with the first objects changed -/
theorem trim_set (v : PV) (st' : Sto) (m : Sto) (hl : st'.length = st.length) (hv : PV.under st.length v = true) (hc : Sto.closed st.length st' = true) : R.trim st.length (.ok v (st' ++ m)) = .ok v st' := by
  rw [← hl] at hv hc ⊢
  exact trim_app v m hv hc
/-! walks done -/
theorem nxt_nil : (Wk.one (.fix [])).next st = some none := rfl
theorem nxt_cons (x : PV) (r : List PV) : (Wk.one (.fix (x :: r))).next st = some (some (x, .one (.fix r))) := rfl
theorem comp_map {elt : Ex} {tg : Tg} {τ : PV → Rf.Loc} {f : PV → PV} : ∀ (xs : List PV) (m : Nat) (acc : List PV), xs.length < m →
    (∀ x ∈ xs, V.t tg x σ st = .ok (τ x) st ∧ V.e elt (τ x) st = .ok (f x) st) → compGo V elt tg none σ m (.one (.fix xs)) acc st = .ok (acc.reverse ++ xs.map f) st
  | [], m + 1, acc, _, _ => by simp [compGo, nxt_nil]
  | x :: r, m + 1, acc, hm, h => by
    have h1 := h x (by simp)
    simp only [compGo, nxt_cons, h1.1, h1.2, nx_ok, rb_ok]
    rw [comp_map r m (f x :: acc) (by simpa using hm) fun y hy => h y (by simp [hy])]
    simp
theorem comp_fil {elt c : Ex} {tg : Tg} {τ : PV → Rf.Loc} {f : PV → PV} {p : PV → Bool} : ∀ (xs : List PV) (m : Nat) (acc : List PV), xs.length < m →
    (∀ x ∈ xs, V.t tg x σ st = .ok (τ x) st ∧ tst V.e c (τ x) st = .ok (p x) st ∧ (p x = true → V.e elt (τ x) st = .ok (f x) st)) →
    compGo V elt tg (some c) σ m (.one (.fix xs)) acc st = .ok (acc.reverse ++ (xs.filter p).map f) st
  | [], m + 1, acc, _, _ => by simp [compGo, nxt_nil]
  | x :: r, m + 1, acc, hm, h => by
    have h1 := h x (by simp)
    simp only [compGo, nxt_cons, h1.1, h1.2.1, nx_ok, rb_ok]
    cases hp : p x with
    | true =>
      simp only [h1.2.2 hp, nx_ok, rb_ok]
      rw [comp_fil r m (f x :: acc) (by simpa using hm) fun y hy => h y (by simp [hy])]
      simp [hp]
    | false =>
      rw [comp_fil r m acc (by simpa using hm) fun y hy => h y (by simp [hy])]
      simp [hp]
theorem comp_rng {elt : Ex} {tg : Tg} {τ : PV → Rf.Loc} {f : Int → PV} : ∀ (k : Nat) (lo : Int) (m : Nat) (acc : List PV), k < m →
    (∀ x, lo ≤ x → x < lo + k → V.t tg (.int x) σ st = .ok (τ (.int x)) st ∧ V.e elt (τ (.int x)) st = .ok (f x) st) → compGo V elt tg none σ m (.rng lo k) acc st = .ok (acc.reverse ++ (List.range k).map fun i : Nat => f (lo + i)) st
  | 0, lo, m + 1, acc, _, _ => by simp [compGo, Wk.next]
  | k + 1, lo, m + 1, acc, hm, h => by
    have h1 := h lo (Int.le_refl _) (by omega)
    simp only [compGo, Wk.next, h1.1, h1.2, nx_ok, rb_ok]
    rw [comp_rng k (lo + 1) m (f lo :: acc) (by omega) fun x h1 h2 => h x (by omega) (by omega)]
    simp [List.range_succ_eq_map, Function.comp_def, Int.add_assoc, Int.add_comm 1]
theorem comp_zip {elt : Ex} {tg : Tg} {τ : PV → PV → Rf.Loc} {f : PV → PV → PV} : ∀ (xs ys : List PV) (m : Nat) (acc : List PV), xs.length < m →
    (∀ x y, (x, y) ∈ xs.zip ys → V.t tg (.tup [x, y]) σ st = .ok (τ x y) st ∧ V.e elt (τ x y) st = .ok (f x y) st) → compGo V elt tg none σ m (.zip (.fix xs) (.fix ys)) acc st = .ok (acc.reverse ++ List.zipWith f xs ys) st
  | [], [], m + 1, acc, _, _ => by simp [compGo, Wk.next, Sr.next]
  | [], _ :: _, m + 1, acc, _, _ => by simp [compGo, Wk.next, Sr.next]
  | _ :: _, [], m + 1, acc, _, _ => by simp [compGo, Wk.next, Sr.next]
  | x :: r, y :: s, m + 1, acc, hm, h => by
    have h1 := h x y (by simp)
    simp only [compGo, Wk.next, Sr.next, h1.1, h1.2, nx_ok, rb_ok]
    rw [comp_zip r s m (f x y :: acc) (by simpa using hm) fun a b hy => h a b (by simp [hy])]
    simp
end
end W79
end
section
set_option linter.all false
/-! W1: homes as binary trees; what they are as values; comparing -/
namespace W79
open PySem Rf
/-- an atom; an arrow -/
inductive T where
  | v (n : Nat)
  | a (x y : T)
  deriving DecidableEq, Inhabited, Repr
namespace T
/-- arguments -/
def as : T → List T
  | v _ => []
  | a x y => x :: y.as
/-- the goal -/
def gl : T → Nat
  | v n => n
  | a _ y => y.gl
/-- arguments ahead of a home -/
def bd (l : List T) (e : T) : T := l.foldr T.a e
/-- how deep -/
def hd : T → Nat
  | v _ => 0
  | a x y => max (x.hd + 1) y.hd
def row : T → List Nat
  | v n => [n]
  | a x y => x.row ++ y.row
def pl : T → Nat
  | v _ => 1
  | a x y => x.pl + y.pl
@[simp] theorem as_v (n : Nat) : (v n).as = [] := rfl
@[simp] theorem as_a (x y : T) : (a x y).as = x :: y.as := rfl
@[simp] theorem gl_v (n : Nat) : (v n).gl = n := rfl
@[simp] theorem gl_a (x y : T) : (a x y).gl = y.gl := rfl
@[simp] theorem hd_v (n : Nat) : (v n).hd = 0 := rfl
@[simp] theorem hd_a (x y : T) : (a x y).hd = max (x.hd + 1) y.hd := rfl
@[simp] theorem row_v (n : Nat) : (v n).row = [n] := rfl
@[simp] theorem row_a (x y : T) : (a x y).row = x.row ++ y.row := rfl
@[simp] theorem pl_v (n : Nat) : (v n).pl = 1 := rfl
@[simp] theorem pl_a (x y : T) : (a x y).pl = x.pl + y.pl := rfl
@[simp] theorem bd_nil (e : T) : bd [] e = e := rfl
@[simp] theorem bd_cons (x : T) (l : List T) (e : T) : bd (x :: l) e = a x (bd l e) := rfl
theorem bd_app (l m : List T) (e : T) : bd (l ++ m) e = bd l (bd m e) := by simp [bd]
@[simp] theorem bd_as (l : List T) (e : T) : (bd l e).as = l ++ e.as := by induction l <;> simp_all
@[simp] theorem bd_gl (l : List T) (e : T) : (bd l e).gl = e.gl := by induction l <;> simp_all
theorem bd_self : ∀ t : T, bd t.as (v t.gl) = t
  | v n => rfl
  | a x y => by simp [bd_self y]
theorem ext' {t u : T} (h : t.as = u.as) (h2 : t.gl = u.gl) : t = u := by rw [← bd_self t, ← bd_self u, h, h2]
theorem hd_lt : ∀ {t x : T}, x ∈ t.as → x.hd < t.hd
  | v _, x, h => by simp at h
  | a y z, x, h => by
    simp only [as_a, List.mem_cons] at h
    rcases h with rfl | h
    · simp; omega
    · have := hd_lt h; simp; omega
theorem pl_pos : ∀ t : T, 0 < t.pl
  | v _ => by simp
  | a x y => by have := pl_pos x; simp; omega
theorem hd_pl : ∀ t : T, t.hd < t.pl
  | v _ => by simp
  | a x y => by have := hd_pl x; have := hd_pl y; have := pl_pos y; have := pl_pos x; simp; omega
theorem as_pl : ∀ t : T, t.as.length < t.pl
  | v _ => by simp
  | a x y => by have := as_pl y; have := pl_pos x; simp; omega
theorem row_len : ∀ t : T, t.row.length = t.pl
  | v _ => by simp
  | a x y => by simp [row_len x, row_len y]
theorem gl_row : ∀ t : T, t.gl ∈ t.row
  | v _ => by simp
  | a x y => by simp [gl_row y]
theorem row_as {t x : T} : x ∈ t.as → ∀ n ∈ x.row, n ∈ t.row := by
  induction t with
  | v n => intro h; simp at h
  | a y z _ ih =>
    intro h n hn
    simp only [as_a, List.mem_cons] at h
    rcases h with rfl | h
    · simp [hn]
    · simp [ih h n hn]
theorem row_cases {t : T} {n : Nat} (h : n ∈ t.row) : n = t.gl ∨ ∃ x ∈ t.as, n ∈ x.row := by
  induction t with
  | v m => simp at h; simp [h]
  | a y z _ ih =>
    simp only [row_a, List.mem_append] at h
    rcases h with h | h
    · exact .inr ⟨y, by simp, h⟩
    · rcases ih h with e | ⟨x, h1, h2⟩
      · exact .inl e
      · exact .inr ⟨x, by simp [h1], h2⟩
end T
/-- as values -/
def pA : T → List PV
  | .v _ => []
  | .a x y => .tup [.tup (pA x), .int x.gl] :: pA y
def pv (t : T) : PV := .tup [.tup (pA t), .int t.gl]
@[simp] theorem pA_v (n : Nat) : pA (.v n) = [] := rfl
theorem pA_map : ∀ t : T, pA t = t.as.map pv
  | .v _ => rfl
  | .a x y => by simp [pA, pA_map y, pv]
theorem pv_eq (t : T) : pv t = .tup [.tup (t.as.map pv), .int t.gl] := by rw [pv, pA_map]
theorem pv_mk (l : List T) (n : Nat) : PV.tup [.tup (l.map pv), .int n] = pv (.bd l (.v n)) := by simp [pv_eq]
@[simp] theorem pv_v (n : Nat) : pv (.v n) = .tup [.tup [], .int n] := rfl
theorem pv_inj : ∀ {t u : T}, pv t = pv u → t = u := by
  have key : ∀ (k : Nat) (t u : T), t.hd < k → pv t = pv u → t = u := by
    intro k
    induction k with
    | zero => intro t u h; omega
    | succ k ih =>
      intro t u hk h
      rw [pv_eq, pv_eq] at h
      simp only [PV.tup.injEq, List.cons.injEq, PV.int.injEq, and_true] at h
      have hl : ∀ (l m : List T), (∀ x ∈ l, x.hd < k) → l.map pv = m.map pv → l = m := by
        intro l
        induction l with
        | nil => intro m _ h; cases m <;> simp_all
        | cons x l ihl =>
          intro m hx h
          cases m with
          | nil => simp at h
          | cons y m =>
            simp only [List.map_cons, List.cons.injEq] at h
            rw [ih x y (hx x (by simp)) h.1, ihl m (fun z hz => hx z (by simp [hz])) h.2]
      refine T.ext' (hl _ _ (fun x hx => ?_) h.1) (by omega)
      have := T.hd_lt hx
      omega
  intro t u
  exact key (t.hd + 1) t u (by omega)
/-! ### data -/
mutual
def okP : Nat → PV → Bool
  | 0, _ => false
  | n + 1, .tup xs => okPs n xs
  | _ + 1, .int _ => true
  | _ + 1, .non => true
  | _ + 1, .str _ => true
  | _ + 1, _ => false
def okPs : Nat → List PV → Bool
  | _, [] => true
  | n, x :: r => okP n x && okPs n r
end
mutual
def dat : PV → PyData
  | .int i => .int i
  | .str x => .str x
  | .tup xs => .tuple (dats xs)
  | _ => .none
def dats : List PV → List PyData
  | [] => []
  | x :: r => dat x :: dats r
end
theorem dats_map : ∀ l : List PV, dats l = l.map dat
  | [] => rfl
  | x :: r => by simp [dats, dats_map r]
theorem okPs_all : ∀ {n : Nat} {l : List PV}, okPs n l = true ↔ ∀ x ∈ l, okP n x = true
  | n, [] => by simp [okPs]
  | n, x :: r => by simp [okPs, okPs_all (n := n) (l := r)]
theorem mapM_some {α β : Type} {f : α → Option β} {g : α → β} : ∀ {l : List α}, (∀ x ∈ l, f x = some (g x)) → l.mapM f = some (l.map g)
  | [], _ => rfl
  | x :: r, h => by
    rw [List.mapM_cons, h x (by simp), mapM_some fun y hy => h y (by simp [hy])]
    rfl
theorem toD_ok {st : Sto} : ∀ {n : Nat} {x : PV}, okP n x = true → toD st n x = some (dat x)
  | 0, x, h => by simp [okP] at h
  | n + 1, x, h => by
    cases x with
    | tup xs =>
      have h' : okPs n xs = true := by simpa [okP] using h
      simp only [toD, dat, dats_map]
      rw [mapM_some (g := dat) fun y hy => toD_ok (okPs_all.mp h' y hy)]
      rfl
    | int i => rfl
    | non => rfl
    | str x => rfl
    | bl b => simp [okP] at h
    | rol b => simp [okP] at h
    | obj b => simp [okP] at h
theorem okP_mono : ∀ {n m : Nat} {x : PV}, n ≤ m → okP n x = true → okP m x = true
  | 0, m, x, _, h => by simp [okP] at h
  | n + 1, 0, x, hm, h => by omega
  | n + 1, m + 1, x, hm, h => by
    cases x with
    | tup xs =>
      have h' : okPs n xs = true := by simpa [okP] using h
      show okPs m xs = true
      exact okPs_all.mpr fun y hy => okP_mono (by omega) (okPs_all.mp h' y hy)
    | int i => rfl
    | non => rfl
    | str x => rfl
    | bl b => simp [okP] at h
    | rol b => simp [okP] at h
    | obj b => simp [okP] at h
/-- equal texts do not matter here: all but texts -/
theorem eqv_dat : ∀ {n : Nat} {x y : PV}, okP n x = true → okP n y = true → (PyData.eqv (dat x) (dat y) = true ↔ x = y)
  | 0, x, y, h, _ => by simp [okP] at h
  | n + 1, x, y, h, h2 => by
    have all : ∀ (l m : List PV), (∀ z ∈ l, okP n z = true) → (∀ z ∈ m, okP n z = true) → (PyData.eqvAll (dats l) (dats m) = true ↔ l = m) := by
      intro l
      induction l with
      | nil => intro m _ _; cases m <;> simp [dats, PyData.eqvAll]
      | cons a l ih =>
        intro m h3 h4
        cases m with
        | nil => simp [dats, PyData.eqvAll]
        | cons b m =>
          simp only [dats, PyData.eqvAll, Bool.and_eq_true, List.cons.injEq]
          rw [eqv_dat (h3 a (by simp)) (h4 b (by simp)), ih m (fun z hz => h3 z (by simp [hz])) fun z hz => h4 z (by simp [hz])]
    cases x <;> cases y <;> simp [okP] at h h2 <;> simp [dat, PyData.eqv]
    rename_i xs ys
    exact all xs ys (okPs_all.mp h) (okPs_all.mp h2)
theorem eqD_ok {st : Sto} {x y : PV} (h : okP 60 x = true) (h2 : okP 60 y = true) [Decidable (x = y)] : eqD x y st = some (decide (x = y)) := by
  unfold eqD
  rw [toD_ok h, toD_ok h2]
  show some (PyData.eqv (dat x) (dat y)) = _
  congr 1
  rw [Bool.eq_iff_iff, eqv_dat h h2, decide_eq_true_iff]
theorem okP_pv : ∀ {t : T} {k : Nat}, 2 * t.hd + 2 ≤ k → okP k (pv t) = true := by
  have key : ∀ (m : Nat) (t : T) (k : Nat), t.hd < m → 2 * t.hd + 2 ≤ k → okP k (pv t) = true := by
    intro m
    induction m with
    | zero => intro t k h; omega
    | succ m ih =>
      intro t k hm hk
      obtain ⟨k, rfl⟩ : ∃ j, k = j + 2 := ⟨k - 2, by omega⟩
      rw [pv_eq]
      have : okPs k (t.as.map pv) = true := okPs_all.mpr fun x hx => by
        obtain ⟨u, hu, rfl⟩ := List.mem_map.mp hx
        have := T.hd_lt hu
        exact ih u k (by omega) (by omega)
      simp [okP, okPs, this]
  intro t k
  exact key (t.hd + 1) t k (by omega)
/-- no object within -/
theorem under_pv (n : Nat) : ∀ t : T, PV.under n (pv t) = true := by
  have key : ∀ t : T, PV.unders n (pA t) = true := by
    intro t
    induction t with
    | v m => rfl
    | a x y ih1 ih2 => simp [pA, PV.unders, PV.under, ih1, ih2]
  intro t
  simp [pv, PV.under, PV.unders, key]
/-- a list of pure values lies under any number -/
theorem unders_of {n : Nat} : ∀ {l : List PV}, (∀ x ∈ l, PV.under n x = true) → PV.unders n l = true
  | [], _ => rfl
  | x :: r, h => by
    have h2 : PV.unders n r = true := unders_of fun y hy => h y (List.mem_cons_of_mem _ hy)
    simp [PV.unders, h x (by simp), h2]
theorem eqD_pv {st : Sto} {t u : T} (h : t.hd ≤ 29) (h2 : u.hd ≤ 29) : eqD (pv t) (pv u) st = some (decide (t = u)) := by
  haveI : Decidable (pv t = pv u) := Classical.propDecidable _
  rw [eqD_ok (okP_pv (by omega)) (okP_pv (by omega))]
  congr 1
  rw [Bool.eq_iff_iff, decide_eq_true_iff, decide_eq_true_iff]
  exact ⟨pv_inj, fun e => by rw [e]⟩
end W79
end
section
set_option linter.all false
/-! W2: what the program's small functions do -/
namespace W79
open PySem Rf
abbrev cl (j : Nat) : CallF := callN P79.pg 100000 200 j
/-- numbers and tuples alone, at most so deep -/
def puB : Nat → PV → Bool
  | n + 1, .tup xs => decide (xs.length < 99999) && xs.all (puB n)
  | _ + 1, .int _ => true
  | _, _ => false
/-- a list of lists that stands for a tuple of tuples -/
inductive Ls (st : Sto) : PV → PV → Prop
  | int (i : Int) : Ls st (.int i) (.int i)
  | lst {k : Nat} {vs xs : List PV} (h : st[k]? = some (.lst vs)) (l : vs.length = xs.length) (r : ∀ i (hi : i < vs.length), Ls st vs[i] (xs[i]'(l ▸ hi))) : Ls st (.obj k) (.tup xs)
def T.ok (t : T) : Prop := t.hd ≤ 12 ∧ t.pl ≤ 2000
theorem T.ok.sub {t x : T} (h : t.ok) (hx : x ∈ t.as) : x.ok := by
  have h1 := T.hd_lt hx
  refine ⟨by have := h.1; omega, ?_⟩
  have h2 := h.2
  have key : ∀ t : T, x ∈ t.as → x.pl ≤ t.pl := by
    intro t
    induction t with
    | v m => intro h; simp at h
    | a y z _ ih =>
      intro h
      simp only [T.as_a, List.mem_cons] at h
      rcases h with rfl | h
      · simp
      · have := ih h; simp; omega
  have := key t hx
  omega
theorem T.ok.len {t : T} (h : t.ok) : t.as.length < 2000 := by have := T.as_pl t; have := h.2; omega
theorem puB_pv : ∀ {k : Nat} {t : T}, t.ok → 2 * t.hd + 2 ≤ k → puB k (pv t) = true := by
  have key : ∀ (m : Nat) (t : T) (k : Nat), t.hd < m → t.ok → 2 * t.hd + 2 ≤ k → puB k (pv t) = true := by
    intro m
    induction m with
    | zero => intro t k h; omega
    | succ m ih =>
      intro t k hm ho hk
      obtain ⟨k, rfl⟩ : ∃ j, k = j + 2 := ⟨k - 2, by omega⟩
      have h1 : ∀ x ∈ t.as, puB k (pv x) = true := fun x hx => by
        have := T.hd_lt hx
        exact ih x k (by omega) (ho.sub hx) (by omega)
      have h2 := ho.len
      rw [pv_eq]
      have h3 : t.as.length < 99999 := by omega
      simp only [puB, List.length_cons, List.length_nil, List.all_cons, List.all_nil, Bool.and_true, List.length_map, List.all_map, h3, decide_true, Bool.true_and, Bool.and_eq_true, decide_eq_true_eq]
      exact ⟨by omega, List.all_eq_true.mpr fun x hx => h1 x hx⟩
  intro k t
  exact key (t.hd + 1) t k (by omega)
section
variable {j : Nat} {st : Sto}
theorem is_number_int (i : Int) : cl (j + 1) 1 [.int i] st = .ok (.bl true) st := by
  rw [cl, call_eq P79.f1 1 j _ rfl rfl]
  simp [P79.f1, isin, kindOf, Rf.truthy]
theorem is_count_nat (i : Nat) : cl (j + 2) 2 [.int i] st = .ok (.bl true) st := by
  rw [cl, call_eq P79.f2 2 (j + 1) _ rfl rfl]
  simp [P79.f2, Rf.truthy, is_number_int]
theorem is_tuple_of (xs : List PV) (n : Int) : cl (j + 1) 3 [.tup xs, .int n] st = .ok (.bl (decide ((xs.length : Int) = n))) st := by
  rw [cl, call_eq P79.f3 3 j _ rfl rfl]
  simp [P79.f3, Rf.truthy, isin, kindOf, blSeqB, blOf, blSeq]
theorem tupled_pu : ∀ {j : Nat} {x : PV} {st : Sto}, puB j x = true → cl j 0 [x] st = .ok x st
  | 0, x, st, h => by cases x <;> simp [puB] at h
  | j + 1, x, st, h => by
    rw [cl, call_eq P79.f0 0 j _ rfl rfl]
    cases x with
    | int i => simp [P79.f0, isin, kindOf, Rf.truthy]
    | tup xs =>
      simp only [puB, Bool.and_eq_true, decide_eq_true_eq] at h
      have h2 := List.all_eq_true.mp h.2
      simp [P79.f0, isin, kindOf, Rf.truthy, blSeqB]
      rw [comp_map (τ := fun x => [some (.tup xs), none, some x]) (f := id) xs 100000 [] (by omega) (fun x hx => ⟨by simp, by simpa using tupled_pu (h2 x hx)⟩)]
      simp [blSeq]
    | _ => simp [puB] at h
theorem sure_tuple_pu {xs : List PV} (h : puB j (.tup xs) = true) : cl (j + 1) 6 [.tup xs] st = .ok (.tup xs) st := by
  rw [cl, call_eq P79.f6 6 j _ rfl rfl]
  simp [P79.f6, tupled_pu h, isin, kindOf, Rf.truthy]
theorem is_home_pv : ∀ {j : Nat} {t : T} {st : Sto}, t.ok → t.hd + 3 ≤ j → cl j 7 [pv t] st = .ok (.bl true) st
  | 0, t, st, _, h => by omega
  | j + 1, t, st, ho, h => by
    rw [cl, call_eq P79.f7 7 j _ rfl rfl]
    obtain ⟨j, rfl⟩ : ∃ i, j = i + 2 := ⟨j - 2, by omega⟩
    have hl := ho.len
    simp [P79.f7, pv_eq, is_tuple_of, isin, kindOf, Rf.truthy, is_count_nat, blSeqB]
    rw [comp_map (τ := fun x => [some (.tup [.tup (t.as.map pv), .int t.gl]), none, some x]) (f := fun _ => .bl true) (t.as.map pv) 100000 [] (by simp; omega) (fun x hx => ⟨by simp, ?_⟩)]
    · have hb : ∀ l : List T, bools (l.map fun _ => PV.bl true) = some (l.map fun _ => true) := by
        intro l
        induction l with
        | nil => rfl
        | cons x l ih => simp [bools, ih]
      simp [blSeq, Function.comp_def, hb]
    · obtain ⟨u, hu, rfl⟩ := List.mem_map.mp hx
      have h1 := T.hd_lt hu
      have := is_home_pv (st := st) (ho.sub hu) (show u.hd + 3 ≤ j + 2 by omega)
      simpa using this
end
end W79
end
section
set_option linter.all false
/-! W3: tables; names; rows; what is put -/
namespace W79
open PySem Rf
section
variable {α β : Type}
def lk (tb : List (Nat × α)) (n : Nat) : Option α := (tb.find? fun p => p.1 == n).map (·.2)
def pt (tb : List (Nat × α)) (n : Nat) (x : α) : List (Nat × α) := if (lk tb n).isSome then tb.map (fun p => if p.1 == n then (p.1, x) else p) else tb ++ [(n, x)]
def enc (f : α → PV) (tb : List (Nat × α)) : List (PV × PV) := tb.map fun p => (.int p.1, f p.2)
@[simp] theorem lk_nil (n : Nat) : lk ([] : List (Nat × α)) n = none := rfl
theorem lk_cons (p : Nat × α) (tb : List (Nat × α)) (n : Nat) : lk (p :: tb) n = if p.1 = n then some p.2 else lk tb n := by
  unfold lk
  by_cases h : p.1 = n
  · simp [h]
  · simp [h, List.find?_cons_of_neg]
theorem beq_nat (a b : Nat) : PV.beq (.int a) (.int b) = (a == b) := by
  have : (decide ((a : Int) = b)) = (a == b) := by
    by_cases h : a = b
    · simp [h]
    · have : ¬ (a : Int) = b := by omega
      simp [h, this]
  simpa [PV.beq] using this
theorem look_enc (f : α → PV) (n : Nat) : ∀ tb : List (Nat × α), look (enc f tb) (.int n) = (lk tb n).map f
  | [] => rfl
  | p :: tb => by
    have ih := look_enc f n tb
    unfold look enc at *
    rw [lk_cons]
    by_cases h : p.1 = n
    · simp [List.find?_cons, beq_nat, h]
    · have h' : (p.1 == n) = false := by simp [h]
      simp only [List.map_cons, List.find?_cons, beq_nat, h', h, if_false]
      exact ih
theorem any_enc (f : α → PV) (n : Nat) : ∀ tb : List (Nat × α), ((enc f tb).any fun p => PV.beq p.1 (.int n)) = (lk tb n).isSome
  | [] => rfl
  | p :: tb => by
    have ih := any_enc f n tb
    unfold enc at *
    rw [lk_cons]
    simp only [List.map_cons, List.any_cons, beq_nat, ih]
    by_cases h : p.1 = n <;> simp [h]
theorem put_enc (f : α → PV) (n : Nat) (x : α) (tb : List (Nat × α)) : put (enc f tb) (.int n) (f x) = enc f (pt tb n x) := by
  unfold put pt
  rw [any_enc]
  by_cases h : (lk tb n).isSome = true
  · simp only [h, if_true]
    unfold enc
    rw [List.map_map, List.map_map]
    refine List.map_congr_left fun p _ => ?_
    simp only [Function.comp_apply, beq_nat]
    by_cases e : p.1 = n <;> simp [e]
  · simp only [h, if_false]
    simp [enc]
theorem lk_pt (tb : List (Nat × α)) (n m : Nat) (x : α) : lk (pt tb n x) m = if m = n then some x else lk tb m := by
  unfold pt
  by_cases h : (lk tb n).isSome = true
  · simp only [h, if_true]
    induction tb with
    | nil => simp at h
    | cons p tb ih =>
      rw [List.map_cons, lk_cons, lk_cons]
      rw [lk_cons] at h
      by_cases e : p.1 = n
      · have ih2 : ∀ tb : List (Nat × α), m ≠ n → lk (tb.map fun p => if p.1 == n then (p.1, x) else p) m = lk tb m := by
          intro tb hne
          induction tb with
          | nil => rfl
          | cons q tb ihq =>
            rw [List.map_cons, lk_cons, lk_cons, ihq]
            by_cases e2 : q.1 = n
            · have : ¬ n = m := fun e => hne e.symm
              simp [e2, this]
            · simp [e2]
        by_cases e2 : m = n
        · subst e2; simp [e]
        · have : ¬ n = m := fun e => e2 e.symm
          have z := ih2 tb e2
          simp at z
          simp [e, e2, this, z]
      · simp only [e, if_false] at h
        rw [ih h]
        by_cases e2 : m = n
        · subst e2; simp [e]
        · simp [e, e2]
  · rw [if_neg h]
    induction tb with
    | nil =>
      rw [List.nil_append, lk_cons]
      by_cases e : m = n
      · simp [e]
      · have : ¬ n = m := fun e2 => e e2.symm
        simp [e, this]
    | cons p tb ih =>
      rw [lk_cons] at h
      have hp : ¬ p.1 = n := by
        intro e
        simp [e] at h
      simp only [hp, if_false] at h
      rw [List.cons_append, lk_cons, lk_cons, ih h]
      by_cases e2 : m = n
      · subst e2; simp [hp]
      · simp [e2]
theorem enc_len (f : α → PV) (tb : List (Nat × α)) : (enc f tb).length = tb.length := by simp [enc]
/-- the keys -/
def ks (tb : List (Nat × α)) : List Nat := tb.map (·.1)
theorem ks_pt (tb : List (Nat × α)) (n : Nat) (x : α) : ks (pt tb n x) = if n ∈ ks tb then ks tb else ks tb ++ [n] := by
  have h : (lk tb n).isSome = true ↔ n ∈ ks tb := by
    induction tb with
    | nil => simp [ks]
    | cons p tb ih =>
      rw [lk_cons]
      by_cases e : p.1 = n
      · simp [e, ks]
      · have e' : ¬ n = p.1 := fun z => e z.symm
        simp only [e, if_false, ih, ks, List.map_cons, List.mem_cons, e', false_or]
  unfold pt
  by_cases e : (lk tb n).isSome = true
  · simp only [e, if_true, h.mp e]
    unfold ks
    rw [List.map_map]
    refine List.map_congr_left fun p _ => ?_
    by_cases e2 : p.1 = n <;> simp [e2]
  · have : ¬ n ∈ ks tb := fun z => e (h.mpr z)
    rw [if_neg e, if_neg this]
    simp [ks]
theorem lk_some_ks {tb : List (Nat × α)} {n : Nat} : (lk tb n).isSome = true ↔ n ∈ ks tb := by
  induction tb with
  | nil => simp [ks]
  | cons p tb ih =>
    rw [lk_cons]
    by_cases e : p.1 = n
    · simp [e, ks]
    · have e' : ¬ n = p.1 := fun z => e z.symm
      simp only [e, if_false, ih, ks, List.map_cons, List.mem_cons, e', false_or]
theorem lk_none_ks {tb : List (Nat × α)} {n : Nat} : lk tb n = none ↔ n ∉ ks tb := by
  rw [← lk_some_ks]
  cases lk tb n <;> simp
end
/-- what an atom is put for -/
def sub (s : Nat → T) : T → T
  | .v n => s n
  | .a x y => .a (sub s x) (sub s y)
@[simp] theorem sub_v (s : Nat → T) (n : Nat) : sub s (.v n) = s n := rfl
@[simp] theorem sub_a (s : Nat → T) (x y : T) : sub s (.a x y) = .a (sub s x) (sub s y) := rfl
theorem sub_as (s : Nat → T) : ∀ t : T, (sub s t).as = t.as.map (sub s) ++ (s t.gl).as
  | .v n => by simp
  | .a x y => by simp [sub_as s y]
theorem sub_gl (s : Nat → T) : ∀ t : T, (sub s t).gl = (s t.gl).gl
  | .v n => by simp
  | .a x y => by simp [sub_gl s y]
/-- other atoms -/
def ren (f : Nat → Nat) : T → T := sub fun n => .v (f n)
theorem ren_as (f : Nat → Nat) (t : T) : (ren f t).as = t.as.map (ren f) := by unfold ren; rw [sub_as]; simp
theorem ren_gl (f : Nat → Nat) (t : T) : (ren f t).gl = f t.gl := by unfold ren; rw [sub_gl]; rfl
def tbF (tb : List (Nat × T)) : Nat → T := fun n => (lk tb n).getD (.v n)
def nmF (tb : List (Nat × Nat)) : Nat → Nat := fun n => (lk tb n).getD n
abbrev iv (n : Nat) : PV := .int n
section
variable {j : Nat} {st : Sto}
theorem ints_nat : ∀ l : List Nat, pints (l.map fun n : Nat => PV.int n) = some (l.map fun n : Nat => (n : Int))
  | [] => rfl
  | x :: r => by simp [pints, ints_nat r]
/-- a row, found by a loop -/
theorem row_in_pv : ∀ {j : Nat} {t : T} {st : Sto}, t.ok → t.hd + 1 ≤ j → (∀ f, (f = 12 ∨ f = 47) → cl j f [pv t] st = .ok (.tup (t.row.map iv)) st)
  | 0, t, st, _, h, f, _ => by omega
  | j + 1, t, st, ho, h, f, hf => by
    have hl := ho.len
    have go : ∀ (V : Ev) (b : List Sm), (∀ (x : T) (w : List Nat) (y : Option PV), x ∈ t.as → w.length ≤ 2000 → ∃ σ1, V.t (.name 2) (pv x) [some (pv t), some (.tup (w.map iv)), y] st = .ok σ1 st ∧ V.s b σ1 st = .nx [some (pv t), some (.tup ((w ++ x.row).map iv)), some (pv x)] st) →
        ∀ (l : List T) (w : List Nat) (y : Option PV) (m : Nat), (∀ x ∈ l, x ∈ t.as) → l.length < m → (w ++ l.flatMap T.row).length ≤ 2000 → ∃ y', forGo V (.name 2) b m (.one (.fix (l.map pv))) [some (pv t), some (.tup (w.map iv)), y] st = .nx [some (pv t), some (.tup ((w ++ l.flatMap T.row).map iv)), y'] st := by
      intro V b hb l
      induction l with
      | nil =>
        intro w y m _ hm _
        obtain ⟨m, rfl⟩ : ∃ k, m = k + 1 := ⟨m - 1, by simp at hm; omega⟩
        exact ⟨y, by simp [forGo, nxt_nil]⟩
      | cons x l ih =>
        intro w y m hs hm hw
        obtain ⟨m, rfl⟩ : ∃ k, m = k + 1 := ⟨m - 1, by simp at hm; omega⟩
        simp only [List.flatMap_cons, List.length_append] at hw
        obtain ⟨σ1, h1, h2⟩ := hb x w y (hs x (by simp)) (by omega)
        obtain ⟨y', h3⟩ := ih (w ++ x.row) (some (pv x)) m (fun z hz => hs z (by simp [hz])) (by simpa using hm) (by simp only [List.length_append]; omega)
        refine ⟨y', ?_⟩
        simp only [List.map_cons, forGo, nxt_cons, h1, rf_ok, h2, h3, List.flatMap_cons, List.append_assoc]
    have hrow : ∀ t : T, t.as.flatMap T.row ++ [t.gl] = t.row := by
      intro t
      induction t with
      | v n => simp
      | a x y _ ih => simp [ih]
    have hlen : (t.as.flatMap T.row).length ≤ 2000 := by
      have h5 := congrArg List.length (hrow t)
      rw [List.length_append, T.row_len] at h5
      have h6 := ho.2
      omega
    rcases hf with rfl | rfl
    · rw [cl, call_eq P79.f12 12 j _ rfl rfl]
      have e0 : ([pv t].map some ++ List.replicate (P79.f12.slots - P79.f12.arity) none : Rf.Loc) = [some (pv t), none, none] := rfl
      rw [e0]
      obtain ⟨y', h3⟩ := go (evN P79.pg (callN P79.pg 100000 200 j) 100000 199) [(.asg (.name 1) (.bin .add (.var 1) (.call 12 [(.var 2)])))] (fun x w y hx hw => ⟨_, by simp; rfl, by
        have hx1 := T.hd_lt hx
        have hr := row_in_pv (st := st) (ho.sub hx) (show x.hd + 1 ≤ j by omega) 12 (.inl rfl)
        have hxl := (ho.sub hx).2
        rw [← T.row_len] at hxl
        have hb : w.length + x.row.length ≤ big := by unfold big; omega
        simp [hr, hb]⟩) t.as [] none 100000 (fun x hx => hx) (by omega) (by simpa using hlen)
      have hb : t.row.length ≤ big := by rw [T.row_len]; have := ho.2; unfold big; omega
      simp only [List.nil_append, List.map_nil] at h3
      have hb2 : (t.as.flatMap T.row).length + 1 ≤ big := by unfold big; omega
      have h4 := hrow t
      simp [P79.f12]
      rw [s_for _ _ _ (lock_tup (xs := t.as.map pv) (st1 := st) (by simp [pv_eq]))]
      simp [pv_eq] at h3 ⊢
      rw [h3]
      rw [← h4]
      clear h3 go hlen
      generalize t.as.flatMap T.row = w at hb2
      simp [hb2]
    · rw [cl, call_eq P79.f47 47 j _ rfl rfl]
      have e0 : ([pv t].map some ++ List.replicate (P79.f47.slots - P79.f47.arity) none : Rf.Loc) = [some (pv t), none, none] := rfl
      rw [e0]
      obtain ⟨y', h3⟩ := go (evN P79.pg (callN P79.pg 100000 200 j) 100000 199) [(.asg (.name 1) (.bin .add (.var 1) (.call 47 [(.var 2)])))] (fun x w y hx hw => ⟨_, by simp; rfl, by
        have hx1 := T.hd_lt hx
        have hr := row_in_pv (st := st) (ho.sub hx) (show x.hd + 1 ≤ j by omega) 47 (.inr rfl)
        have hxl := (ho.sub hx).2
        rw [← T.row_len] at hxl
        have hb : w.length + x.row.length ≤ big := by unfold big; omega
        simp [hr, hb]⟩) t.as [] none 100000 (fun x hx => hx) (by omega) (by simpa using hlen)
      have hb2 : (t.as.flatMap T.row).length + 1 ≤ big := by unfold big; omega
      have h4 := hrow t
      simp only [List.nil_append, List.map_nil] at h3
      simp [P79.f47]
      rw [s_for _ _ _ (lock_tup (xs := t.as.map pv) (st1 := st) (by simp [pv_eq]))]
      simp [pv_eq] at h3 ⊢
      rw [h3]
      rw [← h4]
      clear h3 go hlen
      generalize t.as.flatMap T.row = w at hb2
      simp [hb2]
end
end W79
end
section
set_option linter.all false
/-! W4: loops in general; names -/
namespace W79
open PySem Rf
section
variable {V : Ev} {t : Tg} {b : List Sm} {S α β : Type}
theorem for_fold (e : α → PV) (F : S → α → S) (I : S → Rf.Loc → Sto → Prop) : ∀ (l : List α) (s : S) (m : Nat) (σ : Rf.Loc) (st : Sto),
    (∀ s σ st, ∀ x ∈ l, I s σ st → ∃ σ1 st1 σ2 st2, V.t t (e x) σ st = .ok σ1 st1 ∧ V.s b σ1 st1 = .nx σ2 st2 ∧ I (F s x) σ2 st2) →
    I s σ st → l.length < m → ∃ σ' st', forGo V t b m (.one (.fix (l.map e))) σ st = .nx σ' st' ∧ I (l.foldl F s) σ' st'
  | [], s, m + 1, σ, st, _, h, _ => ⟨σ, st, by simp [forGo, nxt_nil], h⟩
  | x :: l, s, m + 1, σ, st, hs, h, hm => by
    obtain ⟨σ1, st1, σ2, st2, h1, h2, h3⟩ := hs s σ st x (by simp) h
    obtain ⟨σ', st', h4, h5⟩ := for_fold e F I l (F s x) m σ2 st2 (fun s σ st y hy => hs s σ st y (by simp [hy])) h3 (by simpa using hm)
    refine ⟨σ', st', ?_, h5⟩
    simp only [List.map_cons, forGo, nxt_cons, h1, rf_ok, h2, h4]
theorem for_live (k : Nat) (e : α → PV) (F : S → α → S) (I : S → Rf.Loc → Sto → Prop) (l : List α) (hk : ∀ s σ st, I s σ st → st[k]? = some (.lst (l.map e)))
    (hs : ∀ s σ st, ∀ x ∈ l, I s σ st → ∃ σ1 st1 σ2 st2, V.t t (e x) σ st = .ok σ1 st1 ∧ V.s b σ1 st1 = .nx σ2 st2 ∧ I (F s x) σ2 st2) :
    ∀ (r : List α) (i : Nat) (s : S) (m : Nat) (σ : Rf.Loc) (st : Sto), l.drop i = r → i ≤ l.length → I s σ st → r.length < m → ∃ σ' st', forGo V t b m (.one (.live k i)) σ st = .nx σ' st' ∧ I (r.foldl F s) σ' st'
  | [], i, s, m + 1, σ, st, hr, hi, h, _ => by
    have : l.length ≤ i := List.drop_eq_nil_iff.mp hr
    have e1 : (l.map e)[i]? = none := by simp; omega
    exact ⟨σ, st, by simp [forGo, Wk.next, Sr.next, hk s σ st h, e1], h⟩
  | x :: r, i, s, m + 1, σ, st, hr, hi, h, hm => by
    have hlt : i < l.length := by
      rcases Nat.lt_or_ge i l.length with h1 | h1
      · exact h1
      · rw [List.drop_eq_nil_of_le h1] at hr; cases hr
    have hx : l[i]? = some x := by
      rw [← List.head?_drop, hr]; rfl
    have e1 : (l.map e)[i]? = some (e x) := by rw [List.getElem?_map, hx]; rfl
    obtain ⟨σ1, st1, σ2, st2, h1, h2, h3⟩ := hs s σ st x (List.mem_of_getElem? hx) h
    have hd : l.drop (i + 1) = r := by rw [← List.drop_drop, hr]; rfl
    obtain ⟨σ', st', h4, h5⟩ := for_live k e F I l hk hs r (i + 1) (F s x) m σ2 st2 hd hlt h3 (by simpa using hm)
    refine ⟨σ', st', ?_, h5⟩
    simp only [forGo, Wk.next, Sr.next, hk s σ st h, e1, h1, rf_ok, h2, h4]
end
/-! sorted, each once -/
def insN (a : Nat) : List Nat → List Nat
  | [] => [a]
  | b :: r => if a ≤ b then a :: b :: r else b :: insN a r
def sortN : List Nat → List Nat
  | [] => []
  | a :: r => insN a (sortN r)
def dedN : List Nat → List Nat
  | a :: b :: r => if a = b then dedN (b :: r) else a :: dedN (b :: r)
  | l => l
def sN (l : List Nat) : List Nat := dedN (sortN l)
theorem insN_c (a : Nat) : ∀ l : List Nat, insI a (l.map fun n : Nat => (n : Int)) = (insN a l).map fun n : Nat => (n : Int)
  | [] => rfl
  | b :: r => by
    simp only [List.map_cons, insI, insN]
    by_cases h : a ≤ b
    · have : (a : Int) ≤ b := by omega
      simp [h, this]
    · have : ¬ (a : Int) ≤ b := by omega
      simp [h, this, insN_c a r]
theorem sortN_c : ∀ l : List Nat, sortI (l.map fun n : Nat => (n : Int)) = (sortN l).map fun n : Nat => (n : Int)
  | [] => rfl
  | a :: r => by simp only [List.map_cons, sortI, sortN, sortN_c r, insN_c]
theorem dedN_c : ∀ (n : Nat) (l : List Nat), l.length ≤ n → dedup (l.map fun n : Nat => (n : Int)) = (dedN l).map fun n : Nat => (n : Int)
  | _, [], _ => rfl
  | _, [a], _ => rfl
  | 0, a :: b :: r, h => by simp at h
  | n + 1, a :: b :: r, h => by
    have ih := dedN_c n (b :: r) (by simpa using h)
    simp only [List.map_cons] at ih
    simp only [List.map_cons, dedup, dedN]
    by_cases e : a = b
    · have : (a : Int) = b := by omega
      simp [e, ih]
    · have : ¬ (a : Int) = b := by omega
      simp [e, this, ih]
theorem sN_c (l : List Nat) : dedup (sortI (l.map fun n : Nat => (n : Int))) = (sN l).map fun n : Nat => (n : Int) := by rw [sortN_c, dedN_c _ _ (Nat.le_refl _)]; rfl
theorem insN_perm (a : Nat) : ∀ l : List Nat, (insN a l).Perm (a :: l)
  | [] => List.Perm.refl _
  | b :: r => by
    unfold insN
    split
    · exact List.Perm.refl _
    · exact ((insN_perm a r).cons b).trans (List.Perm.swap a b r)
theorem sortN_perm : ∀ l : List Nat, (sortN l).Perm l
  | [] => List.Perm.refl _
  | a :: r => (insN_perm a _).trans ((sortN_perm r).cons a)
theorem insN_asc (a : Nat) : ∀ l : List Nat, l.Pairwise (· ≤ ·) → (insN a l).Pairwise (· ≤ ·)
  | [], _ => List.pairwise_singleton _ _
  | b :: r, h => by
    unfold insN
    obtain ⟨h1, h2⟩ := List.pairwise_cons.mp h
    split
    · rename_i hab
      refine List.Pairwise.cons (fun y hy => ?_) h
      rcases List.mem_cons.mp hy with e | hy
      · omega
      · have := h1 y hy; omega
    · rename_i hab
      refine List.Pairwise.cons (fun y hy => ?_) (insN_asc a r h2)
      rcases List.mem_cons.mp ((insN_perm a r).mem_iff.mp hy) with e | hy
      · omega
      · exact h1 y hy
theorem sortN_asc : ∀ l : List Nat, (sortN l).Pairwise (· ≤ ·)
  | [] => List.Pairwise.nil
  | a :: r => insN_asc a _ (sortN_asc r)
theorem dedN_mem : ∀ (n : Nat) {l : List Nat} {x : Nat}, l.length ≤ n → (x ∈ dedN l ↔ x ∈ l)
  | _, [], x, _ => by simp [dedN]
  | _, [a], x, _ => by simp [dedN]
  | 0, a :: b :: r, x, h => by simp at h
  | n + 1, a :: b :: r, x, h => by
    have ih := dedN_mem n (l := b :: r) (x := x) (by simpa using h)
    unfold dedN
    split
    · rename_i e
      subst e
      rw [ih]
      simp
    · rw [List.mem_cons, ih, List.mem_cons (l := b :: r)]
theorem dedN_lt : ∀ (n : Nat) {l : List Nat}, l.length ≤ n → l.Pairwise (· ≤ ·) → (dedN l).Pairwise (· < ·)
  | _, [], _, _ => by simp [dedN]
  | _, [a], _, _ => by simp [dedN]
  | 0, a :: b :: r, h, _ => by simp at h
  | n + 1, a :: b :: r, h, g => by
    obtain ⟨g1, g2⟩ := List.pairwise_cons.mp g
    have ih := dedN_lt n (l := b :: r) (by simpa using h) g2
    unfold dedN
    split
    · exact ih
    · rename_i e
      refine List.Pairwise.cons (fun y hy => ?_) ih
      have hy2 := (dedN_mem n (l := b :: r) (by simpa using h)).mp hy
      have h1 := g1 b List.mem_cons_self
      rcases List.mem_cons.mp hy2 with e2 | hy3
      · omega
      · have := (List.pairwise_cons.mp g2).1 y hy3
        omega
theorem sN_mem {l : List Nat} {x : Nat} : x ∈ sN l ↔ x ∈ l := by unfold sN; rw [dedN_mem _ (Nat.le_refl _), (sortN_perm l).mem_iff]
theorem sN_lt (l : List Nat) : (sN l).Pairwise (· < ·) := dedN_lt _ (Nat.le_refl _) (sortN_asc l)
theorem lt_len : ∀ (l : List Nat) (lo hi : Nat), l.Pairwise (· < ·) → (∀ x ∈ l, lo ≤ x ∧ x < hi) → l.length ≤ hi - lo
  | [], _, _, _, _ => Nat.zero_le _
  | x :: l, lo, hi, h, hb => by
    have h1 := hb x (by simp)
    have ih := lt_len l (x + 1) hi h.of_cons fun y hy => ⟨(List.pairwise_cons.mp h).1 y hy, (hb y (by simp [hy])).2⟩
    simp only [List.length_cons]
    omega
theorem sN_len {l : List Nat} {k : Nat} (h : ∀ x ∈ l, x < k) : (sN l).length ≤ k := by
  have := lt_len (sN l) 0 k (sN_lt l) fun x hx => ⟨Nat.zero_le _, h x (sN_mem.mp hx)⟩
  simpa using this
theorem strict_eq : ∀ {l m : List Nat}, (∀ x, x ∈ l ↔ x ∈ m) → l.Pairwise (· < ·) → m.Pairwise (· < ·) → l = m
  | [], [], _, _, _ => rfl
  | [], b :: m, p, _, _ => absurd ((p b).mpr (by simp)) (by simp)
  | a :: l, [], p, _, _ => absurd ((p a).mp (by simp)) (by simp)
  | a :: l, b :: m, p, h, g => by
    have h1 := (List.pairwise_cons.mp h).1
    have g1 := (List.pairwise_cons.mp g).1
    have ha : b ≤ a := by
      rcases List.mem_cons.mp ((p a).mp (by simp)) with e | e
      · omega
      · have := g1 a e; omega
    have hb : a ≤ b := by
      rcases List.mem_cons.mp ((p b).mpr (by simp)) with e | e
      · omega
      · have := h1 b e; omega
    have e : a = b := by omega
    subst e
    rw [strict_eq (fun x => ?_) h.of_cons g.of_cons]
    constructor
    · intro hx
      rcases List.mem_cons.mp ((p x).mp (by simp [hx])) with e | e
      · have := h1 x hx; omega
      · exact e
    · intro hx
      rcases List.mem_cons.mp ((p x).mpr (by simp [hx])) with e | e
      · have := g1 x hx; omega
      · exact e
/-- an atom below so much -/
def T.atl (k : Nat) (t : T) : Prop := ∀ n ∈ t.row, n < k
section
variable {j : Nat} {st : Sto}
theorem sortset_row {l : List Nat} (hl : l.length < 999) (h2 : (sN l).length < 64) (b : Bool) : blSeq .sortset b (l.map iv) st = .ok (.obj st.length) (st ++ [.lst ((sN l).map iv)]) := by
  have e : pints (l.map iv) = some (l.map fun n : Nat => (n : Int)) := ints_nat l
  simp only [blSeq, e, sN_c, List.length_map, hl, h2, and_self, if_true, newO, List.map_map]
  rfl
theorem set_of_row {l : List Nat} (hl : l.length < 999) (h2 : (sN l).length < 64) (hc : Sto.closed st.length st = true) : cl (j + 1) 4 [.tup (l.map iv)] st = .ok (.tup ((sN l).map iv)) st := by
  rw [cl, call_eq P79.f4 4 j _ rfl rfl]
  simp [P79.f4, blSeqB, blOf, sortset_row hl h2]
  simp [blSeq]
  rw [trim_app _ _ ?_ hc]
  simp only [PV.under]
  exact unders_of fun x hx => by
    obtain ⟨n, _, rfl⟩ := List.mem_map.mp hx
    rfl
theorem sure_home_pv {t : T} (ho : t.ok) (h : 2 * t.hd + 3 ≤ j) : cl (j + 1) 9 [pv t] st = .ok (pv t) st := by
  rw [cl, call_eq P79.f9 9 j _ rfl rfl]
  simp [P79.f9, tupled_pu (puB_pv ho (show 2 * t.hd + 2 ≤ j by omega)), is_home_pv ho (show t.hd + 3 ≤ j by omega), Rf.truthy]
theorem okL_puB {l : List T} (hl : l.length < 2000) (ho : ∀ t ∈ l, t.ok) (h : ∀ t ∈ l, 2 * t.hd + 3 ≤ j) (hj : 0 < j) : puB j (.tup (l.map pv)) = true := by
  obtain ⟨j, rfl⟩ : ∃ i, j = i + 1 := ⟨j - 1, by omega⟩
  have h3 : l.length < 99999 := by omega
  simp only [puB, List.length_map, List.all_map, h3, decide_true, Bool.true_and]
  exact List.all_eq_true.mpr fun t ht => puB_pv (ho t ht) (by have := h t ht; omega)
theorem bools_true (l : List T) : bools (l.map fun _ => PV.bl true) = some (l.map fun _ => true) := by
  induction l with
  | nil => rfl
  | cons x l ih => simp [bools, ih]
theorem are_homes_pv {l : List T} (hl : l.length < 2000) (ho : ∀ t ∈ l, t.ok) (h : ∀ t ∈ l, t.hd + 3 ≤ j) : cl (j + 1) 8 [.tup (l.map pv)] st = .ok (.bl true) st := by
  rw [cl, call_eq P79.f8 8 j _ rfl rfl]
  simp [P79.f8, isin, kindOf, Rf.truthy, blSeqB]
  rw [comp_map (τ := fun x => [some (.tup (l.map pv)), none, some x]) (f := fun _ => .bl true) (l.map pv) 100000 [] (by simp; omega) (fun x hx => ⟨by simp, ?_⟩)]
  · simp [blSeq, Function.comp_def, bools_true]
  · obtain ⟨u, hu, rfl⟩ := List.mem_map.mp hx
    simp [is_home_pv (ho u hu) (h u hu)]
theorem sure_homes_pv {l : List T} (hl : l.length < 2000) (ho : ∀ t ∈ l, t.ok) (h : ∀ t ∈ l, 2 * t.hd + 4 ≤ j) (hj : 4 ≤ j) : cl (j + 1) 10 [.tup (l.map pv)] st = .ok (.tup (l.map pv)) st := by
  obtain ⟨i, rfl⟩ : ∃ i, j = i + 1 := ⟨j - 1, by omega⟩
  rw [cl, call_eq P79.f10 10 _ _ rfl rfl]
  have h1 := tupled_pu (st := st) (okL_puB hl ho (fun t ht => by have := h t ht; omega) (show 0 < i + 1 by omega))
  have h2 := are_homes_pv (j := i) (st := st) hl ho (fun t ht => by have := h t ht; omega)
  simp [P79.f10, h1, h2, Rf.truthy]
theorem arrow_pv {x y : T} (hx : x.ok) (hy : y.ok) (h : 2 * x.hd + 5 ≤ j) (h2 : 2 * y.hd + 5 ≤ j) : cl (j + 1) 11 [.tup [pv x], pv y] st = .ok (pv (.a x y)) st := by
  obtain ⟨i, rfl⟩ : ∃ i, j = i + 1 := ⟨j - 1, by omega⟩
  rw [cl, call_eq P79.f11 11 _ _ rfl rfl]
  have h3 := sure_homes_pv (j := i) (st := st) (l := [x]) (by simp) (by simpa using hx) (by simp; omega) (by omega)
  have h4 := sure_home_pv (j := i) (st := st) hy (by omega)
  have hl := hy.len
  have hb : 1 + y.as.length ≤ big := by unfold big; omega
  rw [pv_eq] at h4
  simp only [List.map_cons, List.map_nil] at h3
  simp [P79.f11, h3, pv_eq y, h4, hb]
  simp [pv_eq]
end
end W79
end
section
set_option linter.all false
/-! W5: names, put -/
namespace W79
open PySem Rf
section
variable {V : Ev} {σ : Rf.Loc} {st : Sto} {α β : Type}
theorem comp_mapA {elt : Ex} {tg : Tg} {e f : α → PV} (τ : PV → Rf.Loc) : ∀ (l : List α) (m : Nat) (acc : List PV), l.length < m →
    (∀ x ∈ l, V.t tg (e x) σ st = .ok (τ (e x)) st ∧ V.e elt (τ (e x)) st = .ok (f x) st) → compGo V elt tg none σ m (.one (.fix (l.map e))) acc st = .ok (acc.reverse ++ l.map f) st
  | [], m + 1, acc, _, _ => by simp [compGo, nxt_nil]
  | x :: r, m + 1, acc, hm, h => by
    have h1 := h x (by simp)
    simp only [compGo, List.map_cons, nxt_cons, h1.1, h1.2, nx_ok, rb_ok]
    rw [comp_mapA τ r m (f x :: acc) (by simpa using hm) fun y hy => h y (by simp [hy])]
    simp
theorem comp_filA {elt c : Ex} {tg : Tg} {e f : α → PV} {p : α → Bool} (τ : PV → Rf.Loc) : ∀ (l : List α) (m : Nat) (acc : List PV), l.length < m →
    (∀ x ∈ l, V.t tg (e x) σ st = .ok (τ (e x)) st ∧ tst V.e c (τ (e x)) st = .ok (p x) st ∧ (p x = true → V.e elt (τ (e x)) st = .ok (f x) st)) →
    compGo V elt tg (some c) σ m (.one (.fix (l.map e))) acc st = .ok (acc.reverse ++ (l.filter p).map f) st
  | [], m + 1, acc, _, _ => by simp [compGo, nxt_nil]
  | x :: r, m + 1, acc, hm, h => by
    have h1 := h x (by simp)
    simp only [compGo, List.map_cons, nxt_cons, h1.1, h1.2.1, nx_ok, rb_ok]
    cases hp : p x with
    | true =>
      simp only [h1.2.2 hp, nx_ok, rb_ok]
      rw [comp_filA τ r m (f x :: acc) (by simpa using hm) fun y hy => h y (by simp [hy])]
      simp [hp]
    | false =>
      simp only
      rw [comp_filA τ r m acc (by simpa using hm) fun y hy => h y (by simp [hy])]
      simp [hp]
/-- .. over a list of the store -/
theorem comp_liveA {elt : Ex} {tg : Tg} {e f : α → PV} (τ : PV → Rf.Loc) (k : Nat) (l : List α) (hk : st[k]? = some (.lst (l.map e)))
    (h : ∀ x ∈ l, V.t tg (e x) σ st = .ok (τ (e x)) st ∧ V.e elt (τ (e x)) st = .ok (f x) st) : ∀ (r : List α) (i m : Nat) (acc : List PV), l.drop i = r → r.length < m →
    compGo V elt tg none σ m (.one (.live k i)) acc st = .ok (acc.reverse ++ r.map f) st
  | [], i, m + 1, acc, hr, _ => by
    have e1 : (l.map e)[i]? = none := by simp; exact List.drop_eq_nil_iff.mp hr
    simp [compGo, Wk.next, Sr.next, hk, e1]
  | x :: r, i, m + 1, acc, hr, hm => by
    have hx : l[i]? = some x := by rw [← List.head?_drop, hr]; rfl
    have e1 : (l.map e)[i]? = some (e x) := by rw [List.getElem?_map, hx]; rfl
    have h1 := h x (List.mem_of_getElem? hx)
    have hd : l.drop (i + 1) = r := by rw [← List.drop_drop, hr]; rfl
    simp only [compGo, Wk.next, Sr.next, hk, e1, h1.1, h1.2, nx_ok, rb_ok]
    rw [comp_liveA τ k l hk h r (i + 1) m (f x :: acc) hd (by simpa using hm)]
    simp
end
/-- a table at a place -/
def Dn (st : Sto) (k : Nat) (nm : List (Nat × Nat)) : Prop := st[k]? = some (.dct false (enc iv nm))
def Dt (st : Sto) (k : Nat) (tb : List (Nat × T)) : Prop := st[k]? = some (.dct false (enc pv tb))
section
variable {j : Nat} {st : Sto}
theorem get_nm {k : Nat} {nm : List (Nat × Nat)} (h : Dn st k nm) (n : Nat) : bmOf .get2 (.obj k) [.int n, .int n] st = .ok (.int (nmF nm n)) st := by
  unfold Dn at h
  simp only [bmOf, getR, h, keyOk, if_true]
  rw [look_enc]
  unfold nmF
  cases lk nm n <;> rfl
theorem ty_nm {k : Nat} {nm : List (Nat × Nat)} (h : Dn st k nm) : bmTy .get2 (.obj k) st = true := by unfold Dn at h; simp [bmTy, h]
theorem ren_pv (nm : List (Nat × Nat)) (t : T) : pv (ren (nmF nm) t) = .tup [.tup (t.as.map fun x => pv (ren (nmF nm) x)), .int (nmF nm t.gl)] := by
  rw [pv_eq, ren_as, ren_gl, List.map_map]; rfl
theorem named_by_pv : ∀ {j : Nat} {t : T} {st : Sto} {k : Nat} {nm : List (Nat × Nat)}, t.ok → t.hd + 1 ≤ j → Dn st k nm → cl j 14 [pv t, .obj k] st = .ok (pv (ren (nmF nm) t)) st
  | 0, t, st, k, nm, _, h, _ => by omega
  | j + 1, t, st, k, nm, ho, h, hd => by
    rw [cl, call_eq P79.f14 14 j _ rfl rfl]
    have hl := ho.len
    simp [P79.f14, pv_eq t, blSeqB]
    rw [comp_mapA (fun x => [some (.tup [.tup (t.as.map pv), .int t.gl]), some (.obj k), some (.tup (t.as.map pv)), some (.int t.gl), none, some x]) (f := fun x => pv (ren (nmF nm) x)) t.as 100000 [] (by omega) (fun x hx => ⟨by simp, by
      have := T.hd_lt hx
      simp [named_by_pv (ho.sub hx) (show x.hd + 1 ≤ j by omega) hd]⟩)]
    rw [ren_pv]
    simp [blSeq, ty_nm hd, get_nm hd]
theorem law_named_pv : ∀ {j : Nat} {t : T} {st : Sto} {k : Nat} {nm : List (Nat × Nat)}, t.ok → t.hd + 1 ≤ j → Dn st k nm → cl j 49 [pv t, .obj k] st = .ok (pv (ren (nmF nm) t)) st
  | 0, t, st, k, nm, _, h, _ => by omega
  | j + 1, t, st, k, nm, ho, h, hd => by
    rw [cl, call_eq P79.f49 49 j _ rfl rfl]
    have hl := ho.len
    simp [P79.f49, pv_eq t, blSeqB]
    rw [comp_mapA (fun x => [some (.tup [.tup (t.as.map pv), .int t.gl]), some (.obj k), none, some x]) (f := fun x => pv (ren (nmF nm) x)) t.as 100000 [] (by omega) (fun x hx => ⟨by simp, by
      have := T.hd_lt hx
      simp [law_named_pv (ho.sub hx) (show x.hd + 1 ≤ j by omega) hd]⟩)]
    rw [ren_pv]
    simp [blSeq, ty_nm hd, get_nm hd]
/-- names as they come first -/
def nst (tb : List (Nat × Nat)) (n : Nat) : List (Nat × Nat) := if n ∈ ks tb then tb else tb ++ [(n, tb.length)]
def fnm (l : List Nat) : List (Nat × Nat) := l.foldl nst []
theorem nst_pt1 (tb : List (Nat × Nat)) (n : Nat) (h : n ∉ ks tb) : pt tb n tb.length = nst tb n := by
  unfold pt nst
  rw [if_neg (fun e => h (lk_some_ks.mp e)), if_neg h]
theorem nst_pt2 {tb : List (Nat × Nat)} (hn : (ks tb).Nodup) (n : Nat) : pt tb n ((lk tb n).getD tb.length) = nst tb n := by
  by_cases h : n ∈ ks tb
  · unfold nst pt
    rw [if_pos h, if_pos (lk_some_ks.mpr h)]
    have key : ∀ (tb : List (Nat × Nat)) (d : Nat), (ks tb).Nodup → n ∈ ks tb → tb.map (fun p => if p.1 == n then (p.1, (lk tb n).getD d) else p) = tb := by
      intro tb d
      induction tb with
      | nil => intro _ h; simp [ks] at h
      | cons p tb ih =>
        intro hn h
        simp only [ks, List.map_cons, List.nodup_cons, List.mem_cons] at hn h
        rw [List.map_cons, lk_cons]
        by_cases e : p.1 = n
        · have hnot : n ∉ tb.map (·.1) := e ▸ hn.1
          simp only [e, beq_self_eq_true, if_true, Option.getD_some]
          congr 1
          · rw [← e]
          · have : ∀ q ∈ tb, (if (q.1 == n) = true then (q.1, p.2) else q) = q := fun q hq => by
              have : ¬ q.1 = n := fun z => hnot (List.mem_map.mpr ⟨q, hq, z⟩)
              simp [this]
            rw [List.map_congr_left this]
            simp
        · have e' : ¬ n = p.1 := fun z => e z.symm
          simp only [e', false_or] at h
          have h2 := ih hn.2 h
          simp only [beq_iff_eq, e, if_false]
          simp only [beq_iff_eq] at h2
          rw [h2]
    exact key tb _ hn h
  · have : lk tb n = none := lk_none_ks.mpr h
    rw [this]
    exact nst_pt1 tb n h
theorem nst_nodup {tb : List (Nat × Nat)} (hn : (ks tb).Nodup) (n : Nat) : (ks (nst tb n)).Nodup := by
  unfold nst
  split
  · exact hn
  · rename_i h
    simp only [ks, List.map_append, List.map_cons, List.map_nil]
    rw [List.nodup_append]
    exact ⟨hn, by simp, fun a ha b hb => by simp at hb; subst hb; exact fun e => h (e ▸ ha)⟩
theorem nst_len (tb : List (Nat × Nat)) (n : Nat) : (nst tb n).length ≤ tb.length + 1 := by unfold nst; split <;> simp
theorem fold_nst : ∀ (l : List Nat) (tb : List (Nat × Nat)), (ks tb).Nodup → (ks (l.foldl nst tb)).Nodup ∧ (l.foldl nst tb).length ≤ tb.length + l.length
  | [], tb, h => ⟨h, by simp⟩
  | n :: l, tb, h => by
    obtain ⟨h1, h2⟩ := fold_nst l (nst tb n) (nst_nodup h n)
    have := nst_len tb n
    exact ⟨h1, by simp only [List.foldl_cons, List.length_cons]; omega⟩
/-- a number in a table, not in it -/
theorem with_nm {α : Type} {f : α → PV} {k : Nat} {tb : List (Nat × α)} (h : st[k]? = some (.dct false (enc f tb))) (n : Nat) : within (.int n) (.obj k) st = some (lk tb n).isSome := by
  simp only [within, h, keyOk, if_true, look_enc]
  simp
theorem len_d {α : Type} {f : α → PV} {k : Nat} {tb : List (Nat × α)} (h : st[k]? = some (.dct false (enc f tb))) : blOf .len [.obj k] st = .ok (.int tb.length) st := by
  simp [blOf, h, enc_len]
theorem set_d {α : Type} {f : α → PV} {k : Nat} {tb : List (Nat × α)} (h : st[k]? = some (.dct false (enc f tb))) (hl : tb.length < 16000000) (n : Nat) (x : α) :
    Rf.setItem (.obj k) (.int n) (f x) st = some (st.set k (.dct false (enc f (pt tb n x)))) := by
  have : (enc f tb).length < big := by rw [enc_len]; unfold big; omega
  simp [Rf.setItem, h, keyOk, this, put_enc]
theorem item_d {α : Type} {f : α → PV} {k : Nat} {tb : List (Nat × α)} (h : st[k]? = some (.dct false (enc f tb))) (n : Nat) {x : α} (e : lk tb n = some x) : item (.obj k) (.int n) st = some (f x) := by
  simp [item, h, keyOk, look_enc, e]
end
end W79
end
section
set_option linter.all false
/-! W6: plain names, fillings -/
namespace W79
open PySem Rf
section
variable {st : Sto} {j : Nat}
@[simp] theorem get_last (o : MO) : (st ++ [o])[st.length]? = some o := by simp
@[simp] theorem set_last (o o' : MO) : (st ++ [o]).set st.length o' = st ++ [o'] := by simp
theorem get_old {k : Nat} {o : MO} (m : Sto) (h : st[k]? = some o) : (st ++ m)[k]? = some o := by
  have := (List.getElem?_eq_some_iff.mp h).1
  rw [List.getElem?_append_left this]; exact h
theorem under_tup (n : Nat) {l : List T} : PV.under n (.tup (l.map pv)) = true := by
  simp only [PV.under]
  exact unders_of fun x hx => by obtain ⟨t, _, rfl⟩ := List.mem_map.mp hx; exact under_pv n t
/-- the loop over a row, in both ways of naming -/
theorem names_in {V : Ev} {b : List Sm} {d : PV} {x0 y : Option PV} (hV : ∀ (v : PV) (σ : Rf.Loc) (st : Sto), V.t (.name 3) v σ st = .ok (σ.set 3 (some v)) st)
    (hb : ∀ (tb : List (Nat × Nat)) (n : Nat), (ks tb).Nodup → tb.length < 15000000 → V.s b [x0, some (.obj st.length), y, some (iv n)] (st ++ [.dct false (enc iv tb)]) = .nx [x0, some (.obj st.length), y, some (iv n)] (st ++ [.dct false (enc iv (nst tb n))]))
    (l : List Nat) (tb : List (Nat × Nat)) (z : Option PV) (m : Nat) (hn : (ks tb).Nodup) (hl : tb.length + l.length < 15000000) (hm : l.length < m) :
    ∃ z', forGo V (.name 3) b m (.one (.fix (l.map iv))) [x0, some (.obj st.length), y, z] (st ++ [.dct false (enc iv tb)]) = .nx [x0, some (.obj st.length), y, z'] (st ++ [.dct false (enc iv (l.foldl nst tb))]) := by
  induction l generalizing tb z m with
  | nil =>
    obtain ⟨m, rfl⟩ : ∃ k, m = k + 1 := ⟨m - 1, by simp at hm; omega⟩
    exact ⟨z, by simp [forGo, nxt_nil]⟩
  | cons n l ih =>
    obtain ⟨m, rfl⟩ : ∃ k, m = k + 1 := ⟨m - 1, by simp at hm; omega⟩
    simp only [List.length_cons] at hl hm
    have h1 := nst_len tb n
    obtain ⟨z', h2⟩ := ih (nst tb n) (some (iv n)) m (nst_nodup hn n) (by omega) (by omega)
    refine ⟨z', ?_⟩
    simp only [List.map_cons, forGo, nxt_cons, hV, rf_ok, List.set_cons_succ, List.set_cons_zero, hb tb n hn (by omega), h2, List.foldl_cons]
/-- the rows of homes, one behind another -/
def rws (l : List T) : List Nat := l.flatMap T.row
theorem first_names_pv {k : Nat} {l : List T} (hk : st[k]? = some (.lst (l.map pv))) (ho : ∀ t ∈ l, t.ok) (hj : ∀ t ∈ l, t.hd + 1 ≤ j) (hl : l.length < 99999) (hr : (rws l).length < 14000000) :
    cl (j + 1) 17 [.obj k] st = .ok (.obj st.length) (st ++ [.dct false (enc iv (fnm (rws l)))]) := by
  rw [cl, call_eq P79.f17 17 j _ rfl rfl]
  have key : ∀ (V : Ev) (b : List Sm), (∀ (t : T) (tb : List (Nat × Nat)) (z : Option PV), t ∈ l → (ks tb).Nodup → tb.length + t.row.length < 15000000 → ∀ y, ∃ σ1 z', V.t (.name 2) (pv t) [some (.obj k), some (.obj st.length), y, z] (st ++ [.dct false (enc iv tb)]) = .ok σ1 (st ++ [.dct false (enc iv tb)]) ∧
      V.s b σ1 (st ++ [.dct false (enc iv tb)]) = .nx [some (.obj k), some (.obj st.length), some (pv t), z'] (st ++ [.dct false (enc iv (t.row.foldl nst tb))])) →
      ∀ (r : List T) (i : Nat) (tb : List (Nat × Nat)) (y z : Option PV) (m : Nat), l.drop i = r → (ks tb).Nodup → tb.length + (rws r).length < 15000000 → r.length < m →
      ∃ y' z', forGo V (.name 2) b m (.one (.live k i)) [some (.obj k), some (.obj st.length), y, z] (st ++ [.dct false (enc iv tb)]) = .nx [some (.obj k), some (.obj st.length), y', z'] (st ++ [.dct false (enc iv ((rws r).foldl nst tb))]) := by
    intro V b hb r
    induction r with
    | nil =>
      intro i tb y z m hd _ _ hm
      obtain ⟨m, rfl⟩ : ∃ k, m = k + 1 := ⟨m - 1, by simp at hm; omega⟩
      have e1 : (l.map pv)[i]? = none := by simp; exact List.drop_eq_nil_iff.mp hd
      exact ⟨y, z, by simp [forGo, Wk.next, Sr.next, get_old _ hk, e1, rws]⟩
    | cons t r ih =>
      intro i tb y z m hd hn hlen hm
      obtain ⟨m, rfl⟩ : ∃ k, m = k + 1 := ⟨m - 1, by simp at hm; omega⟩
      have hx : l[i]? = some t := by rw [← List.head?_drop, hd]; rfl
      have e1 : (l.map pv)[i]? = some (pv t) := by rw [List.getElem?_map, hx]; rfl
      have hd2 : l.drop (i + 1) = r := by rw [← List.drop_drop, hd]; rfl
      simp only [rws, List.flatMap_cons, List.length_append] at hlen
      obtain ⟨σ1, z', h1, h2⟩ := hb t tb z (List.mem_of_getElem? hx) hn (by omega) y
      obtain ⟨h3, h4⟩ := fold_nst t.row tb hn
      obtain ⟨y', z2, h5⟩ := ih (i + 1) (t.row.foldl nst tb) (some (pv t)) z' m hd2 h3 (by simp only [rws]; omega) (by simpa using hm)
      refine ⟨y', z2, ?_⟩
      simp only [forGo, Wk.next, Sr.next, get_old _ hk, e1, h1, rf_ok, h2, h5, rws, List.flatMap_cons, List.foldl_append]
  obtain ⟨y', z', h⟩ := key (evN P79.pg (callN P79.pg 100000 200 j) 100000 199) [(.for_ (.name 3) (.seq (.call 12 [(.var 2)])) [(.ife (.cmp .notIn (.var 3) (.var 1)) [(.asg (.sub (.var 1) (.var 3)) (.bl .len [(.var 1)]))] [])])] (fun t tb z ht hn hlen y => by
      have hrow := row_in_pv (j := j) (st := st ++ [.dct false (enc iv tb)]) (ho t ht) (hj t ht) 12 (.inl rfl)
      have hrl := (ho t ht).2
      rw [← T.row_len] at hrl
      obtain ⟨z', h2⟩ := names_in (st := st) (V := evN P79.pg (callN P79.pg 100000 200 j) 100000 198) (b := [(.ife (.cmp .notIn (.var 3) (.var 1)) [(.asg (.sub (.var 1) (.var 3)) (.bl .len [(.var 1)]))] [])]) (d := .non) (x0 := some (.obj k)) (y := some (pv t)) (fun v σ st => by simp) (fun tb n hn hlen => by
        have hget : (st ++ [MO.dct false (enc iv tb)])[st.length]? = some (.dct false (enc iv tb)) := by simp
        by_cases hin : n ∈ ks tb
        · have e2 : nst tb n = tb := by unfold nst; rw [if_pos hin]
          simp [with_nm hget, lk_some_ks.mpr hin, Rf.truthy, e2]
        · have e2 : (lk tb n).isSome = false := by rw [lk_none_ks.mpr hin]; rfl
          simp [with_nm hget, e2, Rf.truthy, blSeqB, len_d hget, set_d hget (show tb.length < 16000000 by omega), nst_pt1 tb n hin]) t.row tb z 100000 hn (by omega) (by omega)
      refine ⟨_, z', by simp; rfl, ?_⟩
      simp
      rw [s_for _ _ _ (lock_tup (xs := t.row.map iv) (st1 := st ++ [.dct false (enc iv tb)]) (by simp [hrow]))]
      simp [hrow, h2]) l 0 [] none none 100000 rfl (by simp [ks]) (by simpa using (show (rws l).length < 15000000 by omega)) (by omega)
  have e0 : enc iv ([] : List (Nat × Nat)) = [] := rfl
  rw [e0] at h
  simp [P79.f17]
  rw [s_for _ _ _ (lock_lst (k := k) (xs := l.map pv) (st1 := st ++ [.dct false []]) (by simp) (get_old _ hk))]
  simp [get_old _ hk, h]
  simp only [R.trim, fnm]
  split
  · rfl
  · simp [PV.under]
theorem names_law_pv {l : List T} (ho : ∀ t ∈ l, t.ok) (hj : ∀ t ∈ l, t.hd + 1 ≤ j) (hl : l.length < 99999) (hr : (rws l).length < 14000000) :
    cl (j + 1) 48 [.tup (l.map pv)] st = .ok (.obj st.length) (st ++ [.dct false (enc iv (fnm (rws l)))]) := by
  rw [cl, call_eq P79.f48 48 j _ rfl rfl]
  have key : ∀ (V : Ev) (b : List Sm) (k : PV), (∀ (t : T) (tb : List (Nat × Nat)) (z : Option PV), t ∈ l → (ks tb).Nodup → tb.length + t.row.length < 15000000 → ∀ y, ∃ σ1 z', V.t (.name 2) (pv t) [some k, some (.obj st.length), y, z] (st ++ [.dct false (enc iv tb)]) = .ok σ1 (st ++ [.dct false (enc iv tb)]) ∧
      V.s b σ1 (st ++ [.dct false (enc iv tb)]) = .nx [some k, some (.obj st.length), some (pv t), z'] (st ++ [.dct false (enc iv (t.row.foldl nst tb))])) →
      ∀ (r : List T) (tb : List (Nat × Nat)) (y z : Option PV) (m : Nat), (∀ t ∈ r, t ∈ l) → (ks tb).Nodup → tb.length + (rws r).length < 15000000 → r.length < m →
      ∃ y' z', forGo V (.name 2) b m (.one (.fix (r.map pv))) [some k, some (.obj st.length), y, z] (st ++ [.dct false (enc iv tb)]) = .nx [some k, some (.obj st.length), y', z'] (st ++ [.dct false (enc iv ((rws r).foldl nst tb))]) := by
    intro V b k hb r
    induction r with
    | nil =>
      intro tb y z m _ _ _ hm
      obtain ⟨m, rfl⟩ : ∃ k, m = k + 1 := ⟨m - 1, by simp at hm; omega⟩
      exact ⟨y, z, by simp [forGo, nxt_nil, rws]⟩
    | cons t r ih =>
      intro tb y z m hs hn hlen hm
      obtain ⟨m, rfl⟩ : ∃ k, m = k + 1 := ⟨m - 1, by simp at hm; omega⟩
      simp only [rws, List.flatMap_cons, List.length_append] at hlen
      obtain ⟨σ1, z', h1, h2⟩ := hb t tb z (hs t (by simp)) hn (by omega) y
      obtain ⟨h3, h4⟩ := fold_nst t.row tb hn
      obtain ⟨y', z2, h5⟩ := ih (t.row.foldl nst tb) (some (pv t)) z' m (fun x hx => hs x (by simp [hx])) h3 (by simp only [rws]; omega) (by simpa using hm)
      refine ⟨y', z2, ?_⟩
      simp only [List.map_cons, forGo, nxt_cons, h1, rf_ok, h2, h5, rws, List.flatMap_cons, List.foldl_append]
  obtain ⟨y', z', h⟩ := key (evN P79.pg (callN P79.pg 100000 200 j) 100000 199) [(.for_ (.name 3) (.seq (.call 47 [(.var 2)])) [(.asg (.sub (.var 1) (.var 3)) (.bm (.var 1) .get2 [(.var 3), (.bl .len [(.var 1)])]))])] (.tup (l.map pv)) (fun t tb z ht hn hlen y => by
      have hrow := row_in_pv (j := j) (st := st ++ [.dct false (enc iv tb)]) (ho t ht) (hj t ht) 47 (.inr rfl)
      have hrl := (ho t ht).2
      rw [← T.row_len] at hrl
      obtain ⟨z', h2⟩ := names_in (st := st) (V := evN P79.pg (callN P79.pg 100000 200 j) 100000 198) (b := [(.asg (.sub (.var 1) (.var 3)) (.bm (.var 1) .get2 [(.var 3), (.bl .len [(.var 1)])]))]) (d := .non) (x0 := some (.tup (l.map pv))) (y := some (pv t)) (fun v σ st => by simp) (fun tb n hn hlen => by
        have hget : (st ++ [MO.dct false (enc iv tb)])[st.length]? = some (.dct false (enc iv tb)) := by simp
        have e2 : bmOf .get2 (.obj st.length) [.int n, .int tb.length] (st ++ [MO.dct false (enc iv tb)]) = .ok (iv ((lk tb n).getD tb.length)) (st ++ [MO.dct false (enc iv tb)]) := by
          simp only [bmOf, getR, hget, keyOk, if_true, look_enc]
          cases lk tb n <;> rfl
        have e3 : bmTy .get2 (.obj st.length) (st ++ [MO.dct false (enc iv tb)]) = true := by simp [bmTy]
        have e4 := set_d hget (show tb.length < 16000000 by omega) n ((lk tb n).getD tb.length)
        simp only [nst_pt2 hn] at e4
        simp [e3, blSeqB, len_d hget, e2, e4]) t.row tb z 100000 hn (by omega) (by omega)
      refine ⟨_, z', by simp; rfl, ?_⟩
      simp
      rw [s_for _ _ _ (lock_tup (xs := t.row.map iv) (st1 := st ++ [.dct false (enc iv tb)]) (by simp [hrow]))]
      simp [hrow, h2]) l [] none none 100000 (fun _ h => h) (by simp [ks]) (by simpa using (show (rws l).length < 15000000 by omega)) (by omega)
  have e0 : enc iv ([] : List (Nat × Nat)) = [] := rfl
  rw [e0] at h
  simp [P79.f48]
  rw [s_for _ _ _ (lock_tup (xs := l.map pv) (st1 := st ++ [.dct false []]) (by simp))]
  simp [h]
  simp only [R.trim, fnm]
  split
  · rfl
  · simp [PV.under]
/-- with plain names -/
def pln (t : T) : T := ren (nmF (fnm t.row)) t
theorem plain_in_pv {t : T} (ho : t.ok) (hj : t.hd + 3 ≤ j) (hc : Sto.closed st.length st = true) : cl (j + 1) 18 [pv t] st = .ok (pv (pln t)) st := by
  obtain ⟨i, rfl⟩ : ∃ i, j = i + 1 := ⟨j - 1, by omega⟩
  rw [cl, call_eq P79.f18 18 _ _ rfl rfl]
  have hrl := ho.2
  rw [← T.row_len] at hrl
  have h1 := first_names_pv (st := st ++ [.lst [pv t]]) (j := i) (k := st.length) (l := [t]) (by simp) (by simpa using ho) (by simp; omega) (by simp) (by simp [rws]; omega)
  have h2 := named_by_pv (j := i + 1) (t := t) (st := st ++ [.lst [pv t], .dct false (enc iv (fnm (rws [t])))]) (k := st.length + 1) (nm := fnm (rws [t])) ho (by omega) (by
    unfold Dn
    rw [List.getElem?_append_right (by omega)]
    simp)
  simp at h1
  simp [P79.f18, h1, h2]
  rw [trim_app _ _ (under_pv _ _) hc]
  simp [pln, rws]
theorem plain_home_pv {t : T} (ho : t.ok) (hj : 2 * t.hd + 5 ≤ j) (hc : Sto.closed st.length st = true) : cl (j + 1) 19 [pv t] st = .ok (pv (pln t)) st := by
  obtain ⟨i, rfl⟩ : ∃ i, j = i + 1 := ⟨j - 1, by omega⟩
  rw [cl, call_eq P79.f19 19 _ _ rfl rfl]
  simp [P79.f19, sure_home_pv (j := i) (st := st) ho (by omega), plain_in_pv (j := i) (st := st) ho (by omega) hc]
theorem plain_so_pv {l : List T} (ho : ∀ t ∈ l, t.ok) (hj : ∀ t ∈ l, t.hd + 2 ≤ j) (hl : l.length < 99999) (hr : (rws l).length < 14000000) (h0 : 0 < j) (hc : Sto.closed st.length st = true) :
    cl (j + 1) 55 [.tup (l.map pv)] st = .ok (.tup (l.map fun t => pv (ren (nmF (fnm (rws l))) t))) st := by
  obtain ⟨i, rfl⟩ : ∃ i, j = i + 1 := ⟨j - 1, by omega⟩
  rw [cl, call_eq P79.f55 55 _ _ rfl rfl]
  have h1 := names_law_pv (st := st) (j := i) ho (fun t ht => by have := hj t ht; omega) hl hr
  simp [P79.f55, h1, blSeqB]
  rw [comp_mapA (fun x => [some (.tup (l.map pv)), some (.obj st.length), none, some x]) (f := fun t => pv (ren (nmF (fnm (rws l))) t)) l 100000 [] (by omega) (fun x hx => ⟨by simp, by
    simp [named_by_pv, law_named_pv (j := i + 1) (ho x hx) (by have := hj x hx; omega) (show Dn (st ++ [.dct false (enc iv (fnm (rws l)))]) st.length (fnm (rws l)) by unfold Dn; simp)]⟩)]
  simp [blSeq]
  rw [trim_app _ _ ?_ hc]
  simp only [PV.under]
  exact unders_of fun x hx => by obtain ⟨t, _, rfl⟩ := List.mem_map.mp hx; exact under_pv _ _
end
end W79
end
section
set_option linter.all false
/-! W7: fillings, what is put -/
namespace W79
open PySem Rf
/-- a filling as a value -/
def pr (p : Nat × T) : PV := .tup [.int p.1, pv p.2]
def fv (l : List (Nat × T)) : PV := .tup (l.map pr)
/-- what a table's atoms become, those that change -/
def fill (l : List Nat) (s : Nat → T) : List (Nat × T) := (l.filter fun n => decide (s n ≠ .v n)).map fun n => (n, s n)
theorem cut_drop {α : Type} (xs : List α) (k : Nat) : cut xs (some (k : Int)) none = xs.drop k := by
  unfold cut clamp
  have h : (0 : Int) ≤ k := by omega
  simp only [h, if_true, Int.toNat_natCast]
  by_cases hk : k ≤ xs.length
  · rw [Nat.min_eq_left hk, List.take_of_length_le (by simp)]
  · rw [Nat.min_eq_right (by omega)]
    simp
    omega
theorem cut_take {α : Type} (xs : List α) (k : Nat) : cut xs none (some (k : Int)) = xs.take k := by
  unfold cut clamp
  have h : (0 : Int) ≤ k := by omega
  simp only [h, if_true, Int.toNat_natCast, List.drop_zero, Nat.sub_zero]
  by_cases hk : k ≤ xs.length
  · rw [Nat.min_eq_left hk]
  · rw [Nat.min_eq_right (by omega), List.take_of_length_le (by omega), List.take_of_length_le (by omega)]
theorem cut_1 {α : Type} (xs : List α) : cut xs (some 1) none = xs.drop 1 := cut_drop xs 1
theorem bools_zip {α β : Type} : ∀ (xs : List α) (ys : List β), bools (List.zipWith (fun _ _ => PV.bl true) xs ys) = some (List.zipWith (fun _ _ => true) xs ys)
  | [], _ => by simp [bools]
  | _ :: _, [] => by simp [bools]
  | x :: xs, y :: ys => by simp [bools, bools_zip xs ys]
theorem all_zip {α β : Type} : ∀ (xs : List α) (ys : List β), (List.zipWith (fun _ _ => true) xs ys).all id = true
  | [], _ => by simp
  | _ :: _, [] => by simp
  | x :: xs, y :: ys => by simp [all_zip xs ys]
theorem bools_all {α : Type} (l : List α) : bools (l.map fun _ => PV.bl true) = some (l.map fun _ => true) := by
  induction l with
  | nil => rfl
  | cons x l ih => simp [bools, ih]
theorem all_true {α : Type} (l : List α) : (l.map fun _ => true).all id = true := by induction l <;> simp_all
section
variable {st : Sto} {j : Nat}
theorem all_map {α : Type} (l : List α) : blSeq .all false (l.map fun _ => PV.bl true) st = .ok (.bl true) st := by
  have h := bools_all l
  simp only [blSeq, h, all_true]
theorem atoms_pv {t : T} (ho : t.ok) (hj : 2 * t.hd + 4 ≤ j) (hl : t.row.length < 999) (h2 : (sN t.row).length < 64) (hc : Sto.closed st.length st = true) : cl (j + 1) 13 [pv t] st = .ok (.tup ((sN t.row).map iv)) st := by
  obtain ⟨i, rfl⟩ : ∃ i, j = i + 1 := ⟨j - 1, by omega⟩
  rw [cl, call_eq P79.f13 13 _ _ rfl rfl]
  simp [P79.f13, sure_home_pv (j := i) (st := st) ho (by omega), row_in_pv (j := i + 1) (st := st) ho (by omega) 12 (.inl rfl), set_of_row (j := i) hl h2 hc]
theorem rises_lt {l : List Nat} (h : l.Pairwise (· < ·)) (hl : l.length < 99999) : cl (j + 1) 5 [.tup (l.map iv)] st = .ok (.bl true) st := by
  rw [cl, call_eq P79.f5 5 j _ rfl rfl]
  simp [P79.f5, blSeqB, sliceOf, cut_1]
  rw [comp_zip (τ := fun x y => [some (.tup (l.map iv)), none, some x, some y]) (f := fun _ _ => .bl true) (l.map iv) _ 100000 [] (by simp; omega) (fun x y hxy => ?_)]
  · simp [blSeq, bools_zip, all_zip]
  · rw [← List.drop_one, ← List.map_drop, List.zip_map] at hxy
    obtain ⟨⟨a, b⟩, hab, e⟩ := List.mem_map.mp hxy
    simp only [Prod.map_apply, Prod.mk.injEq] at e
    obtain ⟨rfl, rfl⟩ := e
    have key : ∀ l : List Nat, l.Pairwise (· < ·) → (a, b) ∈ l.zip (l.drop 1) → a < b := by
      intro l
      induction l with
      | nil => intro _ h; simp at h
      | cons c l ih =>
        intro h hm
        cases l with
        | nil => simp at hm
        | cons d l =>
          simp only [List.drop_succ_cons, List.drop_zero, List.zip_cons_cons, List.mem_cons, Prod.mk.injEq] at hm
          rcases hm with ⟨rfl, rfl⟩ | hm
          · exact (List.pairwise_cons.mp h).1 _ (by simp)
          · exact ih (List.pairwise_cons.mp h).2 (by simpa using hm)
    have hlt := key l h hab
    have : (a : Int) < b := by omega
    simp [this]
/-- keys that rise, homes not too large -/
structure FOk (l : List (Nat × T)) (d : Nat) : Prop where
  lt : (ks l).Pairwise (· < ·)
  ok : ∀ p ∈ l, p.2.ok ∧ p.2.hd ≤ d
  len : l.length < 1000
theorem is_filling_pv {l : List (Nat × T)} {d : Nat} (h : FOk l d) (hj : d + 4 ≤ j) : cl (j + 1) 20 [fv l] st = .ok (.bl true) st := by
  obtain ⟨i, rfl⟩ : ∃ i, j = i + 1 := ⟨j - 1, by omega⟩
  obtain ⟨i, rfl⟩ : ∃ m, i = m + 1 := ⟨i - 1, by omega⟩
  rw [cl, call_eq P79.f20 20 _ _ rfl rfl]
  have hl := h.len
  simp [P79.f20, fv, isin, kindOf, Rf.truthy, blSeqB]
  rw [comp_mapA (fun x => [some (.tup (l.map pr)), none, some x]) (f := fun _ => .bl true) l 100000 [] (by omega) (fun p hp => ⟨by simp, by simp [pr, is_tuple_of]⟩)]
  simp [all_map, Rf.truthy]
  rw [comp_mapA (fun x => [some (.tup (l.map pr)), none, some x]) (f := fun _ => .bl true) l 100000 [] (by omega) (fun p hp => ⟨by simp, by
    have := (h.ok p hp).2
    simp [pr, is_count_nat, Rf.truthy, is_home_pv (j := i + 1 + 1) (h.ok p hp).1 (by omega)]⟩)]
  simp [all_map, Rf.truthy]
  rw [comp_mapA (fun x => [some (.tup (l.map pr)), none, some x]) (f := fun p => iv p.1) l 100000 [] (by omega) (fun p hp => ⟨by simp, by simp [pr]⟩)]
  have e : (l.map fun p => iv p.1) = (ks l).map iv := by simp [ks]
  simp [e, blSeq, rises_lt (j := i + 1) h.lt (by simp [ks]; omega)]
theorem puB_fv {l : List (Nat × T)} {d k : Nat} (h : FOk l d) (hk : 2 * d + 4 ≤ k) : puB k (fv l) = true := by
  obtain ⟨k, rfl⟩ : ∃ m, k = m + 2 := ⟨k - 2, by omega⟩
  have hl : l.length < 99999 := by have := h.len; omega
  simp only [fv, puB, List.length_map, hl, decide_true, Bool.true_and, List.all_map]
  refine List.all_eq_true.mpr fun p hp => ?_
  obtain ⟨k, rfl⟩ : ∃ m, k = m + 1 := ⟨k - 1, by omega⟩
  have := (h.ok p hp).2
  simp [pr, puB, puB_pv (k := k + 1) (h.ok p hp).1 (by omega)]
theorem sure_filling_pv {l : List (Nat × T)} {d : Nat} (h : FOk l d) (hj : 2 * d + 5 ≤ j) : cl (j + 1) 21 [fv l] st = .ok (fv l) st := by
  obtain ⟨i, rfl⟩ : ∃ i, j = i + 1 := ⟨j - 1, by omega⟩
  rw [cl, call_eq P79.f21 21 _ _ rfl rfl]
  have h1 := tupled_pu (st := st) (puB_fv h (show 2 * d + 4 ≤ i + 1 by omega))
  simp [P79.f21, h1, is_filling_pv (j := i) (st := st) h (by omega), Rf.truthy]
theorem pairs_fv : ∀ l : List (Nat × T), pairsOf (l.map pr) = some (enc pv l)
  | [] => rfl
  | p :: l => by simp [pairsOf, pr, keyOk, pairs_fv l, enc]
theorem pt_new {tb : List (Nat × T)} {n : Nat} (h : n ∉ ks tb) (x : T) : pt tb n x = tb ++ [(n, x)] := by
  unfold pt
  rw [if_neg fun e => h (lk_some_ks.mp e)]
theorem merge_enc : ∀ (l tb : List (Nat × T)), (ks (tb ++ l)).Nodup → merge (enc pv tb) (enc pv l) = enc pv (tb ++ l)
  | [], tb, _ => by simp [merge, enc]
  | p :: l, tb, h => by
    have h1 : p.1 ∉ ks tb := by
      simp only [ks, List.map_append, List.map_cons] at h
      have := (List.nodup_append.mp h).2.2
      intro e
      exact this p.1 e p.1 (by simp) rfl
    have h2 : merge (enc pv tb) (enc pv (p :: l)) = merge (put (enc pv tb) (.int p.1) (pv p.2)) (enc pv l) := rfl
    rw [h2, put_enc, pt_new h1, merge_enc l _ (by simpa using h)]
    simp
theorem nodup_lt {l : List Nat} (h : l.Pairwise (· < ·)) : l.Nodup := h.imp fun h => Nat.ne_of_lt h
theorem dict_fv {l : List (Nat × T)} {d : Nat} (h : FOk l d) : blOf .dict [fv l] st = .ok (.obj st.length) (st ++ [.dct false (enc pv l)]) := by
  have e := merge_enc l [] (by simpa using nodup_lt h.lt)
  simp only [blOf, fv, blSeq, pairs_fv, newO, id]
  rw [← List.nil_append l] 
  simp only [List.nil_append] at e ⊢
  have e0 : enc pv ([] : List (Nat × T)) = [] := rfl
  rw [e0] at e
  rw [e]
theorem put_by_pv : ∀ {j : Nat} {t : T} {st : Sto} {k : Nat} {tb : List (Nat × T)}, t.ok → t.hd + 1 ≤ j → Dt st k tb → (∀ n u, lk tb n = some u → u.as.length < 5000) → cl j 22 [pv t, .obj k] st = .ok (pv (sub (tbF tb) t)) st
  | 0, t, st, k, tb, _, h, _, _ => by omega
  | j + 1, t, st, k, tb, ho, h, hd, hu => by
    rw [cl, call_eq P79.f22 22 j _ rfl rfl]
    have hl := ho.len
    have hw := with_nm hd t.gl
    simp [P79.f22, pv_eq t, blSeqB]
    rw [comp_mapA (fun x => [some (.tup [.tup (t.as.map pv), .int t.gl]), some (.obj k), none, none, none, none, some x]) (f := fun x => pv (sub (tbF tb) x)) t.as 100000 [] (by omega) (fun x hx => ⟨by simp, by
      have := T.hd_lt hx
      simp [put_by_pv (ho.sub hx) (show x.hd + 1 ≤ j by omega) hd hu]⟩)]
    rw [pv_eq, sub_as, sub_gl]
    cases e : lk tb t.gl with
    | none =>
      rw [e] at hw
      simp at hw
      simp [blSeq, hw, Rf.truthy, tbF, e]
    | some u =>
      rw [e] at hw
      simp at hw
      have h1 := item_d hd t.gl e
      have h2 := hu _ _ e
      have hb : t.as.length + u.as.length ≤ big := by unfold big; omega
      simp [blSeq, hw, Rf.truthy, h1]
      rw [pv_eq u]
      simp [tbF, e, hb]
theorem put_home_pv {t : T} {l : List (Nat × T)} {d : Nat} (ho : t.ok) (h : FOk l d) (hj : 2 * d + 6 ≤ j) (hj2 : 2 * t.hd + 4 ≤ j) (hc : Sto.closed st.length st = true) :
    cl (j + 1) 23 [pv t, fv l] st = .ok (pv (sub (tbF l) t)) st := by
  obtain ⟨i, rfl⟩ : ∃ i, j = i + 1 := ⟨j - 1, by omega⟩
  rw [cl, call_eq P79.f23 23 _ _ rfl rfl]
  have h1 : Dt (st ++ [.dct false (enc pv l)]) st.length l := by unfold Dt; simp
  have h2 := put_by_pv (j := i + 1) (t := t) ho (by omega) h1 (fun n u e => by
    have : ∃ p ∈ l, p.2 = u := by
      unfold lk at e
      obtain ⟨p, hp, e2⟩ := Option.map_eq_some_iff.mp e
      exact ⟨p, List.mem_of_find?_eq_some hp, e2⟩
    obtain ⟨p, hp, rfl⟩ := this
    have := (h.ok p hp).1.len
    omega)
  simp [P79.f23, sure_home_pv (j := i) (st := st) ho (by omega), sure_filling_pv (j := i) (st := st) h (by omega), blSeqB, dict_fv h, h2]
  rw [trim_app _ _ (under_pv _ _) hc]
theorem sortN_nodup {l : List Nat} (h : l.Nodup) : sortN l = sN l := by
  have h2 : (sortN l).Pairwise (· < ·) := by
    have h3 : (sortN l).Nodup := (sortN_perm l).nodup_iff.mpr h
    have := (sortN_asc l).and h3
    exact this.imp fun ⟨a, b⟩ => by omega
  exact strict_eq (fun x => by rw [sN_mem, (sortN_perm l).mem_iff]) h2 (sN_lt l)
theorem sorted_d {α : Type} {f : α → PV} {k : Nat} {tb : List (Nat × α)} (h : st[k]? = some (.dct false (enc f tb))) (hn : (ks tb).Nodup) (hl : tb.length < 64) : blOf .sorted [.obj k] st = .ok (.obj st.length) (st ++ [.lst ((sN (ks tb)).map iv)]) := by
  have e : (enc f tb).map (·.1) = (ks tb).map iv := by simp [enc, ks]
  have e2 : pints ((ks tb).map iv) = some ((ks tb).map fun n : Nat => (n : Int)) := ints_nat _
  have hl2 : (ks tb).length < 64 := by simpa [ks] using hl
  simp only [blOf, h, e, e2, List.length_map, hl2, if_true, newO, id, sortN_c, List.map_map, sortN_nodup hn]
  rfl
theorem comp_live_fil {V : Ev} {σ : Rf.Loc} {st : Sto} {α : Type} {elt c : Ex} {tg : Tg} {e f : α → PV} {p : α → Bool} (τ : PV → Rf.Loc) (k : Nat) (l : List α) (hk : st[k]? = some (.lst (l.map e)))
    (h : ∀ x ∈ l, V.t tg (e x) σ st = .ok (τ (e x)) st ∧ tst V.e c (τ (e x)) st = .ok (p x) st ∧ (p x = true → V.e elt (τ (e x)) st = .ok (f x) st)) : ∀ (r : List α) (i m : Nat) (acc : List PV), l.drop i = r → r.length < m →
    compGo V elt tg (some c) σ m (.one (.live k i)) acc st = .ok (acc.reverse ++ (r.filter p).map f) st
  | [], i, m + 1, acc, hr, _ => by
    have e1 : (l.map e)[i]? = none := by simp; exact List.drop_eq_nil_iff.mp hr
    simp [compGo, Wk.next, Sr.next, hk, e1]
  | x :: r, i, m + 1, acc, hr, hm => by
    have hx : l[i]? = some x := by rw [← List.head?_drop, hr]; rfl
    have e1 : (l.map e)[i]? = some (e x) := by rw [List.getElem?_map, hx]; rfl
    have h1 := h x (List.mem_of_getElem? hx)
    have hd : l.drop (i + 1) = r := by rw [← List.drop_drop, hr]; rfl
    simp only [compGo, Wk.next, Sr.next, hk, e1, h1.1, h1.2.1, nx_ok, rb_ok]
    cases hp : p x with
    | true =>
      simp only [h1.2.2 hp, nx_ok, rb_ok]
      rw [comp_live_fil τ k l hk h r (i + 1) m (f x :: acc) hd (by simpa using hm)]
      simp [hp]
    | false =>
      simp only
      rw [comp_live_fil τ k l hk h r (i + 1) m acc hd (by simpa using hm)]
      simp [hp]
theorem filling_of_pv {k : Nat} {tb : List (Nat × T)} (h : Dt st k tb) (hn : (ks tb).Nodup) (hl : tb.length < 64) (hd : ∀ n u, lk tb n = some u → u.hd ≤ 29) (hc : Sto.closed st.length st = true) :
    cl (j + 1) 24 [.obj k] st = .ok (fv (fill (sN (ks tb)) (tbF tb))) st := by
  rw [cl, call_eq P79.f24 24 j _ rfl rfl]
  have hs := sorted_d h hn hl
  have h1 : Dt (st ++ [.lst ((sN (ks tb)).map iv)]) k tb := get_old _ h
  have hl2 : (sN (ks tb)).length < 99999 := by
    have : (sN (ks tb)).length = (ks tb).length := by rw [← sortN_nodup hn]; exact (sortN_perm _).length_eq
    have h3 : (ks tb).length = tb.length := by simp [ks]
    omega
  simp [P79.f24, blSeqB, hs]
  rw [comp_live_fil (e := iv) (f := fun n => pr (n, tbF tb n)) (p := fun n => decide (tbF tb n ≠ .v n)) (fun x => [some (.obj k), none, some x]) st.length (sN (ks tb)) (by simp) (fun n hn2 => by
    have hn3 := sN_mem.mp hn2
    obtain ⟨u, hu⟩ := Option.isSome_iff_exists.mp (lk_some_ks.mpr hn3)
    have e1 := item_d h1 n hu
    have e2 : tbF tb n = u := by simp [tbF, hu]
    have e3 := eqD_pv (st := st ++ [.lst ((sN (ks tb)).map iv)]) (t := u) (u := .v n) (hd _ _ hu) (by simp)
    rw [pv_v] at e3
    refine ⟨by simp, ?_, fun _ => ?_⟩
    · simp [e1, e3, Rf.truthy, e2]
    · simp [e1, pr, e2]) (sN (ks tb)) 0 100000 [] rfl (by omega)]
  simp [blSeq]
  rw [trim_app _ _ ?_ hc]
  · simp only [fv, fill, List.map_map, List.reverse_nil, List.nil_append, ne_eq, decide_not]
    rfl
  · simp only [PV.under]
    exact unders_of fun x hx => by
      obtain ⟨n, _, rfl⟩ := List.mem_map.mp hx
      simp [pr, PV.under, PV.unders, under_pv]
end
end W79
end
section
set_option linter.all false
/-! W8: put behind, named, fits -/
namespace W79
open PySem Rf
theorem get_app (st m : Sto) (k : Nat) : (st ++ m)[st.length + k]? = m[k]? := by
  rw [List.getElem?_append_right (by omega)]; congr 1; omega
theorem set_app (st m : Sto) (k : Nat) (o : MO) : (st ++ m).set (st.length + k) o = st ++ m.set k o := by
  rw [List.set_append_right _ _ (by omega)]; congr 2; omega
theorem nodup_le : ∀ {l m : List Nat}, l.Nodup → (∀ x ∈ l, x ∈ m) → l.length ≤ m.length
  | [], _, _, _ => Nat.zero_le _
  | x :: l, m, hn, hs => by
    obtain ⟨h1, h2⟩ := List.nodup_cons.mp hn
    have hx : x ∈ m := hs x List.mem_cons_self
    have ih := nodup_le h2 (m := m.erase x) fun y hy => (List.mem_erase_of_ne (fun e : y = x => h1 (e ▸ hy))).2 (hs y (List.mem_cons_of_mem _ hy))
    have e := List.length_erase_of_mem hx
    have hp := List.length_pos_of_mem hx
    rw [List.length_cons]
    omega
mutual
theorem under_mono {n m : Nat} (h : n ≤ m) : ∀ x : PV, PV.under n x = true → PV.under m x = true
  | .tup xs, e => unders_mono h xs (by simpa [PV.under] using e)
  | .rol xs, e => unders_mono h xs (by simpa [PV.under] using e)
  | .obj k, e => by
    have e2 : Nat.blt k n = true := e
    have e3 : k < n := by simpa [Nat.blt_eq] using e2
    show Nat.blt k m = true
    simp [Nat.blt_eq]
    omega
  | .non, _ => rfl
  | .bl _, _ => rfl
  | .int _, _ => rfl
  | .str _, _ => rfl
theorem unders_mono {n m : Nat} (h : n ≤ m) : ∀ l : List PV, PV.unders n l = true → PV.unders m l = true
  | [], _ => rfl
  | x :: r, e => by
    simp only [PV.unders, Bool.and_eq_true] at e ⊢
    exact ⟨under_mono h x e.1, unders_mono h r e.2⟩
end
theorem mo_mono {n m : Nat} (h : n ≤ m) (o : MO) (e : MO.under n o = true) : MO.under m o = true := by
  cases o with
  | lst xs => exact unders_mono h xs e
  | dct l kvs =>
    simp only [MO.under, List.all_eq_true, Bool.and_eq_true] at e ⊢
    exact fun p hp => ⟨under_mono h _ (e p hp).1, under_mono h _ (e p hp).2⟩
  | ins c fs =>
    simp only [MO.under, List.all_eq_true] at e ⊢
    exact fun p hp => under_mono h _ (e p hp)
theorem closed_app {st m : Sto} (hc : Sto.closed st.length st = true) (h : ∀ o ∈ m, ∀ n, MO.under n o = true) : Sto.closed (st ++ m).length (st ++ m) = true := by
  unfold Sto.closed at *
  simp only [List.all_eq_true, List.mem_append, List.length_append] at hc ⊢
  rintro o (ho | ho)
  · exact mo_mono (by omega) o (hc o ho)
  · exact h o ho _
theorem under_enc (n : Nat) (tb : List (Nat × T)) : MO.under n (.dct false (enc pv tb)) = true := by
  simp only [MO.under, List.all_eq_true, Bool.and_eq_true, enc]
  intro p hp
  obtain ⟨q, _, rfl⟩ := List.mem_map.mp hp
  exact ⟨rfl, under_pv _ _⟩
theorem under_ivs (n : Nat) (l : List Nat) : MO.under n (.lst (l.map iv)) = true := by
  simp only [MO.under]
  exact unders_of fun x hx => by obtain ⟨k, _, rfl⟩ := List.mem_map.mp hx; rfl
/-- a table that grows by what a function says -/
def grow (c : Nat → T) (tb : List (Nat × T)) (n : Nat) : List (Nat × T) := pt tb n (c n)
theorem grow_lk (c : Nat → T) : ∀ (l : List Nat) (tb : List (Nat × T)) (n : Nat), lk (l.foldl (grow c) tb) n = if n ∈ l then some (c n) else lk tb n
  | [], tb, n => by simp
  | m :: l, tb, n => by
    rw [List.foldl_cons, grow_lk c l]
    by_cases h : n ∈ l
    · simp [h]
    · unfold grow
      rw [lk_pt]
      by_cases e : n = m <;> simp [h, e]
theorem ks_nodup_pt {tb : List (Nat × T)} (h : (ks tb).Nodup) (n : Nat) (x : T) : (ks (pt tb n x)).Nodup := by
  rw [ks_pt]
  split
  · exact h
  · rename_i hn
    rw [List.nodup_append]
    exact ⟨h, by simp, fun a ha b hb => by simp at hb; subst hb; exact fun e => hn (e ▸ ha)⟩
theorem grow_nodup (c : Nat → T) : ∀ (l : List Nat) (tb : List (Nat × T)), (ks tb).Nodup → (ks (l.foldl (grow c) tb)).Nodup
  | [], tb, h => h
  | m :: l, tb, h => grow_nodup c l _ (ks_nodup_pt h m _)
theorem grow_mem (c : Nat → T) (l : List Nat) (n : Nat) : n ∈ ks (l.foldl (grow c) []) ↔ n ∈ l := by
  rw [← lk_some_ks, grow_lk]
  by_cases h : n ∈ l <;> simp [h]
theorem fill_grow (c : Nat → T) (l : List Nat) : fill (sN (ks (l.foldl (grow c) []))) (tbF (l.foldl (grow c) [])) = fill (sN l) c := by
  have e : sN (ks (l.foldl (grow c) [])) = sN l := strict_eq (fun x => by rw [sN_mem, sN_mem, grow_mem]) (sN_lt _) (sN_lt _)
  rw [e]
  have h : ∀ n ∈ sN l, tbF (l.foldl (grow c) []) n = c n := fun n hn => by
    unfold tbF
    rw [grow_lk, if_pos (sN_mem.mp hn)]
    rfl
  unfold fill
  have e2 : (sN l).filter (fun n => decide (tbF (l.foldl (grow c) []) n ≠ .v n)) = (sN l).filter (fun n => decide (c n ≠ .v n)) := List.filter_congr fun n hn => by rw [h n hn]
  rw [e2]
  refine List.map_congr_left fun n hn => ?_
  rw [h n (List.mem_filter.mp hn).1]
section
variable {st : Sto} {j : Nat}
theorem list_d {k : Nat} {tb : List (Nat × T)} (h : Dt st k tb) : blOf .list [.obj k] st = .ok (.obj st.length) (st ++ [.lst ((ks tb).map iv)]) := by
  unfold Dt at h
  have e : (enc pv tb).map (·.1) = (ks tb).map iv := by simp [enc, ks]
  simp [blOf, h, e, newO]
theorem lk_mem {l : List (Nat × T)} {n : Nat} {u : T} (e : lk l n = some u) : ∃ p ∈ l, p.2 = u := by
  unfold lk at e
  obtain ⟨p, hp, e2⟩ := Option.map_eq_some_iff.mp e
  exact ⟨p, List.mem_of_find?_eq_some hp, e2⟩
theorem tbF_ok {l : List (Nat × T)} {d : Nat} (h : FOk l d) (n : Nat) : (tbF l n).ok ∧ (tbF l n).hd ≤ d := by
  unfold tbF
  cases e : lk l n with
  | none => exact ⟨⟨by simp, by simp⟩, by simp⟩
  | some u =>
    obtain ⟨p, hp, rfl⟩ := lk_mem e
    exact h.ok p hp
theorem put_behind_pv {f1 f2 : List (Nat × T)} {d d2 : Nat} (h1 : FOk f1 d) (h2 : FOk f2 d2) (hl : (ks f1 ++ ks f2).length < 64) (hm : ∀ n ∈ ks f1 ++ ks f2, (sub (tbF f2) (tbF f1 n)).ok) (hj : 2 * d + 6 ≤ j) (hj2 : 2 * d2 + 6 ≤ j) (hc : Sto.closed st.length st = true) :
    cl (j + 1) 25 [fv f1, fv f2] st = .ok (fv (fill (sN (ks f1 ++ ks f2)) fun n => sub (tbF f2) (tbF f1 n))) st := by
  obtain ⟨i, rfl⟩ : ∃ i, j = i + 1 := ⟨j - 1, by omega⟩
  rw [cl, call_eq P79.f25 25 _ _ rfl rfl]
  have s1 := sure_filling_pv (j := i) (st := st) h1 (by omega)
  have s2 := sure_filling_pv (j := i) (st := st ++ [.dct false (enc pv f1)]) h2 (by omega)
  have d1 := dict_fv (st := st) h1
  have d2 := dict_fv (st := st ++ [.dct false (enc pv f1)]) h2
  let c : Nat → T := fun n => sub (tbF f2) (tbF f1 n)
  let all : List Nat := ks f1 ++ ks f2
  let G : List (Nat × T) → Sto := fun tb => st ++ [.dct false (enc pv f1), .dct false (enc pv f2), .dct false (enc pv tb), .lst ((ks f1).map iv), .lst ((ks f2).map iv), .lst (all.map iv)]
  have g0 : ∀ tb, Dt (G tb) st.length f1 := fun tb => by show (st ++ _)[st.length]? = _; simp
  have g1 : ∀ tb, Dt (G tb) (st.length + 1) f2 := fun tb => get_app _ _ 1
  have g2 : ∀ tb, Dt (G tb) (st.length + 2) tb := fun tb => get_app _ _ 2
  have gset : ∀ tb o, (G tb).set (st.length + 2) (.dct false (enc pv o)) = G o := fun tb o => set_app _ _ 2 _
  have u1 : ∀ n u, lk f1 n = some u → u.as.length < 5000 := fun n u e => by
    obtain ⟨p, hp, rfl⟩ := lk_mem e
    have := (h1.ok p hp).1.len
    omega
  have u2 : ∀ n u, lk f2 n = some u → u.as.length < 5000 := fun n u e => by
    obtain ⟨p, hp, rfl⟩ := lk_mem e
    have := (h2.ok p hp).1.len
    omega
  obtain ⟨σ', st', hgo, z, hσ, hst, hn, hs⟩ := for_live (V := evN P79.pg (callN P79.pg 100000 200 (i + 1)) 100000 199) (t := .name 5) (b := [(.asg (.sub (.var 4) (.var 5)) (.call 22 [(.call 22 [(.tup [(.tup []), (.var 5)]), (.var 2)]), (.var 3)]))]) (st.length + 5) iv (grow c)
    (fun tb σ s => ∃ z, σ = [some (fv f1), some (fv f2), some (.obj st.length), some (.obj (st.length + 1)), some (.obj (st.length + 2)), z] ∧ s = G tb ∧ (ks tb).Nodup ∧ ∀ n ∈ ks tb, n ∈ all) all
    (fun tb σ s ⟨z, _, e, _⟩ => by rw [e]; exact get_app _ _ 5)
    (fun tb σ s n hn ⟨z, e1, e2, e3, e4⟩ => by
      have hlen : tb.length < 16000000 := by
        have := nodup_le e3 e4
        simp only [ks, List.length_map] at this
        have : all.length < 64 := hl
        omega
      subst e1 e2
      have ok1 := tbF_ok h1 n
      have p1 := put_by_pv (j := i + 1) (t := .v n) (st := G tb) ⟨by simp, by simp⟩ (by simp) (g0 tb) u1
      have p2 := put_by_pv (j := i + 1) (t := tbF f1 n) (st := G tb) ok1.1 (by have := ok1.2; omega) (g1 tb) u2
      rw [pv_v, sub_v] at p1
      have p3 := set_d (f := pv) (g2 tb) hlen n (c n)
      rw [gset] at p3
      refine ⟨_, _, _, _, by simp; exact ⟨rfl, rfl⟩, by
        simp [p1, p2]
        rw [show pv (sub (tbF f2) (tbF f1 n)) = pv (c n) from rfl, p3]
        simp
        exact ⟨rfl, rfl⟩, ?_⟩
      refine ⟨_, rfl, rfl, ks_nodup_pt e3 _ _, fun m hm => ?_⟩
      unfold grow at hm
      rw [ks_pt] at hm
      split at hm
      · exact e4 m hm
      · rcases List.mem_append.mp hm with hm | hm
        · exact e4 m hm
        · simp at hm; subst hm; exact hn)
    all 0 [] 100000 [some (fv f1), some (fv f2), some (.obj st.length), some (.obj (st.length + 1)), some (.obj (st.length + 2)), none] (G []) rfl (Nat.zero_le _) ⟨none, rfl, rfl, by simp [ks], by simp [ks]⟩ (by have : all.length < 64 := hl; omega)
  subst hσ hst
  have hfin := filling_of_pv (j := i) (k := st.length + 2) (st := G (all.foldl (grow c) [])) (g2 _) hn (by
      have := nodup_le hn hs
      simp only [ks, List.length_map] at this
      have : all.length < 64 := hl
      omega) (fun n u e => by
      rw [grow_lk] at e
      by_cases hin : n ∈ all
      · simp only [hin, if_true, Option.some.injEq] at e
        subst e
        have := (hm n hin).1
        show (sub (tbF f2) (tbF f1 n)).hd ≤ 29
        omega
      · simp [hin] at e)
  have hcl : Sto.closed (G (all.foldl (grow c) [])).length (G (all.foldl (grow c) [])) = true := by
    refine closed_app hc fun o ho n => ?_
    simp only [List.mem_cons, List.not_mem_nil, or_false] at ho
    rcases ho with rfl | rfl | rfl | rfl | rfl | rfl
    · exact under_enc _ _
    · exact under_enc _ _
    · exact under_enc _ _
    · exact under_ivs _ _
    · exact under_ivs _ _
    · exact under_ivs _ _
  have d3 := list_d (st := st ++ [.dct false (enc pv f1), .dct false (enc pv f2), .dct false []]) (k := st.length) (tb := f1) (by unfold Dt; simp)
  have d4 := list_d (st := st ++ [.dct false (enc pv f1), .dct false (enc pv f2), .dct false [], .lst ((ks f1).map iv)]) (k := st.length + 1) (tb := f2) (by unfold Dt; exact get_app _ _ 1)
  simp at d2 d3 d4
  have hfin2 := hfin hcl
  rw [fill_grow] at hfin2
  have l3 : (st ++ [MO.dct false (enc pv f1), .dct false (enc pv f2), .dct false [], .lst ((ks f1).map iv), .lst ((ks f2).map iv)])[st.length + 3]? = some (.lst ((ks f1).map iv)) := get_app _ _ 3
  have l4 : (st ++ [MO.dct false (enc pv f1), .dct false (enc pv f2), .dct false [], .lst ((ks f1).map iv), .lst ((ks f2).map iv)])[st.length + 4]? = some (.lst ((ks f2).map iv)) := get_app _ _ 4
  have hb : (ks f1).length + (ks f2).length ≤ big := by rw [← List.length_append]; unfold big; omega
  have hadd : (evN P79.pg (callN P79.pg 100000 200 (i + 1)) 100000 199).e (.bin .add (.bl .list [(.var 2)]) (.bl .list [(.var 3)])) [some (fv f1), some (fv f2), some (.obj st.length), some (.obj (st.length + 1)), some (.obj (st.length + 2)), none] (st ++ [.dct false (enc pv f1), .dct false (enc pv f2), .dct false []]) = .ok (.obj (st.length + 5)) (G []) := by
    simp [d3, d4, blSeqB, binop, l3, l4, hb, newO]
    simp [G, all, enc]
  have e0 : enc pv ([] : List (Nat × T)) = [] := rfl
  simp [P79.f25, s1, d1, blSeqB]
  simp [s2, d2, blSeqB]
  rw [s_for _ _ _ (lock_lst hadd (get_app _ _ 5))]
  simp only [w_seq, sr_bin, srcE_eq, hadd, rb_ok]
  have l5 : (G [])[st.length + 5]? = some (.lst (all.map iv)) := get_app _ _ 5
  simp only [l5, rb_ok, rf_ok, hgo, fs_nx]
  simp [hfin2]
  rw [trim_app _ _ ?_ hc]
  simp only [fv, PV.under]
  exact unders_of fun x hx => by
    obtain ⟨n, _, rfl⟩ := List.mem_map.mp hx
    simp [pr, PV.under, PV.unders, under_pv]
end
end W79
end
section
set_option linter.all false
/-! U1: what is put one behind another; sizes; arrows within -/
namespace W79
open PySem Rf
theorem sub_id : ∀ t : T, sub T.v t = t
  | .v n => rfl
  | .a x y => by simp [sub_id x, sub_id y]
theorem sub_sub (s r : Nat → T) : ∀ t : T, sub r (sub s t) = sub (fun n => sub r (s n)) t
  | .v n => rfl
  | .a x y => by simp [sub_sub s r x, sub_sub s r y]
theorem sub_congr {s r : Nat → T} : ∀ {t : T}, (∀ n ∈ t.row, s n = r n) → sub s t = sub r t
  | .v n, h => h n (by simp)
  | .a x y, h => by
    rw [sub_a, sub_a, sub_congr fun n hn => h n (by simp [hn]), sub_congr (t := y) fun n hn => h n (by simp [hn])]
theorem sub_bd (s : Nat → T) (l : List T) (e : T) : sub s (.bd l e) = .bd (l.map (sub s)) (sub s e) := by
  induction l with
  | nil => rfl
  | cons x l ih => simp [ih]
theorem sub_self (s : Nat → T) (t : T) : sub s t = .bd (t.as.map (sub s)) (s t.gl) := by
  have := sub_bd s t.as (.v t.gl)
  rw [T.bd_self] at this
  exact this
theorem sub_row {s : Nat → T} {m : Nat} : ∀ {t : T}, m ∈ (sub s t).row ↔ ∃ n ∈ t.row, m ∈ (s n).row
  | .v n => by simp
  | .a x y => by
    rw [sub_a, T.row_a, List.mem_append, sub_row, sub_row]
    simp only [T.row_a, List.mem_append]
    constructor
    · rintro (⟨n, h1, h2⟩ | ⟨n, h1, h2⟩)
      · exact ⟨n, .inl h1, h2⟩
      · exact ⟨n, .inr h1, h2⟩
    · rintro ⟨n, h1 | h1, h2⟩
      · exact .inl ⟨n, h1, h2⟩
      · exact .inr ⟨n, h1, h2⟩
theorem pl_sub (s : Nat → T) : ∀ t : T, t.pl ≤ (sub s t).pl
  | .v n => by simp; exact T.pl_pos _
  | .a x y => by have := pl_sub s x; have := pl_sub s y; simp; omega
theorem hd_sub (s : Nat → T) : ∀ t : T, t.hd ≤ (sub s t).hd
  | .v n => by simp
  | .a x y => by have := hd_sub s x; have := hd_sub s y; simp; omega
theorem pl_in {s : Nat → T} {n : Nat} : ∀ {t : T}, n ∈ t.row → (s n).pl ≤ (sub s t).pl
  | .v m, h => by simp at h; simp [h]
  | .a x y, h => by
    simp only [T.row_a, List.mem_append] at h
    rcases h with h | h
    · have := pl_in (s := s) h; simp; omega
    · have := pl_in (s := s) h; simp; omega
theorem pl_in_a {s : Nat → T} {n : Nat} {x y : T} (h : n ∈ (T.a x y).row) : (s n).pl < (sub s (.a x y)).pl := by
  simp only [T.row_a, List.mem_append] at h
  have p1 := T.pl_pos (sub s x)
  have p2 := T.pl_pos (sub s y)
  rcases h with h | h
  · have := pl_in (s := s) h; simp; omega
  · have := pl_in (s := s) h; simp; omega
theorem bd_inj : ∀ {l m : List T} {e f : T}, l.length = m.length → T.bd l e = T.bd m f → l = m ∧ e = f
  | [], [], _, _, _, h => ⟨rfl, h⟩
  | x :: l, y :: m, e, f, hl, h => by
    simp only [T.bd_cons, T.a.injEq] at h
    obtain ⟨h1, h2⟩ := bd_inj (by simpa using hl) h.2
    exact ⟨by rw [h.1, h1], h2⟩
  | [], _ :: _, _, _, hl, _ => by simp at hl
  | _ :: _, [], _, _, hl, _ => by simp at hl
/-- the arrows within -/
def asub : T → List T
  | .v _ => []
  | .a x y => .a x y :: (asub x ++ asub y)
theorem asub_len : ∀ t : T, (asub t).length + 1 = t.pl
  | .v _ => rfl
  | .a x y => by have := asub_len x; have := asub_len y; simp [asub]; omega
theorem asub_pl : ∀ {t r : T}, r ∈ asub t → r.pl ≤ t.pl
  | .v _, r, h => by simp [asub] at h
  | .a x y, r, h => by
    simp only [asub, List.mem_cons, List.mem_append] at h
    rcases h with rfl | h | h
    · exact Nat.le_refl _
    · have := asub_pl h; simp; omega
    · have := asub_pl h; simp; omega
theorem asub_row : ∀ {t r : T}, r ∈ asub t → ∀ n ∈ r.row, n ∈ t.row
  | .v _, r, h => by simp [asub] at h
  | .a x y, r, h => by
    simp only [asub, List.mem_cons, List.mem_append] at h
    intro n hn
    rcases h with rfl | h | h
    · exact hn
    · simp [asub_row h n hn]
    · simp [asub_row h n hn]
theorem asub_sub {s : Nat → T} {r : T} : ∀ {t : T}, r ∈ asub (sub s t) → (∃ q ∈ asub t, r = sub s q) ∨ ∃ n ∈ t.row, r ∈ asub (s n)
  | .v n, h => .inr ⟨n, by simp, h⟩
  | .a x y, h => by
    simp only [sub_a, asub, List.mem_cons, List.mem_append] at h
    rcases h with rfl | h | h
    · exact .inl ⟨.a x y, by simp [asub], rfl⟩
    · rcases asub_sub h with ⟨q, h1, h2⟩ | ⟨n, h1, h2⟩
      · exact .inl ⟨q, by simp [asub, h1], h2⟩
      · exact .inr ⟨n, by simp [h1], h2⟩
    · rcases asub_sub h with ⟨q, h1, h2⟩ | ⟨n, h1, h2⟩
      · exact .inl ⟨q, by simp [asub, h1], h2⟩
      · exact .inr ⟨n, by simp [h1], h2⟩
theorem asub_bd {r e : T} : ∀ (l : List T), r ∈ asub e → r ∈ asub (.bd l e)
  | [], h => h
  | x :: l, h => by simp [asub, asub_bd l h]
theorem asub_as {r z t : T} (hz : z ∈ t.as) (h : r ∈ asub z) : r ∈ asub t := by
  induction t with
  | v n => simp at hz
  | a x y _ ih =>
    simp only [T.as_a, List.mem_cons] at hz
    simp only [asub, List.mem_cons, List.mem_append]
    rcases hz with rfl | hz
    · exact .inr (.inl h)
    · exact .inr (.inr (ih hz))
/-- few unlike arrows: not large -/
theorem dag : ∀ (k : Nat) (V : List T) (t : T), t.pl ≤ k → (∀ r ∈ asub t, r ∈ V) → t.pl ≤ 2 ^ V.length ∧ t.hd ≤ V.length
  | 0, V, t, hk, _ => by have := T.pl_pos t; omega
  | k + 1, V, .v n, _, _ => by simp; exact Nat.pos_of_ne_zero (by simp)
  | k + 1, V, .a x y, hk, h => by
    have hx := T.pl_pos x
    have hy := T.pl_pos y
    simp only [T.pl_a] at hk
    have hm : T.a x y ∈ V := h _ (by simp [asub])
    have hle := List.length_erase_of_mem hm
    have hpos := List.length_pos_of_mem hm
    have h1 := dag k (V.erase (.a x y)) x (by omega) fun r hr => by
      refine (List.mem_erase_of_ne ?_).mpr (h r (by simp [asub, hr]))
      intro e
      have := asub_pl hr
      rw [e] at this
      simp at this
      omega
    have h2 := dag k (V.erase (.a x y)) y (by omega) fun r hr => by
      refine (List.mem_erase_of_ne ?_).mpr (h r (by simp [asub, hr]))
      intro e
      have := asub_pl hr
      rw [e] at this
      simp at this
      omega
    rw [hle] at h1 h2
    have e2 : 2 ^ V.length = 2 ^ (V.length - 1) + 2 ^ (V.length - 1) := by
      obtain ⟨m, hm⟩ : ∃ m, V.length = m + 1 := ⟨V.length - 1, by omega⟩
      rw [hm, Nat.pow_succ]
      simp
      omega
    simp only [T.pl_a, T.hd_a]
    rw [e2]
    omega
/-- places in common -/
def cm : T → T → Nat
  | .a x y, .a x' y' => cm x x' + cm y y'
  | _, _ => 1
theorem cm_pos : ∀ t u : T, 0 < cm t u
  | .a x y, .a x' y' => by have := cm_pos x x'; simp [cm]; omega
  | .v _, .v _ => by simp [cm]
  | .v _, .a _ _ => by simp [cm]
  | .a _ _, .v _ => by simp [cm]
theorem cm_pl : ∀ t u : T, cm t u ≤ t.pl
  | .a x y, .a x' y' => by have := cm_pl x x'; have := cm_pl y y'; simp [cm]; omega
  | .v _, .v _ => by simp [cm]
  | .v _, .a _ _ => by simp [cm]
  | .a x y, .v _ => by have := T.pl_pos x; simp [cm]; omega
theorem cm_bd : ∀ (l m : List T) (e f : T), l.length = m.length → cm (.bd l e) (.bd m f) = ((l.zip m).map fun p => cm p.1 p.2).sum + cm e f
  | [], [], e, f, _ => by simp
  | x :: l, y :: m, e, f, h => by
    have := cm_bd l m e f (by simpa using h)
    simp [cm, this, Nat.add_assoc]
  | [], _ :: _, _, _, h => by simp at h
  | _ :: _, [], _, _, h => by simp at h
/-! ### the same up to names -/
theorem ren_congr {f g : Nat → Nat} {t : T} (h : ∀ n ∈ t.row, f n = g n) : ren f t = ren g t := sub_congr fun n hn => by rw [h n hn]
theorem ren_ren (f g : Nat → Nat) (t : T) : ren g (ren f t) = ren (fun n => g (f n)) t := by unfold ren; rw [sub_sub]; rfl
theorem ren_row (f : Nat → Nat) : ∀ t : T, (ren f t).row = t.row.map f
  | .v n => rfl
  | .a x y => by
    have h1 := ren_row f x
    have h2 := ren_row f y
    unfold ren at *
    simp [h1, h2]
theorem vars_of {s : Nat → T} : ∀ {t : T}, (sub s t).pl = t.pl → ∀ n ∈ t.row, ∃ m, s n = .v m
  | .v n, h, k, hk => by
    simp at hk
    subst hk
    simp only [sub_v, T.pl_v] at h
    cases e : s k with
    | v m => exact ⟨m, rfl⟩
    | a x y =>
      rw [e] at h
      have := T.pl_pos x
      have := T.pl_pos y
      simp at h
      omega
  | .a x y, h, k, hk => by
    have h1 := pl_sub s x
    have h2 := pl_sub s y
    simp only [sub_a, T.pl_a] at h
    simp only [T.row_a, List.mem_append] at hk
    rcases hk with hk | hk
    · exact vars_of (t := x) (by omega) k hk
    · exact vars_of (t := y) (by omega) k hk
theorem fnm_map {f : Nat → Nat} : ∀ (l : List Nat) (tb : List (Nat × Nat)), (∀ a b, (a ∈ l ∨ a ∈ ks tb) → (b ∈ l ∨ b ∈ ks tb) → f a = f b → a = b) →
    (l.map f).foldl nst (tb.map fun p => (f p.1, p.2)) = (l.foldl nst tb).map fun p => (f p.1, p.2)
  | [], tb, _ => rfl
  | n :: l, tb, h => by
    have hk : ks (tb.map fun p => (f p.1, p.2)) = (ks tb).map f := by simp [ks]
    have e : nst (tb.map fun p => (f p.1, p.2)) (f n) = (nst tb n).map fun p => (f p.1, p.2) := by
      unfold nst
      rw [hk]
      by_cases hn : n ∈ ks tb
      · rw [if_pos hn, if_pos (List.mem_map_of_mem hn)]
      · have : f n ∉ (ks tb).map f := fun hm => by
          obtain ⟨m, h1, h2⟩ := List.mem_map.mp hm
          have := h m n (.inr h1) (.inl (by simp)) h2
          exact hn (this ▸ h1)
        rw [if_neg hn, if_neg this]
        simp
    rw [List.map_cons, List.foldl_cons, e, List.foldl_cons]
    refine fnm_map l (nst tb n) fun a b ha hb => h a b ?_ ?_
    · rcases ha with ha | ha
      · exact .inl (by simp [ha])
      · unfold nst at ha
        split at ha
        · exact .inr ha
        · simp only [ks, List.map_append, List.mem_append, List.map_cons, List.map_nil, List.mem_singleton] at ha
          rcases ha with ha | rfl
          · exact .inr ha
          · exact .inl (by simp)
    · rcases hb with hb | hb
      · exact .inl (by simp [hb])
      · unfold nst at hb
        split at hb
        · exact .inr hb
        · simp only [ks, List.map_append, List.mem_append, List.map_cons, List.map_nil, List.mem_singleton] at hb
          rcases hb with hb | rfl
          · exact .inr hb
          · exact .inl (by simp)
theorem lk_mapf {f : Nat → Nat} : ∀ (tb : List (Nat × Nat)) (n : Nat), (∀ a ∈ ks tb, f a = f n → a = n) → lk (tb.map fun p => (f p.1, p.2)) (f n) = lk tb n
  | [], n, _ => rfl
  | p :: tb, n, h => by
    rw [List.map_cons, lk_cons, lk_cons, lk_mapf tb n fun a ha => h a (by simp only [ks, List.map_cons, List.mem_cons] at ha ⊢; exact .inr ha)]
    by_cases e : p.1 = n
    · simp [e]
    · have : ¬ f p.1 = f n := fun z => e (h p.1 (by simp [ks]) z)
      simp [e, this]
theorem fnm_ks : ∀ (l : List Nat) (tb : List (Nat × Nat)) (n : Nat), n ∈ ks (l.foldl nst tb) ↔ n ∈ l ∨ n ∈ ks tb
  | [], tb, n => by simp
  | m :: l, tb, n => by
    rw [List.foldl_cons, fnm_ks l]
    have : n ∈ ks (nst tb m) ↔ n = m ∨ n ∈ ks tb := by
      unfold nst
      split
      · rename_i h
        constructor
        · exact .inr
        · rintro (rfl | h2)
          · exact h
          · exact h2
      · simp [ks, or_comm]
    rw [this]
    simp only [List.mem_cons]
    constructor
    · rintro (h | h | h)
      · exact .inl (.inr h)
      · exact .inl (.inl h)
      · exact .inr h
    · rintro ((h | h) | h)
      · exact .inr (.inl h)
      · exact .inl h
      · exact .inr (.inr h)
/-- two homes, each a case of the other: plain they are the same -/
theorem pln_same {t u : T} {s r : Nat → T} (h1 : u = sub s t) (h2 : t = sub r u) : pln t = pln u := by
  have p1 := pl_sub s t
  have p2 := pl_sub r u
  rw [← h1] at p1
  rw [← h2] at p2
  have hv := vars_of (s := s) (t := t) (by rw [← h1]; omega)
  have hw := vars_of (s := r) (t := u) (by rw [← h2]; omega)
  let f : Nat → Nat := fun n => (s n).gl
  let g : Nat → Nat := fun n => (r n).gl
  have e1 : u = ren f t := by
    rw [h1]
    exact sub_congr fun n hn => by
      obtain ⟨m, e⟩ := hv n hn
      simp [f, e]
  have e2 : t = ren g u := by
    conv => lhs; rw [h2]
    exact sub_congr fun n hn => by
      obtain ⟨m, e⟩ := hw n hn
      simp [g, e]
  have hgf : ∀ n ∈ t.row, g (f n) = n := by
    have e3 : ren (fun n => g (f n)) t = t := by rw [← ren_ren, ← e1, ← e2]
    have key : ∀ {t : T}, ren (fun n => g (f n)) t = t → ∀ n ∈ t.row, g (f n) = n := by
      intro t
      induction t with
      | v m => intro h n hn; simp at hn; subst hn; simpa [ren] using h
      | a x y ih1 ih2 =>
        intro h n hn
        have h' : T.a (ren (fun n => g (f n)) x) (ren (fun n => g (f n)) y) = T.a x y := h
        simp only [T.a.injEq] at h'
        simp only [T.row_a, List.mem_append] at hn
        rcases hn with hn | hn
        · exact ih1 h'.1 n hn
        · exact ih2 h'.2 n hn
    exact key e3
  have hinj : ∀ a ∈ t.row, ∀ b ∈ t.row, f a = f b → a = b := fun a ha b hb e => by rw [← hgf a ha, ← hgf b hb, e]
  have hfn := fnm_map (f := f) t.row [] fun a b ha hb => hinj a (by simpa [ks] using ha) b (by simpa [ks] using hb)
  unfold pln
  conv => rhs; rw [e1]
  rw [ren_ren, ren_row]
  refine ren_congr fun n hn => ?_
  unfold nmF fnm
  simp only [List.map_nil] at hfn
  rw [hfn, lk_mapf _ n fun a ha => hinj a (by simpa [ks] using (fnm_ks t.row [] a).mp ha) n hn]
  have : (lk (t.row.foldl nst []) n).isSome = true := lk_some_ks.mpr ((fnm_ks t.row [] n).mpr (.inl hn))
  obtain ⟨m, hm⟩ := Option.isSome_iff_exists.mp this
  rw [hm]
  rfl
end W79
end
section
set_option linter.all false
/-! U2: tables that are put one behind another without end: meeting -/
namespace W79
open PySem Rf
abbrev Tab := List (Nat × T)
/-- a walk along what is put for goals -/
inductive Wl (tb : Tab) : T → T → Nat → Prop
  | done {t : T} : lk tb t.gl = none → Wl tb t t 0
  | more {t u w : T} {k : Nat} : lk tb t.gl = some u → Wl tb (.bd t.as u) w k → Wl tb t w (k + 1)
def wk (tb : Tab) : Nat → T → T
  | 0, t => t
  | k + 1, t => match lk tb t.gl with
    | none => t
    | some u => wk tb k (.bd t.as u)
theorem Wl.goal {tb : Tab} {t w : T} {k : Nat} (h : Wl tb t w k) : lk tb w.gl = none := by induction h <;> assumption
theorem Wl.wk {tb : Tab} {t w : T} {k : Nat} (h : Wl tb t w k) : ∀ m, k ≤ m → W79.wk tb m t = w := by
  induction h with
  | @done t h => intro m _; cases m <;> simp [W79.wk, h]
  | @more t u w k h _ ih =>
    intro m hm
    obtain ⟨m, rfl⟩ : ∃ i, m = i + 1 := ⟨m - 1, by omega⟩
    simp only [W79.wk, h]
    exact ih m (by omega)
/-- what satisfies a table -/
def Sat (s : Nat → T) (tb : Tab) : Prop := ∀ n u, lk tb n = some u → s n = sub s u
theorem Wl.sub {tb : Tab} {t w : T} {k : Nat} {s : Nat → T} (hs : Sat s tb) (h : Wl tb t w k) : W79.sub s w = W79.sub s t := by
  induction h with
  | done h => rfl
  | @more t u w k h _ ih =>
    rw [ih, sub_bd, sub_self s t, hs _ _ h]
/-- a table without rounds; S: the arrows from which all comes -/
structure Gd (S : List T) (th : Nat → T) (rk : Nat → Nat) (tb : Tab) : Prop where
  sat : Sat th tb
  out : ∀ n, lk tb n = none → th n = .v n
  rank : ∀ n u, lk tb n = some u → ∀ m ∈ u.row, rk m < rk n
  bnd : ∀ n, rk n < 2 ^ tb.length
  dagS : ∀ n, ∀ r ∈ asub (th n), ∃ q ∈ S, r = sub th q
  args : ∀ n u, lk tb n = some u → ∀ z ∈ u.as, ∀ r ∈ asub z, r ∈ S
  nd : (ks tb).Nodup
variable {S : List T} {th : Nat → T} {rk : Nat → Nat} {tb : Tab}
theorem gd0 (S : List T) : Gd S T.v (fun _ => 0) [] :=
  ⟨fun n u h => by simp at h, fun n _ => rfl, fun n u h => by simp at h, fun n => by simp, fun n r hr => by simp [asub] at hr, fun n u h => by simp at h, by simp [ks]⟩
theorem Gd.wl (g : Gd S th rk tb) (t : T) : ∃ w k, Wl tb t w k ∧ k ≤ rk t.gl := by
  have key : ∀ (m : Nat) (t : T), rk t.gl ≤ m → ∃ w k, Wl tb t w k ∧ k ≤ rk t.gl := by
    intro m
    induction m with
    | zero =>
      intro t h
      cases e : lk tb t.gl with
      | none => exact ⟨t, 0, .done e, Nat.zero_le _⟩
      | some u => have := g.rank _ _ e u.gl (T.gl_row u); omega
    | succ m ih =>
      intro t h
      cases e : lk tb t.gl with
      | none => exact ⟨t, 0, .done e, Nat.zero_le _⟩
      | some u =>
        have h1 := g.rank _ _ e u.gl (T.gl_row u)
        obtain ⟨w, k, h2, h3⟩ := ih (.bd t.as u) (by simp; omega)
        exact ⟨w, k + 1, .more e h2, by simp at h3; omega⟩
  exact key _ t (Nat.le_refl _)
/-- what is put is put for good -/
theorem Gd.idem (g : Gd S th rk tb) : ∀ n, ∀ m ∈ (th n).row, lk tb m = none := by
  have key : ∀ (k n : Nat), rk n ≤ k → ∀ m ∈ (th n).row, lk tb m = none := by
    intro k
    induction k with
    | zero =>
      intro n hn m hm
      cases e : lk tb n with
      | none => rw [g.out n e] at hm; simp at hm; rw [hm]; exact e
      | some u => have := g.rank _ _ e u.gl (T.gl_row u); omega
    | succ k ih =>
      intro n hn m hm
      cases e : lk tb n with
      | none => rw [g.out n e] at hm; simp at hm; rw [hm]; exact e
      | some u =>
        rw [g.sat n u e, sub_row] at hm
        obtain ⟨q, h1, h2⟩ := hm
        have := g.rank _ _ e q h1
        exact ih q (by omega) m h2
  exact fun n => key _ n (Nat.le_refl _)
theorem Gd.idem_sub (g : Gd S th rk tb) (t : T) : sub th (sub th t) = sub th t := by
  rw [sub_sub]
  refine sub_congr fun n _ => ?_
  have : sub th (th n) = sub T.v (th n) := sub_congr fun m hm => g.out m (g.idem n m hm)
  rw [this, sub_id]
/-- what satisfies the table goes through what is put -/
theorem Gd.through (g : Gd S th rk tb) {s : Nat → T} (hs : Sat s tb) : ∀ n, sub s (th n) = s n := by
  have key : ∀ (k n : Nat), rk n ≤ k → sub s (th n) = s n := by
    intro k
    induction k with
    | zero =>
      intro n hn
      cases e : lk tb n with
      | none => rw [g.out n e]; rfl
      | some u => have := g.rank _ _ e u.gl (T.gl_row u); omega
    | succ k ih =>
      intro n hn
      cases e : lk tb n with
      | none => rw [g.out n e]; rfl
      | some u =>
        rw [g.sat n u e, sub_sub, hs n u e]
        exact sub_congr fun m hm => ih m (by have := g.rank _ _ e m hm; omega)
  exact fun n => key _ n (Nat.le_refl _)
theorem Gd.through_sub (g : Gd S th rk tb) {s : Nat → T} (hs : Sat s tb) (t : T) : sub s (sub th t) = sub s t := by
  rw [sub_sub]; exact sub_congr fun n _ => g.through hs n
theorem Wl.args {t w : T} {k : Nat} (g : Gd S th rk tb) (h : Wl tb t w k) (ht : ∀ z ∈ t.as, ∀ r ∈ asub z, r ∈ S) : ∀ z ∈ w.as, ∀ r ∈ asub z, r ∈ S := by
  induction h with
  | done h => exact ht
  | @more t u w k h _ ih =>
    refine ih fun z hz => ?_
    simp only [T.bd_as, List.mem_append] at hz
    rcases hz with hz | hz
    · exact ht z hz
    · exact g.args _ _ h z hz
/-- one atom more -/
theorem Gd.bind (g : Gd S th rk tb) {n : Nat} {t : T} (hn : lk tb n = none) (hocc : n ∉ (sub th t).row) (ht : ∀ z ∈ t.as, ∀ r ∈ asub z, r ∈ S) (hd : ∀ r ∈ asub (sub th t), ∃ q ∈ S, r = sub th q) :
    ∃ th' rk', Gd S th' rk' (tb ++ [(n, t)]) ∧ th' n = sub th t ∧ ∀ x, th' x = sub (fun m => if m = n then sub th t else .v m) (th x) := by
  let e : Nat → T := fun m => if m = n then sub th t else .v m
  let th' : Nat → T := fun x => sub e (th x)
  have hlk : ∀ m, lk (tb ++ [(n, t)]) m = if m = n then some t else lk tb m := fun m => by
    have := lk_pt tb n m t
    unfold pt at this
    rw [hn] at this
    simpa using this
  have hfix : ∀ r : T, n ∉ r.row → sub e r = r := fun r hr => by
    have : sub e r = sub T.v r := sub_congr fun m hm => by
      have : m ≠ n := fun z => hr (z ▸ hm)
      simp [e, this]
    rw [this, sub_id]
  have hth : ∀ r : T, sub th' r = sub e (sub th r) := fun r => by rw [sub_sub]
  have hn' : th' n = sub th t := by
    show sub e (th n) = _
    rw [g.out n hn]
    simp [e]
  let reach : Nat → Prop := fun x => n ∈ (th x).row
  haveI : ∀ x, Decidable (reach x) := fun x => by unfold reach; infer_instance
  let rk' : Nat → Nat := fun x => rk x + if reach x then 2 ^ tb.length else 0
  have hlen : (tb ++ [(n, t)]).length = tb.length + 1 := by simp
  refine ⟨th', rk', ⟨fun m u hm => ?_, fun m hm => ?_, fun m u hm q hq => ?_, fun x => ?_, fun x r hr => ?_, fun m u hm => ?_, ?_⟩, hn', fun x => rfl⟩
  · rw [hlk] at hm
    by_cases hmn : m = n
    · subst hmn
      simp only [if_true, Option.some.injEq] at hm
      subst hm
      rw [hn', hth, hfix _ hocc]
    · rw [if_neg hmn] at hm
      show sub e (th m) = _
      rw [g.sat m u hm, hth]
  · rw [hlk] at hm
    by_cases hmn : m = n
    · simp [hmn] at hm
    · rw [if_neg hmn] at hm
      show sub e (th m) = _
      rw [g.out m hm]
      simp [e, hmn]
  · rw [hlk] at hm
    by_cases hmn : m = n
    · subst hmn
      simp only [if_true, Option.some.injEq] at hm
      subst hm
      have h1 : reach m := by show m ∈ (th m).row; rw [g.out m hn]; simp
      have h2 : ¬ reach q := fun z => hocc (sub_row.mpr ⟨q, hq, z⟩)
      have h3 := g.bnd q
      show rk q + (if reach q then _ else _) < rk m + (if reach m then _ else _)
      rw [if_pos h1, if_neg h2]
      omega
    · rw [if_neg hmn] at hm
      have h3 := g.rank m u hm q hq
      have h4 : reach q → reach m := fun z => by
        show n ∈ (th m).row
        rw [g.sat m u hm]
        exact sub_row.mpr ⟨q, hq, z⟩
      show rk q + (if reach q then _ else _) < rk m + (if reach m then _ else _)
      by_cases h5 : reach q
      · rw [if_pos h5, if_pos (h4 h5)]; omega
      · rw [if_neg h5]; omega
  · have h3 := g.bnd x
    rw [hlen, Nat.pow_succ]
    show rk x + (if reach x then _ else _) < _
    split <;> omega
  · rcases asub_sub (show r ∈ asub (sub e (th x)) from hr) with ⟨q, h1, h2⟩ | ⟨m, h1, h2⟩
    · obtain ⟨p, h3, h4⟩ := g.dagS x q h1
      exact ⟨p, h3, by rw [h2, h4, hth]⟩
    · by_cases hmn : m = n
      · subst hmn
        simp only [e, if_true] at h2
        obtain ⟨p, h3, h4⟩ := hd r h2
        refine ⟨p, h3, ?_⟩
        rw [hth, ← h4]
        exact (hfix r fun z => hocc (asub_row h2 _ z)).symm
      · simp [e, hmn, asub] at h2
  · rw [hlk] at hm
    by_cases hmn : m = n
    · subst hmn
      simp only [if_true, Option.some.injEq] at hm
      subst hm
      exact ht
    · rw [if_neg hmn] at hm
      exact g.args m u hm
  · have := ks_nodup_pt g.nd n t
    unfold pt at this
    rw [hn] at this
    simpa using this
/-- the rest behind so many arguments -/
def rst (w : T) (k : Nat) : T := .bd (w.as.drop k) (.v w.gl)
@[simp] theorem rst_as (w : T) (k : Nat) : (rst w k).as = w.as.drop k := by simp [rst]
@[simp] theorem rst_gl (w : T) (k : Nat) : (rst w k).gl = w.gl := by simp [rst]
theorem rst_cut (w : T) (k : Nat) : w = .bd (w.as.take k) (rst w k) := by
  unfold rst
  rw [← T.bd_app, List.take_append_drop, T.bd_self]
theorem rst_sub (s : Nat → T) (w : T) (k : Nat) : sub s w = .bd ((w.as.take k).map (sub s)) (sub s (rst w k)) := by
  rw [← sub_bd, ← rst_cut]
/-- pairs of arguments -/
def chs (w u : T) : List (T × T) := (w.as.take (min w.as.length u.as.length)).zip (u.as.take (min w.as.length u.as.length))
/-- what is to be put: an atom, a home -/
def bnd (w u : T) : Nat × T := if w.as.length = min w.as.length u.as.length then (w.gl, rst u (min w.as.length u.as.length)) else (u.gl, rst w (min w.as.length u.as.length))
theorem asub_rst {w r : T} {k : Nat} (h : r ∈ asub (sub th (rst w k))) : r ∈ asub (sub th w) := by
  rw [rst_sub th w k]
  exact asub_bd _ h
/-- equal by their parts -/
theorem eq_parts {w u : T} {s : Nat → T} : sub s w = sub s u ↔ (∀ p ∈ chs w u, sub s p.1 = sub s p.2) ∧ s (bnd w u).1 = sub s (bnd w u).2 := by
  have hz : ∀ (l m : List T), l.length = m.length → ((∀ p ∈ l.zip m, sub s p.1 = sub s p.2) ↔ l.map (sub s) = m.map (sub s)) := by
    intro l
    induction l with
    | nil => intro m h; cases m <;> simp at h ⊢
    | cons x l ih =>
      intro m h
      cases m with
      | nil => simp at h
      | cons y m =>
        have := ih m (by simpa using h)
        simp only [List.zip_cons_cons, List.forall_mem_cons, List.map_cons, List.cons.injEq, this]
  have hl : (w.as.take (min w.as.length u.as.length)).length = (u.as.take (min w.as.length u.as.length)).length := by simp [List.length_take]
  have main : sub s w = sub s u ↔ (∀ p ∈ chs w u, sub s p.1 = sub s p.2) ∧ sub s (rst w (min w.as.length u.as.length)) = sub s (rst u (min w.as.length u.as.length)) := by
    unfold chs
    rw [hz _ _ hl]
    rw [rst_sub s w (min w.as.length u.as.length), rst_sub s u (min w.as.length u.as.length)]
    constructor
    · intro h
      exact bd_inj (by simpa using hl) h
    · intro h
      rw [h.1, h.2]
  rw [main]
  unfold bnd
  by_cases h : w.as.length = min w.as.length u.as.length
  · rw [if_pos h]
    have : rst w (min w.as.length u.as.length) = .v w.gl := by
      unfold rst
      rw [List.drop_eq_nil_of_le (by omega)]
      rfl
    rw [this]
    rfl
  · rw [if_neg h]
    have : rst u (min w.as.length u.as.length) = .v u.gl := by
      unfold rst
      rw [List.drop_eq_nil_of_le (by omega)]
      rfl
    rw [this]
    constructor
    · rintro ⟨h1, h2⟩; exact ⟨h1, h2.symm⟩
    · rintro ⟨h1, h2⟩; exact ⟨h1, h2.symm⟩
/-- all atoms are known -/
structure At (A : List Nat) (tb : Tab) : Prop where
  key : ∀ n ∈ ks tb, n ∈ A
  row : ∀ n u, lk tb n = some u → ∀ m ∈ u.row, m ∈ A
/-- a pair that is taken, and the table then -/
structure Stp (S : List T) (A : List Nat) (th : Nat → T) (rk : Nat → Nat) (tb : Tab) (x y : T) : Prop where
  g : Gd S th rk tb
  a : At A tb
  hx : ∀ r ∈ asub x, r ∈ S
  hy : ∀ r ∈ asub y, r ∈ S
  rx : ∀ m ∈ x.row, m ∈ A
  ry : ∀ m ∈ y.row, m ∈ A
/-- a meeting, pair by pair from the top: so many pairs taken, the table at the end; ended well or not -/
inductive Un (S : List T) (A : List Nat) : List (T × T) → Tab → Nat → Tab → Bool → Prop
  | nil {tb : Tab} : Un S A [] tb 0 tb true
  | same {x y w u : T} {r : List (T × T)} {tb tb' : Tab} {k m p : Nat} {b : Bool} {th : Nat → T} {rk : Nat → Nat} : Stp S A th rk tb x y → Wl tb x w k → Wl tb y u m → (bnd w u).2 = .v (bnd w u).1 → Un S A ((chs w u).reverse ++ r) tb p tb' b → Un S A ((x, y) :: r) tb (p + 1) tb' b
  | put {x y w u : T} {r : List (T × T)} {tb tb' : Tab} {k m p : Nat} {b : Bool} {th : Nat → T} {rk : Nat → Nat} : Stp S A th rk tb x y → Wl tb x w k → Wl tb y u m → (bnd w u).2 ≠ .v (bnd w u).1 → (bnd w u).1 ∉ (sub th (bnd w u).2).row →
      Un S A ((chs w u).reverse ++ r) (tb ++ [bnd w u]) p tb' b → Un S A ((x, y) :: r) tb (p + 1) tb' b
  | fail {x y w u : T} {r : List (T × T)} {tb : Tab} {k m : Nat} {th : Nat → T} {rk : Nat → Nat} : Stp S A th rk tb x y → Wl tb x w k → Wl tb y u m → (bnd w u).2 ≠ .v (bnd w u).1 → (bnd w u).1 ∈ (sub th (bnd w u).2).row → Un S A ((x, y) :: r) tb 1 tb false
variable {A : List Nat}
/-- what a table says stays -/
theorem Un.grows {td : List (T × T)} {tb tb' : Tab} {p : Nat} {b : Bool} (h : Un S A td tb p tb' b) : ∃ m, tb' = tb ++ m := by
  induction h with
  | nil => exact ⟨[], by simp⟩
  | same _ _ _ _ _ ih => exact ih
  | put _ _ _ _ _ _ ih => obtain ⟨m, e⟩ := ih; exact ⟨_, by rw [e, List.append_assoc]⟩
  | fail => exact ⟨[], by simp⟩
theorem lk_app {tb m : Tab} {n : Nat} {u : T} (h : lk tb n = some u) : lk (tb ++ m) n = some u := by
  unfold lk at *
  rw [List.find?_append]
  cases e : tb.find? fun p => p.1 == n with
  | none => rw [e] at h; cases h
  | some p => rw [e] at h; exact h
theorem Sat.app {s : Nat → T} {tb m : Tab} (h : Sat s (tb ++ m)) : Sat s tb := fun n u e => h n u (lk_app e)
/-- no more pairs are taken than places are in common -/
def cms (s : Nat → T) (l : List (T × T)) : Nat := (l.map fun p => cm (sub s p.1) (sub s p.2)).sum
theorem cms_app (s : Nat → T) (l m : List (T × T)) : cms s (l ++ m) = cms s l + cms s m := by simp [cms]
theorem cms_rev (s : Nat → T) (l : List (T × T)) : cms s l.reverse = cms s l := by simp [cms]
theorem cm_step {s : Nat → T} (w u : T) : 1 + cms s (chs w u) ≤ cm (sub s w) (sub s u) := by
  have hl : (w.as.take (min w.as.length u.as.length)).length = (u.as.take (min w.as.length u.as.length)).length := by simp [List.length_take]
  have h3 : cm (sub s w) (sub s u) = cms s (chs w u) + cm (sub s (rst w (min w.as.length u.as.length))) (sub s (rst u (min w.as.length u.as.length))) := by
    rw [rst_sub s w (min w.as.length u.as.length), rst_sub s u (min w.as.length u.as.length)]
    rw [cm_bd _ _ _ _ (by simpa using hl), List.zip_map, List.map_map]
    rfl
  have := cm_pos (sub s (rst w (min w.as.length u.as.length))) (sub s (rst u (min w.as.length u.as.length)))
  omega
theorem Un.count {td : List (T × T)} {tb tb' : Tab} {p : Nat} {b : Bool} (h : Un S A td tb p tb' b) : ∀ {s : Nat → T}, Sat s tb' → p ≤ cms s td := by
  induction h with
  | nil => intro s _; simp
  | @same x y w u r tb tb' k m p b th rk g h1 h2 h3 h4 ih =>
    intro s hs
    have h5 := ih hs
    obtain ⟨mm, e⟩ := h4.grows
    have hs2 : Sat s tb := by rw [e] at hs; exact hs.app
    have h6 := cm_step (s := s) w u
    rw [h1.sub hs2, h2.sub hs2] at h6
    rw [cms_app, cms_rev] at h5
    simp only [cms, List.map_cons, List.sum_cons] at h5 h6 ⊢
    omega
  | @put x y w u r tb tb' k m p b th rk g h1 h2 h3 hocc h4 ih =>
    intro s hs
    have h5 := ih hs
    obtain ⟨mm, e⟩ := h4.grows
    have hs2 : Sat s tb := by rw [e, List.append_assoc] at hs; exact hs.app
    have h6 := cm_step (s := s) w u
    rw [h1.sub hs2, h2.sub hs2] at h6
    rw [cms_app, cms_rev] at h5
    simp only [cms, List.map_cons, List.sum_cons] at h5 h6 ⊢
    omega
  | @fail x y w u r tb k m th rk g h1 h2 h3 hocc =>
    intro s hs
    have := cm_pos (sub s x) (sub s y)
    simp only [cms, List.map_cons, List.sum_cons]
    omega
end W79
end
section
set_option linter.all false
/-! U3: each meeting ends; what it tells -/
namespace W79
open PySem Rf
def Uni (s : Nat → T) (l : List (T × T)) : Prop := ∀ p ∈ l, sub s p.1 = sub s p.2
variable {S : List T} {th : Nat → T} {rk : Nat → Nat} {tb : Tab} {A : List Nat}
theorem T.row_bd (l : List T) (e : T) : (T.bd l e).row = l.flatMap T.row ++ e.row := by
  induction l with
  | nil => rfl
  | cons x l ih => simp [ih]
theorem Wl.row {t w : T} {k : Nat} (a : At A tb) (h : Wl tb t w k) (ht : ∀ m ∈ t.row, m ∈ A) : ∀ m ∈ w.row, m ∈ A := by
  induction h with
  | done h => exact ht
  | @more t u w k h _ ih =>
    refine ih fun m hm => ?_
    rw [T.row_bd, List.mem_append] at hm
    rcases hm with hm | hm
    · obtain ⟨z, h1, h2⟩ := List.mem_flatMap.mp hm
      exact ht m (T.row_as h1 m h2)
    · exact a.row _ _ h m hm
theorem pl_as (t : T) : t.pl = (t.as.map T.pl).sum + 1 := by
  induction t with
  | v n => rfl
  | a x y _ ih => simp [ih]; omega
def psum (s : Nat → T) (l : List (T × T)) : Nat := (l.map fun p => (sub s p.1).pl).sum
theorem psum_app (s : Nat → T) (l m : List (T × T)) : psum s (l ++ m) = psum s l + psum s m := by simp [psum]
theorem psum_rev (s : Nat → T) (l : List (T × T)) : psum s l.reverse = psum s l := by simp [psum]
theorem sum_take (l : List Nat) (k : Nat) : (l.take k).sum ≤ l.sum := by
  conv => rhs; rw [← List.take_append_drop k l]
  rw [List.sum_append]
  omega
theorem psum_chs (s : Nat → T) (w u : T) : psum s (chs w u) + 1 ≤ (sub s w).pl := by
  have e : psum s (chs w u) = ((w.as.take (min w.as.length u.as.length)).map fun z => (sub s z).pl).sum := by
    unfold psum chs
    have : ∀ (l m : List T), l.length = m.length → ((l.zip m).map fun p => (sub s p.1).pl) = l.map fun z => (sub s z).pl := by
      intro l
      induction l with
      | nil => intro m _; simp
      | cons x l ih =>
        intro m h
        cases m with
        | nil => simp at h
        | cons y m => simp [ih m (by simpa using h)]
    rw [this _ _ (by simp [List.length_take])]
  rw [e, pl_as (sub s w), sub_as, List.map_append, List.sum_append, List.map_take, List.map_map]
  have := sum_take (w.as.map fun z => (sub s z).pl) (min w.as.length u.as.length)
  have e2 : (T.pl ∘ sub s) = fun z => (sub s z).pl := rfl
  rw [e2]
  omega
theorem chs_mem {w u : T} {p : T × T} (h : p ∈ chs w u) : p.1 ∈ w.as ∧ p.2 ∈ u.as := by
  have := List.of_mem_zip h
  exact ⟨List.mem_of_mem_take this.1, List.mem_of_mem_take this.2⟩
theorem sat_snoc {n : Nat} {t : T} (hn : lk tb n = none) (s : Nat → T) : Sat s (tb ++ [(n, t)]) ↔ Sat s tb ∧ s n = sub s t := by
  have hlk : ∀ m, lk (tb ++ [(n, t)]) m = if m = n then some t else lk tb m := fun m => by
    have := lk_pt tb n m t
    unfold pt at this
    rw [hn] at this
    simpa using this
  constructor
  · intro h
    refine ⟨h.app, h n t ?_⟩
    rw [hlk, if_pos rfl]
  · rintro ⟨h1, h2⟩ m u hm
    rw [hlk] at hm
    by_cases e : m = n
    · subst e; simp at hm; rw [← hm]; exact h2
    · rw [if_neg e] at hm; exact h1 m u hm
theorem rst_row {w : T} {k : Nat} : ∀ m ∈ (rst w k).row, m ∈ w.row := by
  intro m hm
  conv => rw [rst_cut w k, T.row_bd]
  exact List.mem_append_right _ hm
/-- a pair, looked at -/
structure Pair (S : List T) (A : List Nat) (tb : Tab) (w u : T) : Prop where
  g1 : lk tb w.gl = none
  g2 : lk tb u.gl = none
  a1 : ∀ z ∈ w.as, ∀ r ∈ asub z, r ∈ S
  a2 : ∀ z ∈ u.as, ∀ r ∈ asub z, r ∈ S
  r1 : ∀ m ∈ w.row, m ∈ A
  r2 : ∀ m ∈ u.row, m ∈ A
theorem Pair.bnd {w u : T} (q : Pair S A tb w u) : lk tb (bnd w u).1 = none ∧ lk tb (W79.bnd w u).2.gl = none ∧ (∀ z ∈ (W79.bnd w u).2.as, ∀ r ∈ asub z, r ∈ S) ∧ (W79.bnd w u).1 ∈ A ∧ (∀ m ∈ (W79.bnd w u).2.row, m ∈ A) := by
  unfold W79.bnd
  split
  · exact ⟨q.g1, by simpa using q.g2, fun z hz => q.a2 z (by rw [rst_as] at hz; exact List.mem_of_mem_drop hz), q.r1 _ (T.gl_row w), fun m hm => q.r2 m (rst_row m hm)⟩
  · exact ⟨q.g2, by simpa using q.g1, fun z hz => q.a1 z (by rw [rst_as] at hz; exact List.mem_of_mem_drop hz), q.r2 _ (T.gl_row u), fun m hm => q.r1 m (rst_row m hm)⟩
theorem bnd_asub {w u x y : T} (hw : sub th w = sub th x) (hu : sub th u = sub th y) {r : T} (h : r ∈ asub (sub th (bnd w u).2)) : r ∈ asub (sub th x) ∨ r ∈ asub (sub th y) := by
  unfold bnd at h
  split at h
  · exact .inr (by rw [← hu]; exact asub_rst h)
  · exact .inl (by rw [← hw]; exact asub_rst h)
theorem Gd.dagT (g : Gd S th rk tb) {t : T} (ht : ∀ r ∈ asub t, r ∈ S) : ∀ r ∈ asub (sub th t), ∃ q ∈ S, r = sub th q := by
  intro r hr
  rcases asub_sub hr with ⟨q, h1, h2⟩ | ⟨n, h1, h2⟩
  · exact ⟨q, ht q h1, h2⟩
  · exact g.dagS n r h2
/-- no way, where an atom stands within -/
theorem Gd.no (g : Gd S th rk tb) {n : Nat} {t : T} {s : Nat → T} (hg : lk tb t.gl = none) (ht : t ≠ .v n) (hocc : n ∈ (sub th t).row) (hs : Sat s tb) : s n ≠ sub s t := by
  intro e
  rw [← g.through_sub hs t] at e
  cases t with
  | v m =>
    simp only [T.gl_v] at hg
    rw [sub_v, g.out m hg] at hocc
    simp at hocc
    exact ht (by rw [hocc])
  | a x y =>
    rw [sub_a] at hocc e
    have h1 := pl_in_a (s := s) hocc
    have h2 := congrArg T.pl e
    rw [h2] at h1
    exact Nat.lt_irrefl _ h1
theorem run : ∀ (d e : Nat) (td : List (T × T)) (tb : Tab) (th : Nat → T) (rk : Nat → Nat), Gd S th rk tb → At A tb → (∀ p ∈ td, (∀ r ∈ asub p.1, r ∈ S) ∧ (∀ r ∈ asub p.2, r ∈ S) ∧ (∀ m ∈ p.1.row, m ∈ A) ∧ ∀ m ∈ p.2.row, m ∈ A) →
    A.length - tb.length ≤ d → psum th td ≤ e → ∃ p tb' b th' rk', Un S A td tb p tb' b ∧ Gd S th' rk' tb' ∧ At A tb' ∧ (b = true → ∀ s, (Uni s td ∧ Sat s tb ↔ Sat s tb')) ∧ (b = false → ∀ s, ¬ (Uni s td ∧ Sat s tb))
  | d, e, [], tb, th, rk, g, a, _, _, _ => ⟨0, tb, true, th, rk, .nil, g, a, fun _ s => ⟨fun h => h.2, fun h => ⟨fun p hp => by simp at hp, h⟩⟩, fun h => by cases h⟩
  | d, e, (x, y) :: r, tb, th, rk, g, a, hp, hd, he => by
    obtain ⟨hx, hy, rx, ry⟩ := hp (x, y) (by simp)
    obtain ⟨w, k1, w1, _⟩ := g.wl x
    obtain ⟨u, k2, w2, _⟩ := g.wl y
    have q : Pair S A tb w u := ⟨w1.goal, w2.goal, w1.args g fun z hz r hr => hx r (asub_as hz hr), w2.args g fun z hz r hr => hy r (asub_as hz hr), w1.row a rx, w2.row a ry⟩
    obtain ⟨b1, b2, b3, b4, b5⟩ := q.bnd
    have hch : ∀ p ∈ (chs w u).reverse ++ r, (∀ r ∈ asub p.1, r ∈ S) ∧ (∀ r ∈ asub p.2, r ∈ S) ∧ (∀ m ∈ p.1.row, m ∈ A) ∧ ∀ m ∈ p.2.row, m ∈ A := fun p hp2 => by
      rcases List.mem_append.mp hp2 with h | h
      · obtain ⟨c1, c2⟩ := chs_mem (List.mem_reverse.mp h)
        exact ⟨q.a1 _ c1, q.a2 _ c2, fun m hm => q.r1 m (T.row_as c1 m hm), fun m hm => q.r2 m (T.row_as c2 m hm)⟩
      · exact hp p (by simp [h])
    have hps : psum th ((chs w u).reverse ++ r) + 1 ≤ psum th ((x, y) :: r) := by
      have := psum_chs th w u
      rw [w1.sub g.sat] at this
      rw [psum_app, psum_rev]
      simp only [psum, List.map_cons, List.sum_cons] at this ⊢
      omega
    have heq : ∀ s, Sat s tb → (Uni s ((x, y) :: r) ↔ Uni s ((chs w u).reverse ++ r) ∧ s (bnd w u).1 = sub s (bnd w u).2) := fun s hs => by
      have e1 := w1.sub hs
      have e2 := w2.sub hs
      have e3 := eq_parts (w := w) (u := u) (s := s)
      rw [e1, e2] at e3
      constructor
      · intro h
        have h0 := e3.mp (h (x, y) (by simp))
        refine ⟨fun p hp2 => ?_, h0.2⟩
        rcases List.mem_append.mp hp2 with h1 | h1
        · exact h0.1 p (List.mem_reverse.mp h1)
        · exact h p (by simp [h1])
      · rintro ⟨h1, h2⟩ p hp2
        rcases List.mem_cons.mp hp2 with rfl | h3
        · exact e3.mpr ⟨fun p hp3 => h1 p (by simp [hp3]), h2⟩
        · exact h1 p (by simp [h3])
    by_cases hsame : (bnd w u).2 = .v (bnd w u).1
    · obtain ⟨e, rfl⟩ : ∃ e', e = e' + 1 := ⟨e - 1, by omega⟩
      obtain ⟨p, tb', b, th', rk', h1, h2, h3, h4, h5⟩ := run d e ((chs w u).reverse ++ r) tb th rk g a hch hd (by omega)
      have htr : ∀ s : Nat → T, s (bnd w u).1 = sub s (bnd w u).2 := fun s => by rw [hsame]; rfl
      refine ⟨p + 1, tb', b, th', rk', .same ⟨g, a, hx, hy, rx, ry⟩ w1 w2 hsame h1, h2, h3, fun hb s => ?_, fun hb s hu => h5 hb s ⟨((heq s hu.2).mp hu.1).1, hu.2⟩⟩
      rw [← h4 hb s]
      exact ⟨fun hu => ⟨((heq s hu.2).mp hu.1).1, hu.2⟩, fun hu => ⟨(heq s hu.2).mpr ⟨hu.1, htr s⟩, hu.2⟩⟩
    · by_cases hocc : (bnd w u).1 ∈ (sub th (bnd w u).2).row
      · exact ⟨1, tb, false, th, rk, .fail ⟨g, a, hx, hy, rx, ry⟩ w1 w2 hsame hocc, g, a, fun h => (by cases h), fun _ s hu => g.no b2 hsame hocc hu.2 ((heq s hu.2).mp hu.1).2⟩
      · have hlen : tb.length + 1 ≤ A.length := by
          have hk : (bnd w u).1 ∉ ks tb := lk_none_ks.mp b1
          have := nodup_le (l := (bnd w u).1 :: ks tb) (m := A) (List.nodup_cons.mpr ⟨hk, g.nd⟩) fun m hm => by
            rcases List.mem_cons.mp hm with rfl | hm
            · exact b4
            · exact a.key m hm
          simpa [ks] using this
        obtain ⟨d, rfl⟩ : ∃ d', d = d' + 1 := ⟨d - 1, by omega⟩
        obtain ⟨th1, rk1, g1, _, _⟩ := g.bind b1 hocc b3 fun r hr => by
          rcases bnd_asub (w1.sub g.sat) (w2.sub g.sat) hr with h | h
          · exact g.dagT hx r h
          · exact g.dagT hy r h
        have e0 : ((bnd w u).1, (bnd w u).2) = bnd w u := rfl
        rw [e0] at g1
        have a1 : At A (tb ++ [bnd w u]) := by
          refine ⟨fun n hn => ?_, fun n z hn => ?_⟩
          · simp only [ks, List.map_append, List.map_cons, List.map_nil, List.mem_append, List.mem_singleton] at hn
            rcases hn with hn | rfl
            · exact a.key n hn
            · exact b4
          · have hlk : lk (tb ++ [bnd w u]) n = if n = (bnd w u).1 then some (bnd w u).2 else lk tb n := by
              have := lk_pt tb (bnd w u).1 n (bnd w u).2
              unfold pt at this
              rw [b1] at this
              simpa using this
            rw [hlk] at hn
            split at hn
            · simp at hn; rw [← hn]; exact b5
            · exact a.row n z hn
        obtain ⟨p, tb', b, th', rk', h1, h2, h3, h4, h5⟩ := run d (psum th1 ((chs w u).reverse ++ r)) ((chs w u).reverse ++ r) (tb ++ [bnd w u]) th1 rk1 g1 a1 hch (by simp; omega) (Nat.le_refl _)
        have hsn := fun s => sat_snoc (tb := tb) (n := (bnd w u).1) (t := (bnd w u).2) b1 s
        rw [e0] at hsn
        refine ⟨p + 1, tb', b, th', rk', .put ⟨g, a, hx, hy, rx, ry⟩ w1 w2 hsame hocc h1, h2, h3, fun hb s => ?_, fun hb s hu => h5 hb s ?_⟩
        · rw [← h4 hb s, hsn]
          exact ⟨fun hu => ⟨((heq s hu.2).mp hu.1).1, hu.2, ((heq s hu.2).mp hu.1).2⟩, fun hu => ⟨(heq s hu.2.1).mpr ⟨hu.1, hu.2.2⟩, hu.2.1⟩⟩
        · exact ⟨((heq s hu.2).mp hu.1).1, (hsn s).mpr ⟨hu.2, ((heq s hu.2).mp hu.1).2⟩⟩
termination_by d e => (d, e)
/-- runs are one -/
theorem Wl.one {t w w' : T} {k k' : Nat} (h : Wl tb t w k) (h' : Wl tb t w' k') : w = w' ∧ k = k' := by
  induction h generalizing w' k' with
  | done h =>
    cases h' with
    | done _ => exact ⟨rfl, rfl⟩
    | more h2 _ => rw [h] at h2; cases h2
  | more h _ ih =>
    cases h' with
    | done h2 => rw [h] at h2; cases h2
    | more h2 h3 =>
      rw [h] at h2
      cases h2
      obtain ⟨e1, e2⟩ := ih h3
      exact ⟨e1, by rw [e2]⟩
/-- what is put is one -/
theorem Gd.one {S' : List T} {th' : Nat → T} {rk' : Nat → Nat} (g : Gd S th rk tb) (g' : Gd S' th' rk' tb) : ∀ n, th n = th' n := by
  have h1 := fun n => g.through g'.sat n
  intro n
  have : sub th' (th n) = sub T.v (th n) := sub_congr fun m hm => g'.out m (g.idem n m hm)
  rw [sub_id] at this
  rw [← this, h1]
theorem At.few (a : At A tb) (hn : (ks tb).Nodup) : tb.length ≤ A.length := by
  have := nodup_le hn a.key
  simpa [ks] using this
/-- nine arrows alone: what comes of them is small -/
theorem Gd.small (g : Gd S th rk tb) (h9 : S.length ≤ 9) {t : T} (ht : ∀ r ∈ asub (sub th t), ∃ q ∈ S, r = sub th q) : (sub th t).hd ≤ 9 ∧ (sub th t).pl ≤ 512 := by
  have := dag _ (S.map (sub th)) (sub th t) (Nat.le_refl _) fun r hr => by
    obtain ⟨q, h1, h2⟩ := ht r hr
    exact List.mem_map.mpr ⟨q, h1, h2.symm⟩
  rw [List.length_map] at this
  have h2 : 2 ^ S.length ≤ 2 ^ 9 := Nat.pow_le_pow_right (by omega) h9
  exact ⟨by omega, by omega⟩
theorem Gd.few (g : Gd S th rk tb) (a : At A tb) (h6 : A.length ≤ 6) (n : Nat) : rk n < 64 := by
  have h1 := g.bnd n
  have h2 := a.few g.nd
  have h3 : 2 ^ tb.length ≤ 2 ^ 6 := Nat.pow_le_pow_right (by omega) (by omega)
  omega
end W79
end
section
set_option linter.all false
/-! W9: named; fits and cases -/
namespace W79
open PySem Rf
def prn (p : Nat × Nat) : PV := .tup [.int p.1, .int p.2]
theorem pairs_nm : ∀ l : List (Nat × Nat), pairsOf (l.map prn) = some (enc iv l)
  | [] => rfl
  | p :: l => by simp [pairsOf, prn, keyOk, pairs_nm l, enc]
theorem pt_newN {tb : List (Nat × Nat)} {n : Nat} (h : n ∉ ks tb) (x : Nat) : pt tb n x = tb ++ [(n, x)] := by
  unfold pt
  rw [if_neg fun e => h (lk_some_ks.mp e)]
theorem merge_nm : ∀ (l tb : List (Nat × Nat)), (ks (tb ++ l)).Nodup → merge (enc iv tb) (enc iv l) = enc iv (tb ++ l)
  | [], tb, _ => by simp [merge, enc]
  | p :: l, tb, h => by
    have h1 : p.1 ∉ ks tb := by
      simp only [ks, List.map_append, List.map_cons] at h
      have := (List.nodup_append.mp h).2.2
      intro e
      exact this p.1 e p.1 (by simp) rfl
    have h2 : merge (enc iv tb) (enc iv (p :: l)) = merge (put (enc iv tb) (.int p.1) (iv p.2)) (enc iv l) := rfl
    rw [h2, put_enc, pt_newN h1, merge_nm l _ (by simpa using h)]
    simp
theorem dict_nm {b : Bool} {st : Sto} {l : List (Nat × Nat)} (h : (ks l).Pairwise (· < ·)) : blSeq .dict b (l.map prn) st = .ok (.obj st.length) (st ++ [.dct false (enc iv l)]) := by
  have e := merge_nm l [] (by simpa using nodup_lt h)
  simp only [blSeq, pairs_nm, newO, id]
  rw [← List.nil_append l]
  simp only [List.nil_append] at e ⊢
  have e0 : enc iv ([] : List (Nat × Nat)) = [] := rfl
  rw [e0] at e
  rw [e]
/-- other values for the goals that are not known yet -/
def addR (s : Nat → T) (tb : List (Nat × T)) (n : Nat) : List (Nat × T) := if (lk tb n).isSome then tb else tb ++ [(n, s n)]
def Agr (tb : List (Nat × T)) (s : Nat → T) : Prop := ∀ n u, lk tb n = some u → u = s n
theorem addR_lk (s : Nat → T) (tb : List (Nat × T)) (n m : Nat) (h : Agr tb s) : lk (addR s tb n) m = if m = n then some (s n) else lk tb m := by
  unfold addR
  by_cases e : (lk tb n).isSome = true
  · rw [if_pos e]
    by_cases e2 : m = n
    · subst e2
      obtain ⟨u, hu⟩ := Option.isSome_iff_exists.mp e
      rw [if_pos rfl, hu, h _ _ hu]
    · rw [if_neg e2]
  · rw [if_neg e]
    have := lk_pt tb n m (s n)
    unfold pt at this
    rw [if_neg e] at this
    exact this
theorem addR_agr {s : Nat → T} {tb : List (Nat × T)} (h : Agr tb s) (n : Nat) : Agr (addR s tb n) s := fun m u e => by
  rw [addR_lk s tb n m h] at e
  by_cases e2 : m = n
  · subst e2; simp at e; exact e.symm
  · rw [if_neg e2] at e; exact h m u e
theorem addRs_agr {s : Nat → T} : ∀ (l : List Nat) {tb : List (Nat × T)}, Agr tb s → Agr (l.foldl (addR s) tb) s
  | [], _, h => h
  | n :: l, _, h => addRs_agr l (addR_agr h n)
theorem addRs_lk {s : Nat → T} : ∀ (l : List Nat) {tb : List (Nat × T)} (m : Nat), Agr tb s → lk (l.foldl (addR s) tb) m = if m ∈ l then some (s m) else lk tb m
  | [], tb, m, _ => by simp
  | n :: l, tb, m, h => by
    rw [List.foldl_cons, addRs_lk l m (addR_agr h n), addR_lk s tb n m h]
    by_cases e : m ∈ l
    · simp [e]
    · by_cases e2 : m = n
      · subst e2; simp
      · simp [e, e2]
theorem addR_len (s : Nat → T) (tb : List (Nat × T)) (n : Nat) : (addR s tb n).length ≤ tb.length + 1 := by unfold addR; split <;> simp
theorem addRs_len (s : Nat → T) : ∀ (l : List Nat) (tb : List (Nat × T)), (l.foldl (addR s) tb).length ≤ tb.length + l.length
  | [], tb => by simp
  | n :: l, tb => by
    have h1 := addRs_len s l (addR s tb n)
    have h2 := addR_len s tb n
    simp only [List.foldl_cons, List.length_cons]
    omega
theorem addR_nodup {s : Nat → T} {tb : List (Nat × T)} (h : (ks tb).Nodup) (n : Nat) : (ks (addR s tb n)).Nodup := by
  unfold addR
  split
  · exact h
  · rename_i e
    have := ks_nodup_pt h n (s n)
    unfold pt at this
    rw [if_neg e] at this
    exact this
theorem addRs_nodup {s : Nat → T} : ∀ (l : List Nat) {tb : List (Nat × T)}, (ks tb).Nodup → (ks (l.foldl (addR s) tb)).Nodup
  | [], _, h => h
  | n :: l, _, h => addRs_nodup l (addR_nodup h n)
section
variable {V : Ev} {t : Tg} {b : List Sm} {S α : Type}
/-- a walk over two rows, the second at least as long -/
theorem for_zipA (e1 e2 : α → PV) (F : S → α → S) (I : S → Rf.Loc → Sto → Prop) (more : List PV) : ∀ (l : List α) (s : S) (m : Nat) (σ : Rf.Loc) (st : Sto),
    (∀ s σ st, ∀ x ∈ l, I s σ st → ∃ σ1 st1 σ2 st2, V.t t (.tup [e1 x, e2 x]) σ st = .ok σ1 st1 ∧ V.s b σ1 st1 = .nx σ2 st2 ∧ I (F s x) σ2 st2) →
    I s σ st → l.length < m → ∃ σ' st', forGo V t b m (.zip (.fix (l.map e1)) (.fix (l.map e2 ++ more))) σ st = .nx σ' st' ∧ I (l.foldl F s) σ' st'
  | [], s, m + 1, σ, st, _, h, _ => ⟨σ, st, by cases more <;> simp [forGo, Wk.next, Sr.next], h⟩
  | x :: l, s, m + 1, σ, st, hs, h, hm => by
    obtain ⟨σ1, st1, σ2, st2, h1, h2, h3⟩ := hs s σ st x (by simp) h
    obtain ⟨σ', st', h4, h5⟩ := for_zipA e1 e2 F I more l (F s x) m σ2 st2 (fun s σ st y hy => hs s σ st y (by simp [hy])) h3 (by simpa using hm)
    refine ⟨σ', st', ?_, h5⟩
    simp only [List.map_cons, List.cons_append, forGo, Wk.next, Sr.next, h1, rf_ok, h2, h4]
/-- a list made by a walk over two rows, while the store changes -/
theorem comp_zipS {elt : Ex} {σ : Rf.Loc} (e1 e2 f : α → PV) (F : S → α → S) (I : S → Sto → Prop) : ∀ (l : List α) (s : S) (m : Nat) (acc : List PV) (st : Sto),
    (∀ s st, ∀ x ∈ l, I s st → ∃ σ1 st1 st2, V.t t (.tup [e1 x, e2 x]) σ st = .ok σ1 st1 ∧ V.e elt σ1 st1 = .ok (f x) st2 ∧ I (F s x) st2) →
    I s st → l.length < m → ∃ st', compGo V elt t none σ m (.zip (.fix (l.map e1)) (.fix (l.map e2))) acc st = .ok (acc.reverse ++ l.map f) st' ∧ I (l.foldl F s) st'
  | [], s, m + 1, acc, st, _, h, _ => ⟨st, by simp [compGo, Wk.next, Sr.next], h⟩
  | x :: l, s, m + 1, acc, st, hs, h, hm => by
    obtain ⟨σ1, st1, st2, h1, h2, h3⟩ := hs s st x (by simp) h
    obtain ⟨st', h4, h5⟩ := comp_zipS e1 e2 f F I l (F s x) m (f x :: acc) st2 (fun s st y hy => hs s st y (by simp [hy])) h3 (by simpa using hm)
    refine ⟨st', ?_, h5⟩
    simp only [List.map_cons, compGo, Wk.next, Sr.next, h1, nx_ok, rb_ok, h2, h4]
    simp
end
theorem set_same {st : Sto} {k : Nat} {o : MO} (h : st[k]? = some o) : st.set k o = st := by
  obtain ⟨h1, rfl⟩ := List.getElem?_eq_some_iff.mp h
  exact List.set_getElem_self h1
theorem get_set {st : Sto} {k : Nat} {o : MO} (o' : MO) (h : st[k]? = some o) : (st.set k o')[k]? = some o' := by
  have := (List.getElem?_eq_some_iff.mp h).1
  simp [this]
section
variable {st : Sto} {j : Nat}
theorem trim_len {st' : Sto} (v : PV) (h : st'.length = st.length) : R.trim st.length (.ok v st') = .ok v st' := by rw [← h]; exact trim_ok v
theorem is_naming_pv {l : List (Nat × Nat)} (h : (ks l).Pairwise (· < ·)) (hl : l.length < 1000) : cl (j + 3) 15 [.tup (l.map prn)] st = .ok (.bl true) st := by
  rw [cl, call_eq P79.f15 15 _ _ rfl rfl]
  simp [P79.f15, isin, kindOf, Rf.truthy, blSeqB]
  rw [comp_mapA (fun x => [some (.tup (l.map prn)), none, some x]) (f := fun _ => .bl true) l 100000 [] (by omega) (fun p hp => ⟨by simp, by simp [prn, is_tuple_of]⟩)]
  simp [all_map, Rf.truthy]
  rw [comp_mapA (fun x => [some (.tup (l.map prn)), none, some x]) (f := fun _ => .bl true) l 100000 [] (by omega) (fun p hp => ⟨by simp, by
    simp [prn, is_count_nat, Rf.truthy]⟩)]
  simp [all_map, Rf.truthy]
  rw [comp_mapA (fun x => [some (.tup (l.map prn)), none, some x]) (f := fun p => iv p.1) l 100000 [] (by omega) (fun p hp => ⟨by simp, by simp [prn]⟩)]
  have e : (l.map fun p => iv p.1) = (ks l).map iv := by simp [ks]
  simp [e, blSeq, rises_lt (j := j + 1) h (by simp [ks]; omega)]
theorem named_pv {t : T} {l : List (Nat × Nat)} (ho : t.ok) (h : (ks l).Pairwise (· < ·)) (hl : l.length < 1000) (hj : 2 * t.hd + 4 ≤ j) (hc : Sto.closed st.length st = true) : cl (j + 1) 16 [pv t, .tup (l.map prn)] st = .ok (pv (ren (nmF l) t)) st := by
  obtain ⟨i, rfl⟩ : ∃ i, j = i + 3 := ⟨j - 3, by omega⟩
  rw [cl, call_eq P79.f16 16 _ _ rfl rfl]
  have hp : puB (i + 3) (.tup (l.map prn)) = true := by
    have : l.length < 99999 := by omega
    simp only [puB, List.length_map, this, decide_true, Bool.true_and, List.all_map]
    exact List.all_eq_true.mpr fun p hp => by simp [prn, puB]
  have h1 := tupled_pu (st := st) hp
  have h2 := named_by_pv (j := i + 3) (t := t) (st := st ++ [.dct false (enc iv l)]) (k := st.length) (nm := l) ho (by omega) (by unfold Dn; simp)
  simp [P79.f16, sure_home_pv (j := i + 2) (st := st) ho (by omega), h1, is_naming_pv (j := i) (st := st) h hl, Rf.truthy, blSeqB, blOf, dict_nm h, h2]
  rw [trim_app _ _ (under_pv _ _) hc]
/-- a table of few keys -/
structure Few (tb : List (Nat × T)) : Prop where
  nd : (ks tb).Nodup
  lt : ∀ n ∈ ks tb, n < 1000000
theorem Few.len {tb : List (Nat × T)} (h : Few tb) : tb.length ≤ 1000000 := by
  have := nodup_le h.nd (m := List.range 1000000) fun n hn => List.mem_range.mpr (h.lt n hn)
  simpa [ks] using this
theorem Few.add {s : Nat → T} {tb : List (Nat × T)} (h : Few tb) {n : Nat} (hn : n < 1000000) : Few (addR s tb n) := by
  refine ⟨addR_nodup h.nd n, fun m hm => ?_⟩
  unfold addR at hm
  split at hm
  · exact h.lt m hm
  · simp only [ks, List.map_append, List.mem_append, List.map_cons, List.map_nil, List.mem_singleton] at hm
    rcases hm with hm | rfl
    · exact h.lt m hm
    · exact hn
theorem Few.adds {s : Nat → T} : ∀ (l : List Nat) {tb : List (Nat × T)}, Few tb → (∀ n ∈ l, n < 1000000) → Few (l.foldl (addR s) tb)
  | [], _, h, _ => h
  | n :: l, _, h, hl => Few.adds l (h.add (hl n (by simp))) fun m hm => hl m (by simp [hm])
theorem row_flat (t : T) : t.row = t.as.flatMap T.row ++ [t.gl] := by
  induction t with
  | v n => simp
  | a x y _ ih => simp [ih]
theorem hd_gl (s : Nat → T) (t : T) : (s t.gl).hd ≤ (sub s t).hd := by
  induction t with
  | v n => simp
  | a x y _ ih => simp; omega
theorem fits_pv {s : Nat → T} : ∀ {j : Nat} {t : T} {st : Sto} {k : Nat} {tb : List (Nat × T)}, t.ok → t.hd + 1 ≤ j → Dt st k tb → Agr tb s → (sub s t).hd ≤ 25 → (∀ x, (sub s x).pl ≤ (sub s t).pl → (sub s x).as.length < 90000) → Few tb → (∀ n ∈ t.row, n < 1000000) →
    cl j 34 [pv t, pv (sub s t), .obj k] st = .ok (.bl true) (st.set k (.dct false (enc pv (t.row.foldl (addR s) tb))))
  | 0, t, st, k, tb, _, h, _, _, _, _, _, _ => by omega
  | j + 1, t, st, k, tb, ho, h, hd, ha, h25, hlen, hf, hr => by
    rw [cl, call_eq P79.f34 34 j _ rfl rfl]
    have hl := ho.len
    have hot : (sub s t).as = t.as.map (sub s) ++ (s t.gl).as := sub_as s t
    have hog : (sub s t).gl = (s t.gl).gl := sub_gl s t
    have hsg : (s t.gl).hd ≤ 25 := by have := hd_gl s t; omega
    let σ0 : Option PV → Option PV → Rf.Loc := fun a b => [some (pv t), some (pv (sub s t)), some (.obj k), some (.tup (t.as.map pv)), some (.int t.gl), a, b, none]
    let F : List (Nat × T) → T → List (Nat × T) := fun tb x => x.row.foldl (addR s) tb
    obtain ⟨σ', st', hgo, ⟨a, b, hσ⟩, hst, ha2, hf2⟩ := for_zipA (V := evN P79.pg (callN P79.pg 100000 200 j) 100000 199) (t := .tup [(.name 5), (.name 6)]) (b := [(.ife (.not (.call 34 [(.var 5), (.var 6), (.var 2)])) [(.ret (some (.lit (.bl false))))] [])])
      pv (fun x => pv (sub s x)) F (fun q σ s' => (∃ a b, σ = σ0 a b) ∧ s' = st.set k (.dct false (enc pv q)) ∧ Agr q s ∧ Few q) ((s t.gl).as.map pv) t.as tb 100000 (σ0 none none) st
      (fun q σ s' x hx ⟨⟨a, b, e1⟩, e2, e3, e4⟩ => by
        subst e1 e2
        have hx1 := T.hd_lt hx
        have hxs : sub s x ∈ (sub s t).as := by rw [hot]; exact List.mem_append_left _ (List.mem_map_of_mem hx)
        have hx2 := T.hd_lt hxs
        have hx3 : (sub s x).pl ≤ (sub s t).pl := by
          have key : ∀ u : T, sub s x ∈ u.as → (sub s x).pl ≤ u.pl := by
            intro u
            induction u with
            | v m => intro h; simp at h
            | a y z _ ih =>
              intro h
              simp only [T.as_a, List.mem_cons] at h
              rcases h with h | h
              · rw [← h]; simp
              · have := ih h; simp; omega
          exact key _ hxs
        have ih := fits_pv (s := s) (j := j) (t := x) (st := st.set k (.dct false (enc pv q))) (k := k) (tb := q) (ho.sub hx) (by omega) (get_set _ hd) e3 (by omega) (fun y hy => hlen y (by omega)) e4 (fun n hn => hr n (T.row_as hx n hn))
        rw [List.set_set] at ih
        refine ⟨_, _, _, _, by simp [σ0]; exact ⟨rfl, rfl⟩, by simp [ih, Rf.truthy]; exact ⟨rfl, rfl⟩, ⟨⟨_, _, rfl⟩, rfl, addRs_agr _ e3, Few.adds _ e4 fun n hn => hr n (T.row_as hx n hn)⟩⟩)
      ⟨⟨none, none, rfl⟩, (set_same hd).symm, ha, hf⟩ (by omega)
    have hfold : t.as.foldl F tb = (t.as.flatMap T.row).foldl (addR s) tb := by
      have : ∀ (l : List T) (tb : List (Nat × T)), l.foldl F tb = (l.flatMap T.row).foldl (addR s) tb := by
        intro l
        induction l with
        | nil => intro tb; rfl
        | cons x l ih => intro tb; rw [List.foldl_cons, ih, List.flatMap_cons, List.foldl_append]
      exact this _ _
    rw [hfold] at hst ha2 hf2
    subst hσ hst
    have hgl : t.gl < 1000000 := hr _ (T.gl_row t)
    have hget : Dt (st.set k (.dct false (enc pv ((t.as.flatMap T.row).foldl (addR s) tb)))) k ((t.as.flatMap T.row).foldl (addR s) tb) := get_set _ hd
    have hfinal : t.row.foldl (addR s) tb = addR s ((t.as.flatMap T.row).foldl (addR s) tb) t.gl := by rw [row_flat t, List.foldl_append]; rfl
    have hF3 := addR_agr ha2 t.gl
    have hlk := addR_lk s ((t.as.flatMap T.row).foldl (addR s) tb) t.gl t.gl ha2
    rw [if_pos rfl] at hlk
    rw [hfinal]
    generalize (t.as.flatMap T.row).foldl (addR s) tb = q at hgo hget ha2 hf2 hF3 hlk ⊢
    have hlt : ¬ ((t.as.length : Int) + ((s t.gl).as.length : Int) < t.as.length) := by omega
    have hq : q.length < 16000000 := by have := hf2.len; omega
    have hwi := with_nm hget t.gl
    have hcut : cut (t.as.map (fun x => pv (sub s x)) ++ (s t.gl).as.map pv) (some (t.as.length : Int)) none = (s t.gl).as.map pv := by
      rw [cut_drop, List.drop_left' (by simp)]
    have hmk := pv_eq (s t.gl)
    have heq := eqD_pv (st := st.set k (.dct false (enc pv (addR s q t.gl)))) (t := s t.gl) (u := s t.gl) (by omega) (by omega)
    simp only [decide_true] at heq
    have hget2 : Dt (st.set k (.dct false (enc pv (addR s q t.gl)))) k (addR s q t.gl) := get_set _ hd
    have hit := item_d hget2 t.gl hlk
    have e1 : pv (sub s t) = .tup [.tup (t.as.map (fun x => pv (sub s x)) ++ (s t.gl).as.map pv), .int (s t.gl).gl] := by
      rw [pv_eq, hot, hog, List.map_append, List.map_map]
      rfl
    simp only [σ0, e1] at hgo
    rw [e1]
    rw [pv_eq t] at hgo ⊢
    simp [P79.f34, hlt, Rf.truthy, blSeqB, blOf, blSeq]
    rw [s_for _ _ _ (lock_zip _ _)]
    simp [hgo, hcut, sliceOf, blSeqB, blOf, blSeq]
    rw [← hmk]
    cases e : lk q t.gl with
    | none =>
      rw [e] at hwi
      simp at hwi
      have hadd : addR s q t.gl = pt q t.gl (s t.gl) := by
        unfold addR pt
        simp [e]
      have hsd := set_d (f := pv) hget hq t.gl (s t.gl)
      rw [List.set_set, ← hadd] at hsd
      simp [hwi, Rf.truthy, hsd, hit, heq]
      rw [trim_len _ (by simp)]
    | some u =>
      rw [e] at hwi
      simp at hwi
      have hadd : addR s q t.gl = q := by
        unfold addR
        simp [e]
      rw [hadd] at hit heq
      simp [hwi, Rf.truthy, hadd, hit, heq]
      rw [trim_len _ (by simp)]
end
end W79
end
section
set_option linter.all false
/-! W10: cases -/
namespace W79
open PySem Rf
section
variable {st : Sto} {j : Nat} {s : Nat → T}
theorem few_nil : Few [] := ⟨by simp [ks], by simp [ks]⟩
theorem agr_nil : Agr [] s := fun n u e => by simp at e
theorem fits_ok {t : T} {k : Nat} {tb : List (Nat × T)} (ho : t.ok) (h : t.hd + 1 ≤ j) (hd : Dt st k tb) (ha : Agr tb s) (hs : (sub s t).ok) (hf : Few tb) (hr : t.atl 1000000) :
    cl j 34 [pv t, pv (sub s t), .obj k] st = .ok (.bl true) (st.set k (.dct false (enc pv (t.row.foldl (addR s) tb)))) :=
  fits_pv ho h hd ha (by have := hs.1; omega) (fun x hx => by
    have := T.as_pl (sub s x)
    have := hs.2
    omega) hf hr
theorem dn0 : Dt (st ++ [.dct false []]) st.length [] := by unfold Dt; simp [enc]
theorem is_case_pv {t : T} (ho : t.ok) (hs : (sub s t).ok) (hr : t.atl 1000000) (hj : 2 * t.hd + 4 ≤ j) (hj2 : 2 * (sub s t).hd + 4 ≤ j) (hc : Sto.closed st.length st = true) : cl (j + 1) 35 [pv t, pv (sub s t)] st = .ok (.bl true) st := by
  obtain ⟨i, rfl⟩ : ∃ i, j = i + 1 := ⟨j - 1, by omega⟩
  rw [cl, call_eq P79.f35 35 _ _ rfl rfl]
  have h1 := fits_ok (j := i + 1) (t := t) ho (by omega) (dn0 (st := st)) agr_nil hs few_nil hr
  simp [P79.f35, sure_home_pv (j := i) (st := st) ho (by omega), sure_home_pv (j := i) (st := st) hs (by omega), h1]
  rw [trim_app _ _ rfl hc]
/-- the filling that a case shows -/
def caseF (s : Nat → T) (t : T) : List (Nat × T) := (sN t.row).map fun n => (n, s n)
theorem adds0 (t : T) : (ks (t.row.foldl (addR s) [])).Nodup ∧ sN (ks (t.row.foldl (addR s) [])) = sN t.row ∧ (∀ n ∈ t.row, lk (t.row.foldl (addR s) []) n = some (s n)) ∧ ∀ n, n ∈ ks (t.row.foldl (addR s) []) ↔ n ∈ t.row := by
  have h1 : ∀ n, n ∈ ks (t.row.foldl (addR s) []) ↔ n ∈ t.row := fun n => by
    rw [← lk_some_ks, addRs_lk _ _ agr_nil]
    by_cases h : n ∈ t.row <;> simp [h]
  refine ⟨addRs_nodup _ (by simp [ks]), strict_eq (fun x => by rw [sN_mem, sN_mem, h1]) (sN_lt _) (sN_lt _), fun n hn => ?_, h1⟩
  rw [addRs_lk _ _ agr_nil, if_pos hn]
theorem filling_by_pv {t : T} (ho : t.ok) (hs : (sub s t).ok) (hr : t.atl 1000000) (hj : t.hd + 1 ≤ j) (h64 : (sN t.row).length < 64) (hc : Sto.closed st.length st = true) : cl (j + 1) 36 [pv t, pv (sub s t)] st = .ok (fv (caseF s t)) st := by
  rw [cl, call_eq P79.f36 36 _ _ rfl rfl]
  have h1 := fits_ok (j := j) (t := t) ho (by omega) (dn0 (st := st)) agr_nil hs few_nil hr
  obtain ⟨a1, a2, a3, a4⟩ := adds0 (s := s) t
  have hd : Dt (st ++ [.dct false (enc pv (t.row.foldl (addR s) []))]) st.length (t.row.foldl (addR s) []) := by unfold Dt; simp
  have hlen : (t.row.foldl (addR s) []).length < 64 := by
    have := nodup_le a1 (m := sN t.row) fun n hn => sN_mem.mpr ((a4 n).mp hn)
    simp only [ks, List.length_map] at this
    omega
  have hd0 : (st ++ [MO.dct false (enc pv (t.row.foldl (addR s) []))])[st.length]? = some (.dct false (enc pv (t.row.foldl (addR s) []))) := hd
  have hsd := sorted_d hd0 a1 hlen
  rw [a2] at hsd
  have hd2 := get_old [.lst ((sN t.row).map iv)] hd0
  simp at h1 hsd
  simp [P79.f36, h1, Rf.truthy, blSeqB, hsd]
  rw [comp_liveA (e := iv) (f := fun n => pr (n, s n)) (fun x => [some (pv t), some (pv (sub s t)), some (.obj st.length), none, some x]) (st.length + 1) (sN t.row) (get_app _ _ 1) (fun n hn => ⟨by simp, by
    have e := item_d hd2 n (a3 n (sN_mem.mp hn))
    simp at e
    simp [e, pr]⟩) (sN t.row) 0 100000 [] rfl (by omega)]
  simp [blSeq]
  rw [trim_app _ _ ?_ hc]
  · simp only [fv, caseF, List.map_map, List.reverse_nil, List.nil_append]
    rfl
  · simp only [PV.under]
    exact unders_of fun x hx => by
      obtain ⟨n, _, rfl⟩ := List.mem_map.mp hx
      simp [pr, PV.under, PV.unders, under_pv]
theorem filling_to_pv {t : T} (ho : t.ok) (hs : (sub s t).ok) (hr : t.atl 1000000) (hj : 2 * t.hd + 4 ≤ j) (hj2 : 2 * (sub s t).hd + 4 ≤ j) (h64 : (sN t.row).length < 64) (hc : Sto.closed st.length st = true) : cl (j + 1) 37 [pv t, pv (sub s t)] st = .ok (fv (caseF s t)) st := by
  obtain ⟨i, rfl⟩ : ∃ i, j = i + 1 := ⟨j - 1, by omega⟩
  rw [cl, call_eq P79.f37 37 _ _ rfl rfl]
  simp [P79.f37, sure_home_pv (j := i) (st := st) ho (by omega), sure_home_pv (j := i) (st := st) hs (by omega), filling_by_pv (j := i) (st := st) ho hs hr (by omega) h64 hc, fv, cmpop, Rf.truthy]
theorem bools_map {α : Type} (l : List α) : blSeq .all false (l.map fun _ => PV.bl true) st = .ok (.bl true) st := all_map l
theorem are_cases_in_pv {l : List T} (ho : ∀ t ∈ l, t.ok ∧ (sub s t).ok ∧ t.atl 1000000 ∧ t.hd + 1 ≤ j) (hl : l.length < 99999) (hc : Sto.closed st.length st = true) : cl (j + 1) 38 [.tup (l.map pv), .tup (l.map fun t => pv (sub s t))] st = .ok (.bl true) st := by
  rw [cl, call_eq P79.f38 38 _ _ rfl rfl]
  let F : List (Nat × T) → T → List (Nat × T) := fun tb x => x.row.foldl (addR s) tb
  obtain ⟨st', hgo, hst, _, _⟩ := comp_zipS (V := evN P79.pg (callN P79.pg 100000 200 j) 100000 197) (t := .tup [(.name 4), (.name 5)]) (elt := .call 34 [(.var 4), (.var 5), (.var 2)]) (σ := [some (.tup (l.map pv)), some (.tup (l.map fun t => pv (sub s t))), some (.obj st.length), none, none, none]) pv (fun t => pv (sub s t)) (fun _ => .bl true) F
    (fun q s' => s' = st ++ [.dct false (enc pv q)] ∧ Agr q s ∧ Few q) l [] 100000 [] (st ++ [.dct false []]) (fun q s' x hx ⟨e1, e2, e3⟩ => by
      subst e1
      obtain ⟨o1, o2, o3, o4⟩ := ho x hx
      have hd : Dt (st ++ [.dct false (enc pv q)]) st.length q := by unfold Dt; simp
      have h1 := fits_ok (j := j) (t := x) o1 o4 hd e2 o2 e3 o3
      simp at h1
      refine ⟨_, _, _, by simp; exact ⟨rfl, rfl⟩, by simp [h1]; rfl, rfl, addRs_agr _ e2, Few.adds _ e3 o3⟩) ⟨by simp [enc], agr_nil, few_nil⟩ (by omega)
  simp [P79.f38, blSeqB, hgo, bools_map]
  subst hst
  rw [trim_app _ _ rfl hc]
theorem are_cases_pv {l : List T} (ho : ∀ t ∈ l, t.ok ∧ (sub s t).ok ∧ t.atl 1000000 ∧ 2 * t.hd + 5 ≤ j ∧ 2 * (sub s t).hd + 5 ≤ j) (hl : l.length < 2000) (h6 : 6 ≤ j) (hc : Sto.closed st.length st = true) : cl (j + 1) 39 [.tup (l.map pv), .tup (l.map fun t => pv (sub s t))] st = .ok (.bl true) st := by
  obtain ⟨i, rfl⟩ : ∃ i, j = i + 1 := ⟨j - 1, by omega⟩
  rw [cl, call_eq P79.f39 39 _ _ rfl rfl]
  have h1 := sure_homes_pv (j := i) (st := st) hl (fun t ht => (ho t ht).1) (fun t ht => by have := (ho t ht).2.2.2.1; omega) (by omega)
  have h2 := sure_homes_pv (j := i) (st := st) (l := l.map (sub s)) (by simpa using hl) (fun t ht => by obtain ⟨u, hu, rfl⟩ := List.mem_map.mp ht; exact (ho u hu).2.1) (fun t ht => by obtain ⟨u, hu, rfl⟩ := List.mem_map.mp ht; have := (ho u hu).2.2.2.2; omega) (by omega)
  have h3 := are_cases_in_pv (j := i) (st := st) (s := s) (l := l) (fun t ht => ⟨(ho t ht).1, (ho t ht).2.1, (ho t ht).2.2.1, by have := (ho t ht).2.2.2.1; omega⟩) (by omega) hc
  rw [List.map_map] at h2
  have e : (pv ∘ sub s) = fun t => pv (sub s t) := rfl
  rw [e] at h2
  simp [P79.f39, h1, h2, h3, blSeqB, blOf, blSeq, Rf.truthy]
end
end W79
end
section
set_option linter.all false
/-! W11: a meeting's walks -/
namespace W79
open PySem Rf
/-- a table at a place, walked over or not -/
def Dx (st : Sto) (d : Nat) (tb : Tab) : Prop := ∃ b, st[d]? = some (.dct b (enc pv tb))
theorem Dx.of {st : Sto} {d : Nat} {tb : Tab} (h : Dt st d tb) : Dx st d tb := ⟨false, h⟩
section
variable {st : Sto} {j : Nat} {S : List T} {th : Nat → T} {rk : Nat → Nat} {tb : Tab}
theorem with_x {d : Nat} (h : Dx st d tb) (n : Nat) : within (.int n) (.obj d) st = some (lk tb n).isSome := by
  obtain ⟨b, h⟩ := h
  simp only [within, h, keyOk, if_true, look_enc]
  simp
theorem item_x {d : Nat} (h : Dx st d tb) (n : Nat) {x : T} (e : lk tb n = some x) : item (.obj d) (.int n) st = some (pv x) := by
  obtain ⟨b, h⟩ := h
  simp [item, h, keyOk, look_enc, e]
/-- a meeting at k, its table at d -/
structure Mt (st : Sto) (k d : Nat) (tb : Tab) : Prop where
  ob : st[k]? = some (.ins 0 [(0, .obj d)])
  tb : Dx st d tb
theorem cls0 : P79.pg.cls.length = 1 := rfl
theorem fld_m {C : CallF} {L n k d : Nat} {σ : Rf.Loc} (h : Mt st k d tb) (h0 : σ[0]? = some (some (.obj k))) : stepE P79.pg C L (evN P79.pg C L (n + 1)) (.fld (.var 0) 0) σ st = .ok (.obj d) st := by
  simp [h0, h.ob, cls0, lookF]
theorem meth_m {C : CallF} {k d : Nat} (h : st[k]? = some (.ins 0 [(0, .obj d)])) (fs : Sto → R (List PV)) :
    methR P79.pg C 1 (.obj k) fs st = ((fs st).bind fun vs st2 => C 27 (.obj k :: vs) st2) ∧ methR P79.pg C 2 (.obj k) fs st = ((fs st).bind fun vs st2 => C 28 (.obj k :: vs) st2) ∧ methR P79.pg C 3 (.obj k) fs st = ((fs st).bind fun vs st2 => C 29 (.obj k :: vs) st2) ∧
    methR P79.pg C 4 (.obj k) fs st = ((fs st).bind fun vs st2 => C 30 (.obj k :: vs) st2) ∧ methR P79.pg C 5 (.obj k) fs st = ((fs st).bind fun vs st2 => C 31 (.obj k :: vs) st2) := by
  refine ⟨?_, ?_, ?_, ?_, ?_⟩ <;> simp [methR, h, P79.pg, findM]
theorem Wl.len {t w : T} {k : Nat} (h : Wl tb t w k) : t.as.length ≤ w.as.length := by
  induction h with
  | done => exact Nat.le_refl _
  | more _ _ ih => simp at ih; omega
/-- the while loop along goals -/
theorem walk_while {V : Ev} {c : Ex} {b : List Sm} {o x : Option PV} {d : Nat} (hd : Dx st d tb)
    (hc : ∀ (t : T) (z : Option PV), tst V.e c [o, x, some (.tup (t.as.map pv)), some (.int t.gl), z] st = .ok (lk tb t.gl).isSome st)
    (hb : ∀ (t u : T) (z : Option PV), lk tb t.gl = some u → t.as.length + u.as.length ≤ big → ∃ z', V.s b [o, x, some (.tup (t.as.map pv)), some (.int t.gl), z] st = .nx [o, x, some (.tup ((T.bd t.as u).as.map pv)), some (.int (T.bd t.as u).gl), z'] st)
    {t w : T} {k : Nat} (h : Wl tb t w k) : ∀ (m : Nat) (z : Option PV), k < m → w.as.length ≤ big → ∃ z', whileGo V c b m [o, x, some (.tup (t.as.map pv)), some (.int t.gl), z] st = .nx [o, x, some (.tup (w.as.map pv)), some (.int w.gl), z'] st := by
  induction h with
  | @done t h =>
    intro m z hm _
    obtain ⟨m, rfl⟩ : ∃ i, m = i + 1 := ⟨m - 1, by omega⟩
    exact ⟨z, by simp only [whileGo, hc, h, Option.isSome_none, rf_ok]⟩
  | @more t u w k h h2 ih =>
    intro m z hm hw
    obtain ⟨m, rfl⟩ : ∃ i, m = i + 1 := ⟨m - 1, by omega⟩
    have := h2.len
    simp only [T.bd_as, List.length_append] at this
    obtain ⟨z1, e1⟩ := hb t u z h (by omega)
    obtain ⟨z2, e2⟩ := ih m z1 (by omega) hw
    exact ⟨z2, by simp only [whileGo, hc, h, Option.isSome_some, rf_ok, e1, e2]⟩
theorem walked_pv {k d : Nat} {t w : T} {q : Nat} (h : Mt st k d tb) (hw : Wl tb t w q) (hq : q < 100000) (hl : w.as.length ≤ big) : cl (j + 1) 27 [.obj k, pv t] st = .ok (pv w) st := by
  rw [cl, call_eq P79.f27 27 _ _ rfl rfl]
  obtain ⟨z, e⟩ := walk_while (st := st) (V := evN P79.pg (callN P79.pg 100000 200 j) 100000 199) (c := .cmp .in_ (.var 3) (.fld (.var 0) 0)) (b := [(.asg (.tup [(.name 4), (.name 3)]) (.ix (.fld (.var 0) 0) (.var 3))), (.asg (.name 2) (.bin .add (.var 2) (.var 4)))])
    (o := some (.obj k)) (x := some (pv t)) h.tb (fun t z => by simp [h.ob, cls0, lookF, with_x h.tb, Rf.truthy]) (fun t u z e hb => by
      simp [h.ob, cls0, lookF, item_x h.tb t.gl e, pv_eq u, hb]) hw 100000 none hq hl
  simp only [pv_eq t] at e
  simp [P79.f27, pv_eq t, e]
  rw [pv_eq w]
/-- the same by a for loop of at most 200 turns -/
theorem walk_for {V : Ev} {b : List Sm} {x : Option PV} (hv : ∀ (v : PV) (σ : Rf.Loc), V.t (.name 2) v σ st = .ok (σ.set 2 (some v)) st)
    (h0 : ∀ (t : T) (y a c : Option PV), lk tb t.gl = none → V.s b [some (pv t), x, y, a, c] st = .bk [some (pv t), x, y, a, c] st)
    (h1 : ∀ (t u : T) (y a c : Option PV), lk tb t.gl = some u → t.as.length + u.as.length ≤ big → ∃ a' c', V.s b [some (pv t), x, y, a, c] st = .nx [some (pv (.bd t.as u)), x, y, a', c'] st)
    {t w : T} {k : Nat} (h : Wl tb t w k) : ∀ (r m : Nat) (lo : Int) (y a c : Option PV), k < r → r < m → w.as.length ≤ big → ∃ y' a' c', forGo V (.name 2) b m (.rng lo r) [some (pv t), x, y, a, c] st = .nx [some (pv w), x, y', a', c'] st := by
  induction h with
  | @done t h =>
    intro r m lo y a c hr hm _
    obtain ⟨m, rfl⟩ : ∃ i, m = i + 1 := ⟨m - 1, by omega⟩
    obtain ⟨r, rfl⟩ : ∃ i, r = i + 1 := ⟨r - 1, by omega⟩
    exact ⟨some (.int lo), a, c, by simp only [forGo, Wk.next, hv, rf_ok, List.set_cons_succ, List.set_cons_zero, h0 t _ _ _ h]⟩
  | @more t u w k h h2 ih =>
    intro r m lo y a c hr hm hw
    obtain ⟨m, rfl⟩ : ∃ i, m = i + 1 := ⟨m - 1, by omega⟩
    obtain ⟨r, rfl⟩ : ∃ i, r = i + 1 := ⟨r - 1, by omega⟩
    have := h2.len
    simp only [T.bd_as, List.length_append] at this
    obtain ⟨a1, c1, e1⟩ := h1 t u (some (.int lo)) a c h (by omega)
    obtain ⟨y2, a2, c2, e2⟩ := ih r m (lo + 1) (some (.int lo)) a1 c1 (by omega) (by omega) hw
    exact ⟨y2, a2, c2, by simp only [forGo, Wk.next, hv, rf_ok, List.set_cons_succ, List.set_cons_zero, e1, e2]⟩
theorem law_walk_pv {d : Nat} {t w : T} {q : Nat} (h : Dx st d tb) (hw : Wl tb t w q) (hq : q < 200) (hl : w.as.length ≤ big) : cl (j + 1) 50 [pv t, .obj d] st = .ok (pv w) st := by
  rw [cl, call_eq P79.f50 50 _ _ rfl rfl]
  obtain ⟨y, a, c, e⟩ := walk_for (st := st) (V := evN P79.pg (callN P79.pg 100000 200 j) 100000 199) (b := [(.ife (.cmp .notIn (.ix (.var 0) (.lit (.int (1)))) (.var 1)) [.brk] []), (.asg (.tup [(.name 3), (.name 4)]) (.ix (.var 1) (.ix (.var 0) (.lit (.int (1)))))), (.asg (.name 0) (.tup [(.bin .add (.ix (.var 0) (.lit (.int (0)))) (.var 3)), (.var 4)]))])
    (x := some (.obj d)) (fun v σ => by simp) (fun t y a c e => by simp [pv_eq t, with_x h, e, Rf.truthy]) (fun t u y a c e hb => by
      simp [pv_eq t, with_x h, e, Rf.truthy, item_x h t.gl e, pv_eq u, hb]
      simp [pv_eq]) hw 200 100000 0 none none none hq (by omega) hl
  simp [P79.f50]
  rw [s_for _ _ _ (lock_rng _)]
  simp [e]
theorem resolved_pv (g : Gd S th rk tb) (hr : ∀ n, rk n < 199) : ∀ {j : Nat} {t : T} {k d : Nat}, Mt st k d tb → (sub th t).pl ≤ 2000 → (sub th t).hd + 1 ≤ j → cl (j + 1) 28 [.obj k, pv t] st = .ok (pv (sub th t)) st
  | 0, t, k, d, _, _, h => by omega
  | j + 1, t, k, d, h, hp, hj => by
    rw [cl, call_eq P79.f28 28 _ _ rfl rfl]
    obtain ⟨w, q, hw, hq⟩ := g.wl t
    have hrk := hr t.gl
    have es : sub th w = sub th t := hw.sub g.sat
    have hwl : w.as.length < 2000 := by have := T.as_pl w; have := pl_sub th w; rw [es] at this; omega
    have e1 := walked_pv (j := j) h hw (by omega) (by unfold big; omega)
    rw [pv_eq w] at e1
    have er : pv (sub th t) = .tup [.tup (w.as.map fun z => pv (sub th z)), .int w.gl] := by
      rw [← es, sub_self, g.out _ hw.goal, pv_eq]
      simp [Function.comp_def]
    simp [P79.f28, (meth_m h.ob _).1, e1, blSeqB]
    rw [comp_mapA (fun x => [some (.obj k), some (pv t), some (.tup (w.as.map pv)), some (.int w.gl), none, some x]) (f := fun z => pv (sub th z)) w.as 100000 [] (by omega) (fun z hz => ⟨by simp, by
      have hz1 : sub th z ∈ (sub th t).as := by rw [← es, sub_as]; exact List.mem_append_left _ (List.mem_map_of_mem hz)
      have hz2 := T.hd_lt hz1
      have hz3 : (sub th z).pl ≤ (sub th t).pl := by
        have key : ∀ u : T, sub th z ∈ u.as → (sub th z).pl ≤ u.pl := by
          intro u
          induction u with
          | v m => intro h; simp at h
          | a y x _ ih =>
            intro h
            simp only [T.as_a, List.mem_cons] at h
            rcases h with h | h
            · rw [← h]; simp
            · have := ih h; simp; omega
        exact key _ hz1
      simp [(meth_m h.ob _).2.1, resolved_pv g hr (j := j) (t := z) h (by omega) (by omega)]⟩)]
    simp [blSeq, er]
end
end W79
end
section
set_option linter.all false
/-! W12: bind and meet -/
namespace W79
open PySem Rf
def pp (p : T × T) : PV := .tup [pv p.1, pv p.2]
theorem with_row (st : Sto) (n : Nat) (l : List Nat) : within (.int n) (.tup (l.map iv)) st = some (decide (n ∈ l)) := by
  have h1 : (l.map iv).mapM (toD st 60) = some (l.map fun m : Nat => PyData.int m) := by
    rw [mapM_some (g := fun v => match v with | .int i => PyData.int i | _ => .none) fun x hx => ?_]
    · simp [List.map_map, Function.comp_def]
    · obtain ⟨m, _, rfl⟩ := List.mem_map.mp hx
      rfl
  have h2 : toD st 60 (.int n) = some (.int n) := rfl
  simp only [within, h1, h2, Option.bind_eq_bind, Option.bind_some, Option.pure_def]
  congr 1
  rw [Bool.eq_iff_iff, List.any_eq_true, decide_eq_true_iff]
  constructor
  · rintro ⟨d, hd, he⟩
    obtain ⟨m, hm, rfl⟩ := List.mem_map.mp hd
    have : (m : Int) = n := by simpa [PyData.eqv] using he
    have : m = n := by omega
    exact this ▸ hm
  · intro h
    exact ⟨.int n, List.mem_map_of_mem h, by simp [PyData.eqv]⟩
section
variable {st : Sto} {j : Nat} {S : List T} {th : Nat → T} {rk : Nat → Nat} {tb : Tab} {A : List Nat}
theorem bind_same {k : Nat} (n : Nat) : cl (j + 1) 29 [.obj k, .int n, pv (.v n)] st = .ok .non st := by
  rw [cl, call_eq P79.f29 29 _ _ rfl rfl]
  have h := eqD_pv (st := st) (t := .v n) (u := .v n) (by simp) (by simp)
  simp at h
  simp [P79.f29, h, Rf.truthy]
theorem bind_occ (g : Gd S th rk tb) (hr : ∀ n, rk n < 199) {k d n : Nat} {t : T} (h : Mt st k d tb) (hne : t ≠ .v n) (h9 : (sub th t).hd ≤ 9) (hp : (sub th t).pl ≤ 512) (hj : 12 ≤ j) (hocc : n ∈ (sub th t).row) :
    cl (j + 1) 29 [.obj k, .int n, pv t] st = .exc 1 [] st := by
  obtain ⟨i, rfl⟩ : ∃ i, j = i + 1 := ⟨j - 1, by omega⟩
  rw [cl, call_eq P79.f29 29 _ _ rfl rfl]
  have h0 := hd_sub th t
  have h1 := eqD_pv (st := st) (t := t) (u := .v n) (by omega) (by simp)
  have h2 := resolved_pv g hr (st := st) (j := i) (t := t) h (by omega) (by omega)
  have h3 := row_in_pv (j := i + 1) (t := sub th t) (st := st) ⟨by omega, by omega⟩ (by omega) 12 (.inl rfl)
  rw [pv_v] at h1
  simp [P79.f29, h1, hne, Rf.truthy, (meth_m h.ob _).2.1, h2, h3, with_row, hocc]
theorem bind_put (g : Gd S th rk tb) (hr : ∀ n, rk n < 199) {k d n : Nat} {t : T} (h : Mt st k d tb) (hd : Dt st d tb) (hl : tb.length < 100) (hne : t ≠ .v n) (h9 : (sub th t).hd ≤ 9) (hp : (sub th t).pl ≤ 512) (hj : 12 ≤ j) (hocc : n ∉ (sub th t).row) (hn : lk tb n = none) :
    cl (j + 1) 29 [.obj k, .int n, pv t] st = .ok .non (st.set d (.dct false (enc pv (tb ++ [(n, t)])))) := by
  obtain ⟨i, rfl⟩ : ∃ i, j = i + 1 := ⟨j - 1, by omega⟩
  rw [cl, call_eq P79.f29 29 _ _ rfl rfl]
  have h0 := hd_sub th t
  have h1 := eqD_pv (st := st) (t := t) (u := .v n) (by omega) (by simp)
  have h2 := resolved_pv g hr (st := st) (j := i) (t := t) h (by omega) (by omega)
  have h3 := row_in_pv (j := i + 1) (t := sub th t) (st := st) ⟨by omega, by omega⟩ (by omega) 12 (.inl rfl)
  have h4 := set_d (f := pv) hd (by omega) n t
  have h5 : pt tb n t = tb ++ [(n, t)] := pt_new (lk_none_ks.mp hn) t
  rw [h5] at h4
  rw [pv_v] at h1
  simp [P79.f29, h1, hne, Rf.truthy, (meth_m h.ob _).2.1, h2, h3, with_row, hocc, h.ob, cls0, lookF, h4]
  rw [trim_len _ (by simp)]
end
end W79
end
section
set_option linter.all false
/-! W13: meet -/
namespace W79
open PySem Rf
/-- the store while pairs are met -/
def G (st : Sto) (d : Nat) (tb : Tab) (L : List (T × T)) (i : Nat) : Sto := st.set d (.dct false (enc pv tb)) ++ (.lst (L.map pp) :: List.replicate i (.lst []))
section
variable {st : Sto} {k d : Nat} {tb0 : Tab}
theorem G_len (tb : Tab) (L : List (T × T)) (i : Nat) : (G st d tb L i).length = st.length + 1 + i := by simp [G]; omega
theorem G_todo (tb : Tab) (L : List (T × T)) (i : Nat) : (G st d tb L i)[st.length]? = some (.lst (L.map pp)) := by
  have := get_app (st.set d (.dct false (enc pv tb))) (.lst (L.map pp) :: List.replicate i (.lst [])) 0
  simpa [G] using this
theorem G_set (tb : Tab) (L L' : List (T × T)) (i : Nat) : (G st d tb L i).set st.length (.lst (L'.map pp)) = G st d tb L' i := by
  have := set_app (st.set d (.dct false (enc pv tb))) (.lst (L.map pp) :: List.replicate i (.lst [])) 0 (.lst (L'.map pp))
  simpa [G] using this
theorem G_more (tb : Tab) (L : List (T × T)) (i : Nat) : G st d tb L i ++ [.lst []] = G st d tb L (i + 1) := by
  simp only [G, List.append_assoc, List.cons_append, List.replicate_succ']
variable (h : Mt st k d tb0) (hd : Dt st d tb0)
include h hd
theorem G_ne : k ≠ d := by
  rintro rfl
  have h1 := h.ob
  unfold Dt at hd
  rw [hd] at h1
  cases h1
theorem G_dt (tb : Tab) (L : List (T × T)) (i : Nat) : Dt (G st d tb L i) d tb := by
  unfold Dt G
  exact get_old _ (get_set _ hd)
theorem G_mt (tb : Tab) (L : List (T × T)) (i : Nat) : Mt (G st d tb L i) k d tb := by
  refine ⟨?_, .of (G_dt h hd tb L i)⟩
  unfold G
  refine get_old _ ?_
  rw [List.getElem?_set_ne (Ne.symm (G_ne h hd))]
  exact h.ob
theorem G_put (tb tb' : Tab) (L : List (T × T)) (i : Nat) : (G st d tb L i).set d (.dct false (enc pv tb')) = G st d tb' L i := by
  have h1 : d < st.length := (List.getElem?_eq_some_iff.mp hd).1
  unfold G
  rw [List.set_append_left _ _ (by simpa using h1), List.set_set]
end
@[simp] theorem bl_lenT (xs : List PV) (st : Sto) : blOf .len [.tup xs] st = .ok (.int xs.length) st := rfl
@[simp] theorem bl_min2 (i j : Int) (st : Sto) : blOf .min2 [.int i, .int j] st = .ok (.int (if j < i then j else i)) st := rfl
theorem min_int (a b : Nat) : (if (b : Int) < a then (b : Int) else a) = ((min a b : Nat) : Int) := by
  by_cases h : b < a
  · have : (b : Int) < a := by omega
    rw [if_pos this]; omega
  · have : ¬ (b : Int) < a := by omega
    rw [if_neg this]; omega
theorem zip_pp (w u : T) : List.zipWith (fun a b => PV.tup [a, b]) ((w.as.map pv).take (min w.as.length u.as.length)) ((u.as.map pv).take (min w.as.length u.as.length)) = (chs w u).map pp := by
  unfold chs
  rw [← List.map_take, ← List.map_take]
  generalize w.as.take _ = l
  generalize u.as.take _ = m
  induction l generalizing m with
  | nil => simp
  | cons x l ih => cases m <;> simp [pp, ih]
section
variable {st : Sto} {j k d : Nat} {tb0 : Tab} {S : List T} {A : List Nat}
def mbody : List Sm := [(.asg (.name 4) (.bm (.var 3) .pop [])), (.asg (.tup [(.name 5), (.name 6)]) (.tup [(.meth (.var 0) 1 [(.ix (.var 4) (.lit (.int (0))))]), (.meth (.var 0) 1 [(.ix (.var 4) (.lit (.int (1))))])])), (.asg (.name 7) (.bl .min2 [(.bl .len [(.ix (.var 5) (.lit (.int (0))))]), (.bl .len [(.ix (.var 6) (.lit (.int (0))))])])), (.ex (.bm (.var 3) .extend [(.comp (.tup [(.var 9), (.var 10)]) (.tup [(.name 9), (.name 10)]) (.zip (.slice (.ix (.var 5) (.lit (.int (0)))) none (some (.var 7))) (.slice (.ix (.var 6) (.lit (.int (0)))) none (some (.var 7)))) none [8, 9, 10])])), (.ife (.cmp .eq (.bl .len [(.ix (.var 5) (.lit (.int (0))))]) (.var 7)) [(.ex (.meth (.var 0) 3 [(.ix (.var 5) (.lit (.int (1)))), (.tup [(.slice (.ix (.var 6) (.lit (.int (0)))) (some (.var 7)) none), (.ix (.var 6) (.lit (.int (1))))])]))] [(.ex (.meth (.var 0) 3 [(.ix (.var 6) (.lit (.int (1)))), (.tup [(.slice (.ix (.var 5) (.lit (.int (0)))) (some (.var 7)) none), (.ix (.var 5) (.lit (.int (1))))])]))])]
theorem mbody_pv (h : Mt st k d tb0) (hd : Dt st d tb0) {tb : Tab} {L : List (T × T)} {x y w u : T} {q1 q2 i : Nat} (w1 : Wl tb x w q1) (w2 : Wl tb y u q2) (b1 : q1 < 100000) (b2 : q2 < 100000) (l1 : w.as.length < 2000) (l2 : u.as.length < 2000) (hL : L.length < 10000000) {r : R PV}
    (hb : ∀ L, cl (j + 1) 29 [.obj k, .int (bnd w u).1, pv (bnd w u).2] (G st d tb L i) = r → True)
    (a1 a2 a4 a5 a6 a7 a8 a9 a10 : Option PV) :
    ∃ σ, (∃ b4 b5 b6 b7 b8 b9 b10, σ = [some (.obj k), a1, a2, some (.obj st.length), b4, b5, b6, b7, b8, b9, b10]) ∧
      (evN P79.pg (cl (j + 1)) 100000 199).s mbody [some (.obj k), a1, a2, some (.obj st.length), a4, a5, a6, a7, a8, a9, a10] (G st d tb (L ++ [(x, y)]) i) =
      (cl (j + 1) 29 [.obj k, .int (bnd w u).1, pv (bnd w u).2] (G st d tb (L ++ chs w u) i)).fl σ fun _ s => .nx σ s := by
  have p1 : bmTy .pop (.obj st.length) (G st d tb (L ++ [(x, y)]) i) = true := by simp [bmTy, G_todo]
  have p2 : bmOf .pop (.obj st.length) [] (G st d tb (L ++ [(x, y)]) i) = .ok (.tup [pv x, pv y]) (G st d tb L i) := by
    have e : ((L ++ [(x, y)]).map pp).dropLast = L.map pp := by simp
    simp only [bmOf, popR, G_todo]
    rw [e, G_set]
    simp [pp]
  have hm := G_mt h hd tb L i
  have x1 := walked_pv (j := j) hm w1 b1 (by unfold big; omega)
  have x2 := walked_pv (j := j) hm w2 b2 (by unfold big; omega)
  rw [pv_eq w] at x1
  rw [pv_eq u] at x2
  have hm1 := fun fs => (meth_m (C := cl (j + 1)) hm.ob fs).1
  have hm2 := fun fs => (meth_m (C := cl (j + 1)) (G_mt h hd tb (L ++ chs w u) i).ob fs).2.2.1
  have e1 : bmTy .extend (.obj st.length) (G st d tb L i) = true := by simp [bmTy, G_todo]
  have hcl : (chs w u).length ≤ 2000 := by unfold chs; simp [List.length_zip, List.length_take]; omega
  have e2 : extR (.obj st.length) ((chs w u).map pp) (G st d tb L i) = .ok .non (G st d tb (L ++ chs w u) i) := by
    have hb : L.length + (chs w u).length ≤ big := by unfold big; omega
    simp only [extR, G_todo, List.length_map, hb, if_true]
    rw [← List.map_append, G_set]
  have ez := zip_pp w u
  obtain ⟨mm, hmm⟩ : ∃ mm, mm = min w.as.length u.as.length := ⟨_, rfl⟩
  have emin : (if u.as.length < w.as.length then (u.as.length : Int) else w.as.length) = (mm : Int) := by
    rw [hmm]
    split <;> omega
  rw [← hmm] at ez
  have hbnd : bnd w u = if w.as.length = mm then (w.gl, rst u mm) else (u.gl, rst w mm) := by rw [hmm]; rfl
  have hpr : ∀ (z : T), pv (rst z mm) = .tup [.tup ((z.as.map pv).drop mm), .int z.gl] := fun z => by
    rw [pv_eq, rst_as, rst_gl, List.map_drop]
  unfold mbody
  simp [p1, p2, hm1, x1, x2, blSeqB, emin, e1, sliceOf, cut_take]
  rw [comp_zip (τ := fun a b => [some (.obj k), a1, a2, some (.obj st.length), some (.tup [pv x, pv y]), some (.tup [.tup (w.as.map pv), .int w.gl]), some (.tup [.tup (u.as.map pv), .int u.gl]), some (.int (mm : Int)), none, some a, some b]) (f := fun a b => .tup [a, b]) _ _ 100000 [] (by simp; omega) (fun a b _ => ⟨by simp, by simp⟩)]
  simp only [List.reverse_nil, List.nil_append, ez, rb_ok, e2, rf_ok, fs_nx]
  by_cases hw : w.as.length = mm
  · have hi : ((w.as.length : Int) = (mm : Int)) := by omega
    rw [hbnd, if_pos hw]
    simp [hw, Rf.truthy, hm2, sliceOf, cut_drop, hpr u]
    refine ⟨[some (.obj k), a1, a2, some (.obj st.length), some (.tup [pv x, pv y]), some (.tup [.tup (w.as.map pv), .int w.gl]), some (.tup [.tup (u.as.map pv), .int u.gl]), some (.int mm), a8, a9, a10], ⟨_, _, _, _, _, _, _, rfl⟩, ?_⟩
    generalize cl (j + 1) 29 _ (G st d tb (L ++ chs w u) i) = r
    cases r <;> rfl
  · have hi : ¬ ((w.as.length : Int) = (mm : Int)) := by omega
    have hdec : decide ((w.as.length : Int) = (mm : Int)) = false := decide_eq_false hi
    rw [hbnd, if_neg hw]
    simp only [ev_s, ss_cons, s_ife, t_st, ev_e, e_cmp, e_bl1, e_ix, e_var, e_lit, List.getElem?_cons_succ, List.getElem?_cons_zero, rb_ok, it_0, o_some, n_ix, Bool.false_and, Bool.false_eq_true, if_false, bl_lenT, List.length_map, cp_eq, eqD_int, hdec, Rf.truthy, rf_ok]
    simp [Rf.truthy, hm2, sliceOf, cut_drop, hpr w]
    refine ⟨[some (.obj k), a1, a2, some (.obj st.length), some (.tup [pv x, pv y]), some (.tup [.tup (w.as.map pv), .int w.gl]), some (.tup [.tup (u.as.map pv), .int u.gl]), some (.int mm), a8, a9, a10], ⟨_, _, _, _, _, _, _, rfl⟩, ?_⟩
    generalize cl (j + 1) 29 _ (G st d tb (L ++ chs w u) i) = r
    cases r <;> rfl
theorem toD_obj {st : Sto} {n a : Nat} {xs : List PV} (h : st[a]? = some (.lst xs)) : toD st (n + 1) (.obj a) = (xs.mapM (toD st n)).map .list := by
  rw [toD]
  simp only [h]
theorem eqD_todo {st : Sto} {a b : Nat} {L : List (T × T)} (h1 : st[a]? = some (.lst (L.map pp))) (h2 : st[b]? = some (.lst [])) (hok : ∀ q ∈ L, q.1.hd ≤ 9 ∧ q.2.hd ≤ 9) : eqD (.obj a) (.obj b) st = some L.isEmpty := by
  have e1 : toD st 60 (.obj a) = some (.list ((L.map pp).map dat)) := by
    rw [toD_obj h1]
    rw [mapM_some (g := dat) fun x hx => ?_]
    · rfl
    · obtain ⟨q, hq, rfl⟩ := List.mem_map.mp hx
      obtain ⟨o1, o2⟩ := hok q hq
      exact toD_ok (by simp [okP, okPs, pp, okP_pv (t := q.1) (k := 58) (by omega), okP_pv (t := q.2) (k := 58) (by omega)])
  have e2 : toD st 60 (.obj b) = some (.list []) := by
    rw [toD_obj h2]
    rfl
  unfold eqD
  rw [e1, e2]
  cases L <;> rfl
theorem hd_of {S : List T} (h9 : S.length ≤ 9) {t : T} (h : ∀ r ∈ asub t, r ∈ S) : t.hd ≤ 9 := by
  have := (dag _ S t (Nat.le_refl _) h).2
  omega
/-- the sizes within a step -/
theorem Stp.sizes {S : List T} {A : List Nat} {th : Nat → T} {rk : Nat → Nat} {tb : Tab} {x y w u : T} {q1 q2 : Nat} (s : Stp S A th rk tb x y) (h9 : S.length ≤ 9) (h6 : A.length ≤ 6) (w1 : Wl tb x w q1) (w2 : Wl tb y u q2) :
    q1 < 64 ∧ q2 < 64 ∧ w.as.length < 2000 ∧ u.as.length < 2000 ∧ (sub th (bnd w u).2).hd ≤ 9 ∧ (sub th (bnd w u).2).pl ≤ 512 ∧ (∀ n, rk n < 199) ∧ tb.length < 100 ∧ lk tb (bnd w u).1 = none ∧ (∀ q ∈ chs w u, (∀ r ∈ asub q.1, r ∈ S) ∧ ∀ r ∈ asub q.2, r ∈ S) := by
  have hrk := s.g.few s.a h6
  obtain ⟨w', k1, v1, c1⟩ := s.g.wl x
  obtain ⟨u', k2, v2, c2⟩ := s.g.wl y
  obtain ⟨rfl, rfl⟩ := w1.one v1
  obtain ⟨rfl, rfl⟩ := w2.one v2
  have e1 := w1.sub s.g.sat
  have e2 := w2.sub s.g.sat
  have z1 := s.g.small h9 (s.g.dagT s.hx)
  have z2 := s.g.small h9 (s.g.dagT s.hy)
  have z3 := s.g.small h9 (t := (bnd w u).2) fun r hr => by
    rcases bnd_asub e1 e2 hr with h | h
    · exact s.g.dagT s.hx r h
    · exact s.g.dagT s.hy r h
  have l1 := T.as_pl w
  have l2 := T.as_pl u
  have l3 := pl_sub th w
  have l4 := pl_sub th u
  rw [e1] at l3
  rw [e2] at l4
  have q : Pair S A tb w u := ⟨w1.goal, w2.goal, w1.args s.g fun z hz r hr => s.hx r (asub_as hz hr), w2.args s.g fun z hz r hr => s.hy r (asub_as hz hr), w1.row s.a s.rx, w2.row s.a s.ry⟩
  have hf := s.a.few s.g.nd
  refine ⟨by have := hrk x.gl; omega, by have := hrk y.gl; omega, by omega, by omega, z3.1, z3.2, fun n => by have := hrk n; omega, by omega, q.bnd.1, fun p hp => ?_⟩
  obtain ⟨c1, c2⟩ := chs_mem hp
  exact ⟨q.a1 _ c1, q.a2 _ c2⟩
theorem chs_len {S : List T} {A : List Nat} {th : Nat → T} {rk : Nat → Nat} {tb : Tab} {x y w u : T} {q1 q2 : Nat} (s : Stp S A th rk tb x y) (h9 : S.length ≤ 9) (h6 : A.length ≤ 6) (w1 : Wl tb x w q1) (w2 : Wl tb y u q2) : (chs w u).length ≤ 2000 := by
  have := (s.sizes h9 h6 w1 w2).2.2.1
  unfold chs
  simp [List.length_zip, List.length_take]
  omega
/-- the while loop of meet -/
theorem meet_while (h9 : S.length ≤ 9) (h6 : A.length ≤ 6) (hj : 12 ≤ j) (h : Mt st k d tb0) (hd : Dt st d tb0) {td : List (T × T)} {tb tb' : Tab} {p : Nat} {b : Bool} (hu : Un S A td tb p tb' b) :
    (∀ q ∈ td, (∀ r ∈ asub q.1, r ∈ S) ∧ ∀ r ∈ asub q.2, r ∈ S) → ∀ (m i : Nat) (a1 a2 a4 a5 a6 a7 a8 a9 a10 : Option PV), p < m → td.length + p * 2000 < 10000000 → ∃ σ i' L', whileGo (evN P79.pg (cl (j + 1)) 100000 199) (.cmp .ne (.var 3) (.lst [])) mbody m [some (.obj k), a1, a2, some (.obj st.length), a4, a5, a6, a7, a8, a9, a10] (G st d tb td.reverse i) =
      if b = true then .nx σ (G st d tb' [] i') else .exc 1 [] σ (G st d tb' L' i') := by
  have cond : ∀ (tb : Tab) (td : List (T × T)) (i : Nat) (a1 a2 a4 a5 a6 a7 a8 a9 a10 : Option PV), (∀ q ∈ td, (∀ r ∈ asub q.1, r ∈ S) ∧ ∀ r ∈ asub q.2, r ∈ S) →
      tst (evN P79.pg (cl (j + 1)) 100000 199).e (.cmp .ne (.var 3) (.lst [])) [some (.obj k), a1, a2, some (.obj st.length), a4, a5, a6, a7, a8, a9, a10] (G st d tb td.reverse i) = .ok (!td.isEmpty) (G st d tb td.reverse (i + 1)) := fun tb td i a1 a2 a4 a5 a6 a7 a8 a9 a10 ht => by
    have e1 : (G st d tb td.reverse (i + 1))[(G st d tb td.reverse i).length]? = some (.lst []) := by rw [← G_more]; simp
    have e2 := eqD_todo (G_todo (st := st) (d := d) tb td.reverse (i + 1)) e1 fun q hq => by
      obtain ⟨o1, o2⟩ := ht q (List.mem_reverse.mp hq)
      exact ⟨hd_of h9 o1, hd_of h9 o2⟩
    have e3 : td.reverse.isEmpty = td.isEmpty := by cases td <;> simp
    rw [e3] at e2
    simp [G_more, e2, Rf.truthy]
  induction hu with
  | @nil tb =>
    intro ht m i a1 a2 a4 a5 a6 a7 a8 a9 a10 hm _
    obtain ⟨m, rfl⟩ : ∃ x, m = x + 1 := ⟨m - 1, by omega⟩
    refine ⟨[some (.obj k), a1, a2, some (.obj st.length), a4, a5, a6, a7, a8, a9, a10], i + 1, [], ?_⟩
    rw [whileGo, cond tb [] i _ _ _ _ _ _ _ _ _ ht]
    simp only [rf_ok, List.isEmpty_nil, Bool.not_true, if_true, List.reverse_nil]
  | @same x y w u r tb tb' k1 m1 p b th rk s w1 w2 hs _ ih =>
    intro ht m i a1 a2 a4 a5 a6 a7 a8 a9 a10 hm hl
    obtain ⟨m, rfl⟩ : ∃ x, m = x + 1 := ⟨m - 1, by omega⟩
    obtain ⟨z1, z2, z3, z4, z5, z6, z7, z8, z9, z10⟩ := s.sizes h9 h6 w1 w2
    have hc := chs_len s h9 h6 w1 w2
    simp only [List.length_cons] at hl
    obtain ⟨σ, ⟨b4, b5, b6, b7, b8, b9, b10, rfl⟩, hb⟩ := mbody_pv (j := j) h hd (L := r.reverse) (x := x) (y := y) (i := i + 1) w1 w2 (by omega) (by omega) z3 z4 (by simp; omega) (r := .stuck) (fun _ _ => trivial) a1 a2 a4 a5 a6 a7 a8 a9 a10
    have hbs := bind_same (j := j) (k := k) (st := G st d tb (r.reverse ++ chs w u) (i + 1)) (bnd w u).1
    rw [← hs] at hbs
    rw [hbs] at hb
    obtain ⟨σ2, i2, L2, h2⟩ := ih (fun q hq => by
      rcases List.mem_append.mp hq with hq | hq
      · exact z10 q (List.mem_reverse.mp hq)
      · exact ht q (by simp [hq])) m (i + 1) a1 a2 b4 b5 b6 b7 b8 b9 b10 (by omega) (by simp; omega)
    refine ⟨σ2, i2, L2, ?_⟩
    rw [← h2]
    rw [whileGo, cond tb ((x, y) :: r) i _ _ _ _ _ _ _ _ _ ht]
    simp only [rf_ok, List.isEmpty_cons, Bool.not_false, List.reverse_cons, hb, List.reverse_append, List.reverse_reverse]
  | @put x y w u r tb tb' k1 m1 p b th rk s w1 w2 hs hocc _ ih =>
    intro ht m i a1 a2 a4 a5 a6 a7 a8 a9 a10 hm hl
    obtain ⟨m, rfl⟩ : ∃ x, m = x + 1 := ⟨m - 1, by omega⟩
    obtain ⟨z1, z2, z3, z4, z5, z6, z7, z8, z9, z10⟩ := s.sizes h9 h6 w1 w2
    have hc := chs_len s h9 h6 w1 w2
    simp only [List.length_cons] at hl
    obtain ⟨σ, ⟨b4, b5, b6, b7, b8, b9, b10, rfl⟩, hb⟩ := mbody_pv (j := j) h hd (L := r.reverse) (x := x) (y := y) (i := i + 1) w1 w2 (by omega) (by omega) z3 z4 (by simp; omega) (r := .stuck) (fun _ _ => trivial) a1 a2 a4 a5 a6 a7 a8 a9 a10
    have hbs := bind_put (j := j) s.g z7 (G_mt h hd tb (r.reverse ++ chs w u) (i + 1)) (G_dt h hd tb _ _) z8 hs z5 z6 hj hocc z9
    rw [hbs, G_put h hd] at hb
    obtain ⟨σ2, i2, L2, h2⟩ := ih (fun q hq => by
      rcases List.mem_append.mp hq with hq | hq
      · exact z10 q (List.mem_reverse.mp hq)
      · exact ht q (by simp [hq])) m (i + 1) a1 a2 b4 b5 b6 b7 b8 b9 b10 (by omega) (by simp; omega)
    refine ⟨σ2, i2, L2, ?_⟩
    rw [← h2]
    rw [whileGo, cond tb ((x, y) :: r) i _ _ _ _ _ _ _ _ _ ht]
    simp only [rf_ok, List.isEmpty_cons, Bool.not_false, List.reverse_cons, hb, List.reverse_append, List.reverse_reverse]
  | @fail x y w u r tb k1 m1 th rk s w1 w2 hs hocc =>
    intro ht m i a1 a2 a4 a5 a6 a7 a8 a9 a10 hm hl
    obtain ⟨m, rfl⟩ : ∃ x, m = x + 1 := ⟨m - 1, by omega⟩
    obtain ⟨z1, z2, z3, z4, z5, z6, z7, z8, z9, z10⟩ := s.sizes h9 h6 w1 w2
    simp only [List.length_cons] at hl
    obtain ⟨σ, ⟨b4, b5, b6, b7, b8, b9, b10, rfl⟩, hb⟩ := mbody_pv (j := j) h hd (L := r.reverse) (x := x) (y := y) (i := i + 1) w1 w2 (by omega) (by omega) z3 z4 (by simp; omega) (r := .stuck) (fun _ _ => trivial) a1 a2 a4 a5 a6 a7 a8 a9 a10
    have hbs := bind_occ (j := j) s.g z7 (G_mt h hd tb (r.reverse ++ chs w u) (i + 1)) hs z5 z6 hj hocc
    rw [hbs] at hb
    refine ⟨[some (.obj k), a1, a2, some (.obj st.length), b4, b5, b6, b7, b8, b9, b10], i + 1, r.reverse ++ chs w u, ?_⟩
    rw [whileGo, cond tb ((x, y) :: r) i _ _ _ _ _ _ _ _ _ ht]
    simp only [rf_ok, List.isEmpty_cons, Bool.not_false, List.reverse_cons, hb, rf_exc, Bool.false_eq_true, if_false]
end
end W79
end
section
set_option linter.all false
/-! W14: meet, filling, met, met_home, heard -/
namespace W79
open PySem Rf
theorem closed_set {st : Sto} {n d : Nat} {tb : Tab} (hc : Sto.closed n st = true) : Sto.closed n (st.set d (.dct false (enc pv tb))) = true := by
  unfold Sto.closed at *
  rw [List.all_eq_true] at *
  intro o ho
  rcases List.mem_or_eq_of_mem_set ho with h | rfl
  · exact hc o h
  · exact under_enc n tb
section
variable {st : Sto} {j k d : Nat} {tb0 : Tab} {S : List T} {A : List Nat} {th : Nat → T} {rk : Nat → Nat}
theorem meet_pv (h9 : S.length ≤ 9) (h6 : A.length ≤ 6) (hj : 12 ≤ j) (h : Mt st k d tb0) (hd : Dt st d tb0) {x y : T} {tb' : Tab} {p : Nat} {b : Bool} (hu : Un S A [(x, y)] tb0 p tb' b) (hp : p < 4000)
    (hx : ∀ r ∈ asub x, r ∈ S) (hy : ∀ r ∈ asub y, r ∈ S) (hc : Sto.closed st.length st = true) :
    cl (j + 2) 30 [.obj k, pv x, pv y] st = if b = true then .ok .non (st.set d (.dct false (enc pv tb'))) else .exc 1 [] (st.set d (.dct false (enc pv tb'))) := by
  obtain ⟨σ, i, L, e⟩ := meet_while h9 h6 hj h hd hu (fun q hq => by simp at hq; subst hq; exact ⟨hx, hy⟩) 100000 0 (some (pv x)) (some (pv y)) none none none none none none none (by omega) (by simp; omega)
  have e0 : G st d tb0 [(x, y)] 0 = st ++ [.lst [.tup [pv x, pv y]]] := by
    unfold G
    rw [set_same hd]
    rfl
  simp only [List.reverse_cons, List.reverse_nil, List.nil_append] at e
  rw [e0] at e
  rw [cl, call_eq P79.f30 30 _ _ rfl rfl]
  have hbody : P79.f30.body = [(.asg (.name 3) (.lst [(.tup [(.var 1), (.var 2)])])), (.while_ (.cmp .ne (.var 3) (.lst [])) mbody)] := rfl
  rw [hbody]
  have hs0 : P79.f30.slots - P79.f30.arity = 8 := rfl
  rw [hs0]
  have hl : (st.set d (.dct false (enc pv tb'))).length = st.length := by simp
  simp [e]
  cases b with
  | true =>
    simp only [if_true, fs_nx, fl_nx]
    unfold G
    rw [trim_set _ _ _ hl rfl (closed_set hc)]
  | false =>
    simp only [Bool.false_eq_true, if_false, fs_exc, fl_exc]
    unfold G
    have hc2 := closed_set (d := d) (tb := tb') hc
    have h3 := trim_exc_app (st := st.set d (.dct false (enc pv tb'))) 1 (.lst (L.map pp) :: List.replicate i (.lst [])) (by rw [hl]; exact hc2)
    rw [hl] at h3
    exact h3
/-- a walk over a dict -/
theorem s_for_d {P : Pg} {V : Ev} {L : Nat} {t : Tg} {e : Ex} {b : List Sm} {σ : Rf.Loc} {st : Sto} {kvs : List (PV × PV)} {dd : Nat} (h : lockAt V (.seq e) σ st = some dd) (h2 : st[dd]? = some (.dct false kvs)) :
    stepS P V L (.for_ t (.seq e) b) σ st = (forD V t (.seq e) b L dd σ (st.set dd (.dct true kvs))).unlk dd := by
  simp [stepS, h, h2]
theorem filling_pv (h9 : S.length ≤ 9) (h6 : A.length ≤ 6) (g : Gd S th rk tb0) (a : At A tb0) (hj : 12 ≤ j) (h : Mt st k d tb0) (hd : Dt st d tb0) (hc : Sto.closed st.length st = true) :
    cl (j + 2) 31 [.obj k] st = .ok (fv (fill (sN (ks tb0)) th)) st := by
  rw [cl, call_eq P79.f31 31 _ _ rfl rfl]
  have hdl : d < st.length := (List.getElem?_eq_some_iff.mp hd).1
  have hrk : ∀ n, rk n < 199 := fun n => by have := g.few a h6 n; omega
  have hsm : ∀ n, (th n).hd ≤ 9 ∧ (th n).pl ≤ 512 := fun n => by
    have := g.small h9 (t := .v n) fun r hr => g.dagS n r hr
    simpa using this
  let F : List (Nat × T) → Sto := fun fo => st.set d (.dct true (enc pv tb0)) ++ [.dct false (enc pv fo)]
  have hlen : (st.set d (.dct true (enc pv tb0))).length = st.length := by simp
  have hkeys : ∀ fo, (F fo)[d]? = some (.dct true (enc pv tb0)) := fun fo => get_old _ (get_set _ hd)
  have hmt : ∀ fo, Mt (F fo) k d tb0 := fun fo => by
    refine ⟨get_old _ ?_, ⟨true, hkeys fo⟩⟩
    rw [List.getElem?_set_ne (Ne.symm (G_ne h hd))]
    exact h.ob
  have hfo : ∀ fo, Dt (F fo) st.length fo := fun fo => by
    have := get_last (st := st.set d (.dct true (enc pv tb0))) (.dct false (enc pv fo))
    rw [hlen] at this
    exact this
  have hfs : ∀ fo fo', (F fo).set st.length (.dct false (enc pv fo')) = F fo' := fun fo fo' => by
    have := set_last (st := st.set d (.dct true (enc pv tb0))) (.dct false (enc pv fo)) (.dct false (enc pv fo'))
    rw [hlen] at this
    exact this
  have hfew := a.few g.nd
  have loop : ∀ (r : List Nat) (i : Nat) (fo : List (Nat × T)) (m : Nat) (z : Option PV), (ks tb0).drop i = r → fo.length + r.length < 1000 → r.length < m →
      ∃ z', forGo (evN P79.pg (cl (j + 1)) 100000 199) (.name 2) [(.asg (.sub (.var 1) (.var 2)) (.meth (.var 0) 2 [(.tup [(.tup []), (.var 2)])]))] m (.keys d i) [some (.obj k), some (.obj st.length), z] (F fo) = .nx [some (.obj k), some (.obj st.length), z'] (F (r.foldl (grow th) fo)) := by
    intro r
    induction r with
    | nil =>
      intro i fo m z hr _ hm
      obtain ⟨m, rfl⟩ : ∃ x, m = x + 1 := ⟨m - 1, by simp at hm; omega⟩
      have e1 : (enc pv tb0)[i]? = none := by
        have := List.drop_eq_nil_iff.mp hr
        simp [enc, ks] at this ⊢
        exact this
      exact ⟨z, by simp [forGo, Wk.next, hkeys, e1]⟩
    | cons n r ih =>
      intro i fo m z hr hlen2 hm
      obtain ⟨m, rfl⟩ : ∃ x, m = x + 1 := ⟨m - 1, by simp at hm; omega⟩
      have hx : (ks tb0)[i]? = some n := by rw [← List.head?_drop, hr]; rfl
      have e1 : ((enc pv tb0)[i]?).map (·.1) = some (iv n) := by
        have : (enc pv tb0).map (·.1) = (ks tb0).map iv := by simp [enc, ks]
        rw [← List.getElem?_map, this, List.getElem?_map, hx]
        rfl
      obtain ⟨p, e2, e3⟩ := Option.map_eq_some_iff.mp e1
      have hd2 : (ks tb0).drop (i + 1) = r := by rw [← List.drop_drop, hr]; rfl
      simp only [List.length_cons] at hlen2 hm
      have hgl : (grow th fo n).length ≤ fo.length + 1 := by
        unfold grow pt
        split
        · simp
        · simp
      obtain ⟨z', h3⟩ := ih (i + 1) (grow th fo n) m (some (iv n)) hd2 (by omega) (by omega)
      have hres := resolved_pv g hrk (st := F fo) (j := j) (t := .v n) (hmt fo) (by have := (hsm n).2; simp; omega) (by have := (hsm n).1; simp; omega)
      rw [pv_v, sub_v] at hres
      have hsd := set_d (f := pv) (hfo fo) (by omega) n (th n)
      rw [hfs] at hsd
      refine ⟨z', ?_⟩
      simp [forGo, Wk.next, hkeys, e2, e3, (meth_m (hmt fo).ob _).2.1, hres, hsd]
      exact h3
  obtain ⟨z', hgo⟩ := loop (ks tb0) 0 [] 100000 none rfl (by simp [ks]; omega) (by simp [ks]; omega)
  have hst1 : (st ++ [MO.dct false (enc pv [])]).set d (.dct true (enc pv tb0)) = F [] := by
    show _ = _ ++ _
    rw [List.set_append_left _ _ hdl]
  have hun : unlk d (F ((ks tb0).foldl (grow th) [])) = st ++ [.dct false (enc pv ((ks tb0).foldl (grow th) []))] := by
    unfold unlk
    rw [hkeys]
    show (st.set d (.dct true (enc pv tb0)) ++ [MO.dct false (enc pv ((ks tb0).foldl (grow th) []))]).set d (.dct false (enc pv tb0)) = _
    rw [List.set_append_left _ _ (by rw [hlen]; exact hdl), List.set_set, set_same hd]
  have e0 : enc pv ([] : List (Nat × T)) = [] := rfl
  rw [e0] at hst1
  have hfld : (evN P79.pg (cl (j + 1)) 100000 199).e (.fld (.var 0) 0) [some (.obj k), some (.obj st.length), none] (st ++ [.dct false []]) = .ok (.obj d) (st ++ [.dct false []]) := by
    simp [get_old _ h.ob, cls0, lookF]
  have hfld2 : (evN P79.pg (cl (j + 1)) 100000 199).e (.fld (.var 0) 0) [some (.obj k), some (.obj st.length), none] (F []) = .ok (.obj d) (F []) := by
    simp [(hmt []).ob, cls0, lookF]
  have hd3 : (st ++ [MO.dct false []])[d]? = some (.dct false (enc pv tb0)) := get_old _ hd
  have hlock : lockAt (evN P79.pg (cl (j + 1)) 100000 199) (.seq (.fld (.var 0) 0)) [some (.obj k), some (.obj st.length), none] (st ++ [.dct false []]) = some d := by
    simp only [lockAt, n_fld, Bool.false_eq_true, if_false, hfld, hd3]
  have hfin := filling_of_pv (j := j) (k := st.length) (st := st ++ [.dct false (enc pv ((ks tb0).foldl (grow th) []))]) (tb := (ks tb0).foldl (grow th) []) (by unfold Dt; simp) (grow_nodup _ _ _ (by simp [ks])) (by
      have h1 := nodup_le (grow_nodup th (ks tb0) [] (by simp [ks])) (m := ks tb0) fun n hn => (grow_mem th (ks tb0) n).mp hn
      have e1 : (ks ((ks tb0).foldl (grow th) [])).length = ((ks tb0).foldl (grow th) []).length := List.length_map ..
      have e2 : (ks tb0).length = tb0.length := List.length_map ..
      omega) (fun n u e => by
      rw [grow_lk] at e
      split at e
      · simp at e; rw [← e]; have := (hsm n).1; omega
      · simp at e) (closed_app hc fun o ho n => by simp at ho; subst ho; exact under_enc _ _)
  rw [fill_grow] at hfin
  simp [P79.f31]
  rw [s_for_d hlock hd3]
  rw [hst1]
  simp only [forD, hfld2, rf_ok, Nat.beq_refl, if_true, hgo, Fl.unlk, hun, fs_nx]
  simp [hfin]
  rw [trim_app _ _ ?_ hc]
  simp only [fv, PV.under]
  exact unders_of fun x hx => by
    obtain ⟨n, _, rfl⟩ := List.mem_map.mp hx
    simp [pr, PV.under, PV.unders, under_pv]
end
end W79
end
section
set_option linter.all false
set_option maxRecDepth 20000
/-! W15: met, met_home, heard -/
namespace W79
open PySem Rf
/-- pairs met one behind another, each for itself -/
inductive Uns (S : List T) (A : List Nat) : List (T × T) → Tab → Tab → Bool → Prop
  | nil {tb : Tab} : Uns S A [] tb tb true
  | more {p : T × T} {r : List (T × T)} {tb tb1 tb' : Tab} {k : Nat} {b : Bool} : Un S A [p] tb k tb1 true → k < 4000 → Uns S A r tb1 tb' b → Uns S A (p :: r) tb tb' b
  | fail {p : T × T} {r : List (T × T)} {tb tb1 : Tab} {k : Nat} : Un S A [p] tb k tb1 false → k < 4000 → Uns S A (p :: r) tb tb1 false
section
variable {st : Sto} {j : Nat} {S : List T} {A : List Nat} {th : Nat → T} {rk : Nat → Nat}
/-- with a new meeting -/
def M1 (st : Sto) (tb : Tab) : Sto := st ++ [.ins 0 [(0, .obj (st.length + 1))], .dct false (enc pv tb)]
theorem M1_mt (tb : Tab) : Mt (M1 st tb) st.length (st.length + 1) tb := ⟨by simp [M1], ⟨false, get_app _ _ 1⟩⟩
theorem M1_dt (tb : Tab) : Dt (M1 st tb) (st.length + 1) tb := get_app _ _ 1
theorem M1_set (tb tb' : Tab) : (M1 st tb).set (st.length + 1) (.dct false (enc pv tb')) = M1 st tb' := set_app _ _ 1 _
theorem M1_cl (tb : Tab) (hc : Sto.closed st.length st = true) : Sto.closed (M1 st tb).length (M1 st tb) = true := by
  have hl : (M1 st tb).length = st.length + 2 := by simp [M1]
  rw [hl]
  unfold Sto.closed at *
  rw [List.all_eq_true] at *
  intro o ho
  unfold M1 at ho
  simp only [List.mem_append, List.mem_cons, List.not_mem_nil, or_false] at ho
  rcases ho with h | rfl | rfl
  · exact mo_mono (by omega) o (hc o h)
  · simp [MO.under, PV.under, Nat.blt_eq]
  · exact under_enc _ _
theorem init_pv : cl (j + 1) 26 [.obj st.length] (st ++ [.ins 0 []]) = .ok .non (M1 st []) := by
  rw [cl, call_eq P79.f26 26 _ _ rfl rfl]
  have e1 : (st ++ [MO.ins 0 [], MO.dct false []])[st.length]? = some (.ins 0 []) := by simp
  have e2 : (st ++ [MO.ins 0 [], MO.dct false []]).set st.length (.ins 0 [(0, .obj (st.length + 1))]) = M1 st [] := by
    have := set_app st [MO.ins 0 [], MO.dct false []] 0 (.ins 0 [(0, .obj (st.length + 1))])
    simpa [M1, enc] using this
  simp [P79.f26, e1, cls0, putF, e2]
  unfold R.trim
  have hl : (M1 st []).length = st.length + 2 := by simp [M1]
  have hne : Nat.beq (M1 st []).length (st.length + 1) = false := by
    rw [hl]
    exact Bool.eq_false_iff.mpr fun h => by have := Nat.eq_of_beq_eq_true h; omega
  dsimp only
  rw [hne]
  have ht : (M1 st []).take (st.length + 1) = st ++ [.ins 0 [(0, .obj (st.length + 1))]] := by
    unfold M1
    rw [List.take_append, List.take_of_length_le (by omega)]
    simp
  have hcl : Sto.closed (st.length + 1) ((M1 st []).take (st.length + 1)) = false := by
    rw [ht]
    unfold Sto.closed
    have : MO.under (st.length + 1) (.ins 0 [(0, .obj (st.length + 1))]) = false := by
      simp only [MO.under, PV.under, List.all_cons, List.all_nil, Bool.and_true]
      exact Bool.eq_false_iff.mpr fun h => by rw [Nat.blt_eq] at h; omega
    rw [List.all_append, List.all_cons, this]
    simp
  simp [hcl]
theorem make_pv {C : CallF} (hC : C 26 [.obj st.length] (st ++ [.ins 0 []]) = .ok .non (M1 st [])) : makeR P79.pg C 0 [] st = .ok (.obj st.length) (M1 st []) := by
  simp [makeR, P79.pg, hC]
/-- the loop over pairs -/
theorem met_for (h9 : S.length ≤ 9) (h6 : A.length ≤ 6) (hj : 12 ≤ j) {ps : List (T × T)} {tb tb' : Tab} {b : Bool} (hu : Uns S A ps tb tb' b) (hc : Sto.closed st.length st = true) :
    (∀ q ∈ ps, (∀ r ∈ asub q.1, r ∈ S) ∧ ∀ r ∈ asub q.2, r ∈ S) → ∀ (m : Nat) (x0 x1 x3 x4 x5 x6 : Option PV), ps.length < m →
    ∃ σ, (∃ y3 y4, σ = [x0, x1, some (.obj st.length), y3, y4, x5, x6]) ∧ forGo (evN P79.pg (cl (j + 2)) 100000 199) (.tup [(.name 3), (.name 4)]) [(.ex (.meth (.var 2) 4 [(.var 3), (.var 4)]))] m (.one (.fix (ps.map pp))) [x0, x1, some (.obj st.length), x3, x4, x5, x6] (M1 st tb) =
      if b = true then .nx σ (M1 st tb') else .exc 1 [] σ (M1 st tb') := by
  induction hu with
  | @nil tb =>
    intro _ m x0 x1 x3 x4 x5 x6 hm
    obtain ⟨m, rfl⟩ : ∃ x, m = x + 1 := ⟨m - 1, by simp at hm; omega⟩
    exact ⟨_, ⟨x3, x4, rfl⟩, by simp [forGo, nxt_nil]⟩
  | @more p r tb tb1 tb' k b h1 h2 _ ih =>
    intro hq m x0 x1 x3 x4 x5 x6 hm
    obtain ⟨m, rfl⟩ : ∃ x, m = x + 1 := ⟨m - 1, by omega⟩
    obtain ⟨q1, q2⟩ := hq p (by simp)
    have hmeet := meet_pv (x := p.1) (y := p.2) h9 h6 hj (M1_mt (st := st) tb) (M1_dt tb) h1 h2 q1 q2 (M1_cl tb hc)
    rw [M1_set] at hmeet
    simp only [if_true] at hmeet
    obtain ⟨σ, hσ, e⟩ := ih (fun q hq2 => hq q (by simp [hq2])) m x0 x1 (some (pv p.1)) (some (pv p.2)) x5 x6 (by simpa using hm)
    refine ⟨σ, hσ, ?_⟩
    rw [← e]
    simp [forGo, nxt_cons, pp, (meth_m (M1_mt (st := st) tb).ob _).2.2.2.1, hmeet]
  | @fail p r tb tb1 k h1 h2 =>
    intro hq m x0 x1 x3 x4 x5 x6 hm
    obtain ⟨m, rfl⟩ : ∃ x, m = x + 1 := ⟨m - 1, by omega⟩
    obtain ⟨q1, q2⟩ := hq p (by simp)
    have hmeet := meet_pv (x := p.1) (y := p.2) h9 h6 hj (M1_mt (st := st) tb) (M1_dt tb) h1 h2 q1 q2 (M1_cl tb hc)
    rw [M1_set] at hmeet
    simp only [Bool.false_eq_true, if_false] at hmeet
    refine ⟨_, ⟨some (pv p.1), some (pv p.2), rfl⟩, ?_⟩
    simp [forGo, nxt_cons, pp, (meth_m (M1_mt (st := st) tb).ob _).2.2.2.1, hmeet]
theorem trim_exc_M1 (hc : Sto.closed st.length st = true) (tb : Tab) : R.trim st.length (.exc 1 [] (M1 st tb)) = .exc 1 [] st := trim_exc_app 1 _ hc
theorem under_fv (n : Nat) (l : List (Nat × T)) : PV.under n (fv l) = true := by
  simp only [fv, PV.under]
  exact unders_of fun x hx => by
    obtain ⟨p, _, rfl⟩ := List.mem_map.mp hx
    simp [pr, PV.under, PV.unders, under_pv]
/-- met, of pairs as tuples or as lists -/
theorem met_pv (h9 : S.length ≤ 9) (h6 : A.length ≤ 6) (hj : 14 ≤ j) {v : PV} {ps : List (T × T)} {tb' : Tab} {b : Bool} (hv : cl (j + 1) 0 [v] st = .ok (.tup (ps.map pp)) st) (hu : Uns S A ps [] tb' b) (hps : ps.length < 1000)
    (hq : ∀ q ∈ ps, (∀ r ∈ asub q.1, r ∈ S) ∧ ∀ r ∈ asub q.2, r ∈ S) (hok : ∀ q ∈ ps, q.1.ok ∧ q.2.ok) (hb : b = true → ∃ rk, Gd S th rk tb' ∧ At A tb') (hc : Sto.closed st.length st = true) :
    cl (j + 3) 32 [v] st = if b = true then .ok (fv (fill (sN (ks tb')) th)) st else .exc 1 [] st := by
  rw [cl, call_eq P79.f32 32 _ _ rfl rfl]
  have h1 : cl (j + 2) 6 [v] st = .ok (.tup (ps.map pp)) st := by
    rw [cl, call_eq P79.f6 6 _ _ rfl rfl]
    simp [P79.f6, hv, isin, kindOf, Rf.truthy]
  have h9' : ∀ q ∈ ps, q.1.hd ≤ 9 ∧ q.2.hd ≤ 9 := fun q h => ⟨hd_of h9 (hq q h).1, hd_of h9 (hq q h).2⟩
  obtain ⟨σ, ⟨y3, y4, rfl⟩, e⟩ := met_for (j := j) h9 h6 (by omega) hu hc hq 100000 (some v) (some (.tup (ps.map pp))) none none none none (by omega)
  have hmk := make_pv (C := cl (j + 2)) (st := st) (init_pv (j := j + 1))
  simp [P79.f32, h1, blSeqB]
  rw [comp_mapA (fun x => [some v, some (.tup (ps.map pp)), none, none, none, none, some x]) (f := fun _ => .bl true) ps 100000 [] (by omega) (fun q hq2 => ⟨by simp, by
    have a1 := are_homes_pv (j := j + 1) (st := st) (l := [q.1, q.2]) (by simp) (by simpa using hok q hq2) (by have := h9' q hq2; simp; omega)
    simp at a1
    simp [pp, is_tuple_of, Rf.truthy, a1]⟩)]
  simp [all_map, Rf.truthy, hmk]
  rw [s_for _ _ _ (lock_tup (xs := ps.map pp) (st1 := M1 st []) (by simp))]
  simp only [w_seq, sr_var, srcE_eq, ev_e, e_var, List.getElem?_cons_succ, List.getElem?_cons_zero, rb_ok, rf_ok]
  rw [e]
  clear e
  cases b with
  | false =>
    simp [trim_exc_M1 hc]
  | true =>
    obtain ⟨rk, g, a⟩ := hb rfl
    have hf := filling_pv (j := j) h9 h6 g a (by omega) (M1_mt (st := st) tb') (M1_dt tb') (M1_cl tb' hc)
    simp [(meth_m (M1_mt (st := st) tb').ob _).2.2.2.2, hf]
    exact trim_app _ _ (under_fv _ _) hc
theorem met_home_pv (h9 : S.length ≤ 9) (h6 : A.length ≤ 6) {x y : T} {tb' : Tab} {b : Bool} {k : Nat} (hu : Un S A [(x, y)] [] k tb' b) (hk : k < 4000) (hx : ∀ r ∈ asub x, r ∈ S) (hy : ∀ r ∈ asub y, r ∈ S) (ox : x.ok) (oy : y.ok)
    (hb : b = true → ∃ rk, Gd S th rk tb' ∧ At A tb') (hj : 24 ≤ j) (hc : Sto.closed st.length st = true) :
    cl (j + 3) 33 [pv x, pv y] st = if b = true then .ok (pv (pln (sub th x))) st else .exc 1 [] st := by
  rw [cl, call_eq P79.f33 33 _ _ rfl rfl]
  have hx9 := hd_of h9 hx
  have hy9 := hd_of h9 hy
  have hmk := make_pv (C := cl (j + 2)) (st := st) (init_pv (j := j + 1))
  have hmeet := meet_pv (j := j) (x := x) (y := y) h9 h6 (by omega) (M1_mt (st := st) []) (M1_dt []) hu hk hx hy (M1_cl [] hc)
  rw [M1_set] at hmeet
  simp [P79.f33, sure_home_pv (j := j + 1) (st := st) ox (by omega), sure_home_pv (j := j + 1) (st := st) oy (by omega), hmk, (meth_m (M1_mt (st := st) []).ob _).2.2.2.1, hmeet]
  cases b with
  | false =>
    simp [trim_exc_M1 hc]
  | true =>
    obtain ⟨rk, g, a⟩ := hb rfl
    have hsm := g.small h9 (g.dagT hx)
    have hr := resolved_pv g (fun n => by have := g.few a h6 n; omega) (st := M1 st tb') (j := j + 1) (t := x) (M1_mt tb') (by omega) (by omega)
    have hp := plain_in_pv (j := j + 1) (t := sub th x) (st := M1 st tb') ⟨by omega, by omega⟩ (by omega) (M1_cl tb' hc)
    simp [(meth_m (M1_mt (st := st) tb').ob _).2.1, hr, hp]
    exact trim_app _ _ (under_pv _ _) hc
end
end W79
end
section
set_option linter.all false
set_option maxRecDepth 20000
/-! W16: the law's own walks -/
namespace W79
open PySem Rf
section
variable {st : Sto} {j : Nat} {S : List T} {A : List Nat} {th : Nat → T} {rk : Nat → Nat} {tb : Tab}
/-- what is put, by its parts -/
theorem Wl.parts {t w : T} {k : Nat} (g : Gd S th rk tb) (h : Wl tb t w k) : W79.sub th t = .bd (w.as.map (W79.sub th)) (.v w.gl) := by
  rw [← h.sub g.sat, sub_self, g.out _ h.goal]
theorem Wl.part_in {t w z : T} {k : Nat} (g : Gd S th rk tb) (h : Wl tb t w k) (hz : z ∈ w.as) : W79.sub th z ∈ (W79.sub th t).as := by
  rw [h.parts g, T.bd_as]
  exact List.mem_append_left _ (List.mem_map_of_mem hz)
theorem pl_as_in {t x : T} (h : x ∈ t.as) : x.pl ≤ t.pl := by
  induction t with
  | v m => simp at h
  | a y z _ ih =>
    simp only [T.as_a, List.mem_cons] at h
    rcases h with rfl | h
    · simp
    · have := ih h; simp; omega
/-- list against the empty one -/
theorem eqD_lst {a b : Nat} {l : List T} (h1 : st[a]? = some (.lst (l.map pv))) (h2 : st[b]? = some (.lst [])) (hok : ∀ t ∈ l, t.hd ≤ 25) : eqD (.obj a) (.obj b) st = some l.isEmpty := by
  have e1 : toD st 60 (.obj a) = some (.list ((l.map pv).map dat)) := by
    rw [toD_obj h1]
    rw [mapM_some (g := dat) fun x hx => ?_]
    · rfl
    · obtain ⟨t, ht, rfl⟩ := List.mem_map.mp hx
      have := hok t ht
      exact toD_ok (okP_pv (by omega))
  have e2 : toD st 60 (.obj b) = some (.list []) := by
    rw [toD_obj h2]
    rfl
  unfold eqD
  rw [e1, e2]
  cases l <;> rfl
theorem law_within_pv (g : Gd S th rk tb) (hr : ∀ n, rk n < 199) {d : Nat} : ∀ {j : Nat} {t : T} {n : Nat} {deep : Nat}, Dx st d tb → (sub th t).pl ≤ 2000 → (sub th t).hd ≤ 25 → (sub th t).hd + 2 ≤ j → deep + (sub th t).hd ≤ 80 → Sto.closed st.length st = true →
    cl j 53 [.int n, pv t, .obj d, .int deep] st = .ok (.bl (decide (n ∈ (sub th t).row))) st
  | 0, t, n, deep, _, _, _, h, _, _ => by omega
  | j + 1, t, n, deep, hd, hp, h25, hj, hdeep, hc => by
    obtain ⟨j, rfl⟩ : ∃ i, j = i + 1 := ⟨j - 1, by omega⟩
    rw [cl, call_eq P79.f53 53 _ _ rfl rfl]
    obtain ⟨w, q, hw, hq⟩ := g.wl t
    have hrk := hr t.gl
    have es := hw.sub g.sat
    have hwl : w.as.length < 2000 := by have := T.as_pl w; have := pl_sub th w; rw [es] at this; omega
    have e1 := law_walk_pv (j := j) hd hw (by omega) (by unfold big; omega)
    rw [pv_eq w] at e1
    have hin : n ∈ (sub th t).row ↔ n = w.gl ∨ ∃ z ∈ w.as, n ∈ (sub th z).row := by
      rw [hw.parts g, T.row_bd]
      simp only [List.mem_append, List.mem_flatMap, List.mem_map, T.row_v, List.mem_singleton]
      constructor
      · rintro (⟨_, ⟨z, hz, rfl⟩, h⟩ | h)
        · exact .inr ⟨z, hz, h⟩
        · exact .inl h
      · rintro (h | ⟨z, hz, h⟩)
        · exact .inr h
        · exact .inl ⟨_, ⟨z, hz, rfl⟩, h⟩
    have hdp : ¬ ((80 : Int) < deep) := by omega
    simp [P79.f53, hdp, Rf.truthy, e1]
    by_cases hg : n = w.gl
    · have : n ∈ (sub th t).row := hin.mpr (.inl hg)
      subst hg
      simp [Rf.truthy, this]
    · have hg2 : ¬ ((w.gl : Int) = n) := by omega
      simp [hg2, Rf.truthy]
      rw [comp_filA (e := pv) (f := pv) (p := fun z => decide (n ∈ (sub th z).row)) (fun x => [some (.int n), some (pv t), some (.obj d), some (.int deep), some (.tup (w.as.map pv)), some (.int w.gl), none, some x]) w.as 100000 [] (by omega) (fun z hz => ⟨by simp, by
        have h1 := hw.part_in g hz
        have h2 := T.hd_lt h1
        have h3 := pl_as_in h1
        have ih := law_within_pv g hr (j := j + 1) (t := z) (n := n) (deep := deep + 1) hd (by omega) (by omega) (by omega) (by omega) hc
        simp at ih
        simp [ih, Rf.truthy], fun _ => by simp⟩)]
      have hl1 : (st ++ [MO.lst (((w.as.filter fun z => decide (n ∈ (sub th z).row))).map pv), .lst []])[st.length]? = some (.lst (((w.as.filter fun z => decide (n ∈ (sub th z).row))).map pv)) := by simp
      have hl2 : (st ++ [MO.lst (((w.as.filter fun z => decide (n ∈ (sub th z).row))).map pv), .lst []])[st.length + 1]? = some (.lst []) := get_app _ _ 1
      have heq := eqD_lst hl1 hl2 fun z hz => by
        have h1 := hw.part_in g (List.mem_filter.mp hz).1
        have h2 := T.hd_lt h1
        have := hd_sub th z
        omega
      have hfin : (!(w.as.filter fun z => decide (n ∈ (sub th z).row)).isEmpty) = decide (n ∈ (sub th t).row) := by
        rw [Bool.eq_iff_iff, decide_eq_true_iff, hin]
        simp only [Bool.not_eq_true', List.isEmpty_eq_false_iff_exists_mem, List.mem_filter, decide_eq_true_eq]
        constructor
        · rintro ⟨z, h1, h2⟩; exact .inr ⟨z, h1, h2⟩
        · rintro (h | ⟨z, h1, h2⟩)
          · exact absurd h hg
          · exact ⟨z, h1, h2⟩
      simp only [List.reverse_nil, List.nil_append, rb_ok, List.append_assoc, List.cons_append, List.length_append, List.length_cons, List.length_nil, Nat.zero_add, heq, Option.map_some, o_some, hfin, rf_ok, fs_rt, fl_rt]
      exact trim_app _ _ rfl hc
theorem law_whole_pv (g : Gd S th rk tb) (hr : ∀ n, rk n < 199) {d : Nat} : ∀ {j : Nat} {t : T} {way : List PV} {st : Sto}, Dx st d tb → (sub th t).pl ≤ 2000 → (sub th t).hd ≤ 25 → (sub th t).hd + 2 ≤ j → way.length + (sub th t).hd ≤ 60 → Sto.closed st.length st = true →
    cl j 51 [pv t, .obj d, .tup way] st = .ok (pv (sub th t)) st
  | 0, t, way, st, _, _, _, h, _, _ => by omega
  | j + 1, t, way, st, hd, hp, h25, hj, hway, hc => by
    obtain ⟨j, rfl⟩ : ∃ i, j = i + 1 := ⟨j - 1, by omega⟩
    rw [cl, call_eq P79.f51 51 _ _ rfl rfl]
    obtain ⟨w, q, hw, hq⟩ := g.wl t
    have hrk := hr t.gl
    have es := hw.sub g.sat
    have hwl : w.as.length < 2000 := by have := T.as_pl w; have := pl_sub th w; rw [es] at this; omega
    have e1 := law_walk_pv (j := j) hd hw (by omega) (by unfold big; omega)
    rw [pv_eq w] at e1
    have hln : ¬ ((60 : Int) < way.length) := by omega
    simp [P79.f51, blSeqB, hln, Rf.truthy, e1]
    rw [comp_mapA (fun x => [some (pv t), some (.obj d), some (.tup way), some (.tup (w.as.map pv)), some (.int w.gl), none, none, some x]) (f := fun z => pv (sub th z)) w.as 100000 [] (by omega) (fun z hz => ⟨by simp, by
      have h1 := hw.part_in g hz
      have h2 := T.hd_lt h1
      have h3 := pl_as_in h1
      have hb : way.length + 1 ≤ big := by unfold big; omega
      have ih := law_whole_pv g hr (j := j + 1) (t := z) (way := way ++ [.int 0]) (st := st) hd (by omega) (by omega) (by omega) (by simp; omega) hc
      simp [hb, ih]⟩)]
    have hl1 : (st ++ [MO.lst (w.as.map fun z => pv (sub th z))])[st.length]? = some (.lst (w.as.map fun z => pv (sub th z))) := by simp
    have hwi : within .non (.obj st.length) (st ++ [MO.lst (w.as.map fun z => pv (sub th z))]) = some false := by
      have e2 : (w.as.map fun z => pv (sub th z)).mapM (toD (st ++ [MO.lst (w.as.map fun z => pv (sub th z))]) 60) = some ((w.as.map fun z => pv (sub th z)).map dat) := mapM_some fun x hx => by
        obtain ⟨z, hz, rfl⟩ := List.mem_map.mp hx
        have h2 := T.hd_lt (hw.part_in g hz)
        exact toD_ok (okP_pv (by omega))
      have e3 : toD (st ++ [MO.lst (w.as.map fun z => pv (sub th z))]) 60 .non = some .none := rfl
      simp only [within, hl1, e2, e3, Option.bind_eq_bind, Option.bind_some, Option.pure_def]
      congr 1
      rw [List.any_eq_false]
      intro d hd
      rw [List.map_map] at hd
      obtain ⟨z, _, rfl⟩ := List.mem_map.mp hd
      simp [pv, dat, PyData.eqv]
    have er : pv (sub th t) = .tup [.tup (w.as.map fun z => pv (sub th z)), .int w.gl] := by
      rw [hw.parts g, pv_eq]
      simp [Function.comp_def]
    simp [hwi, Rf.truthy, blOf, blSeq]
    rw [er]
    rw [trim_app _ _ ?_ hc]
    rw [← er]
    exact under_pv _ _
end
end W79
end
section
set_option linter.all false
set_option maxRecDepth 20000
/-! W17: the law's own meeting -/
namespace W79
open PySem Rf
def LG (st : Sto) (tb : Tab) (L : List (T × T)) (i : Nat) : Sto := st ++ (.dct false (enc pv tb) :: .lst (L.map pp) :: List.replicate i (.lst []))
section
variable {st : Sto}
theorem LG_len (tb : Tab) (L : List (T × T)) (i : Nat) : (LG st tb L i).length = st.length + 2 + i := by simp [LG]; omega
theorem LG_dt (tb : Tab) (L : List (T × T)) (i : Nat) : Dt (LG st tb L i) st.length tb := get_app _ _ 0
theorem LG_todo (tb : Tab) (L : List (T × T)) (i : Nat) : (LG st tb L i)[st.length + 1]? = some (.lst (L.map pp)) := get_app _ _ 1
theorem LG_set (tb : Tab) (L L' : List (T × T)) (i : Nat) : (LG st tb L i).set (st.length + 1) (.lst (L'.map pp)) = LG st tb L' i := set_app _ _ 1 _
theorem LG_put (tb tb' : Tab) (L : List (T × T)) (i : Nat) : (LG st tb L i).set st.length (.dct false (enc pv tb')) = LG st tb' L i := set_app _ _ 0 _
theorem LG_more (tb : Tab) (L : List (T × T)) (i : Nat) : LG st tb L i ++ [.lst []] = LG st tb L (i + 1) := by
  simp only [LG, List.append_assoc, List.cons_append, List.replicate_succ']
theorem LG_cl (tb : Tab) (L : List (T × T)) (i : Nat) (hc : Sto.closed st.length st = true) : Sto.closed (LG st tb L i).length (LG st tb L i) = true := closed_app hc fun o ho n => by
  simp only [List.mem_cons, List.mem_replicate] at ho
  rcases ho with rfl | rfl | ⟨_, rfl⟩
  · exact under_enc _ _
  · simp only [MO.under]
    exact unders_of fun x hx => by
      obtain ⟨q, _, rfl⟩ := List.mem_map.mp hx
      simp [pp, PV.under, PV.unders, under_pv]
  · rfl
theorem eqD_tn {l : List T} (hok : ∀ t ∈ l, t.hd ≤ 25) : eqD (.tup (l.map pv)) (.tup []) st = some l.isEmpty := by
  have e1 : toD st 60 (.tup (l.map pv)) = some (dat (.tup (l.map pv))) := toD_ok (by
    show okPs 59 (l.map pv) = true
    exact okPs_all.mpr fun x hx => by
      obtain ⟨t, ht, rfl⟩ := List.mem_map.mp hx
      exact okP_pv (by have := hok t ht; omega))
  have e2 : toD st 60 (.tup []) = some (.tuple []) := rfl
  unfold eqD
  rw [e1, e2]
  cases l <;> simp [dat, dats, PyData.eqv, PyData.eqvAll]
end
def lbody : List Sm := [(.ife (.cmp .eq (.var 2) (.lst [])) [(.ret (some (.var 1)))] []), (.asg (.tup [(.name 4), (.name 5)]) (.bm (.var 2) .pop [])), (.asg (.tup [(.name 4), (.name 5)]) (.tup [(.call 50 [(.var 4), (.var 1)]), (.call 50 [(.var 5), (.var 1)])])), (.asg (.name 6) (.bl .min2 [(.bl .len [(.ix (.var 4) (.lit (.int (0))))]), (.bl .len [(.ix (.var 5) (.lit (.int (0))))])])), (.ex (.bm (.var 2) .extend [(.comp (.tup [(.var 10), (.var 11)]) (.tup [(.name 10), (.name 11)]) (.zip (.slice (.ix (.var 4) (.lit (.int (0)))) none (some (.var 6))) (.slice (.ix (.var 5) (.lit (.int (0)))) none (some (.var 6)))) none [9, 10, 11])])), (.asg (.tup [(.name 7), (.name 8)]) (.tup [(.tup [(.slice (.ix (.var 4) (.lit (.int (0)))) (some (.var 6)) none), (.ix (.var 4) (.lit (.int (1))))]), (.tup [(.slice (.ix (.var 5) (.lit (.int (0)))) (some (.var 6)) none), (.ix (.var 5) (.lit (.int (1))))])])), (.ife (.cmp .ne (.ix (.var 7) (.lit (.int (0)))) (.tup [])) [(.asg (.tup [(.name 7), (.name 8)]) (.tup [(.var 8), (.var 7)]))] []), (.ife (.cmp .ne (.var 7) (.var 8)) [(.ife (.call 53 [(.ix (.var 7) (.lit (.int (1)))), (.var 8), (.var 1), (.lit (.int (0)))]) [(.ret (some (.lit .non)))] []), (.asg (.sub (.var 1) (.ix (.var 7) (.lit (.int (1))))) (.var 8))] [])]
/-- what the last rows of a turn do -/
def lend (V : Ev) (σ : Rf.Loc) (st : Sto) : Fl := V.s [(.ife (.cmp .ne (.var 7) (.var 8)) [(.ife (.call 53 [(.ix (.var 7) (.lit (.int (1)))), (.var 8), (.var 1), (.lit (.int (0)))]) [(.ret (some (.lit .non)))] []), (.asg (.sub (.var 1) (.ix (.var 7) (.lit (.int (1))))) (.var 8))] [])] σ st
section
variable {st : Sto} {j : Nat} {S : List T} {A : List Nat} {tb : Tab} {th : Nat → T} {rk : Nat → Nat}
theorem lbody_pv {L : List (T × T)} {x y w u : T} {q1 q2 i : Nat} (w1 : Wl tb x w q1) (w2 : Wl tb y u q2) (b1 : q1 < 200) (b2 : q2 < 200) (l1 : w.as.length < 2000) (l2 : u.as.length < 2000) (hL : L.length < 10000000)
    (hh1 : w.hd ≤ 25) (hq : ∀ q ∈ L ++ [(x, y)], q.1.hd ≤ 9 ∧ q.2.hd ≤ 9) (a0 a3 a4 a5 a6 a7 a8 a9 a10 a11 : Option PV) :
    ∃ b4 b5 b6 b9 b10 b11, (evN P79.pg (cl (j + 1)) 100000 199).s lbody [a0, some (.obj st.length), some (.obj (st.length + 1)), a3, a4, a5, a6, a7, a8, a9, a10, a11] (LG st tb (L ++ [(x, y)]) i) =
      lend (evN P79.pg (cl (j + 1)) 100000 199) [a0, some (.obj st.length), some (.obj (st.length + 1)), a3, b4, b5, b6, some (pv (.v (bnd w u).1)), some (pv (bnd w u).2), b9, b10, b11] (LG st tb (L ++ chs w u) (i + 1)) := by
  have p0 : eqD (.obj (st.length + 1)) (.obj (st.length + 2 + i)) (LG st tb (L ++ [(x, y)]) (i + 1)) = some false := by
    have e1 : (LG st tb (L ++ [(x, y)]) (i + 1))[st.length + 2 + i]? = some (.lst []) := by
      rw [← LG_more, ← LG_len (st := st) tb (L ++ [(x, y)]) i]
      simp
    rw [eqD_todo (LG_todo tb _ _) e1 hq]
    cases L <;> rfl
  have pl := LG_len (st := st) tb (L ++ [(x, y)]) i
  have p1 : bmTy .pop (.obj (st.length + 1)) (LG st tb (L ++ [(x, y)]) (i + 1)) = true := by simp [bmTy, LG_todo]
  have p2 : bmOf .pop (.obj (st.length + 1)) [] (LG st tb (L ++ [(x, y)]) (i + 1)) = .ok (.tup [pv x, pv y]) (LG st tb L (i + 1)) := by
    have e : ((L ++ [(x, y)]).map pp).dropLast = L.map pp := by simp
    simp only [bmOf, popR, LG_todo]
    rw [e, LG_set]
    simp [pp]
  have hd := Dx.of (LG_dt (st := st) tb L (i + 1))
  have x1 := law_walk_pv (j := j) hd w1 b1 (by unfold big; omega)
  have x2 := law_walk_pv (j := j) hd w2 b2 (by unfold big; omega)
  rw [pv_eq w] at x1
  rw [pv_eq u] at x2
  have e1 : bmTy .extend (.obj (st.length + 1)) (LG st tb L (i + 1)) = true := by simp [bmTy, LG_todo]
  have hcl : (chs w u).length ≤ 2000 := by unfold chs; simp [List.length_zip, List.length_take]; omega
  have e2 : extR (.obj (st.length + 1)) ((chs w u).map pp) (LG st tb L (i + 1)) = .ok .non (LG st tb (L ++ chs w u) (i + 1)) := by
    have hb : L.length + (chs w u).length ≤ big := by unfold big; omega
    simp only [extR, LG_todo, List.length_map, hb, if_true]
    rw [← List.map_append, LG_set]
  have ez := zip_pp w u
  obtain ⟨mm, hmm⟩ : ∃ mm, mm = min w.as.length u.as.length := ⟨_, rfl⟩
  have emin : (if u.as.length < w.as.length then (u.as.length : Int) else w.as.length) = (mm : Int) := by
    rw [hmm]
    split <;> omega
  rw [← hmm] at ez
  have hbnd : bnd w u = if w.as.length = mm then (w.gl, rst u mm) else (u.gl, rst w mm) := by rw [hmm]; rfl
  have hpr : ∀ (z : T), pv (rst z mm) = .tup [.tup ((z.as.map pv).drop mm), .int z.gl] := fun z => by
    rw [pv_eq, rst_as, rst_gl, List.map_drop]
  have hnil := eqD_tn (st := LG st tb (L ++ chs w u) (i + 1)) (l := w.as.drop mm) fun t ht => by
    have := T.hd_lt (List.mem_of_mem_drop ht)
    omega
  rw [List.map_drop] at hnil
  unfold lbody lend
  simp [LG_more, pl, p0, p1, p2, x1, x2, blSeqB, emin, e1, sliceOf, cut_take, Rf.truthy]
  rw [comp_zip (τ := fun a b => [a0, some (.obj st.length), some (.obj (st.length + 1)), a3, some (.tup [.tup (w.as.map pv), .int w.gl]), some (.tup [.tup (u.as.map pv), .int u.gl]), some (.int (mm : Int)), a7, a8, none, some a, some b]) (f := fun a b => .tup [a, b]) _ _ 100000 [] (by simp; omega) (fun a b _ => ⟨by simp, by simp⟩)]
  simp only [List.reverse_nil, List.nil_append, ez, rb_ok, e2, rf_ok, fs_nx]
  by_cases hw : w.as.length = mm
  · have hdw : (w.as.drop mm).isEmpty = true := by rw [List.drop_eq_nil_of_le (by omega)]; rfl
    have hdw2 : (w.as.map pv).drop mm = [] := List.drop_eq_nil_of_le (by simp; omega)
    rw [hdw, hdw2] at hnil
    rw [hbnd, if_pos hw]
    simp only [hpr u, pv_v]
    exact ⟨some (.tup [.tup (w.as.map pv), .int w.gl]), some (.tup [.tup (u.as.map pv), .int u.gl]), some (.int mm), a9, a10, a11, by simp [cut_drop, hdw2, hnil, Rf.truthy]⟩
  · have hdw : (w.as.drop mm).isEmpty = false := by
      rw [List.isEmpty_eq_false_iff]
      intro e
      have := List.drop_eq_nil_iff.mp e
      omega
    have hdu2 : (u.as.map pv).drop mm = [] := List.drop_eq_nil_of_le (by simp; omega)
    rw [hdw] at hnil
    rw [hbnd, if_neg hw]
    simp only [hpr w, pv_v]
    exact ⟨some (.tup [.tup (w.as.map pv), .int w.gl]), some (.tup [.tup (u.as.map pv), .int u.gl]), some (.int mm), a9, a10, a11, by simp [cut_drop, hdu2, hnil, Rf.truthy]⟩
theorem lend_same {L : List (T × T)} {i n : Nat} {a0 a3 a4 a5 a6 a9 a10 a11 : Option PV} : lend (evN P79.pg (cl (j + 1)) 100000 199) [a0, some (.obj st.length), some (.obj (st.length + 1)), a3, a4, a5, a6, some (pv (.v n)), some (pv (.v n)), a9, a10, a11] (LG st tb L i) =
    .nx [a0, some (.obj st.length), some (.obj (st.length + 1)), a3, a4, a5, a6, some (pv (.v n)), some (pv (.v n)), a9, a10, a11] (LG st tb L i) := by
  have h := eqD_pv (st := LG st tb L i) (t := .v n) (u := .v n) (by simp) (by simp)
  rw [pv_v] at h ⊢
  unfold lend
  simp [h, Rf.truthy]
theorem lend_occ (g : Gd S th rk tb) (hr : ∀ n, rk n < 199) (hj : 12 ≤ j) (hc : Sto.closed st.length st = true) {L : List (T × T)} {i n : Nat} {t : T} (hne : t ≠ .v n) (h9 : (sub th t).hd ≤ 9) (hp : (sub th t).pl ≤ 512) (hocc : n ∈ (sub th t).row) {a0 a3 a4 a5 a6 a9 a10 a11 : Option PV} :
    lend (evN P79.pg (cl (j + 1)) 100000 199) [a0, some (.obj st.length), some (.obj (st.length + 1)), a3, a4, a5, a6, some (pv (.v n)), some (pv t), a9, a10, a11] (LG st tb L i) = .rt .non (LG st tb L i) := by
  have h0 := hd_sub th t
  have hne2 : (T.v n) ≠ t := fun e => hne e.symm
  have h := eqD_pv (st := LG st tb L i) (t := .v n) (u := t) (by simp) (by omega)
  have hw := law_within_pv g hr (st := LG st tb L i) (j := j + 1) (t := t) (n := n) (deep := 0) (.of (LG_dt tb L i)) (by omega) (by omega) (by omega) (by omega) (LG_cl tb L i hc)
  rw [pv_v] at h ⊢
  simp at hw
  unfold lend
  simp [h, hne2, Rf.truthy, hw, hocc]
theorem lend_put (g : Gd S th rk tb) (hr : ∀ n, rk n < 199) (hj : 12 ≤ j) (hc : Sto.closed st.length st = true) (hl : tb.length < 100) {L : List (T × T)} {i n : Nat} {t : T} (hne : t ≠ .v n) (h9 : (sub th t).hd ≤ 9) (hp : (sub th t).pl ≤ 512) (hocc : n ∉ (sub th t).row) (hn : lk tb n = none) {a0 a3 a4 a5 a6 a9 a10 a11 : Option PV} :
    lend (evN P79.pg (cl (j + 1)) 100000 199) [a0, some (.obj st.length), some (.obj (st.length + 1)), a3, a4, a5, a6, some (pv (.v n)), some (pv t), a9, a10, a11] (LG st tb L i) =
      .nx [a0, some (.obj st.length), some (.obj (st.length + 1)), a3, a4, a5, a6, some (pv (.v n)), some (pv t), a9, a10, a11] (LG st (tb ++ [(n, t)]) L i) := by
  have h0 := hd_sub th t
  have hne2 : (T.v n) ≠ t := fun e => hne e.symm
  have h := eqD_pv (st := LG st tb L i) (t := .v n) (u := t) (by simp) (by omega)
  have hw := law_within_pv g hr (st := LG st tb L i) (j := j + 1) (t := t) (n := n) (deep := 0) (.of (LG_dt tb L i)) (by omega) (by omega) (by omega) (by omega) (LG_cl tb L i hc)
  have h4 := set_d (f := pv) (LG_dt (st := st) tb L i) (by omega) n t
  have h5 : pt tb n t = tb ++ [(n, t)] := pt_new (lk_none_ks.mp hn) t
  rw [h5, LG_put] at h4
  rw [pv_v] at h ⊢
  simp at hw
  unfold lend
  simp [h, hne2, Rf.truthy, hw, hocc, h4]
theorem met_laps (h9 : S.length ≤ 9) (h6 : A.length ≤ 6) (hj : 12 ≤ j) (hc : Sto.closed st.length st = true) {td : List (T × T)} {tb tb' : Tab} {p : Nat} {b : Bool} (hu : Un S A td tb p tb' b) :
    (∀ q ∈ td, (∀ r ∈ asub q.1, r ∈ S) ∧ ∀ r ∈ asub q.2, r ∈ S) → ∀ (r m i : Nat) (lo : Int) (a0 a3 a4 a5 a6 a7 a8 a9 a10 a11 : Option PV), p < r → r < m → td.length + p * 2000 < 10000000 → ∃ i' L', forGo (evN P79.pg (cl (j + 1)) 100000 199) (.name 3) lbody m (.rng lo r) [a0, some (.obj st.length), some (.obj (st.length + 1)), a3, a4, a5, a6, a7, a8, a9, a10, a11] (LG st tb td.reverse i) =
      if b = true then .rt (.obj st.length) (LG st tb' [] i') else .rt .non (LG st tb' L' i') := by
  have nine : ∀ {td : List (T × T)}, (∀ q ∈ td, (∀ r ∈ asub q.1, r ∈ S) ∧ ∀ r ∈ asub q.2, r ∈ S) → ∀ q ∈ td.reverse, q.1.hd ≤ 9 ∧ q.2.hd ≤ 9 := fun ht q hq => by
    obtain ⟨o1, o2⟩ := ht q (List.mem_reverse.mp hq)
    exact ⟨hd_of h9 o1, hd_of h9 o2⟩
  have hnm : ∀ (v : PV) (σ : Rf.Loc) (s : Sto), (evN P79.pg (cl (j + 1)) 100000 199).t (.name 3) v σ s = .ok (σ.set 3 (some v)) s := fun v σ s => by simp
  induction hu with
  | @nil tb =>
    intro ht r m i lo a0 a3 a4 a5 a6 a7 a8 a9 a10 a11 hr hm _
    obtain ⟨m, rfl⟩ : ∃ x, m = x + 1 := ⟨m - 1, by omega⟩
    obtain ⟨r, rfl⟩ : ∃ x, r = x + 1 := ⟨r - 1, by omega⟩
    have e1 : (LG st tb [] (i + 1))[st.length + 2 + i]? = some (.lst []) := by
      rw [← LG_more, ← LG_len (st := st) tb [] i]
      simp
    have p0 := eqD_todo (LG_todo tb [] (i + 1)) e1 (by simp)
    have hbody : (evN P79.pg (cl (j + 1)) 100000 199).s lbody [a0, some (.obj st.length), some (.obj (st.length + 1)), some (.int lo), a4, a5, a6, a7, a8, a9, a10, a11] (LG st tb [] i) = .rt (.obj st.length) (LG st tb [] (i + 1)) := by
      unfold lbody
      simp [LG_more, LG_len, p0, Rf.truthy]
    refine ⟨i + 1, [], ?_⟩
    simp only [forGo, Wk.next, hnm, rf_ok, List.set_cons_succ, List.set_cons_zero, List.reverse_nil, hbody, if_true]
  | @same x y w u rr tb tb' k1 m1 p b th rk s w1 w2 hs _ ih =>
    intro ht r m i lo a0 a3 a4 a5 a6 a7 a8 a9 a10 a11 hr hm hl
    obtain ⟨m, rfl⟩ : ∃ x, m = x + 1 := ⟨m - 1, by omega⟩
    obtain ⟨r, rfl⟩ : ∃ x, r = x + 1 := ⟨r - 1, by omega⟩
    obtain ⟨z1, z2, z3, z4, z5, z6, z7, z8, z9, z10⟩ := s.sizes h9 h6 w1 w2
    have hcl := chs_len s h9 h6 w1 w2
    simp only [List.length_cons] at hl
    have hwd : w.hd ≤ 25 := by
      have e := w1.sub s.g.sat
      have := hd_sub th w
      have := (s.g.small h9 (s.g.dagT s.hx)).1
      rw [e] at *
      omega
    have hqq := nine ht
    simp only [List.reverse_cons] at hqq
    obtain ⟨b4, b5, b6, b9, b10, b11, hb⟩ := lbody_pv (j := j) (st := st) (L := rr.reverse) (x := x) (y := y) (i := i) w1 w2 (by omega) (by omega) z3 z4 (by simp; omega) hwd hqq a0 (some (.int lo)) a4 a5 a6 a7 a8 a9 a10 a11
    rw [hs, lend_same] at hb
    obtain ⟨i2, L2, h2⟩ := ih (fun q hq => by
      rcases List.mem_append.mp hq with hq | hq
      · exact z10 q (List.mem_reverse.mp hq)
      · exact ht q (by simp [hq])) r m (i + 1) (lo + 1) a0 (some (.int lo)) b4 b5 b6 (some (pv (.v (bnd w u).1))) (some (pv (.v (bnd w u).1))) b9 b10 b11 (by omega) (by omega) (by simp; omega)
    refine ⟨i2, L2, ?_⟩
    rw [← h2]
    simp only [forGo, Wk.next, hnm, rf_ok, List.set_cons_succ, List.set_cons_zero, List.reverse_cons, hb, List.reverse_append, List.reverse_reverse]
  | @put x y w u rr tb tb' k1 m1 p b th rk s w1 w2 hs hocc _ ih =>
    intro ht r m i lo a0 a3 a4 a5 a6 a7 a8 a9 a10 a11 hr hm hl
    obtain ⟨m, rfl⟩ : ∃ x, m = x + 1 := ⟨m - 1, by omega⟩
    obtain ⟨r, rfl⟩ : ∃ x, r = x + 1 := ⟨r - 1, by omega⟩
    obtain ⟨z1, z2, z3, z4, z5, z6, z7, z8, z9, z10⟩ := s.sizes h9 h6 w1 w2
    have hcl := chs_len s h9 h6 w1 w2
    simp only [List.length_cons] at hl
    have hwd : w.hd ≤ 25 := by
      have e := w1.sub s.g.sat
      have := hd_sub th w
      have := (s.g.small h9 (s.g.dagT s.hx)).1
      rw [e] at *
      omega
    have hqq := nine ht
    simp only [List.reverse_cons] at hqq
    obtain ⟨b4, b5, b6, b9, b10, b11, hb⟩ := lbody_pv (j := j) (st := st) (L := rr.reverse) (x := x) (y := y) (i := i) w1 w2 (by omega) (by omega) z3 z4 (by simp; omega) hwd hqq a0 (some (.int lo)) a4 a5 a6 a7 a8 a9 a10 a11
    rw [lend_put s.g z7 hj hc z8 hs z5 z6 hocc z9] at hb
    obtain ⟨i2, L2, h2⟩ := ih (fun q hq => by
      rcases List.mem_append.mp hq with hq | hq
      · exact z10 q (List.mem_reverse.mp hq)
      · exact ht q (by simp [hq])) r m (i + 1) (lo + 1) a0 (some (.int lo)) b4 b5 b6 (some (pv (.v (bnd w u).1))) (some (pv (bnd w u).2)) b9 b10 b11 (by omega) (by omega) (by simp; omega)
    refine ⟨i2, L2, ?_⟩
    rw [← h2]
    simp only [forGo, Wk.next, hnm, rf_ok, List.set_cons_succ, List.set_cons_zero, List.reverse_cons, hb, List.reverse_append, List.reverse_reverse]
  | @fail x y w u rr tb k1 m1 th rk s w1 w2 hs hocc =>
    intro ht r m i lo a0 a3 a4 a5 a6 a7 a8 a9 a10 a11 hr hm hl
    obtain ⟨m, rfl⟩ : ∃ x, m = x + 1 := ⟨m - 1, by omega⟩
    obtain ⟨r, rfl⟩ : ∃ x, r = x + 1 := ⟨r - 1, by omega⟩
    obtain ⟨z1, z2, z3, z4, z5, z6, z7, z8, z9, z10⟩ := s.sizes h9 h6 w1 w2
    simp only [List.length_cons] at hl
    have hwd : w.hd ≤ 25 := by
      have e := w1.sub s.g.sat
      have := hd_sub th w
      have := (s.g.small h9 (s.g.dagT s.hx)).1
      rw [e] at *
      omega
    have hqq := nine ht
    simp only [List.reverse_cons] at hqq
    obtain ⟨b4, b5, b6, b9, b10, b11, hb⟩ := lbody_pv (j := j) (st := st) (L := rr.reverse) (x := x) (y := y) (i := i) w1 w2 (by omega) (by omega) z3 z4 (by simp; omega) hwd hqq a0 (some (.int lo)) a4 a5 a6 a7 a8 a9 a10 a11
    rw [lend_occ s.g z7 hj hc hs z5 z6 hocc] at hb
    refine ⟨i + 1, rr.reverse ++ chs w u, ?_⟩
    simp only [forGo, Wk.next, hnm, rf_ok, List.set_cons_succ, List.set_cons_zero, List.reverse_cons, hb, Bool.false_eq_true, if_false]
/-- the law's meeting of pairs in a list -/
theorem law_met_pv (h9 : S.length ≤ 9) (h6 : A.length ≤ 6) (hj : 12 ≤ j) (hc : Sto.closed st.length st = true) {a : Nat} {ps : List (T × T)} {tb' : Tab} {p : Nat} {b : Bool} (ha : st[a]? = some (.lst (ps.map pp))) (hu : Un S A ps.reverse [] p tb' b) (hp : p < 400) (hl : ps.length < 1000)
    (hq : ∀ q ∈ ps, (∀ r ∈ asub q.1, r ∈ S) ∧ ∀ r ∈ asub q.2, r ∈ S) : ∃ i, cl (j + 2) 52 [.obj a] st = if b = true then .ok (.obj st.length) (LG st tb' [] i) else .ok .non st := by
  obtain ⟨i, L, e⟩ := met_laps h9 h6 hj hc hu (fun q hq2 => hq q (List.mem_reverse.mp hq2)) 400 100000 0 0 (some (.obj a)) none none none none none none none none none hp (by omega) (by simp; omega)
  rw [List.reverse_reverse] at e
  refine ⟨i, ?_⟩
  rw [cl, call_eq P79.f52 52 _ _ rfl rfl]
  have hbody : P79.f52.body = [(.asg (.tup [(.name 1), (.name 2)]) (.tup [.dnew, (.bl .list [(.var 0)])])), (.for_ (.name 3) (.rng1 (.lit (.int (400)))) lbody), (.ret (some (.lit .non)))] := rfl
  have hs0 : P79.f52.slots - P79.f52.arity = 11 := rfl
  have hcp : blOf .list [.obj a] (st ++ [.dct false []]) = .ok (.obj (st.length + 1)) (LG st [] ps 0) := by
    have := get_old [.dct false []] ha
    simp [blOf, this, blSeq, newO, LG, enc]
  rw [hbody, hs0]
  simp [hcp, blSeqB]
  rw [s_for _ _ _ (lock_rng _)]
  simp only [w_rng, ev_e, e_lit, rb_ok]
  have h400 : -(2 ^ 62) ≤ (400 : Int) ∧ (400 : Int) < 2 ^ 62 := by decide
  rw [if_pos h400]
  have h4 : (400 : Int).toNat = 400 := rfl
  simp only [rf_ok, h4]
  rw [e]
  clear e
  cases b with
  | true =>
    simp only [if_true, fs_rt, fl_rt]
    unfold R.trim
    have hu : PV.under st.length (.obj st.length) = false := by
      simp only [PV.under]
      exact Bool.eq_false_iff.mpr fun h => by rw [Nat.blt_eq] at h; omega
    simp [hu]
  | false =>
    simp only [Bool.false_eq_true, if_false, fs_rt, fl_rt]
    exact trim_app _ _ rfl hc
end
end W79
end
section
set_option linter.all false
set_option maxRecDepth 20000
/-! W18: draws -/
namespace W79
open PySem Rf
/-- the source of draws at a; at most c small ones so far -/
def Tin (st : Sto) (a c : Nat) : Prop := ∃ b s k : Int, st[a]? = some (.lst [.int b, .int s, .int k]) ∧ 0 ≤ b ∧ 0 ≤ s ∧ s < 2 ^ 62 ∧ 0 ≤ k ∧ k ≤ c
/-- nothing else is changed; more may stand behind -/
structure Fr (a : Nat) (st st' : Sto) : Prop where
  len : st.length ≤ st'.length
  old : ∀ i, i ≠ a → i < st.length → st'[i]? = st[i]?
theorem Fr.rfl' {a : Nat} {st : Sto} : Fr a st st := ⟨Nat.le_refl _, fun _ _ _ => rfl⟩
theorem Fr.tr {a : Nat} {st s2 s3 : Sto} (h : Fr a st s2) (h2 : Fr a s2 s3) : Fr a st s3 := ⟨Nat.le_trans h.len h2.len, fun i hi hl => by rw [h2.old i hi (by have := h.len; omega), h.old i hi hl]⟩
theorem Fr.get {a i : Nat} {st st' : Sto} {o : MO} (h : Fr a st st') (hi : i ≠ a) (e : st[i]? = some o) : st'[i]? = some o := by
  rw [h.old i hi (List.getElem?_eq_some_iff.mp e).1]; exact e
theorem Fr.app {a : Nat} {st : Sto} (m : Sto) : Fr a st (st ++ m) := ⟨by simp, fun i _ hl => by rw [List.getElem?_append_left hl]⟩
theorem Fr.set {a : Nat} {st : Sto} (o : MO) : Fr a st (st.set a o) := ⟨by simp, fun i hi _ => by rw [List.getElem?_set_ne (Ne.symm hi)]⟩
abbrev Cl (st : Sto) : Prop := Sto.closed st.length st = true
section
variable {st : Sto} {j a : Nat}
theorem li0 {x y z : PV} (h : st[a]? = some (.lst [x, y, z])) : item (.obj a) (.int 0) st = some x ∧ item (.obj a) (.int 1) st = some y ∧ item (.obj a) (.int 2) st = some z := by
  simp [item, h, atI, ixOf]
theorem ls0 {x y z v : PV} (h : st[a]? = some (.lst [x, y, z])) : Rf.setItem (.obj a) (.int 0) v st = some (st.set a (.lst [v, y, z])) ∧ Rf.setItem (.obj a) (.int 2) v st = some (st.set a (.lst [x, y, v])) := by
  simp [Rf.setItem, h, ixOf]
theorem cl_set {x y z : Int} (hc : Cl st) : Cl (st.set a (.lst [.int x, .int y, .int z])) := by
  show Sto.closed _ _ = true
  rw [List.length_set]
  unfold Cl Sto.closed at *
  rw [List.all_eq_true] at *
  intro o ho
  rcases List.mem_or_eq_of_mem_set ho with h | rfl
  · exact hc o h
  · rfl
@[simp] theorem bl_int (i : Int) (st : Sto) : blOf .int [.int i] st = .ok (.int i) st := rfl
theorem take_pv {m : Int} {c : Nat} (ht : Tin st a c) (hm : 0 < m) (hm2 : m < 1000000) (hcc : c < 1000000) (hc : Cl st) :
    ∃ v : Int, ∃ st', cl (j + 1) 41 [.obj a, .int m] st = .ok (.int v) st' ∧ 0 ≤ v ∧ v < m ∧ Tin st' a (c + 1) ∧ Fr a st st' ∧ Cl st' ∧ st'.length = st.length := by
  obtain ⟨b, s, k, h, hb, hs, hs2, hk, hk2⟩ := ht
  rw [cl, call_eq P79.f41 41 _ _ rfl rfl]
  obtain ⟨i0, i1, i2⟩ := li0 h
  have hm30 : m < 1073741824 := by omega
  by_cases hpos : 0 < b
  · refine ⟨b % m, st.set a (.lst [.int (b / m), .int s, .int k]), ?_, Int.emod_nonneg _ (by omega), Int.emod_lt_of_pos _ hm, ⟨b / m, s, k, get_set _ h, Int.ediv_nonneg hb (by omega), hs, hs2, hk, by omega⟩, .set _, cl_set hc, by simp⟩
    simp [P79.f41, i0, hpos, Rf.truthy, blSeqB, hm, hm30, (ls0 h).1]
    exact trim_len _ (by simp)
  · have hset : Tin (st.set a (.lst [.int b, .int s, .int (k + 1)])) a (c + 1) := ⟨b, s, k + 1, get_set _ h, hb, hs, hs2, by omega, by omega⟩
    obtain ⟨j0, j1, j2⟩ := li0 (get_set (.lst [.int b, .int s, .int (k + 1)]) h)
    have hmul : ∀ x y : Int, -1000000000000000000 < y → y < 1000000000000000000 → mulOk x y = true := fun x y h1 h2 => by
      unfold mulOk
      simp only [Bool.or_eq_true, Bool.and_eq_true, decide_eq_true_eq]
      exact .inr ⟨by omega, by omega⟩
    have m1 : mulOk 48271 (k + 1) = true := hmul _ _ (by omega) (by omega)
    have m2 : mulOk (s + 48271 * (k + 1)) (39373 + (k + 1)) = true := hmul _ _ (by omega) (by omega)
    have q0 : 0 ≤ (s + 48271 * (k + 1)) * (39373 + (k + 1)) := Int.mul_nonneg (by omega) (by omega)
    generalize honce : (s + 48271 * (k + 1)) * (39373 + (k + 1)) % 2147483647 = once
    have o1 : 0 ≤ once := by rw [← honce]; exact Int.emod_nonneg _ (by decide)
    have o2 : once < 2147483647 := by rw [← honce]; exact Int.emod_lt_of_pos _ (by decide)
    have w1 : 0 ≤ once % 40009 := Int.emod_nonneg _ (by decide)
    have w2 : once % 40009 < 40009 := Int.emod_lt_of_pos _ (by decide)
    have m3 : mulOk (once + (k + 1) + s / 1000003) (once % 40009 + 7) = true := hmul _ _ (by omega) (by omega)
    generalize htw : (once + (k + 1) + s / 1000003) * (once % 40009 + 7) % 2147483629 = twice
    have t1 : 0 ≤ twice := by rw [← htw]; exact Int.emod_nonneg _ (by decide)
    have m4 : mulOk twice 48271 = true := hmul _ _ (by decide) (by decide)
    refine ⟨(twice * 48271 + once) % 2147483587 / 64 % m, st.set a (.lst [.int b, .int s, .int (k + 1)]), ?_, Int.emod_nonneg _ (by omega), Int.emod_lt_of_pos _ hm, hset, .set _, cl_set hc, by simp⟩
    simp [P79.f41, i0, hpos, Rf.truthy, i2, (ls0 h).2, j0, j1, j2, blSeqB, m1, m2, honce, m3, htw, m4, hm]
    exact trim_len _ (by simp)
theorem ints_pl (l : List T) : pints (l.map fun t => PV.int (t.pl : Int)) = some (l.map fun t => (t.pl : Int)) := by
  induction l with
  | nil => rfl
  | cons x l ih => simp [pints, ih]
theorem sum_pl (l : List T) : (l.map fun t => (t.pl : Int)).sum = ((l.map T.pl).sum : Nat) := by
  induction l with
  | nil => rfl
  | cons x l ih => simp [ih]
theorem places_pv : ∀ {j : Nat} {t : T} {st : Sto}, t.ok → t.hd + 1 ≤ j → cl j 46 [pv t] st = .ok (.int t.pl) st
  | 0, t, st, _, h => by omega
  | j + 1, t, st, ho, h => by
    rw [cl, call_eq P79.f46 46 j _ rfl rfl]
    have hl := ho.len
    simp [P79.f46, pv_eq t, blSeqB]
    rw [comp_mapA (fun x => [some (.tup [.tup (t.as.map pv), .int t.gl]), none, some x]) (f := fun x => .int (x.pl : Int)) t.as 100000 [] (by omega) (fun x hx => ⟨by simp, by
      have := T.hd_lt hx
      simp [places_pv (j := j) (ho.sub hx) (by omega)]⟩)]
    have e := pl_as t
    have e2 := ints_pl t.as
    simp only [List.reverse_nil, List.nil_append, rb_ok, blSeq, e2, sum_pl, b_addI, rf_ok, fs_rt, fl_rt, trim_ok]
    congr 2
    omega
end
end W79
end
section
set_option linter.all false
set_option maxRecDepth 20000
/-! W19: drawn homes, mixed pairs, lists of lists -/
namespace W79
open PySem Rf
section
variable {st : Sto} {j a : Nat}
theorem Tin.lt {c : Nat} (h : Tin st a c) : a < st.length := by
  obtain ⟨b, s, k, e, _⟩ := h
  exact (List.getElem?_eq_some_iff.mp e).1
theorem Tin.mono {c c' : Nat} (h : Tin st a c) (hc : c ≤ c') : Tin st a c' := by
  obtain ⟨b, s, k, h1, h2, h3, h4, h5, h6⟩ := h
  exact ⟨b, s, k, h1, h2, h3, h4, h5, by omega⟩
theorem Tin.app {c : Nat} (h : Tin st a c) (m : Sto) : Tin (st ++ m) a c := by
  obtain ⟨b, s, k, h1, h2⟩ := h
  exact ⟨b, s, k, get_old m h1, h2⟩
theorem closed_mem {n : Nat} {s : Sto} : Sto.closed n s = true ↔ ∀ o ∈ s, MO.under n o = true := by
  unfold Sto.closed
  rw [List.all_eq_true]
/-- what is changed within is the source alone -/
theorem trim_fr {W : Sto} {c : Nat} {v : PV} (hc : Cl st) (ha : a < st.length) (f : Fr a st W) (t : Tin W a c) (hv : PV.under st.length v = true) :
    ∃ st', R.trim st.length (.ok v W) = .ok v st' ∧ st'.length = st.length ∧ Fr a st st' ∧ Tin st' a c ∧ Cl st' := by
  have hmem : ∀ o ∈ W.take st.length, MO.under st.length o = true := fun o ho => by
    obtain ⟨i, hi, e⟩ := List.getElem_of_mem ho
    rw [List.length_take] at hi
    rw [List.getElem_take] at e
    have e1 : W[i]? = some o := by rw [List.getElem?_eq_getElem (by omega), e]
    by_cases hia : i = a
    · subst hia
      obtain ⟨b, s, k, h1, _⟩ := t
      rw [h1] at e1
      cases e1
      rfl
    · rw [f.old i hia (by omega)] at e1
      exact closed_mem.mp hc o (List.mem_of_getElem? e1)
  have hlen : (W.take st.length).length = st.length := by rw [List.length_take]; have := f.len; omega
  have hget : ∀ i, i < st.length → (W.take st.length)[i]? = W[i]? := fun i hi => by rw [List.getElem?_take_of_lt hi]
  have hfr : Fr a st (W.take st.length) := ⟨by omega, fun i hi hl => by rw [hget i hl, f.old i hi hl]⟩
  have htin : Tin (W.take st.length) a c := by
    obtain ⟨b, s, k, h1, h2⟩ := t
    exact ⟨b, s, k, by rw [hget a ha]; exact h1, h2⟩
  have hcl : Cl (W.take st.length) := by
    show Sto.closed _ _ = true
    rw [hlen]
    exact closed_mem.mpr hmem
  refine ⟨W.take st.length, ?_, hlen, hfr, htin, hcl⟩
  unfold R.trim
  dsimp only
  split
  · rename_i h
    have := Nat.eq_of_beq_eq_true h
    rw [List.take_of_length_le (by omega)]
  · have : Sto.closed st.length (W.take st.length) = true := closed_mem.mpr hmem
    simp [hv, this]
theorem w_rng_ok {V : Ev} {a : Ex} {σ : Rf.Loc} {st st1 : Sto} {k : Nat} (h : V.e a σ st = .ok (.int k) st1) (hk : k < 1000000) : stepW V (.rng1 a) σ st = .ok (.rng 0 k) st1 := by
  have h62 : -(2 ^ 62) ≤ (k : Int) ∧ (k : Int) < 2 ^ 62 := by
    have e : (2 : Int) ^ 62 = 4611686018427387904 := by decide
    rw [e]
    omega
  rw [w_rng, h]
  generalize (-(2 ^ 62) : Int) = lo at h62 ⊢
  generalize ((2 ^ 62) : Int) = hi at h62 ⊢
  rw [rb_ok]
  dsimp only
  rw [if_pos h62]
  rfl
/-- draws for a home of at most so many places -/
def dr : Nat → Nat
  | 0 => 2
  | m + 1 => 2 + 3 * (1 + dr m)
theorem dr_mono : ∀ {m n : Nat}, m ≤ n → dr m ≤ dr n := by
  intro m n h
  induction h with
  | refl => exact Nat.le_refl _
  | step _ ih => simp only [dr]; omega
theorem pls_app (L : List T) (t : T) : ((L ++ [t]).map T.pl).sum = (L.map T.pl).sum + t.pl := by simp
theorem bd_pl (L : List T) (e : T) : (T.bd L e).pl = (L.map T.pl).sum + e.pl := by
  induction L with
  | nil => simp
  | cons x L ih => simp [ih]; omega
theorem small_ok {t : T} (h : t.pl ≤ 4) : t.ok := ⟨by have := T.hd_pl t; omega, by omega⟩
theorem home_pv {ends : Nat} (he : 0 < ends) (he2 : ends < 1000000) : ∀ (much : Nat) {j c : Nat} {st : Sto}, Tin st a c → Cl st → 1 ≤ much → much ≤ 4 → c + 1000 * much < 1000000 → much + 6 ≤ j →
    ∃ t st', cl j 45 [.obj a, .int much, .int ends] st = .ok (pv t) st' ∧ t.pl ≤ much ∧ t.atl ends ∧ Tin st' a (c + dr much) ∧ Fr a st st' ∧ Cl st' ∧ st'.length = st.length := by
  intro much
  induction much using Nat.strongRecOn with
  | ind much IH =>
  intro j c st ht hc h1 h4 hcc hj
  obtain ⟨j, rfl⟩ : ∃ i, j = i + 1 := ⟨j - 1, by omega⟩
  obtain ⟨j, rfl⟩ : ∃ i, j = i + 1 := ⟨j - 1, by omega⟩
  have ha := ht.lt
  have hdr : dr much = 2 + 3 * (1 + dr (much - 1)) := by
    obtain ⟨m, rfl⟩ : ∃ m, much = m + 1 := ⟨much - 1, by omega⟩
    rfl
  have hdr5 : dr much ≤ dr 4 := dr_mono h4
  have hdr4 : dr 4 = 362 := rfl
  rw [cl, call_eq P79.f45 45 _ _ rfl rfl]
  -- the loop
  have loop : ∀ (r m : Nat) (lo : Int) (W : Sto) (L : List T) (left : Nat) (c1 : Nat) (x5 x6 : Option PV), r ≤ 3 → r < m → Tin W a c1 → Cl W → Fr a st W → W.length = st.length + 1 → W[st.length]? = some (.lst (L.map pv)) → (L.map T.pl).sum + left + 1 ≤ much → (∀ t ∈ L, t.atl ends) → c1 + r * (1 + dr (much - 1)) ≤ c + dr much →
      ∃ (W' : Sto) (L' : List T) (left' : Nat) (y5 y6 : Option PV), forGo (evN P79.pg (cl (j + 1)) 100000 199) (.name 5) [(.ife (.cmp .gt (.var 4) (.lit (.int (0)))) [(.asg (.name 6) (.call 45 [(.var 0), (.bin .add (.lit (.int (1))) (.call 41 [(.var 0), (.var 4)])), (.var 2)])), (.ex (.bm (.var 3) .append [(.var 6)])), (.asg (.name 4) (.bin .sub (.var 4) (.call 46 [(.var 6)])))] [])] m (.rng lo r)
        [some (.obj a), some (.int much), some (.int ends), some (.obj st.length), some (.int left), x5, x6] W = .nx [some (.obj a), some (.int much), some (.int ends), some (.obj st.length), some (.int left'), y5, y6] W' ∧
        Tin W' a (c1 + r * (1 + dr (much - 1))) ∧ Cl W' ∧ Fr a st W' ∧ W'.length = st.length + 1 ∧ W'[st.length]? = some (.lst (L'.map pv)) ∧ (L'.map T.pl).sum + 1 ≤ much ∧ (∀ t ∈ L', t.atl ends) := by
    intro r
    induction r with
    | zero =>
      intro m lo W L left c1 x5 x6 _ hm t1 t2 t3 t4 t5 t6 t7 _
      obtain ⟨m, rfl⟩ : ∃ x, m = x + 1 := ⟨m - 1, by omega⟩
      exact ⟨W, L, left, x5, x6, by simp [forGo, Wk.next], by simpa using t1, t2, t3, t4, t5, by omega, t7⟩
    | succ r ih =>
      intro m lo W L left c1 x5 x6 hr hm t1 t2 t3 t4 t5 t6 t7 t8
      obtain ⟨m, rfl⟩ : ∃ x, m = x + 1 := ⟨m - 1, by omega⟩
      have hmul : (r + 1) * (1 + dr (much - 1)) = r * (1 + dr (much - 1)) + (1 + dr (much - 1)) := Nat.succ_mul ..
      by_cases hl : left = 0
      · subst hl
        obtain ⟨W', L', left', y5, y6, e, s1, s2⟩ := ih m (lo + 1) W L 0 c1 (some (.int lo)) x6 (by omega) (by omega) t1 t2 t3 t4 t5 t6 t7 (by omega)
        refine ⟨W', L', left', y5, y6, ?_, s1.mono (by omega), s2⟩
        rw [← e]
        simp [forGo, Wk.next, Rf.truthy]
      · -- one home more
        obtain ⟨v, W1, e1, v1, v2, u1, u2, u3, u4⟩ := take_pv (j := j) (m := left) t1 (by omega) (by omega) (by omega) t2
        obtain ⟨vn, rfl⟩ : ∃ vn : Nat, v = vn := ⟨v.toNat, by omega⟩
        obtain ⟨t, W2, e2, p1, p2, p3, p4, p5, p6⟩ := IH (1 + vn) (by omega) (j := j + 1) u1 u3 (by omega) (by omega) (by omega) (by omega)
        have hto : t.ok := small_ok (by omega)
        have hst : st.length ≠ a := by omega
        have t5a := u2.get hst t5
        have t5b := p4.get hst t5a
        have e3 := places_pv (j := j + 1) (t := t) (st := W2.set st.length (.lst ((L ++ [t]).map pv))) hto (by have := T.hd_pl t; omega)
        have hdm : dr (1 + vn) ≤ dr (much - 1) := dr_mono (by omega)
        have hLl : L.length ≤ (L.map T.pl).sum := by
          clear t5 t6 t7 t5a t5b e3 ih
          induction L with
          | nil => simp
          | cons x L ihL => have := T.pl_pos x; simp; omega
        have hLb : (L.map pv).length < big := by rw [List.length_map]; unfold big; omega
        have e4 : bmTy .append (.obj st.length) W2 = true := by simp [bmTy, t5b]
        have e5 : bmOf .append (.obj st.length) [pv t] W2 = .ok .non (W2.set st.length (.lst ((L ++ [t]).map pv))) := by
          simp only [bmOf, appR, t5b, hLb, if_true, List.map_append, List.map_cons, List.map_nil]
        have hW2 : st.length < W2.length := (List.getElem?_eq_some_iff.mp t5b).1
        have hsum := pls_app L t
        have tin3 : Tin (W2.set st.length (.lst ((L ++ [t]).map pv))) a (c1 + (1 + dr (much - 1))) := by
          obtain ⟨b, s, k, k1, k2, k3, k4, k5, k6⟩ := p3
          exact ⟨b, s, k, by rw [List.getElem?_set_ne hst]; exact k1, k2, k3, k4, k5, by omega⟩
        have cl3 : Cl (W2.set st.length (.lst ((L ++ [t]).map pv))) := by
          show Sto.closed _ _ = true
          rw [List.length_set]
          refine closed_mem.mpr fun o ho => ?_
          rcases List.mem_or_eq_of_mem_set ho with h | rfl
          · exact closed_mem.mp p5 o h
          · simp only [MO.under]
            exact unders_of fun x hx => by obtain ⟨z, _, rfl⟩ := List.mem_map.mp hx; exact under_pv _ _
        have fr3 : Fr a st (W2.set st.length (.lst ((L ++ [t]).map pv))) := by
          have := (t3.tr u2).tr p4
          exact ⟨by rw [List.length_set]; exact this.len, fun i hi hl => by rw [List.getElem?_set_ne (by omega)]; exact this.old i hi hl⟩
        obtain ⟨lf, hlf⟩ : ∃ lf : Nat, lf = left - t.pl := ⟨_, rfl⟩
        have hsub : ((left : Int) - (t.pl : Int)) = (lf : Int) := by omega
        obtain ⟨W', L', left', y5, y6, e, s1, s2⟩ := ih m (lo + 1) (W2.set st.length (.lst ((L ++ [t]).map pv))) (L ++ [t]) lf (c1 + (1 + dr (much - 1))) (some (.int lo)) (some (pv t)) (by omega) (by omega) tin3 cl3 fr3 (by rw [List.length_set]; omega) (get_set _ t5b) (by omega) (fun z hz => by
          rcases List.mem_append.mp hz with hz | hz
          · exact t7 z hz
          · simp at hz; subst hz; exact p2) (by omega)
        refine ⟨W', L', left', y5, y6, ?_, s1.mono (by omega), s2⟩
        rw [← e]
        have hleft : 0 < left := by omega
        simp only [List.map_append, List.map_cons, List.map_nil] at e3 e5
        have hadd : ((1 : Int) + (vn : Int)) = ((1 + vn : Nat) : Int) := by omega
        rw [← hadd] at e2
        simp only [forGo, Wk.next, ev_t, t_name, rf_ok, List.set_cons_succ, List.set_cons_zero]
        simp [Rf.truthy, hleft, e1, e2, e4, e5, e3, hsub]
  -- the rest
  have hst : st.length ≠ a := by omega
  have c0 : Cl (st ++ [.lst []]) := closed_app hc fun o ho n => by simp at ho; subst ho; rfl
  have t0 : Tin (st ++ [.lst []]) a c := ht.app _
  have g0 : (st ++ [MO.lst []])[st.length]? = some (.lst (([] : List T).map pv)) := by simp
  have first : ∃ (k : Nat) (W1 : Sto), k ≤ 3 ∧ (evN P79.pg (cl (j + 1)) 100000 199).e (.ife (.cmp .gt (.var 4) (.lit (.int (0)))) (.call 41 [(.var 0), (.lit (.int (4)))]) (.lit (.int (0)))) [some (.obj a), some (.int much), some (.int ends), some (.obj st.length), some (.int ((much - 1 : Nat) : Int)), none, none] (st ++ [.lst []]) = .ok (.int k) W1 ∧
      Tin W1 a (c + 1) ∧ Cl W1 ∧ Fr a (st ++ [.lst []]) W1 ∧ W1.length = st.length + 1 := by
    by_cases h : much = 1
    · subst h
      exact ⟨0, st ++ [.lst []], by omega, by simp [Rf.truthy], t0.mono (by omega), c0, .rfl', by simp⟩
    · obtain ⟨v, W1, e1, v1, v2, u1, u2, u3, u4⟩ := take_pv (j := j) (m := 4) t0 (by omega) (by omega) (by omega) c0
      obtain ⟨vn, rfl⟩ : ∃ vn : Nat, v = vn := ⟨v.toNat, by omega⟩
      have hp : (0 : Int) < ((much - 1 : Nat) : Int) := by omega
      exact ⟨vn, W1, by omega, by simp only [ev_e, e_ife, t_st, e_cmp, e_var, List.getElem?_cons_succ, List.getElem?_cons_zero, rb_ok, e_lit, cp_gt, o_some, hp, decide_true, Rf.truthy, e_call, s_cons, s_nil, e1], u1, u3, u2, by simpa using u4⟩
  obtain ⟨k, W1, k3, e1, u1, u3, u2, u4⟩ := first
  obtain ⟨W2, L, left', y5, y6, e2, s1, s2, s3, s4, s5, s6, s7⟩ := loop k 100000 0 W1 [] (much - 1) (c + 1) none none k3 (by omega) u1 u3 ((Fr.app _).tr u2) u4 (u2.get hst g0) (by simp; omega) (by simp) (by
    have : k * (1 + dr (much - 1)) ≤ 3 * (1 + dr (much - 1)) := Nat.mul_le_mul_right _ k3
    omega)
  have hk3 : k * (1 + dr (much - 1)) ≤ 3 * (1 + dr (much - 1)) := Nat.mul_le_mul_right _ k3
  obtain ⟨v, W3, e3, v1, v2, x1, x2, x3, x4⟩ := take_pv (j := j) (m := ends) (s1.mono (show _ ≤ c + 1 + 3 * (1 + dr (much - 1)) by omega)) (by omega) (by omega) (by omega) s2
  obtain ⟨vn, rfl⟩ : ∃ vn : Nat, v = vn := ⟨v.toNat, by omega⟩
  have hpv : PV.tup [.tup (L.map pv), .int vn] = pv (.bd L (.v vn)) := pv_mk L vn
  obtain ⟨st', f1, f2, f3, f4, f5⟩ := trim_fr (c := c + dr much) (v := pv (.bd L (.v vn))) hc ha (s3.tr x2) (x1.mono (by omega)) (under_pv _ _)
  refine ⟨.bd L (.v vn), st', ?_, by rw [bd_pl]; simp; omega, fun n hn => ?_, f4, f3, f5, f2⟩
  · have hbody : P79.f45.body = [(.asg (.tup [(.name 3), (.name 4)]) (.tup [(.lst []), (.bin .sub (.var 1) (.lit (.int (1))))])), (.for_ (.name 5) (.rng1 (.ife (.cmp .gt (.var 4) (.lit (.int (0)))) (.call 41 [(.var 0), (.lit (.int (4)))]) (.lit (.int (0))))) [(.ife (.cmp .gt (.var 4) (.lit (.int (0)))) [(.asg (.name 6) (.call 45 [(.var 0), (.bin .add (.lit (.int (1))) (.call 41 [(.var 0), (.var 4)])), (.var 2)])), (.ex (.bm (.var 3) .append [(.var 6)])), (.asg (.name 4) (.bin .sub (.var 4) (.call 46 [(.var 6)])))] [])]), (.ret (some (.tup [(.bl .tuple [(.var 3)]), (.call 41 [(.var 0), (.var 2)])])))] := rfl
    have hs0 : P79.f45.slots - P79.f45.arity = 4 := rfl
    have hm1 : ((much : Int) - 1) = ((much - 1 : Nat) : Int) := by omega
    have htp : blOf .tuple [.obj st.length] W2 = .ok (.tup (L.map pv)) W2 := by simp [blOf, s5, blSeq]
    rw [hbody, hs0]
    simp only [ev_s, ss_cons, List.map_cons, List.map_nil, List.cons_append, List.nil_append, List.replicate_succ, List.replicate_zero, s_asg, ev_e, e_tup, s_cons, s_nil, e_lst, rb_ok, List.length_nil, big_0, if_true, e_bin, e_var, List.getElem?_cons_succ, List.getElem?_cons_zero, e_lit, b_subI, hm1, List.length_cons, Nat.zero_add, Nat.reduceAdd, big_2, rf_ok, ev_t, t_tup, ba_cons, ba_nil, t_name, nx_ok, List.set_cons_succ, List.set_cons_zero, fs_nx]
    rw [s_for _ _ _ (lock_rng _)]
    rw [w_rng_ok e1 (by omega)]
    rw [rf_ok]
    rw [e2]
    simp [blSeqB, htp, e3]
    rw [hpv]
    exact f1
  · rw [T.row_bd] at hn
    simp only [List.mem_append, List.mem_flatMap, T.row_v, List.mem_singleton] at hn
    rcases hn with ⟨t, h1, h2⟩ | rfl
    · exact s7 t h1 n h2
    · omega
end
end W79
end
section
set_option linter.all false
set_option maxRecDepth 20000
/-! W20: where draws come from -/
namespace W79
open PySem Rf
section
variable {j : Nat}
theorem trim_obj {n k : Nat} {W : Sto} (h : n ≤ k) : R.trim n (.ok (.obj k) W) = .ok (.obj k) W := by
  have hu : PV.under n (.obj k) = false := by
    simp only [PV.under]
    exact Bool.eq_false_iff.mpr fun h => by rw [Nat.blt_eq] at h; omega
  simp only [R.trim, hu, Bool.false_and, Bool.false_eq_true, if_false]
  split <;> rfl
theorem pow18 (st : Sto) : binop .pow (.int 10) (.int 18) st = .ok (.int (10 ^ 18)) st := by
  show (if 0 ≤ (18 : Int) ∧ (18 : Int) ≤ 1000000 ∧ (10 : Int).natAbs < 2 ^ 64 then R.ok (PV.int (10 ^ (18 : Int).toNat)) st else R.stuck) = _
  rw [if_pos (by decide)]
  rfl
@[simp] theorem bl_abs (i : Int) (st : Sto) : blOf .abs [.int i] st = .ok (.int (if i < 0 then -i else i)) st := rfl
@[simp] theorem bl_intb (b : Bool) (st : Sto) : blOf .int [.bl b] st = .ok (.int (if b then 1 else 0)) st := rfl
theorem box_pv {st : Sto} {c : Nat} {x : Int} (h : st[c]? = some (.lst [.int x])) (hc : Cl st) : ∃ a st', cl (j + 1) 40 [.obj c, .int 0] st = .ok (.obj a) st' ∧ Tin st' a 0 ∧ Cl st' := by
  rw [cl, call_eq P79.f40 40 _ _ rfl rfl]
  have hlen : blOf .len [.obj c] st = .ok (.int 1) st := by simp [blOf, h, blSeq]
  have hit : item (.obj c) (.int 0) st = some (.int x) := by simp [item, h, atI, ixOf]
  generalize hab : (if x < 0 then -x else x) = ab
  have hab0 : 0 ≤ ab := by rw [← hab]; split <;> omega
  generalize hfl : (if (decide ((10 : Int) ^ 18 ≤ ab)) = true then (1 : Int) else 0) = fl
  have hfl0 : 0 ≤ fl ∧ fl ≤ 1 := by rw [← hfl]; split <;> omega
  have m1 : mulOk ab fl = true := by
    unfold mulOk
    simp only [Bool.or_eq_true, Bool.and_eq_true, decide_eq_true_eq]
    exact .inr ⟨by omega, by omega⟩
  have m2 : mulOk 39373 0 = true := by decide
  have s1 : 0 ≤ x % 2305843009213693951 := Int.emod_nonneg _ (by decide)
  have s2 : x % 2305843009213693951 < 2305843009213693951 := Int.emod_lt_of_pos _ (by decide)
  have hp : (0 : Int) < 2305843009213693951 := by decide
  refine ⟨st.length, st ++ [.lst [.int (ab * fl), .int (x % 2305843009213693951 + 39373 * 0 + 26543), .int 0]], ?_, ⟨ab * fl, x % 2305843009213693951 + 39373 * 0 + 26543, 0, by simp, Int.mul_nonneg hab0 hfl0.1, by omega, by
    have e : (2 : Int) ^ 62 = 4611686018427387904 := by decide
    rw [e]; omega, by omega, by omega⟩, ?_⟩
  · have e1 : P79.f40.body = [(.asg (.name 2) (.ife (.cmp .lt (.var 1) (.bl .len [(.var 0)])) (.ix (.var 0) (.var 1)) (.lit (.int (0))))), (.ret (some (.lst [(.bin .mul (.bl .abs [(.var 2)]) (.bl .int [(.cmp .ge (.bl .abs [(.var 2)]) (.bin .pow (.lit (.int (10))) (.lit (.int (18)))))])), (.bin .add (.bin .add (.bin .mod (.bl .int [(.var 2)]) (.lit (.int (2305843009213693951)))) (.bin .mul (.lit (.int (39373))) (.var 1))) (.lit (.int (26543)))), (.lit (.int (0)))])))] := rfl
    have hs0 : P79.f40.slots - P79.f40.arity = 1 := rfl
    rw [e1, hs0]
    simp only [ev_s, ss_cons, ss_nil, List.map_cons, List.map_nil, List.cons_append, List.nil_append, List.replicate_succ, List.replicate_zero, s_asg, s_ret, ev_e, e_ife, t_st, e_cmp, e_var, e_bl1, n_var, n_cmp, n_ix, Bool.false_and, Bool.false_eq_true, if_false, hlen, List.getElem?_cons_succ, List.getElem?_cons_zero, rb_ok, cp_lt, o_some, Rf.truthy, e_ix, hit, rf_ok, ev_t, t_name, List.set_cons_succ, List.set_cons_zero, fs_nx, e_lst, s_cons, s_nil, e_bin, bl_abs, hab, e_lit, pow18, cp_ge, bl_intb, hfl, b_mulI, m1, if_true, bl_int, b_modI, hp, m2, b_addI, List.length_cons, List.length_nil, Nat.zero_add, Nat.reduceAdd, big_3]
    have hd : decide ((0 : Int) < 1) = true := by decide
    rw [hd]
    simp only [List.getElem?_cons_succ, List.getElem?_cons_zero, s_ret, ev_e, e_var, hit, o_some, rf_ok, ev_t, t_name, List.set_cons_succ, List.set_cons_zero, fs_nx, rb_ok, e_lst, s_cons, s_nil, e_bin, bl_abs, hab, e_lit, pow18, cp_ge, bl_intb, hfl, b_mulI, m1, if_true, bl_int, b_modI, hp, m2, b_addI, List.length_cons, List.length_nil, Nat.zero_add, Nat.reduceAdd, big_3, fs_rt, fl_rt]
    exact trim_obj (Nat.le_refl _)
  · exact closed_app hc fun o ho n => by simp at ho; subst ho; rfl
/-- the loop over the later numbers -/
theorem cells_for {V : Ev} {st0 : Sto} {ns : List Int} {c e : Nat} {a0 : Option PV} (hce : c ≠ e)
    (hV : ∀ (k : Nat) (cell x : Int) (st : Sto) (y3 y4 y5 : Option PV), st[c]? = some (.lst [.int x]) → k < 100 → ∃ σ1 x' z5, V.t (.tup [(.name 3), (.name 4)]) (.tup [.int k, .int cell]) [a0, some (.int 1), some (.obj c), y3, y4, y5] st = .ok σ1 st ∧
      V.s [(.asg (.name 5) (.bin .mod (.bl .int [(.var 3)]) (.var 1))), (.asg (.sub (.var 2) (.var 5)) (.bin .add (.ix (.var 2) (.var 5)) (.bin .mul (.var 4) (.bin .add (.var 3) (.lit (.int (2)))))))] σ1 st = .nx [a0, some (.int 1), some (.obj c), some (.int k), some (.int cell), z5] (st.set c (.lst [.int x']))) :
    ∀ (r : List Int) (i m : Nat) (x : Int) (st : Sto) (y3 y4 y5 : Option PV), ns.drop i = r → st[e]? = some (.lst (ns.map .int)) → st[c]? = some (.lst [.int x]) → Cl st → ns.length < 100 → r.length < m → ∃ x' st' z3 z4 z5, forGo V (.tup [(.name 3), (.name 4)]) [(.asg (.name 5) (.bin .mod (.bl .int [(.var 3)]) (.var 1))), (.asg (.sub (.var 2) (.var 5)) (.bin .add (.ix (.var 2) (.var 5)) (.bin .mul (.var 4) (.bin .add (.var 3) (.lit (.int (2)))))))] m (.enum i (.live e i)) [a0, some (.int 1), some (.obj c), y3, y4, y5] st =
      .nx [a0, some (.int 1), some (.obj c), z3, z4, z5] st' ∧ st'[c]? = some (.lst [.int x']) ∧ Cl st' := by
  intro r
  induction r with
  | nil =>
    intro i m x st y3 y4 y5 hr he hc hcl _ hm
    obtain ⟨m, rfl⟩ : ∃ x, m = x + 1 := ⟨m - 1, by simp at hm; omega⟩
    have e1 : (ns.map PV.int)[i]? = none := by simp; exact List.drop_eq_nil_iff.mp hr
    exact ⟨x, st, y3, y4, y5, by simp [forGo, Wk.next, Sr.next, he, e1], hc, hcl⟩
  | cons n r ih =>
    intro i m x st y3 y4 y5 hr he hc hcl hl hm
    obtain ⟨m, rfl⟩ : ∃ x, m = x + 1 := ⟨m - 1, by omega⟩
    have hx : ns[i]? = some n := by rw [← List.head?_drop, hr]; rfl
    have e1 : (ns.map PV.int)[i]? = some (.int n) := by rw [List.getElem?_map, hx]; rfl
    have hd : ns.drop (i + 1) = r := by rw [← List.drop_drop, hr]; rfl
    have hi : i < ns.length := (List.getElem?_eq_some_iff.mp hx).1
    obtain ⟨σ1, x', z5, h1, h2⟩ := hV i n x st y3 y4 y5 hc (by omega)
    have hcl2 : Cl (st.set c (.lst [.int x'])) := by
      show Sto.closed _ _ = true
      rw [List.length_set]
      refine closed_mem.mpr fun o ho => ?_
      rcases List.mem_or_eq_of_mem_set ho with h | rfl
      · exact closed_mem.mp hcl o h
      · rfl
    obtain ⟨x2, st2, z3, z4, z52, e2, e3, e4⟩ := ih (i + 1) m x' (st.set c (.lst [.int x'])) (some (.int i)) (some (.int n)) z5 hd (by rw [List.getElem?_set_ne hce]; exact he) (get_set _ hc) hcl2 hl (by simpa using hm)
    refine ⟨x2, st2, z3, z4, z52, ?_, e3, e4⟩
    rw [← e2]
    simp only [forGo, Wk.next, Sr.next, he, e1, h1, rf_ok, h2]
theorem cells_pv {ns : List Int} (hl : ns.length ≤ 63) : ∃ c st' x, cl (j + 1) 42 [.rol (ns.map .int), .int 1] [] = .ok (.obj c) st' ∧ st'[c]? = some (.lst [.int x]) ∧ Cl st' := by
  rw [cl, call_eq P79.f42 42 _ _ rfl rfl]
  have hbody : P79.f42.body = [(.asg (.name 2) (.or (.bl .list [(.slice (.var 0) none (some (.var 1)))]) (.lst [(.lit (.int (0)))]))), (.for_ (.tup [(.name 3), (.name 4)]) (.enum (.slice (.var 0) (some (.var 1)) (some (.lit (.int (63)))))) [(.asg (.name 5) (.bin .mod (.bl .int [(.var 3)]) (.var 1))), (.asg (.sub (.var 2) (.var 5)) (.bin .add (.ix (.var 2) (.var 5)) (.bin .mul (.var 4) (.bin .add (.var 3) (.lit (.int (2)))))))]), (.ret (some (.var 2)))] := rfl
  have hs0 : P79.f42.slots - P79.f42.arity = 4 := rfl
  rw [hbody, hs0]
  -- the first one
  have first : ∃ c st1 x, (evN P79.pg (callN P79.pg 100000 200 j) 100000 199).e (.or (.bl .list [(.slice (.var 0) none (some (.var 1)))]) (.lst [(.lit (.int (0)))])) [some (.rol (ns.map .int)), some (.int 1), none, none, none, none] [] = .ok (.obj c) st1 ∧ st1[c]? = some (.lst [.int x]) ∧ Cl st1 ∧ 1 ≤ c ∧ c < st1.length := by
    have hcut : cut (ns.map PV.int) none (some 1) = (ns.map PV.int).take 1 := cut_take _ 1
    cases ns with
    | nil => exact ⟨2, [.lst [], .lst [], .lst [.int 0]], 0, by simp [blSeqB, sliceOf, newO, blOf, blSeq, hcut, Rf.truthy, cut, clamp], rfl, rfl, by omega, by simp⟩
    | cons n ns => exact ⟨1, [.lst [.int n], .lst [.int n]], n, by simp [blSeqB, sliceOf, newO, blOf, blSeq, cut, clamp, Rf.truthy], rfl, rfl, by omega, by simp⟩
  obtain ⟨c, st1, x, e1, e2, e3, e4, e5⟩ := first
  let ms : List Int := cut ns (some 1) (some 63)
  have hcutm : cut (ns.map PV.int) (some 1) (some 63) = ms.map .int := by
    simp [ms, cut, clamp]
  have hms : ms.length < 100 := by
    have : ms.length ≤ ns.length := by simp only [ms, cut]; rw [List.length_take, List.length_drop]; omega
    omega
  have hc2 : Cl (st1 ++ [.lst (ms.map .int)]) := closed_app e3 fun o ho n => by
    simp at ho; subst ho
    simp only [MO.under]
    exact unders_of fun x hx => by obtain ⟨k, _, rfl⟩ := List.mem_map.mp hx; rfl
  obtain ⟨x', st', z3, z4, z5, e6, e7, e8⟩ := cells_for (V := evN P79.pg (callN P79.pg 100000 200 j) 100000 199) (st0 := []) (ns := ms) (c := c) (e := st1.length) (a0 := some (.rol (ns.map .int))) (by omega) (fun k cell x st y3 y4 y5 h hk => by
      have hz : (k : Int) % 1 = 0 := by omega
      have m1 : mulOk cell ((k : Int) + 2) = true := by
        unfold mulOk
        simp only [Bool.or_eq_true, Bool.and_eq_true, decide_eq_true_eq]
        exact .inr ⟨by omega, by omega⟩
      have hit : item (.obj c) (.int 0) st = some (.int x) := by simp [item, h, atI, ixOf]
      have hse : ∀ v, Rf.setItem (.obj c) (.int 0) v st = some (st.set c (.lst [v])) := fun v => by simp [Rf.setItem, h, ixOf]
      exact ⟨_, x + cell * (k + 2), some (.int 0), by simp; rfl, by simp [blSeqB, hz, hit, m1, hse]⟩) ms 0 100000 x (st1 ++ [.lst (ms.map .int)]) none none none rfl (by simp) (get_old _ e2) hc2 hms (by omega)
  refine ⟨c, st', x', ?_, e7, e8⟩
  simp only [ev_s, ss_cons, ss_nil, List.map_cons, List.map_nil, List.cons_append, List.nil_append, List.replicate_succ, List.replicate_zero, s_asg]
  rw [e1]
  simp only [rf_ok, ev_t, t_name, List.set_cons_succ, List.set_cons_zero, fs_nx]
  rw [s_for _ _ _ (lock_enum _)]
  have hsl : stepW (evN P79.pg (callN P79.pg 100000 200 j) 100000 199) (.enum (.slice (.var 0) (some (.var 1)) (some (.lit (.int (63)))))) [some (.rol (ns.map .int)), some (.int 1), some (.obj c), none, none, none] st1 = .ok (.enum 0 (.live st1.length 0)) (st1 ++ [.lst (ms.map .int)]) := by
    simp [sliceOf, newO, hcutm]
  rw [hsl, rf_ok, e6]
  simp only [fs_nx, s_ret, ev_e, e_var, List.getElem?_cons_succ, List.getElem?_cons_zero, rf_ok, fs_rt, fl_rt]
  exact trim_obj (Nat.zero_le _)
end
end W79
end
section
set_option linter.all false
set_option maxRecDepth 20000
/-! W21: mixed pairs, lists of lists, what is heard -/
namespace W79
open PySem Rf
section
variable {st : Sto} {j a : Nat}
theorem under_pps (n : Nat) (l : List (T × T)) : MO.under n (.lst (l.map pp)) = true := by
  simp only [MO.under]
  exact unders_of fun x hx => by
    obtain ⟨q, _, rfl⟩ := List.mem_map.mp hx
    simp [pp, PV.under, PV.unders, under_pv]
theorem cl_setL {k : Nat} {l : List (T × T)} (hc : Cl st) : Cl (st.set k (.lst (l.map pp))) := by
  show Sto.closed _ _ = true
  rw [List.length_set]
  refine closed_mem.mpr fun o ho => ?_
  rcases List.mem_or_eq_of_mem_set ho with h | rfl
  · exact closed_mem.mp hc o h
  · exact under_pps _ _
theorem Tin.setO {c k : Nat} {o : MO} (h : Tin st a c) (hk : k ≠ a) : Tin (st.set k o) a c := by
  obtain ⟨b, s, m, h1, h2⟩ := h
  exact ⟨b, s, m, by rw [List.getElem?_set_ne hk]; exact h1, h2⟩
theorem Fr.setO {st0 : Sto} {k : Nat} {o : MO} (h : Fr a st0 st) (hk : st0.length ≤ k) : Fr a st0 (st.set k o) :=
  ⟨by rw [List.length_set]; exact h.len, fun i hi hl => by rw [List.getElem?_set_ne (by omega)]; exact h.old i hi hl⟩
theorem perm_at {α : Type} (l : List α) (i : Nat) (h : i < l.length) : (l[i] :: l.eraseIdx i).Perm l := by
  induction l generalizing i with
  | nil => simp at h
  | cons x l ih =>
    cases i with
    | zero => exact List.Perm.refl _
    | succ i =>
      have hi : i < l.length := by simpa using h
      have := ih i hi
      simp only [List.getElem_cons_succ, List.eraseIdx_cons_succ]
      exact (List.Perm.swap x l[i] (l.eraseIdx i)).trans (this.cons x)
theorem map_erase {α β : Type} (f : α → β) : ∀ (l : List α) (i : Nat), (l.map f).eraseIdx i = (l.eraseIdx i).map f
  | [], i => by simp
  | x :: l, 0 => rfl
  | x :: l, i + 1 => by simp [map_erase f l i]
theorem pick_pv {c g : Nat} {ps : List (T × T)} (ht : Tin st a c) (hc : Cl st) (hg : st[g]? = some (.lst (ps.map pp))) (hl : ps.length < 1000) (hcc : c + 2000 < 1000000) :
    ∃ (k : Nat) (ps' : List (T × T)) (st' : Sto), cl (j + 2) 43 [.obj a, .obj g, .int ps.length] st = .ok (.obj k) st' ∧ ps'.Perm ps ∧ st'[k]? = some (.lst (ps'.map pp)) ∧ Tin st' a (c + ps.length) ∧ Fr a st st' ∧ Cl st' ∧ st.length ≤ k := by
  have ha := ht.lt
  rw [cl, call_eq P79.f43 43 _ _ rfl rfl]
  have loop : ∀ (r m : Nat) (lo : Int) (W : Sto) (F P : List (T × T)) (c1 : Nat) (x5 : Option PV), P.length = r → r < m → Tin W a c1 → Cl W → Fr a st W → W[st.length]? = some (.lst (P.map pp)) → W[st.length + 1]? = some (.lst (F.map pp)) → (F ++ P).Perm ps → c1 + r ≤ c + ps.length →
      ∃ (W' : Sto) (F' : List (T × T)) (y5 : Option PV), forGo (evN P79.pg (callN P79.pg 100000 200 (j + 1)) 100000 199) (.name 5) [(.ex (.bm (.var 4) .append [(.bm (.var 3) .popAt [(.call 41 [(.var 0), (.bl .len [(.var 3)])])])]))] m (.rng lo r) [some (.obj a), some (.obj g), some (.int ps.length), some (.obj st.length), some (.obj (st.length + 1)), x5] W =
        .nx [some (.obj a), some (.obj g), some (.int ps.length), some (.obj st.length), some (.obj (st.length + 1)), y5] W' ∧ Tin W' a (c1 + r) ∧ Cl W' ∧ Fr a st W' ∧ W'[st.length + 1]? = some (.lst (F'.map pp)) ∧ F'.Perm ps := by
    intro r
    induction r with
    | zero =>
      intro m lo W F P c1 x5 hP hm t1 t2 t3 t4 t5 t6 t7
      obtain ⟨m, rfl⟩ : ∃ x, m = x + 1 := ⟨m - 1, by omega⟩
      have := List.eq_nil_of_length_eq_zero hP
      subst this
      exact ⟨W, F, x5, by simp [forGo, Wk.next], t1, t2, t3, t5, by simpa using t6⟩
    | succ r ih =>
      intro m lo W F P c1 x5 hP hm t1 t2 t3 t4 t5 t6 t7
      obtain ⟨m, rfl⟩ : ∃ x, m = x + 1 := ⟨m - 1, by omega⟩
      have hPl : P.length < 1000 := by
        have := t6.length_eq
        simp only [List.length_append] at this
        omega
      have hFl : F.length < 1000 := by
        have := t6.length_eq
        simp only [List.length_append] at this
        omega
      obtain ⟨v, W1, e1, v1, v2, u1, u2, u3, u4⟩ := take_pv (j := j) (m := P.length) t1 (by omega) (by omega) (by omega) t2
      obtain ⟨vn, rfl⟩ : ∃ vn : Nat, v = vn := ⟨v.toNat, by omega⟩
      have hvn : vn < P.length := by omega
      have n1 : st.length ≠ a := by omega
      have n2 : st.length + 1 ≠ a := by omega
      have t4a := u2.get n1 t4
      have t5a := u2.get n2 t5
      have hlen : blOf .len [.obj st.length] W = .ok (.int P.length) W := by simp [blOf, t4, blSeq]
      have b1 : bmTy .append (.obj (st.length + 1)) W = true := by simp [bmTy, t5]
      have b2 : bmTy .popAt (.obj st.length) W = true := by simp [bmTy, t4]
      have hPb : (P.map pp).length ≤ big := by rw [List.length_map]; unfold big; omega
      have hix : ixOf (P.map pp).length (vn : Int) = some vn := by
        have h0 : (0 : Int) ≤ vn := by omega
        simp [ixOf, hvn]
      have hge : (P.map pp)[vn]? = some (pp P[vn]) := by
        rw [List.getElem?_map, List.getElem?_eq_getElem hvn]; rfl
      have hpop : bmOf .popAt (.obj st.length) [.int vn] W1 = .ok (pp P[vn]) (W1.set st.length (.lst ((P.eraseIdx vn).map pp))) := by
        have e : (P.map pp).eraseIdx vn = (P.eraseIdx vn).map pp := map_erase pp P vn
        simp only [bmOf, popAtR, t4a, hPb, if_true, hix, hge, e]
      have hW1 : st.length < W1.length := (List.getElem?_eq_some_iff.mp t4a).1
      have t5b : (W1.set st.length (.lst ((P.eraseIdx vn).map pp)))[st.length + 1]? = some (.lst (F.map pp)) := by rw [List.getElem?_set_ne (by omega)]; exact t5a
      have hFb : (F.map pp).length < big := by rw [List.length_map]; unfold big; omega
      have happ : bmOf .append (.obj (st.length + 1)) [pp P[vn]] (W1.set st.length (.lst ((P.eraseIdx vn).map pp))) = .ok .non ((W1.set st.length (.lst ((P.eraseIdx vn).map pp))).set (st.length + 1) (.lst ((F ++ [P[vn]]).map pp))) := by
        simp only [bmOf, appR, t5b, hFb, if_true, List.map_append, List.map_cons, List.map_nil]
      have hperm : ((F ++ [P[vn]]) ++ P.eraseIdx vn).Perm ps := by
        rw [List.append_assoc]
        exact ((perm_at P vn hvn).append_left F).trans t6
      obtain ⟨W', F', y5, e, s⟩ := ih m (lo + 1) ((W1.set st.length (.lst ((P.eraseIdx vn).map pp))).set (st.length + 1) (.lst ((F ++ [P[vn]]).map pp))) (F ++ [P[vn]]) (P.eraseIdx vn) (c1 + 1) (some (.int lo)) (by rw [List.length_eraseIdx]; simp [hvn]; omega) (by omega)
        ((u1.setO n1).setO n2) (cl_setL (cl_setL u3)) (((t3.tr u2).setO (Nat.le_refl _)).setO (by omega)) (by rw [List.getElem?_set_ne (by omega)]; exact get_set _ t4a) (get_set _ t5b) hperm (by omega)
      refine ⟨W', F', y5, ?_, s.1.mono (by omega), s.2⟩
      rw [← e]
      simp only [forGo, Wk.next, ev_t, t_name, rf_ok, List.set_cons_succ, List.set_cons_zero, ev_s, ss_cons, ss_nil, s_ex, ev_e, e_app, e_var, List.getElem?_cons_succ, List.getElem?_cons_zero, rb_ok, b1, if_true, s_cons, s_nil, e_popAt, b2, e_call, e_bl1, n_var, Bool.false_and, Bool.false_eq_true, if_false, hlen, e1, hpop, happ, fs_nx]
  have c0 : Cl (st ++ [.lst (ps.map pp), .lst []]) := closed_app hc fun o ho n => by
    simp at ho
    rcases ho with rfl | rfl
    · exact under_pps _ _
    · rfl
  obtain ⟨W', F', y5, e, s1, s2, s3, s4, s5⟩ := loop ps.length 100000 0 (st ++ [.lst (ps.map pp), .lst []]) [] ps c none rfl (by omega) (ht.app _) c0 (.app _) (get_app _ _ 0) (get_app _ _ 1) (by simp) (Nat.le_refl _)
  have hbody : P79.f43.body = [(.asg (.tup [(.name 3), (.name 4)]) (.tup [(.bl .list [(.var 1)]), (.lst [])])), (.for_ (.name 5) (.rng1 (.bl .min2 [(.bl .int [(.var 2)]), (.bl .len [(.var 3)])])) [(.ex (.bm (.var 4) .append [(.bm (.var 3) .popAt [(.call 41 [(.var 0), (.bl .len [(.var 3)])])])]))]), (.ret (some (.var 4)))] := rfl
  have hs0 : P79.f43.slots - P79.f43.arity = 3 := rfl
  have hcp : blOf .list [.obj g] st = .ok (.obj st.length) (st ++ [.lst (ps.map pp)]) := by simp [blOf, hg, blSeq, newO]
  have hcp2 : (st ++ [MO.lst (ps.map pp)]) ++ [.lst []] = st ++ [.lst (ps.map pp), .lst []] := by simp
  have hln : (st ++ [MO.lst (ps.map pp)]).length = st.length + 1 := by simp
  have hw : stepW (evN P79.pg (callN P79.pg 100000 200 (j + 1)) 100000 199) (.rng1 (.bl .min2 [(.bl .int [(.var 2)]), (.bl .len [(.var 3)])])) [some (.obj a), some (.obj g), some (.int ps.length), some (.obj st.length), some (.obj (st.length + 1)), none] (st ++ [.lst (ps.map pp), .lst []]) = .ok (.rng 0 ps.length) (st ++ [.lst (ps.map pp), .lst []]) := by
    refine w_rng_ok ?_ (by omega)
    have hl2 : blOf .len [.obj st.length] (st ++ [.lst (ps.map pp), .lst []]) = .ok (.int ps.length) (st ++ [.lst (ps.map pp), .lst []]) := by
      have : (st ++ [MO.lst (ps.map pp), .lst []])[st.length]? = some (.lst (ps.map pp)) := get_app _ _ 0
      simp [blOf, this, blSeq]
    simp [blSeqB, hl2]
  refine ⟨st.length + 1, F', W', ?_, s5, s4, s1, s3, s2, by omega⟩
  rw [hbody, hs0]
  simp only [ev_s, ss_cons, ss_nil, List.map_cons, List.map_nil, List.cons_append, List.nil_append, List.replicate_succ, List.replicate_zero, s_asg, ev_e, e_tup, s_cons, s_nil, e_bl1, n_var, Bool.false_and, Bool.false_eq_true, if_false, e_var, List.getElem?_cons_succ, List.getElem?_cons_zero, rb_ok, hcp, e_lst, List.length_nil, big_0, if_true, hcp2, hln, List.length_cons, Nat.zero_add, Nat.reduceAdd, big_2, rf_ok, ev_t, t_tup, ba_cons, ba_nil, t_name, nx_ok, List.set_cons_succ, List.set_cons_zero, fs_nx]
  rw [s_for _ _ _ (lock_rng _), hw, rf_ok, e]
  simp only [fs_nx, s_ret, ev_e, e_var, List.getElem?_cons_succ, List.getElem?_cons_zero, rf_ok, fs_rt, fl_rt]
  exact trim_obj (by omega)
end
/-- a list of lists that stands for a tuple of tuples -/
inductive Lt (st : Sto) : PV → PV → Prop
  | int (i : Int) : Lt st (.int i) (.int i)
  | lst {k : Nat} {ps : List (PV × PV)} (h : st[k]? = some (.lst (ps.map (·.1)))) (r : ∀ p ∈ ps, Lt st p.1 p.2) : Lt st (.obj k) (.tup (ps.map (·.2)))
theorem Lt.app {st : Sto} {v x : PV} (h : Lt st v x) (m : Sto) : Lt (st ++ m) v x := by
  induction h with
  | int i => exact .int i
  | lst h _ ih => exact .lst (get_old _ h) ih
theorem tupled_lt {st : Sto} : ∀ {j : Nat} {v x : PV}, Lt st v x → puB j x = true → cl j 0 [v] st = .ok x st
  | 0, v, x, _, h => by cases x <;> simp [puB] at h
  | j + 1, v, x, hl, h => by
    rw [cl, call_eq P79.f0 0 j _ rfl rfl]
    cases hl with
    | int i => simp [P79.f0, isin, kindOf, Rf.truthy]
    | @lst k ps hk hr =>
      simp only [puB, Bool.and_eq_true, decide_eq_true_eq, List.length_map] at h
      have h2 := List.all_eq_true.mp h.2
      simp [P79.f0, isin, kindOf, Rf.truthy, blSeqB, hk]
      rw [comp_liveA (e := fun p : PV × PV => p.1) (f := fun p => p.2) (fun x => [some (.obj k), none, some x]) k ps hk (fun p hp => ⟨by simp, by
        simp [tupled_lt (j := j) (hr p hp) (h2 p.2 (List.mem_map_of_mem hp))]⟩) ps 0 100000 [] rfl (by omega)]
      simp [blSeq]
end W79
end
section
set_option linter.all false
set_option maxRecDepth 20000
/-! W22: lists of lists made, what is heard -/
namespace W79
open PySem Rf
theorem Lt.under {st : Sto} {v x : PV} (h : Lt st v x) : PV.under st.length v = true := by
  cases h with
  | int i => rfl
  | lst h _ =>
    have := (List.getElem?_eq_some_iff.mp h).1
    show Nat.blt _ _ = true
    simp [Nat.blt_eq, this]
theorem closed_mono {st m : Sto} {n : Nat} (h : Sto.closed n st = true) {k : Nat} (hk : n ≤ k) : Sto.closed k st = true := closed_mem.mpr fun o ho => mo_mono hk o (closed_mem.mp h o ho)
theorem lists_pv : ∀ {j : Nat} {x : PV} {st : Sto}, puB j x = true → Cl st → ∃ (v : PV) (m : Sto), cl j 44 [x] st = .ok v (st ++ m) ∧ Lt (st ++ m) v x ∧ Cl (st ++ m)
  | 0, x, st, h, _ => by cases x <;> simp [puB] at h
  | j + 1, x, st, h, hc => by
    rw [cl, call_eq P79.f44 44 j _ rfl rfl]
    cases x with
    | int i => exact ⟨.int i, [], by simp [P79.f44, isin, kindOf, Rf.truthy], by simpa using Lt.int i, by simpa using hc⟩
    | tup xs =>
      simp only [puB, Bool.and_eq_true, decide_eq_true_eq] at h
      have h2 := List.all_eq_true.mp h.2
      have go : ∀ (r : List PV) (m : Nat) (acc : List PV) (s : Sto), (∀ x ∈ r, puB j x = true) → Cl s → r.length < m →
          ∃ (ps : List (PV × PV)) (s2 : Sto), compGo (evN P79.pg (callN P79.pg 100000 200 j) 100000 197) (.call 44 [(.var 2)]) (.name 2) none [some (.tup xs), none, none] m (.one (.fix r)) acc s = .ok (acc.reverse ++ ps.map (·.1)) (s ++ s2) ∧ ps.map (·.2) = r ∧ (∀ p ∈ ps, Lt (s ++ s2) p.1 p.2) ∧ Cl (s ++ s2) := by
        intro r
        induction r with
        | nil =>
          intro m acc s _ hcs hm
          obtain ⟨m, rfl⟩ : ∃ x, m = x + 1 := ⟨m - 1, by simp at hm; omega⟩
          exact ⟨[], [], by simp [compGo, nxt_nil], rfl, by simp, by simpa using hcs⟩
        | cons x r ih =>
          intro m acc s hx hcs hm
          obtain ⟨m, rfl⟩ : ∃ x, m = x + 1 := ⟨m - 1, by omega⟩
          obtain ⟨v, m1, e1, l1, c1⟩ := lists_pv (st := s) (hx x (by simp)) hcs
          obtain ⟨ps, m2, e2, p1, p2, c2⟩ := ih m (v :: acc) (s ++ m1) (fun y hy => hx y (by simp [hy])) c1 (by simpa using hm)
          have hassoc : s ++ m1 ++ m2 = s ++ (m1 ++ m2) := List.append_assoc ..
          rw [hassoc] at e2 p2 c2
          refine ⟨(v, x) :: ps, m1 ++ m2, ?_, by simp [p1], fun p hp => ?_, c2⟩
          · simp only [compGo, nxt_cons, ev_t, t_name, nx_ok, rb_ok, List.set_cons_succ, List.set_cons_zero, ev_e, e_call, s_cons, s_nil, e_var, List.getElem?_cons_succ, List.getElem?_cons_zero, e1, e2]
            simp
          · rcases List.mem_cons.mp hp with rfl | hp
            · rw [← hassoc]; exact l1.app m2
            · exact p2 p hp
      obtain ⟨ps, s2, e1, p1, p2, c2⟩ := go xs 100000 [] st h2 hc (by omega)
      refine ⟨.obj (st ++ s2).length, s2 ++ [.lst (ps.map (·.1))], ?_, ?_, ?_⟩
      · simp [P79.f44, isin, kindOf, Rf.truthy]
        rw [e1]
        simp
        exact trim_obj (by omega)
      · rw [← p1, ← List.append_assoc]
        exact .lst (by simp) fun p hp => (p2 p hp).app _
      · rw [← List.append_assoc]
        show Sto.closed _ _ = true
        refine closed_mem.mpr fun o ho => ?_
        rcases List.mem_append.mp ho with ho | ho
        · exact mo_mono (by simp) o (closed_mem.mp c2 o ho)
        · simp at ho
          subst ho
          simp only [MO.under]
          exact unders_of fun x hx => by
            obtain ⟨p, hp, rfl⟩ := List.mem_map.mp hx
            exact under_mono (by simp) _ (p2 p hp).under
    | _ => simp [puB] at h
section
variable {st : Sto} {j : Nat}
@[simp] theorem s_try {P : Pg} {V : Ev} {L : Nat} {σ : Rf.Loc} (b : List Sm) (hs : List (Nat × List Sm)) : stepS P V L (.try_ b hs) σ st = (match V.s b σ st with
    | .exc d fs σ1 st1 => if d < P.nx ∧ fs.isEmpty = true then (match findH d hs with
      | some h => V.s h σ1 st1
      | none => .exc d fs σ1 st1) else .stuck
    | r => r) := rfl
theorem nx3 : P79.pg.nx = 3 := rfl
theorem heard0 {v w x : PV} {b : Bool} (h : cl j 32 [v] st = if b = true then .ok x st else .exc 1 [] st) : cl (j + 1) 54 [.int 0, v, w] st = .ok (if b = true then x else .non) st := by
  rw [cl, call_eq P79.f54 54 _ _ rfl rfl]
  cases b with
  | true =>
    simp only [if_true] at h ⊢
    simp [P79.f54, Rf.truthy, h]
  | false =>
    simp only [Bool.false_eq_true, if_false] at h ⊢
    simp [P79.f54, Rf.truthy, h, nx3, findH]
theorem heard1 {v w x : PV} {b : Bool} (h : cl j 33 [v, w] st = if b = true then .ok x st else .exc 1 [] st) : cl (j + 1) 54 [.int 1, v, w] st = .ok (if b = true then x else .non) st := by
  rw [cl, call_eq P79.f54 54 _ _ rfl rfl]
  cases b with
  | true =>
    simp only [if_true] at h ⊢
    simp [P79.f54, Rf.truthy, h]
  | false =>
    simp only [Bool.false_eq_true, if_false] at h ⊢
    simp [P79.f54, Rf.truthy, h, nx3, findH]
theorem heard2 {v w x : PV} (h : cl j 37 [v, w] st = .ok x st) : cl (j + 1) 54 [.int 2, v, w] st = .ok x st := by
  rw [cl, call_eq P79.f54 54 _ _ rfl rfl]
  simp [P79.f54, Rf.truthy, h]
end
end W79
end
section
set_option linter.all false
/-! U4: meetings in any sequence -/
namespace W79
open PySem Rf
variable {S S' : List T} {A : List Nat} {th : Nat → T} {rk : Nat → Nat} {tb : Tab}
theorem Gd.mono (g : Gd S th rk tb) (h : ∀ r ∈ S, r ∈ S') : Gd S' th rk tb :=
  ⟨g.sat, g.out, g.rank, g.bnd, fun n r hr => by obtain ⟨q, h1, h2⟩ := g.dagS n r hr; exact ⟨q, h q h1, h2⟩, fun n u e z hz r hr => h r (g.args n u e z hz r hr), g.nd⟩
theorem Stp.mono {x y : T} (s : Stp S A th rk tb x y) (h : ∀ r ∈ S, r ∈ S') : Stp S' A th rk tb x y :=
  ⟨s.g.mono h, s.a, fun r hr => h r (s.hx r hr), fun r hr => h r (s.hy r hr), s.rx, s.ry⟩
theorem Un.mono {td : List (T × T)} {tb tb' : Tab} {p : Nat} {b : Bool} (u : Un S A td tb p tb' b) (h : ∀ r ∈ S, r ∈ S') : Un S' A td tb p tb' b := by
  induction u with
  | nil => exact .nil
  | same s w1 w2 e _ ih => exact .same (s.mono h) w1 w2 e ih
  | put s w1 w2 e o _ ih => exact .put (s.mono h) w1 w2 e o ih
  | fail s w1 w2 e o => exact .fail (s.mono h) w1 w2 e o
theorem Un.app {td r : List (T × T)} {tb tb1 tb2 : Tab} {k k2 : Nat} {b b0 : Bool} (u : Un S A td tb k tb1 b0) (hb : b0 = true) (u2 : Un S A r tb1 k2 tb2 b) : Un S A (td ++ r) tb (k + k2) tb2 b := by
  induction u with
  | nil => simpa using u2
  | same s w1 w2 e _ ih =>
    have := ih hb u2
    rw [List.append_assoc] at this
    rw [Nat.add_right_comm]
    exact .same s w1 w2 e this
  | put s w1 w2 e o _ ih =>
    have := ih hb u2
    rw [List.append_assoc] at this
    rw [Nat.add_right_comm]
    exact .put s w1 w2 e o this
  | fail => cases hb
theorem Un.appF {td r : List (T × T)} {tb tb1 : Tab} {k : Nat} {b0 : Bool} (u : Un S A td tb k tb1 b0) (hb : b0 = false) : Un S A (td ++ r) tb k tb1 false := by
  induction u with
  | nil => cases hb
  | same s w1 w2 e _ ih =>
    have := ih hb
    rw [List.append_assoc] at this
    exact .same s w1 w2 e this
  | put s w1 w2 e o _ ih =>
    have := ih hb
    rw [List.append_assoc] at this
    exact .put s w1 w2 e o this
  | fail s w1 w2 e o => exact .fail s w1 w2 e o
/-- pairs of which all is known -/
def Kn (S : List T) (A : List Nat) (l : List (T × T)) : Prop := ∀ p ∈ l, (∀ r ∈ asub p.1, r ∈ S) ∧ (∀ r ∈ asub p.2, r ∈ S) ∧ (∀ m ∈ p.1.row, m ∈ A) ∧ ∀ m ∈ p.2.row, m ∈ A
/-- what an end tells -/
def Ends (l : List (T × T)) (tb tb' : Tab) (b : Bool) : Prop := (b = true → ∀ s, (Uni s l ∧ Sat s tb ↔ Sat s tb')) ∧ (b = false → ∀ s, ¬ (Uni s l ∧ Sat s tb))
theorem run1 (h9 : S.length ≤ 9) (g : Gd S th rk tb) (a : At A tb) {p : T × T} (k : Kn S A [p]) : ∃ q tb' b th' rk', Un S A [p] tb q tb' b ∧ q ≤ 512 ∧ Gd S th' rk' tb' ∧ At A tb' ∧ Ends [p] tb tb' b ∧ q ≤ cm (sub th' p.1) (sub th' p.2) := by
  obtain ⟨q, tb', b, th', rk', u, g', a', e1, e2⟩ := run (A.length - tb.length) (psum th [p]) [p] tb th rk g a k (Nat.le_refl _) (Nat.le_refl _)
  have hc := u.count g'.sat
  simp only [cms, List.map_cons, List.map_nil, List.sum_cons, List.sum_nil, Nat.add_zero] at hc
  have h1 := cm_pl (sub th' p.1) (sub th' p.2)
  have h2 := (g'.small h9 (g'.dagT (k p (by simp)).1)).2
  exact ⟨q, tb', b, th', rk', u, by omega, g', a', ⟨e1, e2⟩, hc⟩
theorem sat_nil (s : Nat → T) : Sat s [] := fun n u h => by simp at h
/-- no pairs: fewer arrows, smaller bound -/
theorem run2 (g : Gd S th rk tb) (a : At A tb) {p : T × T} (k : Kn S A [p]) {n : Nat} (hn : S.length ≤ n) : ∃ q tb' b th' rk', Un S A [p] tb q tb' b ∧ q ≤ 2 ^ n ∧ Gd S th' rk' tb' ∧ At A tb' ∧ Ends [p] tb tb' b := by
  obtain ⟨q, tb', b, th', rk', u, g', a', e1, e2⟩ := run (A.length - tb.length) (psum th [p]) [p] tb th rk g a k (Nat.le_refl _) (Nat.le_refl _)
  have hc := u.count g'.sat
  simp only [cms, List.map_cons, List.map_nil, List.sum_cons, List.sum_nil, Nat.add_zero] at hc
  have h1 := cm_pl (sub th' p.1) (sub th' p.2)
  have h2 := (dag _ (S.map (sub th')) (sub th' p.1) (Nat.le_refl _) fun r hr => by
    obtain ⟨q, h1, h2⟩ := g'.dagT (k p (by simp)).1 r hr
    exact List.mem_map.mpr ⟨q, h1, h2.symm⟩).1
  rw [List.length_map] at h2
  have h3 : 2 ^ S.length ≤ 2 ^ n := Nat.pow_le_pow_right (by omega) hn
  exact ⟨q, tb', b, th', rk', u, by omega, g', a', ⟨e1, e2⟩⟩
/-- the homes of a row: pairs of neighbours -/
def nbs (l : List T) : List (T × T) := l.zip (l.drop 1)
theorem cm_pl2 : ∀ t u : T, cm t u ≤ u.pl
  | .a x y, .a x' y' => by have := cm_pl2 x x'; have := cm_pl2 y y'; simp [cm]; omega
  | .v _, .v _ => by simp [cm]
  | .v _, .a x y => by have := T.pl_pos x; simp [cm]; omega
  | .a _ _, .v _ => by simp [cm]
/-- a meeting and what it tells -/
structure Res (S : List T) (A : List Nat) (l : List (T × T)) (tb : Tab) (b : Bool) (th : Nat → T) : Prop where
  ends : Ends l [] tb b
  gd : b = true → ∃ rk, Gd S th rk tb ∧ At A tb
theorem Res.iff {l : List (T × T)} {b : Bool} (r : Res S A l tb b th) : b = true ↔ ∃ s, Uni s l := by
  cases b with
  | true =>
    obtain ⟨rk, g, _⟩ := r.gd rfl
    exact ⟨fun _ => ⟨th, ((r.ends.1 rfl th).mpr g.sat).1⟩, fun _ => rfl⟩
  | false => exact ⟨fun h => (by cases h), fun ⟨s, h⟩ => absurd ⟨h, sat_nil s⟩ (r.ends.2 rfl s)⟩
theorem Res.uni {l : List (T × T)} (r : Res S A l tb true th) (s : Nat → T) : Uni s l ↔ Sat s tb := by
  rw [← r.ends.1 rfl s]
  exact ⟨fun h => ⟨h, sat_nil s⟩, fun h => h.1⟩
theorem Res.eq {l : List (T × T)} (r : Res S A l tb true th) : Uni th l := by
  obtain ⟨rk, g, _⟩ := r.gd rfl
  exact (r.uni th).mpr g.sat
/-- two meetings of the same: the same up to names -/
theorem Res.same {S2 : List T} {A2 : List Nat} {l l2 : List (T × T)} {tb2 : Tab} {th2 : Nat → T} (r : Res S A l tb true th) (r2 : Res S2 A2 l2 tb2 true th2) (h : ∀ s, Uni s l ↔ Uni s l2) (t : T) : pln (sub th t) = pln (sub th2 t) := by
  obtain ⟨rk, g, _⟩ := r.gd rfl
  obtain ⟨rk2, g2, _⟩ := r2.gd rfl
  have s2 : Sat th2 tb := (r.uni th2).mp ((h th2).mpr r2.eq)
  have s1 : Sat th tb2 := (r2.uni th).mp ((h th).mp r.eq)
  exact pln_same (s := th2) (r := th) (g.through_sub s2 t).symm (g2.through_sub s1 t).symm
/-- the law's way: the last pair first -/
theorem law1 {h0 h1 : T} (p0 : h0.pl ≤ 4) (p1 : h1.pl ≤ 4) (r0 : ∀ m ∈ h0.row, m ∈ A) (r1 : ∀ m ∈ h1.row, m ∈ A) : ∃ q tb b th, Un (asub h0 ++ asub h1) A [(h0, h1)] [] q tb b ∧ q ≤ 64 ∧ Res (asub h0 ++ asub h1) A [(h0, h1)] tb b th := by
  have l0 := asub_len h0
  have l1 := asub_len h1
  have k : Kn (asub h0 ++ asub h1) A [(h0, h1)] := fun p hp => by
    simp at hp; subst hp
    exact ⟨fun r hr => List.mem_append_left _ hr, fun r hr => List.mem_append_right _ hr, r0, r1⟩
  obtain ⟨q, tb, b, th, rk, u, hq, g, a, e⟩ := run2 (gd0 (asub h0 ++ asub h1)) ⟨by simp [ks], fun n u h => by simp at h⟩ k (n := 6) (by rw [List.length_append]; omega)
  have : (2 : Nat) ^ 6 = 64 := rfl
  exact ⟨q, tb, b, th, u, by omega, ⟨e, fun _ => ⟨rk, g, a⟩⟩⟩
theorem law2 {h0 h1 h2 : T} (p0 : h0.pl ≤ 4) (p1 : h1.pl ≤ 4) (p2 : h2.pl ≤ 4) (r0 : ∀ m ∈ h0.row, m ∈ A) (r1 : ∀ m ∈ h1.row, m ∈ A) (r2 : ∀ m ∈ h2.row, m ∈ A) :
    ∃ q tb b th, Un (asub h0 ++ asub h1 ++ asub h2) A [(h1, h2), (h0, h1)] [] q tb b ∧ q < 400 ∧ Res (asub h0 ++ asub h1 ++ asub h2) A [(h0, h1), (h1, h2)] tb b th := by
  have l0 := asub_len h0
  have l1 := asub_len h1
  have l2 := asub_len h2
  obtain ⟨q1, tb1, b1, th1, u1, hq1, e1⟩ := law1 (A := A) p1 p2 r1 r2
  have hS : ∀ r ∈ asub h1 ++ asub h2, r ∈ asub h0 ++ asub h1 ++ asub h2 := fun r hr => by
    rcases List.mem_append.mp hr with h | h
    · exact List.mem_append_left _ (List.mem_append_right _ h)
    · exact List.mem_append_right _ h
  have hu2 : ∀ s, Uni s [(h0, h1), (h1, h2)] ↔ Uni s [(h0, h1)] ∧ Uni s [(h1, h2)] := fun s => by
    simp [Uni]
  cases b1 with
  | false =>
    refine ⟨q1, tb1, false, th1, (u1.mono hS).appF rfl, by omega, ⟨⟨fun h => (by cases h), fun _ s hs => ?_⟩, fun h => (by cases h)⟩⟩
    exact e1.ends.2 rfl s ⟨((hu2 s).mp hs.1).2, hs.2⟩
  | true =>
    obtain ⟨rk1, g1, a1⟩ := e1.gd rfl
    have k : Kn (asub h0 ++ asub h1 ++ asub h2) A [(h0, h1)] := fun p hp => by
      simp at hp; subst hp
      exact ⟨fun r hr => List.mem_append_left _ (List.mem_append_left _ hr), fun r hr => List.mem_append_left _ (List.mem_append_right _ hr), r0, r1⟩
    obtain ⟨q2, tb2, b2, th2, rk2, u2, g2, a2, f1, f2⟩ := run (A.length - tb1.length) (psum th1 [(h0, h1)]) [(h0, h1)] tb1 th1 rk1 (g1.mono hS) a1 k (Nat.le_refl _) (Nat.le_refl _)
    have hc := u2.count g2.sat
    simp only [cms, List.map_cons, List.map_nil, List.sum_cons, List.sum_nil, Nat.add_zero] at hc
    have hc2 := cm_pl2 (sub th2 h0) (sub th2 h1)
    obtain ⟨m, em⟩ := u2.grows
    have hs1 : Sat th2 tb1 := by have := g2.sat; rw [em] at this; exact this.app
    have heq : sub th2 h1 = sub th2 h2 := ((e1.uni th2).mpr hs1) (h1, h2) (by simp)
    have hpl : (sub th2 h1).pl ≤ 256 := by
      have hd := g2.dagT (t := h1) fun r hr => List.mem_append_left _ (List.mem_append_right _ hr)
      have done : ∀ V : List T, V.length ≤ 8 → (∀ q ∈ asub h0 ++ asub h1 ++ asub h2, ∃ v ∈ V, sub th2 q = sub th2 v) → (sub th2 h1).pl ≤ 256 := fun V hV hcov => by
        have := (dag _ (V.map (sub th2)) (sub th2 h1) (Nat.le_refl _) fun r hr => by
          obtain ⟨q, z1, z2⟩ := hd r hr
          obtain ⟨v, z3, z4⟩ := hcov q z1
          exact List.mem_map.mpr ⟨v, z3, by rw [z2, z4]⟩).1
        rw [List.length_map] at this
        have h2 : 2 ^ V.length ≤ 2 ^ 8 := Nat.pow_le_pow_right (by omega) hV
        have h3 : (2 : Nat) ^ 8 = 256 := rfl
        omega
      cases eh1 : h1 with
      | v n =>
        rw [← eh1]
        refine done (asub h0 ++ asub h1 ++ asub h2) ?_ fun q hq => ⟨q, hq, rfl⟩
        rw [List.length_append, List.length_append]
        rw [eh1] at l1 ⊢
        simp [asub] at l1 ⊢
        omega
      | a x y =>
        rw [← eh1]
        cases eh2 : h2 with
        | v n =>
          refine done (asub h0 ++ asub h1 ++ asub h2) ?_ fun q hq => ⟨q, hq, rfl⟩
          rw [List.length_append, List.length_append]
          rw [eh2] at l2 ⊢
          simp [asub] at l2 ⊢
          omega
        | a x2 y2 =>
          have e2 : asub h2 = h2 :: (asub x2 ++ asub y2) := by rw [eh2]; rfl
          refine done (asub h0 ++ asub h1 ++ (asub x2 ++ asub y2)) ?_ fun q hq => ?_
          · rw [e2] at l2
            simp only [List.length_append, List.length_cons] at l2 ⊢
            omega
          · rcases List.mem_append.mp hq with h | h
            · exact ⟨q, List.mem_append_left _ h, rfl⟩
            · rw [e2] at h
              rcases List.mem_cons.mp h with rfl | h
              · refine ⟨h1, List.mem_append_left _ (List.mem_append_right _ ?_), heq.symm⟩
                rw [eh1]
                simp [asub]
              · exact ⟨q, List.mem_append_right _ h, rfl⟩
    refine ⟨q1 + q2, tb2, b2, th2, (u1.mono hS).app rfl u2, by omega, ⟨⟨fun hb s => ?_, fun hb s hs => ?_⟩, fun _ => ⟨rk2, g2, a2⟩⟩⟩
    · rw [← f1 hb s, hu2, e1.uni s]
      exact ⟨fun h => h.1, fun h => ⟨h, sat_nil s⟩⟩
    · exact f2 hb s ⟨((hu2 s).mp hs.1).1, (e1.uni s).mp ((hu2 s).mp hs.1).2⟩
end W79
end
section
set_option linter.all false
set_option maxRecDepth 20000
/-! U5: the program's meeting of rows; the filling that is found -/
namespace W79
open PySem Rf
variable {S : List T} {A : List Nat} {th : Nat → T} {rk : Nat → Nat} {tb : Tab}
theorem uns_run (h9 : S.length ≤ 9) : ∀ (l : List (T × T)) (tb : Tab) (th : Nat → T) (rk : Nat → Nat), Gd S th rk tb → At A tb → Kn S A l → ∃ tb' b th' rk', Uns S A l tb tb' b ∧ Gd S th' rk' tb' ∧ At A tb' ∧ Ends l tb tb' b
  | [], tb, th, rk, g, a, _ => ⟨tb, true, th, rk, .nil, g, a, fun _ s => ⟨fun h => h.2, fun h => ⟨fun p hp => by simp at hp, h⟩⟩, fun h => (by cases h)⟩
  | p :: l, tb, th, rk, g, a, k => by
    obtain ⟨q, tb1, b1, th1, rk1, u1, hq, g1, a1, e1, _⟩ := run1 h9 g a (p := p) fun x hx => by simp at hx; subst hx; exact k x (by simp)
    have hu : ∀ s, Uni s (p :: l) ↔ Uni s [p] ∧ Uni s l := fun s => by simp [Uni]
    cases b1 with
    | false =>
      refine ⟨tb1, false, th1, rk1, .fail u1 (by omega), g1, a1, fun h => (by cases h), fun _ s hs => e1.2 rfl s ⟨((hu s).mp hs.1).1, hs.2⟩⟩
    | true =>
      obtain ⟨tb2, b2, th2, rk2, u2, g2, a2, e2⟩ := uns_run h9 l tb1 th1 rk1 g1 a1 fun x hx => k x (by simp [hx])
      refine ⟨tb2, b2, th2, rk2, .more u1 (by omega) u2, g2, a2, fun hb s => ?_, fun hb s hs => e2.2 hb s ⟨((hu s).mp hs.1).2, (e1.1 rfl s).mp ⟨((hu s).mp hs.1).1, hs.2⟩⟩⟩
      rw [← e2.1 hb s, hu, ← e1.1 rfl s]
      exact ⟨fun h => ⟨h.1.2, h.1.1, h.2⟩, fun h => ⟨⟨h.2.1, h.1⟩, h.2.2⟩⟩
theorem at0 (A : List Nat) : At A [] := ⟨by simp [ks], fun n u h => by simp at h⟩
theorem uns_res (h9 : S.length ≤ 9) {l : List (T × T)} (k : Kn S A l) : ∃ tb b th, Uns S A l [] tb b ∧ Res S A l tb b th := by
  obtain ⟨tb, b, th, rk, u, g, a, e⟩ := uns_run h9 l [] T.v (fun _ => 0) (gd0 S) (at0 A) k
  exact ⟨tb, b, th, u, e, fun _ => ⟨rk, g, a⟩⟩
/-! ### fillings -/
theorem lk_fill (s : Nat → T) : ∀ (l : List Nat) (n : Nat), lk (fill l s) n = if n ∈ l ∧ s n ≠ .v n then some (s n) else none
  | [], n => by simp [fill]
  | m :: l, n => by
    have ih := lk_fill s l n
    unfold fill at *
    by_cases hm : s m = .v m
    · have e : (m :: l).filter (fun n => decide (s n ≠ .v n)) = l.filter (fun n => decide (s n ≠ .v n)) := by
        rw [List.filter_cons]; simp [hm]
      rw [e, ih]
      by_cases hn : n = m
      · subst hn; simp [hm]
      · simp [hn]
    · have e : (m :: l).filter (fun n => decide (s n ≠ .v n)) = m :: l.filter (fun n => decide (s n ≠ .v n)) := by
        rw [List.filter_cons]; simp [hm]
      rw [e, List.map_cons, lk_cons, ih]
      by_cases hn : m = n
      · subst hn; simp [hm]
      · have : ¬ n = m := fun z => hn z.symm
        simp [hn, this]
theorem tbF_fill (s : Nat → T) (l : List Nat) (n : Nat) : tbF (fill l s) n = if n ∈ l then s n else .v n := by
  unfold tbF
  rw [lk_fill]
  by_cases h : n ∈ l
  · by_cases h2 : s n = .v n
    · simp [h, h2]
    · simp [h, h2]
  · simp [h]
theorem ks_fill (s : Nat → T) (l : List Nat) : ks (fill l s) = l.filter fun n => decide (s n ≠ .v n) := by
  unfold ks fill
  rw [List.map_map]
  exact List.map_id _
theorem fill_mem {s : Nat → T} {l : List Nat} {p : Nat × T} (h : p ∈ fill l s) : p.1 ∈ l ∧ p.2 = s p.1 := by
  unfold fill at h
  obtain ⟨n, h1, rfl⟩ := List.mem_map.mp h
  exact ⟨(List.mem_filter.mp h1).1, rfl⟩
/-- what a meeting finds -/
theorem found_tbF (g : Gd S th rk tb) (n : Nat) : tbF (fill (sN (ks tb)) th) n = th n := by
  rw [tbF_fill]
  split
  · rfl
  · rename_i h
    exact (g.out n (lk_none_ks.mpr fun e => h (sN_mem.mpr e))).symm
theorem found_ok (g : Gd S th rk tb) (a : At A tb) (h9 : S.length ≤ 9) (h6 : A.length ≤ 6) : FOk (fill (sN (ks tb)) th) 9 := by
  have hsm : ∀ n, (th n).hd ≤ 9 ∧ (th n).pl ≤ 512 := fun n => by
    have := g.small h9 (t := .v n) fun r hr => g.dagS n r hr
    simpa using this
  refine ⟨?_, fun p hp => ?_, ?_⟩
  · rw [ks_fill]
    exact (sN_lt _).filter _
  · obtain ⟨_, e⟩ := fill_mem hp
    rw [e]
    have := hsm p.1
    exact ⟨⟨by omega, by omega⟩, this.1⟩
  · have h1 : (fill (sN (ks tb)) th).length ≤ (sN (ks tb)).length := by
      unfold fill
      rw [List.length_map]
      exact List.length_filter_le _ _
    have h2 : (sN (ks tb)).length = (ks tb).length := by rw [← sortN_nodup g.nd]; exact (sortN_perm _).length_eq
    have h3 : (ks tb).length = tb.length := List.length_map ..
    have := a.few g.nd
    omega
end W79
end
section
set_option linter.all false
set_option maxRecDepth 20000
/-! W23: comparing lists; walks while the store changes -/
namespace W79
open PySem Rf
section
variable {st : Sto}
@[simp] theorem eqD_bl (a b : Bool) : eqD (.bl a) (.bl b) st = some (decide (a = b)) := by cases a <;> cases b <;> rfl
theorem eqD_L {a b : Nat} {xs ys : List PV} (h1 : st[a]? = some (.lst xs)) (h2 : st[b]? = some (.lst ys)) (o1 : ∀ x ∈ xs, okP 58 x = true) (o2 : ∀ x ∈ ys, okP 58 x = true) [Decidable (xs = ys)] : eqD (.obj a) (.obj b) st = some (decide (xs = ys)) := by
  have e1 : toD st 60 (.obj a) = some (.list (xs.map dat)) := by
    rw [toD_obj h1, mapM_some (g := dat) fun x hx => toD_ok (okP_mono (by omega) (o1 x hx))]
    rfl
  have e2 : toD st 60 (.obj b) = some (.list (ys.map dat)) := by
    rw [toD_obj h2, mapM_some (g := dat) fun x hx => toD_ok (okP_mono (by omega) (o2 x hx))]
    rfl
  have h := eqv_dat (n := 59) (x := .tup xs) (y := .tup ys) (okPs_all.mpr o1) (okPs_all.mpr o2)
  unfold eqD
  rw [e1, e2]
  show some (PyData.eqvAll (xs.map dat) (ys.map dat)) = _
  congr 1
  rw [Bool.eq_iff_iff, decide_eq_true_iff]
  simp only [dat, dats_map, PyData.eqv, PV.tup.injEq] at h
  exact h
theorem map_pv_inj {l m : List T} : l.map pv = m.map pv ↔ l = m := by
  constructor
  · intro h
    induction l generalizing m with
    | nil => cases m <;> simp_all
    | cons x l ih =>
      cases m with
      | nil => simp at h
      | cons y m =>
        simp only [List.map_cons, List.cons.injEq] at h
        rw [pv_inj h.1, ih h.2]
  · intro h; rw [h]
theorem okP_pvs {l : List T} (h : ∀ t ∈ l, t.hd ≤ 25) : ∀ x ∈ l.map pv, okP 58 x = true := fun x hx => by
  obtain ⟨t, ht, rfl⟩ := List.mem_map.mp hx
  exact okP_pv (by have := h t ht; omega)
/-- all alike: the list is the first one so many times -/
theorem eqD_same {a b : Nat} {t : T} {n : Nat} (h1 : st[a]? = some (.lst (List.replicate n (pv t)))) (h2 : st[b]? = some (.lst (List.replicate n (pv t)))) (ht : t.hd ≤ 25) : eqD (.obj a) (.obj b) st = some true := by
  haveI : Decidable (List.replicate n (pv t) = List.replicate n (pv t)) := Classical.propDecidable _
  rw [eqD_L h1 h2 (fun x hx => by rw [(List.mem_replicate.mp hx).2]; exact okP_pv (by omega)) (fun x hx => by rw [(List.mem_replicate.mp hx).2]; exact okP_pv (by omega))]
  simp
theorem eqD_refl {x : PV} (h : okP 60 x = true) : eqD x x st = some true := by
  haveI : Decidable (x = x) := Classical.propDecidable _
  rw [eqD_ok h h]
  simp
theorem okP_fv {l : List (Nat × T)} (h : ∀ p ∈ l, p.2.hd ≤ 25) : okP 60 (fv l) = true := by
  show okPs 59 _ = true
  refine okPs_all.mpr fun x hx => ?_
  obtain ⟨p, hp, rfl⟩ := List.mem_map.mp hx
  have := h p hp
  simp [pr, okP, okPs, okP_pv (t := p.2) (k := 58) (by omega)]
theorem mul_L {a : Nat} {x : PV} {n : Nat} (h : st[a]? = some (.lst [x])) (hn : n ≤ 1000) : binop .mul (.obj a) (.int n) st = .ok (.obj st.length) (st ++ [.lst (List.replicate n x)]) := by
  have h1 : (0 : Int) ≤ n ∧ (n : Int) ≤ 1000 ∧ [x].length * (n : Int).toNat ≤ big := ⟨by omega, by omega, by simp; unfold big; omega⟩
  have h2 : (List.replicate (n : Int).toNat [x]).flatten = List.replicate n x := by
    simp only [Int.toNat_natCast]
    clear h h1 hn
    induction n with
    | zero => rfl
    | succ n ih => simp [List.replicate_succ, ih]
  simp only [binop, h]
  rw [if_pos h1, h2]
  rfl
end
section
variable {V : Ev} {σ : Rf.Loc} {α : Type}
/-- a walk with a test that leaves things behind -/
theorem comp_filS {elt c : Ex} {tg : Tg} {e f : α → PV} {p : α → Bool} (τ : PV → Rf.Loc) : ∀ (l : List α) (m : Nat) (acc : List PV) (st : Sto), Cl st → l.length < m →
    (∀ x ∈ l, ∀ s, Cl s → V.t tg (e x) σ s = .ok (τ (e x)) s ∧ (∃ g, tst V.e c (τ (e x)) s = .ok (p x) (s ++ g) ∧ Cl (s ++ g)) ∧ (p x = true → V.e elt (τ (e x)) s = .ok (f x) s)) →
    ∃ g, compGo V elt tg (some c) σ m (.one (.fix (l.map e))) acc st = .ok (acc.reverse ++ (l.filter p).map f) (st ++ g) ∧ Cl (st ++ g)
  | [], m + 1, acc, st, hc, _, _ => ⟨[], by simp [compGo, nxt_nil], by simpa using hc⟩
  | x :: r, m + 1, acc, st, hc, hm, h => by
    obtain ⟨h1, ⟨g1, h2, h3⟩, h4⟩ := h x (by simp) st hc
    have h5 := (h x (by simp) (st ++ g1) h3).2.2
    cases hp : p x with
    | true =>
      obtain ⟨g2, e2, c2⟩ := comp_filS τ r m (f x :: acc) (st ++ g1) h3 (by simpa using hm) fun y hy => h y (by simp [hy])
      refine ⟨g1 ++ g2, ?_, by rw [← List.append_assoc]; exact c2⟩
      simp only [compGo, List.map_cons, nxt_cons, h1, nx_ok, rb_ok, h2, hp, h5 hp, e2]
      simp [hp]
    | false =>
      obtain ⟨g2, e2, c2⟩ := comp_filS τ r m acc (st ++ g1) h3 (by simpa using hm) fun y hy => h y (by simp [hy])
      refine ⟨g1 ++ g2, ?_, by rw [← List.append_assoc]; exact c2⟩
      simp only [compGo, List.map_cons, nxt_cons, h1, nx_ok, rb_ok, h2, hp, e2]
      simp [hp]
/-- a walk over a list of the store, made while draws are taken -/
theorem comp_liveD {elt : Ex} {tg : Tg} {e : α → PV} {β : Type} {f : β → PV} {ok : α → β → Prop} (τ : PV → Rf.Loc) {a k d : Nat} (hka : k ≠ a) (l : List α)
    (h : ∀ x ∈ l, ∀ s c, Tin s a c → Cl s → c + 2000 < 1000000 → V.t tg (e x) σ s = .ok (τ (e x)) s ∧ ∃ y s', V.e elt (τ (e x)) s = .ok (f y) s' ∧ ok x y ∧ Tin s' a (c + d) ∧ Cl s' ∧ Fr a s s') : ∀ (r : List α) (i m : Nat) (acc : List PV) (st : Sto) (c : Nat), st[k]? = some (.lst (l.map e)) → l.drop i = r → r.length < m → Tin st a c → Cl st → c + d * r.length + 2000 < 1000000 →
    ∃ (ys : List (α × β)) (s' : Sto), compGo V elt tg none σ m (.one (.live k i)) acc st = .ok (acc.reverse ++ ys.map fun p => f p.2) s' ∧ ys.map (·.1) = r ∧ (∀ p ∈ ys, ok p.1 p.2) ∧ Tin s' a (c + d * r.length) ∧ Cl s' ∧ Fr a st s'
  | [], i, m + 1, acc, st, c, hk, hr, _, ht, hc, _ => by
    have e1 : (l.map e)[i]? = none := by simp; exact List.drop_eq_nil_iff.mp hr
    exact ⟨[], st, by simp [compGo, Wk.next, Sr.next, hk, e1], rfl, by simp, by simpa using ht, hc, .rfl'⟩
  | x :: r, i, m + 1, acc, st, c, hk, hr, hm, ht, hc, hcc => by
    have hx : l[i]? = some x := by rw [← List.head?_drop, hr]; rfl
    have e1 : (l.map e)[i]? = some (e x) := by rw [List.getElem?_map, hx]; rfl
    have hd : l.drop (i + 1) = r := by rw [← List.drop_drop, hr]; rfl
    have hmul : d * (r.length + 1) = d * r.length + d := Nat.mul_succ ..
    simp only [List.length_cons] at hcc ⊢
    obtain ⟨h1, y, s1, h2, h3, h4, h5, h6⟩ := h x (List.mem_of_getElem? hx) st c ht hc (by omega)
    obtain ⟨ys, s', e2, e3, e4, e5, e6, e7⟩ := comp_liveD τ hka l h r (i + 1) m (f y :: acc) s1 (c + d) (h6.get hka hk) hd (by simpa using hm) h4 h5 (by omega)
    refine ⟨(x, y) :: ys, s', ?_, by simp [e3], fun p hp => ?_, e5.mono (by omega), e6, h6.tr e7⟩
    · simp only [compGo, Wk.next, Sr.next, hk, e1, h1, nx_ok, rb_ok, h2, e2]
      simp
    · rcases List.mem_cons.mp hp with rfl | hp
      · exact h3
      · exact e4 p hp
/-- .. over a range -/
theorem comp_rngD {elt : Ex} {tg : Tg} {β : Type} {f : β → PV} {ok : β → Prop} (τ : PV → Rf.Loc) {a d : Nat}
    (h : ∀ (x : Int) s c, Tin s a c → Cl s → c + 5000 < 1000000 → V.t tg (.int x) σ s = .ok (τ (.int x)) s ∧ ∃ y s', V.e elt (τ (.int x)) s = .ok (f y) s' ∧ ok y ∧ Tin s' a (c + d) ∧ Cl s' ∧ Fr a s s') : ∀ (k : Nat) (lo : Int) (m : Nat) (acc : List PV) (st : Sto) (c : Nat), k < m → Tin st a c → Cl st → c + d * k + 5000 < 1000000 →
    ∃ (ys : List β) (s' : Sto), compGo V elt tg none σ m (.rng lo k) acc st = .ok (acc.reverse ++ ys.map f) s' ∧ ys.length = k ∧ (∀ p ∈ ys, ok p) ∧ Tin s' a (c + d * k) ∧ Cl s' ∧ Fr a st s'
  | 0, lo, m + 1, acc, st, c, _, ht, hc, _ => ⟨[], st, by simp [compGo, Wk.next], rfl, by simp, by simpa using ht, hc, .rfl'⟩
  | k + 1, lo, m + 1, acc, st, c, hm, ht, hc, hcc => by
    have hmul : d * (k + 1) = d * k + d := Nat.mul_succ ..
    obtain ⟨h1, y, s1, h2, h3, h4, h5, h6⟩ := h lo st c ht hc (by omega)
    obtain ⟨ys, s', e2, e3, e4, e5, e6, e7⟩ := comp_rngD τ h k (lo + 1) m (f y :: acc) s1 (c + d) (by omega) h4 h5 (by omega)
    refine ⟨y :: ys, s', ?_, by simp [e3], fun p hp => ?_, e5.mono (by omega), e6, h6.tr e7⟩
    · simp only [compGo, Wk.next, h1, nx_ok, rb_ok, h2, e2]
      simp
    · rcases List.mem_cons.mp hp with rfl | hp
      · exact h3
      · exact e4 p hp
end
end W79
end
section
set_option linter.all false
set_option maxRecDepth 20000
set_option maxHeartbeats 4000000
/-! W24: the most general one and another behind it -/
namespace W79
open PySem Rf
/-- homes of a row that meet -/
structure Row (l : List T) (FL : List (Nat × T)) (th : Nat → T) (md : T) : Prop where
  len : l.length = 2 ∨ l.length = 3
  pl : ∀ h ∈ l, h.pl ≤ 4
  at5 : ∀ h ∈ l, h.atl 5
  eq : ∀ h ∈ l, sub th h = md
  fok : FOk FL 9
  ff : ∀ n, tbF FL n = th n
  fkey : ∀ n ∈ ks FL, n < 5
  mhd : md.hd ≤ 9
  mpl : md.pl ≤ 512
  m5 : md.atl 5
  thsm : ∀ n, (th n).hd ≤ 9 ∧ (th n).pl ≤ 512
theorem hd_sub_le {s : Nat → T} {k : Nat} : ∀ {t : T}, (∀ n ∈ t.row, (s n).hd ≤ k) → (sub s t).hd ≤ t.hd + k
  | .v n, h => by have := h n (by simp); simp; omega
  | .a x y, h => by
    have h1 := hd_sub_le (s := s) (t := x) fun n hn => h n (by simp [hn])
    have h2 := hd_sub_le (s := s) (t := y) fun n hn => h n (by simp [hn])
    simp; omega
theorem pl_sub_le {s : Nat → T} {k : Nat} : ∀ {t : T}, (∀ n ∈ t.row, (s n).pl ≤ k) → (sub s t).pl ≤ t.pl * k
  | .v n, h => by have := h n (by simp); simp; omega
  | .a x y, h => by
    have h1 := pl_sub_le (s := s) (t := x) fun n hn => h n (by simp [hn])
    have h2 := pl_sub_le (s := s) (t := y) fun n hn => h n (by simp [hn])
    simp only [sub_a, T.pl_a, Nat.add_mul]; omega
theorem lk_of_mem {M : List (Nat × T)} (hn : (ks M).Nodup) {p : Nat × T} (hp : p ∈ M) : lk M p.1 = some p.2 := by
  induction M with
  | nil => simp at hp
  | cons q M ih =>
    rw [lk_cons]
    simp only [ks, List.map_cons, List.nodup_cons] at hn
    rcases List.mem_cons.mp hp with rfl | hp
    · simp
    · have : ¬ q.1 = p.1 := fun e => hn.1 (e ▸ List.mem_map_of_mem hp)
      rw [if_neg this]
      exact ih hn.2 hp
theorem case_self {M : List (Nat × T)} (hn : (ks M).Nodup) : (ks M).map (fun n => (n, tbF M n)) = M := by
  unfold ks
  rw [List.map_map]
  conv => rhs; rw [← List.map_id M]
  refine List.map_congr_left fun p hp => ?_
  have := lk_of_mem hn hp
  simp [tbF, this]
theorem two_of {l : List T} (h : l.length = 2) : ∃ x y, l = [x, y] := by
  match l, h with
  | [x, y], _ => exact ⟨x, y, rfl⟩
section
variable {st : Sto} {j a : Nat}
theorem general_pv {l : List T} {FL : List (Nat × T)} {th : Nat → T} {md : T} {c : Nat} (R : Row l FL th md) (hj : 36 ≤ j) (ht : Tin st a c) (hc : Cl st) (hcc : c + 10000 < 1000000)
    (h33 : ∀ h0 h1, l = [h0, h1] → ∀ s, Cl s → cl j 33 [pv h0, pv h1] s = .ok (pv (pln md)) s) :
    ∃ st', cl (j + 2) 57 [.obj a, .tup (l.map pv), fv FL, pv md] st = .ok (.bl true) st' ∧ Tin st' a (c + 200) ∧ Fr a st st' ∧ Cl st' ∧ st'.length = st.length := by
  have ha := ht.lt
  obtain ⟨j, rfl⟩ : ∃ i, j = i + 1 := ⟨j - 1, by omega⟩
  have hmok : md.ok := ⟨by have := R.mhd; omega, by have := R.mpl; omega⟩
  have hrl : md.row.length < 999 := by rw [T.row_len]; have := R.mpl; omega
  have hr5 : (sN md.row).length ≤ 5 := sN_len R.m5
  have hll : l.length < 2000 := by rcases R.len with h | h <;> omega
  -- more
  have hrow := row_in_pv (j := j + 2) (t := md) (st := st) hmok (by have := R.mhd; omega) 47 (.inr rfl)
  have hss := sortset_row (st := st) hrl (by omega : (sN md.row).length < 64) true
  let K : List Nat := sN md.row
  let st1 : Sto := st ++ [.lst (K.map iv)]
  have hc1 : Cl st1 := closed_app hc fun o ho n => by simp at ho; subst ho; exact under_ivs _ _
  obtain ⟨ys, W1, e1, y1, y2, t1, c1, f1⟩ := comp_liveD (V := evN P79.pg (cl (j + 2)) 100000 197) (σ := [some (.obj a), some (.tup (l.map pv)), some (fv FL), some (pv md), none, none, none, none, none, none]) (elt := .tup [(.var 8), (.call 45 [(.var 0), (.lit (.int (2))), (.lit (.int (3)))])]) (tg := .name 8) (e := iv) (f := pr) (ok := fun (n : Nat) (y : Nat × T) => y.1 = n ∧ y.2.pl ≤ 2 ∧ y.2.atl 3)
    (fun x => [some (.obj a), some (.tup (l.map pv)), some (fv FL), some (pv md), none, none, none, none, some x, none]) (a := a) (k := st.length) (d := dr 2) (by omega) K (fun n hn s c2 q1 q2 q3 => by
      obtain ⟨t, s', z1, z2, z3, z4, z5, z6, z7⟩ := home_pv (a := a) (ends := 3) (by omega) (by omega) 2 (j := j + 2) q1 q2 (by omega) (by omega) (by omega) (by omega)
      have z1' : cl (j + 2) 45 [.obj a, .int 2, .int 3] s = .ok (pv t) s' := z1
      exact ⟨by simp, (n, t), s', by simp [z1', pr], ⟨rfl, z2, z3⟩, z4, z6, z5⟩) K 0 100000 [] st1 c (by simp [st1]) rfl (by show (sN md.row).length < _; omega) (ht.app _) hc1 (by
      have : dr 2 = 38 := rfl
      have : K.length ≤ 5 := hr5
      have : dr 2 * K.length ≤ 38 * 5 := Nat.mul_le_mul (by omega) this
      omega)
  let M : List (Nat × T) := ys.map (·.2)
  have hksM : ks M = K := by
    have : ∀ (ys : List (Nat × (Nat × T))), (∀ p ∈ ys, p.2.1 = p.1) → ks (ys.map (·.2)) = ys.map (·.1) := by
      intro ys h
      unfold ks
      rw [List.map_map]
      exact List.map_congr_left fun p hp => h p hp
    rw [← y1]
    exact this ys fun p hp => (y2 p hp).1
  have hM : ∀ q ∈ M, q.2.pl ≤ 2 ∧ q.2.atl 3 := fun q hq => by
    obtain ⟨p, hp, rfl⟩ := List.mem_map.mp hq
    exact (y2 p hp).2
  have hMn : (ks M).Nodup := by rw [hksM]; exact nodup_lt (sN_lt _)
  have hMk : FOk M 1 := by
    refine ⟨by rw [hksM]; exact sN_lt _, fun q hq => ?_, ?_⟩
    · have h1 := (hM q hq).1
      have h2 := T.hd_pl q.2
      exact ⟨⟨by omega, by omega⟩, by omega⟩
    · have : M.length = (ks M).length := (List.length_map ..).symm
      rw [this, hksM]
      show (sN md.row).length < _
      omega
  let mu : Nat → T := tbF M
  have hmu : ∀ n, (mu n).hd ≤ 1 ∧ (mu n).pl ≤ 2 := fun n => by
    show (tbF M n).hd ≤ 1 ∧ (tbF M n).pl ≤ 2
    unfold tbF
    cases e : lk M n with
    | none => simp
    | some u =>
      obtain ⟨p, hp, rfl⟩ := lk_mem e
      have h1 := (hM p hp).1
      have h2 := T.hd_pl p.2
      simp
      omega
  have big1 : ∀ t : T, t.hd ≤ 9 → t.pl ≤ 512 → (sub mu t).hd ≤ 10 ∧ (sub mu t).pl ≤ 1024 := fun t h1 h2 => by
    have h3 := hd_sub_le (s := mu) (k := 1) (t := t) fun n _ => (hmu n).1
    have h4 := pl_sub_le (s := mu) (k := 2) (t := t) fun n _ => (hmu n).2
    omega
  have hfar := big1 md R.mhd R.mpl
  have hfok : (sub mu md).ok := ⟨by omega, by omega⟩
  have hM5 : ∀ n ∈ ks M, n < 5 := fun n hn => by rw [hksM] at hn; exact R.m5 n (sN_mem.mp hn)
  have hkl : (ks FL ++ ks M).length < 64 := by
    have h1 : (ks FL).length ≤ 5 := by
      have := nodup_le (nodup_lt R.fok.lt) (m := List.range 5) fun n hn => List.mem_range.mpr (R.fkey n hn)
      simpa using this
    rw [List.length_append, hksM]
    show _ + (sN md.row).length < _
    omega
  have hwok : ∀ n ∈ ks FL ++ ks M, (sub (tbF M) (tbF FL n)).ok := fun n _ => by
    rw [R.ff n]
    have := big1 (th n) (R.thsm n).1 (R.thsm n).2
    exact ⟨by have := this.1; show (sub mu (th n)).hd ≤ 12; omega, by have := this.2; show (sub mu (th n)).pl ≤ 2000; omega⟩
  have hput := put_behind_pv (j := j + 1) (st := W1) R.fok hMk hkl hwok (by omega) (by omega) c1
  let Wh : List (Nat × T) := fill (sN (ks FL ++ ks M)) fun n => sub (tbF M) (tbF FL n)
  have hWt : ∀ n, tbF Wh n = if n ∈ ks FL ++ ks M then sub mu (th n) else .v n := fun n => by
    show tbF (fill _ _) n = _
    rw [tbF_fill]
    simp only [sN_mem, R.ff]
    rfl
  have hWf : ∀ h ∈ l, sub (tbF Wh) h = sub mu md := fun h hh => by
    rw [← R.eq h hh, sub_sub]
    refine sub_congr fun n hn => ?_
    rw [hWt]
    split
    · rfl
    · rename_i hno
      simp only [List.mem_append, not_or] at hno
      have hv : th n = .v n := by
        rw [← R.ff n]
        unfold tbF
        rw [lk_none_ks.mpr hno.1]
        rfl
      have hin : n ∈ md.row := by
        rw [← R.eq h hh]
        exact sub_row.mpr ⟨n, hn, by rw [hv]; simp⟩
      exact absurd (by rw [hksM]; exact sN_mem.mpr hin) hno.2
  have hWok : FOk Wh 10 := by
    refine ⟨?_, fun p hp => ?_, ?_⟩
    · show (ks (fill _ _)).Pairwise _
      rw [ks_fill]
      exact (sN_lt _).filter _
    · obtain ⟨hp1, hp2⟩ := fill_mem hp
      have h1 := hwok p.1 (sN_mem.mp hp1)
      rw [hp2]
      refine ⟨h1, ?_⟩
      rw [R.ff]
      exact (big1 (th p.1) (R.thsm p.1).1 (R.thsm p.1).2).1
    · have h1 : Wh.length ≤ (sN (ks FL ++ ks M)).length := by
        show (fill _ _).length ≤ _
        unfold fill
        rw [List.length_map]
        exact List.length_filter_le _ _
      have h2 : (sN (ks FL ++ ks M)).length ≤ 5 := sN_len fun n hn => by
        rcases List.mem_append.mp hn with h | h
        · exact R.fkey n h
        · exact hM5 n h
      omega
  have hfarW : (l.map fun h => pv (sub (tbF Wh) h)) = List.replicate l.length (pv (sub mu md)) := by
    have : ∀ l' : List T, (∀ h ∈ l', h ∈ l) → (l'.map fun h => pv (sub (tbF Wh) h)) = List.replicate l'.length (pv (sub mu md)) := by
      intro l'
      induction l' with
      | nil => intro _; rfl
      | cons x l' ih => intro hs; rw [List.map_cons, hWf x (hs x (by simp)), ih fun h hh => hs h (by simp [hh])]; rfl
    exact this l fun _ h => h
  have hfv : PV.tup (ys.map fun p => pr p.2) = fv M := by
    show _ = PV.tup ((ys.map (·.2)).map pr)
    rw [List.map_map]
    rfl
  have hs1 : blOf .sortset [.tup (md.row.map iv)] st = .ok (.obj st.length) st1 := hss
  have hk1 : st1[st.length]? = some (.lst (K.map iv)) := by simp [st1]
  have hput' : cl (j + 2) 25 [fv FL, fv M] W1 = .ok (fv Wh) W1 := hput
  clear_value Wh
  clear_value M
  rw [cl, call_eq P79.f57 57 _ _ rfl rfl]
  simp [P79.f57, blSeqB, hrow, hs1, hk1]
  rw [e1]
  simp only [List.reverse_nil, List.nil_append, rb_ok, blSeq, hfv, rf_ok, fs_nx]
  simp [hput']
  have hmdr : md.atl 1000000 := fun n hn => by have := R.m5 n hn; omega
  obtain ⟨far, hfr⟩ : ∃ far, far = sub mu md := ⟨_, rfl⟩
  rw [← hfr] at hfar hfok hfarW
  have hn2 : 2 ≤ l.length ∧ l.length ≤ 3 := by rcases R.len with h | h <;> omega
  obtain ⟨n, hn⟩ : ∃ n, n = l.length := ⟨_, rfl⟩
  rw [← hn] at hfarW hn2
  have hX0 : ∀ s : Sto, ∀ k, s[k]? = some (.lst (List.replicate n (pv far))) → item (.obj k) (.int 0) s = some (pv far) := fun s k h => by
    have : ixOf (List.replicate n (pv far)).length 0 = some 0 := by simp [ixOf]; omega
    simp only [item, h, atI, this, Option.bind_some]
    rw [List.getElem?_replicate]
    simp
    omega
  have g0 : (W1 ++ [MO.lst (List.replicate n (pv far))])[W1.length]? = some (.lst (List.replicate n (pv far))) := get_app _ _ 0
  have g1 : (W1 ++ [MO.lst (List.replicate n (pv far)), .lst [pv far]])[W1.length]? = some (.lst (List.replicate n (pv far))) := get_app _ _ 0
  have g1b : (W1 ++ [MO.lst (List.replicate n (pv far)), .lst [pv far]])[W1.length + 1]? = some (.lst [pv far]) := get_app _ _ 1
  obtain ⟨WW, hWW⟩ : ∃ WW, WW = W1 ++ [MO.lst (List.replicate n (pv far)), .lst [pv far], .lst (List.replicate n (pv far))] := ⟨_, rfl⟩
  have g2 : WW[W1.length]? = some (.lst (List.replicate n (pv far))) := by rw [hWW]; exact get_app _ _ 0
  have g2b : WW[W1.length + 2]? = some (.lst (List.replicate n (pv far))) := by rw [hWW]; exact get_app _ _ 2
  have hcW : Cl WW := by
    rw [hWW]
    refine closed_app c1 fun o ho k => ?_
    have hr : MO.under k (.lst (List.replicate n (pv far))) = true := by
      simp only [MO.under]
      exact unders_of fun x hx => by rw [(List.mem_replicate.mp hx).2]; exact under_pv _ _
    simp only [List.mem_cons, List.not_mem_nil, or_false] at ho
    rcases ho with rfl | rfl | rfl
    · exact hr
    · simp [MO.under, PV.unders, under_pv]
    · exact hr
  have hmul : binop .mul (.obj (W1.length + 1)) (.int n) (W1 ++ [MO.lst (List.replicate n (pv far)), .lst [pv far]]) = .ok (.obj (W1.length + 2)) WW := by
    rw [mul_L g1b (by omega), hWW]
    simp
  have heq := eqD_same g2 g2b (by omega : far.hd ≤ 25)
  have hlen6 : blOf .len [.obj W1.length] (W1 ++ [MO.lst (List.replicate n (pv far)), .lst [pv far]]) = .ok (.int n) (W1 ++ [MO.lst (List.replicate n (pv far)), .lst [pv far]]) := by simp [blOf, g1, blSeq]
  have hit0 := hX0 _ _ g0
  have hit2 := hX0 _ _ g2
  have hpm : cl (j + 2) 23 [pv md, fv M] WW = .ok (pv far) WW := by
    rw [hfr]
    exact put_home_pv (j := j + 1) hmok hMk (by omega) (by have := R.mhd; omega) hcW
  have heq2 : eqD (pv far) (pv far) WW = some true := by
    rw [eqD_pv (by omega) (by omega)]
    simp
  have hcase : cl (j + 2) 35 [pv md, pv far] WW = .ok (.bl true) WW := by
    rw [hfr]
    exact is_case_pv (j := j + 1) (s := mu) hmok (by rw [← hfr]; exact hfok) hmdr (by have := R.mhd; omega) (by rw [← hfr]; omega) hcW
  have htup : blOf .tuple [.obj W1.length] WW = .ok (.tup (List.replicate n (pv far))) WW := by simp [blOf, g2, blSeq]
  have hcases : cl (j + 2) 39 [.tup (l.map pv), .tup (List.replicate n (pv far))] WW = .ok (.bl true) WW := by
    rw [← hfarW]
    refine are_cases_pv (j := j + 1) (s := tbF Wh) (fun t ht => ?_) hll (by omega) hcW
    have e := hWf t ht
    rw [← hfr] at e
    have h4 := R.pl t ht
    have := T.hd_pl t
    rw [e]
    exact ⟨small_ok h4, hfok, fun k hk => by have := R.at5 t ht k hk; omega, by omega, by omega⟩
  have hcm : caseF mu md = M := by
    show (sN md.row).map _ = M
    have : sN md.row = ks M := hksM.symm
    rw [this]
    exact case_self hMn
  have hfill : cl (j + 2) 54 [.int 2, pv md, pv far] WW = .ok (fv M) WW := by
    refine heard2 (j := j + 1) ?_
    have := filling_to_pv (j := j) (s := mu) (st := WW) hmok (by rw [← hfr]; exact hfok) hmdr (by have := R.mhd; omega) (by rw [← hfr]; omega) (by omega) hcW
    rw [hcm, ← hfr] at this
    exact this
  have heq3 : eqD (fv M) (fv M) WW = some true := eqD_refl (okP_fv fun p hp => by have := (hMk.ok p hp).2; omega)
  have fW : Fr a st WW := by rw [hWW]; exact ((Fr.app _).tr f1).tr (.app _)
  have tW : Tin WW a (c + 200) := by
    rw [hWW]
    refine (t1.app _).mono ?_
    have h1 : dr 2 = 38 := rfl
    have h2 : K.length ≤ 5 := hr5
    have h3 : dr 2 * K.length ≤ 38 * 5 := Nat.mul_le_mul (by omega) h2
    omega
  obtain ⟨st', z1, z2, z3, z4, z5⟩ := trim_fr (c := c + 200) (v := .bl true) hc ha fW tW rfl
  refine ⟨st', ?_, z4, z3, z5, z2⟩
  rw [← z1]
  rw [comp_mapA (fun x => [some (.obj a), some (.tup (l.map pv)), some (fv FL), some (pv md), some (fv M), some (fv Wh), none, none, none, some x]) (f := fun h => pv (sub (tbF Wh) h)) l 100000 [] (by omega) (fun h hh => ⟨by simp, by
    have h4 := R.pl h hh
    have := T.hd_pl h
    have := put_home_pv (j := j + 1) (t := h) (st := W1) (small_ok h4) hWok (by omega) (by omega) c1
    simp [this]⟩)]
  simp only [List.reverse_nil, List.nil_append, hfarW, rb_ok, rf_ok, fs_nx, List.set_cons_succ, List.set_cons_zero, List.getElem?_cons_succ, List.getElem?_cons_zero, hit0, o_some, List.length_cons, List.length_nil, Nat.zero_add, big_1, if_true, List.append_assoc, List.cons_append, List.length_append, hlen6, hmul, heq, Option.map_some, Bool.not_true, Rf.truthy, hit2, hpm, heq2, hcase, htup, hcases, hfill, heq3, bl_lenT, List.length_map, ← hn]
  rcases R.len with h | h
  · have hn' : n = 2 := by omega
    obtain ⟨h0, h1, hl2⟩ := two_of h
    clear hcases hfarW hWf hll e1
    subst hl2
    have hm := heard1 (b := true) (h33 h0 h1 rfl WW hcW)
    simp only [if_true] at hm
    have hp := plain_home_pv (j := j + 1) (t := md) (st := WW) hmok (by have := R.mhd; omega) hcW
    have hpm : eqD (pv (pln md)) (pv (pln md)) WW = some true := by
      have : (pln md).hd ≤ md.hd := by
        have := hd_sub_le (s := fun m => T.v (nmF (fnm md.row) m)) (k := 0) (t := md) fun _ _ => by simp
        simpa [pln, ren] using this
      rw [eqD_pv (by have := R.mhd; omega) (by have := R.mhd; omega)]
      simp
    subst hn'
    simp [Rf.truthy, hm, hp, hpm]
  · have hn' : n = 3 := by omega
    subst hn'
    simp [Rf.truthy]
end
end W79
end
section
set_option linter.all false
set_option maxRecDepth 20000
/-! U6: what a row of drawn homes comes to -/
namespace W79
open PySem Rf
def A5 : List Nat := [0, 1, 2, 3, 4]
theorem mem_A5 {n : Nat} : n ∈ A5 ↔ n < 5 := by simp [A5]; omega
variable {S : List T} {A : List Nat} {th : Nat → T} {rk : Nat → Nat} {tb : Tab}
theorem Gd.atoms (g : Gd S th rk tb) (a : At A tb) : ∀ n, n ∈ A → ∀ m ∈ (th n).row, m ∈ A := by
  have key : ∀ (k n : Nat), rk n ≤ k → n ∈ A → ∀ m ∈ (th n).row, m ∈ A := by
    intro k
    induction k with
    | zero =>
      intro n hn hA m hm
      cases e : lk tb n with
      | none => rw [g.out n e] at hm; simp at hm; rw [hm]; exact hA
      | some u => have := g.rank _ _ e u.gl (T.gl_row u); omega
    | succ k ih =>
      intro n hn hA m hm
      cases e : lk tb n with
      | none => rw [g.out n e] at hm; simp at hm; rw [hm]; exact hA
      | some u =>
        rw [g.sat n u e, sub_row] at hm
        obtain ⟨q, h1, h2⟩ := hm
        have := g.rank _ _ e q h1
        exact ih q (by omega) (a.row _ _ e q h1) m h2
  exact fun n => key _ n (Nat.le_refl _)
theorem three_of {l : List T} (h : l.length = 3) : ∃ x y z, l = [x, y, z] := by
  match l, h with
  | [x, y, z], _ => exact ⟨x, y, z, rfl⟩
abbrev prs (l : List T) : List (T × T) := l.zip (l.drop 1)
abbrev Sof (l : List T) : List T := l.flatMap asub
/-- homes of a row -/
structure Hs (l : List T) : Prop where
  len : l.length = 2 ∨ l.length = 3
  pl : ∀ h ∈ l, h.pl ≤ 4
  at5 : ∀ h ∈ l, h.atl 5
theorem Hs.s9 {l : List T} (h : Hs l) : (Sof l).length ≤ 9 := by
  rcases h.len with hl | hl
  · obtain ⟨x, y, rfl⟩ := two_of hl
    have h1 := h.pl x (by simp); have h2 := h.pl y (by simp)
    have l1 := asub_len x; have l2 := asub_len y
    simp [Sof]; omega
  · obtain ⟨x, y, z, rfl⟩ := three_of hl
    have h1 := h.pl x (by simp); have h2 := h.pl y (by simp); have h3 := h.pl z (by simp)
    have l1 := asub_len x; have l2 := asub_len y; have l3 := asub_len z
    simp [Sof]; omega
theorem prs_mem {l : List T} {p : T × T} (h : p ∈ prs l) : p.1 ∈ l ∧ p.2 ∈ l := by
  have := List.of_mem_zip h
  exact ⟨this.1, List.mem_of_mem_drop this.2⟩
theorem Hs.kn {l : List T} (h : Hs l) : Kn (Sof l) A5 (prs l) := fun p hp => by
  obtain ⟨h1, h2⟩ := prs_mem hp
  exact ⟨fun r hr => List.mem_flatMap.mpr ⟨_, h1, hr⟩, fun r hr => List.mem_flatMap.mpr ⟨_, h2, hr⟩, fun m hm => mem_A5.mpr (h.at5 _ h1 m hm), fun m hm => mem_A5.mpr (h.at5 _ h2 m hm)⟩
/-- the program's and the law's meeting -/
theorem Hs.met {l : List T} (h : Hs l) : ∃ b tb th tbL thL p, Uns (Sof l) A5 (prs l) [] tb b ∧ Res (Sof l) A5 (prs l) tb b th ∧ Un (Sof l) A5 (prs l).reverse [] p tbL b ∧ p < 400 ∧ Res (Sof l) A5 (prs l) tbL b thL := by
  obtain ⟨tb, b, th, u, r⟩ := uns_res h.s9 h.kn
  have row : ∀ x ∈ l, ∀ m ∈ x.row, m ∈ A5 := fun x hx m hm => mem_A5.mpr (h.at5 x hx m hm)
  have law : ∃ p tbL bL thL, Un (Sof l) A5 (prs l).reverse [] p tbL bL ∧ p < 400 ∧ Res (Sof l) A5 (prs l) tbL bL thL := by
    rcases h.len with hl | hl
    · obtain ⟨x, y, rfl⟩ := two_of hl
      obtain ⟨q, tb, b, th, u, hq, r⟩ := law1 (A := A5) (h.pl x (by simp)) (h.pl y (by simp)) (row x (by simp)) (row y (by simp))
      have e : Sof [x, y] = asub x ++ asub y := by simp [Sof]
      rw [e]
      exact ⟨q, tb, b, th, u, by omega, r⟩
    · obtain ⟨x, y, z, rfl⟩ := three_of hl
      obtain ⟨q, tb, b, th, u, hq, r⟩ := law2 (A := A5) (h.pl x (by simp)) (h.pl y (by simp)) (h.pl z (by simp)) (row x (by simp)) (row y (by simp)) (row z (by simp))
      have e : Sof [x, y, z] = asub x ++ asub y ++ asub z := by simp [Sof]
      rw [e]
      exact ⟨q, tb, b, th, u, hq, r⟩
  obtain ⟨p, tbL, bL, thL, u2, hp, r2⟩ := law
  have hb : bL = b := by
    have h1 := r.iff
    have h2 := r2.iff
    cases b <;> cases bL <;> simp_all
  subst hb
  exact ⟨bL, tb, th, tbL, thL, p, u, r, u2, hp, r2⟩
theorem Res.all {l : List T} (h : Hs l) {tb : Tab} {th : Nat → T} (r : Res S A (prs l) tb true th) : ∀ x ∈ l, ∀ y ∈ l, sub th x = sub th y := by
  have e := r.eq
  rcases h.len with hl | hl
  · obtain ⟨x, y, rfl⟩ := two_of hl
    have h1 : sub th x = sub th y := e (x, y) (List.Mem.head _)
    intro a ha b hb
    simp at ha hb
    rcases ha with rfl | rfl <;> rcases hb with rfl | rfl <;> simp [h1]
  · obtain ⟨x, y, z, rfl⟩ := three_of hl
    have h1 : sub th x = sub th y := e (x, y) (List.Mem.head _)
    have h2 : sub th y = sub th z := e (y, z) (List.Mem.tail _ (List.Mem.head _))
    intro a ha b hb
    simp at ha hb
    rcases ha with rfl | rfl | rfl <;> rcases hb with rfl | rfl | rfl <;> simp [h1, h2]
/-- what is found -/
abbrev fnd (tb : Tab) (th : Nat → T) : List (Nat × T) := fill (sN (ks tb)) th
theorem Res.row {l : List T} (h : Hs l) {tb : Tab} {th : Nat → T} (r : Res (Sof l) A5 (prs l) tb true th) {x : T} (hx : x ∈ l) : Row l (fnd tb th) th (sub th x) := by
  obtain ⟨rk, g, a⟩ := r.gd rfl
  have hsm := g.small h.s9 (g.dagT (t := x) fun q hq => List.mem_flatMap.mpr ⟨x, hx, hq⟩)
  refine ⟨h.len, h.pl, h.at5, fun y hy => Res.all h r y hy x hx, found_ok g a h.s9 (by simp [A5]), found_tbF g, fun n hn => ?_, hsm.1, hsm.2, fun m hm => ?_, fun n => ?_⟩
  · rw [ks_fill] at hn
    exact mem_A5.mp (a.key n (sN_mem.mp (List.mem_filter.mp hn).1))
  · obtain ⟨n, h1, h2⟩ := sub_row.mp hm
    exact mem_A5.mp (g.atoms a n (mem_A5.mpr (h.at5 x hx n h1)) m h2)
  · have := g.small h.s9 (t := .v n) fun r hr => g.dagS n r hr
    simpa using this
/-- found, put behind itself -/
theorem fnd_self (g : Gd S th rk tb) : fill (sN (ks (fnd tb th) ++ ks (fnd tb th))) (fun n => sub (tbF (fnd tb th)) (tbF (fnd tb th) n)) = fnd tb th := by
  have e1 : sN (ks (fnd tb th) ++ ks (fnd tb th)) = ks (fnd tb th) := by
    refine strict_eq (fun x => by rw [sN_mem]; simp) (sN_lt _) ?_
    rw [ks_fill]
    exact (sN_lt _).filter _
  have e2 : ∀ n, sub (tbF (fnd tb th)) (tbF (fnd tb th) n) = th n := fun n => by
    rw [found_tbF g n]
    have : sub (tbF (fnd tb th)) (th n) = sub T.v (th n) := sub_congr fun m hm => by rw [found_tbF g m, g.out m (g.idem n m hm)]
    rw [this, sub_id]
  rw [e1]
  have e3 : (fun n => sub (tbF (fnd tb th)) (tbF (fnd tb th) n)) = th := funext e2
  rw [e3, ks_fill]
  unfold fill
  rw [List.filter_filter]
  simp [fnd, fill]
/-- its atoms stand in none of its homes -/
theorem fnd_apart (g : Gd S th rk tb) {p q : Nat × T} (hp : p ∈ fnd tb th) (hq : q ∈ fnd tb th) : p.1 ∉ q.2.row := by
  obtain ⟨h1, _⟩ := fill_mem hp
  obtain ⟨_, h3⟩ := fill_mem hq
  intro h
  rw [h3] at h
  have := g.idem _ _ h
  exact absurd (sN_mem.mp h1) (lk_none_ks.mp this)
end W79
end
section
set_option linter.all false
set_option maxRecDepth 20000
set_option maxHeartbeats 4000000
/-! W25: a row of homes, right: what comes first -/
namespace W79
open PySem Rf
theorem mix_uni {ys : List ((T × T) × (T × T))} {ps ps' : List (T × T)} (hp : ps'.Perm ps) (h1 : ys.map (·.1) = ps') (h2 : ∀ p ∈ ys, p.2 = p.1 ∨ p.2 = (p.1.2, p.1.1)) (s : Nat → T) : Uni s ps ↔ Uni s (ys.map (·.2)) := by
  have e1 : Uni s ps ↔ Uni s ps' := ⟨fun h p hq => h p (hp.mem_iff.mp hq), fun h p hq => h p (hp.mem_iff.mpr hq)⟩
  rw [e1, ← h1]
  constructor
  · intro h q hq
    obtain ⟨p, hp, rfl⟩ := List.mem_map.mp hq
    have h3 := h p.1 (List.mem_map_of_mem hp)
    rcases h2 p hp with e | e
    · rw [e]; exact h3
    · rw [e]; exact h3.symm
  · intro h q hq
    obtain ⟨p, hp, rfl⟩ := List.mem_map.mp hq
    have h3 := h p.2 (List.mem_map_of_mem hp)
    rcases h2 p hp with e | e
    · rw [e] at h3; exact h3
    · rw [e] at h3; exact h3.symm
theorem mix_kn {S : List T} {A : List Nat} {ys : List ((T × T) × (T × T))} {ps ps' : List (T × T)} (k : Kn S A ps) (hp : ps'.Perm ps) (h1 : ys.map (·.1) = ps') (h2 : ∀ p ∈ ys, p.2 = p.1 ∨ p.2 = (p.1.2, p.1.1)) : Kn S A (ys.map (·.2)) := by
  intro q hq
  obtain ⟨p, hpy, rfl⟩ := List.mem_map.mp hq
  have h3 := k p.1 (hp.mem_iff.mp (by rw [← h1]; exact List.mem_map_of_mem hpy))
  rcases h2 p hpy with e | e
  · rw [e]; exact h3
  · rw [e]; exact ⟨h3.2.1, h3.1, h3.2.2.2, h3.2.2.1⟩
section
variable {st : Sto} {j a : Nat}
theorem zip_prs (l : List T) : List.zipWith (fun a b => PV.tup [a, b]) (l.map pv) ((l.map pv).drop 1) = (prs l).map pp := by
  unfold prs
  rw [← List.map_drop]
  generalize l.drop 1 = m
  induction l generalizing m with
  | nil => simp
  | cons x l ih => cases m <;> simp [pp, ih]
theorem puB_pps {ps : List (T × T)} {k : Nat} (hl : ps.length < 1000) (h : ∀ q ∈ ps, q.1.pl ≤ 4 ∧ q.2.pl ≤ 4) (hk : 12 ≤ k) : puB k (.tup (ps.map pp)) = true := by
  obtain ⟨k, rfl⟩ : ∃ m, k = m + 2 := ⟨k - 2, by omega⟩
  have h3 : ps.length < 99999 := by omega
  simp only [puB, List.length_map, h3, decide_true, Bool.true_and, List.all_map]
  refine List.all_eq_true.mpr fun q hq => ?_
  obtain ⟨h1, h2⟩ := h q hq
  have d1 := T.hd_pl q.1
  have d2 := T.hd_pl q.2
  have e1 := puB_pv (k := k) (small_ok h1) (by omega)
  have e2 := puB_pv (k := k) (small_ok h2) (by omega)
  simp [pp, puB, e1, e2]
/-- the first rows of the body, up to the second hearing -/
theorem row_head {l : List T} (H : Hs l) {c : Nat} (hj : 40 ≤ j) (ht : Tin st a c) (hc : Cl st) (hcc : c + 20000 < 1000000) :
    ∃ (b : Bool) (tb tbL : Tab) (th thL : Nat → T) (i : Nat) (W1 W2 : Sto) (mx : List (T × T)) (tbM : Tab) (thM : Nat → T) (W5 : Sto) (rest : List Sm),
      Res (Sof l) A5 (prs l) tb b th ∧ Res (Sof l) A5 (prs l) tbL b thL ∧ Res (Sof l) A5 mx tbM b thM ∧ (∀ s, Uni s (prs l) ↔ Uni s mx) ∧
      W1 = st ++ [.lst ((prs l).map pp)] ∧ W2 = (if b = true then LG W1 tbL [] i else W1) ∧ Tin W5 a (c + 10) ∧ Cl W5 ∧ Fr a W2 W5 ∧ rest = P79.f56.body.drop 6 ∧
      callN P79.pg 100000 200 (j + 4) 56 [.obj a, .tup (l.map pv)] st = R.trim st.length (flR (stepSs P79.pg (evN P79.pg (cl (j + 3)) 100000 199) 100000 rest
        [some (.obj a), some (.tup (l.map pv)), some (if b = true then fv (fnd tbM thM) else .non), some (.obj st.length), some (if b = true then .obj W1.length else .non), some (if b = true then fv (fnd tb th) else .non), some (.tup (mx.map pp)), none, none, none, none, none, none, none, none] W5)) := by
  obtain ⟨b, tb, th, tbL, thL, p, u, r, uL, hp, rL⟩ := H.met
  have ha := ht.lt
  let ps := prs l
  have hpsl : ps.length ≤ 2 := by
    show (l.zip (l.drop 1)).length ≤ 2
    rw [List.length_zip, List.length_drop]
    rcases H.len with h | h <;> omega
  have hps4 : ∀ q ∈ ps, q.1.pl ≤ 4 ∧ q.2.pl ≤ 4 := fun q hq => ⟨H.pl _ (prs_mem hq).1, H.pl _ (prs_mem hq).2⟩
  have hkn := H.kn
  have hS : ∀ q ∈ ps, (∀ r ∈ asub q.1, r ∈ Sof l) ∧ ∀ r ∈ asub q.2, r ∈ Sof l := fun q hq => ⟨(hkn q hq).1, (hkn q hq).2.1⟩
  let W1 : Sto := st ++ [.lst (ps.map pp)]
  have hc1 : Cl W1 := closed_app hc fun o ho n => by simp at ho; subst ho; exact under_pps _ _
  have hP : W1[st.length]? = some (.lst (ps.map pp)) := by simp [W1]
  obtain ⟨i, hlaw⟩ := law_met_pv (j := j + 1) (st := W1) H.s9 (by simp [A5]) (by omega) hc1 hP uL hp (by omega) hS
  let W2 : Sto := if b = true then LG W1 tbL [] i else W1
  let v4 : PV := if b = true then .obj W1.length else .non
  have hlaw' : cl (j + 3) 52 [.obj st.length] W1 = .ok v4 W2 := by
    rw [hlaw]
    cases b <;> rfl
  have hc2 : Cl W2 := by
    show Cl (if b = true then LG W1 tbL [] i else W1)
    cases b
    · exact hc1
    · exact LG_cl tbL [] i hc1
  have f12 : Fr a W1 W2 := by
    show Fr a W1 (if b = true then LG W1 tbL [] i else W1)
    cases b
    · exact .rfl'
    · exact .app _
  have hPa : st.length ≠ a := by omega
  have hP2 : W2[st.length]? = some (.lst (ps.map pp)) := f12.get hPa hP
  have t2 : Tin W2 a c := by
    show Tin (if b = true then LG W1 tbL [] i else W1) a c
    cases b
    · exact ht.app _
    · exact (ht.app _).app _
  have hok4 : ∀ q ∈ ps, q.1.ok ∧ q.2.ok := fun q hq => ⟨small_ok (hps4 q hq).1, small_ok (hps4 q hq).2⟩
  have hmet := met_pv (j := j - 1) (st := W2) (th := th) H.s9 (by simp [A5]) (by omega) (tupled_pu (puB_pps (by omega) hps4 (by omega))) u (by omega) hS hok4 r.gd hc2
  have hh0 : cl (j + 3) 54 [.int 0, .tup (ps.map pp), .non] W2 = .ok (if b = true then fv (fnd tb th) else .non) W2 := by
    refine heard0 (j := j + 2) ?_
    have e : j - 1 + 3 = j + 2 := by omega
    rw [e] at hmet
    exact hmet
  -- mixed
  obtain ⟨k, ps', W3, e3, hperm, hk3, t3, f3, c3, hk4⟩ := pick_pv (j := j + 1) (g := st.length) t2 hc2 hP2 (by omega) (by omega)
  have hl2' : W2.length ≤ k := hk4
  have hka : k ≠ a := by have := f12.len; have : W1.length = st.length + 1 := by simp [W1]
                         omega
  obtain ⟨ys, W4, e4, y1, y2, t4, c4, f4⟩ := comp_liveD (V := evN P79.pg (cl (j + 3)) 100000 197) (σ := [some (.obj a), some (.tup (l.map pv)), none, some (.obj st.length), some v4, some (if b = true then fv (fnd tb th) else .non), none, none, none, none, none, none, none, none, none])
    (elt := .ife (.cmp .eq (.call 41 [(.var 0), (.lit (.int (2)))]) (.lit (.int (0)))) (.tup [(.ix (.var 11) (.lit (.int (1)))), (.ix (.var 11) (.lit (.int (0))))]) (.var 11)) (tg := .name 11) (e := pp) (f := pp) (ok := fun (x y : T × T) => y = x ∨ y = (x.2, x.1))
    (fun x => [some (.obj a), some (.tup (l.map pv)), none, some (.obj st.length), some v4, some (if b = true then fv (fnd tb th) else .non), none, none, none, none, none, some x, none, none, none]) (a := a) (k := k) (d := 1) hka ps' (fun q hq s c2 q1 q2 q3 => by
      obtain ⟨v, s', z1, z2, z3, z4, z5, z6, z7⟩ := take_pv (j := j + 2) (m := 2) q1 (by omega) (by omega) (by omega) q2
      refine ⟨by simp, ?_⟩
      by_cases hv : v = 0
      · exact ⟨(q.2, q.1), s', by simp [z1, hv, Rf.truthy, pp], .inr rfl, z4, z6, z5⟩
      · exact ⟨q, s', by simp [z1, hv, Rf.truthy], .inl rfl, z4, z6, z5⟩) ps' 0 100000 [] W3 (c + ps.length) hk3 rfl (by have := hperm.length_eq; omega) t3 c3 (by have := hperm.length_eq; omega)
  let mx : List (T × T) := ys.map (·.2)
  have hmu := mix_uni hperm y1 y2
  have hmk := mix_kn hkn hperm y1 y2
  have hmxl : mx.length = ps.length := by
    show (ys.map (·.2)).length = _
    rw [List.length_map, ← hperm.length_eq, ← y1, List.length_map]
  obtain ⟨tbM, bM, thM, uM, rM⟩ := uns_res H.s9 hmk
  have hbM : bM = b := by
    have h1 := r.iff
    have h2 := rM.iff
    have h3 : (∃ s, Uni s (prs l)) ↔ ∃ s, Uni s (ys.map (·.2)) := ⟨fun ⟨s, h⟩ => ⟨s, (hmu s).mp h⟩, fun ⟨s, h⟩ => ⟨s, (hmu s).mpr h⟩⟩
    cases b <;> cases bM <;> simp_all
  subst hbM
  have hmx4 : ∀ q ∈ mx, q.1.pl ≤ 4 ∧ q.2.pl ≤ 4 := fun q hq => by
    obtain ⟨p, hp, rfl⟩ := List.mem_map.mp hq
    have h3 := hps4 p.1 (hperm.mem_iff.mp (by rw [← y1]; exact List.mem_map_of_mem hp))
    rcases y2 p hp with e | e
    · rw [e]; exact h3
    · rw [e]; exact ⟨h3.2, h3.1⟩
  have hpum := puB_pps (k := j + 3) (by omega : mx.length < 1000) hmx4 (by omega)
  obtain ⟨v, m5, e5, l5, c5⟩ := lists_pv (st := W4) hpum c4
  have hmetM := met_pv (j := j - 1) (st := W4 ++ m5) (th := thM) H.s9 (by simp [A5]) (by omega) (tupled_lt l5 (puB_pps (by omega) hmx4 (by omega))) uM (by rw [hmxl]; omega) (fun q hq => ⟨(hmk q hq).1, (hmk q hq).2.1⟩) (fun q hq => ⟨small_ok (hmx4 q hq).1, small_ok (hmx4 q hq).2⟩) rM.gd c5
  have hhM : cl (j + 3) 54 [.int 0, v, .non] (W4 ++ m5) = .ok (if bM = true then fv (fnd tbM thM) else .non) (W4 ++ m5) := by
    refine heard0 (j := j + 2) ?_
    have e : j - 1 + 3 = j + 2 := by omega
    rw [e] at hmetM
    exact hmetM
  refine ⟨bM, tb, tbL, th, thL, i, W1, W2, mx, tbM, thM, W4 ++ m5, P79.f56.body.drop 6, r, rL, rM, hmu, rfl, rfl, (t4.mono (by have := hperm.length_eq; omega)).app _, c5, (f3.tr f4).tr (.app _), rfl, ?_⟩
  let V : Ev := evN P79.pg (cl (j + 3)) 100000 199
  let h5 : PV := if bM = true then fv (fnd tb th) else .non
  let σ0 : Rf.Loc := [some (.obj a), some (.tup (l.map pv)), none, none, none, none, none, none, none, none, none, none, none, none, none]
  let σ1 : Rf.Loc := [some (.obj a), some (.tup (l.map pv)), none, some (.obj st.length), none, none, none, none, none, none, none, none, none, none, none]
  let σ2 : Rf.Loc := [some (.obj a), some (.tup (l.map pv)), none, some (.obj st.length), some v4, some h5, none, none, none, none, none, none, none, none, none]
  let σ3 : Rf.Loc := [some (.obj a), some (.tup (l.map pv)), none, some (.obj st.length), some v4, some h5, some (.tup (mx.map pp)), none, none, none, none, none, none, none, none]
  let σ4 : Rf.Loc := [some (.obj a), some (.tup (l.map pv)), some (if bM = true then fv (fnd tbM thM) else .non), some (.obj st.length), some v4, some h5, some (.tup (mx.map pp)), none, none, none, none, none, none, none, none]
  have hll : l.length < 2000 := by rcases H.len with h | h <;> omega
  have s0 : stepS P79.pg V 100000 (.asg (.name 3) (.comp (.tup [(.var 10), (.var 2)]) (.tup [(.name 10), (.name 2)]) (.zip (.var 1) (.slice (.var 1) (some (.lit (.int (1)))) none)) none [9, 10, 2])) σ0 st = .nx σ1 W1 := by
    have hcut : cut (l.map pv) (some 1) none = (l.map pv).drop 1 := cut_drop (l.map pv) 1
    simp [V, σ0, σ1, sliceOf, hcut]
    rw [comp_zip (τ := fun x y => [some (.obj a), some (.tup (l.map pv)), some y, none, none, none, none, none, none, none, some x, none, none, none, none]) (f := fun x y => .tup [x, y]) _ _ 100000 [] (by simp; omega) (fun x y _ => ⟨by simp, by simp⟩)]
    simp only [List.reverse_nil, List.nil_append, rb_ok]
    rw [← List.drop_one, zip_prs]
    rfl
  have s1 : stepS P79.pg V 100000 (.asg (.tup [(.name 4), (.name 5)]) (.tup [(.call 52 [(.var 3)]), (.call 54 [(.lit (.int (0))), (.bl .tuple [(.var 3)]), (.lit .non)])])) σ1 W1 = .nx σ2 W2 := by
    have hh0' : cl (j + 3) 54 [.int 0, .tup (ps.map pp), .non] W2 = .ok h5 W2 := hh0
    simp [V, σ1, σ2, hlaw', hP2, blSeqB, blOf, blSeq, hh0']
  have s2 : stepS P79.pg V 100000 (.ife (.cmp .ne (.cmp .isN (.var 5) (.lit .non)) (.cmp .isN (.var 4) (.lit .non))) [(.ret (some (.lit (.bl false))))] []) σ2 W2 = .nx σ2 W2 := by
    simp only [h5, v4, σ2]
    cases bM <;> simp [V, Rf.cmpop, fv, Rf.truthy]
  have s3 : stepS P79.pg V 100000 (.asg (.name 6) (.bl .tuple [(.comp (.ife (.cmp .eq (.call 41 [(.var 0), (.lit (.int (2)))]) (.lit (.int (0)))) (.tup [(.ix (.var 11) (.lit (.int (1)))), (.ix (.var 11) (.lit (.int (0))))]) (.var 11)) (.name 11) (.seq (.call 43 [(.var 0), (.var 3), (.bl .len [(.var 3)])])) none [9, 11])])) σ2 W2 = .nx σ3 W4 := by
    have e3' : cl (j + 3) 43 [.obj a, .obj st.length, .int ps.length] W2 = .ok (.obj k) W3 := e3
    have hlen : blOf .len [.obj st.length] W2 = .ok (.int ps.length) W2 := by simp [blOf, hP2, blSeq]
    simp only [V, σ2, σ3, h5]
    simp [blSeqB, hlen, e3', hk3]
    rw [e4]
    simp [blSeq, mx]
  have s4 : stepS P79.pg V 100000 (.asg (.name 2) (.call 54 [(.lit (.int (0))), (.call 44 [(.var 6)]), (.lit .non)])) σ3 W4 = .nx σ4 (W4 ++ m5) := by
    simp [V, σ3, σ4, e5, hhM]
  have s5 : stepS P79.pg V 100000 (.ife (.cmp .ne (.cmp .isN (.var 2) (.lit .non)) (.cmp .isN (.var 5) (.lit .non))) [(.ret (some (.lit (.bl false))))] []) σ4 (W4 ++ m5) = .nx σ4 (W4 ++ m5) := by
    simp only [h5, v4, σ4]
    cases bM <;> simp [V, Rf.cmpop, fv, Rf.truthy]
  rw [cl, call_eq P79.f56 56 _ _ rfl rfl]
  show R.trim st.length (flR (stepSs P79.pg V 100000 P79.f56.body σ0 st)) = R.trim st.length (flR (stepSs P79.pg V 100000 (P79.f56.body.drop 6) σ4 (W4 ++ m5)))
  simp only [P79.f56, List.drop_succ_cons, List.drop_zero]
  rw [ss_cons, s0, fs_nx, ss_cons, s1, fs_nx, ss_cons, s2, fs_nx, ss_cons, s3, fs_nx, ss_cons, s4, fs_nx, ss_cons, s5, fs_nx]
end
end W79
end
section
set_option linter.all false
set_option maxRecDepth 20000
set_option maxHeartbeats 4000000
/-! W26: a row of homes, right: the rest -/
namespace W79
open PySem Rf
section
variable {st : Sto} {j a : Nat}
/-- two homes that meet: by the program and by the law -/
theorem met2 {A : List Nat} {x y : T} (p0 : x.pl ≤ 4) (p1 : y.pl ≤ 4) (r0 : ∀ m ∈ x.row, m ∈ A) (r1 : ∀ m ∈ y.row, m ∈ A) (h6 : A.length ≤ 6) :
    ∃ q tb b th, Res (asub x ++ asub y) A [(x, y)] tb b th ∧ Un (asub x ++ asub y) A [(x, y)] [] q tb b ∧ q ≤ 64 ∧
      (∀ j st, 24 ≤ j → Cl st → cl (j + 3) 33 [pv x, pv y] st = if b = true then .ok (pv (pln (sub th x))) st else .exc 1 [] st) := by
  obtain ⟨q, tb, b, th, u, hq, r⟩ := law1 (A := A) p0 p1 r0 r1
  have l0 := asub_len x
  have l1 := asub_len y
  refine ⟨q, tb, b, th, r, u, hq, fun j st hj hc => ?_⟩
  exact met_home_pv (by simp; omega) h6 u (by omega) (fun r hr => List.mem_append_left _ hr) (fun r hr => List.mem_append_right _ hr) (small_ok p0) (small_ok p1) r.gd hj hc
theorem Hs.row5 {l : List T} (h : Hs l) {x : T} (hx : x ∈ l) : ∀ m ∈ x.row, m ∈ A5 := fun m hm => mem_A5.mpr (h.at5 x hx m hm)
/-- none found -/
theorem tail_no {l : List T} (H : Hs l) {tb : Tab} {th : Nat → T} {v2 v4 v6 g : PV} (r : Res (Sof l) A5 (prs l) tb false th) (hj : 40 ≤ j) (hc : Cl st) :
    stepSs P79.pg (evN P79.pg (cl (j + 3)) 100000 199) 100000 (P79.f56.body.drop 6) [some (.obj a), some (.tup (l.map pv)), some v2, some g, some v4, some .non, some v6, none, none, none, none, none, none, none, none] st = .rt (.bl true) st := by
  rcases H.len with hl | hl
  · obtain ⟨x, y, rfl⟩ := two_of hl
    obtain ⟨q, tb2, b2, th2, r2, u2, hq, h33⟩ := met2 (H.pl x (by simp)) (H.pl y (by simp)) (H.row5 (by simp)) (H.row5 (by simp)) (by simp [A5])
    have hb : b2 = false := by
      have h1 := r.iff
      have h2 := r2.iff
      have e : prs [x, y] = [(x, y)] := rfl
      rw [e] at h1
      cases b2 <;> simp_all
    subst hb
    have h54 : cl (j + 3) 54 [.int 1, pv x, pv y] st = .ok .non st := by
      have := heard1 (j := j + 2) (h33 (j - 1) st (by omega) hc |> fun h => by
        have e : j - 1 + 3 = j + 2 := by omega
        rw [e] at h
        exact h)
      exact this
    have hlen : blOf .len [.tup [pv x, pv y]] st = .ok (.int 2) st := rfl
    simp [P79.f56, Rf.cmpop, Rf.truthy, blSeqB, hlen, h54]
  · obtain ⟨x, y, z, rfl⟩ := three_of hl
    have hlen : blOf .len [.tup [pv x, pv y, pv z]] st = .ok (.int 3) st := rfl
    simp [P79.f56, Rf.cmpop, Rf.truthy, blSeqB, hlen]
theorem ren_hd (f : Nat → Nat) (t : T) : (ren f t).hd = t.hd := by
  induction t with
  | v n => simp [ren]
  | a x y ih1 ih2 => unfold ren at *; simp [ih1, ih2]
theorem rep_of {l : List T} {s : Nat → T} {md : T} (h : ∀ x ∈ l, sub s x = md) : (l.map fun t => pv (sub s t)) = List.replicate l.length (pv md) := by
  induction l with
  | nil => rfl
  | cons x l ih => rw [List.map_cons, h x (by simp), ih fun y hy => h y (by simp [hy])]; rfl
theorem under_rep (n : Nat) (t : T) (k : Nat) : MO.under k (.lst (List.replicate n (pv t))) = true := unders_of fun x hx => by rw [(List.mem_replicate.mp hx).2]; exact under_pv _ _
theorem under_one (t : T) (k : Nat) : MO.under k (.lst [pv t]) = true := under_rep 1 t k
theorem cl_app1 {o : MO} (hc : Cl st) (h : ∀ k, MO.under k o = true) : Cl (st ++ [o]) := closed_app hc fun o' ho n => by simp at ho; subst ho; exact h n
theorem item_rep {n i : Nat} {t : T} {s : Sto} (h : s[i]? = some (.lst (List.replicate n (pv t)))) (hn : 1 ≤ n) (hn2 : n < 1000) : item (.obj i) (.int 0) s = some (pv t) := by
  obtain ⟨m, rfl⟩ : ∃ m, n = m + 1 := ⟨n - 1, by omega⟩
  simp [item, h, List.replicate_succ, atI, ixOf]
theorem len_rep {n i : Nat} {x : PV} {s : Sto} (h : s[i]? = some (.lst (List.replicate n x))) : blOf .len [.obj i] s = .ok (.int n) s := by
  simp [blOf, h, blSeq]
/-- all the same: the list is its first one so many times -/
theorem same_list {n i : Nat} {t : T} {s : Sto} (h : s[i]? = some (.lst (List.replicate n (pv t)))) (hn : 1 ≤ n) (hn2 : n < 1000) (ht : t.hd ≤ 25) {C : CallF} {σ : Rf.Loc} {v m : Nat} (hv : σ[v]? = some (some (.obj i))) :
    stepE P79.pg C 100000 (evN P79.pg C 100000 (m + 5)) (.cmp .ne (.var v) (.bin .mul (.lst [(.ix (.var v) (.lit (.int (0))))]) (.bl .len [(.var v)]))) σ s = .ok (.bl false) (s ++ [.lst [pv t], .lst (List.replicate n (pv t))]) := by
  have hi : i < s.length := (List.getElem?_eq_some_iff.mp h).1
  have g1 : (s ++ [MO.lst [pv t]])[i]? = some (.lst (List.replicate n (pv t))) := by rw [List.getElem?_append_left hi]; exact h
  have g2 : (s ++ [MO.lst [pv t]])[s.length]? = some (.lst [pv t]) := by simp
  have g3 : (s ++ [MO.lst [pv t], .lst (List.replicate n (pv t))])[i]? = some (.lst (List.replicate n (pv t))) := by rw [List.getElem?_append_left hi]; exact h
  have g4 : (s ++ [MO.lst [pv t], .lst (List.replicate n (pv t))])[s.length + 1]? = some (.lst (List.replicate n (pv t))) := get_app _ _ 1
  have hm := mul_L (n := n) g2 (by omega)
  have hq := eqD_same g3 g4 ht
  simp at hm
  simp [hv, item_rep h hn hn2, len_rep g1, blSeqB, hm, hq]
/-- found -/
theorem tail_yes {l : List T} (H : Hs l) {tb tbL tbM : Tab} {th thL thM : Nat → T} {mx : List (T × T)} {v6 g : PV} {d c : Nat} (r : Res (Sof l) A5 (prs l) tb true th) (rL : Res (Sof l) A5 (prs l) tbL true thL) (rM : Res (Sof l) A5 mx tbM true thM)
    (hmu : ∀ s, Uni s (prs l) ↔ Uni s mx) (hd : Dx st d tbL) (ht : Tin st a c) (hcc : c + 11000 < 1000000) (hj : 40 ≤ j) (hc : Cl st) :
    ∃ st', stepSs P79.pg (evN P79.pg (cl (j + 3)) 100000 199) 100000 (P79.f56.body.drop 6) [some (.obj a), some (.tup (l.map pv)), some (fv (fnd tbM thM)), some g, some (.obj d), some (fv (fnd tb th)), some v6, none, none, none, none, none, none, none, none] st = .rt (.bl true) st' ∧ Tin st' a (c + 200) ∧ Fr a st st' ∧ Cl st' := by
  have hll : l.length ≤ 3 ∧ 2 ≤ l.length := by rcases H.len with h | h <;> omega
  obtain ⟨h0, hm0, hi0⟩ : ∃ h0, h0 ∈ l ∧ ∀ s, item (.tup (l.map pv)) (.int 0) s = some (pv h0) := by
    match l, hll with
    | x :: l', _ => exact ⟨x, by simp, fun s => by simp⟩
  obtain ⟨rk, gd, at_⟩ := r.gd rfl
  obtain ⟨rkL, gdL, atL⟩ := rL.gd rfl
  obtain ⟨rkM, gdM, atM⟩ := rM.gd rfl
  have hsub : ∀ x ∈ l, ∀ q ∈ asub x, q ∈ Sof l := fun x hx q hq => List.mem_flatMap.mpr ⟨x, hx, hq⟩
  have sm := fun x hx => gd.small H.s9 (gd.dagT (t := x) (hsub x hx))
  have smL := fun x hx => gdL.small H.s9 (gdL.dagT (t := x) (hsub x hx))
  have smM := fun x hx => gdM.small H.s9 (gdM.dagT (t := x) (hsub x hx))
  let n := l.length
  obtain ⟨md, hmd⟩ : ∃ t, t = sub th h0 := ⟨_, rfl⟩
  obtain ⟨mdL, hmdL⟩ : ∃ t, t = sub thL h0 := ⟨_, rfl⟩
  have hr5L : ∀ n, rkL n < 199 := fun n => by
    have h1 := gdL.bnd n
    have h2 : tbL.length ≤ 5 := by
      have := nodup_le gdL.nd (m := A5) fun m hm => atL.key m hm
      simpa [ks, A5] using this
    have h3 : 2 ^ tbL.length ≤ 2 ^ 5 := Nat.pow_le_pow_right (by omega) h2
    omega
  have hF : FOk (fnd tb th) 9 := found_ok gd at_ H.s9 (by simp [A5])
  have hFM : FOk (fnd tbM thM) 9 := found_ok gdM atM H.s9 (by simp [A5])
  obtain ⟨F, hFe⟩ : ∃ F, F = fnd tb th := ⟨_, rfl⟩
  obtain ⟨FM, hFMe⟩ : ∃ F, F = fnd tbM thM := ⟨_, rfl⟩
  have fF : tbF F = th := by rw [hFe]; exact funext fun n => found_tbF gd n
  have fFM : tbF FM = thM := by rw [hFMe]; exact funext fun n => found_tbF gdM n
  have hR : Row l F th md := by rw [hFe, hmd]; exact Res.row H r hm0
  have hap : ∀ p ∈ F, ∀ q ∈ F, p.1 ∉ q.2.row := by rw [hFe]; exact fun p hp q hq => fnd_apart gd hp hq
  have hsf : fill (sN (ks F ++ ks F)) (fun n => sub (tbF F) (tbF F n)) = F := by rw [hFe]; exact fnd_self gd
  rw [← hFe, ← hFMe]
  rw [← hFe] at hF
  rw [← hFMe] at hFM
  have mdok : md.ok ∧ md.hd ≤ 9 := by have := sm h0 hm0; rw [hmd]; exact ⟨⟨by omega, by omega⟩, by omega⟩
  have mdLok : mdL.ok ∧ mdL.hd ≤ 9 := by have := smL h0 hm0; rw [hmdL]; exact ⟨⟨by omega, by omega⟩, by omega⟩
  have mdMok : (sub thM h0).ok ∧ (sub thM h0).hd ≤ 9 := by have := smM h0 hm0; exact ⟨⟨by omega, by omega⟩, by omega⟩
  have eL : (l.map fun t => pv (sub thL t)) = List.replicate n (pv mdL) := rep_of fun x hx => by rw [hmdL]; exact Res.all H rL x hx h0 hm0
  have eP : (l.map fun t => pv (sub th t)) = List.replicate n (pv md) := rep_of fun x hx => by rw [hmd]; exact Res.all H r x hx h0 hm0
  have pl1 : pln md = pln mdL := by rw [hmd, hmdL]; exact r.same rL (fun _ => Iff.rfl) h0
  have pl2 : pln (sub thM h0) = pln md := by rw [hmd]; exact rM.same r (fun s => (hmu s).symm) h0
  let V : Ev := evN P79.pg (cl (j + 3)) 100000 199
  let W1 : Sto := st ++ [.lst (List.replicate n (pv mdL))]
  let W2 : Sto := W1 ++ [.lst (List.replicate n (pv md))]
  let σ0 : Rf.Loc := [some (.obj a), some (.tup (l.map pv)), some (fv FM), some g, some (.obj d), some (fv F), some v6, none, none, none, none, none, none, none, none]
  let σ1 : Rf.Loc := [some (.obj a), some (.tup (l.map pv)), some (fv FM), some g, some (.obj d), some (fv F), some v6, some (.obj st.length), none, none, none, none, none, none, none]
  let σ2 : Rf.Loc := [some (.obj a), some (.tup (l.map pv)), some (fv FM), some g, some (.obj d), some (fv F), some v6, some (.obj st.length), some (.obj (st.length + 1)), none, none, none, none, none, none]
  have hc1 : Cl W1 := cl_app1 hc (under_rep n mdL)
  have hc2 : Cl W2 := cl_app1 hc1 (under_rep n md)
  have s6 : stepS P79.pg V 100000 (.ife (.cmp .isN (.var 5) (.lit .non)) [(.ret (some (.or (.cmp .gt (.bl .len [(.var 1)]) (.lit (.int (2)))) (.cmp .isN (.call 54 [(.lit (.int (1))), (.ix (.var 1) (.lit (.int (0)))), (.ix (.var 1) (.lit (.int (1))))]) (.lit .non)))))] []) σ0 st = .nx σ0 st := by
    simp [V, σ0, fv, Rf.cmpop, Rf.truthy]
  have s7 : stepS P79.pg V 100000 (.asg (.name 7) (.comp (.call 51 [(.var 11), (.var 4), (.tup [])]) (.name 11) (.seq (.var 1)) none [9, 11])) σ0 st = .nx σ1 W1 := by
    simp [V, σ0, σ1]
    rw [comp_mapA (fun x => [some (.obj a), some (.tup (l.map pv)), some (fv FM), some g, some (.obj d), some (fv F), some v6, none, none, none, none, some x, none, none, none]) (f := fun t => pv (sub thL t)) l 100000 [] (by omega) (fun x hx => ⟨by simp, by
      have h1 := smL x hx
      simp [law_whole_pv gdL hr5L (j := j + 3) (t := x) (way := []) hd (by omega) (by omega) (by omega) (by simp; omega) hc]⟩)]
    simp [W1, eL]
  have s8 : stepS P79.pg V 100000 (.asg (.name 8) (.comp (.call 23 [(.var 11), (.var 5)]) (.name 11) (.seq (.var 1)) none [9, 11])) σ1 W1 = .nx σ2 W2 := by
    simp [V, σ1, σ2]
    rw [comp_mapA (fun x => [some (.obj a), some (.tup (l.map pv)), some (fv FM), some g, some (.obj d), some (fv F), some v6, some (.obj st.length), none, none, none, some x, none, none, none]) (f := fun t => pv (sub th t)) l 100000 [] (by omega) (fun x hx => ⟨by simp, by
      have h1 := T.hd_pl x
      have h2 := H.pl x hx
      have h3 := put_home_pv (j := j + 2) (t := x) (small_ok h2) hF (by omega) (by omega) hc1
      rw [fF] at h3
      have h4 : cl (j + 3) 23 [pv x, fv F] W1 = .ok (pv (sub th x)) W1 := h3
      simp [h4]⟩)]
    simp [W2, eP, W1]
  let W3 : Sto := W2 ++ [.lst [pv mdL], .lst (List.replicate n (pv mdL))]
  let W4 : Sto := W3 ++ [.lst [pv md], .lst (List.replicate n (pv md))]
  have hc3 : Cl W3 := closed_app hc2 fun o ho k => by simp at ho; rcases ho with rfl | rfl; exact under_one _ _; exact under_rep _ _ _
  have hc4 : Cl W4 := closed_app hc3 fun o ho k => by simp at ho; rcases ho with rfl | rfl; exact under_one _ _; exact under_rep _ _ _
  have g7 : W2[st.length]? = some (.lst (List.replicate n (pv mdL))) := by simp [W2, W1]
  have g8 : W2[st.length + 1]? = some (.lst (List.replicate n (pv md))) := by simp [W2, W1]
  have i7 := (List.getElem?_eq_some_iff.mp g7).1
  have i8 := (List.getElem?_eq_some_iff.mp g8).1
  have g8' : W3[st.length + 1]? = some (.lst (List.replicate n (pv md))) := by
    show (W2 ++ _)[_]? = _
    rw [List.getElem?_append_left i8]; exact g8
  have i8' := (List.getElem?_eq_some_iff.mp g8').1
  have g74 : W4[st.length]? = some (.lst (List.replicate n (pv mdL))) := by
    show ((W2 ++ _) ++ _)[_]? = _
    rw [List.append_assoc, List.getElem?_append_left i7]; exact g7
  have g84 : W4[st.length + 1]? = some (.lst (List.replicate n (pv md))) := by
    show (W3 ++ _)[_]? = _
    rw [List.getElem?_append_left i8']; exact g8'
  have s9 : stepS P79.pg V 100000 (.ife (.or (.cmp .ne (.var 7) (.bin .mul (.lst [(.ix (.var 7) (.lit (.int (0))))]) (.bl .len [(.var 7)]))) (.or (.cmp .ne (.var 8) (.bin .mul (.lst [(.ix (.var 8) (.lit (.int (0))))]) (.bl .len [(.var 8)]))) (.not (.call 20 [(.var 5)])))) [(.ret (some (.lit (.bl false))))] []) σ2 W2 = .nx σ2 W4 := by
    have q1 := same_list (C := cl (j + 3)) (σ := σ2) (v := 7) (m := 192) g7 (by omega) (by omega) (by omega) rfl
    have q2 := same_list (C := cl (j + 3)) (σ := σ2) (v := 8) (m := 191) g8' (by omega) (by omega) (by omega) rfl
    have q3 : cl (j + 3) 20 [fv F] W4 = .ok (.bl true) W4 := is_filling_pv (j := j + 2) hF (by omega)
    simp only [s_ife, t_st, V, ev_e, e_or]
    rw [q1]
    simp only [rb_ok, Rf.truthy, o_some]
    rw [q2]
    simp only [rb_ok, Rf.truthy, o_some]
    have q3' : cl (j + 3) 20 [fv F] (W3 ++ [MO.lst [pv md], MO.lst (List.replicate n (pv md))]) = .ok (.bl true) (W3 ++ [MO.lst [pv md], MO.lst (List.replicate n (pv md))]) := q3
    simp only [e_not, t_st, ev_e, e_call, s_cons, s_nil, e_var, σ2]
    simp [q3', W4, Rf.truthy]
  have s10 : stepS P79.pg V 100000 (.ife (.or (.cmp .ne (.call 55 [(.tup [(.ix (.var 8) (.lit (.int (0))))])]) (.call 55 [(.tup [(.ix (.var 7) (.lit (.int (0))))])])) (.cmp .ne (.call 19 [(.call 23 [(.ix (.var 1) (.lit (.int (0)))), (.var 2)])]) (.call 19 [(.ix (.var 8) (.lit (.int (0))))]))) [(.ret (some (.lit (.bl false))))] []) σ2 W4 = .nx σ2 W4 := by
    have p8 := plain_so_pv (j := j + 2) (st := W4) (l := [md]) (by simpa using mdok.1) (by simp; omega) (by simp) (by simp [rws]; have := mdok.1.2; have := T.row_len md; omega) (by omega) hc4
    have p7 := plain_so_pv (j := j + 2) (st := W4) (l := [mdL]) (by simpa using mdLok.1) (by simp; omega) (by simp) (by simp [rws]; have := mdLok.1.2; have := T.row_len mdL; omega) (by omega) hc4
    have p8' : cl (j + 3) 55 [.tup [pv md]] W4 = .ok (.tup [pv (pln md)]) W4 := by
      have e : rws [md] = md.row := by simp [rws]
      rw [e] at p8; exact p8
    have p7' : cl (j + 3) 55 [.tup [pv mdL]] W4 = .ok (.tup [pv (pln md)]) W4 := by
      have e : rws [mdL] = mdL.row := by simp [rws]
      rw [e] at p7; rw [pl1]; exact p7
    have hpm : (pln md).hd ≤ 9 := by unfold pln; rw [ren_hd]; exact mdok.2
    have k1 : okP 60 (.tup [pv (pln md)]) = true := by simp [okP, okPs, okP_pv (t := pln md) (k := 59) (by omega)]
    have k2 : okP 60 (pv (pln md)) = true := okP_pv (by omega)
    have p23 := put_home_pv (j := j + 2) (t := h0) (small_ok (H.pl h0 hm0)) hFM (by omega) (by have := T.hd_pl h0; have := H.pl h0 hm0; omega) hc4
    rw [fFM] at p23
    have p23' : cl (j + 3) 23 [pv h0, fv FM] W4 = .ok (pv (sub thM h0)) W4 := p23
    have p19 : cl (j + 3) 19 [pv (sub thM h0)] W4 = .ok (pv (pln md)) W4 := by rw [← pl2]; exact plain_home_pv (j := j + 2) mdMok.1 (by omega) hc4
    have p19' : cl (j + 3) 19 [pv md] W4 = .ok (pv (pln md)) W4 := plain_home_pv (j := j + 2) mdok.1 (by omega) hc4
    have it7 := item_rep g74 (by omega) (by omega)
    have it8 := item_rep g84 (by omega) (by omega)
    have q1 := eqD_refl (st := W4) k1
    have q2 := eqD_refl (st := W4) k2
    simp [V, σ2, it7, it8, p8', p7', q1, q2, hi0, p23', p19, p19', Rf.truthy]
  have s11 : ∃ gb, stepS P79.pg V 100000 (.ife (.or (.cmp .ne (.comp (.var 12) (.tup [(.name 12), (.name 11)]) (.seq (.var 5)) (some (.cmp .ne (.comp (.var 14) (.tup [(.name 13), (.name 14)]) (.seq (.var 5)) (some (.cmp .in_ (.var 12) (.call 47 [(.var 14)]))) [9, 13, 14]) (.lst []))) [9, 12, 11]) (.lst [])) (.cmp .ne (.call 25 [(.var 5), (.var 5)]) (.var 5))) [(.ret (some (.lit (.bl false))))] []) σ2 W4 = .nx σ2 (W4 ++ gb) ∧ Cl (W4 ++ gb) := by
    have hFl := hF.len
    obtain ⟨g1, e1, c1⟩ := comp_filS (V := evN P79.pg (cl (j + 3)) 100000 196) (σ := [some (.obj a), some (.tup (l.map pv)), some (fv FM), some g, some (.obj d), some (fv F), some v6, some (.obj st.length), some (.obj (st.length + 1)), none, none, none, none, none, none]) (elt := .var 12) (c := .cmp .ne (.comp (.var 14) (.tup [(.name 13), (.name 14)]) (.seq (.var 5)) (some (.cmp .in_ (.var 12) (.call 47 [(.var 14)]))) [9, 13, 14]) (.lst [])) (tg := .tup [(.name 12), (.name 11)]) (e := pr) (f := fun p => iv p.1) (p := fun _ => false)
      (fun x => (match x with | .tup [m, h] => [some (.obj a), some (.tup (l.map pv)), some (fv FM), some g, some (.obj d), some (fv F), some v6, some (.obj st.length), some (.obj (st.length + 1)), none, none, some h, some m, none, none] | _ => [])) F 100000 [] W4 hc4 (by omega) (fun p hp s hs => by
        refine ⟨by simp [pr], ⟨[.lst [], .lst []], ?_, ?_⟩, fun h => by cases h⟩
        · have e2 := comp_filA (V := evN P79.pg (cl (j + 3)) 100000 194) (st := s) (σ := [some (.obj a), some (.tup (l.map pv)), some (fv FM), some g, some (.obj d), some (fv F), some v6, some (.obj st.length), some (.obj (st.length + 1)), none, none, some (pv p.2), some (iv p.1), none, none]) (elt := .var 14) (c := .cmp .in_ (.var 12) (.call 47 [(.var 14)])) (tg := .tup [(.name 13), (.name 14)]) (e := pr) (f := fun p => pv p.2) (p := fun q => decide (p.1 ∈ q.2.row))
            (fun x => (match x with | .tup [m, h] => [some (.obj a), some (.tup (l.map pv)), some (fv FM), some g, some (.obj d), some (fv F), some v6, some (.obj st.length), some (.obj (st.length + 1)), none, none, some (pv p.2), some (iv p.1), some m, some h] | _ => [])) F 100000 [] (by omega) (fun q hq => by
              have h1 := hF.ok q hq
              have h2 := row_in_pv (j := j + 3) (t := q.2) (st := s) h1.1 (by omega) 47 (.inr rfl)
              have h3 := with_row s p.1 q.2.row
              refine ⟨by simp [pr], ?_, fun _ => by simp [pr]⟩
              have h3' : within (PV.int p.1) (.tup (q.2.row.map iv)) s = some (decide (p.1 ∈ q.2.row)) := h3
              simp [pr, h2, h3', iv, Rf.truthy])
          have e3 : F.filter (fun q => decide (p.1 ∈ q.2.row)) = [] := List.filter_eq_nil_iff.mpr fun q hq => by simpa using hap p hp q hq
          rw [e3] at e2
          simp only [fv, iv] at e2
          have g1 : (s ++ [MO.lst [], MO.lst []])[s.length]? = some (.lst []) := get_app _ _ 0
          have g2 : (s ++ [MO.lst [], MO.lst []])[s.length + 1]? = some (.lst []) := get_app _ _ 1
          have e4 := eqD_L g1 g2 (by simp) (by simp)
          simp [pr, fv]
          rw [e2]
          simp [e4, Rf.truthy]
        · exact closed_app hs fun o ho k => by simp at ho; subst ho; rfl)
    have p25 : ∀ s, Cl s → cl (j + 3) 25 [fv F, fv F] s = .ok (fv F) s := fun s hs => by
      have hkl : (ks F).length ≤ 5 := by
        have := nodup_le (nodup_lt hF.lt) (m := List.range 5) fun n hn => List.mem_range.mpr (hR.fkey n hn)
        simpa using this
      have h := put_behind_pv (j := j + 2) (st := s) hF hF (by rw [List.length_append]; omega) (fun n _ => by
        rw [fF]
        have h1 : sub th (th n) = th n := by
          have h2 := gd.out
          rw [sub_congr (r := T.v) fun m hm => h2 m (gd.idem n m hm), sub_id]
        rw [h1]
        have h3 := hR.thsm n
        exact ⟨by omega, by omega⟩) (by omega) (by omega) hs
      rw [hsf] at h
      exact h
    have q5 : okP 60 (fv F) = true := okP_fv fun p hp => by have := (hF.ok p hp).2; omega
    have e0 : F.filter (fun _ => false) = [] := List.filter_eq_nil_iff.mpr fun q hq => by simp
    rw [e0] at e1
    obtain ⟨WG, hWG⟩ : ∃ W, W = W4 ++ g1 := ⟨_, rfl⟩
    rw [← hWG] at e1 c1
    have c2 : Cl (WG ++ [MO.lst [], MO.lst []]) := closed_app c1 fun o ho k => by simp at ho; subst ho; rfl
    refine ⟨g1 ++ [.lst [], .lst []], ?_, by rw [← List.append_assoc, ← hWG]; exact c2⟩
    have m1 : (WG ++ [MO.lst [], MO.lst []])[WG.length]? = some (.lst []) := get_app _ _ 0
    have m2 : (WG ++ [MO.lst [], MO.lst []])[WG.length + 1]? = some (.lst []) := get_app _ _ 1
    have e4 := eqD_L m1 m2 (by simp) (by simp)
    have q6 := eqD_refl (st := WG ++ [MO.lst [], MO.lst []]) q5
    have p25' := p25 _ c2
    rw [← List.append_assoc, ← hWG]
    simp only [fv] at e1 p25' q6 ⊢
    simp only [V, σ2, fv]
    simp
    rw [e1]
    simp [e4, Rf.truthy, p25', q6]
  obtain ⟨gb, s11, hc5⟩ := s11
  have t5 : Tin (W4 ++ gb) a c := by
    show Tin (((((st ++ _) ++ _) ++ _) ++ _) ++ _) a c
    exact ((((ht.app _).app _).app _).app _).app _
  have f5 : Fr a st (W4 ++ gb) := by
    show Fr a st (((((st ++ _) ++ _) ++ _) ++ _) ++ _)
    exact ((((Fr.app _).tr (.app _)).tr (.app _)).tr (.app _)).tr (.app _)
  obtain ⟨st', e57, t6, f6, c6, _⟩ := general_pv (j := j + 1) hR (by omega) t5 hc5 (by omega) (fun x y hxy s hs => by
    subst hxy
    obtain ⟨q, tb2, b2, th2, r2, u2, hq, h33⟩ := met2 (H.pl x (by simp)) (H.pl y (by simp)) (H.row5 (by simp)) (H.row5 (by simp)) (by simp [A5])
    have hb : b2 = true := by
      have h1 := r.iff
      have h2 := r2.iff
      have e : prs [x, y] = [(x, y)] := rfl
      rw [e] at h1
      cases b2 <;> simp_all
    subst hb
    have h3 := h33 (j - 2) s (by omega) hs
    have e : j - 2 + 3 = j + 1 := by omega
    rw [e, if_pos rfl] at h3
    rw [h3]
    have e2 : pln (sub th2 x) = pln md := by
      rw [hmd, r2.same r (fun s => Iff.rfl) x]
      exact congrArg pln (Res.all H r x (by simp) h0 hm0)
    rw [e2])
  refine ⟨st', ?_, t6, f5.tr f6, c6⟩
  show stepSs P79.pg V 100000 (P79.f56.body.drop 6) σ0 st = _
  simp only [P79.f56, List.drop_succ_cons, List.drop_zero]
  rw [ss_cons, s6, fs_nx, ss_cons, s7, fs_nx, ss_cons, s8, fs_nx, ss_cons, s9, fs_nx, ss_cons, s10, fs_nx, ss_cons, s11, fs_nx]
  have e57' : cl (j + 3) 57 [.obj a, .tup (l.map pv), fv F, pv md] (W4 ++ gb) = .ok (.bl true) st' := e57
  have g85 : (W4 ++ gb)[st.length + 1]? = some (.lst (List.replicate n (pv md))) := by
    rw [List.getElem?_append_left (List.getElem?_eq_some_iff.mp g84).1]; exact g84
  have it8 := item_rep g85 (by omega) (by omega)
  simp [V, σ2, it8, e57']
end
end W79
end
section
set_option linter.all false
set_option maxRecDepth 20000
set_option maxHeartbeats 4000000
/-! W27: a row of homes, right -/
namespace W79
open PySem Rf
section
variable {st : Sto} {j a : Nat}
theorem right_pv {l : List T} (H : Hs l) {c : Nat} (hj : 40 ≤ j) (ht : Tin st a c) (hc : Cl st) (hcc : c + 20000 < 1000000) :
    ∃ st', cl (j + 4) 56 [.obj a, .tup (l.map pv)] st = .ok (.bl true) st' ∧ Tin st' a (c + 300) ∧ Fr a st st' ∧ Cl st' ∧ st'.length = st.length := by
  have ha := ht.lt
  obtain ⟨b, tb, tbL, th, thL, i, W1, W2, mx, tbM, thM, W5, rest, r, rL, rM, hmu, hW1, hW2, t5, c5, f5, hrest, e⟩ := row_head H hj ht hc hcc
  have f1 : Fr a st W1 := by rw [hW1]; exact .app _
  have hW1a : W1.length ≠ a := by have := f1.len; rw [hW1] at *; simp; omega
  cases b with
  | false =>
    have f2 : Fr a st W2 := by rw [hW2]; exact f1
    have fin := tail_no (st := W5) (a := a) (v2 := .non) (v4 := .non) (v6 := .tup (mx.map pp)) (g := .obj st.length) H r hj c5
    rw [hrest] at e
    simp only [Bool.false_eq_true, if_false] at e
    rw [fin] at e
    obtain ⟨s', e1, e2, e3, e4, e5⟩ := trim_fr (v := .bl true) hc ha (f2.tr f5) t5 rfl
    exact ⟨s', e.trans e1, e4.mono (by omega), e3, e5, e2⟩
  | true =>
    have f2 : Fr a st W2 := by rw [hW2]; exact f1.tr (.app _)
    have d2 : Dx W2 W1.length tbL := by rw [hW2]; exact ⟨false, LG_dt tbL [] i⟩
    have d5 : Dx W5 W1.length tbL := by obtain ⟨b, h⟩ := d2; exact ⟨b, f5.get hW1a h⟩
    obtain ⟨st', fin, t6, f6, c6⟩ := tail_yes (st := W5) (a := a) (v6 := .tup (mx.map pp)) (g := .obj st.length) H r rL rM hmu d5 t5 (by omega) hj c5
    rw [hrest] at e
    simp only [if_true] at e
    rw [fin] at e
    obtain ⟨s', e1, e2, e3, e4, e5⟩ := trim_fr (v := .bl true) hc ha ((f2.tr f5).tr f6) t6 rfl
    exact ⟨s', e.trans e1, e4.mono (by omega), e3, e5, e2⟩
end
end W79
end
section
set_option linter.all false
set_option maxRecDepth 20000
set_option maxHeartbeats 4000000
/-! W28: one lap of the law -/
namespace W79
open PySem Rf
abbrev lap0 : Sm := (.asg (.name 3) (.bl .tuple [(.comp (.call 45 [(.var 1), (.lit (.int (4))), (.lit (.int (5)))]) (.name 9) (.rng1 (.bin .add (.lit (.int (2))) (.call 41 [(.var 1), (.lit (.int (2)))]))) none [8, 9])]))
abbrev lap1 : Sm := (.ife (.not (.call 56 [(.var 1), (.var 3)])) [(.ret (some (.lit (.bl false))))] [])
abbrev lap2 : Sm := (.asg (.tup [(.name 4), (.name 5)]) (.tup [(.call 45 [(.var 1), (.lit (.int (4))), (.lit (.int (3)))]), (.call 45 [(.var 1), (.lit (.int (4))), (.lit (.int (3)))])]))
abbrev lap3 : Sm := (.asg (.name 6) (.call 49 [(.var 5), (.bl .dict [(.comp (.tup [(.var 9), (.bin .add (.var 9) (.lit (.int (7))))]) (.name 9) (.rng1 (.lit (.int (3)))) none [8, 9])])]))
abbrev lap4 : Sm := (.ife (.or (.cmp .ne (.call 16 [(.var 5), (.bl .tuple [(.comp (.tup [(.var 9), (.bin .add (.var 9) (.lit (.int (7))))]) (.name 9) (.rng1 (.lit (.int (3)))) none [8, 9])])]) (.var 6)) (.cmp .ne (.comp (.var 9) (.name 9) (.seq (.call 13 [(.var 6)])) (some (.cmp .in_ (.var 9) (.call 13 [(.var 4)]))) [8, 9]) (.lst []))) [(.ret (some (.lit (.bl false))))] [])
abbrev lap5 : Sm := (.asg (.name 7) (.call 11 [(.tup [(.var 4)]), (.var 6)]))
abbrev lap6 : Sm := (.ife (.or (.not (.call 35 [(.tup [(.tup []), (.lit (.int (0)))]), (.var 7)])) (.or (.cmp .ne (.call 54 [(.lit (.int (2))), (.tup [(.tup []), (.lit (.int (4)))]), (.var 7)]) (.tup [(.tup [(.lit (.int (4))), (.var 7)])])) (.cmp .ne (.cmp .isN (.call 54 [(.lit (.int (1))), (.var 4), (.var 6)]) (.lit .non)) (.cmp .isN (.call 52 [(.lst [(.tup [(.var 4), (.var 6)])])]) (.lit .non))))) [(.ret (some (.lit (.bl false))))] [])
abbrev lap : List Sm := [lap0, lap1, lap2, lap3, lap4, lap5, lap6]
theorem f58_body : P79.f58.body = [(.asg (.name 1) (.call 40 [(.call 42 [(.var 0), (.lit (.int (1)))]), (.lit (.int (0)))])), (.for_ (.name 2) (.rng1 (.lit (.int (4)))) lap), (.ret (some (.lit (.bl true))))] := rfl
def nm : List (Nat × Nat) := [(0, 7), (1, 8), (2, 9)]
section
variable {st : Sto} {j a : Nat}
theorem nm_comp {C : CallF} {σ : Rf.Loc} (h : σ.length = 10) {m : Nat} : compGo (evN P79.pg C 100000 (m + 5)) (.tup [(.var 9), (.bin .add (.var 9) (.lit (.int (7))))]) (.name 9) none σ 100000 (.rng 0 3) [] st = .ok (nm.map prn) st := by
  rw [comp_rng (τ := fun x => σ.set 9 (some x)) (f := fun x => .tup [.int x, .int (x + 7)]) 3 0 100000 [] (by omega) (fun x _ _ => ⟨by simp, by simp [h]⟩)]
  rfl
variable {x0 x2 x3 x4 x5 x6 x7 x8 x9 : Option PV} {c : Nat}
theorem lap0_ok (hj : 40 ≤ j) (ht : Tin st a c) (hc : Cl st) (hcc : c + 30000 < 1000000) : ∃ (l : List T) (st' : Sto),
    stepS P79.pg (evN P79.pg (cl (j + 4)) 100000 198) 100000 lap0 [x0, some (.obj a), x2, x3, x4, x5, x6, x7, x8, x9] st = .nx [x0, some (.obj a), x2, some (.tup (l.map pv)), x4, x5, x6, x7, x8, x9] st' ∧ Hs l ∧ Tin st' a (c + 1200) ∧ Cl st' := by
  obtain ⟨v, st1, e1, v0, v2, t1, f1, c1, _⟩ := take_pv (j := j + 3) (m := 2) ht (by omega) (by omega) (by omega) hc
  obtain ⟨vn, rfl⟩ : ∃ vn : Nat, v = vn := ⟨v.toNat, by omega⟩
  have e1' : cl (j + 4) 41 [.obj a, .int 2] st = .ok (.int vn) st1 := e1
  have d4 : dr 4 = 362 := rfl
  obtain ⟨ys, st', e2, y1, y2, t2, c2, f2⟩ := comp_rngD (V := evN P79.pg (cl (j + 4)) 100000 196) (σ := [x0, some (.obj a), x2, x3, x4, x5, x6, x7, none, none]) (elt := .call 45 [(.var 1), (.lit (.int (4))), (.lit (.int (5)))]) (tg := .name 9) (f := pv) (ok := fun t : T => t.pl ≤ 4 ∧ t.atl 5)
    (fun x => [x0, some (.obj a), x2, x3, x4, x5, x6, x7, none, some x]) (a := a) (d := 362) (fun x s c' q1 q2 q3 => by
      obtain ⟨t, s', z1, z2, z3, z4, z5, z6, z7⟩ := home_pv (a := a) (ends := 5) (by omega) (by omega) 4 (j := j + 4) q1 q2 (by omega) (by omega) (by omega) (by omega)
      have z1' : cl (j + 4) 45 [.obj a, .int 4, .int 5] s = .ok (pv t) s' := z1
      exact ⟨by simp, t, s', by simp [z1'], ⟨z2, z3⟩, z4, z6, z5⟩) (2 + vn) 0 100000 [] st1 (c + 1) (by omega) t1 c1 (by omega)
  have hw : stepW (evN P79.pg (cl (j + 4)) 100000 196) (.rng1 (.bin .add (.lit (.int (2))) (.call 41 [(.var 1), (.lit (.int (2)))]))) [x0, some (.obj a), x2, x3, x4, x5, x6, x7, x8, x9] st = .ok (.rng 0 (2 + vn)) st1 := by
    have h := w_rng_ok (V := evN P79.pg (cl (j + 4)) 100000 196) (a := .bin .add (.lit (.int (2))) (.call 41 [(.var 1), (.lit (.int (2)))])) (σ := [x0, some (.obj a), x2, x3, x4, x5, x6, x7, x8, x9]) (st := st) (st1 := st1) (k := 2 + vn) (by simp [e1']) (by omega)
    exact h
  refine ⟨ys, st', ?_, ⟨by omega, fun h hh => (y2 h hh).1, fun h hh => (y2 h hh).2⟩, t2.mono (by omega), c2⟩
  simp only [lap0, s_asg, ev_e, e_bl1, n_comp, blSeqB, Bool.and_self, if_true, ev_c, c_comp]
  rw [hw]
  have hwp : wipe [x0, some (.obj a), x2, x3, x4, x5, x6, x7, x8, x9] [8, 9] = [x0, some (.obj a), x2, x3, x4, x5, x6, x7, none, none] := rfl
  simp only [rb_ok]
  rw [hwp, e2]
  simp [blSeq]
theorem lap1_ok {l : List T} (H : Hs l) (hj : 40 ≤ j) (ht : Tin st a c) (hc : Cl st) (hcc : c + 30000 < 1000000) : ∃ (st' : Sto),
    stepS P79.pg (evN P79.pg (cl (j + 4)) 100000 198) 100000 lap1 [x0, some (.obj a), x2, some (.tup (l.map pv)), x4, x5, x6, x7, x8, x9] st = .nx [x0, some (.obj a), x2, some (.tup (l.map pv)), x4, x5, x6, x7, x8, x9] st' ∧ Tin st' a (c + 300) ∧ Cl st' := by
  obtain ⟨st', e, t, f, c', _⟩ := right_pv H hj ht hc (by omega)
  exact ⟨st', by simp [lap1, e, Rf.truthy], t, c'⟩
theorem lap2_ok (hj : 40 ≤ j) (ht : Tin st a c) (hc : Cl st) (hcc : c + 30000 < 1000000) : ∃ (x y : T) (st' : Sto),
    stepS P79.pg (evN P79.pg (cl (j + 4)) 100000 198) 100000 lap2 [x0, some (.obj a), x2, x3, x4, x5, x6, x7, x8, x9] st = .nx [x0, some (.obj a), x2, x3, some (pv x), some (pv y), x6, x7, x8, x9] st' ∧ x.pl ≤ 4 ∧ x.atl 3 ∧ y.pl ≤ 4 ∧ y.atl 3 ∧ Tin st' a (c + 800) ∧ Cl st' := by
  have d4 : dr 4 = 362 := rfl
  obtain ⟨x, s1, e1, p1, a1, t1, f1, c1, _⟩ := home_pv (a := a) (ends := 3) (by omega) (by omega) 4 (j := j + 4) ht hc (by omega) (by omega) (by omega) (by omega)
  obtain ⟨y, s2, e2, p2, a2, t2, f2, c2, _⟩ := home_pv (a := a) (ends := 3) (by omega) (by omega) 4 (j := j + 4) t1 c1 (by omega) (by omega) (by omega) (by omega)
  have e1' : cl (j + 4) 45 [.obj a, .int 4, .int 3] st = .ok (pv x) s1 := e1
  have e2' : cl (j + 4) 45 [.obj a, .int 4, .int 3] s1 = .ok (pv y) s2 := e2
  exact ⟨x, y, s2, by simp [lap2, e1', e2'], p1, a1, p2, a2, t2.mono (by omega), c2⟩
end
end W79
end
section
set_option linter.all false
set_option maxRecDepth 20000
set_option maxHeartbeats 4000000
/-! W29: one lap of the law, the far homes -/
namespace W79
open PySem Rf
section
variable {st : Sto} {j a : Nat}
variable {x0 x1 x2 x3 x4 x5 x6 x7 x8 x9 : Option PV} {c : Nat}
theorem nm_lt : (ks nm).Pairwise (· < ·) := by decide
theorem lap3_ok {y : T} (hj : 40 ≤ j) (hy : y.pl ≤ 4) :
    stepS P79.pg (evN P79.pg (cl (j + 4)) 100000 198) 100000 lap3 [x0, x1, x2, x3, x4, some (pv y), x6, x7, x8, x9] st = .nx [x0, x1, x2, x3, x4, some (pv y), some (pv (ren (nmF nm) y)), x7, x8, x9] (st ++ [.dct false (enc iv nm)]) := by
  have hd : Dn (st ++ [.dct false (enc iv nm)]) st.length nm := by unfold Dn; simp
  have h1 := law_named_pv (j := j + 4) (t := y) (small_ok hy) (by have := T.hd_pl y; omega) hd
  have h2 := dict_nm (b := false) (st := st) nm_lt
  have hw : wipe [x0, x1, x2, x3, x4, some (pv y), x6, x7, x8, x9] [8, 9] = [x0, x1, x2, x3, x4, some (pv y), x6, x7, none, none] := rfl
  have hc := nm_comp (C := cl (j + 4)) (σ := [x0, x1, x2, x3, x4, some (pv y), x6, x7, none, none]) rfl (m := 190) (st := st)
  simp only [lap3, s_asg, ev_e, e_call, s_cons, s_nil, e_var, List.getElem?_cons_succ, List.getElem?_cons_zero, rb_ok, e_bl1, n_comp, blSeqB, Bool.and_self, if_true, ev_c, c_comp, hw]
  simp
  rw [hc]
  simp [h2, h1]
theorem lap5_ok {x y : T} (hj : 40 ≤ j) (hx : x.pl ≤ 4) (hy : y.pl ≤ 4) :
    stepS P79.pg (evN P79.pg (cl (j + 4)) 100000 198) 100000 lap5 [x0, x1, x2, x3, some (pv x), x5, some (pv y), x7, x8, x9] st = .nx [x0, x1, x2, x3, some (pv x), x5, some (pv y), some (pv (.a x y)), x8, x9] st := by
  have h1 := arrow_pv (j := j + 3) (st := st) (small_ok hx) (small_ok hy) (by have := T.hd_pl x; omega) (by have := T.hd_pl y; omega)
  have h1' : cl (j + 4) 11 [.tup [pv x], pv y] st = .ok (pv (.a x y)) st := h1
  simp [lap5, h1']
theorem lap6_ok {x y : T} (hj : 40 ≤ j) (hx : x.pl ≤ 4) (hy : y.pl ≤ 4) (rx : ∀ m ∈ x.row, m ∈ [0, 1, 2, 7, 8, 9]) (ry : ∀ m ∈ y.row, m ∈ [0, 1, 2, 7, 8, 9]) (hc : Cl st) :
    ∃ g, stepS P79.pg (evN P79.pg (cl (j + 4)) 100000 198) 100000 lap6 [x0, x1, x2, x3, some (pv x), x5, some (pv y), some (pv (.a x y)), x8, x9] st = .nx [x0, x1, x2, x3, some (pv x), x5, some (pv y), some (pv (.a x y)), x8, x9] (st ++ g) ∧ Cl (st ++ g) := by
  have hdx := T.hd_pl x
  have hdy := T.hd_pl y
  have hw : (T.a x y).pl ≤ 8 := by simp; omega
  obtain ⟨w, hwe⟩ : ∃ w, w = T.a x y := ⟨_, rfl⟩
  rw [← hwe] at hw ⊢
  have hdw := T.hd_pl w
  have wok : w.ok := ⟨by omega, by omega⟩
  have h35 := is_case_pv (j := j + 3) (st := st) (t := .v 0) (s := fun _ => w) (by constructor <;> simp) (by simpa using wok) (fun n hn => by simp at hn; omega) (by simp; omega) (by simp; omega) hc
  have h37 := filling_to_pv (j := j + 2) (st := st) (t := .v 4) (s := fun _ => w) (by constructor <;> simp) (by simpa using wok) (fun n hn => by simp at hn; omega) (by simp; omega) (by simp; omega) (by decide) hc
  have h54 := heard2 h37
  have ef : fv (caseF (fun _ => w) (.v 4)) = .tup [.tup [.int 4, pv w]] := rfl
  rw [ef] at h54
  have h35' : cl (j + 4) 35 [.tup [.tup [], .int 0], pv w] st = .ok (.bl true) st := h35
  have h54' : cl (j + 4) 54 [.int 2, .tup [.tup [], .int 4], pv w] st = .ok (.tup [.tup [.int 4, pv w]]) st := h54
  have hq := eqD_refl (st := st) (x := .tup [.tup [.int 4, pv w]]) (by simp [okP, okPs, okP_pv (t := w) (k := 58) (by omega)])
  obtain ⟨q, tb, b, th, r, u, hq64, h33⟩ := met2 (A := [0, 1, 2, 7, 8, 9]) hx hy rx ry (by simp)
  have h1 := heard1 (h33 j st (by omega) hc)
  have h1' : cl (j + 4) 54 [.int 1, pv x, pv y] st = .ok (if b = true then pv (pln (sub th x)) else .non) st := h1
  let st1 : Sto := st ++ [.lst [pp (x, y)]]
  have hc1 : Cl st1 := cl_app1 hc fun k => under_pps k [(x, y)]
  have hg : st1[st.length]? = some (.lst ([(x, y)].map pp)) := by simp [st1]
  have l0 := asub_len x
  have l1 := asub_len y
  obtain ⟨i, hl⟩ := law_met_pv (j := j + 2) (st := st1) (S := asub x ++ asub y) (A := [0, 1, 2, 7, 8, 9]) (by simp; omega) (by simp) (by omega) hc1 hg u (by omega) (by simp) (fun p hp => by
    simp at hp; subst hp
    exact ⟨fun r hr => List.mem_append_left _ hr, fun r hr => List.mem_append_right _ hr⟩)
  have hne : ∃ k, pv (pln (sub th x)) = .tup k := ⟨_, pv_eq _⟩
  obtain ⟨k, hk⟩ := hne
  cases b with
  | false =>
    simp only [Bool.false_eq_true, if_false] at h1' hl
    have hl' : cl (j + 4) 52 [.obj st.length] (st ++ [.lst [.tup [pv x, pv y]]]) = .ok .non (st ++ [.lst [.tup [pv x, pv y]]]) := hl
    refine ⟨[.lst [pp (x, y)]], ?_, hc1⟩
    simp [lap6, h35', h54', hq, h1', hl', Rf.truthy, Rf.cmpop, pp]
  | true =>
    simp only [if_true] at h1' hl
    rw [hk] at h1'
    have hl' : cl (j + 4) 52 [.obj st.length] (st ++ [.lst [.tup [pv x, pv y]]]) = .ok (.obj st1.length) (LG st1 tb [] i) := hl
    have hc2 : Cl (LG st1 tb [] i) := LG_cl tb [] i hc1
    have eg : ∃ g, LG st1 tb [] i = st ++ g := ⟨_, by show (st ++ _) ++ _ = _; rw [List.append_assoc]⟩
    obtain ⟨g, hg2⟩ := eg
    rw [hg2] at hl' hc2
    refine ⟨g, ?_, hc2⟩
    simp [lap6, h35', h54', hq, h1', hl', Rf.truthy, Rf.cmpop]
theorem ren_pl (f : Nat → Nat) (t : T) : (ren f t).pl = t.pl := by rw [← T.row_len, ren_row, List.length_map, T.row_len]
theorem far_row {y : T} (h : y.atl 3) : ∀ m ∈ (ren (nmF nm) y).row, 7 ≤ m ∧ m < 10 := fun m hm => by
  rw [ren_row] at hm
  obtain ⟨n, h1, rfl⟩ := List.mem_map.mp hm
  have h2 := h n h1
  have : ∀ n, n < 3 → 7 ≤ nmF nm n ∧ nmF nm n < 10 := by decide
  exact this n h2
theorem lap4_ok {x y : T} (hj : 40 ≤ j) (hx : x.pl ≤ 4) (hy : y.pl ≤ 4) (ax : x.atl 3) (hay : y.atl 3) (hc : Cl st) :
    stepS P79.pg (evN P79.pg (cl (j + 4)) 100000 198) 100000 lap4 [x0, x1, x2, x3, some (pv x), some (pv y), some (pv (ren (nmF nm) y)), x7, x8, x9] st = .nx [x0, x1, x2, x3, some (pv x), some (pv y), some (pv (ren (nmF nm) y)), x7, x8, x9] (st ++ [.lst [], .lst []]) := by
  have hr := far_row hay
  have hrp : (ren (nmF nm) y).pl ≤ 4 := by rw [ren_pl]; exact hy
  generalize hz : ren (nmF nm) y = z at hr hrp ⊢
  have hdz := T.hd_pl z
  have hdx := T.hd_pl x
  have hdy := T.hd_pl y
  have h1 := named_pv (j := j + 3) (st := st) (t := y) (small_ok hy) nm_lt (by decide) (by omega) hc
  have h1' : cl (j + 4) 16 [pv y, .tup (nm.map prn)] st = .ok (pv z) st := by rw [← hz]; exact h1
  have h2 := atoms_pv (j := j + 3) (st := st) (t := z) (small_ok hrp) (by omega) (by rw [T.row_len]; omega) (by have := sN_len (l := z.row) (k := 10) fun m hm => (hr m hm).2; omega) hc
  have h2' : cl (j + 4) 13 [pv z] st = .ok (.tup ((sN z.row).map iv)) st := h2
  have h3 := atoms_pv (j := j + 3) (st := st) (t := x) (small_ok hx) (by omega) (by rw [T.row_len]; omega) (by have := sN_len (l := x.row) (k := 3) ax; omega) hc
  have h3' : cl (j + 4) 13 [pv x] st = .ok (.tup ((sN x.row).map iv)) st := h3
  have hq := eqD_refl (st := st) (x := pv z) (okP_pv (by omega))
  have hcm := nm_comp (C := cl (j + 4)) (σ := [x0, x1, x2, x3, some (pv x), some (pv y), some (pv z), x7, none, none]) rfl (m := 188) (st := st)
  have hcf := comp_filA (V := evN P79.pg (cl (j + 4)) 100000 195) (st := st) (σ := [x0, x1, x2, x3, some (pv x), some (pv y), some (pv z), x7, none, none]) (elt := .var 9) (c := .cmp .in_ (.var 9) (.call 13 [(.var 4)])) (tg := .name 9) (e := iv) (f := iv) (p := fun n => decide (n ∈ sN x.row))
    (fun v => [x0, x1, x2, x3, some (pv x), some (pv y), some (pv z), x7, none, some v]) (sN z.row) 100000 [] (by have := sN_len (l := z.row) (k := 10) fun m hm => (hr m hm).2; omega) (fun n hn => by
      have h5 := with_row st n (sN x.row)
      exact ⟨by simp, by simp [h3', h5, Rf.truthy], fun _ => by simp⟩)
  have hn : (sN z.row).filter (fun n => decide (n ∈ sN x.row)) = [] := List.filter_eq_nil_iff.mpr fun n hn => by
    have h5 := hr n (sN_mem.mp hn)
    simp only [decide_eq_true_iff]
    intro h6
    have := ax n (sN_mem.mp h6)
    omega
  rw [hn] at hcf
  have g1 : (st ++ [MO.lst [], MO.lst []])[st.length]? = some (.lst []) := get_app _ _ 0
  have g2 : (st ++ [MO.lst [], MO.lst []])[st.length + 1]? = some (.lst []) := get_app _ _ 1
  have he := eqD_L g1 g2 (by simp) (by simp)
  have e1 : stepE P79.pg (cl (j + 4)) 100000 (evN P79.pg (cl (j + 4)) 100000 196) (.cmp .ne (.call 16 [(.var 5), (.bl .tuple [(.comp (.tup [(.var 9), (.bin .add (.var 9) (.lit (.int (7))))]) (.name 9) (.rng1 (.lit (.int (3)))) none [8, 9])])]) (.var 6)) [x0, x1, x2, x3, some (pv x), some (pv y), some (pv z), x7, x8, x9] st = .ok (.bl false) st := by
    simp [blSeqB]
    rw [hcm]
    simp [blSeq, h1', hq]
  have e2 : stepE P79.pg (cl (j + 4)) 100000 (evN P79.pg (cl (j + 4)) 100000 196) (.cmp .ne (.comp (.var 9) (.name 9) (.seq (.call 13 [(.var 6)])) (some (.cmp .in_ (.var 9) (.call 13 [(.var 4)]))) [8, 9]) (.lst [])) [x0, x1, x2, x3, some (pv x), some (pv y), some (pv z), x7, x8, x9] st = .ok (.bl false) (st ++ [.lst [], .lst []]) := by
    simp [h2']
    rw [hcf]
    simp [he]
  simp only [lap4, s_ife, t_st, ev_e, e_or]
  rw [e1]
  simp only [rb_ok, Rf.truthy, o_some]
  rw [e2]
  simp [Rf.truthy]
theorem lap_ok (hj : 40 ≤ j) (ht : Tin st a c) (hc : Cl st) (hcc : c + 40000 < 1000000) : ∃ (y3 y4 y5 y6 y7 : Option PV) (st' : Sto),
    stepSs P79.pg (evN P79.pg (cl (j + 4)) 100000 198) 100000 lap [x0, some (.obj a), x2, x3, x4, x5, x6, x7, x8, x9] st = .nx [x0, some (.obj a), x2, y3, y4, y5, y6, y7, x8, x9] st' ∧ Tin st' a (c + 2500) ∧ Cl st' := by
  obtain ⟨l, s1, e0, H, t1, c1⟩ := lap0_ok (x0 := x0) (x2 := x2) (x3 := x3) (x4 := x4) (x5 := x5) (x6 := x6) (x7 := x7) (x8 := x8) (x9 := x9) hj ht hc (by omega)
  obtain ⟨s2, e1, t2, c2⟩ := lap1_ok (x0 := x0) (x2 := x2) (x4 := x4) (x5 := x5) (x6 := x6) (x7 := x7) (x8 := x8) (x9 := x9) H hj t1 c1 (by omega)
  obtain ⟨x, y, s3, e2, px, ax, py, ay, t3, c3⟩ := lap2_ok (x0 := x0) (x2 := x2) (x3 := some (.tup (l.map pv))) (x4 := x4) (x5 := x5) (x6 := x6) (x7 := x7) (x8 := x8) (x9 := x9) hj t2 c2 (by omega)
  have e3 := lap3_ok (st := s3) (j := j) (x0 := x0) (x1 := some (.obj a)) (x2 := x2) (x3 := some (.tup (l.map pv))) (x4 := some (pv x)) (x6 := x6) (x7 := x7) (x8 := x8) (x9 := x9) hj py
  have c4 : Cl (s3 ++ [.dct false (enc iv nm)]) := cl_app1 c3 fun k => by
    simp [MO.under, enc, nm, PV.under]
  have e4 := lap4_ok (j := j) (x0 := x0) (x1 := some (.obj a)) (x2 := x2) (x3 := some (.tup (l.map pv))) (x7 := x7) (x8 := x8) (x9 := x9) hj px py ax ay c4
  have c5 := closed_app c4 (m := [.lst [], .lst []]) fun o ho k => by simp at ho; subst ho; rfl
  have hfar := far_row ay
  have hfp : (ren (nmF nm) y).pl ≤ 4 := by rw [ren_pl]; exact py
  have e5 := lap5_ok (st := s3 ++ [.dct false (enc iv nm)] ++ [.lst [], .lst []]) (j := j) (x0 := x0) (x1 := some (.obj a)) (x2 := x2) (x3 := some (.tup (l.map pv))) (x5 := some (pv y)) (x7 := x7) (x8 := x8) (x9 := x9) hj px hfp
  obtain ⟨g, e6, c6⟩ := lap6_ok (j := j) (x0 := x0) (x1 := some (.obj a)) (x2 := x2) (x3 := some (.tup (l.map pv))) (x5 := some (pv y)) (x8 := x8) (x9 := x9) hj px hfp (fun m hm => by have := ax m hm; simp; omega) (fun m hm => by have := hfar m hm; simp; omega) c5
  refine ⟨some (.tup (l.map pv)), some (pv x), some (pv y), some (pv (ren (nmF nm) y)), some (pv (.a x (ren (nmF nm) y))), _, ?_, (((t3.app _).app _).app _).mono (by omega), c6⟩
  rw [ss_cons, e0, fs_nx, ss_cons, e1, fs_nx, ss_cons, e2, fs_nx, ss_cons, e3, fs_nx, ss_cons, e4, fs_nx, ss_cons, e5, fs_nx, ss_cons, e6, fs_nx, ss_nil]
end
end W79
end
section
set_option linter.all false
set_option maxRecDepth 20000
set_option maxHeartbeats 4000000
/-! W30: the law -/
namespace W79
open PySem Rf
section
variable {j a : Nat}
theorem laps_ok (hj : 40 ≤ j) {x0 : Option PV} : ∀ (k m : Nat) (lo : Int) (x2 x3 x4 x5 x6 x7 x8 x9 : Option PV) (st : Sto) (c : Nat), k < m → Tin st a c → Cl st → c + 2500 * k + 40000 < 1000000 → ∃ (y2 y3 y4 y5 y6 y7 : Option PV) (st' : Sto),
    forGo (evN P79.pg (cl (j + 4)) 100000 199) (.name 2) lap m (.rng lo k) [x0, some (.obj a), x2, x3, x4, x5, x6, x7, x8, x9] st = .nx [x0, some (.obj a), y2, y3, y4, y5, y6, y7, x8, x9] st' := by
  intro k
  induction k with
  | zero =>
    intro m lo x2 x3 x4 x5 x6 x7 x8 x9 st c hm _ _ _
    obtain ⟨m, rfl⟩ : ∃ i, m = i + 1 := ⟨m - 1, by omega⟩
    exact ⟨x2, x3, x4, x5, x6, x7, st, by simp [forGo, Wk.next]⟩
  | succ k ih =>
    intro m lo x2 x3 x4 x5 x6 x7 x8 x9 st c hm ht hc hcc
    obtain ⟨m, rfl⟩ : ∃ i, m = i + 1 := ⟨m - 1, by omega⟩
    obtain ⟨y3, y4, y5, y6, y7, s1, e1, t1, c1⟩ := lap_ok (x0 := x0) (x2 := some (.int lo)) (x3 := x3) (x4 := x4) (x5 := x5) (x6 := x6) (x7 := x7) (x8 := x8) (x9 := x9) hj ht hc (by omega)
    obtain ⟨z2, z3, z4, z5, z6, z7, s2, e2⟩ := ih m (lo + 1) (some (.int lo)) y3 y4 y5 y6 y7 x8 x9 s1 (c + 2500) (by omega) t1 c1 (by omega)
    refine ⟨z2, z3, z4, z5, z6, z7, s2, ?_⟩
    have e3 : (evN P79.pg (cl (j + 4)) 100000 199).t (.name 2) (.int lo) [x0, some (.obj a), x2, x3, x4, x5, x6, x7, x8, x9] st = .ok [x0, some (.obj a), some (.int lo), x3, x4, x5, x6, x7, x8, x9] st := rfl
    have e4 : (evN P79.pg (cl (j + 4)) 100000 199).s lap = stepSs P79.pg (evN P79.pg (cl (j + 4)) 100000 198) 100000 lap := rfl
    simp only [forGo, Wk.next, e3, rf_ok, e4]
    rw [e1]
    exact e2
theorem trim_bl (b : Bool) (n : Nat) (st : Sto) : ∃ s, R.trim n (.ok (.bl b) st) = .ok (.bl b) s := by
  unfold R.trim
  simp only
  split
  · exact ⟨_, rfl⟩
  · split
    · exact ⟨_, rfl⟩
    · exact ⟨_, rfl⟩
theorem law_pv {ns : List Int} (hl : ns.length ≤ 63) (hj : 40 ≤ j) : ∃ st', cl (j + 5) 58 [.rol (ns.map .int)] [] = .ok (.bl true) st' := by
  obtain ⟨k, s1, x, e1, hx, c1⟩ := cells_pv (j := j + 3) hl
  obtain ⟨a, s2, e2, t2, c2⟩ := box_pv (j := j + 3) hx c1
  obtain ⟨y2, y3, y4, y5, y6, y7, s3, e3⟩ := laps_ok (a := a) hj (x0 := some (.rol (ns.map .int))) 4 100000 0 none none none none none none none none s2 0 (by omega) t2 c2 (by omega)
  have e1' : cl (j + 4) 42 [.rol (ns.map .int), .int 1] [] = .ok (.obj k) s1 := e1
  have e2' : cl (j + 4) 40 [.obj k, .int 0] s1 = .ok (.obj a) s2 := e2
  obtain ⟨s, hs⟩ := trim_bl true 0 s3
  refine ⟨s, ?_⟩
  rw [cl, call_eq P79.f58 58 _ _ rfl rfl]
  have a1 : stepS P79.pg (evN P79.pg (cl (j + 4)) 100000 199) 100000 (.asg (.name 1) (.call 40 [(.call 42 [(.var 0), (.lit (.int (1)))]), (.lit (.int (0)))])) [some (.rol (ns.map .int)), none, none, none, none, none, none, none, none, none] [] = .nx [some (.rol (ns.map .int)), some (.obj a), none, none, none, none, none, none, none, none] s2 := by
    simp [e1', e2']
  have a2 : stepS P79.pg (evN P79.pg (cl (j + 4)) 100000 199) 100000 (.for_ (.name 2) (.rng1 (.lit (.int (4)))) lap) [some (.rol (ns.map .int)), some (.obj a), none, none, none, none, none, none, none, none] s2 = .nx [some (.rol (ns.map .int)), some (.obj a), y2, y3, y4, y5, y6, y7, none, none] s3 := by
    rw [s_for _ _ _ (lock_rng _)]
    rw [w_rng_ok (k := 4) (st1 := s2) rfl (by omega)]
    simp only [rf_ok]
    exact e3
  have hb := f58_body
  show R.trim 0 (flR (stepSs P79.pg (evN P79.pg (cl (j + 4)) 100000 199) 100000 P79.f58.body [some (.rol (ns.map .int)), none, none, none, none, none, none, none, none, none] [])) = _
  rw [hb, ss_cons, a1, fs_nx, ss_cons, a2, fs_nx, ss_cons]
  simp only [s_ret, ev_e, e_lit, rf_ok, fs_rt, fl_rt]
  exact hs
end
end W79
end
section
set_option Elab.async false
set_option linter.all false
set_option maxRecDepth 100000
set_option maxHeartbeats 0
namespace H79
open PySem PySem.Spec PyProof.Rows L2 Rf
def body : List Stmt := PySem.Challenge.pw_dwellers_k79_main_across_whole_meetings.main.body
def cc : Cc := ccOf body
def ds : List Df := defsOf body
def nmS : Stmt → List Str
  | .FunctionDef n .. => [n]
  | .ClassDef n .. => [n]
  | _ => []
def loose : List Str := (body.flatMap nmS).filter fun n => n != ("law" : Str)
def fn : List He.DefD := ds.map fun d => defD cc 0 d
def fa : List He.Fa := faOf cc
abbrev R : PySem.W.OpenRow := PySem.W.OpenLaw.row PySem.Challenge.rw_dwellers_k79_main_across_whole_meetings
abbrev hk : PySem.W.Hook := He.hookD 4 fa fn
def ob (s : PySem.W.SharedT) : He.AlD := He.obsDG 4 fa fn (HandSHeadRun.getT s)
theorem ob_eq (s : PySem.W.SharedT) : ob s = hk.obs s.abs := He.obsDG_eq (HandSHeadRun.getT_eq s)
set_option profiler true
theorem run (w : World) : HandSHeadRun.RunEq R (PySem.W.view R.prog [61]) hk ob 4000 loose w := by
  intro os
  kernel_rfl
end H79
end
section
set_option Elab.async false
set_option linter.all false
set_option maxRecDepth 100000
set_option maxHeartbeats 0
namespace H79
open PySem PySem.Spec PyProof.Rows L2 Rf
def pg : Pg := pgOf body
def lawDf : Df := ds.getD 58 default
theorem facts {w : World} {K : PySem.W.Frag} {h : Heap} {mg : Str → Option Value} {f : Addr} (hl : ∀ ns : List Int, ns.length ≤ 63 → ∃ st', callN pg 100000 200 60 58 [.rol (ns.map PV.int)] [] = .ok (.bl true) st') (X : K.In h) (G : h.Ns mainGlobals mg) (hfa : mg ("law" : Str) = some (.ref f)) (c : He.SaysD fa fn K) :
    ∃ (fd : FuncData) (sp : Sp), (∀ (s : Shared) (v : Value), BindsTo s fd ⟨[v], []⟩ [("script", v)]) ∧ (∀ (H : Hp) (a : Addr) (ns : List Int), ns.length ≤ 63 → Only H → SqL K H a (ns.map V.int) → sp [.ref a] H (fun v _ => v = .bl true) fun _ _ _ => False) ∧
      ∀ base : Heap, FnOk R.prog w K mg base (L2.CX R.prog w) 120 f fd ["script"] sp := by
  obtain ⟨T, Z, hT⟩ := wd_of (cc := cc) (ds := ds) (P := pg) (prog := R.prog) (w := w) X G c rfl (by decide +kernel) (by decide +kernel) (by decide +kernel) (by decide +kernel) (by decide +kernel) (by decide +kernel) (by decide +kernel)
  have hf : cc.fns[58]? = some (("law" : Str), none) := by decide +kernel
  have hd : ds[58]? = some lawDf := by
    unfold lawDf
    rw [List.getD_eq_getElem?_getD]
    cases q : ds[58]? with
    | some d => rfl
    | none =>
      have : ds.map Df.at_ = cc.fns := by decide +kernel
      rw [← this, List.getElem?_map, q] at hf
      cases hf
  obtain ⟨F, S, B, m1, _, hP⟩ := Z.fn 58 _ hf
  have e := (m1 rfl).symm.trans hfa
  cases e
  obtain ⟨e1, e2⟩ := hT 58 lawDf hd
  have hps : (T.df 58).pars = [("script" : Str)] := by
    rw [e1]
    decide +kernel
  have hB : argB (T.df 58).args = true ∧ ((T.df 58).args.args.map (·.arg)).Nodup := by
    rw [e1]
    exact ⟨by decide +kernel, by decide +kernel⟩
  have hA := hB.1
  unfold argB at hA
  simp only [Bool.and_eq_true, List.isEmpty_iff, Option.isNone_iff_eq_none] at hA
  obtain ⟨⟨⟨h1, h2⟩, h3⟩, h4⟩ := hA
  refine ⟨T.fd 58, FSp (lkOf cc K) K (callN pg 100000 200 60) 58, fun s v => ?_, fun H a ns hn hO hS => sp_law (cc := cc) hl H a ns hn hO hS, fun base => ?_⟩
  · have q := FunD.bindsA (ps := (T.df 58).args.args.map (·.arg)) F (fun kV doc pm an cdv ct us hl => bind_simple h1 h2 h3 h4 hB.2 hl) s [v] (by rw [show ((T.df 58).args.args.map (·.arg)) = [("script" : Str)] from hps]; rfl)
    rw [show ((T.df 58).args.args.map (·.arg)) = [("script" : Str)] from hps] at q
    exact q
  · have q := fn_all (base := base) (D := 200) (LL := 100000) (by decide) Z 60 58 _ hf
    rw [hps] at q
    exact q
end H79
end
section
set_option Elab.async false
set_option linter.all false
set_option maxRecDepth 100000
set_option maxHeartbeats 0
open PySem PySem.W PySem.Calls PyProof.Rows
/-- an exception behind a call, at some world -/
def H79.CXw (P : Program) : L2.CXT := fun outer H s E u s' => ∃ w, L2.CX P w outer H s E u s'
theorem H79.fn_cx {P : Program} {w : World} {K : PySem.W.Frag} {mg : Str → Option Value} {base : Heap} {k : Nat} {f : Addr} {fd : FuncData} {ps : List Str} {sp : L2.Sp} (F : L2.FnOk P w K mg base (L2.CX P w) k f fd ps sp) : L2.FnOk P w K mg base (H79.CXw P) k f fd ps sp :=
  ⟨F.len, fun A outer s H args us vs Q E hr e0 hb r h => codeAny_mono (F.run A outer s H args us vs Q E hr e0 hb r h) fun q s' hq => by
    cases q with
    | error e => exact ⟨w, hq⟩
    | ok fl => cases fl <;> exact hq⟩
theorem H79.holds_of (hl : ∀ ns : List Int, ns.length ≤ 63 → ∃ st', Rf.callN H79.pg 100000 200 60 58 [.rol (ns.map Rf.PV.int)] [] = .ok (.bl true) st') : PySem.Challenge.rw_dwellers_k79_main_across_whole_meetings.Holds := by
  w_on; o_law
  refine HandSHeadRun.head_any (r := OpenLaw.row PySem.Challenge.rw_dwellers_k79_main_across_whole_meetings) (q := view (OpenLaw.row PySem.Challenge.rw_dwellers_k79_main_across_whole_meetings).prog [61]) (H := H79.hk) (ob := H79.ob) (M := 4000) (loose := H79.loose) (d := HandSHeadRun.topDef (OpenLaw.row PySem.Challenge.rw_dwellers_k79_main_across_whole_meetings).prog 61) (kwd := []) H79.ob_eq
    (by kernel_rfl) (fun s => by kernel_rfl) H79.run (by kernel_rfl) (by kernel_rfl) (by kernel_rfl) (by rfl) (by first | assumption | decide +kernel) (by decide +kernel) ⟨rfl, rfl, rfl, rfl, rfl, by decide +kernel⟩ ?hw ?hc
  case hw => w_witness2
  case hc =>
    refine L2.walk_ofE (l := PySem.Challenge.rw_dwellers_k79_main_across_whole_meetings) (n := 63) (k := 120) (x := "script") (CX := H79.CXw PySem.Challenge.rw_dwellers_k79_main_across_whole_meetings.prog) rfl (by decide) (by kernel_rfl) ⟨rfl, by decide, by decide⟩ ?F (fun H s e s' ⟨w, h⟩ => Rf.cx_no H s e s' h)
    intro w mg fa h Y G hmg0
    obtain ⟨K, KX, c⟩ := Y
    have hmg : mg ("law" : PySem.Str) = some (.ref fa) := by
      have e : (HandSHeadRun.topDef (OpenLaw.row PySem.Challenge.rw_dwellers_k79_main_across_whole_meetings).prog 61).name = ("law" : PySem.Str) := by kernel_rfl
      rw [← e]
      exact hmg0
    obtain ⟨fd, sp, hb, hsp, hF⟩ := H79.facts (w := w) hl KX G hmg c
    exact ⟨K, fd, sp, KX, hb, hsp, fun base _ _ => H79.fn_cx (hF base)⟩
end
section
set_option Elab.async false
set_option linter.all false
set_option maxRecDepth 100000
set_option maxHeartbeats 0
open PySem PySem.W PySem.Calls PyProof.Rows
theorem H79.pg_eq : H79.pg = P79.pg := by kernel_rfl
theorem PySem.Challenge.cw_dwellers_k79_main_across_whole_meetings_holds : PySem.Challenge.rw_dwellers_k79_main_across_whole_meetings.Holds := by
  refine H79.holds_of fun ns hl => ?_
  rw [H79.pg_eq]
  exact W79.law_pv (j := 55) hl (by decide)
end
