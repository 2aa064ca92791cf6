import PyProof.Rows.All
import Wide.All
import OpenK.AllK
import Wide.FinOn
import PySem.Challenge.RW_mergebooks_k03_kinds_and_sameness
import HandS.ForMost
import HandS.Wide
import HandS.IsInst
import HandS.TupAny
import HandS.Star
import HandS.Deep
import HandS.DictComp
import HandS.Property
import HandS.Conv
import HandS.Flow
import HandS.Walk
import HandS.TupLen
import HandS.Comp
import HandS.Iter
import KE.OsSortAny
import HandS.Lambda
import HandS.ForExc
import HandS.ExcOwn
import HandS.ExcValue
import HandS.ExcInit
import HandS.ExcField
import KE.KExcIs
import HandS.HeadEnd
import PyProof.ReprRoads
import HandS.More
import HandS.Style
import HandS.Defaults
import HandS.Zip
import HandS.MethStar
import PyProof.Rows.SetFrom
import PyProof.SeqIndex
import HandS.DictEq
import KE.KDictZip
import HandS.SetKeys
import HandS.ExcIs
import PyProof.ExcBaseAll.ValueError
import KE.KDictCopyH
import PyProof.Rows.IntBool
import KE.KEqDict
import Lean
import HandS.Head0
import HandS.Head1
import HandS.Head2
import HandS.HeadHook1
import HandS.HeadHook2
import HandS.Words
import HandS.WordsExc
section -- MbCore
set_option Elab.async false
set_option linter.all false
set_option maxRecDepth 100000
/-! Core: values as trees, a small language of defs over them, and what it computes. -/
namespace MB
open PySem L2

/-- values as trees; loc: a thing that changes and is shared, by its number in the store; ktup: a tuple that the module holds -/
inductive T where
  | non | bl (b : Bool) | int (i : Int) | str (x : Str)
  | lst (xs : List T) | tup (xs : List T) | dct (kvs : List (T × T))
  | ins (c : Nat) (fs : List (Str × T)) | loc (n : Nat) | ktup (xs : List T)
  deriving Inhabited

abbrev Store := List T

/-- an answer: a value and the store; an exception; or none (nothing is said) -/
inductive R (α : Type) where
  | ok (a : α) (S : Store) | exc (e : T) (S : Store) | bad

abbrev M (α : Type) := Store → R α
namespace R
def bind {α β : Type} (x : R α) (f : α → Store → R β) : R β := match x with
  | .ok a S => f a S
  | .exc e S => .exc e S
  | .bad => .bad
end R
def M.ret {α : Type} (a : α) : M α := fun S => .ok a S
def M.bnd {α β : Type} (x : M α) (f : α → M β) : M β := fun S => (x S).bind f
def M.bad {α : Type} : M α := fun _ => .bad
def M.opt {α : Type} (o : Option α) : M α := fun S => match o with
  | some a => .ok a S
  | none => .bad
instance : Monad M where
  pure := M.ret
  bind := M.bnd

@[simp] theorem pure_eq {α : Type} (a : α) (S : Store) : (pure a : M α) S = .ok a S := rfl
@[simp] theorem ret_eq {α : Type} (a : α) (S : Store) : (M.ret a : M α) S = .ok a S := rfl
theorem bind_eq {α β : Type} (x : M α) (f : α → M β) (S : Store) : (x >>= f) S = (x S).bind f := rfl
@[simp] theorem bnd_eq {α β : Type} (x : M α) (f : α → M β) (S : Store) : (M.bnd x f) S = (x S).bind f := rfl
@[simp] theorem R.bind_ok {α β : Type} (a : α) (S : Store) (f : α → Store → R β) : (R.ok a S).bind f = f a S := rfl
@[simp] theorem R.bind_exc {α β : Type} (e : T) (S : Store) (f : α → Store → R β) : (R.exc e S : R α).bind f = .exc e S := rfl
@[simp] theorem R.bind_bad {α β : Type} (f : α → Store → R β) : (R.bad : R α).bind f = .bad := rfl
@[simp] theorem bad_eq {α : Type} (S : Store) : (M.bad : M α) S = .bad := rfl
@[simp] theorem opt_some {α : Type} (a : α) (S : Store) : M.opt (some a) S = .ok a S := rfl
@[simp] theorem opt_none {α : Type} (S : Store) : (M.opt (none : Option α)) S = .bad := rfl

/-! ### operations on trees -/
def b2 (b : Bool) : Int := if b then 1 else 0
mutual
/-- Python's == of data -/
def T.eqv : T → T → Bool
  | .non, .non => true
  | .bl a, .bl b => a == b
  | .bl a, .int i => b2 a == i
  | .int i, .bl b => i == b2 b
  | .int i, .int j => i == j
  | .str x, .str y => decide (x = y)
  | .lst xs, .lst ys => eqvs xs ys
  | .tup xs, .tup ys => eqvs xs ys
  | _, _ => false
def eqvs : List T → List T → Bool
  | [], [] => true
  | x :: xs, y :: ys => x.eqv y && eqvs xs ys
  | _, _ => false
end
/-- a thing without parts -/
def T.atom : T → Bool
  | .non | .bl _ | .int _ | .str _ => true
  | _ => false
/-- data without dicts and objects, so deep at most -/
def T.pl : Nat → T → Bool
  | _, .non | _, .bl _ | _, .int _ => true
  | _, .str x => x.cps.all (· < 0x110000)
  | n + 1, .lst xs => xs.all (T.pl n)
  | n + 1, .tup xs => xs.all (T.pl n)
  | _, _ => false
/-- the kind of a thing, for == of things of unlike kinds -/
def T.kd : T → Nat
  | .non => 0 | .bl _ => 1 | .int _ => 1 | .str _ => 2 | .lst _ => 3 | .tup _ => 4 | .dct _ => 5 | .ins _ _ => 6 | .loc _ => 7 | .ktup _ => 8
/-- ==, where it is said -/
def eqT (x y : T) : Option Bool :=
  if x.atom && y.atom then some (x.eqv y)
  else match x, y with
  | .lst xs, .lst ys => if xs.length = ys.length then (if x.pl 8 && y.pl 8 then some (x.eqv y) else none) else some false
  | .tup xs, .tup ys => if x.pl 8 && y.pl 8 then some (x.eqv y) else none
  | .dct _, .tup _ => some false
  | .tup _, .dct _ => some false
  | _, _ => if x.kd < 5 && y.kd < 5 && x.kd != y.kd then some false else none

/-- a key -/
def T.key : T → Option Key
  | .int i => some (.inl i)
  | .str x => some (.inr x)
  | _ => none
def keysOf : List T → Option (List Key)
  | [] => some []
  | x :: xs => match x.key, keysOf xs with
    | some k, some ks => some (k :: ks)
    | _, _ => none
inductive TK where
  | k (k : Key) | t (ks : List Key)
  deriving DecidableEq
def T.tk : T → Option TK
  | .int i => some (.k (.inl i))
  | .str x => some (.k (.inr x))
  | .tup (x :: xs) => (keysOf (x :: xs)).map .t
  | _ => none
/-- a key of the form that a dict's keys have -/
def dform (kvs : List (T × T)) (x : T) : Bool := x.tk.isSome && kvs.all fun p => p.1.tk.isSome && p.1.key.isSome == x.key.isSome
def dget (kvs : List (T × T)) (k : T) : Option T := (kvs.find? fun p => decide (p.1.tk = k.tk)).map (·.2)
def dhas (kvs : List (T × T)) (k : T) : Bool := kvs.any fun p => decide (p.1.tk = k.tk)
def dput (kvs : List (T × T)) (k v : T) : List (T × T) :=
  if dhas kvs k then kvs.map fun p => if p.1.tk = k.tk then (p.1, v) else p else kvs ++ [(k, v)]
def ddrop (kvs : List (T × T)) (k : T) : List (T × T) := kvs.filter fun p => decide (p.1.tk ≠ k.tk)

/-- xs[i] -/
def ixN (n : Nat) (i : Int) : Option Nat := if 0 ≤ i then (if i < n then some i.toNat else none) else if -(n : Int) ≤ i then some (i + n).toNat else none
/-- a bound of a slice -/
def clampB (n : Nat) (i : Int) : Nat := if i < 0 then (i + n).toNat else min i.toNat n
def cutL {α : Type} (xs : List α) (lo hi : Option Int) : List α :=
  let n := xs.length
  let a := match lo with | some i => clampB n i | none => 0
  let b := match hi with | some i => clampB n i | none => n
  (xs.drop a).take (b - a)

inductive BOp where | add | sub | mul | fdiv | mod | pow
  deriving DecidableEq, BEq
inductive COp where | eq | ne | lt | le | gt | ge | inn | nin | is | isnot
  deriving DecidableEq, BEq

def binT : BOp → T → T → Option T
  | .add, .int i, .int j => some (.int (i + j))
  | .add, .str x, .str y => if x.length + y.length ≤ sizeLine then some (.str (x ++ y)) else none
  | .add, .lst xs, .lst ys => if xs.length + ys.length ≤ sizeLine then some (.lst (xs ++ ys)) else none
  | .add, .tup xs, .tup ys => if xs.length + ys.length ≤ sizeLine then some (.tup (xs ++ ys)) else none
  | .sub, .int i, .int j => some (.int (i - j))
  | .mul, .int i, .int j => if (-(2 ^ 64) < i ∧ i < 2 ^ 64) ∨ (-(2 ^ 64) < j ∧ j < 2 ^ 64) then some (.int (i * j)) else none
  | .fdiv, .int i, .int j => if 0 < j ∧ j < 1073741824 then some (.int (i / j)) else none
  | .mod, .int i, .int j => if 0 < j then some (.int (i % j)) else none
  | .pow, .int i, .int j => if 0 ≤ j ∧ j ≤ 1000000 ∧ i.natAbs < 2 ^ 64 then some (.int (i ^ j.toNat)) else none
  | _, _, _ => none

/-- x in ys (isL: a list) -/
def memT (isL : Bool) (x : T) (ys : List T) : Option Bool :=
  if (x.atom && ys.all T.atom) || (isL && x.pl 8 && ys.all (T.pl 8)) then some (ys.any fun y => y.eqv x) else none
/-- one text within another -/
def strIn (x y : Str) : Bool := !(Builtin.Str.occurrences y x 0 y.length 1).isEmpty

def cmpT : COp → T → T → Option Bool
  | .eq, x, y => eqT x y
  | .ne, x, y => (eqT x y).map (!·)
  | .lt, .int i, .int j => some (decide (i < j))
  | .le, .int i, .int j => some (decide (i ≤ j))
  | .gt, .int i, .int j => some (decide (j < i))
  | .ge, .int i, .int j => some (decide (j ≤ i))
  | .lt, .str x, .str y => some (decide (x.cps.toList < y.cps.toList))
  | .le, .str x, .str y => some (!decide (y.cps.toList < x.cps.toList))
  | .ge, .str x, .str y => some (!decide (x.cps.toList < y.cps.toList))
  | .is, x, .non => some (match x with | .non => true | _ => false)
  | .isnot, x, .non => some (match x with | .non => false | _ => true)
  | .inn, .str x, .str y => some (strIn x y)
  | .nin, .str x, .str y => some (!strIn x y)
  | .inn, x, .lst ys => memT true x ys
  | .nin, x, .lst ys => (memT true x ys).map (!·)
  | .inn, x, .tup ys => memT false x ys
  | .nin, x, .tup ys => (memT false x ys).map (!·)
  | .inn, x, .ktup ys => memT false x ys
  | .nin, x, .ktup ys => (memT false x ys).map (!·)
  | .inn, x, .dct kvs => if dform kvs x then some (dhas kvs x) else none
  | .nin, x, .dct kvs => if dform kvs x then some (!dhas kvs x) else none
  | _, _, _ => none

/-! ### the language -/
inductive TG where
  | nm (i : Nat) | tp (is : List Nat)
/-- built-in functions -/
inductive BI where
  | len | list | tuple | dict | sorted | sortedSet | all | int | min2 | max2 | str
  deriving DecidableEq, BEq
/-- methods of built-in types -/
inductive ME where
  | get | index | join | split
  deriving DecidableEq, BEq
/-- what isinstance asks -/
inductive CS where
  | ty (ns : List String) | own (c : Nat)
inductive E where
  | var (i : Nat) | lit (t : T) | glb (x : Str) (t : T)
  | bin (op : BOp) (a b : E) | cmp (op : COp) (a b : E) | chn (o1 o2 : COp) (a b c : E)
  | neg (a : E) | not (a : E) | and (a b : E) | or (a b : E) | ife (c a b : E)
  | lst (es : List E) | rep (es : List E) (k : E) | tup (es : List E) | dct (es : List E) | star (e : E)
  | rng (es : List E) | enu (e : E) | zip (a b : E) | itm (o : E) | vls (o : E)
  | sub (a b : E) | slc (a lo hi : E) | nil
  | call (f : Nat) (es : List E) | bi (b : BI) (e : E) | bi2 (b : BI) (x y : E) | me (m : ME) (o : E) (es : List E)
  | att (o : E) (f : Str) | mcl (c m : Nat) (o : E) (es : List E) | prp (c m : Nat) (o : E) | mk (c : Nat) (es : List E)
  | isi (e : E) (c : CS)
  | mpop (o i : E)
  | lc1 (own : List Nat) (elt : E) (tg : TG) (it cond : E)
  | lc2 (own own2 : List Nat) (elt : E) (tg : TG) (it cond : E) (tg2 : TG) (it2 cond2 : E)
  | dc1 (own : List Nat) (k v : E) (tg : TG) (it cond : E)
  | dc2 (own own2 : List Nat) (k v : E) (tg : TG) (it cond : E) (tg2 : TG) (it2 cond2 : E)
  | sc2 (own own2 : List Nat) (elt : E) (tg : TG) (it cond : E) (tg2 : TG) (it2 cond2 : E)
  deriving Inhabited

/-- a slot: a thing that no longer changes; a container that this name alone holds -/
inductive Sl where
  | sh (t : T) | ow (t : T)
abbrev Env := List (Option Sl)
def rdS (ρ : Env) (i : Nat) : Option T := match ρ[i]? with
  | some (some (.sh t)) => some t
  | _ => none
def rdB (ρ : Env) (i : Nat) : Option T := match ρ[i]? with
  | some (some (.sh t)) => some t
  | some (some (.ow t)) => some t
  | _ => none
def borrow? (ρ : Env) : E → Option T
  | .var i => rdB ρ i
  | _ => none
def wipeE (ρ : Env) : List Nat → Env
  | [] => ρ
  | i :: is => wipeE (ρ.set i none) is
/-- what stands at a loc -/
def viewS (S : Store) : T → T
  | .loc n => S.getD n .non
  | t => t
def truT (S : Store) (t : T) : Option Bool := match viewS S t with
  | .non => some false
  | .bl b => some b
  | .int i => some (i != 0)
  | .str x => if x.length ≤ sizeLine then some (x.length != 0) else none
  | .lst xs => some (!xs.isEmpty)
  | .tup xs => some (!xs.isEmpty)
  | _ => none
def bindTG (ρ : Env) : TG → T → Option Env
  | .nm i, t => if i < ρ.length then some (ρ.set i (some (.sh t))) else none
  | .tp is, .tup ts => if is.length = ts.length ∧ is.all (· < ρ.length) then some ((is.zip ts).foldl (fun r p => r.set p.1 (some (.sh p.2))) ρ) else none
  | _, _ => none

/-- what a for walks: the items of a thing -/
def itemsT : T → Option (List T)
  | .lst xs => some xs
  | .tup xs => some xs
  | .ktup xs => some xs
  | .str x => if x.length ≤ sizeLine then some (x.cps.toList.map fun c => .str ⟨#[c]⟩) else none
  | .dct kvs => some (kvs.map (·.1))
  | _ => none
/-- what a star spreads -/
def starT : T → Option (List T)
  | .lst xs => some xs
  | .tup xs => some xs
  | .dct kvs => if kvs.all (fun p => p.1.key.isSome) then some (kvs.map (·.1)) else none
  | _ => none
def rangeL (lo : Int) (n : Nat) : List T := (List.range n).map fun (i : Nat) => .int (lo + (i : Int))
def inLine (i : Int) : Bool := -(2 ^ 62) ≤ i && i < 2 ^ 62
def rangeT : List T → Option (List T)
  | [.int n] => if inLine n then some (rangeL 0 n.toNat) else none
  | [.int a, .int b] => if inLine a && inLine b then some (rangeL a (b - a).toNat) else none
  | [.int a, .int b, .int c] => if inLine a && inLine b && c == -1 then some ((List.range (a - b).toNat).map fun (i : Nat) => .int (a + (i : Int) * (-1))) else none
  | _ => none

def strsT : List T → Option (List Str)
  | [] => some []
  | .str x :: ts => (strsT ts).map (x :: ·)
  | _ => none
/-- by code points -/
def leS (x y : Str) : Bool := !Spec.ltCps y.cps.toList x.cps.toList
def sortS (xs : List Str) : List Str := xs.mergeSort leS
def boolsT : List T → Option (List Bool)
  | [] => some []
  | .bl b :: ts => (boolsT ts).map (b :: ·)
  | _ => none
def pairsT : List T → Option (List (T × T))
  | [] => some []
  | .tup [a, b] :: ts => (pairsT ts).map ((a, b) :: ·)
  | _ => none
def pairUp : List T → Option (List (T × T))
  | [] => some []
  | a :: b :: ts => (pairUp ts).map ((a, b) :: ·)
  | _ => none
def putAll (kvs : List (T × T)) (ps : List (T × T)) : List (T × T) := ps.foldl (fun d p => dput d p.1 p.2) kvs
def idxT (x : T) : List T → Nat → Option Nat
  | [], _ => none
  | y :: ys, i => match eqT y x with
    | some true => some i
    | some false => idxT x ys (i + 1)
    | none => none

def lenT : T → Option Nat
  | .lst xs => some xs.length
  | .tup xs => some xs.length
  | .dct xs => some xs.length
  | .str x => if x.length ≤ sizeLine then some x.length else none
  | _ => none
/-- built-in functions of values (arguments seen through the store) -/
def biT : BI → T → Option T
  | .len, t => (lenT t).map fun (k : Nat) => T.int (k : Int)
  | .list, .lst xs => some (.lst xs)
  | .list, .tup xs => some (.lst xs)
  | .list, .dct kvs => if kvs.all (fun p => p.1.key.isSome) then some (.lst (kvs.map (·.1))) else none
  | .tuple, .lst xs => some (.tup xs)
  | .tuple, .tup xs => some (.tup xs)
  | .tuple, .dct kvs => if kvs.all (fun p => p.1.key.isSome) then some (.tup (kvs.map (·.1))) else none
  | .dict, .dct kvs => some (.dct kvs)
  | .dict, .lst ps => (pairsT ps).bind fun l => if l.all (fun p => p.1.key.isSome) then some (.dct (putAll [] l)) else none
  | .sorted, .lst ts => (strsT ts).bind fun l => if l.length < 64 then some (.lst ((sortS l).map .str)) else none
  | .sorted, .dct kvs => (strsT (kvs.map (·.1))).bind fun l => if l.length < 64 then some (.lst ((sortS l).map .str)) else none
  | .sortedSet, .lst ts => (strsT ts).bind fun l => if l.length < 64 then some (.lst ((sortS l.eraseDups).map .str)) else none
  | .all, .lst ts => (boolsT ts).map fun l => .bl (l.all id)
  | .int, .int i => some (.int i)
  | .int, .bl b => some (.int (b2 b))
  | _, _ => none
def bi2T : BI → T → T → Option T
  | .min2, .int i, .int j => some (.int (if j < i then j else i))
  | .max2, .int i, .int j => some (.int (if j > i then j else i))
  | _, _, _ => none
def meT : ME → T → List T → Option T
  | .get, .dct kvs, [k, d] => if k.key.isSome && dform kvs k then some ((dget kvs k).getD d) else none
  | .index, .lst xs, [x] => (idxT x xs 0).map fun (k : Nat) => T.int (k : Int)
  | .join, .str z, [.lst ts] => (strsT ts).bind fun l => if (Txt.join z l).length ≤ 16777216 then some (.str (Txt.join z l)) else none
  | .split, .str a, [.str b] => if b.length == 0 then none else if a.length + 2 ≤ sizeLine then some (.lst ((Txt.split a b).map .str)) else none
  | _, _, _ => none
def subT : T → T → Option T
  | .lst xs, .int i => (ixN xs.length i).bind fun j => xs[j]?
  | .tup xs, .int i => (ixN xs.length i).bind fun j => xs[j]?
  | .str x, .int i => if x.length ≤ sizeLine then (ixN x.cps.size i).bind fun j => x.cps[j]?.map fun c => .str ⟨#[c]⟩ else none
  | .dct kvs, k => if dform kvs k then dget kvs k else none
  | _, _ => none
def optInt : T → Option (Option Int)
  | .non => some none
  | .int i => some (some i)
  | _ => none
def slcT : T → T → T → Option T
  | .lst xs, lo, hi => match optInt lo, optInt hi with
    | some a, some b => some (.lst (cutL xs a b))
    | _, _ => none
  | .tup xs, lo, hi => match optInt lo, optInt hi with
    | some a, some b => some (.tup (cutL xs a b))
    | _, _ => none
  | _, _, _ => none
def attT (f : Str) : T → Option T
  | .ins _ fs => fs.lookup f
  | _ => none
def isiT (c : CS) : T → Option Bool := fun t => match c, t with
  | .own c, .ins d _ => some (c == d)
  | .own _, _ => some false
  | .ty ns, .non => some false
  | .ty ns, .bl _ => some (ns.contains "bool" || ns.contains "int")
  | .ty ns, .int _ => some (ns.contains "int")
  | .ty ns, .str _ => some (ns.contains "str")
  | .ty ns, .lst _ => some (ns.contains "list")
  | .ty ns, .tup _ => some (ns.contains "tuple")
  | .ty ns, .dct _ => some (ns.contains "dict")
  | .ty _, .ins _ _ => some false
  | .ty _, .loc _ => none
  | .ty _, .ktup _ => none
/-- what calls give: defs; defs one level below (properties); new instances; __init__ by class -/
structure Calls where
  fn : Nat → List T → M T
  fd : Nat → List T → M T
  nw : Nat → List T → M T
  ini : Nat → List T → M T

/-- a comprehension's loop: f by the item gives none (left out) or what is kept -/
def walkM {α : Type} (f : T → M (Option α)) : List T → M (List α)
  | [] => M.ret []
  | x :: xs => M.bnd (f x) fun r => M.bnd (walkM f xs) fun rs => M.ret (match r with
    | some a => a :: rs
    | none => rs)
def walkM2 {α : Type} (f : T → M (List α)) : List T → M (List α)
  | [] => M.ret []
  | x :: xs => M.bnd (f x) fun r => M.bnd (walkM2 f xs) fun rs => M.ret (r ++ rs)
def M.tru (t : T) : M Bool := fun S => (M.opt (truT S t)) S
def M.view (t : T) : M T := fun S => .ok (viewS S t) S

def orB (o : Option T) (m : M T) : M T := match o with
  | some t => M.ret t
  | none => m
def M.items (t : T) : M (List T) := fun S => (M.opt (itemsT (viewS S t))) S

mutual
def evE (C : Calls) : E → Env → M T
  | .var i, ρ => M.opt (rdS ρ i)
  | .lit t, _ => M.ret t
  | .glb _ t, _ => M.ret t
  | .bin op a b, ρ => M.bnd (orB (borrow? ρ a) (evE C a ρ)) fun x => M.bnd (orB (borrow? ρ b) (evE C b ρ)) fun y => M.opt (binT op x y)
  | .cmp op a b, ρ => M.bnd (orB (borrow? ρ a) (evE C a ρ)) fun x => M.bnd (orB (borrow? ρ b) (evE C b ρ)) fun y => M.bnd (M.view y) fun y => M.bnd (M.view x) fun x => M.opt ((cmpT op x y).map .bl)
  | .chn o1 o2 a b c, ρ => M.bnd (orB (borrow? ρ a) (evE C a ρ)) fun x => M.bnd (orB (borrow? ρ b) (evE C b ρ)) fun y => M.bnd (M.opt (cmpT o1 x y)) fun r =>
      if r then M.bnd (orB (borrow? ρ c) (evE C c ρ)) fun z => M.opt ((cmpT o2 y z).map .bl) else M.ret (.bl false)
  | .neg a, ρ => M.bnd (evE C a ρ) fun x => M.opt (match x with | .int i => some (.int (-i)) | _ => none)
  | .not a, ρ => M.bnd (orB (borrow? ρ a) (evE C a ρ)) fun x => M.bnd (M.tru x) fun b => M.ret (.bl (!b))
  | .and a b, ρ => M.bnd (evE C a ρ) fun x => M.bnd (M.tru x) fun r => if r then evE C b ρ else M.ret x
  | .or a b, ρ => M.bnd (evE C a ρ) fun x => M.bnd (M.tru x) fun r => if r then M.ret x else evE C b ρ
  | .ife c a b, ρ => M.bnd (evE C c ρ) fun x => M.bnd (M.tru x) fun r => if r then evE C a ρ else evE C b ρ
  | .lst es, ρ => M.bnd (evEs C es ρ) fun xs => M.opt (if xs.length ≤ 1000 then some (.lst xs) else none)
  | .rep es k, ρ => M.bnd (evEs C es ρ) fun xs => M.bnd (evE C k ρ) fun y => M.opt (match y with
      | .int j => if xs.length ≤ 1000 ∧ -(2 ^ 63) ≤ j ∧ j < 2 ^ 63 ∧ xs.length * j.toNat ≤ sizeLine then some (.lst (List.replicate j.toNat xs).flatten) else none
      | _ => none)
  | .tup es, ρ => M.bnd (evEs C es ρ) fun xs => M.opt (if xs.length ≤ 1000 then some (.tup xs) else none)
  | .dct es, ρ => M.bnd (evEs C es ρ) fun xs => M.bnd (M.opt (pairUp xs)) fun ps => M.opt (if ps.length ≤ 15 ∧ (ps.all fun p => p.1.key.isSome) then some (.dct (putAll [] ps)) else none)
  | .star _, _ => M.bad
  | .rng es, ρ => M.bnd (evEs C es ρ) fun xs => M.opt ((rangeT xs).map .lst)
  | .enu e, ρ => M.bnd (orB (borrow? ρ e) (evE C e ρ)) fun x => M.bnd (M.view x) fun x => M.opt (match x with
      | .lst ts => some (.lst ((ts.zipIdx).map fun p => .tup [.int p.2, p.1]))
      | _ => none)
  | .zip a b, ρ => M.bnd (orB (borrow? ρ a) (evE C a ρ)) fun x => M.bnd (orB (borrow? ρ b) (evE C b ρ)) fun y => M.opt (match x, y with
      | .lst ts, .lst us => some (.lst ((ts.zip us).map fun p => .tup [p.1, p.2]))
      | _, _ => none)
  | .itm o, ρ => M.bnd (evE C o ρ) fun x => M.opt (match x with
      | .dct kvs => some (.lst (kvs.map fun p => .tup [p.1, p.2]))
      | _ => none)
  | .vls o, ρ => M.bnd (evE C o ρ) fun x => M.opt (match x with
      | .dct kvs => if kvs.all (fun p => p.1.key.isSome) then some (.lst (kvs.map (·.2))) else none
      | _ => none)
  | .sub a b, ρ => M.bnd (orB (borrow? ρ a) (evE C a ρ)) fun x => M.bnd (evE C b ρ) fun y => M.bnd (M.view x) fun x => M.opt (subT x y)
  | .slc a lo hi, ρ => M.bnd (orB (borrow? ρ a) (evE C a ρ)) fun x => M.bnd (evE C lo ρ) fun y => M.bnd (evE C hi ρ) fun z => M.bnd (M.view x) fun x => M.opt (slcT x y z)
  | .nil, _ => M.ret .non
  | .call f es, ρ => M.bnd (evEs C es ρ) fun xs => C.fn f xs
  | .bi b e, ρ => M.bnd (orB (borrow? ρ e) (evE C e ρ)) fun x => M.bnd (M.view x) fun x => M.opt (biT b x)
  | .bi2 b a c, ρ => M.bnd (evE C a ρ) fun x => M.bnd (evE C c ρ) fun y => M.opt (bi2T b x y)
  | .me m o es, ρ => M.bnd (orB (borrow? ρ o) (evE C o ρ)) fun x => M.bnd (evEs C es ρ) fun ys => M.bnd (M.view x) fun x => M.opt (meT m x ys)
  | .att o f, ρ => M.bnd (evE C o ρ) fun x => M.bnd (M.view x) fun x => M.opt (attT f x)
  | .mcl c m o es, ρ => M.bnd (evE C o ρ) fun x => M.bnd (evEs C es ρ) fun ys => M.bnd (M.view x) fun z => match z with
      | .ins d _ => if c = d then C.fn m (x :: ys) else M.bad
      | _ => M.bad
  | .prp c m o, ρ => M.bnd (evE C o ρ) fun x => M.bnd (M.view x) fun z => match z with
      | .ins d _ => if c = d then C.fd m [x] else M.bad
      | _ => M.bad
  | .mk c es, ρ => M.bnd (evEs C es ρ) fun xs => C.nw c xs
  | .isi e c, ρ => M.bnd (orB (borrow? ρ e) (evE C e ρ)) fun x => M.bnd (M.view x) fun x => M.opt ((isiT c x).map .bl)
  | .mpop o i, ρ => M.bnd (evE C o ρ) fun x => M.bnd (evE C i ρ) fun y => match x, y with
      | .loc n, .int i => fun S => match S[n]? with
        | some (.lst xs) => (match ixN xs.length i with
          | some j => (match xs[j]? with
            | some v => .ok v (S.set n (.lst (xs.eraseIdx j)))
            | none => .bad)
          | none => .bad)
        | _ => .bad
      | _, _ => M.bad
  | .lc1 own elt tg it cond, ρ => M.bnd (orB (borrow? ρ it) (evE C it ρ)) fun q => M.bnd (M.items q) fun xs => M.bnd (walkM (fun x => M.bnd (M.opt (bindTG (wipeE ρ own) tg x)) fun r =>
      M.bnd (evE C cond r) fun c => M.bnd (M.tru c) fun k => if k then M.bnd (evE C elt r) fun y => M.ret (some y) else M.ret none) xs) fun ys => M.ret (.lst ys)
  | .lc2 own own2 elt tg it cond tg2 it2 cond2, ρ => M.bnd (orB (borrow? ρ it) (evE C it ρ)) fun q => M.bnd (M.items q) fun xs => M.bnd (walkM2 (fun x => M.bnd (M.opt (bindTG (wipeE ρ own) tg x)) fun r =>
      M.bnd (evE C cond r) fun c => M.bnd (M.tru c) fun k => if k then M.bnd (orB (borrow? r it2) (evE C it2 r)) fun q => M.bnd (M.items q) fun xs2 => walkM (fun x2 => M.bnd (M.opt (bindTG (wipeE r own2) tg2 x2)) fun r2 =>
        M.bnd (evE C cond2 r2) fun c2 => M.bnd (M.tru c2) fun k2 => if k2 then M.bnd (evE C elt r2) fun y => M.ret (some y) else M.ret none) xs2 else M.ret []) xs) fun ys => M.ret (.lst ys)
  | .dc1 own k v tg it cond, ρ => M.bnd (orB (borrow? ρ it) (evE C it ρ)) fun q => M.bnd (M.items q) fun xs => M.bnd (walkM (fun x => M.bnd (M.opt (bindTG (wipeE ρ own) tg x)) fun r =>
      M.bnd (evE C cond r) fun c => M.bnd (M.tru c) fun b => if b then M.bnd (evE C k r) fun y => M.bnd (evE C v r) fun z => M.ret (some (y, z)) else M.ret none) xs) fun ps =>
        M.opt (if ps.all (fun p => p.1.key.isSome) then some (.dct (putAll [] ps)) else none)
  | .dc2 own own2 k v tg it cond tg2 it2 cond2, ρ => M.bnd (orB (borrow? ρ it) (evE C it ρ)) fun q => M.bnd (M.items q) fun xs => M.bnd (walkM2 (fun x => M.bnd (M.opt (bindTG (wipeE ρ own) tg x)) fun r =>
      M.bnd (evE C cond r) fun c => M.bnd (M.tru c) fun b => if b then M.bnd (orB (borrow? r it2) (evE C it2 r)) fun q => M.bnd (M.items q) fun xs2 => walkM (fun x2 => M.bnd (M.opt (bindTG (wipeE r own2) tg2 x2)) fun r2 =>
        M.bnd (evE C cond2 r2) fun c2 => M.bnd (M.tru c2) fun b2 => if b2 then M.bnd (evE C k r2) fun y => M.bnd (evE C v r2) fun z => M.ret (some (y, z)) else M.ret none) xs2 else M.ret []) xs) fun ps =>
        M.opt (if ps.all (fun p => p.1.tk.isSome) then some (.dct (putAll [] ps)) else none)
  | .sc2 own own2 elt tg it cond tg2 it2 cond2, ρ => M.bnd (orB (borrow? ρ it) (evE C it ρ)) fun q => M.bnd (M.items q) fun xs => M.bnd (walkM2 (fun x => M.bnd (M.opt (bindTG (wipeE ρ own) tg x)) fun r =>
      M.bnd (evE C cond r) fun c => M.bnd (M.tru c) fun k => if k then M.bnd (orB (borrow? r it2) (evE C it2 r)) fun q => M.bnd (M.items q) fun xs2 => walkM (fun x2 => M.bnd (M.opt (bindTG (wipeE r own2) tg2 x2)) fun r2 =>
        M.bnd (evE C cond2 r2) fun c2 => M.bnd (M.tru c2) fun k2 => if k2 then M.bnd (evE C elt r2) fun y => M.ret (some y) else M.ret none) xs2 else M.ret []) xs) fun ys =>
        M.opt (biT .sortedSet (.lst ys))
def evEs (C : Calls) : List E → Env → M (List T)
  | [], _ => M.ret []
  | .star e :: es, ρ => M.bnd (evE C e ρ) fun x => M.bnd (M.opt (starT x)) fun xs => M.bnd (evEs C es ρ) fun ys => M.ret (xs ++ ys)
  | e :: es, ρ => M.bnd (evE C e ρ) fun x => M.bnd (evEs C es ρ) fun xs => M.ret (x :: xs)
end

/-! ### statements -/
inductive S where
  | asg (tg : TG) (e : E) | own (i : Nat) (e : E) | par (ts : List (Bool × Nat)) (es : List E) | shr (i : Nat)
  | app (i : Nat) (e : E) | upd (i : Nat) (e : E) | ext (i : Nat) (e : E) | seti (i : Nat) (k v : E) | popi (t i : Nat) (k : E)
  | lset (o k e : E) | fset (f : Str) (e : E) | ex (e : E)
  | ife (c : E) (a b : List S) | for (tg : TG) (it : E) (body : List S) | whl (c : E) (body : List S)
  | ret (e : E) | pas | brk | cnt | dead
  deriving Inhabited
inductive Fl where
  | nx | rt (t : T) | bk | ct
def forL (body : T → Env → M (Fl × Env)) : List T → Env → M (Fl × Env)
  | [], ρ => M.ret (.nx, ρ)
  | x :: xs, ρ => M.bnd (body x ρ) fun p => match p.1 with
    | .nx => forL body xs p.2
    | .ct => forL body xs p.2
    | .bk => M.ret (.nx, p.2)
    | .rt t => M.ret (.rt t, p.2)
def whlL (test : Env → M Bool) (body : Env → M (Fl × Env)) : Nat → Env → M (Fl × Env)
  | 0, _ => M.bad
  | n + 1, ρ => M.bnd (test ρ) fun k => if k then M.bnd (body ρ) fun p => match p.1 with
      | .nx => whlL test body n p.2
      | .ct => whlL test body n p.2
      | .bk => M.ret (.nx, p.2)
      | .rt t => M.ret (.rt t, p.2)
    else M.ret (.nx, ρ)
def owS (ρ : Env) (i : Nat) : Option T := match ρ[i]? with
  | some (some (.ow t)) => some t
  | _ => none
def setSh (ρ : Env) (i : Nat) (t : T) : Env := ρ.set i (some (.sh t))
def setOw (ρ : Env) (i : Nat) (t : T) : Env := ρ.set i (some (.ow t))
/-- an own container may be a list, a dict, or an instance that is being made -/
def ownable : T → Bool
  | .lst _ | .dct _ => true
  | _ => false
def appT : T → T → Option T
  | .lst xs, v => if xs.length < sizeLine then some (.lst (xs ++ [v])) else none
  | _, _ => none
def setiT : T → T → T → Option T
  | .dct kvs, k, v => if dform kvs k ∧ kvs.length < sizeLine then some (.dct (dput kvs k v)) else none
  | .lst xs, .int i, v => (ixN xs.length i).map fun j => .lst (xs.set j v)
  | _, _, _ => none
def updT : T → List (T × T) → Option T
  | .dct kvs, [] => some (.dct kvs)
  | .dct kvs, (k, v) :: ps => (setiT (.dct kvs) k v).bind fun d => updT d ps
  | _, _ => none
def popT : T → T → Option (T × T)
  | .lst xs, .int i => (ixN xs.length i).bind fun j => xs[j]?.map fun v => (v, .lst (xs.eraseIdx j))
  | _, _ => none
def fsetT (f : Str) (v : T) : T → Option T
  | .ins c fs => if fs.length < 1000 then some (.ins c (if fs.any (fun p => decide (p.1 = f)) then fs.map (fun p => if p.1 = f then (f, v) else p) else fs ++ [(f, v)])) else none
  | _ => none
def setPar (ρ : Env) : List (Bool × Nat) → List T → Env
  | (o, i) :: ts, x :: xs => setPar (if o then setOw ρ i x else setSh ρ i x) ts xs
  | _, _ => ρ
mutual
def exS (C : Calls) (n : Nat) : S → Env → M (Fl × Env)
  | .asg tg e, ρ => M.bnd (evE C e ρ) fun x => M.bnd (M.opt (bindTG ρ tg x)) fun r => M.ret (.nx, r)
  | .own i e, ρ => M.bnd (evE C e ρ) fun x => if ownable x && decide (i < ρ.length) then M.ret (.nx, setOw ρ i x) else M.bad
  | .par ts es, ρ => M.bnd (evEs C es ρ) fun xs => if xs.length = ts.length ∧ ts.all (fun p => decide (p.2 < ρ.length)) ∧ ((ts.zip xs).all fun p => !p.1.1 || ownable p.2) then M.ret (.nx, setPar ρ ts xs) else M.bad
  | .shr i, ρ => M.bnd (M.opt (owS ρ i)) fun t => M.ret (.nx, setSh ρ i t)
  | .app i e, ρ => M.bnd (evE C e ρ) fun x => M.bnd (M.opt (owS ρ i)) fun t => M.bnd (M.opt (appT t x)) fun u => M.ret (.nx, setOw ρ i u)
  | .upd i e, ρ => M.bnd (evE C e ρ) fun x => M.bnd (M.opt (owS ρ i)) fun t => M.bnd (M.opt (match x with
      | .lst ps => (pairsT ps).bind fun l => updT t l
      | _ => none)) fun u => M.ret (.nx, setOw ρ i u)
  | .ext i e, ρ => M.bnd (evE C e ρ) fun x => M.bnd (M.opt (owS ρ i)) fun t => M.bnd (M.opt (match t, x with
      | .lst xs, .lst ys => if xs.length + ys.length ≤ sizeLine then some (.lst (xs ++ ys)) else none
      | _, _ => none)) fun u => M.ret (.nx, setOw ρ i u)
  | .seti i k v, ρ => M.bnd (evE C v ρ) fun y => M.bnd (evE C k ρ) fun x => M.bnd (M.opt (owS ρ i)) fun t => M.bnd (M.opt (setiT t x y)) fun u => M.ret (.nx, setOw ρ i u)
  | .popi t i k, ρ => M.bnd (evE C k ρ) fun x => M.bnd (M.opt (owS ρ i)) fun c => M.bnd (M.opt (popT c x)) fun p => if t < ρ.length ∧ t ≠ i then M.ret (.nx, setSh (setOw ρ i p.2) t p.1) else M.bad
  | .lset o k e, ρ => M.bnd (evE C e ρ) fun y => M.bnd (evE C o ρ) fun x => M.bnd (evE C k ρ) fun z => match x with
      | .loc m => fun st => match st[m]? with
        | some c => (match setiT c z y with
          | some d => .ok (.nx, ρ) (st.set m d)
          | none => .bad)
        | none => .bad
      | _ => M.bad
  | .fset f e, ρ => M.bnd (evE C e ρ) fun y => M.bnd (M.opt (owS ρ 0)) fun t => M.bnd (M.opt (fsetT f y t)) fun u => M.ret (.nx, setOw ρ 0 u)
  | .ex e, ρ => M.bnd (evE C e ρ) fun _ => M.ret (.nx, ρ)
  | .ife c a b, ρ => M.bnd (evE C c ρ) fun x => M.bnd (M.tru x) fun k => if k then exSs C n a ρ else exSs C n b ρ
  | .for tg it body, ρ => M.bnd (orB (borrow? ρ it) (evE C it ρ)) fun q => M.bnd (M.items q) fun xs => forL (fun x r => M.bnd (M.opt (bindTG r tg x)) fun r2 => exSs C n body r2) xs ρ
  | .whl c body, ρ => whlL (fun r => M.bnd (evE C c r) fun x => M.tru x) (fun r => exSs C n body r) n ρ
  | .ret e, ρ => M.bnd (evE C e ρ) fun x => M.ret (.rt x, ρ)
  | .pas, ρ => M.ret (.nx, ρ)
  | .brk, ρ => M.ret (.bk, ρ)
  | .cnt, ρ => M.ret (.ct, ρ)
  | .dead, _ => M.bad
def exSs (C : Calls) (n : Nat) : List S → Env → M (Fl × Env)
  | [], ρ => M.ret (.nx, ρ)
  | s :: ss, ρ => M.bnd (exS C n s ρ) fun p => match p.1 with
    | .nx => exSs C n ss p.2
    | f => M.ret (f, p.2)
end
/-- a def: how many parameters, how many names, its body -/
structure Fn where
  np : Nat
  ns : Nat
  body : List S
/-- the text: defs by number; the __init__ of each class -/
structure Text where
  fn : Nat → Option Fn
  ini : Nat → Option Fn
def startE (ns : Nat) (xs : List (Option Sl)) : Env := xs ++ List.replicate (ns - xs.length) none
def runFn (C : Calls) (n : Nat) (d : Fn) (args : List T) : M T :=
  if args.length = d.np ∧ d.np ≤ d.ns then M.bnd (exSs C n d.body (startE d.ns (args.map fun t => some (.sh t)))) fun p => match p.1 with
    | .nx => M.ret .non
    | .rt t => M.ret t
    | _ => M.bad
  else M.bad
def runIni (C : Calls) (n : Nat) (c : Nat) (d : Fn) (args : List T) : M T :=
  if args.length + 1 = d.np ∧ d.np ≤ d.ns then M.bnd (exSs C n d.body (startE d.ns (some (.ow (.ins c [])) :: args.map fun t => some (.sh t)))) fun p => match p.1 with
    | .nx => M.opt (owS p.2 0)
    | _ => M.bad
  else M.bad
def calls (X : Text) : Nat → Calls
  | 0 => ⟨fun _ _ => M.bad, fun _ _ => M.bad, fun _ _ => M.bad, fun _ _ => M.bad⟩
  | n + 1 => ⟨fun f args => match X.fn f with
      | some d => runFn (calls X n) n d args
      | none => M.bad, (calls X n).fn, (calls X n).ini, fun c args => match X.ini c with
      | some d => runIni (calls X n) n c d args
      | none => M.bad⟩
end MB

end -- MbCore
section -- MbRep
set_option Elab.async false
set_option linter.all false
set_option maxRecDepth 100000
/-! Trees and the heap. -/
namespace MB
open PySem PySem.Spec L2

/-- where the text stands -/
structure Gx where
  prog : Program
  w : World
  K : PySem.W.Frag
  mg : Str → Option Value
  base : Heap
  ca : Nat → Addr
  /-- code tables and the names in them -/
  tt : List (Addr × Str)

/-- a dict's object with keys of any kind -/
def OddAt (o : Obj) (ks vs : List V) : Prop := o.ExactDict ∧ ∃ es ep, o.data = .dict es ep ∧ Vals ks (es.toList.map (·.key)) ∧ Vals vs (es.toList.map (·.val)) ∧ es.size ≤ sizeLine
mutual
/-- the value v is the tree t; containers are shut -/
inductive Rep (G : Gx) (α : List Addr) (H : Hp) : V → T → Prop
  | non : Rep G α H .non .non
  | bl (b : Bool) : Rep G α H (.bl b) (.bl b)
  | int (i : Int) : Rep G α H (.int i) (.int i)
  | str (x : Str) : Rep G α H (.str x) (.str x)
  | tup {a : Addr} {vs : List V} {ts : List T} : H a = some (.tup vs) → RepL G α H vs ts → Rep G α H (.ref a) (.tup ts)
  | tupE {a : Addr} : SqT G.K H a [] → Rep G α H (.ref a) (.tup [])
  | ktup {a : Addr} {vs : List V} {ts : List T} : SqT G.K H a vs → RepL G α H vs ts → Rep G α H (.ref a) (.ktup ts)
  | con {a : Addr} {o : Obj} {u : HO} {t : T} : H a = some (.frz o u) → Con G α H u t → Rep G α H (.ref a) t
  | loc {a : Addr} {n : Nat} : α[n]? = some a → Rep G α H (.ref a) (.loc n)
  | odd {a : Addr} {o : Obj} {u : HO} {ks vs : List V} {ts : List (T × T)} : H a = some (.frz o u) → (a == sysModules) = false → OddAt o ks vs → (ts.any fun p => p.1.tk.isNone) = true → RepL G α H ks (ts.map (·.1)) → RepL G α H vs (ts.map (·.2)) → Rep G α H (.ref a) (.dct ts)
/-- what a container holds -/
inductive Con (G : Gx) (α : List Addr) (H : Hp) : HO → T → Prop
  | lst {vs : List V} {ts : List T} : vs.length ≤ sizeLine → RepL G α H vs ts → Con G α H (.lst vs) (.lst ts)
  | dK {kvs : List (Key × V)} {ts : List (T × T)} : kvs.length ≤ sizeLine → RepD G α H kvs ts → Con G α H (.dK kvs) (.dct ts)
  | dT {kvs : List (List Key × V)} {ts : List (T × T)} : kvs.length ≤ sizeLine → kvs ≠ [] → RepDT G α H kvs ts → Con G α H (.dT kvs) (.dct ts)
  | ins {c : Nat} {dx : Addr} {fs : List (Str × V)} {ts : List (Str × T)} : RepF G α H fs ts → Con G α H (.ins (G.ca c) dx fs) (.ins c ts)
inductive RepL (G : Gx) (α : List Addr) (H : Hp) : List V → List T → Prop
  | nil : RepL G α H [] []
  | cons {v : V} {t : T} {vs : List V} {ts : List T} : Rep G α H v t → RepL G α H vs ts → RepL G α H (v :: vs) (t :: ts)
inductive RepD (G : Gx) (α : List Addr) (H : Hp) : List (Key × V) → List (T × T) → Prop
  | nil : RepD G α H [] []
  | cons {k : Key} {v : V} {tk t : T} {kvs : List (Key × V)} {ts : List (T × T)} : tk.key = some k → Rep G α H v t → RepD G α H kvs ts → RepD G α H ((k, v) :: kvs) ((tk, t) :: ts)
inductive RepDT (G : Gx) (α : List Addr) (H : Hp) : List (List Key × V) → List (T × T) → Prop
  | nil : RepDT G α H [] []
  | cons {k : List Key} {v : V} {x : T} {xs : List T} {t : T} {kvs : List (List Key × V)} {ts : List (T × T)} : keysOf (x :: xs) = some k → Rep G α H v t → RepDT G α H kvs ts → RepDT G α H ((k, v) :: kvs) ((.tup (x :: xs), t) :: ts)
inductive RepF (G : Gx) (α : List Addr) (H : Hp) : List (Str × V) → List (Str × T) → Prop
  | nil : RepF G α H [] []
  | cons {f : Str} {v : V} {t : T} {fs : List (Str × V)} {ts : List (Str × T)} : Rep G α H v t → RepF G α H fs ts → RepF G α H ((f, v) :: fs) ((f, t) :: ts)
end

/-- what stood and is no loc stands as it stood -/
def Ext (α : List Addr) (H H' : Hp) : Prop := ∀ a o, H a = some o → a ∉ α → H' a = some o
/-- what cannot change stands as it stood -/
structure Stay (H H' : Hp) : Prop where
  frz : ∀ a o u, H a = some (.frz o u) → H' a = some (.frz o u)
  tup : ∀ a xs, H a = some (.tup xs) → H' a = some (.tup xs)
theorem Stay.rfl' {H : Hp} : Stay H H := ⟨fun _ _ _ h => h, fun _ _ h => h⟩
theorem Stay.trans {H H1 H2 : Hp} (a : Stay H H1) (b : Stay H1 H2) : Stay H H2 := ⟨fun c o u h => b.frz c o u (a.frz c o u h), fun c xs h => b.tup c xs (a.tup c xs h)⟩
theorem Stay.sqT {K : PySem.W.Frag} {H H' : Hp} (s : Stay H H') {a : Addr} {xs : List V} (h : SqT K H a xs) : SqT K H' a xs := by
  rcases h with (h | ⟨o, h⟩) | h
  · exact .inl (.inl (s.tup a xs h))
  · exact .inl (.inr ⟨o, s.frz a o _ h⟩)
  · exact .inr h
section
variable {G : Gx} {α α' : List Addr} {H H' : Hp}
mutual
theorem Rep.mono (p : α <+: α') (s : Stay H H') : ∀ {v : V} {t : T}, Rep G α H v t → Rep G α' H' v t
  | _, _, .non => .non
  | _, _, .bl b => .bl b
  | _, _, .int i => .int i
  | _, _, .str x => .str x
  | _, _, .tup h r => .tup (s.tup _ _ h) (RepL.mono p s r)
  | _, _, .tupE h => .tupE (s.sqT h)
  | _, _, .ktup h r => .ktup (s.sqT h) (RepL.mono p s r)
  | _, _, .con h c => .con (s.frz _ _ _ h) (Con.mono p s c)
  | _, _, .loc h => .loc (by
      obtain ⟨l, rfl⟩ := p
      have hn := (List.getElem?_eq_some_iff.mp h).1
      rw [List.getElem?_append_left hn]; exact h)
  | _, _, .odd h y o k a b => .odd (s.frz _ _ _ h) y o k (RepL.mono p s a) (RepL.mono p s b)
theorem Con.mono (p : α <+: α') (s : Stay H H') : ∀ {u : HO} {t : T}, Con G α H u t → Con G α' H' u t
  | _, _, .lst z r => .lst z (RepL.mono p s r)
  | _, _, .dK z r => .dK z (RepD.mono p s r)
  | _, _, .dT z h r => .dT z h (RepDT.mono p s r)
  | _, _, .ins r => .ins (RepF.mono p s r)
theorem RepL.mono (p : α <+: α') (s : Stay H H') : ∀ {vs : List V} {ts : List T}, RepL G α H vs ts → RepL G α' H' vs ts
  | _, _, .nil => .nil
  | _, _, .cons a b => .cons (Rep.mono p s a) (RepL.mono p s b)
theorem RepD.mono (p : α <+: α') (s : Stay H H') : ∀ {vs : List (Key × V)} {ts : List (T × T)}, RepD G α H vs ts → RepD G α' H' vs ts
  | _, _, .nil => .nil
  | _, _, .cons k a b => .cons k (Rep.mono p s a) (RepD.mono p s b)
theorem RepDT.mono (p : α <+: α') (s : Stay H H') : ∀ {vs : List (List Key × V)} {ts : List (T × T)}, RepDT G α H vs ts → RepDT G α' H' vs ts
  | _, _, .nil => .nil
  | _, _, .cons k a b => .cons k (Rep.mono p s a) (RepDT.mono p s b)
theorem RepF.mono (p : α <+: α') (s : Stay H H') : ∀ {vs : List (Str × V)} {ts : List (Str × T)}, RepF G α H vs ts → RepF G α' H' vs ts
  | _, _, .nil => .nil
  | _, _, .cons a b => .cons (Rep.mono p s a) (RepF.mono p s b)
end
theorem RepL.length : ∀ {vs : List V} {ts : List T}, RepL G α H vs ts → vs.length = ts.length
  | _, _, .nil => rfl
  | _, _, .cons _ b => congrArg (· + 1) (RepL.length b)
theorem RepL.append : ∀ {vs ws : List V} {ts us : List T}, RepL G α H vs ts → RepL G α H ws us → RepL G α H (vs ++ ws) (ts ++ us)
  | _, _, _, _, .nil, h => h
  | _, _, _, _, .cons a b, h => .cons a (RepL.append b h)
theorem RepL.get : ∀ {vs : List V} {ts : List T} {i : Nat} {t : T}, RepL G α H vs ts → ts[i]? = some t → ∃ v, vs[i]? = some v ∧ Rep G α H v t
  | _, _, _, _, .nil, h => by simp at h
  | _, _, 0, _, .cons a _, h => by simp at h; subst h; exact ⟨_, rfl, a⟩
  | _, _, i + 1, t, .cons _ b, h => by
    obtain ⟨v, h1, h2⟩ := RepL.get (i := i) (t := t) b (by simpa using h)
    exact ⟨v, by simpa using h1, h2⟩
theorem RepL.getV : ∀ {vs : List V} {ts : List T} {i : Nat} {v : V}, RepL G α H vs ts → vs[i]? = some v → ∃ t, ts[i]? = some t ∧ Rep G α H v t
  | _, _, _, _, .nil, h => by simp at h
  | _, _, 0, _, .cons a _, h => by simp at h; subst h; exact ⟨_, rfl, a⟩
  | _, _, i + 1, t, .cons _ b, h => by
    obtain ⟨v, h1, h2⟩ := RepL.getV (i := i) (v := t) b (by simpa using h)
    exact ⟨v, by simpa using h1, h2⟩
theorem RepL.take (n : Nat) : ∀ {vs : List V} {ts : List T}, RepL G α H vs ts → RepL G α H (vs.take n) (ts.take n) := by
  induction n with
  | zero => intro vs ts h; exact .nil
  | succ n ih => intro vs ts h; cases h with
    | nil => exact .nil
    | cons a b => exact .cons a (ih b)
theorem RepL.drop (n : Nat) : ∀ {vs : List V} {ts : List T}, RepL G α H vs ts → RepL G α H (vs.drop n) (ts.drop n) := by
  induction n with
  | zero => intro vs ts h; exact h
  | succ n ih => intro vs ts h; cases h with
    | nil => exact .nil
    | cons a b => exact ih b
theorem RepL.set (n : Nat) {v : V} {t : T} (r : Rep G α H v t) : ∀ {vs : List V} {ts : List T}, RepL G α H vs ts → RepL G α H (vs.set n v) (ts.set n t) := by
  induction n with
  | zero => intro vs ts h; cases h with
    | nil => exact .nil
    | cons a b => exact .cons r b
  | succ n ih => intro vs ts h; cases h with
    | nil => exact .nil
    | cons a b => exact .cons a (ih b)
theorem RepL.erase (n : Nat) : ∀ {vs : List V} {ts : List T}, RepL G α H vs ts → RepL G α H (vs.eraseIdx n) (ts.eraseIdx n) := by
  induction n with
  | zero => intro vs ts h; cases h with
    | nil => exact .nil
    | cons a b => exact b
  | succ n ih => intro vs ts h; cases h with
    | nil => exact .nil
    | cons a b => exact .cons a (ih b)
theorem RepD.length : ∀ {vs : List (Key × V)} {ts : List (T × T)}, RepD G α H vs ts → vs.length = ts.length
  | _, _, .nil => rfl
  | _, _, .cons _ _ b => congrArg (· + 1) (RepD.length b)
theorem RepDT.length : ∀ {vs : List (List Key × V)} {ts : List (T × T)}, RepDT G α H vs ts → vs.length = ts.length
  | _, _, .nil => rfl
  | _, _, .cons _ _ b => congrArg (· + 1) (RepDT.length b)
end
/-- the store: each loc has an address of its own; what stands there is not shut -/
structure SOk (G : Gx) (α : List Addr) (S : Store) (H : Hp) : Prop where
  len : α.length = S.length
  nd : α.Nodup
  cell : ∀ (n : Nat) (a : Addr) (t : T), α[n]? = some a → S[n]? = some t → ∃ u, H a = some u ∧ Mut (some u) ∧ Con G α H u t
/-- a slot's thing -/
def SlOk (G : Gx) (α : List Addr) (H : Hp) (v : Option V) : Sl → Prop
  | .sh t => ∃ x, v = some x ∧ Rep G α H x t
  | .ow t => ∃ a u, v = some (.ref a) ∧ a ∉ α ∧ H a = some u ∧ Mut (some u) ∧ Con G α H u t
structure ERep (G : Gx) (α : List Addr) (H : Hp) (σ : St) (ρ : Env) : Prop where
  len : σ.length = ρ.length
  sl : ∀ (i : Nat) (s : Sl), ρ[i]? = some (some s) → ∃ v, σ[i]? = some v ∧ SlOk G α H v s
  apart : ∀ (i j : Nat) (t u : T), i ≠ j → ρ[i]? = some (some (Sl.ow t)) → ρ[j]? = some (some (Sl.ow u)) → σ[i]? ≠ σ[j]?
/-- a step: locs may come and turn, all else stays -/
structure Step (α : List Addr) (H : Hp) (α' : List Addr) (H' : Hp) : Prop where
  pre : α <+: α'
  new : ∀ a ∈ α', a ∉ α → H a = none
  ext : Ext α H H'
theorem Step.rfl' {α : List Addr} {H : Hp} : Step α H α H := ⟨List.prefix_rfl, fun _ h n => absurd h n, fun _ _ h _ => h⟩
theorem Step.trans {α α1 α2 : List Addr} {H H1 H2 : Hp} (s : Step α H α1 H1) (t : Step α1 H1 α2 H2) : Step α H α2 H2 where
  pre := s.pre.trans t.pre
  new := fun a h n => by
    by_cases e : a ∈ α1
    · exact s.new a e n
    · have z := t.new a h e
      cases q : H a with
      | none => rfl
      | some o => rw [s.ext a o q n] at z; cases z
  ext := fun a o h n => by
    have h1 := s.ext a o h n
    refine t.ext a o h1 fun e => ?_
    have := s.new a e n
    rw [h] at this; cases this
theorem Step.stay {G : Gx} {S : Store} {α α' : List Addr} {H H' : Hp} (s : Step α H α' H') (ok : SOk G α S H) : Stay H H' := by
  have no : ∀ a o, H a = some o → ¬ Mut (some o) → a ∉ α := fun a o h nm hm => by
    obtain ⟨n, hn, e⟩ := List.mem_iff_getElem.mp hm
    have h1 : α[n]? = some a := by rw [List.getElem?_eq_getElem hn, e]
    have h2 : n < S.length := by rw [← ok.len]; exact hn
    obtain ⟨u, hu, mu, _⟩ := ok.cell n a S[n] h1 (List.getElem?_eq_getElem h2)
    rw [h] at hu; cases hu; exact nm mu
  exact ⟨fun a o u h => s.ext a _ h (no a _ h fun z => z), fun a xs h => s.ext a _ h (no a _ h fun z => z)⟩
theorem SlOk.mono {G : Gx} {α α' : List Addr} {H H' : Hp} {S : Store} (s : Step α H α' H') (ok : SOk G α S H) {v : Option V} {x : Sl} (h : SlOk G α H v x) : SlOk G α' H' v x := by
  have st := s.stay ok
  cases x with
  | sh t => obtain ⟨y, e, r⟩ := h; exact ⟨y, e, r.mono s.pre st⟩
  | ow t =>
    obtain ⟨a, u, e, na, hu, mu, c⟩ := h
    refine ⟨a, u, e, fun z => ?_, s.ext a u hu na, mu, c.mono s.pre st⟩
    have := s.new a z na
    rw [hu] at this; cases this
theorem ERep.mono {G : Gx} {α α' : List Addr} {H H' : Hp} {S : Store} {σ : St} {ρ : Env} (e : ERep G α H σ ρ) (s : Step α H α' H') (ok : SOk G α S H) : ERep G α' H' σ ρ where
  len := e.len
  sl := fun i x h => by obtain ⟨v, h1, h2⟩ := e.sl i x h; exact ⟨v, h1, h2.mono s ok⟩
  apart := e.apart
end MB

end -- MbRep
section -- MbSnd1
set_option Elab.async false
set_option linter.all false
set_option maxRecDepth 100000
set_option maxHeartbeats 1000000
/-! What the evaluator says is what the machine does: judgements, names, constants. -/
namespace MB
open PySem PySem.Spec L2

/-- a body (or a comprehension's block) of the text runs -/
structure CtxOk (G : Gx) (N : List Str) (sc : Scope) (n : Nat) (X : Cx) : Prop where
  prog : X.prog = G.prog
  w : X.w = G.w
  K : X.K = G.K
  mg : X.mg = G.mg
  base : X.base = G.base
  calm : X.calm = true
  hN : X.N = N
  hsc : X.env.scope = sc
  nd : N.Nodup
  room : Room n X.A
  hfn : ∀ x, L2.Loc sc x → X.fn x = true ∨ sc.names.lookup x = some .local

theorem bnd_ok {α β : Type} {x : M α} {f : α → M β} {S : Store} {b : β} {S' : Store} : (M.bnd x f) S = .ok b S' ↔ ∃ a S1, x S = .ok a S1 ∧ f a S1 = .ok b S' := by
  show (x S).bind f = _ ↔ _
  cases h : x S with
  | ok a S1 => exact ⟨fun e => ⟨a, S1, rfl, e⟩, fun ⟨a', S1', e, q⟩ => by cases e; exact q⟩
  | exc e S1 => exact ⟨fun e => by simp at e, fun ⟨a', S1', e, q⟩ => by cases e⟩
  | bad => exact ⟨fun e => by simp at e, fun ⟨a', S1', e, q⟩ => by cases e⟩
theorem ret_ok {α : Type} {a b : α} {S S' : Store} : (M.ret a : M α) S = .ok b S' ↔ a = b ∧ S = S' := by
  show R.ok a S = _ ↔ _
  exact ⟨fun e => by cases e; exact ⟨rfl, rfl⟩, fun ⟨e, q⟩ => by rw [e, q]⟩
theorem opt_ok {α : Type} {o : Option α} {b : α} {S S' : Store} : (M.opt o : M α) S = .ok b S' ↔ o = some b ∧ S = S' := by
  cases o with
  | none => exact ⟨fun e => by simp at e, fun ⟨e, _⟩ => by cases e⟩
  | some a => exact ⟨fun e => by simp at e; exact ⟨by rw [e.1], e.2⟩, fun ⟨e, q⟩ => by cases e; rw [q]; rfl⟩
theorem bad_ok {α : Type} {b : α} {S S' : Store} : ¬ (M.bad : M α) S = .ok b S' := by simp

/-- read alone: shut, or one's own container -/
def RepB (G : Gx) (α : List Addr) (H : Hp) (v : V) (t : T) : Prop := Rep G α H v t ∨ ∃ a u, v = .ref a ∧ a ∉ α ∧ H a = some u ∧ Mut (some u) ∧ Con G α H u t
/-- seen through the store -/
def RepV (G : Gx) (α : List Addr) (H : Hp) (v : V) (t : T) : Prop := Rep G α H v t ∨ ∃ a u, v = .ref a ∧ H a = some u ∧ Mut (some u) ∧ Con G α H u t
section
variable {G : Gx} {α α' : List Addr} {S : Store} {H H' : Hp} {v : V} {t : T}
theorem RepB.mono (ok : SOk G α S H) (s : Step α H α' H') (h : RepB G α H v t) : RepB G α' H' v t := by
  rcases h with h | ⟨a, u, e, na, hu, mu, c⟩
  · exact .inl (h.mono s.pre (s.stay ok))
  · refine .inr ⟨a, u, e, fun z => ?_, s.ext a u hu na, mu, c.mono s.pre (s.stay ok)⟩
    have := s.new a z na
    rw [hu] at this; cases this
theorem RepB.view (ok : SOk G α S H) (h : RepB G α H v t) : RepV G α H v (viewS S t) := by
  rcases h with h | ⟨a, u, e, na, hu, mu, c⟩
  · cases t with
    | loc n =>
      cases h with
      | con h c => cases c
      | @loc a n e =>
        have hn : n < S.length := by rw [← ok.len]; exact (List.getElem?_eq_some_iff.mp e).1
        obtain ⟨u, hu, mu, c⟩ := ok.cell n a S[n] e (List.getElem?_eq_getElem hn)
        refine .inr ⟨a, u, rfl, hu, mu, ?_⟩
        show Con G α H u (S.getD n .non)
        rw [List.getD_eq_getElem?_getD, List.getElem?_eq_getElem hn]
        exact c
    | _ => exact .inl h
  · cases t with
    | loc n => cases c
    | _ => exact .inr ⟨a, u, e, hu, mu, c⟩
theorem RepB.of (h : Rep G α H v t) : RepB G α H v t := .inl h
theorem RepV.of (h : Rep G α H v t) : RepV G α H v t := .inl h
/-- a list that is read -/
theorem RepV.lst {ts : List T} (h : RepV G α H v (.lst ts)) : ∃ a vs, v = .ref a ∧ Rd H a (.lst vs) ∧ RepL G α H vs ts ∧ vs.length ≤ sizeLine := by
  rcases h with h | ⟨a, u, e, hu, mu, c⟩
  · cases h with
    | con h c => cases c with
      | lst z r => exact ⟨_, _, rfl, .inr ⟨_, h⟩, r, z⟩
  · cases c with
    | lst z r => exact ⟨a, _, e, .inl hu, r, z⟩
theorem RepV.tup {ts : List T} (h : RepV G α H v (.tup ts)) : ∃ a vs, v = .ref a ∧ SqT G.K H a vs ∧ RepL G α H vs ts := by
  rcases h with h | ⟨a, u, e, hu, mu, c⟩
  · cases h with
    | tup h r => exact ⟨_, _, rfl, SqT.of h, r⟩
    | tupE h => exact ⟨_, [], rfl, h, .nil⟩
    | con h c => cases c
  · cases c
theorem RepV.tupT {t : T} {ts : List T} (h : RepV G α H v (.tup (t :: ts))) : ∃ a vs, v = .ref a ∧ H a = some (.tup vs) ∧ RepL G α H vs (t :: ts) := by
  rcases h with h | ⟨a, u, e, hu, mu, c⟩
  · cases h with
    | tup h r => exact ⟨_, _, rfl, h, r⟩
    | con h c => cases c
  · cases c
theorem RepV.ktup {ts : List T} (h : RepV G α H v (.ktup ts)) : ∃ a vs, v = .ref a ∧ SqT G.K H a vs ∧ RepL G α H vs ts := by
  rcases h with h | ⟨a, u, e, hu, mu, c⟩
  · cases h with
    | ktup h r => exact ⟨_, _, rfl, h, r⟩
    | con h c => cases c
  · cases c
theorem RepV.dct {ts : List (T × T)} (h : RepV G α H v (.dct ts)) : ∃ a, v = .ref a ∧ ((∃ kvs, Rd H a (.dK kvs) ∧ RepD G α H kvs ts ∧ kvs.length ≤ sizeLine) ∨ (∃ kvs, Rd H a (.dT kvs) ∧ RepDT G α H kvs ts ∧ kvs.length ≤ sizeLine ∧ kvs ≠ []) ∨ (∃ o u ks vs, H a = some (.frz o u) ∧ (a == sysModules) = false ∧ OddAt o ks vs ∧ (ts.any fun p => p.1.tk.isNone) = true ∧ RepL G α H ks (ts.map (·.1)) ∧ RepL G α H vs (ts.map (·.2)))) := by
  rcases h with h | ⟨a, u, e, hu, mu, c⟩
  · cases h with
    | con h c => cases c with
      | dK z r => exact ⟨_, rfl, .inl ⟨_, .inr ⟨_, h⟩, r, z⟩⟩
      | dT z n r => exact ⟨_, rfl, .inr (.inl ⟨_, .inr ⟨_, h⟩, r, z, n⟩)⟩
    | odd h y o k a b => exact ⟨_, rfl, .inr (.inr ⟨_, _, _, _, h, y, o, k, a, b⟩)⟩
  · cases c with
    | dK z r => exact ⟨a, e, .inl ⟨_, .inl hu, r, z⟩⟩
    | dT z n r => exact ⟨a, e, .inr (.inl ⟨_, .inl hu, r, z, n⟩)⟩
theorem RepV.int {i : Int} (h : RepV G α H v (.int i)) : v = .int i := by
  rcases h with h | ⟨a, u, e, hu, mu, c⟩
  · cases h with
    | int => rfl
    | con h c => cases c
  · cases c
theorem RepV.bl {i : Bool} (h : RepV G α H v (.bl i)) : v = .bl i := by
  rcases h with h | ⟨a, u, e, hu, mu, c⟩
  · cases h with
    | bl => rfl
    | con h c => cases c
  · cases c
theorem RepV.str {i : Str} (h : RepV G α H v (.str i)) : v = .str i := by
  rcases h with h | ⟨a, u, e, hu, mu, c⟩
  · cases h with
    | str => rfl
    | con h c => cases c
  · cases c
theorem RepV.non (h : RepV G α H v .non) : v = .non := by
  rcases h with h | ⟨a, u, e, hu, mu, c⟩
  · cases h with
    | non => rfl
    | con h c => cases c
  · cases c
theorem RepV.ofB (ok : SOk G α S H) (h : RepB G α H v t) (hl : ∀ n, t ≠ .loc n) : RepV G α H v t := by
  have := h.view ok
  cases t with
  | loc n => exact absurd rfl (hl n)
  | _ => exact this
end

/-! ### judgements -/
/-- an expression's reading: what it gives no longer changes -/
def tEv (G : Gx) (m : Env → M T) : TE := fun σ H Q => ∃ α S ρ t S', SOk G α S H ∧ ERep G α H σ ρ ∧ m ρ S = .ok t S' ∧
  ∀ α' H' v, Step α H α' H' → SOk G α' S' H' → Rep G α' H' v t → Q v H'
/-- .. or is an own name's -/
def tEvB (G : Gx) (m : Env → M T) : TE := fun σ H Q => ∃ α S ρ t S', SOk G α S H ∧ ERep G α H σ ρ ∧ m ρ S = .ok t S' ∧
  ∀ α' H' v, Step α H α' H' → SOk G α' S' H' → RepB G α' H' v t → Q v H'
/-- what a new container is; another thing is shut -/
def Out (G : Gx) (α : List Addr) (H : Hp) (α' : List Addr) (H' : Hp) (v : V) (t : T) : Prop :=
  (ownable t = true ∧ ∃ p u, v = .ref p ∧ p ∉ α' ∧ H p = none ∧ H' p = some u ∧ Mut (some u) ∧ Con G α' H' u t) ∨ (ownable t = false ∧ Rep G α' H' v t)
def tEvW (G : Gx) (m : Env → M T) : TE := fun σ H Q => ∃ α S ρ t S', SOk G α S H ∧ ERep G α H σ ρ ∧ m ρ S = .ok t S' ∧
  ∀ α' H' v, Step α H α' H' → SOk G α' S' H' → Out G α H α' H' v t → Q v H'
/-- a test's -/
def tTv (G : Gx) (m : Env → M Bool) : TT := fun σ H Q => ∃ α S ρ k S', SOk G α S H ∧ ERep G α H σ ρ ∧ m ρ S = .ok k S' ∧
  ∀ α' H', Step α H α' H' → SOk G α' S' H' → Q k H'
/-- arguments -/
def tAv (G : Gx) (m : Env → M (List T)) : TA := fun σ H Q => ∃ α S ρ ts S', SOk G α S H ∧ ERep G α H σ ρ ∧ m ρ S = .ok ts S' ∧
  ∀ α' H' vs, Step α H α' H' → SOk G α' S' H' → RepL G α' H' vs ts → Q vs H'
def tAvB (G : Gx) (m : Env → M (List T)) : TA := fun σ H Q => ∃ α S ρ ts S', SOk G α S H ∧ ERep G α H σ ρ ∧ m ρ S = .ok ts S' ∧
  ∀ α' H' vs, Step α H α' H' → SOk G α' S' H' → Paired (RepV G α' H') vs ts → Q vs H'

section
variable {X : Cx} {G : Gx} {N : List Str} {sc : Scope} {n : Nat} {e : Expr} {m : Env → M T}
theorem _root_.L2.PE.imp {t t' : TE} (h : PE X e t) (hi : ∀ σ H Q, t' σ H Q → t σ H Q) : PE X e t' := ⟨fun pins s σ H Q I q => h.run pins s σ H Q I (hi σ H Q q)⟩
/-- a new container is shut -/
theorem shut (h : PE X e (tEvW G m)) : PE X e (tEv G m) := by
  refine ⟨fun pins s σ H Q I q => ?_⟩
  obtain ⟨α, S, ρ, t, S', ok, er, hm, hQ⟩ := q
  refine thn (h.run pins s σ H (fun v H' => (∃ α', Step α H α' H' ∧ SOk G α' S' H' ∧ Out G α H α' H' v t)) I ⟨α, S, ρ, t, S', ok, er, hm, fun α' H' v st ok' o => ⟨α', st, ok', o⟩⟩) fun u s1 ⟨v, H1, I1, r1, α', st, ok', o⟩ => ?_
  rcases o with ⟨_, p, u', rfl, np, hp, hu, mu, c⟩ | ⟨_, r⟩
  · obtain ⟨od, I2⟩ := I1.lock hu mu
    have sy : Stay H1 (upd H1 p (.frz od u')) := ⟨fun a o x e => by
        rw [upd_ne (fun z => by rw [z, hu] at e; cases e; exact mu)]; exact e, fun a xs e => by
        rw [upd_ne (fun z => by rw [z, hu] at e; cases e; exact mu)]; exact e⟩
    have st2 : Step α H α' (upd H1 p (.frz od u')) := ⟨st.pre, st.new, fun a o e na => by
      rw [upd_ne (ne_of_none e hp)]; exact st.ext a o e na⟩
    have ok2 : SOk G α' S' (upd H1 p (.frz od u')) := ⟨ok'.len, ok'.nd, fun k a x e1 e2 => by
      obtain ⟨u2, h1, h2, h3⟩ := ok'.cell k a x e1 e2
      refine ⟨u2, ?_, h2, h3.mono List.prefix_rfl sy⟩
      rw [upd_ne (fun z => np (by rw [← z]; exact List.mem_of_getElem? e1))]; exact h1⟩
    exact ⟨.ref p, _, I2, r1, hQ α' _ _ st2 ok2 (.con upd_same (c.mono List.prefix_rfl sy))⟩
  · exact ⟨v, H1, I1, r1, hQ α' H1 v st ok' r⟩
theorem _root_.L2.PE.toB (h : PE X e (tEv G m)) : PE X e (tEvB G m) := h.imp fun σ H Q ⟨α, S, ρ, t, S', ok, er, hm, hQ⟩ => ⟨α, S, ρ, t, S', ok, er, hm, fun α' H' v st ok' r => hQ α' H' v st ok' (.inl r)⟩
/-- two in a row -/
theorem ev2 {A B : Env → M T} {α : List Addr} {S S1 S2 : Store} {ρ : Env} {σ : L2.St} {H : Hp} {x y : T} {R : V → V → Hp → Prop} (ok : SOk G α S H) (er : ERep G α H σ ρ) (hx : A ρ S = .ok x S1) (hy : B ρ S1 = .ok y S2)
    (k : ∀ α2 H2 v w, Step α H α2 H2 → SOk G α2 S2 H2 → RepB G α2 H2 v x → RepB G α2 H2 w y → R v w H2) : tEvB G A σ H fun v H1 => tEvB G B σ H1 fun w H2 => R v w H2 :=
  ⟨α, S, ρ, x, S1, ok, er, hx, fun α1 H1 v st1 ok1 r1 => ⟨α1, S1, ρ, y, S2, ok1, er.mono st1 ok, hy, fun α2 H2 w st2 ok2 r2 => k α2 H2 v w (st1.trans st2) ok2 (r1.mono ok1 st2) r2⟩⟩
/-! ### names and constants -/
theorem rd_of_er {α : List Addr} {H : Hp} {σ : L2.St} {ρ : Env} {i : Nat} {t : T} (er : ERep G α H σ ρ) (h : rdS ρ i = some t) : ∃ v, σ[i]? = some (some v) ∧ Rep G α H v t := by
  unfold rdS at h
  split at h
  · rename_i t' e
    cases h
    obtain ⟨v, h1, x, h2, h3⟩ := er.sl i _ e
    subst h2
    exact ⟨x, h1, h3⟩
  · cases h
theorem rdB_of_er {α : List Addr} {H : Hp} {σ : L2.St} {ρ : Env} {i : Nat} {t : T} (er : ERep G α H σ ρ) (h : rdB ρ i = some t) : ∃ v, σ[i]? = some (some v) ∧ RepB G α H v t := by
  unfold rdB at h
  split at h
  · rename_i t' e
    cases h
    obtain ⟨v, h1, x, h2, h3⟩ := er.sl i _ e
    subst h2
    exact ⟨x, h1, .inl h3⟩
  · rename_i t' e
    cases h
    obtain ⟨v, h1, a, u, h2, na, hu, mu, c⟩ := er.sl i _ e
    subst h2
    exact ⟨_, h1, .inr ⟨a, u, rfl, na, hu, mu, c⟩⟩
  · cases h
theorem snd_var {i : Nat} {x : Str} {pos : Pos} (c : CtxOk G N sc n X) (hi : N[i]? = some x) (hv : Vis sc x) (hd : (x == ("__debug__" : Str)) = false) (hcd : (x == ("__classdict__" : Str)) = false) {C : Calls} :
    PE X (.Name x pos) (tEv G (evE C (.var i))) := by
  refine PE.imp (pe_var (i := i) (by rw [c.hN]; exact hi) (by rw [c.hsc]; exact hv) hd hcd) fun σ H Q ⟨α, S, ρ, t, S', ok, er, hm, hQ⟩ => ?_
  rw [evE] at hm
  obtain ⟨h1, rfl⟩ := opt_ok.mp hm
  obtain ⟨v, e, r⟩ := rd_of_er er h1
  exact ⟨v, e, hQ α H v .rfl' ok r⟩
/-- a place that only reads -/
theorem snd_B {C : Calls} {e' : E} (c : CtxOk G N sc n X) (h : PE X e (tEv G (evE C e'))) (hv : ∀ i, e' = .var i → ∃ x pos, e = .Name x pos ∧ N[i]? = some x ∧ Vis sc x ∧ (x == ("__debug__" : Str)) = false ∧ (x == ("__classdict__" : Str)) = false) :
    PE X e (tEvB G fun ρ => orB (borrow? ρ e') (evE C e' ρ)) := by
  cases e' with
  | var i =>
    obtain ⟨x, pos, rfl, hi, hv, hd, hcd⟩ := hv i rfl
    refine PE.imp (pe_var (i := i) (by rw [c.hN]; exact hi) (by rw [c.hsc]; exact hv) hd hcd) fun σ H Q ⟨α, S, ρ, t, S', ok, er, hm, hQ⟩ => ?_
    have hm' : orB (rdB ρ i) (evE C (.var i) ρ) S = .ok t S' := hm
    cases q : rdB ρ i with
    | some t' =>
      rw [q] at hm'
      obtain ⟨rfl, rfl⟩ := ret_ok.mp hm'
      obtain ⟨v, e, r⟩ := rdB_of_er er q
      exact ⟨v, e, hQ α H v .rfl' ok r⟩
    | none =>
      rw [q] at hm'
      have hm2 : evE C (.var i) ρ S = .ok t S' := hm'
      rw [evE] at hm2
      obtain ⟨h1, rfl⟩ := opt_ok.mp hm2
      obtain ⟨v, e, r⟩ := rd_of_er er h1
      exact ⟨v, e, hQ α H v .rfl' ok (.inl r)⟩
  | _ => exact h.toB
end
end MB

end -- MbSnd1
section -- MbSnd2
set_option Elab.async false
set_option linter.all false
set_option maxRecDepth 100000
set_option maxHeartbeats 1000000
/-! Operators. -/
namespace MB
open PySem PySem.Spec L2

section
variable {X : Cx} {G : Gx} {N : List Str} {sc : Scope} {n : Nat}
/-- a loc's address is tracked -/
theorem SOk.at {α : List Addr} {S : Store} {H : Hp} (ok : SOk G α S H) {a : Addr} (h : a ∈ α) : ∃ u, H a = some u ∧ Mut (some u) := by
  obtain ⟨k, hk, e⟩ := List.mem_iff_getElem.mp h
  have h1 : α[k]? = some a := by rw [List.getElem?_eq_getElem hk, e]
  have h2 : k < S.length := by rw [← ok.len]; exact hk
  obtain ⟨u, hu, mu, _⟩ := ok.cell k a S[k] h1 (List.getElem?_eq_getElem h2)
  exact ⟨u, hu, mu⟩
/-- a new thing is laid -/
structure Laid (G : Gx) (α : List Addr) (H : Hp) (α' : List Addr) (S' : Store) (H' : Hp) (p : Addr) (o : HO) : Prop where
  step : Step α H α' (upd H' p o)
  ok : SOk G α' S' (upd H' p o)
  np : p ∉ α'
  h0 : H p = none
  stay : Stay H' (upd H' p o)
theorem stay_new {H : Hp} {p : Addr} {o : HO} (hp : H p = none) : Stay H (upd H p o) :=
  ⟨fun a x u e => by rw [upd_ne (ne_of_none e hp)]; exact e, fun a xs e => by rw [upd_ne (ne_of_none e hp)]; exact e⟩
theorem laid {α α' : List Addr} {S' : Store} {H H' : Hp} {p : Addr} (st : Step α H α' H') (ok : SOk G α' S' H') (hp : H' p = none) (o : HO) : Laid G α H α' S' H' p o := by
  have np : p ∉ α' := fun z => by
    obtain ⟨u, hu, _⟩ := ok.at z
    rw [hp] at hu; cases hu
  have h0 : H p = none := by
    cases q : H p with
    | none => rfl
    | some x =>
      have := st.ext p x q fun z => np (st.pre.subset z)
      rw [hp] at this; cases this
  have sy := stay_new (o := o) hp
  refine ⟨⟨st.pre, st.new, fun a x e na => ?_⟩, ⟨ok.len, ok.nd, fun k a t e1 e2 => ?_⟩, np, h0, sy⟩
  · rw [upd_ne (ne_of_none e h0)]; exact st.ext a x e na
  · obtain ⟨u, h1, h2, h3⟩ := ok.cell k a t e1 e2
    refine ⟨u, ?_, h2, h3.mono List.prefix_rfl sy⟩
    rw [upd_ne fun z => np (by rw [← z]; exact List.mem_of_getElem? e1)]; exact h1
theorem Laid.out {α α' : List Addr} {S' : Store} {H H' : Hp} {p : Addr} {o : HO} {t : T} (l : Laid G α H α' S' H' p o) (ho : ownable t = true) (mu : Mut (some o)) (c : Con G α' (upd H' p o) o t) : Out G α H α' (upd H' p o) (.ref p) t :=
  .inl ⟨ho, p, o, rfl, l.np, l.h0, upd_same, mu, c⟩
/-- a list as it is read -/
theorem lstR {pins : List (Addr × Obj)} {σ : L2.St} {H : Hp} {s : Shared} {a : Addr} {xs : List V} (I : Inv X pins σ H s) (h : Rd H a (.lst xs)) :
    ∃ (its : List Value) (k : Nat), Vals xs its ∧ s.heap.get? a = some { cls := .type "list", data := .seq its.toArray k } := by
  obtain ⟨_, its, k, r, e⟩ := h.ok I.hok
  exact ⟨its, k, r, e⟩
/-- lists are joined: any two that are read -/
def rCatR : R2 := fun x y H Q => ∃ l b xs zs, x = .ref l ∧ y = .ref b ∧ Rd H l (.lst xs) ∧ Rd H b (.lst zs) ∧ xs.length + zs.length ≤ sizeLine ∧ ∀ p, H p = none → Q (.ref p) (upd H p (.lst (xs ++ zs)))
theorem op_catR : OpR X (binaryOp .Add) rCatR := fun pins s σ H x y v u Q I rx ry h => by
  obtain ⟨l, b, xs, zs, ex, ey, h1, h2, hz, q⟩ := h
  subst ex ey
  have ev : v = Value.ref l := rx
  have eu : u = Value.ref b := ry
  subst ev eu
  obtain ⟨its, k, r, e⟩ := lstR I h1
  obtain ⟨jts, k2, r2, e2⟩ := lstR I h2
  have e3 : its.toArray ++ jts.toArray = (its ++ jts).toArray := by simp
  have l1 := r.length
  have l2 := r2.length
  refine PySem.P.add_list e e2 ?_ (by rw [List.size_toArray, List.size_toArray]; omega)
  rw [e3]
  refine ⟨.ref _, _, I.lnew (t' := s.toks) (r.append r2) ?_, rfl, q _ I.fresh⟩
  rw [List.length_append]; exact hz

def opOf : BOp → Operator
  | .add => .Add | .sub => .Sub | .mul => .Mult | .fdiv => .FloorDiv | .mod => .Mod | .pow => .Pow
variable {A B : Env → M T} {a b : Expr} {pos : Pos}
def mBin (op : BOp) (A B : Env → M T) : Env → M T := fun ρ => M.bnd (A ρ) fun x => M.bnd (B ρ) fun y => M.opt (binT op x y)
theorem RepB.noloc {α : List Addr} {S : Store} {H : Hp} {v : V} {t : T} (ok : SOk G α S H) (h : RepB G α H v t) (hl : ∀ k, t ≠ .loc k) : RepV G α H v t := RepV.ofB ok h hl
theorem snd_bin (op : BOp) (ha : PE X a (tEvB G A)) (hb : PE X b (tEvB G B)) (hK : X.K = G.K) : PE X (.BinOp a (opOf op) b pos) (tEvW G (mBin op A B)) := by
  refine ⟨fun pins s σ H Q I q => ?_⟩
  obtain ⟨α, S, ρ, t, S', ok, er, hm, hQ⟩ := q
  obtain ⟨x, S1, hx, hm⟩ := bnd_ok.mp hm
  obtain ⟨y, S2, hy, hm⟩ := bnd_ok.mp hm
  obtain ⟨hz, rfl⟩ := opt_ok.mp hm
  have sca : ∀ (f : Int → Int → Int) (C : Int → Int → Prop) (i j : Int), x = .int i → y = .int j → C i j → t = .int (f i j) →
      tOp (rI C fun i j => .int (f i j)) (tEvB G A) (tEvB G B) σ H Q := fun f C i j ex ey hc et => by
    subst ex ey et
    refine ev2 ok er hx hy fun α2 H2 v w st ok2 r1 r2 => ?_
    have e1 := (r1.noloc ok2 (fun k z => by cases z)).int
    have e2 := (r2.noloc ok2 (fun k z => by cases z)).int
    exact ⟨i, j, e1, e2, hc, hQ α2 H2 _ st ok2 (.inr ⟨rfl, .int _⟩)⟩
  have sca0 : ∀ (f : Int → Int → Int) (i j : Int), x = .int i → y = .int j → t = .int (f i j) →
      tOp (rI0 fun i j => .int (f i j)) (tEvB G A) (tEvB G B) σ H Q := fun f i j ex ey et => by
    subst ex ey et
    refine ev2 ok er hx hy fun α2 H2 v w st ok2 r1 r2 => ?_
    have e1 := (r1.noloc ok2 (fun k z => by cases z)).int
    have e2 := (r2.noloc ok2 (fun k z => by cases z)).int
    exact ⟨i, j, e1, e2, hQ α2 H2 _ st ok2 (.inr ⟨rfl, .int _⟩)⟩
  unfold binT at hz
  split at hz
  · rename_i i j
    cases hz
    exact (pe_op (pos := pos) op_add ha hb).run pins s σ H Q I (sca0 (fun i j => i + j) _ _ rfl rfl rfl)
  · rename_i z1 z2
    split at hz
    · rename_i hl
      cases hz
      refine (pe_op (pos := pos) op_add_str ha hb).run pins s σ H Q I (ev2 ok er hx hy fun α2 H2 v w st ok2 r1 r2 => ?_)
      have e1 := (r1.noloc ok2 (fun k z => by cases z)).str
      have e2 := (r2.noloc ok2 (fun k z => by cases z)).str
      exact ⟨_, _, e1, e2, hl, hQ α2 H2 _ st ok2 (.inr ⟨rfl, .str _⟩)⟩
    · cases hz
  · rename_i xs ys
    split at hz
    · rename_i hl
      cases hz
      refine (pe_op (pos := pos) op_catR ha hb).run pins s σ H Q I (ev2 ok er hx hy fun α2 H2 v w st ok2 r1 r2 => ?_)
      obtain ⟨l, vs, ev, h1, rl, z1⟩ := (r1.noloc ok2 (fun k z => by cases z)).lst
      obtain ⟨b', ws, ew, h2, rl2, z2⟩ := (r2.noloc ok2 (fun k z => by cases z)).lst
      have hl' : vs.length + ws.length ≤ sizeLine := by rw [rl.length, rl2.length]; exact hl
      refine ⟨l, b', vs, ws, ev, ew, h1, h2, hl', fun p hp => ?_⟩
      have L := laid st ok2 hp (.lst (vs ++ ws))
      refine hQ α2 _ _ L.step L.ok (L.out rfl trivial (.lst ?_ ?_))
      · rw [List.length_append]; exact hl'
      · exact (rl.append rl2).mono List.prefix_rfl L.stay
    · cases hz
  · rename_i xs ys
    split at hz
    · rename_i hl
      cases hz
      refine (pe_op (pos := pos) op_catA ha hb).run pins s σ H Q I (ev2 ok er hx hy fun α2 H2 v w st ok2 r1 r2 => ?_)
      have k1 : Rep G α2 H2 v (.tup _) := r1.elim id fun ⟨_, _, _, _, _, _, c⟩ => by cases c
      have k2 : Rep G α2 H2 w (.tup _) := r2.elim id fun ⟨_, _, _, _, _, _, c⟩ => by cases c
      obtain ⟨l, vs, ev, h1, rl⟩ := (r1.noloc ok2 (fun k z => by cases z)).tup
      obtain ⟨b', ws, ew, h2, rl2⟩ := (r2.noloc ok2 (fun k z => by cases z)).tup
      rw [← hK] at h1 h2
      have hl' : vs.length + ws.length ≤ sizeLine := by rw [rl.length, rl2.length]; exact hl
      refine ⟨l, b', vs, ws, ev, ew, h1, h2, hl', fun e => ?_, fun _ e => ?_, fun _ _ p hp => ?_⟩
      · subst e
        cases rl
        exact hQ α2 H2 _ st ok2 (.inr ⟨rfl, by rw [List.nil_append]; rw [← ew]; exact k2⟩)
      · subst e
        cases rl2
        exact hQ α2 H2 _ st ok2 (.inr ⟨rfl, by rw [List.append_nil]; rw [← ev]; exact k1⟩)
      · have L := laid st ok2 hp (.tup (vs ++ ws))
        exact hQ α2 _ _ L.step L.ok (.inr ⟨rfl, .tup upd_same ((rl.append rl2).mono List.prefix_rfl L.stay)⟩)
    · cases hz
  · rename_i i j
    cases hz
    exact (pe_op (pos := pos) op_sub ha hb).run pins s σ H Q I (sca0 (fun i j => i - j) _ _ rfl rfl rfl)
  · rename_i i j
    split at hz
    · rename_i hc
      cases hz
      exact (pe_op (pos := pos) op_mul ha hb).run pins s σ H Q I (sca (fun i j => i * j) CMul _ _ rfl rfl hc rfl)
    · cases hz
  · rename_i i j
    split at hz
    · rename_i hc
      cases hz
      exact (pe_op (pos := pos) op_fdiv ha hb).run pins s σ H Q I (sca (fun i j => i / j) CDiv _ _ rfl rfl hc rfl)
    · cases hz
  · rename_i i j
    split at hz
    · rename_i hc
      cases hz
      exact (pe_op (pos := pos) op_mod ha hb).run pins s σ H Q I (sca (fun i j => i % j) (fun _ j => 0 < j) _ _ rfl rfl hc rfl)
    · cases hz
  · rename_i i j
    split at hz
    · rename_i hc
      cases hz
      exact (pe_op (pos := pos) op_pow ha hb).run pins s σ H Q I (sca (fun i j => i ^ j.toNat) CPow _ _ rfl rfl hc rfl)
    · cases hz
  · cases hz
theorem snd_lit (t : T) (ht : t.atom = true) {c : Expr} (hc : (∃ k p i, t = .int i ∧ c = .Constant (.int i) k p) ∨ (∃ k p b, t = .bl b ∧ c = .Constant (.bool b) k p) ∨ (∃ k p, t = .non ∧ c = .Constant .none k p) ∨ (∃ k p x, t = .str x ∧ c = .Constant (.str x) k p)) : PE X c (tEv G fun _ => M.ret t) := by
  rcases hc with ⟨k, p, i, rfl, rfl⟩ | ⟨k, p, b, rfl, rfl⟩ | ⟨k, p, rfl, rfl⟩ | ⟨k, p, x, rfl, rfl⟩
  · refine pe_int.imp fun σ H Q ⟨α, S, ρ, t, S', ok, er, hm, hQ⟩ => ?_
    obtain ⟨rfl, rfl⟩ := ret_ok.mp hm
    exact hQ α H _ .rfl' ok (.int _)
  · refine pe_bl.imp fun σ H Q ⟨α, S, ρ, t, S', ok, er, hm, hQ⟩ => ?_
    obtain ⟨rfl, rfl⟩ := ret_ok.mp hm
    exact hQ α H _ .rfl' ok (.bl _)
  · refine pe_non.imp fun σ H Q ⟨α, S, ρ, t, S', ok, er, hm, hQ⟩ => ?_
    obtain ⟨rfl, rfl⟩ := ret_ok.mp hm
    exact hQ α H _ .rfl' ok .non
  · refine pe_str.imp fun σ H Q ⟨α, S, ρ, t, S', ok, er, hm, hQ⟩ => ?_
    obtain ⟨rfl, rfl⟩ := ret_ok.mp hm
    exact hQ α H _ .rfl' ok (.str _)
end
end MB

end -- MbSnd2
section -- MbSnd3
set_option Elab.async false
set_option linter.all false
set_option maxRecDepth 100000
set_option maxHeartbeats 1000000
/-! Comparisons: == and !=. -/
namespace MB
open PySem PySem.Spec L2 PySem.SeqAt

section
variable {prog : Program} {w : World} {A : Around} {E : Value → Shared → Prop} {s : Shared} {a b : Addr} {U : String}
/-- a dict's == of a thing that is no dict -/
theorem dict_declines_eq {Q : Value → Shared → Prop} (ta : s.TypeIs (.ref a) "dict") (tb : s.TypeIs (.ref b) U) (hs : isSubtype (.type U) (.type "dict") = pure false) (h : Q .notImplemented s) :
    wpAny (model prog w) A (call (.builtin "dict.__eq__") [.ref a, .ref b]) Q E s := by
  refine wpAny_call_entry PySem.F.slot_dict_eq ta PySem.F.entry_dict_eq ?_ (PySem.F.args_dict_eq_2 _ _)
  show wpAny _ _ (Builtin.Dict.dictSlotArgs "__eq__" ⟨[.ref a, .ref b], []⟩ >>= _) _ _ s
  refine wpAny_bind ?_
  unfold Builtin.Dict.dictSlotArgs
  refine wpAny_bind (wpAny_notOrdered_dict ta ?_)
  show wpAny _ _ (pure (Value.ref a, Value.ref b)) _ _ s
  refine wpAny_pure ?_
  refine wpAny_bind (wpAny_isInstance (T := U) tb hs ?_)
  simp only [Bool.not_false, if_true]
  exact wpAny_bind (wpAny_rule (wpAny_pure ⟨_, rfl, h⟩))
theorem dict_declines_ne {Q : Value → Shared → Prop} (ta : s.TypeIs (.ref a) "dict") (tb : s.TypeIs (.ref b) U) (hs : isSubtype (.type U) (.type "dict") = pure false) (h : Q .notImplemented s) :
    wpAny (model prog w) A (call (.builtin "dict.__ne__") [.ref a, .ref b]) Q E s := by
  refine wpAny_call_entry PySem.F.slot_dict_ne ta PySem.F.entry_dict_ne ?_ (PySem.F.args_dict_ne_2 _ _)
  show wpAny _ _ (Builtin.Dict.dictSlotArgs "__ne__" ⟨[.ref a, .ref b], []⟩ >>= _) _ _ s
  refine wpAny_bind ?_
  unfold Builtin.Dict.dictSlotArgs
  refine wpAny_bind (wpAny_notOrdered_dict ta ?_)
  show wpAny _ _ (pure (Value.ref a, Value.ref b)) _ _ s
  refine wpAny_pure ?_
  refine wpAny_bind (wpAny_isInstance (T := U) tb hs ?_)
  simp only [Bool.not_false, if_true]
  exact wpAny_bind (wpAny_rule (wpAny_pure ⟨_, rfl, h⟩))
end
theorem tuple_eq_no_dict (l b : Addr) (items : Array Value) (n : Nat) (dd : Option Addr) (sl : Array (Option Value)) (d2 : Option Addr) (data2 : Data) (sl2 : Array (Option Value)) :
    Meets (Builtin.«tuple.__eq__» ⟨[.ref l, .ref b], []⟩) (fun _ R s => s.heap.get? l = some { cls := .type "tuple", dict := dd, data := .seq items n, slots := sl } ∧
      s.heap.get? b = some { cls := .type "dict", dict := d2, data := data2, slots := sl2 } ∧ R (.ok (.ret .notImplemented)) s) :=
  .of_wp fun prog w A R s h => by
    obtain ⟨hp, g, d, tk, os⟩ := s
    obtain ⟨hl, hb, h⟩ := h
    have f1 := F.sub_dict_tuple
    wp_walk using AutoSeq1.wpAny_loadPart' hl, AutoSeq1.wpAny_loadPart' hb
    exact ⟨_, rfl, h⟩
theorem tuple_ne_no_dict (l b : Addr) (items : Array Value) (n : Nat) (dd : Option Addr) (sl : Array (Option Value)) (d2 : Option Addr) (data2 : Data) (sl2 : Array (Option Value)) :
    Meets (Builtin.«tuple.__ne__» ⟨[.ref l, .ref b], []⟩) (fun _ R s => s.heap.get? l = some { cls := .type "tuple", dict := dd, data := .seq items n, slots := sl } ∧
      s.heap.get? b = some { cls := .type "dict", dict := d2, data := data2, slots := sl2 } ∧ R (.ok (.ret .notImplemented)) s) :=
  .of_wp fun prog w A R s h => by
    obtain ⟨hp, g, d, tk, os⟩ := s
    obtain ⟨hl, hb, h⟩ := h
    have f1 := F.sub_dict_tuple
    wp_walk using AutoSeq1.wpAny_loadPart' hl, AutoSeq1.wpAny_loadPart' hb
    exact ⟨_, rfl, h⟩

section
variable {A : Around} {s : Shared} {l b : Addr} {items : Array Value}
theorem ne_dict_tuple (hl : s.TypeIs (.ref b) "dict") (ht : s.heap.IsTuple l items) : l ≠ b := fun e => by
  obtain ⟨o, ho, hc⟩ := hl
  obtain ⟨o2, ho2, hc2, _⟩ := ht
  rw [e, ho] at ho2
  cases ho2
  rw [hc] at hc2
  exact absurd hc2 (by decide)
theorem rc_dict_tuple (hd : s.TypeIs (.ref b) "dict") (ht : s.heap.IsTuple l items) (hu : A.units < cLine) : RcAt A s (.ref b) (.ref l) false := fun prog w E Q h => by
  have hne := (ne_dict_tuple hd ht).symm
  obtain ⟨⟨c1, d1, data1, sl1⟩, ho, hc⟩ := id hd
  obtain ⟨⟨c2, d2, data2, sl2⟩, ho2, hc2, n2, hd2⟩ := id ht
  simp only at hc hc2 hd2
  subst hc hc2 hd2
  have tl : s.TypeIs (.ref l) "tuple" := ⟨_, ho2, rfl⟩
  exact rc_eq_decline_or (k := false) hd tl (by decide) PySem.F.sub_tuple_dict PySem.F.slot_dict_eq PySem.F.slot_tuple_eq_refl
    (fun Q' hq => dict_declines_eq hd tl PySem.F.sub_tuple_dict hq)
    (fun Q' hq => call_meets PySem.F.slot_tuple_eq_refl tl PySem.F.entry_tuple_eq (PySem.F.args_tuple_eq_2 _ _) (tuple_eq_no_dict l b items n2 d2 sl2 d1 data1 sl1) ⟨ho2, ho, hq⟩)
    (fun Q' hq => wpAny_isSame_ref_other hne ho ho2 (by simp) hq) (.inr hu) h
theorem rc_tuple_dict (hd : s.TypeIs (.ref b) "dict") (ht : s.heap.IsTuple l items) (hu : A.units < cLine) : RcAt A s (.ref l) (.ref b) false := fun prog w E Q h => by
  have hne := ne_dict_tuple hd ht
  obtain ⟨⟨c1, d1, data1, sl1⟩, ho, hc⟩ := id hd
  obtain ⟨⟨c2, d2, data2, sl2⟩, ho2, hc2, n2, hd2⟩ := id ht
  simp only at hc hc2 hd2
  subst hc hc2 hd2
  have tl : s.TypeIs (.ref l) "tuple" := ⟨_, ho2, rfl⟩
  exact rc_eq_decline_or (k := false) tl hd (by decide) PySem.F.sub_dict_tuple PySem.F.slot_tuple_eq PySem.F.slot_dict_eq_refl
    (fun Q' hq => call_meets PySem.F.slot_tuple_eq tl PySem.F.entry_tuple_eq (PySem.F.args_tuple_eq_2 _ _) (tuple_eq_no_dict l b items n2 d2 sl2 d1 data1 sl1) ⟨ho2, ho, hq⟩)
    (fun Q' hq => dict_declines_eq hd tl PySem.F.sub_tuple_dict hq)
    (fun Q' hq => wpAny_isSame_ref_other' hne ho2 ho (by simp) hq) (.inr hu) h
theorem rcNe_dict_tuple (hd : s.TypeIs (.ref b) "dict") (ht : s.heap.IsTuple l items) (hu : A.units < cLine) : RcNeAt A s (.ref b) (.ref l) true := fun prog w E Q h => by
  have hne := (ne_dict_tuple hd ht).symm
  obtain ⟨⟨c1, d1, data1, sl1⟩, ho, hc⟩ := id hd
  obtain ⟨⟨c2, d2, data2, sl2⟩, ho2, hc2, n2, hd2⟩ := id ht
  simp only at hc hc2 hd2
  subst hc hc2 hd2
  have tl : s.TypeIs (.ref l) "tuple" := ⟨_, ho2, rfl⟩
  exact rc_ne_decline_or (k := false) hd tl (by decide) PySem.F.sub_tuple_dict PySem.F.slot_dict_ne PySem.F.slot_tuple_ne_refl
    (fun Q' hq => dict_declines_ne hd tl PySem.F.sub_tuple_dict hq)
    (fun Q' hq => call_meets PySem.F.slot_tuple_ne_refl tl PySem.F.entry_tuple_ne (PySem.F.args_tuple_ne_2 _ _) (tuple_ne_no_dict l b items n2 d2 sl2 d1 data1 sl1) ⟨ho2, ho, hq⟩)
    (fun Q' hq => wpAny_isSame_ref_other hne ho ho2 (by simp) hq) (.inr hu) h
theorem rcNe_tuple_dict (hd : s.TypeIs (.ref b) "dict") (ht : s.heap.IsTuple l items) (hu : A.units < cLine) : RcNeAt A s (.ref l) (.ref b) true := fun prog w E Q h => by
  have hne := ne_dict_tuple hd ht
  obtain ⟨⟨c1, d1, data1, sl1⟩, ho, hc⟩ := id hd
  obtain ⟨⟨c2, d2, data2, sl2⟩, ho2, hc2, n2, hd2⟩ := id ht
  simp only at hc hc2 hd2
  subst hc hc2 hd2
  have tl : s.TypeIs (.ref l) "tuple" := ⟨_, ho2, rfl⟩
  exact rc_ne_decline_or (k := false) tl hd (by decide) PySem.F.sub_dict_tuple PySem.F.slot_tuple_ne PySem.F.slot_dict_ne_refl
    (fun Q' hq => call_meets PySem.F.slot_tuple_ne tl PySem.F.entry_tuple_ne (PySem.F.args_tuple_ne_2 _ _) (tuple_ne_no_dict l b items n2 d2 sl2 d1 data1 sl1) ⟨ho2, ho, hq⟩)
    (fun Q' hq => dict_declines_ne hd tl PySem.F.sub_tuple_dict hq)
    (fun Q' hq => wpAny_isSame_ref_other' hne ho2 ho (by simp) hq) (.inr hu) h
end
/-! ### trees as the library's data -/
mutual
def T.toD : T → PyData
  | .non => .none | .bl b => .bool b | .int i => .int i | .str x => .str x
  | .lst xs => .list (toDs xs) | .tup xs => .tuple (toDs xs)
  | _ => .dict []
def toDs : List T → List PyData
  | [] => []
  | x :: xs => x.toD :: toDs xs
end
mutual
theorem eqv_toD : ∀ x y : T, PyData.eqv x.toD y.toD = x.eqv y
  | .non, y => by cases y <;> simp [T.toD, PyData.eqv, T.eqv]
  | .bl a, y => by cases y <;> simp [T.toD, PyData.eqv, T.eqv, b2]
  | .int a, y => by cases y <;> simp [T.toD, PyData.eqv, T.eqv, b2]
  | .str a, y => by cases y <;> simp [T.toD, PyData.eqv, T.eqv, BEq.beq]
  | .lst a, y => by cases y <;> simp [T.toD, PyData.eqv, T.eqv, eqvs_toD a]
  | .tup a, y => by cases y <;> simp [T.toD, PyData.eqv, T.eqv, eqvs_toD a]
  | .dct a, y => by cases y <;> simp [T.toD, PyData.eqv, T.eqv]
  | .ins a b, y => by cases y <;> simp [T.toD, PyData.eqv, T.eqv]
  | .loc a, y => by cases y <;> simp [T.toD, PyData.eqv, T.eqv]
  | .ktup a, y => by cases y <;> simp [T.toD, PyData.eqv, T.eqv]
theorem eqvs_toD : ∀ xs ys : List T, PyData.eqvAll (toDs xs) (toDs ys) = eqvs xs ys
  | [], [] => by simp [toDs, PyData.eqvAll, eqvs]
  | [], _ :: _ => by simp [toDs, PyData.eqvAll, eqvs]
  | _ :: _, [] => by simp [toDs, PyData.eqvAll, eqvs]
  | x :: xs, y :: ys => by simp [toDs, PyData.eqvAll, eqvs, eqv_toD x y, eqvs_toD xs ys]
end
end MB

end -- MbSnd3
section -- MbSnd4
set_option Elab.async false
set_option linter.all false
set_option maxRecDepth 100000
set_option maxHeartbeats 2000000
/-! Comparisons of what is seen. -/
namespace MB
open PySem PySem.Spec L2 PySem.SeqAt

section
variable {X : Cx} {G : Gx} {α : List Addr} {S : Store} {H : Hp} {pins : List (Addr × Obj)} {σ : L2.St} {s : Shared} {v w : V} {x y : T} {u u' : Value}
/-- trees without dicts as the layer's data -/
theorem dpAll_of {K : PySem.W.Frag} {n : Nat} (ih : ∀ {v : V} {t : T}, Rep G α H v t → t.pl n = true → Dp G.K H v t.toD ∧ t.toD.canLay0 = true ∧ t.toD.depth ≤ n) :
    ∀ {vs : List V} {ts : List T}, RepL G α H vs ts → ts.all (T.pl n) = true → DpAll G.K H vs (toDs ts) ∧ PyData.canLayAll0 (toDs ts) = true ∧ PyData.depthAll (toDs ts) ≤ n
  | _, _, .nil, _ => ⟨.nil, rfl, Nat.zero_le _⟩
  | _, _, .cons a b, h => by
    rw [List.all_cons, Bool.and_eq_true] at h
    obtain ⟨h1, h2, h3⟩ := ih a h.1
    obtain ⟨g1, g2, g3⟩ := dpAll_of (K := K) ih b h.2
    refine ⟨.cons h1 g1, ?_, ?_⟩
    · simp only [toDs, PyData.canLayAll0, h2, g2, Bool.and_self]
    · simp only [toDs, PyData.depthAll]
      exact Nat.max_le.mpr ⟨h3, g3⟩
theorem dp_of : ∀ (n : Nat) {v : V} {t : T}, Rep G α H v t → t.pl n = true → Dp G.K H v t.toD ∧ t.toD.canLay0 = true ∧ t.toD.depth ≤ n := by
  intro n
  induction n with
  | zero =>
    intro v t r h
    cases r with
    | non => exact ⟨.non, rfl, Nat.zero_le _⟩
    | bl b => exact ⟨.bl b, rfl, Nat.zero_le _⟩
    | int i => exact ⟨.int i, rfl, Nat.zero_le _⟩
    | str x => exact ⟨.str x, h, Nat.zero_le _⟩
    | con _ c => cases c <;> simp [T.pl] at h
    | _ => simp [T.pl] at h
  | succ n ih =>
    intro v t r h
    cases r with
    | non => exact ⟨.non, rfl, Nat.zero_le _⟩
    | bl b => exact ⟨.bl b, rfl, Nat.zero_le _⟩
    | int i => exact ⟨.int i, rfl, Nat.zero_le _⟩
    | str x => exact ⟨.str x, h, Nat.zero_le _⟩
    | tupE q => exact ⟨.tup q .nil, rfl, Nat.succ_le_succ (Nat.zero_le _)⟩
    | tup q r =>
      obtain ⟨g1, g2, g3⟩ := dpAll_of (K := G.K) ih r (by simpa [T.pl] using h)
      exact ⟨.tup (SqT.of q) g1, g2, Nat.succ_le_succ g3⟩
    | con e c =>
      cases c with
      | lst z r =>
        obtain ⟨g1, g2, g3⟩ := dpAll_of (K := G.K) ih r (by simpa [T.pl] using h)
        exact ⟨.lst (.inl (.inr ⟨_, e⟩)) g1, g2, Nat.succ_le_succ g3⟩
      | dK z r => simp [T.pl] at h
      | dT z _ r => simp [T.pl] at h
      | ins r => simp [T.pl] at h
    | _ => simp [T.pl] at h
theorem dpV_of {n : Nat} (r : RepV G α H v x) (h : x.pl n = true) : Dp G.K H v x.toD ∧ x.toD.canLay0 = true ∧ x.toD.depth ≤ n := by
  rcases r with r | ⟨a, u, e, hu, mu, c⟩
  · exact dp_of n r h
  · subst e
    cases c with
    | lst z r =>
      cases n with
      | zero => simp [T.pl] at h
      | succ n =>
        obtain ⟨g1, g2, g3⟩ := dpAll_of (K := G.K) (dp_of n) r (by simpa [T.pl] using h)
        exact ⟨.lst (.inl (.inl hu)) g1, g2, Nat.succ_le_succ g3⟩
    | dK z r => cases n <;> simp [T.pl] at h
    | dT z _ r => cases n <;> simp [T.pl] at h
    | ins r => cases n <;> simp [T.pl] at h
/-- what the machine's == and != say -/
def Says (A : Around) (s : Shared) (u u' : Value) (k : Bool) : Prop := RcAt A s u u' k ∧ RcNeAt A s u u' (!k)
theorem says_pl (I : Inv X pins σ H s) (hK : X.K = G.K) (hu : X.A.units + 64 < cLine) (r1 : RepV G α H v x) (r2 : RepV G α H w y) (rv : RelV v u) (rw' : RelV w u') (h1 : x.pl 8 = true) (h2 : y.pl 8 = true) : Says X.A s u u' (x.eqv y) := by
  obtain ⟨d1, c1, l1⟩ := dpV_of r1 h1
  obtain ⟨d2, c2, l2⟩ := dpV_of r2 h2
  rw [← hK] at d1 d2
  obtain ⟨as, q1⟩ := Dp.reads I _ _ _ d1 rv
  obtain ⟨bs, q2⟩ := Dp.reads I _ _ _ d2 rw'
  have hm : X.A.units + min x.toD.depth y.toD.depth < cLine := by
    have : min x.toD.depth y.toD.depth ≤ x.toD.depth := Nat.min_le_left _ _
    omega
  rw [← eqv_toD x y]
  exact ⟨rcAt_reads q1 q2 c1 c2 hm, rcNeAt_reads q1 q2 c1 c2 hm⟩
theorem says_atom (r1 : RepV G α H v x) (r2 : RepV G α H w y) (rv : RelV v u) (rw' : RelV w u') (h1 : x.atom = true) (h2 : y.atom = true) : Says X.A s u u' (x.eqv y) := by
  cases x with
  | non =>
    rw [r1.non] at rv; cases rv
    cases y with
    | non => rw [r2.non] at rw'; cases rw'; simp only [T.eqv]; exact ⟨RcAt.none_none, RcNeAt.none_none⟩
    | bl b => rw [r2.bl] at rw'; cases rw'; simp only [T.eqv]; exact ⟨RcAt.none_bool _, RcNeAt.none_bool _⟩
    | int b => rw [r2.int] at rw'; obtain ⟨t, rfl⟩ := rw'; simp only [T.eqv]; exact ⟨RcAt.none_int _ _, RcNeAt.none_int _ _⟩
    | str b => rw [r2.str] at rw'; obtain ⟨t, rfl⟩ := rw'; simp only [T.eqv]; exact ⟨RcAt.none_str _ _, RcNeAt.none_str _ _⟩
    | _ => simp [T.atom] at h2
  | bl a =>
    rw [r1.bl] at rv; cases rv
    cases y with
    | non => rw [r2.non] at rw'; cases rw'; simp only [T.eqv]; exact ⟨RcAt.bool_none _, RcNeAt.bool_none _⟩
    | bl b => rw [r2.bl] at rw'; cases rw'; simp only [T.eqv]; exact ⟨RcAt.bool_bool _ _, RcNeAt.bool_bool _ _⟩
    | int b => rw [r2.int] at rw'; obtain ⟨t, rfl⟩ := rw'; simp only [T.eqv]; exact ⟨RcAt.bool_int _ _ _, RcNeAt.bool_int _ _ _⟩
    | str b => rw [r2.str] at rw'; obtain ⟨t, rfl⟩ := rw'; simp only [T.eqv]; exact ⟨RcAt.bool_str _ _ _, RcNeAt.bool_str _ _ _⟩
    | _ => simp [T.atom] at h2
  | int a =>
    rw [r1.int] at rv; obtain ⟨ta, rfl⟩ := rv
    cases y with
    | non => rw [r2.non] at rw'; cases rw'; simp only [T.eqv]; exact ⟨RcAt.int_none _ _, RcNeAt.int_none _ _⟩
    | bl b => rw [r2.bl] at rw'; cases rw'; simp only [T.eqv]; exact ⟨RcAt.int_bool _ _ _, RcNeAt.int_bool _ _ _⟩
    | int b => rw [r2.int] at rw'; obtain ⟨t, rfl⟩ := rw'; simp only [T.eqv]; exact ⟨RcAt.int_int _ _ _ _, RcNeAt.int_int _ _ _ _⟩
    | str b => rw [r2.str] at rw'; obtain ⟨t, rfl⟩ := rw'; simp only [T.eqv]; exact ⟨RcAt.int_str _ _ _ _, RcNeAt.int_str _ _ _ _⟩
    | _ => simp [T.atom] at h2
  | str a =>
    rw [r1.str] at rv; obtain ⟨ta, rfl⟩ := rv
    cases y with
    | non => rw [r2.non] at rw'; cases rw'; simp only [T.eqv]; exact ⟨RcAt.str_none _ _, RcNeAt.str_none _ _⟩
    | bl b => rw [r2.bl] at rw'; cases rw'; simp only [T.eqv]; exact ⟨RcAt.str_bool _ _ _, RcNeAt.str_bool _ _ _⟩
    | int b => rw [r2.int] at rw'; obtain ⟨t, rfl⟩ := rw'; simp only [T.eqv]; exact ⟨RcAt.str_int _ _ _ _, RcNeAt.str_int _ _ _ _⟩
    | str b =>
      rw [r2.str] at rw'; obtain ⟨t, rfl⟩ := rw'
      have e : decide (a = b) = (a == b) := by
        by_cases h : a = b
        · subst h; simp
        · rw [decide_eq_false h]; exact (beq_eq_false_iff_ne.mpr h).symm
      simp only [T.eqv, e]
      exact ⟨RcAt.str_str _ _ _ _, RcNeAt.str_str _ _ _ _⟩
    | _ => simp [T.atom] at h2
  | _ => simp [T.atom] at h1
theorem isL_of (I : Inv X pins σ H s) {a : Addr} {vs : List V} (h : Rd H a (.lst vs)) : ∃ its : List Value, Vals vs its ∧ s.heap.IsList a its.toArray := by
  obtain ⟨its, k, r, e⟩ := lstR I h
  exact ⟨its, r, _, e, rfl, _, rfl⟩
theorem isT_of (I : Inv X pins σ H s) (hK : X.K = G.K) {a : Addr} {vs : List V} (h : SqT G.K H a vs) : ∃ its : List Value, Vals vs its ∧ s.heap.IsTuple a its.toArray := by
  rw [← hK] at h
  obtain ⟨its, r, p, _⟩ := I.tuple h
  exact ⟨its, r, p⟩
theorem isD_of (I : Inv X pins σ H s) {ts : List (T × T)} (r : RepV G α H v (.dct ts)) : ∃ a, v = .ref a ∧ s.TypeIs (.ref a) "dict" := by
  obtain ⟨a, e, h⟩ := r.dct
  refine ⟨a, e, ?_⟩
  rcases h with ⟨kvs, h, _, _⟩ | ⟨kvs, h, _, _, _⟩ | ⟨o, u, ks, vs, h, _, od, _⟩
  · obtain ⟨_, _, vs, _, dd⟩ := dk_rd I.hok h
    exact dd.typeIs
  · obtain ⟨_, _, vs, _, o, es, ep, h1, h2, _⟩ := dt_rd I.hok h
    exact ⟨o, h1, h2.1⟩
  · exact ⟨o, (I.hok _ _ h).1, od.1.1⟩
end
end MB

end -- MbSnd4
section -- MbSnd5
set_option Elab.async false
set_option linter.all false
set_option maxRecDepth 100000
set_option maxHeartbeats 2000000
/-! Comparisons: each operator. -/
namespace MB
open PySem PySem.Spec L2 PySem.SeqAt

section
variable {X : Cx} {G : Gx} {α : List Addr} {S : Store} {H : Hp} {pins : List (Addr × Obj)} {σ : L2.St} {s : Shared} {v w : V} {x y : T} {u u' : Value}
theorem says_eqT (I : Inv X pins σ H s) (hK : X.K = G.K) (hu : X.A.units + 64 < cLine) (r1 : RepV G α H v x) (r2 : RepV G α H w y) (rv : RelV v u) (rw' : RelV w u') {k : Bool} (hk : eqT x y = some k) : Says X.A s u u' k := by
  have hu0 : X.A.units < cLine := by omega
  unfold eqT at hk
  split at hk
  · rename_i h
    rw [Bool.and_eq_true] at h
    cases hk
    exact says_atom r1 r2 rv rw' h.1 h.2
  · split at hk
    · rename_i xs ys
      split at hk
      · split at hk
        · rename_i hl hp
          rw [Bool.and_eq_true] at hp
          cases hk
          exact says_pl I hK hu r1 r2 rv rw' hp.1 hp.2
        · cases hk
      · rename_i hl
        cases hk
        obtain ⟨a, vs, rfl, h1, rl, _⟩ := r1.lst
        obtain ⟨b, ws, rfl, h2, rl2, _⟩ := r2.lst
        cases rv; cases rw'
        obtain ⟨its, p1, q1⟩ := isL_of I h1
        obtain ⟨jts, p2, q2⟩ := isL_of I h2
        have hne : (its.toArray.size != jts.toArray.size) = true := by
          have := p1.length; have := p2.length; have := rl.length; have := rl2.length
          simp only [List.size_toArray, bne_iff_ne, ne_eq]
          omega
        exact ⟨RcAt.lists_lengths q1 q2 hne hu0, RcNeAt.lists_lengths q1 q2 hne hu0⟩
    · split at hk
      · rename_i hp
        rw [Bool.and_eq_true] at hp
        cases hk
        exact says_pl I hK hu r1 r2 rv rw' hp.1 hp.2
      · cases hk
    · cases hk
      obtain ⟨a, rfl, td⟩ := isD_of I r1
      obtain ⟨b, ws, rfl, h2, rl2⟩ := r2.tup
      cases rv; cases rw'
      obtain ⟨jts, p2, q2⟩ := isT_of I hK h2
      exact ⟨rc_dict_tuple td q2 hu0, rcNe_dict_tuple td q2 hu0⟩
    · cases hk
      obtain ⟨a, rfl, td⟩ := isD_of I r2
      obtain ⟨b, ws, rfl, h2, rl2⟩ := r1.tup
      cases rv; cases rw'
      obtain ⟨jts, p2, q2⟩ := isT_of I hK h2
      exact ⟨rc_tuple_dict td q2 hu0, rcNe_tuple_dict td q2 hu0⟩
    · split at hk
      · rename_i hat _ _ _ _ hc
        cases hk
        simp only [Bool.and_eq_true, decide_eq_true_eq, bne_iff_ne, ne_eq] at hc
        obtain ⟨⟨c1, c2⟩, c3⟩ := hc
        cases x with
        | non =>
          rw [r1.non] at rv; cases rv
          cases y with
          | lst ys =>
            obtain ⟨b, ws, rfl, h2, rl2, _⟩ := r2.lst
            cases rw'
            obtain ⟨jts, p2, q2⟩ := isL_of I h2
            exact ⟨RcAt.none_list q2 hu0, RcNeAt.none_list q2 hu0⟩
          | tup ys =>
            obtain ⟨b, ws, rfl, h2, rl2⟩ := r2.tup
            cases rw'
            obtain ⟨jts, p2, q2⟩ := isT_of I hK h2
            exact ⟨RcAt.none_tuple q2 hu0, RcNeAt.none_tuple q2 hu0⟩
          | _ => simp [T.atom, T.kd] at *
        | bl bb =>
          rw [r1.bl] at rv; cases rv
          cases y with
          | lst ys =>
            obtain ⟨b, ws, rfl, h2, rl2, _⟩ := r2.lst
            cases rw'
            obtain ⟨jts, p2, q2⟩ := isL_of I h2
            exact ⟨RcAt.bool_list _ q2 hu0, RcNeAt.bool_list _ q2 hu0⟩
          | tup ys =>
            obtain ⟨b, ws, rfl, h2, rl2⟩ := r2.tup
            cases rw'
            obtain ⟨jts, p2, q2⟩ := isT_of I hK h2
            exact ⟨RcAt.bool_tuple _ q2 hu0, RcNeAt.bool_tuple _ q2 hu0⟩
          | _ => simp [T.atom, T.kd] at *
        | int i =>
          rw [r1.int] at rv; obtain ⟨t, rfl⟩ := rv
          cases y with
          | lst ys =>
            obtain ⟨b, ws, rfl, h2, rl2, _⟩ := r2.lst
            cases rw'
            obtain ⟨jts, p2, q2⟩ := isL_of I h2
            exact ⟨RcAt.int_list _ _ q2 hu0, RcNeAt.int_list _ _ q2 hu0⟩
          | tup ys =>
            obtain ⟨b, ws, rfl, h2, rl2⟩ := r2.tup
            cases rw'
            obtain ⟨jts, p2, q2⟩ := isT_of I hK h2
            exact ⟨RcAt.int_tuple _ _ q2 hu0, RcNeAt.int_tuple _ _ q2 hu0⟩
          | _ => simp [T.atom, T.kd] at *
        | str i =>
          rw [r1.str] at rv; obtain ⟨t, rfl⟩ := rv
          cases y with
          | lst ys =>
            obtain ⟨b, ws, rfl, h2, rl2, _⟩ := r2.lst
            cases rw'
            obtain ⟨jts, p2, q2⟩ := isL_of I h2
            exact ⟨RcAt.str_list _ _ q2 hu0, RcNeAt.str_list _ _ q2 hu0⟩
          | tup ys =>
            obtain ⟨b, ws, rfl, h2, rl2⟩ := r2.tup
            cases rw'
            obtain ⟨jts, p2, q2⟩ := isT_of I hK h2
            exact ⟨RcAt.str_tuple _ _ q2 hu0, RcNeAt.str_tuple _ _ q2 hu0⟩
          | _ => simp [T.atom, T.kd] at *
        | lst xs =>
          obtain ⟨a, vs, rfl, h1, rl, _⟩ := r1.lst
          cases rv
          obtain ⟨its, p1, q1⟩ := isL_of I h1
          cases y with
          | non => rw [r2.non] at rw'; cases rw'; exact ⟨RcAt.list_none q1 hu0, RcNeAt.list_none q1 hu0⟩
          | bl _ => rw [r2.bl] at rw'; cases rw'; exact ⟨RcAt.list_bool _ q1 hu0, RcNeAt.list_bool _ q1 hu0⟩
          | int _ => rw [r2.int] at rw'; obtain ⟨t, rfl⟩ := rw'; exact ⟨RcAt.list_int _ _ q1 hu0, RcNeAt.list_int _ _ q1 hu0⟩
          | str _ => rw [r2.str] at rw'; obtain ⟨t, rfl⟩ := rw'; exact ⟨RcAt.list_str _ _ q1 hu0, RcNeAt.list_str _ _ q1 hu0⟩
          | tup ys =>
            obtain ⟨b, ws, rfl, h2, rl2⟩ := r2.tup
            cases rw'
            obtain ⟨jts, p2, q2⟩ := isT_of I hK h2
            exact ⟨RcAt.list_tuple q1 q2 hu0, RcNeAt.list_tuple q1 q2 hu0⟩
          | _ => simp [T.atom, T.kd] at *
        | tup xs =>
          obtain ⟨a, vs, rfl, h1, rl⟩ := r1.tup
          cases rv
          obtain ⟨its, p1, q1⟩ := isT_of I hK h1
          cases y with
          | non => rw [r2.non] at rw'; cases rw'; exact ⟨RcAt.tuple_none q1 hu0, RcNeAt.tuple_none q1 hu0⟩
          | bl _ => rw [r2.bl] at rw'; cases rw'; exact ⟨RcAt.tuple_bool _ q1 hu0, RcNeAt.tuple_bool _ q1 hu0⟩
          | int _ => rw [r2.int] at rw'; obtain ⟨t, rfl⟩ := rw'; exact ⟨RcAt.tuple_int _ _ q1 hu0, RcNeAt.tuple_int _ _ q1 hu0⟩
          | str _ => rw [r2.str] at rw'; obtain ⟨t, rfl⟩ := rw'; exact ⟨RcAt.tuple_str _ _ q1 hu0, RcNeAt.tuple_str _ _ q1 hu0⟩
          | lst ys =>
            obtain ⟨b, ws, rfl, h2, rl2, _⟩ := r2.lst
            cases rw'
            obtain ⟨jts, p2, q2⟩ := isL_of I h2
            exact ⟨RcAt.tuple_list q1 q2 hu0, RcNeAt.tuple_list q1 q2 hu0⟩
          | _ => simp [T.atom, T.kd] at *
        | _ => simp [T.atom, T.kd] at *
      · cases hk
/-! ### keys -/
theorem key_rep {k : Key} (h : x.key = some k) (r : RepV G α H v x) : v = kV k := by
  cases x with
  | int i => cases h; exact r.int
  | str i => cases h; exact r.str
  | _ => cases h
theorem keys_rep : ∀ {xs : List T} {ks : List Key} {vs : List V}, keysOf xs = some ks → RepL G α H vs xs → vs = ks.map kV
  | [], ks, _, h, .nil => by cases h; rfl
  | x :: xs, ks, _, h, .cons a b => by
    unfold keysOf at h
    split at h
    · rename_i k ks' h1 h2
      cases h
      rw [key_rep h1 (.inl a), keys_rep h2 b]
      rfl
    · cases h
theorem tk_k {k : Key} : x.tk = some (.k k) ↔ x.key = some k := by
  cases x with
  | int i => simp [T.tk, T.key]
  | str i => simp [T.tk, T.key]
  | tup xs => cases xs <;> simp [T.tk, T.key]
  | _ => simp [T.tk, T.key]
theorem tk_t {ks : List Key} : x.tk = some (.t ks) ↔ ∃ y xs, x = .tup (y :: xs) ∧ keysOf (y :: xs) = some ks := by
  cases x with
  | tup xs =>
    cases xs with
    | nil => simp [T.tk]
    | cons y ys =>
      simp only [T.tk, Option.map_eq_some_iff]
      constructor
      · rintro ⟨k, h, e⟩
        cases e
        exact ⟨y, ys, rfl, h⟩
      · rintro ⟨y', ys', e, h⟩
        cases e
        exact ⟨ks, h, rfl⟩
  | _ => simp [T.tk]
theorem dget_k {k : Key} : ∀ {kvs : List (Key × V)} {ts : List (T × T)}, RepD G α H kvs ts → x.key = some k →
    (∀ t, dget ts x = some t → ∃ v, valV kvs k = some v ∧ Rep G α H v t) ∧ (dget ts x = none → valV kvs k = none) ∧ (valV kvs k).isSome = dhas ts x
  | _, _, .nil, _ => ⟨fun t h => by simp [dget] at h, fun _ => rfl, rfl⟩
  | _, _, .cons (k := k') (tk := tk) h a b, hx => by
    have e1 : tk.tk = some (.k k') := tk_k.mpr h
    have e2 : x.tk = some (.k k) := tk_k.mpr hx
    by_cases e : k' = k
    · subst e
      have e3 : tk.tk = x.tk := e1.trans e2.symm
      refine ⟨fun t ht => ?_, fun hn => ?_, ?_⟩
      · simp [dget, e3] at ht
        subst ht
        exact ⟨_, valV_pos rfl, a⟩
      · simp [dget, e3] at hn
      · rw [valV_pos (by rfl)]
        simp [dhas, e3]
    · have e3 : ¬ tk.tk = x.tk := by rw [e1, e2]; intro z; cases z; exact e rfl
      obtain ⟨i1, i2, i3⟩ := dget_k b hx
      refine ⟨fun t ht => ?_, fun hn => ?_, ?_⟩
      · rw [valV_neg e]
        exact i1 t (by simpa [dget, e3] using ht)
      · rw [valV_neg e]
        exact i2 (by simpa [dget, e3] using hn)
      · rw [valV_neg e, i3]
        simp [dhas, e3]
theorem dget_t {k : List Key} : ∀ {kvs : List (List Key × V)} {ts : List (T × T)}, RepDT G α H kvs ts → x.tk = some (.t k) →
    (∀ t, dget ts x = some t → ∃ v, valV kvs k = some v ∧ Rep G α H v t) ∧ (dget ts x = none → valV kvs k = none) ∧ (valV kvs k).isSome = dhas ts x
  | _, _, .nil, _ => ⟨fun t h => by simp [dget] at h, fun _ => rfl, rfl⟩
  | _, _, .cons (k := k') (x := x0) (xs := xs0) h a b, hx => by
    have e1 : (T.tup (x0 :: xs0)).tk = some (.t k') := tk_t.mpr ⟨x0, xs0, rfl, h⟩
    by_cases e : k' = k
    · subst e
      have e3 : (T.tup (x0 :: xs0)).tk = x.tk := e1.trans hx.symm
      refine ⟨fun t ht => ?_, fun hn => ?_, ?_⟩
      · simp [dget, e3] at ht
        subst ht
        exact ⟨_, valV_pos rfl, a⟩
      · simp [dget, e3] at hn
      · rw [valV_pos (by rfl)]
        simp [dhas, e3]
    · have e3 : ¬ (T.tup (x0 :: xs0)).tk = x.tk := by rw [e1, hx]; intro z; cases z; exact e rfl
      obtain ⟨i1, i2, i3⟩ := dget_t b hx
      refine ⟨fun t ht => ?_, fun hn => ?_, ?_⟩
      · rw [valV_neg e]
        exact i1 t (by simpa [dget, e3] using ht)
      · rw [valV_neg e]
        exact i2 (by simpa [dget, e3] using hn)
      · rw [valV_neg e, i3]
        simp [dhas, e3]
/-- a key of the other form is in no such dict -/
theorem dget_kt {k : Key} : ∀ {kvs : List (List Key × V)} {ts : List (T × T)}, RepDT G α H kvs ts → x.key = some k → dget ts x = none ∧ dhas ts x = false
  | _, _, .nil, _ => ⟨rfl, rfl⟩
  | _, _, .cons (k := k') (x := x0) (xs := xs0) h a b, hx => by
    have e1 : (T.tup (x0 :: xs0)).tk = some (.t k') := tk_t.mpr ⟨x0, xs0, rfl, h⟩
    have e2 : x.tk = some (.k k) := tk_k.mpr hx
    have e3 : ¬ (T.tup (x0 :: xs0)).tk = x.tk := by rw [e1, e2]; intro z; cases z
    obtain ⟨i1, i2⟩ := dget_kt b hx
    exact ⟨by simpa [dget, e3] using i1, by simpa [dhas, e3] using i2⟩
theorem dget_tk {k : List Key} : ∀ {kvs : List (Key × V)} {ts : List (T × T)}, RepD G α H kvs ts → x.tk = some (.t k) → dget ts x = none ∧ dhas ts x = false
  | _, _, .nil, _ => ⟨rfl, rfl⟩
  | _, _, .cons (k := k') (tk := tk) h a b, hx => by
    have e1 : tk.tk = some (.k k') := tk_k.mpr h
    have e3 : ¬ tk.tk = x.tk := by rw [e1, hx]; intro z; cases z
    obtain ⟨i1, i2⟩ := dget_tk b hx
    exact ⟨by simpa [dget, e3] using i1, by simpa [dhas, e3] using i2⟩
end
end MB

end -- MbSnd5
section -- MbSnd6
set_option Elab.async false
set_option linter.all false
set_option maxRecDepth 100000
set_option maxHeartbeats 2000000
/-! Comparisons: the rule for all operators. -/
namespace MB
open PySem PySem.Spec L2 PySem.SeqAt

def copOf : COp → CmpOp
  | .eq => .Eq | .ne => .NotEq | .lt => .Lt | .le => .LtE | .gt => .Gt | .ge => .GtE | .inn => .In | .nin => .NotIn | .is => .Is | .isnot => .IsNot
section
variable {X : Cx} {G : Gx} {N : List Str} {sc : Scope} {n : Nat} {α : List Addr} {S : Store} {H : Hp} {pins : List (Addr × Obj)} {σ : L2.St} {s : Shared} {v w : V} {x y : T} {u u' : Value}
theorem repDT_keys : ∀ {kvs : List (List Key × V)} {ts : List (T × T)}, RepDT G α H kvs ts → ∀ p ∈ ts, p.1.key = none
  | _, _, .nil, p, h => by cases h
  | _, _, .cons _ _ b, p, h => by
    rcases List.mem_cons.mp h with e | h
    · rw [e]; rfl
    · exact repDT_keys b p h
theorem repD_keys : ∀ {kvs : List (Key × V)} {ts : List (T × T)}, RepD G α H kvs ts → ∀ p ∈ ts, p.1.key.isSome = true
  | _, _, .nil, p, h => by cases h
  | _, _, .cons e _ b, p, h => by
    rcases List.mem_cons.mp h with q | h
    · rw [q]; show Option.isSome (T.key _) = true; rw [e]; rfl
    · exact repD_keys b p h
/-- a dict asked by an int or a text -/
theorem dform_odd {ts : List (T × T)} {x : T} (h : (ts.any fun p => p.1.tk.isNone) = true) (hf : dform ts x = true) : False := by
  obtain ⟨p, hp, e⟩ := List.any_eq_true.mp h
  unfold dform at hf
  rw [Bool.and_eq_true] at hf
  have := List.all_eq_true.mp hf.2 p hp
  rw [Bool.and_eq_true] at this
  cases q : p.1.tk with
  | none => rw [q] at this; exact absurd this.1 (by decide)
  | some z => rw [q] at e; exact absurd e (by simp)
theorem RepV.dctK {ts : List (T × T)} {k : Key} (r : RepV G α H w (.dct ts)) (hx : x.key = some k) (hf : dform ts x = true) : ∃ a kvs, w = .ref a ∧ Rd H a (.dK kvs) ∧ RepD G α H kvs ts ∧ kvs.length ≤ sizeLine := by
  obtain ⟨a, e, hd⟩ := r.dct
  rcases hd with ⟨kvs, h, rd, z⟩ | ⟨kvs, h, rd, z, ne⟩ | ⟨o, u, ks, vs, h, _, od, hk, _⟩
  · exact ⟨a, kvs, e, h, rd, z⟩
  · exfalso
    cases rd with
    | nil => exact ne rfl
    | cons hk a b =>
      unfold dform at hf
      rw [Bool.and_eq_true] at hf
      have := List.all_eq_true.mp hf.2 _ (List.mem_cons_self ..)
      rw [hx] at this
      simp [T.key] at this
  · exact (dform_odd hk hf).elim
/-- a dict asked by a tuple -/
theorem RepV.dctT {ts : List (T × T)} {ks : List Key} (r : RepV G α H w (.dct ts)) (hx : x.tk = some (.t ks)) (hf : dform ts x = true) :
    (∃ a kvs, w = .ref a ∧ Rd H a (.dT kvs) ∧ RepDT G α H kvs ts ∧ kvs.length ≤ sizeLine ∧ kvs ≠ []) ∨ (ts = [] ∧ ∃ a, w = .ref a ∧ Rd H a (.dK [])) := by
  obtain ⟨a, e, hd⟩ := r.dct
  rcases hd with ⟨kvs, h, rd, z⟩ | ⟨kvs, h, rd, z, ne⟩ | ⟨o, u, ks, vs, h, _, od, hk, _⟩
  rotate_right
  · exact (dform_odd hk hf).elim
  · cases rd with
    | nil => exact .inr ⟨rfl, a, e, h⟩
    | cons hk a b =>
      exfalso
      unfold dform at hf
      rw [Bool.and_eq_true] at hf
      have := List.all_eq_true.mp hf.2 _ (List.mem_cons_self ..)
      obtain ⟨y0, ys0, rfl, _⟩ := tk_t.mp hx
      rw [hk] at this
      simp [T.key] at this
  · exact .inl ⟨a, kvs, e, h, rd, z, ne⟩
/-- the empty dict, asked by a tuple -/
theorem dictNone (I : Inv X pins σ H s) {a : Addr} (h : Rd H a (.dK [])) : (a == sysModules) = false ∧ s.heap.DictOfH (tupleKind (mixKind X.prog X.w)) a ([] : List (List Key × Addr × Value)) := by
  obtain ⟨_, hsm, vs, kv, o, es, ep, h1, h2, h3, _, h5, _⟩ := dk_rd I.hok h
  cases kv
  refine ⟨hsm, o, es, ep, h1, h2, h3, ?_, fun _ hx => by simp at hx, by simp⟩
  have : es.toList = [] := by
    cases q : es.toList with
    | nil => rfl
    | cons p ps => rw [q] at h5; cases h5
  rw [this]; rfl
theorem dictIn (I : Inv X pins σ H s) (hu : X.A.units + 1 < cLine) {ts : List (T × T)} (r1 : RepV G α H v x) (r2 : RepV G α H w (.dct ts)) (rv : RelV v u) (rw' : RelV w u') (hf : dform ts x = true)
    {E : Value → Shared → Prop} {Q Q' : Value → Shared → Prop} : ((∀ s', Inv X pins σ H s' → Q (.bool (dhas ts x)) s') → wpAny (model X.prog X.w) X.A (compareOp .In u u') Q E s) ∧
    ((∀ s', Inv X pins σ H s' → Q' (.bool (!dhas ts x)) s') → wpAny (model X.prog X.w) X.A (compareOp .NotIn u u') Q' E s) := by
  have hs : x.tk.isSome = true := by
    unfold dform at hf
    exact (Bool.and_eq_true_iff.mp hf).1
  cases q : x.tk with
  | none => rw [q] at hs; cases hs
  | some tk =>
    cases tk with
    | k k =>
      have hx := tk_k.mp q
      have ev := key_rep hx r1
      subst ev
      obtain ⟨a, kvs, rfl, h, rd, z⟩ := r2.dctK hx hf
      cases rw'
      obtain ⟨_, _, e⟩ := dget_k rd hx
      refine ⟨fun hQ => d_in hu I (o := valV kvs k) (.inl ⟨kvs, k, h, rfl, rfl⟩) rv fun s' I' => ?_, fun hQ => d_notIn hu I (o := valV kvs k) (.inl ⟨kvs, k, h, rfl, rfl⟩) rv fun s' I' => ?_⟩
      · rw [e]; exact hQ s' I'
      · rw [e]; exact hQ s' I'
    | t ks =>
      obtain ⟨y0, ys0, rfl, hks⟩ := tk_t.mp q
      obtain ⟨b, vs, rfl, hb, rl⟩ := r1.tupT
      have ev := keys_rep hks rl
      subst ev
      cases rv
      rcases r2.dctT q hf with ⟨a, kvs, rfl, h, rd, z, ne⟩ | ⟨rfl, a, rfl, h⟩
      · cases rw'
        obtain ⟨_, _, e⟩ := dget_t rd q
        refine ⟨fun hQ => d_in hu I (o := valV kvs ks) (.inr ⟨kvs, ks, b, h, rfl, hb, rfl⟩) rfl fun s' I' => ?_, fun hQ => d_notIn hu I (o := valV kvs ks) (.inr ⟨kvs, ks, b, h, rfl, hb, rfl⟩) rfl fun s' I' => ?_⟩
        · rw [e]; exact hQ s' I'
        · rw [e]; exact hQ s' I'
      · cases rw'
        obtain ⟨hsm, dd⟩ := dictNone I h
        have kk := key_of I.hok hb
        refine ⟨fun hQ => wpAny_in_heap (tupleKind_room_in1 hu) kk hsm dd (hQ _ (I.tok _)), fun hQ => PyProof.Rows.wpAny_notIn_heap (tupleKind_room_in1 hu) kk hsm dd (hQ _ (I.tok _))⟩
/-- what is asked of an operator of comparison -/
def rCmp (G : Gx) (op : COp) : R2 := fun v w H Q => ∃ α x y k, RepV G α H v x ∧ RepV G α H w y ∧ cmpT op x y = some k ∧ Q (.bl k) H
theorem repL_flat : ∀ {vs : List V} {ts : List T}, RepL G α H vs ts → ts.all T.atom = true → vs.all flatV = true
  | _, _, .nil, _ => rfl
  | _, _, .cons a b, h => by
    rw [List.all_cons, Bool.and_eq_true] at h ⊢
    refine ⟨?_, repL_flat b h.2⟩
    cases a <;> first | rfl | (simp [T.atom] at h) | skip
    rename_i c
    cases c <;> simp [T.atom] at h
theorem flat_of (r : RepV G α H v x) (h : x.atom = true) : flatV v = true := by
  cases x with
  | non => rw [r.non]; rfl
  | bl _ => rw [r.bl]; rfl
  | int _ => rw [r.int]; rfl
  | str _ => rw [r.str]; rfl
  | _ => simp [T.atom] at h
theorem eqV_of {v' : V} {x' : T} (r : RepV G α H v x) (r' : RepV G α H v' x') (h : x.atom = true) (h' : x'.atom = true) : eqV v v' = x.eqv x' := by
  have e : ∀ a b : Str, (a == b) = decide (a = b) := fun a b => by
    by_cases h : a = b
    · subst h; simp
    · rw [decide_eq_false h]; exact beq_eq_false_iff_ne.mpr h
  cases x with
  | non => rw [r.non]; cases x' with
    | non => rw [r'.non]; rfl
    | bl _ => rw [r'.bl]; rfl
    | int _ => rw [r'.int]; rfl
    | str _ => rw [r'.str]; rfl
    | _ => simp [T.atom] at h'
  | bl _ => rw [r.bl]; cases x' with
    | non => rw [r'.non]; rfl
    | bl _ => rw [r'.bl]; simp [eqV, T.eqv]
    | int _ => rw [r'.int]; simp [eqV, T.eqv, b2]
    | str _ => rw [r'.str]; rfl
    | _ => simp [T.atom] at h'
  | int _ => rw [r.int]; cases x' with
    | non => rw [r'.non]; rfl
    | bl _ => rw [r'.bl]; simp [eqV, T.eqv, b2]
    | int _ => rw [r'.int]; simp [eqV, T.eqv]
    | str _ => rw [r'.str]; rfl
    | _ => simp [T.atom] at h'
  | str _ => rw [r.str]; cases x' with
    | non => rw [r'.non]; rfl
    | bl _ => rw [r'.bl]; rfl
    | int _ => rw [r'.int]; rfl
    | str _ => rw [r'.str]; simp [eqV, T.eqv, e]
    | _ => simp [T.atom] at h'
  | _ => simp [T.atom] at h
theorem inV_of (r : RepV G α H v x) (h : x.atom = true) : ∀ {vs : List V} {ts : List T}, RepL G α H vs ts → ts.all T.atom = true → inV v vs = ts.any fun y => y.eqv x
  | _, _, .nil, _ => rfl
  | _, _, .cons a b, h' => by
    rw [List.all_cons, Bool.and_eq_true] at h'
    have := inV_of r h b h'.2
    unfold inV at this ⊢
    rw [List.any_cons, List.any_cons, this, eqV_of (.inl a) r h'.1 h]
theorem any_toD (x : T) : ∀ ts : List T, ((toDs ts).any fun z => PyData.eqv z x.toD) = ts.any fun y => y.eqv x
  | [] => rfl
  | t :: ts => by
    simp only [toDs, List.any_cons, any_toD x ts, eqv_toD]
end
end MB

end -- MbSnd6
section -- MbSnd7
set_option Elab.async false
set_option linter.all false
set_option maxRecDepth 100000
set_option maxHeartbeats 2000000
/-! Comparisons: the operators' rule. -/
namespace MB
open PySem PySem.Spec L2 PySem.SeqAt

section
variable {X : Cx} {G : Gx} {N : List Str} {sc : Scope} {n : Nat}
theorem mem_snd (hu : X.A.units + 65 < cLine) (hK : X.K = G.K) {α : List Addr} {H : Hp} {pins : List (Addr × Obj)} {σ : L2.St} {s : Shared} {v w : V} {x : T} {ys : List T} {u u' : Value} {Q : VK} (I : Inv X pins σ H s) (rv : RelV v u) (rw' : RelV w u')
    {isL : Bool} {k : Bool} (hk : memT isL x ys = some k) (r1 : RepV G α H v x) {a : Addr} {vs : List V} (ew : w = .ref a) (hq : SqL X.K H a vs ∨ SqT X.K H a vs) (hL : isL = true → Rd H a (.lst vs)) (rl : RepL G α H vs ys) :
    (Q (.bl k) H → wpAny (model X.prog X.w) X.A (compareOp .In u u') (EP X pins σ Q) X.xe s) ∧ (Q (.bl (!k)) H → wpAny (model X.prog X.w) X.A (compareOp .NotIn u u') (EP X pins σ Q) X.xe s) := by
  unfold memT at hk
  split at hk
  · rename_i h
    cases hk
    rw [Bool.or_eq_true] at h
    by_cases hf : (x.atom && ys.all T.atom) = true
    · rw [Bool.and_eq_true] at hf
      have fv := flat_of r1 hf.1
      have fs := repL_flat rl hf.2
      have e := inV_of r1 hf.1 rl hf.2
      refine ⟨fun q => op_in_seq pins s σ H v w u u' Q I rv rw' ⟨a, vs, ew, hq, fv, fs, ?_⟩, fun q => op_notIn_seq pins s σ H v w u u' Q I rv rw' ⟨a, vs, ew, hq, fv, fs, ?_⟩⟩
      · rw [e]; exact q
      · rw [e]; exact q
    · rcases h with h | h
      · exact absurd h hf
      · rw [Bool.and_eq_true, Bool.and_eq_true] at h
        obtain ⟨⟨h1, h2⟩, h3⟩ := h
        obtain ⟨d1, c1, l1⟩ := dpV_of r1 h2
        obtain ⟨d2, c2, l2⟩ := dpAll_of (K := G.K) (dp_of 8) rl h3
        rw [← hK] at d1 d2
        have dl : Dp X.K H w (.list (toDs ys)) := by rw [ew]; exact .lst (.inl (hL h1)) d2
        have s1 : SeqAt.shaped x.toD = true := by
          unfold SeqAt.shaped
          rw [c1, Bool.true_and, decide_eq_true_eq]; omega
        have s2 : SeqAt.shaped (.list (toDs ys)) = true := by
          unfold SeqAt.shaped
          have e1 : PyData.canLay0 (.list (toDs ys)) = true := c2
          have e2 : PyData.depth (.list (toDs ys)) ≤ 64 := by
            simp only [PyData.depth]; omega
          rw [e1, Bool.true_and, decide_eq_true_eq]; exact e2
        refine ⟨fun q => op_inD hu pins s σ H v w u u' Q I rv rw' ⟨_, _, d1, dl, s1, s2, ?_⟩, fun q => op_notInD hu pins s σ H v w u u' Q I rv rw' ⟨_, _, d1, dl, s1, s2, ?_⟩⟩
        · rw [any_toD]; exact q
        · rw [any_toD]; exact q
  · cases hk
theorem op_cmp (op : COp) (hu : X.A.units + 65 < cLine) (hK : X.K = G.K) : OpR X (compareOp (copOf op)) (rCmp G op) := fun pins s σ H v w u u' Q I rv rw' q => by
  obtain ⟨α, x, y, k, r1, r2, hk, q⟩ := q
  cases op with
  | eq => exact (says_eqT I hK (by omega) r1 r2 rv rw' hk).1 _ _ _ _ ⟨.bl k, H, I, rfl, q⟩
  | ne =>
    have hk : (eqT x y).map (!·) = some k := hk
    obtain ⟨k', h1, h2⟩ := Option.map_eq_some_iff.mp hk
    subst h2
    exact (says_eqT I hK (by omega) r1 r2 rv rw' h1).2 _ _ _ _ ⟨.bl _, H, I, rfl, q⟩
  | lt =>
    cases x <;> cases y <;> first | cases hk | skip
    · exact op_lt pins s σ H v w u u' Q I rv rw' ⟨_, _, r1.int, r2.int, q⟩
    · exact op_lt_str pins s σ H v w u u' Q I rv rw' ⟨_, _, r1.str, r2.str, q⟩
  | le =>
    cases x <;> cases y <;> first | cases hk | skip
    · exact op_le pins s σ H v w u u' Q I rv rw' ⟨_, _, r1.int, r2.int, q⟩
    · exact op_le_str pins s σ H v w u u' Q I rv rw' ⟨_, _, r1.str, r2.str, q⟩
  | gt =>
    cases x <;> cases y <;> first | cases hk | skip
    · exact op_gt pins s σ H v w u u' Q I rv rw' ⟨_, _, r1.int, r2.int, q⟩
  | ge =>
    cases x <;> cases y <;> first | cases hk | skip
    · exact op_ge pins s σ H v w u u' Q I rv rw' ⟨_, _, r1.int, r2.int, q⟩
    · exact op_ge_str pins s σ H v w u u' Q I rv rw' ⟨_, _, r1.str, r2.str, q⟩
  | is =>
    cases y <;> first | (simp [cmpT] at hk; done) | skip
    refine op_isN pins s σ H v w u u' Q I rv rw' ⟨r2.non, ?_⟩
    have e : decide (v = .non) = k := by
      cases x with
      | non => rw [r1.non]; simp [cmpT] at hk; subst hk; simp
      | bl _ => rw [r1.bl]; simp [cmpT] at hk; subst hk; simp
      | int _ => rw [r1.int]; simp [cmpT] at hk; subst hk; simp
      | str _ => rw [r1.str]; simp [cmpT] at hk; subst hk; simp
      | _ =>
        have hv : ∃ a, v = .ref a := by
          rcases r1 with r | ⟨a, _, e, _⟩
          · cases r <;> exact ⟨_, rfl⟩
          · exact ⟨a, e⟩
        obtain ⟨a, rfl⟩ := hv
        simp [cmpT] at hk; subst hk; simp
    rw [e]; exact q
  | isnot =>
    cases y <;> first | (simp [cmpT] at hk; done) | skip
    refine op_notN pins s σ H v w u u' Q I rv rw' ⟨r2.non, ?_⟩
    have e : (!decide (v = .non)) = k := by
      cases x with
      | non => rw [r1.non]; simp [cmpT] at hk; subst hk; simp
      | bl _ => rw [r1.bl]; simp [cmpT] at hk; subst hk; simp
      | int _ => rw [r1.int]; simp [cmpT] at hk; subst hk; simp
      | str _ => rw [r1.str]; simp [cmpT] at hk; subst hk; simp
      | _ =>
        have hv : ∃ a, v = .ref a := by
          rcases r1 with r | ⟨a, _, e, _⟩
          · cases r <;> exact ⟨_, rfl⟩
          · exact ⟨a, e⟩
        obtain ⟨a, rfl⟩ := hv
        simp [cmpT] at hk; subst hk; simp
    rw [e]; exact q
  | inn =>
    cases y with
    | str b =>
      cases x with
      | str a => simp only [cmpT, Option.some.injEq] at hk; subst hk; exact op_in_str pins s σ H v w u u' Q I rv rw' ⟨_, _, r1.str, r2.str, q⟩
      | _ => simp [cmpT] at hk
    | lst ys =>
      obtain ⟨a, vs, ew, h, rl, z⟩ := r2.lst
      have hk : memT true x ys = some k := by cases x <;> exact hk
      exact (mem_snd hu hK I rv rw' hk r1 ew (.inl (.inl h)) (fun _ => h) rl).1 q
    | tup ys =>
      obtain ⟨a, vs, ew, h, rl⟩ := r2.tup
      have hk : memT false x ys = some k := by cases x <;> exact hk
      rw [← hK] at h
      exact (mem_snd hu hK I rv rw' hk r1 ew (.inr h) (fun z => by cases z) rl).1 q
    | ktup ys =>
      obtain ⟨a, vs, ew, h, rl⟩ := r2.ktup
      have hk : memT false x ys = some k := by cases x <;> exact hk
      rw [← hK] at h
      exact (mem_snd hu hK I rv rw' hk r1 ew (.inr h) (fun z => by cases z) rl).1 q
    | dct ts =>
      have hk : (if dform ts x then some (dhas ts x) else none) = some k := by cases x <;> exact hk
      split at hk
      · rename_i hf
        cases hk
        exact (dictIn (Q := EP X pins σ Q) (Q' := fun _ _ => True) I (by omega) r1 r2 rv rw' hf).1 fun s' I' => ⟨.bl _, H, I', rfl, q⟩
      · cases hk
    | _ => cases x <;> simp [cmpT] at hk
  | nin =>
    cases y with
    | str b =>
      cases x with
      | str a => simp only [cmpT, Option.some.injEq] at hk; subst hk; exact op_notin_str pins s σ H v w u u' Q I rv rw' ⟨_, _, r1.str, r2.str, q⟩
      | _ => simp [cmpT] at hk
    | lst ys =>
      obtain ⟨a, vs, ew, h, rl, z⟩ := r2.lst
      have hk : (memT true x ys).map (!·) = some k := by cases x <;> exact hk
      obtain ⟨k', h1, h2⟩ := Option.map_eq_some_iff.mp hk
      subst h2
      exact (mem_snd hu hK I rv rw' h1 r1 ew (.inl (.inl h)) (fun _ => h) rl).2 q
    | tup ys =>
      obtain ⟨a, vs, ew, h, rl⟩ := r2.tup
      have hk : (memT false x ys).map (!·) = some k := by cases x <;> exact hk
      obtain ⟨k', h1, h2⟩ := Option.map_eq_some_iff.mp hk
      subst h2
      rw [← hK] at h
      exact (mem_snd hu hK I rv rw' h1 r1 ew (.inr h) (fun z => by cases z) rl).2 q
    | ktup ys =>
      obtain ⟨a, vs, ew, h, rl⟩ := r2.ktup
      have hk : (memT false x ys).map (!·) = some k := by cases x <;> exact hk
      obtain ⟨k', h1, h2⟩ := Option.map_eq_some_iff.mp hk
      subst h2
      rw [← hK] at h
      exact (mem_snd hu hK I rv rw' h1 r1 ew (.inr h) (fun z => by cases z) rl).2 q
    | dct ts =>
      have hk : (if dform ts x then some (!dhas ts x) else none) = some k := by cases x <;> exact hk
      split at hk
      · rename_i hf
        cases hk
        exact (dictIn (Q := fun _ _ => True) (Q' := EP X pins σ Q) I (by omega) r1 r2 rv rw' hf).2 fun s' I' => ⟨.bl _, H, I', rfl, q⟩
      · cases hk
    | _ => cases x <;> simp [cmpT] at hk
/-! ### a comparison as a value, as a test -/
variable {A B D : Env → M T} {a b d : Expr} {pos : Pos}
def mCmp (op : COp) (A B : Env → M T) : Env → M T := fun ρ => M.bnd (A ρ) fun x => M.bnd (B ρ) fun y => M.bnd (M.view y) fun y => M.bnd (M.view x) fun x => M.opt ((cmpT op x y).map .bl)
theorem cmp_red (op : COp) {σ : L2.St} {H : Hp} {Q : VK} {α : List Addr} {S S' : Store} {ρ : Env} {t : T} (ok : SOk G α S H) (er : ERep G α H σ ρ) (hm : mCmp op A B ρ S = .ok t S')
    (hQ : ∀ α' H' k, t = .bl k → Step α H α' H' → SOk G α' S' H' → Q (.bl k) H') : tOp (rCmp G op) (tEvB G A) (tEvB G B) σ H Q := by
  obtain ⟨x, S1, hx, hm⟩ := bnd_ok.mp hm
  obtain ⟨y, S2, hy, hm⟩ := bnd_ok.mp hm
  obtain ⟨y', S3, hy', hm⟩ := bnd_ok.mp hm
  obtain ⟨x', S4, hx', hm⟩ := bnd_ok.mp hm
  obtain ⟨hz, rfl⟩ := opt_ok.mp hm
  cases hy'; cases hx'
  obtain ⟨k, hk, rfl⟩ := Option.map_eq_some_iff.mp hz
  exact ev2 ok er hx hy fun α2 H2 v w st ok2 r1 r2 => ⟨α2, _, _, k, r1.view ok2, r2.view ok2, hk, hQ α2 H2 k rfl st ok2⟩
theorem snd_cmp (op : COp) (c : CtxOk G N sc n X) (hu : X.A.units + 65 < cLine) (ha : PE X a (tEvB G A)) (hb : PE X b (tEvB G B)) (hm : behindInMarks (copOf op) b = false) : PE X (.Compare a [copOf op] [b] pos) (tEv G (mCmp op A B)) :=
  (pe_cmpR (op_cmp op hu c.K) ha hb hm).imp fun σ H Q ⟨α, S, ρ, t, S', ok, er, hm, hQ⟩ => cmp_red op ok er hm fun α' H' k e st ok' => by subst e; exact hQ α' H' _ st ok' (.bl k)
/-- what a test of a tree says -/
def mTru (m : Env → M T) : Env → M Bool := fun ρ => M.bnd (m ρ) fun x => M.tru x
theorem snt_cmp (op : COp) (c : CtxOk G N sc n X) (hu : X.A.units + 65 < cLine) (ha : PE X a (tEvB G A)) (hb : PE X b (tEvB G B)) (hm : behindInMarks (copOf op) b = false) : PT X (.Compare a [copOf op] [b] pos) (tTv G (mTru (mCmp op A B))) := by
  have h := pt_cmpR (pos := pos) (op_cmp op hu c.K) ha hb hm
  refine ⟨fun pins s σ H Q I q => h.run pins s σ H Q I ?_⟩
  obtain ⟨α, S, ρ, k, S', ok, er, hm, hQ⟩ := q
  obtain ⟨t, S1, hx, hm⟩ := bnd_ok.mp hm
  refine cmp_red op ok er hx fun α' H' k' e st ok' => ⟨k', rfl, ?_⟩
  subst e
  obtain ⟨e, rfl⟩ := opt_ok.mp (show (M.opt (truT S1 (.bl k'))) S1 = .ok k S' from hm)
  cases e
  exact hQ α' H' st ok'
end
end MB

end -- MbSnd7
section -- KA
set_option Elab.async false
set_option linter.all false
set_option maxRecDepth 100000
/-! The drawing defs of the law. -/
namespace Dr
open PySem L2
def topS (i : Nat) : Stmt := PySem.Challenge.pw_mergebooks_k03_kinds_and_sameness.main.body.getD i (.Pass ⟨0, 0, 0, 0⟩)
abbrev sBegun : Stmt := topS 19
abbrev sMixed : Stmt := topS 20
abbrev sTake : Stmt := topS 21
abbrev sPick : Stmt := topS 22
abbrev sWord : Stmt := topS 23
theorem scBegun : FnScope ["_law_script", "_law_large", "_law_cell"] ["_law_script"] (defScope sBegun) := ⟨rfl, rfl, rfl, by decide +kernel, rfl, by decide +kernel, by decide +kernel⟩
theorem scMixed : FnScope ["_law_state", "_law_found", "_law_prime", "_law_blend", "_law_cell"] ["_law_state"] (defScope sMixed) := ⟨rfl, rfl, rfl, by decide +kernel, rfl, by decide +kernel, by decide +kernel⟩
theorem scTake : FnScope ["_law_state", "_law_size", "_law_found"] ["_law_state", "_law_size"] (defScope sTake) := ⟨rfl, rfl, rfl, by decide +kernel, rfl, by decide +kernel, by decide +kernel⟩
theorem scPick : FnScope ["_law_state", "_law_some"] ["_law_state", "_law_some"] (defScope sPick) := ⟨rfl, rfl, rfl, by decide +kernel, rfl, by decide +kernel, by decide +kernel⟩
theorem scWord : FnScope ["_law_state", "_law_some", "_law_way", "_law_letters", "_law_k"] ["_law_state"] (defScope sWord) := ⟨rfl, rfl, rfl, by decide +kernel, rfl, by decide +kernel, by decide +kernel⟩

/-! ### the state -/
abbrev kLg : Key := .inr "large"
abbrev kCe : Key := .inr "cells"
abbrev kRe : Key := .inr "rest"
abbrev kTu : Key := .inr "turn"
def stD (L C : Addr) (r t : Int) : List (Key × V) := [(kLg, .ref L), (kCe, .ref C), (kRe, .int r), (kTu, .int t)]
structure StA (H : Hp) (a L C : Addr) (t : Int) : Prop where
  ob : ∃ r, H a = some (.dK (stD L C r t))
  lg : ∃ ns : List Int, H L = some (.lst (ns.map V.int)) ∧ ns.length ≤ 63
  cl : ∃ ns : List Int, H C = some (.lst (ns.map V.int)) ∧ ns.length ≤ 63
  t0 : 0 ≤ t
  ne : L ≠ C
theorem StA.aL {H : Hp} {a L C : Addr} {t : Int} (h : StA H a L C t) : a ≠ L := by
  obtain ⟨r, h1⟩ := h.ob
  obtain ⟨ns, h2, _⟩ := h.lg
  exact ne_of h1 h2 (by intro z; cases z)
theorem StA.aC {H : Hp} {a L C : Addr} {t : Int} (h : StA H a L C t) : a ≠ C := by
  obtain ⟨r, h1⟩ := h.ob
  obtain ⟨ns, h2, _⟩ := h.cl
  exact ne_of h1 h2 (by intro z; cases z)
/-- what else stood stands as it stood -/
def Keep (a L : Addr) (H H' : Hp) : Prop := ∀ b o, H b = some o → b ≠ a → b ≠ L → H' b = some o
theorem Keep.rfl' {a L : Addr} {H : Hp} : Keep a L H H := fun _ _ h _ _ => h
theorem Keep.trans {a L : Addr} {H H1 H2 : Hp} (x : Keep a L H H1) (y : Keep a L H1 H2) : Keep a L H H2 := fun b o h n1 n2 => y b o (x b o h n1 n2) n1 n2
theorem Keep.same {a L : Addr} {H H' : Hp} (x : Same H H') : Keep a L H H' := fun b o h _ _ => x b o h
theorem StA.same {H H' : Hp} {a L C : Addr} {t : Int} (h : StA H a L C t) (x : Same H H') : StA H' a L C t := by
  obtain ⟨⟨r, h1⟩, ⟨ns, h2, h7⟩, ⟨ms, h3, h4⟩, h5, h6⟩ := h
  exact ⟨⟨r, x _ _ h1⟩, ⟨ns, x _ _ h2, h7⟩, ⟨ms, x _ _ h3, h4⟩, h5, h6⟩
theorem same_upd {H : Hp} {p : Addr} {o : HO} (h : H p = none) : Same H (upd H p o) := fun b x e => by
  rw [upd_ne (ne_of_none e h)]
  exact e
theorem vLg {L C : Addr} {r t : Int} : valV (stD L C r t) kLg = some (.ref L) := by simp [stD, valV]
theorem vCe {L C : Addr} {r t : Int} : valV (stD L C r t) kCe = some (.ref C) := by
  simp [stD, valV, kLg, kCe, show ¬ (("large" : Str) = "cells") by decide +kernel]
theorem vRe {L C : Addr} {r t : Int} : valV (stD L C r t) kRe = some (.int r) := by
  simp [stD, valV, kLg, kCe, kRe, show ¬ (("large" : Str) = "rest") by decide +kernel, show ¬ (("cells" : Str) = "rest") by decide +kernel]
theorem vTu {L C : Addr} {r t : Int} : valV (stD L C r t) kTu = some (.int t) := by
  simp [stD, valV, kLg, kCe, kRe, kTu, show ¬ (("large" : Str) = "turn") by decide +kernel, show ¬ (("cells" : Str) = "turn") by decide +kernel, show ¬ (("rest" : Str) = "turn") by decide +kernel]
theorem pRe {L C : Addr} {r t r' : Int} : putK (stD L C r t) kRe (.int r') = stD L C r' t := by
  simp [stD, putK, kLg, kCe, kRe, kTu, show ¬ (("large" : Str) = "rest") by decide +kernel, show ¬ (("cells" : Str) = "rest") by decide +kernel, show ¬ (("turn" : Str) = "rest") by decide +kernel]
theorem pTu {L C : Addr} {r t t' : Int} : putK (stD L C r t) kTu (.int t') = stD L C r t' := by
  simp [stD, putK, kLg, kCe, kRe, kTu, show ¬ (("large" : Str) = "turn") by decide +kernel, show ¬ (("cells" : Str) = "turn") by decide +kernel, show ¬ (("rest" : Str) = "turn") by decide +kernel]

/-! ### the promises -/
def spBegun (K : PySem.W.Frag) : Sp := fun vs H Q _ => ∃ (b : Addr) (ns : List Int), vs = [.ref b] ∧ SqL K H b (ns.map V.int) ∧ ns.length ≤ 63 ∧
  ∀ a L C H', StA H' a L C 0 → Same H H' → H a = none → H L = none → H C = none → Q (.ref a) H'
def spMixed : Sp := fun vs H Q _ => ∃ (a L C : Addr) (t : Int), vs = [.ref a] ∧ StA H a L C t ∧ t < 2 ^ 40 ∧
  ∀ (i : Int) H', StA H' a L C (t + 1) → (∀ b o, H b = some o → b ≠ a → H' b = some o) → Q (.int i) H'
def spTake : Sp := fun vs H Q _ => ∃ (a L C : Addr) (t n : Int), vs = [.ref a, .int n] ∧ StA H a L C t ∧ t < 2 ^ 40 ∧ 0 < n ∧ n < 1073741824 ∧
  ∀ (i : Int) H' t', 0 ≤ i → i < n → StA H' a L C t' → t ≤ t' → t' ≤ t + 1 → Keep a L H H' → Q (.int i) H'
structure Tx (mg : Str → Option Value) : Prop where
  int : mg "int" = none
  list : mg "list" = none
  len : mg "len" = none
  range : mg "range" = none
theorem dgS {H : Hp} {a : Addr} {kvs : List (Key × V)} {k : Key} {v : V} (e : H a = some (.dK kvs)) (h : valV kvs k = some v) : DGet H a (kV k) (some v) := h ▸ DGet.k e
section
variable {P : Program} {w : World} {K : PySem.W.Frag} {mg : Str → Option Value} {base : Heap}
theorem ok_mixed {f : Addr} {fd : FuncData} (F : Fun K "_law_mixed" "_law_mixed" sMixed f fd) (T : Tx mg) : FnOk P w K mg base CX0 1 f fd ["_law_state"] spMixed := by
  refine F.ok scMixed (fun vs H Q E h => ?_) (fun cdv A outer s H vs Q E hr h => ?_)
  · obtain ⟨a, L, C, t, rfl, _⟩ := h
    rfl
  · obtain ⟨a, L, C, t, rfl, S, ht, k⟩ := h
    have hu := hu_of hr
    obtain ⟨⟨r, h1⟩, ⟨lg, h2, h7⟩, ⟨cs, h3, h4⟩, h5, h6⟩ := id S
    refine ⟨_, pss_cons (ps_dput hu (pv 0) pe_str (pe_op op_add (pe_dget hu (pv 0) pe_str (fun _ _ => rfl)) pe_int) rfl)
      (pss_cons (ps_set (i := 1) scMixed.nd rfl (.inl rfl) pe_int)
      (pss_cons (ps_for PassesOwn.never rfl (pi_list (pe_lst (pa_cons pe_int (pa_cons pe_int (pa_cons pe_int (pa_cons pe_int (pa_cons pe_int (pa_cons pe_int pa_nil)))))))) (pg_name (i := 2) scMixed.nd rfl (.inl rfl))
        (pss_cons (ps_set (i := 3) scMixed.nd rfl (.inl rfl) (pe_op op_add (pe_op op_mul pe_int (pe_dget hu (pv 0) pe_str (fun _ _ => rfl))) (pe_op op_fdiv (pv 2) pe_int)))
        (pss_cons (ps_for PassesOwn.never rfl (pi_list (pe_dget hu (pv 0) pe_str (fun _ _ => rfl))) (pg_name (i := 4) scMixed.nd rfl (.inl rfl))
          (pss_one (ps_set (i := 3) scMixed.nd rfl (.inl rfl) (pe_op op_mod (pe_callTy call_int1 rfl T.int (by decide +kernel) (pa_cons (pe_op op_add (pe_op op_mul (pv 3) pe_int) (pv 4)) pa_nil)) (pv 2)))))
        (pss_one (ps_set (i := 1) scMixed.nd rfl (.inl rfl) (pe_op op_add (pe_op op_mul (pv 1) pe_int) (pe_op op_mod (pe_callTy call_int1 rfl T.int (by decide +kernel) (pa_cons (pe_op op_pow (pv 3) pe_int) pa_nil)) (pv 2))))))))
      (pss_one (ps_ret (pv 1))))), ?_⟩
    have n0 : 4 < sizeLine := by decide +kernel
    refine ⟨_, rfl, a, .int t, rfl, dgS (k := kTu) h1 vTu, _, _, rfl, rfl, _, rfl, a, _, rfl, DPut.k (k := kTu) h1 n0, ?_⟩
    rw [pTu]
    have hC1 : ∀ o, (upd H a o) C = some (.lst (cs.map V.int)) := fun o => by rw [upd_ne S.aC.symm]; exact h3
    have hL1 : ∀ o, (upd H a o) L = some (.lst (lg.map V.int)) := fun o => by rw [upd_ne S.aL.symm]; exact h2
    have g1 : (upd H a (.dK (stD L C r (t + 1)))) a = some (.dK (stD L C r (t + 1))) := upd_same
    generalize hH1 : upd H a (.dK (stD L C r (t + 1))) = H1 at *
    have kp1 : ∀ b o, H b = some o → b ≠ a → H1 b = some o := fun b o e n => by rw [← hH1, upd_ne n]; exact e
    have hC2 : H1 C = some (.lst (cs.map V.int)) := by rw [← hH1]; exact hC1 _
    have hL2 : H1 L = some (.lst (lg.map V.int)) := by rw [← hH1]; exact hL1 _
    refine ⟨by decide +kernel, fun p np => ⟨p, rfl, ⟨_, .inl (.inl upd_same)⟩, ?_⟩⟩
    have sm : Same H1 (upd H1 p (.lst [V.int 2147483629, V.int 2147483587, V.int 2147483579, V.int 2147483563, V.int 2147483549, V.int 2147483543])) := same_upd np
    refine for_list (K := K) (a := p) (xs := [V.int 2147483629, V.int 2147483587, V.int 2147483579, V.int 2147483563, V.int 2147483549, V.int 2147483543]) (fun i σ H2 => ∃ (fo : Int) (v2 v3 v4 : Option V), σ = [some (.ref a), some (.int fo), v2, v3, v4] ∧ H2 = upd H1 p (.lst [V.int 2147483629, V.int 2147483587, V.int 2147483579, V.int 2147483563, V.int 2147483549, V.int 2147483543]))
      ⟨0, none, none, none, rfl, rfl⟩ (fun i σ H2 _ ⟨_, _, _, _, _, e⟩ => by rw [e]; exact .inl (.inl upd_same)) ?_ ?_
    · rintro i x σ H2 hi ⟨fo, v2, v3, v4, rfl, rfl⟩
      obtain ⟨p0, rfl, q1, q2⟩ : ∃ p0 : Int, x = .int p0 ∧ 0 < p0 ∧ p0 < 2147483648 := by
        match i, hi with
        | 0, h => cases h; exact ⟨_, rfl, by decide, by decide⟩
        | 1, h => cases h; exact ⟨_, rfl, by decide, by decide⟩
        | 2, h => cases h; exact ⟨_, rfl, by decide, by decide⟩
        | 3, h => cases h; exact ⟨_, rfl, by decide, by decide⟩
        | 4, h => cases h; exact ⟨_, rfl, by decide, by decide⟩
        | 5, h => cases h; exact ⟨_, rfl, by decide, by decide⟩
        | n + 6, h => cases h
      generalize hl : upd H1 p (.lst [V.int 2147483629, V.int 2147483587, V.int 2147483579, V.int 2147483563, V.int 2147483549, V.int 2147483543]) = H2 at *
      have g2 := sm _ _ g1
      refine ⟨_, rfl, a, .int (t + 1), rfl, dgS (k := kTu) g2 vTu, _, _, rfl, rfl, .inl ⟨by decide, by decide⟩, _, rfl, _, _, rfl, rfl, ⟨by decide, by decide⟩, _, _, rfl, rfl, ?_⟩
      refine ⟨_, rfl, a, .ref C, rfl, dgS (k := kCe) g2 vCe, C, rfl, ⟨_, .inl (.inl (sm _ _ hC2))⟩, ?_⟩
      refine for_list (K := K) (a := C) (xs := cs.map V.int) (fun j σ H3 => ∃ (bl : Int) (v4 : Option V), σ = [some (.ref a), some (.int fo), some (.int p0), some (.int bl), v4] ∧ H3 = H2 ∧ bl.natAbs < 2 ^ 64)
        ⟨_, v4, rfl, rfl, ?_⟩ (fun j σ H3 _ ⟨_, _, _, e, _⟩ => by rw [e]; exact .inl (.inl (sm _ _ hC2))) ?_ ?_
      · show (104729 * (t + 1) + p0 / 7).natAbs < 2 ^ 64
        omega
      · rintro j y σ H3 hj ⟨bl, v4, rfl, rfl, hb⟩
        obtain ⟨z, rfl⟩ : ∃ z, y = V.int z := by
          rw [List.getElem?_map] at hj
          cases e : cs[j]? with
          | none => rw [e] at hj; cases hj
          | some z => rw [e] at hj; exact ⟨z, (Option.some.inj hj).symm⟩
        refine ⟨_, rfl, _, _, rfl, rfl, .inr ⟨by decide, by decide⟩, _, rfl, _, _, rfl, rfl, .inl ⟨_, rfl, _, rfl, _, _, rfl, rfl, q1, ?_⟩⟩
        refine ⟨_, _, rfl, rfl, ?_⟩
        have h1 := Int.emod_nonneg (bl * 48271 + z) (show p0 ≠ 0 by omega)
        have h2 := Int.emod_lt_of_pos (bl * 48271 + z) q1
        show ((bl * 48271 + z) % p0).natAbs < 2 ^ 64
        omega
      · rintro σ H3 ⟨bl, v4, rfl, rfl, hb⟩
        refine ⟨_, rfl, _, _, rfl, rfl, .inr ⟨by decide, by decide⟩, _, rfl, _, _, rfl, rfl, ⟨by decide, by decide, hb⟩, .inl ⟨_, rfl, _, rfl, _, _, rfl, rfl, q1, _, _, rfl, rfl, ?_⟩⟩
        exact ⟨_, _, _, _, rfl, rfl⟩
    · rintro σ H2 ⟨fo, v2, v3, v4, rfl, rfl⟩
      refine ⟨_, rfl, k fo _ ⟨⟨r, sm _ _ g1⟩, ⟨lg, sm _ _ hL2, h7⟩, ⟨cs, sm _ _ hC2, h4⟩, by omega, h6⟩ fun b o e n => sm _ _ (kp1 b o e n)⟩
end
end Dr

end -- KA
section -- KB
set_option Elab.async false
set_option linter.all false
set_option maxRecDepth 100000
namespace Dr
open PySem L2
section
variable {P : Program} {w : World} {K : PySem.W.Frag} {mg : Str → Option Value} {base : Heap}
/-- a def that stands at the module's name -/
structure At (K : PySem.W.Frag) (mg : Str → Option Value) (x : Str) (st : Stmt) (ps : List Str) (f : Addr) (fd : FuncData) : Prop where
  fn : Fun K x x st f fd
  m : mg x = some (.ref f)
  b : Binds K fd ps []
def gx (P : Program) (w : World) (K : PySem.W.Frag) (mg : Str → Option Value) (base : Heap) : MB.Gx := ⟨P, w, K, mg, base, fun _ => 0, []⟩
theorem hu65 {k : Nat} {A : Around} (r : Room k A) : A.units + 65 < cLine := by have := r.un; omega
theorem repInts {G : MB.Gx} {α : List Addr} {H : Hp} : ∀ ns : List Int, MB.RepL G α H (ns.map V.int) (ns.map MB.T.int)
  | [] => .nil
  | i :: r => .cons (.int i) (repInts r)
theorem repVInts {G : MB.Gx} {α : List Addr} {H : Hp} {a : Addr} {ns : List Int} (h : H a = some (.lst (ns.map V.int))) (hl : ns.length ≤ 1000) : MB.RepV G α H (.ref a) (.lst (ns.map MB.T.int)) :=
  .inr ⟨a, _, rfl, h, trivial, .lst (by rw [List.length_map]; exact Nat.le_of_lt (small1000 hl)) (repInts ns)⟩
theorem repVNil {G : MB.Gx} {α : List Addr} {H : Hp} {a : Addr} (h : H a = some (.lst [])) : MB.RepV G α H (.ref a) (.lst []) :=
  repVInts (ns := []) h (by decide)
theorem neNil (xs : List MB.T) : MB.cmpT .ne (.lst xs) (.lst []) = some (!xs.isEmpty) := by
  cases xs with
  | nil => simp [MB.cmpT, MB.eqT, MB.T.atom, MB.T.pl, MB.T.eqv, MB.eqvs]
  | cons x r => simp [MB.cmpT, MB.eqT, MB.T.atom]
theorem eqNil (xs : List MB.T) : MB.cmpT .eq (.lst xs) (.lst []) = some xs.isEmpty := by
  cases xs with
  | nil => simp [MB.cmpT, MB.eqT, MB.T.atom, MB.T.pl, MB.T.eqv, MB.eqvs]
  | cons x r => simp [MB.cmpT, MB.eqT, MB.T.atom]
theorem eraseMap (ns : List Int) (k : Nat) : (ns.map V.int).eraseIdx k = (ns.eraseIdx k).map V.int := by
  induction ns generalizing k with
  | nil => rfl
  | cons x r ih => cases k with
    | zero => rfl
    | succ k => simp [ih]
theorem ok_take {f fm : Addr} {fd fdm : FuncData} (F : Fun K "_law_take" "_law_take" sTake f fd) (T : Tx mg) (M : At K mg "_law_mixed" sMixed ["_law_state"] fm fdm) : FnOk P w K mg base CX0 2 f fd ["_law_state", "_law_size"] spTake := by
  have GM : FnOk P w K mg base CX0 1 fm fdm ["_law_state"] spMixed := ok_mixed M.fn T
  refine F.ok scTake (fun vs H Q E h => ?_) (fun cdv A outer s H vs Q E hr h => ?_)
  · obtain ⟨a, L, C, t, n, rfl, _⟩ := h
    rfl
  · obtain ⟨a, L, C, t, n, rfl, S, ht, hn0, hn1, k⟩ := h
    have hu := hu_of hr
    have hu5 := hu65 hr
    obtain ⟨⟨r, h1⟩, ⟨lg, h2, h7⟩, ⟨cs, h3, h4⟩, h5, h6⟩ := id S
    refine ⟨_, pss_cons (ps_if (pt_cmpR op_eq (pe_dget hu (pv 0) pe_str (fun _ _ => rfl)) pe_int (nomark _))
        (pss_one (ps_dput hu (pv 0) pe_str (pe_ifExp (pt_cmpR (MB.op_cmp (G := gx P w K mg base) .ne hu5 rfl) (pe_dget hu (pv 0) pe_str (fun _ _ => rfl)) (pe_lst pa_nil) (nomark _))
          (pe_bm PySem.F.plainAttrs_list PySem.F.slot_list_pop PySem.F.type_list_pop mt_popAt (pe_dget hu (pv 0) pe_str (fun _ _ => rfl)) (pa_cons pe_int pa_nil))
          (pe_call GM hr rfl M.m M.fn.kp M.b .nil pass0 (pa_cons (pv 0) pa_nil))) rfl)) pss_nil)
      (pss_cons (ps_set (i := 2) scTake.nd rfl (.inl rfl) (pe_op op_mod (pe_callTy call_int1 rfl T.int (by decide +kernel) (pa_cons (pe_dget hu (pv 0) pe_str (fun _ _ => rfl)) pa_nil)) (pv 1)))
      (pss_cons (ps_dput hu (pv 0) pe_str (pe_op op_fdiv (pe_dget hu (pv 0) pe_str (fun _ _ => rfl)) (pv 1)) rfl)
      (pss_one (ps_ret (pv 2))))), ?_⟩
    have n0 : 4 < sizeLine := by decide +kernel
    -- what comes behind the test
    have tail : ∀ (H1 : Hp) (t' : Int), StA H1 a L C t' → t ≤ t' → t' ≤ t + 1 → Keep a L H H1 → ∃ r' : Int, H1 a = some (.dK (stD L C r' t')) ∧ ∀ i, 0 ≤ i → i < n → Q (.int i) (upd H1 a (.dK (stD L C (r' / n) t'))) := by
      intro H1 t' S1 e1 e2 kp
      obtain ⟨⟨r', g1⟩, ⟨lg', g2, g7⟩, ⟨cs', g3, g4⟩, g5, g6⟩ := id S1
      refine ⟨r', g1, fun i i0 i1 => k i _ t' i0 i1 ⟨⟨_, upd_same⟩, ⟨lg', by rw [upd_ne S1.aL.symm]; exact g2, g7⟩, ⟨cs', by rw [upd_ne S1.aC.symm]; exact g3, g4⟩, g5, g6⟩ e1 e2 fun b o e n1 n2 => ?_⟩
      rw [upd_ne n1]
      exact kp b o e n1 n2
    have fin : ∀ (H1 : Hp) (t' : Int), StA H1 a L C t' → t ≤ t' → t' ≤ t + 1 → Keep a L H H1 → (∃ r' : Int, H1 a = some (.dK (stD L C r' t')) ∧ Q (.int (r' % n)) (upd H1 a (.dK (stD L C (r' / n) t')))) := by
      intro H1 t' S1 e1 e2 kp
      obtain ⟨r', g, q⟩ := tail H1 t' S1 e1 e2 kp
      exact ⟨r', g, q _ (Int.emod_nonneg _ (by omega)) (Int.emod_lt_of_pos _ hn0)⟩
    refine ⟨_, rfl, a, .int r, rfl, dgS (k := kRe) h1 vRe, rfl, _, rfl, ite2 (fun _ => ?_) (fun _ => ?_)⟩
    · -- rest == 0
      refine ⟨_, rfl, a, .ref L, rfl, dgS (k := kLg) h1 vLg, Nat.zero_le _, fun p np => ⟨[], .lst (lg.map MB.T.int), .lst [], _, repVInts (by rw [upd_ne (ne_of_none h2 np)]; exact h2) (by omega), repVNil upd_same, neNil _, _, rfl, ite2 (fun hb => ?_) (fun hb => ?_)⟩⟩
      · have sp := same_upd (o := .lst []) np
        obtain ⟨x, lg', rfl⟩ : ∃ x lg', lg = x :: lg' := by
          cases lg with
          | nil => exact absurd hb (by decide)
          | cons x r => exact ⟨x, r, rfl⟩
        have S1 := S.same sp
        refine ⟨_, rfl, a, .ref L, rfl, dgS (k := kLg) (sp _ _ h1) vLg, .inl ⟨rfl, _, .inl (.inl (sp _ _ h2))⟩, L, _, 0, 0, .int x, rfl, rfl, sp _ _ h2, by decide, by decide, by simp [seqIndex?], rfl, ?_⟩
        have n1 : (upd H p (.lst [])) L = some (.lst ((x :: lg').map V.int)) := sp _ _ h2
        have g1 : (upd (upd H p (.lst [])) L (.lst (((x :: lg').map V.int).eraseIdx 0))) a = some (.dK (stD L C r t)) := by rw [upd_ne S.aL]; exact sp _ _ h1
        refine ⟨_, rfl, a, _, rfl, DPut.k (k := kRe) g1 n0, ?_⟩
        rw [pRe]
        obtain ⟨r', g, q⟩ := fin (upd (upd (upd H p (.lst [])) L (.lst (((x :: lg').map V.int).eraseIdx 0))) a (.dK (stD L C x t))) t ⟨⟨_, upd_same⟩, ⟨lg', by rw [upd_ne S.aL.symm, upd_same, eraseMap]; rfl, by simp only [List.length_cons] at h7; omega⟩, ⟨cs, by rw [upd_ne S.aC.symm, upd_ne h6.symm]; exact sp _ _ h3, h4⟩, h5, h6⟩ (by omega) (by omega) (fun b o e m1 m2 => by rw [upd_ne m1, upd_ne m2]; exact sp _ _ e)
        exact ⟨_, rfl, a, .int r', rfl, dgS (k := kRe) g vRe, .inl ⟨_, rfl, _, rfl, _, _, rfl, rfl, hn0, _, rfl, a, .int r', rfl, dgS (k := kRe) g vRe, _, rfl, _, _, rfl, rfl, ⟨hn0, hn1⟩, _, rfl, a, _, rfl, DPut.k (k := kRe) g n0, _, rfl, by rw [pRe]; exact q⟩⟩
      · have sp := same_upd (o := .lst []) np
        refine ⟨_, rfl, a, L, C, t, rfl, S.same sp, ht, fun i H1 S1 kp => ?_⟩
        obtain ⟨⟨r1, g1⟩, ⟨lg1, g2, g7⟩, ⟨cs1, g3, g4⟩, g5, g6⟩ := id S1
        refine ⟨_, rfl, a, _, rfl, DPut.k (k := kRe) g1 n0, ?_⟩
        rw [pRe]
        obtain ⟨r', g, q⟩ := fin (upd H1 a (.dK (stD L C i (t + 1)))) (t + 1) ⟨⟨_, upd_same⟩, ⟨lg1, by rw [upd_ne S.aL.symm]; exact g2, g7⟩, ⟨cs1, by rw [upd_ne S.aC.symm]; exact g3, g4⟩, g5, g6⟩ (by omega) (by omega) (fun b o e m1 m2 => by rw [upd_ne m1]; exact kp _ _ (sp _ _ e) m1)
        exact ⟨_, rfl, a, .int r', rfl, dgS (k := kRe) g vRe, .inl ⟨_, rfl, _, rfl, _, _, rfl, rfl, hn0, _, rfl, a, .int r', rfl, dgS (k := kRe) g vRe, _, rfl, _, _, rfl, rfl, ⟨hn0, hn1⟩, _, rfl, a, _, rfl, DPut.k (k := kRe) g n0, _, rfl, by rw [pRe]; exact q⟩⟩
    · obtain ⟨r', g, q⟩ := fin H t S (by omega) (by omega) .rfl'
      exact ⟨_, rfl, a, .int r', rfl, dgS (k := kRe) g vRe, .inl ⟨_, rfl, _, rfl, _, _, rfl, rfl, hn0, _, rfl, a, .int r', rfl, dgS (k := kRe) g vRe, _, rfl, _, _, rfl, rfl, ⟨hn0, hn1⟩, _, rfl, a, _, rfl, DPut.k (k := kRe) g n0, _, rfl, by rw [pRe]; exact q⟩⟩
end
end Dr

end -- KB
section -- KC
set_option Elab.async false
set_option linter.all false
set_option maxRecDepth 100000
namespace Dr
open PySem L2
section
variable {P : Program} {w : World} {K : PySem.W.Frag} {mg : Str → Option Value} {base : Heap}
def spPick : Sp := fun vs H Q _ => ∃ (a L C b : Addr) (t : Int) (xs : List V), vs = [.ref a, .ref b] ∧ StA H a L C t ∧ t < 2 ^ 40 ∧ Rd H b (.lst xs) ∧ b ≠ L ∧ b ≠ a ∧ 0 < xs.length ∧ xs.length ≤ 1000 ∧
  ∀ x H' t', x ∈ xs → StA H' a L C t' → t ≤ t' → t' ≤ t + 1 → Keep a L H H' → Q x H'
theorem Keep.rd {a L b : Addr} {H H' : Hp} {u : HO} (k : Keep a L H H') (h : Rd H b u) (n1 : b ≠ a) (n2 : b ≠ L) : Rd H' b u := by
  rcases h with h | ⟨o, h⟩
  · exact .inl (k _ _ h n1 n2)
  · exact .inr ⟨o, k _ _ h n1 n2⟩
theorem StA.upd {H : Hp} {a L C D : Addr} {t : Int} {o : HO} (h : StA H a L C t) (n1 : D ≠ a) (n2 : D ≠ L) (n3 : D ≠ C) : StA (upd H D o) a L C t := by
  obtain ⟨⟨r, h1⟩, ⟨ns, h2, h7⟩, ⟨ms, h3, h4⟩, h5, h6⟩ := h
  exact ⟨⟨r, by rw [upd_ne n1.symm]; exact h1⟩, ⟨ns, by rw [upd_ne n2.symm]; exact h2, h7⟩, ⟨ms, by rw [upd_ne n3.symm]; exact h3, h4⟩, h5, h6⟩
theorem ok_pick {f ft fm : Addr} {fd fdt fdm : FuncData} (F : Fun K "_law_pick" "_law_pick" sPick f fd) (T : Tx mg) (TK : At K mg "_law_take" sTake ["_law_state", "_law_size"] ft fdt) (M : At K mg "_law_mixed" sMixed ["_law_state"] fm fdm) :
    FnOk P w K mg base CX0 3 f fd ["_law_state", "_law_some"] spPick := by
  have GT : FnOk P w K mg base CX0 2 ft fdt ["_law_state", "_law_size"] spTake := ok_take TK.fn T M
  refine F.ok scPick (fun vs H Q E h => ?_) (fun cdv A outer s H vs Q E hr h => ?_)
  · obtain ⟨a, L, C, b, t, xs, rfl, _⟩ := h
    rfl
  · obtain ⟨a, L, C, b, t, xs, rfl, S, ht, hb, nL, na, l0, l1, k⟩ := h
    refine ⟨_, pss_one (ps_ret (pe_ix ix_list (pv 1) (pe_call GT hr rfl TK.m TK.fn.kp TK.b .nil pass0 (pa_cons (pv 0) (pa_cons (pe_callB call_len_seq (by rfl) T.len PySem.boot_len (pa_cons (pv 1) pa_nil)) pa_nil))) (fun _ _ => rfl))), ?_⟩
    refine ⟨_, rfl, _, rfl, _, rfl, b, xs, rfl, .inl (.inl hb), a, L, C, t, _, rfl, S, ht, by omega, by omega, fun i H' t' i0 i1 S' e1 e2 kp => ?_⟩
    obtain ⟨j, rfl⟩ := Int.eq_ofNat_of_zero_le i0
    have hj : j < xs.length := by omega
    exact ⟨b, xs, j, xs[j], rfl, rfl, .inl (kp.rd hb na nL), atI_nat (List.getElem?_eq_getElem hj), k _ _ t' (List.getElem_mem hj) S' e1 e2 kp⟩
/-- a word: one to eight letters -/
def wdB (x : Str) : Bool := decide (1 ≤ x.cps.toList.length) && decide (x.cps.toList.length ≤ 8) && x.cps.toList.all fun c => decide (97 ≤ c) && decide (c ≤ 122)
abbrev big1 : Str := "missing null plain list dict mark any left right drop joined ahead within into onto"
abbrev big2 : Str := " frame mode others true false a b c x"
abbrev abc : Str := "abcdefghijklmnopqrstuvwxyz"
def wds : List Str := Txt.split (big1 ++ big2) " "
theorem wds_len : wds.length = 24 := by decide +kernel
theorem wds_all : ∀ x ∈ wds, wdB x = true := by
  have h : wds.all wdB = true := by decide +kernel
  exact List.all_eq_true.mp h
theorem abc_all : ∀ c ∈ abc.cps.toList, 97 ≤ c ∧ c ≤ 122 := by
  have h : abc.cps.toList.all (fun c => decide (97 ≤ c) && decide (c ≤ 122)) = true := by decide +kernel
  intro c hc
  have := List.all_eq_true.mp h c hc
  simpa using this
theorem joinOne (cs : List Nat) : (Txt.join "" (cs.map fun c => (⟨#[c]⟩ : Str))).cps.toList = cs := by
  have h : ∀ cs : List Nat, TL.joinL [] (cs.map fun c => [c]) = cs := by
    intro cs
    induction cs with
    | nil => rfl
    | cons c r ih => cases r with
      | nil => rfl
      | cons d r =>
        show [c] ++ ([] ++ TL.joinL [] (([d] : List Nat) :: r.map fun c => [c])) = c :: d :: r
        have e : TL.joinL [] (([d] : List Nat) :: r.map fun c => [c]) = d :: r := ih
        rw [e]
        rfl
  have e := TL.tl_join "" (cs.map fun c => (⟨#[c]⟩ : Str))
  rw [← TL.join_eq] at e
  have e2 : (cs.map fun c => (⟨#[c]⟩ : Str)).map TL.tl = cs.map fun c => [c] := by rw [List.map_map]; rfl
  rw [e2] at e
  exact e.trans (h cs)
def spWord : Sp := fun vs H Q _ => ∃ (a L C : Addr) (t : Int), vs = [.ref a] ∧ StA H a L C t ∧ t < 2 ^ 39 ∧
  ∀ x H' t', wdB x = true → StA H' a L C t' → t ≤ t' → t' ≤ t + 10 → Keep a L H H' → Q (.str x) H'
theorem ok_word {f ft fm : Addr} {fd fdt fdm : FuncData} (F : Fun K "_law_word" "_law_word" sWord f fd) (T : Tx mg) (TK : At K mg "_law_take" sTake ["_law_state", "_law_size"] ft fdt) (M : At K mg "_law_mixed" sMixed ["_law_state"] fm fdm) :
    FnOk P w K mg base CX0 3 f fd ["_law_state"] spWord := by
  have GT : FnOk P w K mg base CX0 2 ft fdt ["_law_state", "_law_size"] spTake := ok_take TK.fn T M
  refine F.ok scWord (fun vs H Q E h => ?_) (fun cdv A outer s H vs Q E hr h => ?_)
  · obtain ⟨a, L, C, t, rfl, _⟩ := h
    rfl
  · obtain ⟨a, L, C, t, rfl, S, ht, k⟩ := h
    refine ⟨_, pss_cons (ps_set (i := 1) scWord.nd rfl (.inl rfl) pe_str)
      (pss_cons (ps_set (i := 1) scWord.nd rfl (.inl rfl) (pe_split (pe_op op_add_str (pv 1) pe_str) pe_str))
      (pss_cons (ps_set (i := 2) scWord.nd rfl (.inl rfl) (pe_call GT hr rfl TK.m TK.fn.kp TK.b .nil pass0 (pa_cons (pv 0) (pa_cons pe_int pa_nil))))
      (pss_cons (ps_if (pt_cmpR op_lt (pv 2) (pe_callB call_len_seq (by rfl) T.len PySem.boot_len (pa_cons (pv 1) pa_nil)) (nomark _)) (pss_one (ps_ret (pe_ix ix_list (pv 1) (pv 2) (fun _ _ => rfl)))) pss_nil)
      (pss_cons (ps_set (i := 3) scWord.nd rfl (.inr rfl) pe_str)
      (pss_one (ps_ret (pe_join pe_str (pe_lc (own := [("_law_k", 4)]) (g := gName 4) (tt := tYes) rfl scWord.nd
        (pi_range1 rfl T.range (pa_cons (pe_op op_add pe_int (pe_call GT hr rfl TK.m TK.fn.kp TK.b .nil pass0 (pa_cons (pv 0) (pa_cons pe_int pa_nil)))) pa_nil))
        (blkOk_by (N := ["_law_state", "_law_some", "_law_way", "_law_letters", "_law_k"]) (sc := defScope sWord) (by decide +kernel)) (fun _ _ _ _ _ => pg_name (i := 4) scWord.nd rfl (.inl rfl)) (fun _ _ _ _ _ => pts_nil)
        (fun _ _ _ _ _ => pe_ix ix_str (pv 3) (pe_call GT hr rfl TK.m TK.fn.kp TK.b .nil pass0 (pa_cons (pv 0) (pa_cons pe_int pa_nil))) (fun _ _ => rfl)))))))))), ?_⟩
    refine ⟨_, rfl, _, _, rfl, rfl, by decide +kernel, ⟨_, rfl⟩, _, _, rfl, rfl, by decide +kernel, by decide +kernel, fun p np => ?_⟩
    have sp : Same H (upd H p (.lst (wds.map V.str))) := same_upd np
    have hp : (upd H p (.lst (wds.map V.str))) p = some (.lst (wds.map V.str)) := upd_same
    have npa : p ≠ a := by
      obtain ⟨r, h1⟩ := S.ob
      exact (ne_of_none h1 np).symm
    have npL : p ≠ L := by
      obtain ⟨r, h1, _⟩ := S.lg
      exact (ne_of_none h1 np).symm
    have lw : (wds.map V.str).length = 24 := by rw [List.length_map]; exact wds_len
    refine ⟨_, rfl, a, L, C, t, _, rfl, S.same sp, by omega, by decide, by decide, fun w H2 t2 w0 w1 S2 e1 e2 kp2 => ?_⟩
    have hp2 : H2 p = some (.lst (wds.map V.str)) := kp2 _ _ hp npa npL
    have kpA : Keep a L H H2 := (Keep.same sp).trans kp2
    refine ⟨_, rfl, _, rfl, p, _, rfl, .inl (.inl (.inl hp2)), _, _, rfl, rfl, _, rfl, ite2 (fun hb => ?_) (fun hb => ?_)⟩
    · have hb' := of_decide_eq_true hb
      rw [lw] at hb'
      obtain ⟨j, rfl⟩ := Int.eq_ofNat_of_zero_le w0
      have hj : j < wds.length := by rw [wds_len]; omega
      exact ⟨_, rfl, _, rfl, p, _, j, .str wds[j], rfl, rfl, .inl (.inl hp2), atI_nat (by rw [List.getElem?_map, List.getElem?_eq_getElem hj]; rfl), k _ H2 t2 (wds_all _ (List.getElem_mem hj)) S2 e1 (by omega) kpA⟩
    · refine ⟨⟨_, rfl⟩, _, rfl, a, L, C, t2, _, rfl, S2, by omega, by decide, by decide, fun m H3 t3 m0 m1 S3 e3 e4 kp3 => ?_⟩
      refine ⟨_, _, rfl, rfl, _, rfl, by omega, by omega, fun D nD => ?_⟩
      have nDa : D ≠ a := by
        obtain ⟨r, h1⟩ := S3.ob
        exact (ne_of_none h1 nD).symm
      have nDC : D ≠ C := by
        obtain ⟨r, h1, _⟩ := S3.cl
        exact (ne_of_none h1 nD).symm
      have nDL : D ≠ L := by
        obtain ⟨r, h1, _⟩ := S3.lg
        exact (ne_of_none h1 nD).symm
      refine lc_it walk_range (fun i H4 => ∃ (t4 : Int) (cs : List Nat), StA H4 a L C t4 ∧ t3 ≤ t4 ∧ t4 ≤ t3 + i ∧ Keep a L H3 H4 ∧ H4 D = some (.lst (cs.map fun c => V.str ⟨#[c]⟩)) ∧ cs.length = i ∧ ∀ c ∈ cs, 97 ≤ c ∧ c ≤ 122)
        ⟨t3, [], S3.same (same_upd nD), by omega, by omega, Keep.same (same_upd nD), upd_same, rfl, by simp⟩ (fun _ _ _ _ => trivial) ?_ ?_
      · rintro i x H4 H5 hi ⟨t4, cs, S4, e5, e6, kp4, hD, hl, hc⟩ ⟨rfl, rfl⟩
        have hi8 : i < 8 := by omega
        refine ⟨rfl, _, rfl, _, rfl, a, L, C, t4, _, rfl, S4, by omega, by decide, by decide, fun q H6 t6 q0 q1 S6 e7 e8 kp6 => ?_⟩
        obtain ⟨j, rfl⟩ := Int.eq_ofNat_of_zero_le q0
        have hj : j < abc.cps.toList.length := by
          have : abc.cps.toList.length = 26 := by decide +kernel
          omega
        have hD6 := kp6 _ _ hD nDa nDL
        have es : List.map (fun c => V.str ⟨#[c]⟩) cs ++ [V.str ⟨#[abc.cps.toList[j]]⟩] = List.map (fun c => V.str ⟨#[c]⟩) (cs ++ [abc.cps.toList[j]]) := by simp
        refine ⟨_, _, _, rfl, rfl, by decide +kernel, atI_nat (List.getElem?_eq_getElem hj), _, hD6, ?_, ?_⟩
        · rw [List.length_map, hl]
          exact small1000 (by omega)
        · refine ⟨t6, cs ++ [abc.cps.toList[j]], S6.upd nDa nDL nDC, by omega, by omega, fun b o e n1 n2 => ?_, by rw [upd_same, es], by simp [hl], fun c hc' => ?_⟩
          · rw [upd_ne (ne_of_none e nD)]
            exact kp6 _ _ (kp4 _ _ e n1 n2) n1 n2
          · rcases List.mem_append.mp hc' with h | h
            · exact hc c h
            · rw [List.mem_singleton.mp h]
              exact abc_all _ (List.getElem_mem hj)
      · rintro H4 ⟨t4, cs, S4, e5, e6, kp4, hD, hl, hc⟩
        have e8 : cs.length ≤ 8 := by omega
        have e1' : 1 ≤ cs.length := by omega
        have em : List.map (fun c => V.str ⟨#[c]⟩) cs = (cs.map fun c => (⟨#[c]⟩ : Str)).map V.str := by simp
        refine ⟨"", D, cs.map fun c => (⟨#[c]⟩ : Str), rfl, rfl, .inl (.inl (.inl (by rw [hD, em]))), ?_, ?_⟩
        · have : ((cs.map fun c => (⟨#[c]⟩ : Str)).map (·.length)).sum = cs.length := by
            rw [List.map_map]
            clear hD hl hc e8 e1' em
            induction cs with
            | nil => rfl
            | cons c r ih => rw [List.map_cons, List.sum_cons, ih, List.length_cons]; show 1 + r.length = _; omega
          rw [this, List.length_map]
          show cs.length + cs.length * 0 ≤ _
          omega
        · refine k _ H4 t4 ?_ S4 (by omega) (by omega) (kpA.trans (kp3.trans kp4))
          unfold wdB
          rw [joinOne]
          simp only [Bool.and_eq_true, decide_eq_true_eq, List.all_eq_true]
          exact ⟨⟨e1', e8⟩, hc⟩
end
end Dr

end -- KC
section -- KD
set_option Elab.async false
set_option linter.all false
set_option maxRecDepth 100000
namespace Dr
open PySem L2
section
variable {P : Program} {w : World} {K : PySem.W.Frag} {mg : Str → Option Value} {base : Heap}
theorem ok_begun {f : Addr} {fd : FuncData} (F : Fun K "_law_begun" "_law_begun" sBegun f fd) (T : Tx mg) : FnOk P w K mg base CX0 1 f fd ["_law_script"] (spBegun K) := by
  refine F.ok scBegun (fun vs H Q E h => ?_) (fun cdv A outer s H vs Q E hr h => ?_)
  · obtain ⟨b, ns, rfl, _⟩ := h
    rfl
  · obtain ⟨b, ns, rfl, hb, hl, k⟩ := h
    refine ⟨_, pss_cons (ps_setLc (i := 1) (own := [("_law_cell", 2)]) (g := gName 2) rfl scBegun.nd rfl rfl (sw_true rfl rfl rfl (by decide +kernel)) (pi_list (pv 0))
        (blkOk_by (N := ["_law_script", "_law_large", "_law_cell"]) (sc := defScope sBegun) (by decide +kernel)) (fun _ _ _ _ _ => pg_name (i := 2) scBegun.nd rfl (.inl rfl))
        (fun _ _ _ _ _ => pts_one (pt_cmpR op_ge (pv 2) (pe_op op_pow pe_int pe_int) (nomark _))) (fun _ _ _ _ _ => pe_op op_sub (pv 2) (pe_op op_pow pe_int pe_int)))
      (pss_one (ps_ret (pe_disp (pps_cons pe_str (pv 1) (pps_cons pe_str (pe_callTy call_list_of (by rfl) T.list (by decide +kernel) (pa_cons (pv 0) pa_nil)) (pps_cons pe_str pe_int (pps_cons pe_str pe_int pps_nil)))) rfl rfl (by simp) (by decide)))), ?_⟩
    refine ⟨_, rfl, b, rfl, ⟨_, hb⟩, fun D nD => ?_⟩
    have sD : ∀ o, Same H (upd H D o) := fun o => same_upd nD
    refine lc_it (walk_list (K := K) (a := b) (xs := ns.map V.int)) (fun i H4 => ∃ (cs : List Int), Same H H4 ∧ H4 D = some (.lst (cs.map V.int)) ∧ cs.length ≤ i)
        ⟨[], sD _, upd_same, by simp⟩ (fun i H4 _ ⟨_, s4, _⟩ => s4.seq hb) ?_ ?_
    · rintro i x H4 H5 hi ⟨cs, s4, hD, hl4⟩ ⟨rfl, hx⟩
      obtain ⟨z, rfl⟩ : ∃ z, x = V.int z := by
        rw [List.getElem?_map] at hx
        cases e : ns[i]? with
        | none => rw [e] at hx; cases hx
        | some z => rw [e] at hx; exact ⟨z, (Option.some.inj hx).symm⟩
      rw [List.length_map] at hi
      refine ⟨rfl, _, rfl, _, _, rfl, rfl, ⟨by decide, by decide, by decide⟩, _, _, rfl, rfl, _, rfl, ite2 (fun hq => ?_) (fun hq => ?_)⟩
      · refine ⟨_, rfl, _, _, rfl, rfl, ⟨by decide, by decide, by decide⟩, _, _, rfl, rfl, _, hD, ?_, ?_⟩
        · rw [List.length_map]
          exact small1000 (by omega)
        · refine ⟨cs ++ [_], fun c o e => ?_, by rw [upd_same, List.map_append]; rfl, by simp; omega⟩
          rw [upd_ne (ne_of_none e nD)]
          exact s4 _ _ e
      · exact ⟨cs, s4, hD, by omega⟩
    · rintro H4 ⟨cs, s4, hD, hl4⟩
      rw [List.length_map] at hl4
      intro p np
      have s5 := same_upd (o := .dK []) np
      refine ⟨_, rfl, _, rfl, b, _, rfl, .inl (s5.seq (s4.seq hb)), fun l nl => ⟨?_, [(kLg, .ref D), (kCe, .ref l), (kRe, .int 0), (kTu, .int 0)], rfl, (by show 4 ≤ 15; decide), ?_⟩⟩
      · rw [upd_ne (ne_of_none upd_same nl)]
        exact upd_same
      · have npl : p ≠ l := ne_of_none upd_same nl
        have nDp : D ≠ p := ne_of_none hD np
        have nDl : D ≠ l := ne_of_none (s5 _ _ hD) nl
        have e : mergeK [] [(kLg, V.ref D), (kCe, .ref l), (kRe, .int 0), (kTu, .int 0)] = stD D l 0 0 := by
          simp [mergeK, putK, stD, kLg, kCe, kRe, kTu, show ¬ (("large" : Str) = "cells") by decide +kernel, show ¬ (("large" : Str) = "rest") by decide +kernel, show ¬ (("cells" : Str) = "rest") by decide +kernel,
            show ¬ (("large" : Str) = "turn") by decide +kernel, show ¬ (("cells" : Str) = "turn") by decide +kernel, show ¬ (("rest" : Str) = "turn") by decide +kernel]
        rw [e]
        have sA : Same H (upd (upd (upd H4 p (.dK [])) l (.lst (ns.map V.int))) p (.dK (stD D l 0 0))) := fun c o h => by
          have h4 := s4 _ _ h
          rw [upd_ne (ne_of_none h4 np)]
          exact same_upd nl _ _ (s5 _ _ h4)
        have fr : ∀ c, (upd (upd (upd H4 p (.dK [])) l (.lst (ns.map V.int))) p (.dK (stD D l 0 0))) c = none → H c = none := fun c h => sA.free h
        refine k p D l _ ⟨⟨0, upd_same⟩, ⟨cs, ?_, by omega⟩, ⟨ns, ?_, hl⟩, by decide, nDl⟩ sA (s4.free np) nD (s4.free (s5.free nl))
        · rw [upd_ne nDp, upd_ne nDl, upd_ne nDp]
          exact hD
        · rw [upd_ne npl.symm, upd_same]
end
end Dr

end -- KD
section -- W0
set_option Elab.async false
set_option linter.all false
set_option maxRecDepth 100000
set_option maxHeartbeats 2000000
/-! Keys and values as they are walked; texts in order. -/
namespace MB
open PySem PySem.Spec L2
section
variable {prog : Program} {w : World} {A : Around} {E : Value → Shared → Prop} {s : Shared} {r d : Addr} {n : Nat} {P : Nat → Value → Prop} {OK : Heap → Prop} {T : String}
/-- the items of a dict (of a view of one), collected -/
theorem collectSrc {Q : List Value → Shared → Prop} (K : PySem.W.KdlSrc prog w T r d n P OK) (hh : A.handled = none) (hok : OK s.heap) (hn : n ≤ sizeLine)
    (hQ : ∀ (h' : Heap) (tk : Nat) (acc : Array Value), (∀ b o, s.heap.get? b = some o → h'.get? b = some o) → ItemsOf P acc n → Q acc.toList { s with heap := h', toks := tk }) : wpAny (model prog w) A (collect (.ref r)) Q E s := by
  have lt := K.there _ hok
  have new : (s.heap.push { cls := .type "list", data := .seq #[] }).get? s.heap.objs.size = some { cls := .type "list", data := .seq #[] } := Heap.get?_push_size _ rfl
  unfold collect
  refine wpAny_bind (wpAny_runValue (codeAny_builtin F.entry_proto_collect ?_))
  rw [Around.under_plainId F.plain_proto_collect _]
  show wpAny _ A.in1 (newList [] >>= fun l => again (.builtin "list.__iadd__" ⟨[l, .ref r], []⟩)) _ _ s
  refine wpAny_bind (wpAny_newObj_type (wpAny_pure ⟨plainId_quiet F.plain_list_iadd _, codeAny_builtin F.entry_list_iadd ?_⟩))
  rw [Around.under_plainId F.plain_list_iadd _]
  show wpAny _ A.in1 (Builtin.List.listExtendWith (.ref s.heap.objs.size) (.ref r) (.ref s.heap.objs.size)) _ _ _
  have fin : ∀ (r : Result) (s' : Shared), (∃ (h' : Heap) (tk : Nat) (acc : Array Value) (c' : Nat), r = .ok (.ret (.ref s.heap.objs.size)) ∧ s' = { s with heap := h', toks := tk } ∧ (∀ b o, s.heap.get? b = some o → h'.get? b = some o) ∧
      h'.get? s.heap.objs.size = some { cls := .type "list", dict := none, data := .seq acc c', slots := #[] } ∧ ItemsOf P acc n) →
      (match r with
        | .ok (.ret v) => wpAny (model prog w) A (match v with
          | .ref a => do
            match (← load a).data with
            | .seq xs _ => pure xs.toList
            | _ => unsupported "internal:collect"
          | _ => unsupported "internal:collect") Q E s'
        | .ok _ => False
        | .error e => E e s') := fun r s' ⟨h', tk, acc, c', er, es, hk, hS, hacc⟩ => by
    subst er es
    exact wpAny_bind (wpAny_load hS (wpAny_pure (hQ h' tk acc hk hacc)))
  refine wpAny_mono (PySem.W.kdl_extend (s := { s with heap := s.heap.push { cls := .type "list", data := .seq #[] } })
    (R := fun r s' => ∃ (h' : Heap) (tk : Nat) (acc : Array Value) (c' : Nat), r = .ok (.ret (.ref s.heap.objs.size)) ∧ s' = { s with heap := h', toks := tk } ∧ (∀ b o, s.heap.get? b = some o → h'.get? b = some o) ∧
      h'.get? s.heap.objs.size = some { cls := .type "list", dict := none, data := .seq acc c', slots := #[] } ∧ ItemsOf P acc n)
    K hh (K.keep _ _ hok fun b _ o e => Heap.get?_push_of_some _ e) _ (Nat.ne_of_gt lt.1) (Nat.ne_of_gt lt.2) (.ref s.heap.objs.size) 0 new
    (fun h' tk acc c' hk hS hacc => ⟨h', tk, acc, c', rfl, rfl, fun b o e => hk b o (Nat.ne_of_lt (Heap.lt_size e)) (Heap.get?_push_of_some _ e), hS, hacc⟩) hn) (fun f s' h => ?_) (fun e s' h => ?_)
  · cases f with
    | done f => exact fin _ _ h
    | again c' => exact ⟨h.1, codeAny_mono h.2 fun r s' h => fin r s' h⟩
  · obtain ⟨_, _, _, _, er, _⟩ := h
    cases er
end
section
variable {X : Cx} {pins : List (Addr × Obj)} {σ : L2.St} {H : Hp} {s : Shared} {a : Addr} {E : Value → Shared → Prop}
/-- the keys, as they are collected -/
theorem keysVals {kvs : List (Key × V)} {vs : List (Key × Value)} (rel : KV kvs vs) {acc : Array Value} {prog : Program} {w : World}
    (h : ItemsOf (fun i v => ∃ k x, vs[i]? = some (k, x) ∧ (mixKind prog w).is k v = true) acc vs.length) : Vals (kvs.map fun p => kV p.1) acc.toList := by
  have hl := rel.length
  refine vals_of_at ?_ fun j x u h1 h2 => ?_
  · have e1 : acc.toList.length = acc.size := by simp
    rw [List.length_map, e1, h.1, hl]
  · obtain ⟨k, y, e1, e2⟩ := h.2 j u (by rw [← Array.getElem?_toList]; exact h2)
    have e3 : (kvs.map (·.1))[j]? = some k := by rw [rel.keys, List.getElem?_map, e1]; rfl
    rw [List.getElem?_map] at h1 e3
    cases q : kvs[j]? with
    | none => rw [q] at h1; cases h1
    | some p =>
      rw [q] at h1 e3
      cases h1
      cases e3
      exact keyIs_rel e2
theorem valsVals {kvs : List (Key × V)} {vs : List (Key × Value)} (rel : KV kvs vs) {acc : Array Value} (h : ItemsOf (fun i v => ∃ k, vs[i]? = some (k, v)) acc vs.length) : Vals (kvs.map (·.2)) acc.toList := by
  have hl := rel.length
  refine vals_of_at ?_ fun j x u h1 h2 => ?_
  · have e1 : acc.toList.length = acc.size := by simp
    rw [List.length_map, e1, h.1, hl]
  · obtain ⟨k, e1⟩ := h.2 j u (by rw [← Array.getElem?_toList]; exact h2)
    rw [List.getElem?_map] at h1
    cases q : kvs[j]? with
    | none => rw [q] at h1; cases h1
    | some p =>
      rw [q] at h1
      cases h1
      obtain ⟨k', v'⟩ := p
      obtain ⟨u', e2, r2⟩ := kv_get rel q
      rw [e1] at e2
      cases e2
      exact r2
theorem collectKeys {kvs : List (Key × V)} {Q : List Value → Shared → Prop} (I : Inv X pins σ H s) (hc : X.calm = true) (h : Rd H a (.dK kvs)) (hQ : ∀ us s', Inv X pins σ H s' → Vals (kvs.map fun p => kV p.1) us → Q us s') :
    wpAny (model X.prog X.w) X.A (collect (.ref a)) Q E s := by
  obtain ⟨z, lo, vs, rel, dd⟩ := dk_rd I.hok h
  obtain ⟨ep, hat⟩ := dd.dictAt
  exact collectSrc (PySem.W.kdl_dict (knd := mixKind X.prog X.w) (kvs := vs) (ep := ep) lo) (I.ok.hd hc) hat (by rw [← rel.length]; exact z) fun h' tk acc hk hacc => hQ _ _ (I.kept (t' := tk) hk) (keysVals rel hacc)
/-- *d in an argument list, d a dict -/
theorem starKeys {kvs : List (Key × V)} {Q : List Value → Shared → Prop} (I : Inv X pins σ H s) (hc : X.calm = true) (h : Rd H a (.dK kvs)) (hQ : ∀ us s', Inv X pins σ H s' → Vals (kvs.map fun p => kV p.1) us → Q us s') :
    PySem.W.StarOf (model X.prog X.w) X.A E (.ref a) Q s := by
  obtain ⟨z, lo, vs, rel, dd⟩ := dk_rd I.hok h
  unfold PySem.W.StarOf notIterableAtAll
  exact wpAny_bind (wpAny_specialOf dd.typeIs PySem.F.slot_dict_iter.lookup (wpAny_pure ⟨rfl, collectKeys I hc h hQ⟩))
variable {G : Gx} {α : List Addr}
theorem rep_kV {k : Key} {t : T} (h : t.key = some k) : Rep G α H (kV k) t := by
  cases t with
  | int i => cases h; exact .int i
  | str x => cases h; exact .str x
  | _ => cases h
theorem repD_ks : ∀ {kvs : List (Key × V)} {ts : List (T × T)}, RepD G α H kvs ts → RepL G α H (kvs.map fun q => kV q.1) (ts.map (·.1))
  | _, _, .nil => .nil
  | _, _, .cons h _ b => .cons (rep_kV h) (repD_ks b)
theorem repD_vs : ∀ {kvs : List (Key × V)} {ts : List (T × T)}, RepD G α H kvs ts → RepL G α H (kvs.map (·.2)) (ts.map (·.2))
  | _, _, .nil => .nil
  | _, _, .cons _ a b => .cons a (repD_vs b)
/-- a dict all of whose keys are ints or texts -/
theorem RepV.dctA {v : V} {ts : List (T × T)} (r : RepV G α H v (.dct ts)) (hf : (ts.all fun q => q.1.key.isSome) = true) : ∃ a kvs, v = .ref a ∧ Rd H a (.dK kvs) ∧ RepD G α H kvs ts ∧ kvs.length ≤ sizeLine := by
  obtain ⟨a, e, hd⟩ := r.dct
  rcases hd with ⟨kvs, h, rd, z⟩ | ⟨kvs, h, rd, z, ne⟩ | ⟨o, u, ks, vs, h, _, od, hk, _⟩
  · exact ⟨a, kvs, e, h, rd, z⟩
  · exfalso
    cases rd with
    | nil => exact ne rfl
    | cons hk a b =>
      have := List.all_eq_true.mp hf _ (List.mem_cons_self ..)
      simp [T.key] at this
  · exfalso
    obtain ⟨p, hp, e⟩ := List.any_eq_true.mp hk
    have := List.all_eq_true.mp hf p hp
    unfold T.tk at e
    cases q : p.1 with
    | int i => rw [q] at e; cases e
    | str i => rw [q] at e; cases e
    | _ => rw [q] at this; cases this
end
section
variable {G : Gx} {α : List Addr} {H : Hp}
/-! ### texts in order -/
theorem leS_iff (x y : Str) : leS x y = true ↔ ¬ y.cps.toList < x.cps.toList := by
  unfold leS
  rw [PyProof.Rows.ltCps_eq]
  simp
theorem leS_trans (x y z : Str) (h1 : leS x y = true) (h2 : leS y z = true) : leS x z = true := by
  rw [leS_iff] at *
  rw [List.not_lt] at *
  exact List.le_trans h1 h2
theorem leS_total (x y : Str) : (leS x y || leS y x) = true := by
  rw [Bool.or_eq_true, leS_iff, leS_iff, List.not_lt, List.not_lt]
  exact List.le_total _ _
theorem str_ext {x y : Str} (h : x.cps.toList = y.cps.toList) : x = y := by
  cases x; cases y
  simp at h
  rw [h]
theorem leS_anti (x y : Str) (h1 : leS x y = true) (h2 : leS y x = true) : x = y := by
  rw [leS_iff, List.not_lt] at *
  exact str_ext (List.le_antisymm h1 h2)
theorem rising_pw : ∀ (l : List Str) (p : Str), PyProof.Rows.risingS p l = true → (p :: l).Pairwise fun x y => leS x y = true
  | [], p, _ => by simp
  | x :: r, p, h => by
    have h : (!ltCps x.cps.toList p.cps.toList && PyProof.Rows.risingS x r) = true := h
    rw [Bool.and_eq_true] at h
    have ih := rising_pw r x h.2
    rw [List.pairwise_cons]
    refine ⟨fun y hy => ?_, ih⟩
    rcases List.mem_cons.mp hy with rfl | hy
    · exact h.1
    · exact leS_trans p x y h.1 ((List.pairwise_cons.mp ih).1 y hy)
theorem sortS_eq {ys xs : List Str} (hp : ys.Perm xs) (hs : PyProof.Rows.sortedS ys = true) : ys = sortS xs := by
  have pw : ys.Pairwise fun x y => leS x y = true := by
    cases ys with
    | nil => exact .nil
    | cons x r => exact rising_pw r x hs
  exact PySem.W.Srt.the_of_perm leS leS_trans leS_total leS_anti hp pw
section
variable {X : Cx} {G : Gx} {N : List Str} {sc : Scope} {n : Nat} {α : List Addr} {S : Store} {H : Hp} {A B : Env → M T} {a b : Expr} {p pos : Pos}
theorem vals1' {v : V} {vs : List V} {us : List Value} (e : vs = [v]) (r : Vals vs us) : ∃ u, us = [u] ∧ RelV v u := by
  subst e; exact vals1 r
theorem repL_strs : ∀ {ts : List T} {l : List Str} {vs : List V}, strsT ts = some l → RepL G α H vs ts → vs = l.map V.str
  | [], _, _, h, .nil => by cases h; rfl
  | t :: ts, l, _, h, .cons (v := v0) a b => by
    cases t with
    | str x =>
      obtain ⟨l', h1, h2⟩ := Option.map_eq_some_iff.mp (show (strsT ts).map (x :: ·) = some l from h)
      subst h2
      rw [repL_strs h1 b, (RepV.of a).str]
      rfl
    | _ => cases h
theorem repL_bools : ∀ {ts : List T} {l : List Bool} {vs : List V}, boolsT ts = some l → RepL G α H vs ts → vs = l.map V.bl
  | [], _, _, h, .nil => by cases h; rfl
  | t :: ts, l, _, h, .cons (v := v0) a b => by
    cases t with
    | bl x =>
      obtain ⟨l', h1, h2⟩ := Option.map_eq_some_iff.mp (show (boolsT ts).map (x :: ·) = some l from h)
      subst h2
      rw [repL_bools h1 b, (RepV.of a).bl]
      rfl
    | _ => cases h
theorem strs_repL : ∀ l : List Str, RepL G α H (l.map V.str) (l.map T.str)
  | [] => .nil
  | x :: l => .cons (.str x) (strs_repL l)
theorem strs_keys : ∀ {kvs : List (Key × V)} {ts : List (T × T)} {l : List Str}, RepD G α H kvs ts → strsT (ts.map (·.1)) = some l → kvs.map (·.1) = l.map Sum.inr
  | _, _, _, .nil, h => by cases h; rfl
  | _, _, l, .cons (tk := tk) (ts := ts) hk _ b, h => by
    cases tk with
    | str x =>
      obtain ⟨l', h1, h2⟩ := Option.map_eq_some_iff.mp (show (strsT (ts.map (·.1))).map (x :: ·) = some l from h)
      subst h2
      cases hk
      simp only [List.map_cons]
      rw [strs_keys b h1]
    | _ => cases h
theorem strs_allkeys : ∀ {ts : List (T × T)} {l : List Str}, strsT (ts.map (·.1)) = some l → (ts.all fun q => q.1.key.isSome) = true
  | [], _, _ => rfl
  | (k, t) :: ts, l, hl => by
    cases k with
    | str x =>
      obtain ⟨l', h1, h2⟩ := Option.map_eq_some_iff.mp (show (strsT (ts.map (·.1))).map (x :: ·) = some l from hl)
      rw [List.all_cons, strs_allkeys h1]
      rfl
    | _ => cases hl

end
end
end MB

end -- W0
section -- W1
set_option Elab.async false
set_option linter.all false
set_option maxRecDepth 100000
set_option maxHeartbeats 1000000
/-! What a def asks, over trees: a wish's way back; the state of draws is one opaque thing with a budget. -/
namespace Wp
open PySem PySem.Spec L2
abbrev T := MB.T
abbrev Env := MB.Env
/-- from the draws left and what is wanted of the answer -/
abbrev M (α : Type) := Nat → (α → Nat → Prop) → Prop
def ret {α : Type} (a : α) : M α := fun b R => R a b
def bnd {α β : Type} (x : M α) (f : α → M β) : M β := fun b R => x b fun a b' => f a b' R
def opt {α : Type} (o : Option α) : M α := fun b R => ∃ a, o = some a ∧ R a b
def nev {α : Type} : M α := fun _ _ => False

structure Gs where
  g : MB.Gx
  a : Addr
  L : Addr
  C : Addr
abbrev Gs.al (G : Gs) : List Addr := [G.a, G.L, G.C]
/-- neither a code table nor a code object -/
def Nt (u : HO) : Prop := (∀ ps, u ≠ .tbl ps) ∧ ∀ φ, u ≠ .ext φ
def St (G : Gs) (b : Nat) (H : Hp) : Prop := (∃ t : Int, Dr.StA H G.a G.L G.C t ∧ t + b ≤ 2 ^ 38) ∧ LamX.Tabs G.g.tt H
/-- code tables may grow -/
def Stp (G : Gs) (H H' : Hp) : Prop := ∀ b o, H b = some o → b ≠ G.a → b ≠ G.L → (∀ ps, o ≠ .tbl ps) → H' b = some o
theorem Stp.at {G : Gs} {H H' : Hp} (k : Stp G H H') {b : Addr} {o : HO} (e : H b = some o) (n1 : b ≠ G.a) (n2 : b ≠ G.L) (m : ∀ ps, o ≠ .tbl ps) : H' b = some o := k b o e n1 n2 m
/-- nothing stands at p but a table, perhaps -/
def N0 (H0 : Hp) (p : Addr) : Prop := ∀ u, H0 p = some u → ∃ ps, u = .tbl ps
theorem Stp.trans {G : Gs} {H H1 H2 : Hp} (x : Stp G H H1) (y : Stp G H1 H2) : Stp G H H2 := fun b o h n1 n2 m => y b o (x b o h n1 n2 m) n1 n2 m
theorem Stp.of {G : Gs} {H H1 : Hp} (x : Dr.Keep G.a G.L H H1) : Stp G H H1 := fun b o h n1 n2 _ => x b o h n1 n2
theorem nt_con {g : MB.Gx} {α : List Addr} {H : Hp} {u : HO} {t : T} (c : MB.Con g α H u t) : Nt u := by cases c <;> exact ⟨fun _ z => (nomatch z), fun _ z => (nomatch z)⟩
theorem nt_l {vs : List V} : Nt (.lst vs) := ⟨fun _ z => (nomatch z), fun _ z => (nomatch z)⟩
theorem nt_d {vs : List (Key × V)} : Nt (.dK vs) := ⟨fun _ z => (nomatch z), fun _ z => (nomatch z)⟩
theorem nt1 {H : Hp} {D : Addr} {u : HO} (h : H D = some u) (n : Nt u) : ∀ w, H D = some w → Nt w := fun w e => by rw [h] at e; cases e; exact n
theorem nt0 {H : Hp} {D : Addr} (h : H D = none) : ∀ w, H D = some w → Nt w := fun w e => by rw [h] at e; cases e
theorem tabs_keep {T : List (Addr × Str)} {H H' : Hp} (t : LamX.Tabs T H) (k : ∀ b o, H b = some o → ¬ Nt o → H' b = some o) : LamX.Tabs T H' := fun p hp => by
  obtain ⟨ps, h1, h2, h3⟩ := t p hp
  refine ⟨ps, k _ _ h1 (fun z => z.1 _ rfl), h2, fun pos cv hc => ?_⟩
  obtain ⟨c, e1, e2⟩ := h3 pos cv hc
  exact ⟨c, e1, k _ _ e2 (fun z => z.2 _ rfl)⟩
abbrev Rp (G : Gs) (H : Hp) (v : V) (t : T) : Prop := MB.Rep G.g G.al H v t
abbrev RpL (G : Gs) (H : Hp) (vs : List V) (ts : List T) : Prop := MB.RepL G.g G.al H vs ts
/-- read alone: shut, or one's own container -/
def RB (G : Gs) (H : Hp) (v : V) (t : T) : Prop := Rp G H v t ∨ ∃ p u, v = .ref p ∧ p ∉ G.al ∧ H p = some u ∧ Mut (some u) ∧ MB.Con G.g G.al H u t
/-- what a new container is -/
abbrev Ou (G : Gs) (H H' : Hp) (v : V) (t : T) : Prop := MB.Out G.g G.al H G.al H' v t
section
variable {G : Gs} {b b' : Nat} {H H' H2 : Hp} {v : V} {t : T} {α β : Type}
theorem St.mut (S : St G b H) {p : Addr} (h : p ∈ G.al) : ∃ u, H p = some u ∧ Mut (some u) := by
  obtain ⟨⟨t, ⟨⟨r, h1⟩, ⟨ns, h2, _⟩, ⟨ms, h3, _⟩, _, _⟩, _⟩, _⟩ := S
  simp only [Gs.al, List.mem_cons, List.mem_nil_iff, or_false] at h
  rcases h with rfl | rfl | rfl
  · exact ⟨_, h1, trivial⟩
  · exact ⟨_, h2, trivial⟩
  · exact ⟨_, h3, trivial⟩
theorem St.new (S : St G b H) {p : Addr} (h : H p = none) : p ∉ G.al := fun z => by
  obtain ⟨u, e, _⟩ := S.mut z
  rw [h] at e; cases e
theorem Stp.stay (k : Stp G H H') (S : St G b H) : MB.Stay H H' := by
  have n : ∀ p u, H p = some u → ¬ Mut (some u) → p ≠ G.a ∧ p ≠ G.L := fun p u e m => by
    constructor
    all_goals intro z; subst z
    · obtain ⟨u', e', m'⟩ := S.mut (p := G.a) (by simp)
      rw [e] at e'; cases e'; exact m m'
    · obtain ⟨u', e', m'⟩ := S.mut (p := G.L) (by simp)
      rw [e] at e'; cases e'; exact m m'
  exact ⟨fun p o u e => k.at e (n _ _ e fun z => z).1 (n _ _ e fun z => z).2 (fun _ z => nomatch z), fun p xs e => k.at e (n _ _ e fun z => z).1 (n _ _ e fun z => z).2 (fun _ z => nomatch z)⟩
theorem Stp.rfl' : Stp G H H := fun _ _ h _ _ _ => h
theorem Stp.same (s : Same H H') : Stp G H H' := fun b o h _ _ _ => s b o h
theorem Rp.mono (h : Rp G H v t) (k : Stp G H H') (S : St G b H) : Rp G H' v t := MB.Rep.mono List.prefix_rfl (k.stay S) h
theorem RpL.mono {vs : List V} {ts : List T} (h : RpL G H vs ts) (k : Stp G H H') (S : St G b H) : RpL G H' vs ts := MB.RepL.mono List.prefix_rfl (k.stay S) h
theorem nt_mut {u : HO} (m : Mut (some u)) : ∀ ps, u ≠ .tbl ps := fun ps z => by subst z; exact m
theorem keepO (k : Stp G H H') {p : Addr} {u : HO} (n : p ∉ G.al) (e : H p = some u) (m : Mut (some u) := by first | assumption | exact trivial) : H' p = some u := by
  simp only [Gs.al, List.mem_cons, List.mem_nil_iff, or_false, not_or] at n
  exact k.at e n.1 n.2.1 (nt_mut m)
theorem RB.mono (h : RB G H v t) (k : Stp G H H') (S : St G b H) : RB G H' v t := by
  rcases h with h | ⟨p, u, e, n, hu, m, c⟩
  · exact .inl (Rp.mono h k S)
  · exact .inr ⟨p, u, e, n, keepO k n hu, m, MB.Con.mono List.prefix_rfl (k.stay S) c⟩
theorem RB.tv (h : RB G H v t) : MB.RepV G.g G.al H v t := h.imp id fun ⟨p, u, e, _, hu, m, c⟩ => ⟨p, u, e, hu, m, c⟩
theorem RB.ne {n : Nat} (h : RB G H v (.loc n)) : Rp G H v (.loc n) := h.elim id fun ⟨_, _, _, _, _, _, c⟩ => by cases c
theorem St.less (S : St G b H) (h : b' ≤ b) : St G b' H := by
  obtain ⟨⟨t, S, e⟩, T⟩ := S
  exact ⟨⟨t, S, by omega⟩, T⟩
theorem St.same (S : St G b H) (s : Same H H') : St G b H' := by
  obtain ⟨⟨t, S, e⟩, T⟩ := S
  exact ⟨⟨t, S.same s, e⟩, T.ext s⟩
/-- an own thing is changed -/
theorem St.upd (S : St G b H) {p : Addr} {o : HO} (n : p ∉ G.al) (hn : ∀ w, H p = some w → Nt w) : St G b (upd H p o) := by
  obtain ⟨⟨t, S, e⟩, T⟩ := S
  simp only [Gs.al, List.mem_cons, List.mem_nil_iff, or_false, not_or] at n
  exact ⟨⟨t, S.upd n.1 n.2.1 n.2.2, e⟩, tabs_keep T fun b o h m => by rw [upd_ne (fun z => by subst z; exact m (hn _ h))]; exact h⟩
theorem St.kept (S : St G b H) (k : Dr.Keep G.a G.L H H') : LamX.Tabs G.g.tt H' := tabs_keep S.2 fun p o h m => k p o h (fun z => by
    subst z
    obtain ⟨⟨t, ⟨⟨r, h1⟩, _, _, _, _⟩, _⟩, _⟩ := S
    rw [h] at h1; cases h1; exact m nt_d) (fun z => by
    subst z
    obtain ⟨⟨t, ⟨_, ⟨ns, h2, _⟩, _, _, _⟩, _⟩, _⟩ := S
    rw [h] at h2; cases h2; exact m nt_l)
/-- x runs; K is what holds then -/
def Run (G : Gs) (H : Hp) (x : M α) (b : Nat) (K : α → Nat → Hp → Prop) : Prop := ∃ R, x b R ∧ ∀ t b', R t b' → ∀ H', Stp G H H' → St G b' H' → K t b' H'
theorem Run.ret {a : α} {K : α → Nat → Hp → Prop} (S : St G b H) (h : Run G H (Wp.ret a) b K) : K a b H := by
  obtain ⟨R, h, k⟩ := h
  exact k a b h H .rfl' S
theorem Run.bnd {x : M α} {f : α → M β} {K : β → Nat → Hp → Prop} (h : Run G H (Wp.bnd x f) b K) : Run G H x b fun a b' H' => Run G H' (f a) b' K := by
  obtain ⟨R, h, k⟩ := h
  exact ⟨_, h, fun a b' r H' s S => ⟨R, r, fun t b2 r2 H2 s2 S2 => k t b2 r2 H2 (s.trans s2) S2⟩⟩
theorem Run.opt {o : Option α} {K : α → Nat → Hp → Prop} (S : St G b H) (h : Run G H (Wp.opt o) b K) : ∃ a, o = some a ∧ K a b H := by
  obtain ⟨R, ⟨a, e, r⟩, k⟩ := h
  exact ⟨a, e, k a b r H .rfl' S⟩
theorem Run.nev {K : α → Nat → Hp → Prop} (h : Run G H (Wp.nev) b K) : False := by
  obtain ⟨R, h, k⟩ := h
  exact h
theorem Run.imp {x : M α} {K K' : α → Nat → Hp → Prop} (h : Run G H x b K) (i : ∀ a b' H', Stp G H H' → St G b' H' → K a b' H' → K' a b' H') : Run G H x b K' := by
  obtain ⟨R, h, k⟩ := h
  exact ⟨R, h, fun t b' r H' s S => i t b' H' s S (k t b' r H' s S)⟩
theorem Run.at {x : M α} {K : α → Nat → Hp → Prop} (h : Run G H x b K) (s : Stp G H H') : Run G H' x b K := by
  obtain ⟨R, h, k⟩ := h
  exact ⟨R, h, fun t b' r H2 s2 S => k t b' r H2 (s.trans s2) S⟩
end
/-! ### slots -/
def SlOk (G : Gs) (H0 H : Hp) (v : Option V) : MB.Sl → Prop
  | .sh t => ∃ x, v = some x ∧ Rp G H x t
  | .ow t => ∃ p u, v = some (.ref p) ∧ p ∉ G.al ∧ N0 H0 p ∧ H p = some u ∧ Mut (some u) ∧ MB.Con G.g G.al H u t
structure ER (G : Gs) (H0 H : Hp) (σ : L2.St) (ρ : Env) : Prop where
  len : σ.length = ρ.length
  sl : ∀ (i : Nat) (s : MB.Sl), ρ[i]? = some (some s) → ∃ v, σ[i]? = some v ∧ SlOk G H0 H v s
  apart : ∀ (i j : Nat) (t u : T), i ≠ j → ρ[i]? = some (some (MB.Sl.ow t)) → ρ[j]? = some (some (MB.Sl.ow u)) → σ[i]? ≠ σ[j]?
section
variable {G : Gs} {b : Nat} {H0 H H' : Hp} {σ : L2.St} {ρ : Env} {i : Nat} {t : T}
theorem SlOk.mono {v : Option V} {s : MB.Sl} (h : SlOk G H0 H v s) (k : Stp G H H') (S : St G b H) : SlOk G H0 H' v s := by
  cases s with
  | sh t => obtain ⟨x, e, r⟩ := h; exact ⟨x, e, r.mono k S⟩
  | ow t => obtain ⟨p, u, e, n, h0, hu, m, c⟩ := h; exact ⟨p, u, e, n, h0, keepO k n hu, m, MB.Con.mono List.prefix_rfl (k.stay S) c⟩
theorem ER.mono (h : ER G H0 H σ ρ) (k : Stp G H H') (S : St G b H) : ER G H0 H' σ ρ :=
  ⟨h.len, fun i s e => by obtain ⟨v, h1, h2⟩ := h.sl i s e; exact ⟨v, h1, h2.mono k S⟩, h.apart⟩
theorem ER.rd (h : ER G H0 H σ ρ) (e : MB.rdS ρ i = some t) : ∃ v, σ[i]? = some (some v) ∧ Rp G H v t := by
  unfold MB.rdS at e
  split at e
  · rename_i t' q
    cases e
    obtain ⟨v, h1, x, h2, h3⟩ := h.sl i _ q
    subst h2
    exact ⟨x, h1, h3⟩
  · cases e
theorem ER.rdB (h : ER G H0 H σ ρ) (e : MB.rdB ρ i = some t) : ∃ v, σ[i]? = some (some v) ∧ RB G H v t := by
  unfold MB.rdB at e
  split at e
  · rename_i t' q
    cases e
    obtain ⟨v, h1, x, h2, h3⟩ := h.sl i _ q
    subst h2
    exact ⟨x, h1, .inl h3⟩
  · rename_i t' q
    cases e
    obtain ⟨v, h1, p, u, h2, n, _, hu, m, c⟩ := h.sl i _ q
    subst h2
    exact ⟨_, h1, .inr ⟨p, u, rfl, n, hu, m, c⟩⟩
  · cases e
end
/-! ### readings -/
variable (G : Gs) (H0 : Hp)
def tEv (m : Env → M T) : TE := fun σ H Q => ∃ ρ b, ER G H0 H σ ρ ∧ St G b H ∧ Run G H (m ρ) b fun t _ H' => ∀ v, Rp G H' v t → Q v H'
def tEvB (m : Env → M T) : TE := fun σ H Q => ∃ ρ b, ER G H0 H σ ρ ∧ St G b H ∧ Run G H (m ρ) b fun t _ H' => ∀ v, RB G H' v t → Q v H'
def tEvW (m : Env → M T) : TE := fun σ H Q => ∃ ρ b, ER G H0 H σ ρ ∧ St G b H ∧ Run G H (m ρ) b fun t _ H1 => ∀ H' v, Same H1 H' → Ou G H1 H' v t → Q v H'
def tTv (m : Env → M Bool) : TT := fun σ H Q => ∃ ρ b, ER G H0 H σ ρ ∧ St G b H ∧ Run G H (m ρ) b fun k _ H' => Q k H'
def tAv (k : Nat) (m : Env → M (List T)) : TA := fun σ H Q => ∃ ρ b, ER G H0 H σ ρ ∧ St G b H ∧ Run G H (m ρ) b fun ts _ H' => ∀ vs, RpL G H' vs ts → vs.length = k → Q vs H'
/-- .. of any length -/
def tAu (m : Env → M (List T)) : TA := fun σ H Q => ∃ ρ b, ER G H0 H σ ρ ∧ St G b H ∧ Run G H (m ρ) b fun ts _ H' => ∀ vs, RpL G H' vs ts → Q vs H'
/-- a body's context -/
structure Ctx (N : List Str) (sc : Scope) (n : Nat) (X : Cx) : Prop where
  prog : X.prog = G.g.prog
  w : X.w = G.g.w
  K : X.K = G.g.K
  mg : X.mg = G.g.mg
  base : X.base = G.g.base
  calm : X.calm = true
  hN : X.N = N
  hsc : X.env.scope = sc
  nd : N.Nodup
  room : Room n X.A
  free : X.A.guards = some []
variable {G H0}
section
variable {X : Cx} {N : List Str} {sc : Scope} {n : Nat} {e : Expr} {m A B : Env → M T}
theorem Ctx.hu (c : Ctx G N sc n X) : X.A.units + 65 < cLine := by have := c.room.un; omega
/-- a new container is shut -/
theorem lockOu {pins : List (Addr × Obj)} {σ : L2.St} {s : Shared} {H1 H' : Hp} {b : Nat} {v : V} {t : T} {u : Value} (I : Inv X pins σ H' s) (ru : RelV v u) (S : St G b H1) (sm : Same H1 H') (o : Ou G H1 H' v t) :
    ∃ H2, Inv X pins σ H2 s ∧ Same H1 H2 ∧ Rp G H2 v t := by
  rcases o with ⟨_, p, w, rfl, np, hp, hu, mu, c⟩ | ⟨_, r⟩
  · obtain ⟨od, I2⟩ := I.lock hu mu
    have sy : MB.Stay H' (upd H' p (.frz od w)) := ⟨fun a o x e => by
        rw [upd_ne (fun z => by rw [z, hu] at e; cases e; exact mu)]; exact e, fun a xs e => by
        rw [upd_ne (fun z => by rw [z, hu] at e; cases e; exact mu)]; exact e⟩
    exact ⟨_, I2, fun a o e => by rw [upd_ne (ne_of_none e hp)]; exact sm _ _ e, .con upd_same (c.mono List.prefix_rfl sy)⟩
  · exact ⟨H', I, sm, r⟩
theorem shut (h : PE X e (tEvW G H0 m)) : PE X e (tEv G H0 m) := by
  refine ⟨fun pins s σ H Q I q => ?_⟩
  obtain ⟨ρ, b, er, S, R, hm, k⟩ := q
  refine thn (h.run pins s σ H (fun v H' => ∃ t b' H1, Stp G H H1 ∧ St G b' H1 ∧ R t b' ∧ Same H1 H' ∧ Ou G H1 H' v t) I ⟨ρ, b, er, S, R, hm, fun t b' rt H1 s1 S1 H' v sm o => ⟨t, b', H1, s1, S1, rt, sm, o⟩⟩) fun u s1 ⟨v, H', I1, r1, t, b', H1, s2, S1, rt, sm, o⟩ => ?_
  obtain ⟨H2, I2, sm2, rp⟩ := lockOu I1 r1 S1 sm o
  exact ⟨v, H2, I2, r1, k t b' rt H2 (s2.trans (.same sm2)) (S1.same sm2) v rp⟩
theorem toB (h : PE X e (tEv G H0 m)) : PE X e (tEvB G H0 m) := h.imp fun σ H Q ⟨ρ, b, er, S, r⟩ => ⟨ρ, b, er, S, r.imp fun t b' H' _ _ k v rp => k v (.inl rp)⟩
end
end Wp

end -- W1
section -- KE1
set_option Elab.async false
set_option linter.all false
set_option maxRecDepth 100000
set_option maxHeartbeats 1000000
/-! Exceptions of own classes held as values: made (by place, by name), their field read, isinstance. -/
namespace Ex
open PySem PySem.Spec PyProof.Rows L2
abbrev Fg := PySem.W.Frag
/-- what isinstance asks of the class D -/
structure ExcD (K : Fg) (D : Addr) : Prop where
  hcl : (PySem.W.clsIn K D).isSome = true
  ga : PySem.W.findIn K (.ref D) "__getattribute__" = some (some (.builtin "BaseException.__getattribute__"))
  gg : PySem.W.findIn K (.ref D) "__getattr__" = some none
  ex : PySem.W.subIn K (.ref D) (.type "BaseException") = some true
  ca : PySem.W.findIn K (.ref D) "__class__" = some (some (.builtin "object.__class__"))
  cg : PySem.W.specialIn K (.builtin "object.__class__") "__get__" = some (some (.builtin "getset_descriptor.__get__"))
  ct : PySem.W.takesIn K (.builtin "object.__class__") = some true
  cm : PySem.W.mroIn K D (.type "object") = some true
/-- at a: an instance of D -/
def IsExc (H : Hp) (a D : Addr) : Prop := H a = some (ExO (.ref D) a) ∨ ∃ d fs, H a = some (exo a D (some d)) ∧ H d = some (exd d fs)
section
variable {X : Cx}
def rIsV (K : Fg) : List V → Hp → VK → Prop := fun xs H Q => ∃ (a D : Addr) (c : V) (cv : Value) (b : Bool), xs = [.ref a, c] ∧ IsExc H a D ∧ (∀ u, RelV c u → u = cv) ∧ ExcD K D ∧ PySem.W.kitOne K (.ref D) cv = some b ∧ Q (.bl b) H
theorem call_isV : CallR X (.builtin "isinstance") (rIsV X.K) := by
  rintro pins s σ H xs us Q I r ⟨a, D, c, cv, b, rfl, he, hcv, T, e, q⟩
  obtain ⟨u1, u2, rfl, ra, rc⟩ : ∃ u1 u2, us = [u1, u2] ∧ RelV (.ref a) u1 ∧ RelV c u2 := by
    cases r with
    | cons rx rr => cases rr with
      | cons rt rr => cases rr; exact ⟨_, _, rfl, rx, rt⟩
  cases ra
  have ec := hcv _ rc
  subst ec
  obtain ⟨ox, od, J⟩ : ∃ ox od, PySem.W.InstAt s.heap a ox D od := by
    rcases he with he | ⟨d, fs, he, hd⟩
    · obtain ⟨⟨oe, vs, h1, h2, h3, _⟩, _, _⟩ := I.hok a _ he
      obtain ⟨oc, od, oda, osl⟩ := oe
      obtain ⟨e1, e2⟩ := h2
      dsimp only at e1 e2 h3
      subst e1 e2 h3
      exact ⟨_, none, h1, rfl, rfl, trivial⟩
    · obtain ⟨t1, h1⟩ := exo_at I.hok he
      obtain ⟨mA, hn, rel⟩ := exd_at I.hok hd
      obtain ⟨oD, es, ep, h2, _⟩ := hn
      exact ⟨_, some oD, h1, rfl, rfl, h2⟩
  exact PySem.W.kia_one (PySem.W.kitx_exc T.hcl T.ga T.gg T.ex T.ca T.cg T.ct T.cm) I.kIn J e (fun z => nomatch z) fun tk => ⟨.bl b, H, I.kept (t' := tk) fun _ _ z => z, rfl, q⟩
/-- e.n, e such an instance with a dict -/
def tXv (K : Fg) (n : Str) (te : TE) : TE := fun σ H Q => te σ H fun x H1 => ∃ (a C d : Addr) (fs : List (Str × V)) (v : V), x = .ref a ∧ XfC K C ∧ PySem.W.findIn K (.ref C) n = some none ∧ H1 a = some (exo a C (some d)) ∧ H1 d = some (exd d fs) ∧ fs.lookup n = some v ∧ Q v H1
theorem pe_xv {e : Expr} {te : TE} {n : Str} {pos : Pos} (he : PE X e te) (hb : attributeBase e n X.env (eval e X.env) = eval e X.env := by rfl) : PE X (.Attribute e n pos) (tXv X.K n te) := by
  refine ⟨fun pins s σ H Q I h => attr_of hb (thn (he.run pins s σ H _ I h) fun u s1 hh => ?_)⟩
  obtain ⟨x, H1, I1, rx, a, C, d, fs, v, rfl, T, hno, ha, hd, l, q⟩ := hh
  cases rx
  obtain ⟨t1, h1⟩ := exo_at I1.hok ha
  obtain ⟨mA, hns, hr⟩ := exd_at I1.hok hd
  obtain ⟨od, ho, hl⟩ := lookIn_ns hns
  obtain ⟨u, hu, ru⟩ := RelO.some_of (v := v) (o := mA n) (by rw [← l]; exact hr n)
  have J : PySem.W.InstAt s1.heap a _ C (some od) := ⟨h1, rfl, rfl, ho⟩
  exact HandSPX.exc_get I1.kIn J T.ga T.gg T.exC (PySem.W.findObj_own T.hdC hno rfl (by rw [hl, hu])) (handed_of ru) ⟨v, H1, I1.tok _, ru, q⟩
/-- Base.__init__(self, ..), Base an own class whose __init__ is ValueError's -/
structure BaseI (K : Fg) (B : Addr) : Prop where
  rd : PySem.W.readsIn K B (.type "type") = true
  ga : PySem.W.specialIn K (.ref B) "__getattribute__" = some (some (.builtin "type.__getattribute__"))
  at_ : PySem.W.findCls K (.ref B) (.type "type") "__init__" = some (.val (.builtin "ValueError.__init__"))
theorem pe_clsinit {x : Str} {B : Addr} {e : Expr} {es : List Expr} {ta : TA} {p1 p2 pos : Pos} {pl : Sem Bool} (hg : Gl X x) (hm : X.mg x = some (.ref B)) (T : BaseI X.K B) (ha : PA X (e :: es) ta)
    (hc : eval (.Call (.Attribute (.Name x p1) "__init__" p2) (e :: es) [] pos) X.env = (do
      let o ← eval (.Name x p1) X.env
      standAt p2.atName
      let (g, fs) ← holding [o] (getMethod o "__init__" pl)
      callWith pos g fs (backTo pos (starEach (e :: es) X.env)) (backToKw pos (keywordEach [] X.env))) := by rfl)
    (hdb : (x == ("__debug__" : Str)) = false := by decide) (he : starEach (e :: es) X.env = (false, eval e X.env) :: starEach es X.env := by rfl) (hpl : (backTo pos (starEach es X.env)).any (·.1) = false := by rfl) :
    PE X (.Call (.Attribute (.Name x p1) "__init__" p2) (e :: es) [] pos) (tVeI X.K ta) := by
  refine ⟨fun pins s σ H Q I h => PySem.W.methodCall_KW (ld_glob I hg hm ?_ hdb) hc⟩
  refine PySem.W.method_cls I.kIn T.ga (PySem.W.cls_value I.kIn T.rd T.at_ (by decide +kernel) ?_)
  show wpAny _ _ (callWith pos (Value.builtin "ValueError.__init__") [] (backTo pos (starEach (e :: es) X.env)) []) _ _ _
  refine PyProof.Rows.callWith_method1 (thn (ha.run pos pins _ σ H _ (I.tok _) h) fun us s1 hh => ?_) he hpl
  obtain ⟨vs, H1, I1, r1, a, C, ws, rfl, hl, TC, ea, q⟩ := hh
  cases r1 with
  | cons ra rr =>
    cases ra
    exact oinit_ok TC I1 ea (by rw [← Paired.length rr, sizeLine_eq]; omega) fun s' J => ⟨.non, H1, J, rfl, q⟩
/-- C(e, ..), C's own __init__ keeping sp: the new exception as a value -/
def tMkV (C : Addr) (sp : Sp) (ta : TA) : TE := fun σ H Q => ta σ H fun vs H1 => vs.length ≤ 1000 ∧ ∀ a, H1 a = none → sp (.ref a :: vs) (upd H1 a (exo a C none)) (fun v H2 => v = .non ∧ Q (.ref a) H2) (fun _ _ _ => False)
theorem pe_oexV {CX : CXT} {x : Str} {C fI : Addr} {k : Nat} {fd : FuncData} {ps : List Str} {sp : Sp} {e : Expr} {es : List Expr} {ta : TA} {p pos : Pos} (T : OexC X.K C) (iC : PySem.W.findIn X.K (.ref C) "__init__" = some (some (.ref fI)))
    (tI : PySem.W.typeIn X.K (.ref fI) = some (.type "function")) (F1 : FnOk X.prog X.w X.K X.mg X.base CX k fI fd ps sp) (hr : Room (k + 1) X.A) (hb : Binds X.K fd ps []) (hx : Passes CX X (fun _ _ _ => False)) (hg : Gl X x) (hm : X.mg x = some (.ref C))
    (ha : PA X (e :: es) ta) (hdb : (x == ("__debug__" : Str)) = false := by decide) (he : starEach (e :: es) X.env = (false, eval e X.env) :: starEach es X.env := by rfl) (hpl : (backTo pos (starEach es X.env)).any (·.1) = false := by rfl) :
    PE X (.Call (.Name x p) (e :: es) [] pos) (tMkV C sp ta) := by
  refine ⟨fun pins s σ H Q I h => ?_⟩
  obtain ⟨nm, q, N, bs, bm, sn, sub, ab, col, dd, k0, k1, k2, k3, k5, hC, hbm⟩ := T.cls
  refine wpAny_Call_Name_kw (ld_glob I hg hm (PySem.W.callWith_K (h₀ := X.base) I.ok.mod.kin T.kC (thn (ha.run pos pins s σ H _ I h) fun us s1 hh => ?_) he hpl) hdb)
  obtain ⟨vs, H1, I1, r1, hz, q1⟩ := hh
  refine ⟨I1.kIn, ?_⟩
  show wpAny _ _ (call (.ref C) us) _ _ _
  obtain ⟨hp, g, dr, tk, os⟩ := s1
  have hn : H1 (hp.objs.size + 1) = none := I1.hok.fresh (Nat.le_succ _)
  have hq := q1 (hp.objs.size + 1) hn
  have kp : ∀ b o, hp.get? b = some o → ((hp.push (PySem.W.kdv_tup us)).push (PySem.HandSPX.excO C hp.objs.size)).get? b = some o := fun _ _ z => Heap.get?_push_of_some _ (Heap.get?_push_of_some _ z)
  have ho : ((hp.push (PySem.W.kdv_tup us)).push (PySem.HandSPX.excO C hp.objs.size)).get? (hp.objs.size + 1) = some (PySem.HandSPX.excO C hp.objs.size) := by heap_get
  have I2 : Inv X pins σ (upd H1 (hp.objs.size + 1) (exo (hp.objs.size + 1) C none)) ⟨(hp.push (PySem.W.kdv_tup us)).push (PySem.HandSPX.excO C hp.objs.size), g, dr, tk, os⟩ :=
    I1.laid (t' := tk) kp (Nat.le_succ _) (exo_ok ho)
  have r2 : Vals (V.ref (hp.objs.size + 1) :: vs) (Value.ref (hp.objs.size + 1) :: us) := .cons rfl r1
  have hl : (Value.ref (hp.objs.size + 1) :: us ++ []).length = ps.length := by
    rw [List.append_nil, ← r2.length]
    exact F1.len _ _ _ _ hq
  have hus : us.length ≤ sizeLine := by
    rw [← Paired.length r1, sizeLine_eq]
    omega
  refine wpAny_call (PySem.HandSPX.call_own F.excBase_ValueError (fun Y => PySem.HandSPX.refsVE_contains Y bm hbm) (I1.kIn _ _ hC) (PySem.W.looks_findIn I1.kIn iC) (fun self => PySem.W.bind_fn I1.kIn self tI) hus
    (codeAny_mono (F1.run _ X.stack _ _ ⟨Value.ref (hp.objs.size + 1) :: us, []⟩ (Value.ref (hp.objs.size + 1) :: us) _ _ (fun _ _ _ => False) (hr.make C us []) (I2.env0.make C us []) (by simpa using hb _ (Value.ref (hp.objs.size + 1) :: us) I2.kIn hl) r2 hq) fun r s' hq' => ?_))
  cases r with
  | error er => exact hx pins σ _ _ er s' I2 hq'
  | ok fl =>
    cases fl with
    | ret u =>
      obtain ⟨v, H2, I3, rv, ev, q3⟩ := I2.after hq'
      subst ev
      exact ⟨rv, ⟨V.ref (hp.objs.size + 1), H2, I3, rfl, q3⟩⟩
    | next => exact False.elim hq'
    | brk => exact False.elim hq'
    | cont => exact False.elim hq'
end
end Ex

end -- KE1
section -- KE2
set_option Elab.async false
set_option linter.all false
set_option maxRecDepth 100000
set_option maxHeartbeats 2000000
/-! An own exception class called by name alone. -/
namespace PySem
namespace ExKw
open PySem.W PySem.Calls PyProof.Rows PySem.HandSPX
section
variable {prog : Program} {w : World} {A : Around} {E : Value → Shared → Prop} {R : Result → Shared → Prop} {h : Heap} {g : Array GenState} {d : Drawn} {t : Nat} {os : OsState} {kw : List (Str × Value)}
variable {nm q : Str} {C N fI : Addr} {bs bm bmB : List Value} {hdct : Bool} {sn : List Str} {sub : List Value} {ab : Bool} {col : Option Bool} {dd : Option Addr} {k0 k1 k2 k3 k5 : Option Value} {B newId initId : String}
theorem chk (F : ExcBaseFacts B newId initId bmB) (hT : ∀ Y : String, bm.contains (.type Y) = bmB.contains (.type Y)) {Q : Unit → Shared → Prop}
    (hC : h.get? C = some (excClassObj nm q C N bs bm hdct sn sub ab col dd k0 k1 k2 k3 k5 newId)) (hq : Q () ⟨h, g, d, t, os⟩) : wpAny (model prog w) A (checkBuiltinCall newId ⟨[.ref C], kw⟩) Q E ⟨h, g, d, t, os⟩ := by
  have a1 : (Value.ref C :: bm).contains (.type B) = true := by rw [List.contains_cons, hT, F.hasB, Bool.or_true]
  have a2 := F.noStar
  simp only [checkBuiltinCall, F.newKind, F.newSplit, F.newRow]
  repeat (first | refine wpAny_loadPart_at hC ?_ | (refine wpAny_isSubtype_exc hC ?_; rw [a1]) | refine wpAny_staticBase_exc hC ?_ | refine wpAny_madeBy_exc hC ?_ | simp only [bne_self_eq_false, Bool.false_eq_true, if_false] | wp_step)
  exact hq
theorem mk (F : ExcBaseFacts B newId initId bmB) (hT : ∀ Y : String, bm.contains (.type Y) = bmB.contains (.type Y))
    (hC : h.get? C = some (excClassObj nm q C N bs bm hdct sn sub ab col dd k0 k1 k2 k3 k5 newId))
    (hq : R (.ok (.ret (.ref (h.objs.size + 1)))) ⟨(h.push (W.kdv_tup [])).push (excO C h.objs.size), g, d, t, os⟩) :
    codeAny (model prog w) A (.builtin newId ⟨[.ref C], kw⟩) R ⟨h, g, d, t, os⟩ := by
  have e0 := F.ends
  have e1 : (Value.ref C :: bm).contains (.type B) = true := by rw [List.contains_cons, hT, F.hasB, Bool.or_true]
  have e2 : (Value.ref C :: bm).contains (.type "AttributeError") = false := by rw [List.contains_cons, hT, F.noAttr]; rfl
  have e3 : (Value.ref C :: bm).contains (.type "NameError") = false := by rw [List.contains_cons, hT, F.noName]; rfl
  have e4 : ([] : List Value).length ≤ sizeLine := Nat.zero_le _
  refine codeAny_builtinAt F.entry ?_
  unfold Builtin.«BaseException.__new__»
  refine wpAt_bind ?_
  show wpAt _ _ _ (stack >>= _) _ _ _
  refine wpAt_bind (wpAt_stack fun p below => wpAt_of_wpAny ?_)
  wp_walk
  refine wpAt_of_wpAny ?_
  rw [F.owner]
  repeat (first | with_reducible refine wpAny_madeHere_exc F.canon hC ?_ | with_reducible refine wpAny_loadPart_at hC ?_ | (with_reducible refine wpAny_isSubtype_exc hC ?_; first | rw [e1] | rw [e2] | rw [e3]) | wp_step)
  show R _ _
  rw [Heap.size_push]
  exact hq
theorem tcall (F : ExcBaseFacts B newId initId bmB) (hT : ∀ Y : String, bm.contains (.type Y) = bmB.contains (.type Y)) {Q : Fin → Shared → Prop}
    (hC : h.get? C = some (excClassObj nm q C N bs bm hdct sn sub ab col dd k0 k1 k2 k3 k5 newId))
    (hi : W.Looks (model prog w) h (typeLookup (.ref C) "__init__") (some (.ref fI))) (hb : ∀ z, W.Looks (model prog w) h (bindSpecial (.ref fI) z) (.ref fI, [z]))
    (hq : codeAny (model prog w) A (.call (.ref fI) ⟨[.ref (h.objs.size + 1)], kw⟩)
      (fun r s' => match r with | .ok (.ret v) => v = .none ∧ Q (.done (.ret (.ref (h.objs.size + 1)))) s' | .ok _ => False | .error e => E e s')
      ⟨(h.push (W.kdv_tup [])).push (excO C h.objs.size), g, d, t, os⟩) :
    wpAny (model prog w) A (Builtin.«type.__call__» ⟨[.ref C], kw⟩) Q E ⟨h, g, d, t, os⟩ := by
  repeat (first | with_reducible refine wpAny_loadPart_at hC ?_ | with_reducible refine wpAny_madeBy_exc hC ?_ | wp_step)
  refine codeAny_call_builtin_code (Code.quiet_builtin _ F.quiet) (chk F hT hC ?_)
  refine mk F hT hC ?_
  show wpAny _ _ _ _ _ _
  have k : ∀ b o, h.get? b = some o → ((h.push (W.kdv_tup [])).push (excO C h.objs.size)).get? b = some o := fun _ _ z => Heap.get?_push_of_some _ (Heap.get?_push_of_some _ z)
  have c1 := k _ _ hC
  have c2 : ((h.push (W.kdv_tup [])).push (excO C h.objs.size)).get? (h.objs.size + 1) = some (excO C h.objs.size) := by heap_get
  have c3 : (Value.ref C :: bm).contains (.ref C) = true := by simp
  have i1 := hi.keeps k
  have i2 := (hb (.ref (h.objs.size + 1))).keeps k
  unfold isInstance
  repeat (first | with_reducible refine wpAny_loadPart_at c2 ?_ | (with_reducible refine wpAny_isSubtype_exc c1 ?_; rw [c3]) | wp_step)
  show wpAny _ _ (typeLookup (.ref C) _) _ _ _
  refine i1.at ?_
  refine wpAny_holding (wpAny_bind (i2.at ?_))
  refine wpAny_bind (wpAny_call (codeAny_mono hq fun r s' z => ?_))
  rcases r with e | (v | _ | _ | _) <;> first | exact z | exact z.elim | skip
  obtain ⟨rfl, z⟩ := z
  first
    | exact wpAny_pure (wpAny_pure z)
    | (wp_walk; exact z)
theorem ccall (F : ExcBaseFacts B newId initId bmB) (hT : ∀ Y : String, bm.contains (.type Y) = bmB.contains (.type Y))
    (hC : h.get? C = some (excClassObj nm q C N bs bm hdct sn sub ab col dd k0 k1 k2 k3 k5 newId))
    (hi : W.Looks (model prog w) h (typeLookup (.ref C) "__init__") (some (.ref fI))) (hb : ∀ z, W.Looks (model prog w) h (bindSpecial (.ref fI) z) (.ref fI, [z]))
    (hq : codeAny (model prog w) (A.under (.builtin "type.__call__" ⟨[.ref C], kw⟩)) (.call (.ref fI) ⟨[.ref (h.objs.size + 1)], kw⟩) (W.InitBack (h.objs.size + 1) R)
      ⟨(h.push (W.kdv_tup [])).push (excO C h.objs.size), g, d, t, os⟩) :
    codeAny (model prog w) A (.call (.ref C) ⟨[], kw⟩) R ⟨h, g, d, t, os⟩ := by
  have f1 := tc_lookup
  have f2 := tc_bind (.ref C)
  have f3 : (⟨h, g, d, t, os⟩ : Shared).TypeIs (.ref C) "type" := ⟨_, hC, rfl⟩
  refine codeAny_of_tree ?_
  show wpAny _ _ (callAny (.ref C) _) _ _ _
  repeat (any_goals (first | assumption | with_reducible refine wpAny_loadPart_at hC ?_ | wp_step))
  refine ⟨rfl, ?_⟩
  refine codeAny_call_builtin_at (Code.quiet_builtin _ (by decide +kernel)) entry_typeCall (wpAny_check_type_call_sub hC (tcall F hT hC hi hb ?_))
  refine codeAny_mono hq fun r s' z => ?_
  rcases r with e | (v | _ | _ | _) <;> exact z
end
end ExKw
end PySem

end -- KE2
section -- KE3
set_option Elab.async false
set_option linter.all false
set_option maxRecDepth 100000
set_option maxHeartbeats 2000000
namespace Ex
open PySem PySem.Spec PyProof.Rows L2
section
variable {X : Cx}
/-- C(n = e), C's own __init__ keeping sp -/
theorem pe_oexK {CX : CXT} {x n : Str} {C fI : Addr} {k : Nat} {fd : FuncData} {ps : List Str} {sp : Sp} {e : Expr} {te : TE} {p kp pos : Pos} (T : OexC X.K C) (iC : PySem.W.findIn X.K (.ref C) "__init__" = some (some (.ref fI)))
    (tI : PySem.W.typeIn X.K (.ref fI) = some (.type "function")) (F1 : FnOk X.prog X.w X.K X.mg X.base CX k fI fd ps sp) (hr : Room (k + 1) X.A) (h2 : ps.length = 2) (hb : ∀ (s : Shared) (a : Addr) (u : Value), X.K.In s.heap → BindsTo s fd ⟨[.ref a], [(n, u)]⟩ (ps.zip [.ref a, u]))
    (hx : Passes CX X (fun _ _ _ => False)) (hg : Gl X x) (hm : X.mg x = some (.ref C)) (he : PE X e te) (hdb : (x == ("__debug__" : Str)) = false := by decide) :
    PE X (.Call (.Name x p) [] [⟨some n, e, kp⟩] pos) (tMkV C sp (tCons te tNil)) := by
  refine ⟨fun pins s σ H Q I h => ?_⟩
  obtain ⟨nm, q, N, bs, bm, sn, sub, ab, col, dd, k0, k1, k2, k3, k5, hC, hbm⟩ := T.cls
  refine wpAny_Call_Name_kw (ld_glob I hg hm (PySem.W.callWith_KW0 (h₀ := X.base) I.ok.mod.kin T.kC rfl (thn ((pk_cons (nm := some n) (kpos := kp) he pk_nil).run pos pins s σ H _ I h) fun us s1 hh => ?_) rfl) hdb)
  obtain ⟨vs, H1, I1, r1, hz, q1⟩ := hh
  refine ⟨I1.kIn, ?_⟩
  obtain ⟨hp, g, dr, tk, os⟩ := s1
  have hn : H1 (hp.objs.size + 1) = none := I1.hok.fresh (Nat.le_succ _)
  have hq := q1 (hp.objs.size + 1) hn
  have lv : (V.ref (hp.objs.size + 1) :: vs).length = ps.length := F1.len _ _ _ _ hq
  have kq : ∀ b o, hp.get? b = some o → ((hp.push (PySem.W.kdv_tup [])).push (PySem.HandSPX.excO C hp.objs.size)).get? b = some o := fun _ _ z => Heap.get?_push_of_some _ (Heap.get?_push_of_some _ z)
  have ho : ((hp.push (PySem.W.kdv_tup [])).push (PySem.HandSPX.excO C hp.objs.size)).get? (hp.objs.size + 1) = some (PySem.HandSPX.excO C hp.objs.size) := by heap_get
  have I2 : Inv X pins σ (upd H1 (hp.objs.size + 1) (exo (hp.objs.size + 1) C none)) ⟨(hp.push (PySem.W.kdv_tup [])).push (PySem.HandSPX.excO C hp.objs.size), g, dr, tk, os⟩ :=
    I1.laid (t' := tk) kq (Nat.le_succ _) (exo_ok ho)
  obtain ⟨v, u, ev, eu, rv⟩ : ∃ v u, vs = [v] ∧ us = [u] ∧ RelV v u := by
    rw [h2] at lv
    cases r1 with
    | nil => cases lv
    | cons ra rr => cases rr with
      | nil => exact ⟨_, _, rfl, rfl, ra⟩
      | cons _ _ => simp at lv
  subst ev eu
  have r2 : Vals [V.ref (hp.objs.size + 1), v] [Value.ref (hp.objs.size + 1), u] := .cons rfl (.cons rv .nil)
  show wpAny _ _ (call (.ref C) ([] ++ []) ([n].zip [u])) _ _ _
  refine wpAny_call (PySem.ExKw.ccall (kw := [(n, u)]) F.excBase_ValueError (fun Y => PySem.HandSPX.refsVE_contains Y bm hbm) (I1.kIn _ _ hC) (PySem.W.looks_findIn I1.kIn iC) (fun self => PySem.W.bind_fn I1.kIn self tI)
    (codeAny_mono (F1.run _ X.stack _ _ ⟨[Value.ref (hp.objs.size + 1)], [(n, u)]⟩ [Value.ref (hp.objs.size + 1), u] _ _ (fun _ _ _ => False) (hr.make C [] [(n, u)]) (I2.env0.make C [] [(n, u)]) (hb _ _ u I2.kIn) r2 hq) fun r s' hq' => ?_))
  cases r with
  | error er => exact hx pins σ _ _ er s' I2 hq'
  | ok fl =>
    cases fl with
    | ret z =>
      obtain ⟨v', H2, I3, rv', ev, q3⟩ := I2.after hq'
      subst ev
      exact ⟨rv', ⟨V.ref (hp.objs.size + 1), H2, I3, rfl, q3⟩⟩
    | next => exact False.elim hq'
    | brk => exact False.elim hq'
    | cont => exact False.elim hq'
end
end Ex

end -- KE3
section -- KG
set_option Elab.async false
set_option linter.all false
set_option maxRecDepth 100000
set_option maxHeartbeats 1000000
/-! A def that is entered where no repr is under way. -/
namespace Gd
open PySem PySem.Spec PyProof.Rows L2
abbrev Free (A : Around) : Prop := A.guards = some []
/-- FnOk for such entries alone -/
structure FnG (P : Program) (w : World) (K : PySem.W.Frag) (mg : Str → Option Value) (base : Heap) (CX : CXT) (k : Nat) (f : Addr) (fd : FuncData) (ps : List Str) (sp : Sp) : Prop where
  len : ∀ vs H Q E, sp vs H Q E → vs.length = ps.length
  go : ∀ (A : Around) (outer : List Env) (s : Shared) (H : Hp) (args : Args) (us : List Value) (vs : List V) (Q : VK) (E : XK), Free A → Room k A → Env0 P w K mg base A outer s H → BindsTo s fd args (ps.zip us) → Vals vs us → sp vs H Q E → codeAny (model P w) A (.call (.ref f) args) (CR CX outer P w H s Q E) s
theorem free_deeper {A : Around} {env : Env} (h : Free A) : Free (A.deeper env) := h
section
variable {P : Program} {w : World} {K : PySem.W.Frag} {mg : Str → Option Value} {base : Heap}
theorem FnG.of {CX : CXT} {k : Nat} {f : Addr} {fd : FuncData} {ps : List Str} {sp : Sp} (F : FnOk P w K mg base CX k f fd ps sp) : FnG P w K mg base CX k f fd ps sp := ⟨F.len, fun A outer s H args us vs Q E _ => F.run A outer s H args us vs Q E⟩
/-- the body, as a term of rules with its reading -/
theorem of_body {x qual : Str} {st : Stmt} {f : Addr} {fd : FuncData} {N ps : List Str} {k : Nat} {sp : Sp} (F : Fun K x qual st f fd) (S : FnScope N ps (defScope st)) (len : ∀ vs H Q E, sp vs H Q E → vs.length = ps.length)
    (body : ∀ (cdv : Value) (A : Around) (outer : List Env) (s : Shared) (H : Hp) (vs : List V) (Q : VK) (E : XK), Free A → Room k (A.deeper (envOfC qual (defScope st) s.heap.objs.size f cdv)) → sp vs H Q E →
      ∃ t, PSs (cxOf CX0 P w K mg base N qual (defScope st) f cdv A outer s H E).nox (defBody st) t ∧ t { nx := fun _ H' => Q .non H', rt := Q } (start N vs) H) : FnG P w K mg base CX0 (k + 1) f fd ps sp := by
  obtain ⟨oc, od, kV, doc, pm, an, cdv, ct, osl, rfl, lk, hcd⟩ := F.ex
  refine ⟨len, fun A outer s H args us vs Q E fr hr e0 hb r hsp => ?_⟩
  have n1 := len _ _ _ _ hsp
  have KX : K.In s.heap := e0.mod.kin.keeps fun b o z => (e0.bs b o z).1
  have kinds : ∀ y ∈ ps.zip us, (defScope st).names.lookup y.1 = some .local ∨ ((defScope st).names.lookup y.1 = some .cell ∧ ((cellsFrom (s.heap.objs.size + 1) (defScope st).names []).lookup y.1).isSome = true) := by
    rintro ⟨y, v⟩ hy
    exact (S.par y (List.of_mem_zip hy).1).imp id fun z => ⟨z, PySem.W.cellsFrom_some _ _ _ (.inl z)⟩
  obtain ⟨t, ht, hq⟩ := body cdv A outer s H vs Q E fr (hr.deeper _) hsp
  refine codeAny_call_function hr.depth (KX _ _ lk) rfl S.co S.gen rfl (PySem.W.codeRec_of KX hcd) (hb _ _ _ _ (wpAny_newFunctionEnv_cells S.kind kinds fun env he s1 x => ?_))
  subst he
  refine ⟨(e0.mod.nolimit.keeps fun b o z => (e0.bs b o z).1).keeps x.toInCall.keep, codeAny_func ?_⟩
  have J0 : Inv (cxOf CX0 P w K mg base N qual (defScope st) f cdv A outer s H E) [] (start N vs) H s1 := inv_start S hr.hd e0 n1 r x
  refine wpAny_mono (ht.nox.run [] s1 (start N vs) H _ J0 hq) (fun fl s' hs => ?_) fun _ _ z => z
  cases fl with
  | ret u => obtain ⟨v, σ', H', J, rv, q⟩ := hs; exact ⟨v, H', J.os, J.bare, J.base, J.hok, rv, q⟩
  | next => obtain ⟨σ', H', J, q⟩ := hs; exact ⟨.non, H', J.os, J.bare, J.base, J.hok, rfl, q⟩
  | brk => obtain ⟨_, _, _, q⟩ := hs; exact q.elim
  | cont => obtain ⟨_, _, _, q⟩ := hs; exact q.elim
end
/-! ### data in the heap, and its repr -/
mutual
/-- v is the data d; the changing parts' addresses are ok -/
inductive Td (K : PySem.W.Frag) (ok : Addr → Prop) (H : Hp) : V → PyData → Prop
  | non : Td K ok H .non .none
  | bl (b : Bool) : Td K ok H (.bl b) (.bool b)
  | int (i : Int) : Td K ok H (.int i) (.int i)
  | str (x : Str) : Td K ok H (.str x) (.str x)
  | tup {a : Addr} {vs : List V} {ds : List PyData} : ok a → SqT K H a vs → TdL K ok H vs ds → Td K ok H (.ref a) (.tuple ds)
  | lst {a : Addr} {vs : List V} {ds : List PyData} : ok a → Rd H a (.lst vs) → TdL K ok H vs ds → Td K ok H (.ref a) (.list ds)
  | dct {a : Addr} {kvs : List (Key × V)} {ds : List (PyData × PyData)} : ok a → Rd H a (.dK kvs) → TdD K ok H kvs ds → Td K ok H (.ref a) (.dict ds)
inductive TdL (K : PySem.W.Frag) (ok : Addr → Prop) (H : Hp) : List V → List PyData → Prop
  | nil : TdL K ok H [] []
  | cons {v : V} {vs : List V} {d : PyData} {ds : List PyData} : Td K ok H v d → TdL K ok H vs ds → TdL K ok H (v :: vs) (d :: ds)
inductive TdD (K : PySem.W.Frag) (ok : Addr → Prop) (H : Hp) : List (Key × V) → List (PyData × PyData) → Prop
  | nil : TdD K ok H [] []
  | cons {x : Str} {v : V} {kvs : List (Key × V)} {d : PyData} {ds : List (PyData × PyData)} : Td K ok H v d → TdD K ok H kvs ds → TdD K ok H ((.inr x, v) :: kvs) ((.str x, d) :: ds)
end
section
variable {K : PySem.W.Frag} {ok ok' : Addr → Prop} {H H' : Hp}
theorem rd_mono {a : Addr} {u : HO} (k : ∀ b o, ok b → H b = some o → H' b = some o) (h : ok a) (r : Rd H a u) : Rd H' a u := by
  rcases r with r | ⟨o, r⟩
  · exact .inl (k _ _ h r)
  · exact .inr ⟨o, k _ _ h r⟩
theorem sqT_mono {a : Addr} {vs : List V} (k : ∀ b o, ok b → H b = some o → H' b = some o) (h : ok a) (r : SqT K H a vs) : SqT K H' a vs := r.imp (rd_mono k h) id
mutual
theorem Td.mono (w : ∀ b, ok b → ok' b) (k : ∀ b o, ok b → H b = some o → H' b = some o) : ∀ {v : V} {d : PyData}, Td K ok H v d → Td K ok' H' v d
  | _, _, .non => .non
  | _, _, .bl b => .bl b
  | _, _, .int i => .int i
  | _, _, .str x => .str x
  | _, _, .tup h r l => .tup (w _ h) (sqT_mono k h r) (TdL.mono w k l)
  | _, _, .lst h r l => .lst (w _ h) (rd_mono k h r) (TdL.mono w k l)
  | _, _, .dct h r l => .dct (w _ h) (rd_mono k h r) (TdD.mono w k l)
theorem TdL.mono (w : ∀ b, ok b → ok' b) (k : ∀ b o, ok b → H b = some o → H' b = some o) : ∀ {v : List V} {d : List PyData}, TdL K ok H v d → TdL K ok' H' v d
  | _, _, .nil => .nil
  | _, _, .cons a b => .cons (Td.mono w k a) (TdL.mono w k b)
theorem TdD.mono (w : ∀ b, ok b → ok' b) (k : ∀ b o, ok b → H b = some o → H' b = some o) : ∀ {v : List (Key × V)} {d : List (PyData × PyData)}, TdD K ok H v d → TdD K ok' H' v d
  | _, _, .nil => .nil
  | _, _, .cons a b => .cons (Td.mono w k a) (TdD.mono w k b)
end
end
/-- the written part holds the table of modules -/
def HasSys (K : PySem.W.Frag) : Prop := ∃ o es n, K.lookup sysModules = some o ∧ o.data = .dict es n
section
variable {X : Cx} {pins : List (Addr × Obj)} {σ : L2.St} {H : Hp} {s : Shared} {ok : Addr → Prop}
theorem keyText {P : Program} {w : World} {x : Str} {u : Value} (h : (mixKind P w).is (.inr x) u = true) : ∃ t, u = .str x t := by
  rcases keyIs_shape (show keyIs (.inr x) u = true from h) with ⟨i, t, e, _⟩ | ⟨y, t, e, e2⟩
  · cases e
  · cases e
    exact ⟨t, e2⟩
theorem seqT_at (I : Inv X pins σ H s) {a : Addr} {vs : List V} (h : SqT X.K H a vs) : ∃ o its n, s.heap.get? a = some o ∧ o.cls = .type "tuple" ∧ o.data = .seq its n ∧ Vals vs its.toList := by
  rcases h with h | ⟨o, its, n, h1, h2, h3, _, h4⟩
  · obtain ⟨_, its, r, o, h1, h2, n, h3⟩ := Rd.ok h I.hok
    exact ⟨o, its.toArray, n, h1, h2, h3, by simpa using r⟩
  · exact ⟨o, its, n, I.kIn _ _ h1, h2, h3, h4⟩
mutual
theorem Td.reads (I : Inv X pins σ H s) (hs : HasSys X.K) : ∀ {v : V} {d : PyData} {u : Value}, Td X.K ok H v d → RelV v u → ∃ as, Reads s.heap u d as ∧ sysModules ∉ as
  | _, _, _, .non, r => by cases r; exact ⟨[], .none, by simp⟩
  | _, _, _, .bl b, r => by cases r; exact ⟨[], .bool b, by simp⟩
  | _, _, _, .int i, r => by obtain ⟨t, rfl⟩ := r; exact ⟨[], .int i t, by simp⟩
  | _, _, _, .str x, r => by obtain ⟨t, rfl⟩ := r; exact ⟨[], .str x t, by simp⟩
  | _, _, _, .tup _ h l, r => by
    cases r
    obtain ⟨o, its, n, h1, h2, h3, rv⟩ := seqT_at I h
    obtain ⟨as, q, na⟩ := TdL.reads I hs l rv
    exact ⟨as, .tuple h1 h2 h3 q, na⟩
  | _, _, _, .lst _ h l, r => by
    cases r
    obtain ⟨_, its, n, rv, h1⟩ := Rd.ok h I.hok
    obtain ⟨as, q, na⟩ := TdL.reads I hs l rv
    refine ⟨_, .list (vs := its.toArray) h1 rfl rfl (by simpa using q), ?_⟩
    intro hm
    rcases List.mem_cons.mp hm with e | e
    · obtain ⟨o, es, k, g1, g2⟩ := hs
      have z := I.kIn _ _ g1
      rw [e, h1] at z
      cases z
      cases g2
    · exact na e
  | _, _, _, .dct _ h l, r => by
    cases r
    obtain ⟨_, hm, vs, kv, o, es, ep, h1, h2, h3, h4, h5, _⟩ := dk_rd I.hok h
    obtain ⟨as, bs, q1, q2, n1, n2⟩ := TdD.reads I hs l kv h5
    refine ⟨_, .dict h1 h2.1 h3 q1 q2, ?_⟩
    intro hm'
    simp only [List.cons_append, List.mem_cons, List.mem_append] at hm'
    rcases hm' with e | e | e
    · rw [← e] at hm
      simp at hm
    · exact n1 e
    · exact n2 e
theorem TdL.reads (I : Inv X pins σ H s) (hs : HasSys X.K) : ∀ {v : List V} {d : List PyData} {u : List Value}, TdL X.K ok H v d → Vals v u → ∃ as, ReadsAll s.heap u d as ∧ sysModules ∉ as
  | _, _, _, .nil, r => by cases r; exact ⟨[], .nil, by simp⟩
  | _, _, _, .cons a b, r => by
    cases r with
    | cons ra rb =>
      obtain ⟨as, q1, n1⟩ := Td.reads I hs a ra
      obtain ⟨bs, q2, n2⟩ := TdL.reads I hs b rb
      exact ⟨_, .cons q1 q2, by simp [n1, n2]⟩
theorem TdD.reads (I : Inv X pins σ H s) (hs : HasSys X.K) : ∀ {v : List (Key × V)} {d : List (PyData × PyData)} {vs : List (Key × Value)} {es : List DictEntry}, TdD X.K ok H v d → KV v vs → Pairs (mixKind X.prog X.w) es vs →
    ∃ as bs, ReadsAll s.heap (es.map (·.key)) (d.map (·.1)) as ∧ ReadsAll s.heap (es.map (·.val)) (d.map (·.2)) bs ∧ sysModules ∉ as ∧ sysModules ∉ bs
  | _, _, _, _, .nil, kv, p => by
    cases kv
    cases p
    exact ⟨[], [], .nil, .nil, by simp, by simp⟩
  | _, _, _, _, .cons (x := x) a b, kv, p => by
    cases kv with
    | cons k1 k2 =>
      cases p with
      | cons p1 p2 p3 =>
        obtain ⟨as, bs, q1, q2, n1, n2⟩ := TdD.reads I hs b k2 p3
        obtain ⟨e1, e2⟩ := k1
        rw [← e1] at p1
        obtain ⟨t, hk⟩ := keyText p1
        rw [← p2] at e2
        obtain ⟨cs, q3, n3⟩ := Td.reads I hs a e2
        refine ⟨[] ++ as, cs ++ bs, .cons (by show Reads s.heap (DictEntry.key _) (.str x) []; rw [hk]; exact .str x t) q1, .cons q3 q2, by simpa using n1, by simp [n3, n2]⟩
end
/-- small data -/
structure Sm (d : PyData) : Prop where
  sh : d.showable = true
  lf : d.leavesShort 60 = true
  dp : d.depth < 60
  wt : d.weight ≤ 200000
theorem Sm.len {d : PyData} (h : Sm d) : d.shown.length ≤ sizeLine := by
  have h1 := PyData.shown_le 60 (by decide) d h.lf
  have h2 := h.wt
  rw [sizeLine_eq]
  omega
theorem reprOf (hg : Free X.A) (hu : X.A.units + 64 < cLine) (hs : HasSys X.K) : CallR X (.builtin "repr") (fun xs H Q => ∃ (a : Addr) (d : PyData) (ok : Addr → Prop), xs = [.ref a] ∧ Td X.K ok H (.ref a) d ∧ Sm d ∧ Q (.str d.shown) H) := by
  rintro pins s σ H xs us Q I r ⟨a, d, ok, rfl, hd, hm, q⟩
  obtain ⟨u, rfl, ru⟩ : ∃ u, us = [u] ∧ RelV (.ref a) u := by
    cases r with
    | cons ra rr => cases rr; exact ⟨_, rfl, ra⟩
  obtain ⟨as, rd, na⟩ := hd.reads I hs ru
  cases ru
  have := hm.dp
  exact repr_of_reads' rd hm.sh (fun _ => na) hg (by omega) (fun _ _ z => z) (fun h' u tk k => ⟨.str d.shown, H, I.kept k, ⟨u, rfl⟩, q⟩) hm.len
end
end Gd

end -- KG
section -- W2
set_option Elab.async false
set_option linter.all false
set_option maxRecDepth 100000
set_option maxHeartbeats 1000000
/-! Names, constants, operators, comparisons, truth, displays. -/
namespace Wp
open PySem PySem.Spec L2
section
variable {G : Gs} {H0 : Hp} {X : Cx} {N : List Str} {sc : Scope} {n : Nat} {a b d e : Expr} {m A B D : Env → M T} {pos : Pos} {rest : List Expr}
/-! ### names, constants -/
def mVar (i : Nat) : Env → M T := fun ρ => opt (MB.rdS ρ i)
def mVarB (i : Nat) : Env → M T := fun ρ => opt (MB.rdB ρ i)
def mLit (t : T) : Env → M T := fun _ => ret t
theorem w_var {i : Nat} {x : Str} (c : Ctx G N sc n X) (hi : N[i]? = some x) (hv : Vis sc x) (hd : (x == ("__debug__" : Str)) = false := by decide) (hcd : (x == ("__classdict__" : Str)) = false := by decide) : PE X (.Name x pos) (tEv G H0 (mVar i)) :=
  PE.imp (pe_var (i := i) (by rw [c.hN]; exact hi) (by rw [c.hsc]; exact hv) hd hcd) fun σ H Q ⟨ρ, b, er, S, r⟩ => by
    obtain ⟨t, e, k⟩ := r.opt S
    obtain ⟨v, e2, rp⟩ := er.rd e
    exact ⟨v, e2, k v rp⟩
theorem w_varB {i : Nat} {x : Str} (c : Ctx G N sc n X) (hi : N[i]? = some x) (hv : Vis sc x) (hd : (x == ("__debug__" : Str)) = false := by decide) (hcd : (x == ("__classdict__" : Str)) = false := by decide) : PE X (.Name x pos) (tEvB G H0 (mVarB i)) :=
  PE.imp (pe_var (i := i) (by rw [c.hN]; exact hi) (by rw [c.hsc]; exact hv) hd hcd) fun σ H Q ⟨ρ, b, er, S, r⟩ => by
    obtain ⟨t, e, k⟩ := r.opt S
    obtain ⟨v, e2, rp⟩ := er.rdB e
    exact ⟨v, e2, k v rp⟩
theorem w_con {v : V} {t : T} (h : PE X e (tC v)) (hr : ∀ H, Rp G H v t) : PE X e (tEv G H0 (mLit t)) := h.imp fun σ H Q ⟨ρ, b, er, S, r⟩ => (r.ret S) v (hr H)
theorem w_int {i : Int} {k p} : PE X (.Constant (.int i) k p) (tEv G H0 (mLit (.int i))) := w_con pe_int fun _ => .int i
theorem w_bl {i : Bool} {k p} : PE X (.Constant (.bool i) k p) (tEv G H0 (mLit (.bl i))) := w_con pe_bl fun _ => .bl i
theorem w_non {k p} : PE X (.Constant .none k p) (tEv G H0 (mLit .non)) := w_con pe_non fun _ => .non
theorem w_str {i : Str} {k p} : PE X (.Constant (.str i) k p) (tEv G H0 (mLit (.str i))) := w_con pe_str fun _ => .str i
/-! ### two in a row -/
theorem ev2 {σ : L2.St} {H : Hp} {b : Nat} {ρ : Env} {f : T → T → M T} {K : T → Nat → Hp → Prop} {R : V → V → Hp → Prop} (er : ER G H0 H σ ρ) (S : St G b H) (r : Run G H (bnd (A ρ) fun x => bnd (B ρ) fun y => f x y) b K)
    (k : ∀ x y b' H' v w, Stp G H H' → St G b' H' → RB G H' v x → RB G H' w y → Run G H' (f x y) b' K → R v w H') : tEvB G H0 A σ H fun v H1 => tEvB G H0 B σ H1 fun w H2 => R v w H2 :=
  ⟨ρ, b, er, S, r.bnd.imp fun x b1 H1 s1 S1 r1 v rv => ⟨ρ, b1, er.mono s1 S, S1, r1.bnd.imp fun y b2 H2 s2 S2 r2 w rw' => k x y b2 H2 v w (s1.trans s2) S2 (rv.mono s2 S1) rw' r2⟩⟩
/-- what a value-level operation of two gives -/
def rF (G : Gs) (f : T → T → Option T) : R2 := fun v w H Q => ∃ x y t b, St G b H ∧ RB G H v x ∧ RB G H w y ∧ f x y = some t ∧ ∀ H' u, Same H H' → Ou G H H' u t → Q u H'
def mBin (op : MB.BOp) (A B : Env → M T) : Env → M T := fun ρ => bnd (A ρ) fun x => bnd (B ρ) fun y => opt (MB.binT op x y)
theorem RB.int {H : Hp} {v : V} {i : Int} (h : RB G H v (.int i)) : v = .int i := h.tv.int
theorem RB.str {H : Hp} {v : V} {i : Str} (h : RB G H v (.str i)) : v = .str i := h.tv.str
theorem ouA {H : Hp} {v : V} {t : T} (h : MB.ownable t = false) (r : Rp G H v t) : Ou G H H v t := .inr ⟨h, r⟩
theorem ouNew {H : Hp} {b : Nat} {p : Addr} {o : HO} {t : T} (S : St G b H) (hp : H p = none) (ho : MB.ownable t = true) (mu : Mut (some o)) (c : MB.Con G.g G.al H o t) : Ou G H (upd H p o) (.ref p) t :=
  .inl ⟨ho, p, o, rfl, S.new hp, hp, upd_same, mu, c.mono List.prefix_rfl (MB.stay_new hp)⟩
theorem same_new {H : Hp} {p : Addr} {o : HO} (hp : H p = none) : Same H (upd H p o) := fun b x e => by rw [upd_ne (ne_of_none e hp)]; exact e
theorem tupNew {H : Hp} {p : Addr} {vs : List V} {ts : List T} (hp : H p = none) (r : RpL G H vs ts) : Rp G (upd H p (.tup vs)) (.ref p) (.tup ts) := .tup upd_same (MB.RepL.mono List.prefix_rfl (MB.stay_new hp) r)
theorem op_bin (op : MB.BOp) (hK : X.K = G.g.K) : OpR X (binaryOp (MB.opOf op)) (rF G (MB.binT op)) := fun pins s σ H v w u u' Q I rv rw' ⟨x, y, t, b, S, r1, r2, hz, q⟩ => by
  unfold MB.binT at hz
  split at hz
  · cases hz
    exact op_add pins s σ H v w u u' Q I rv rw' ⟨_, _, r1.int, r2.int, q H _ (Same.refl _) (ouA rfl (.int _))⟩
  · split at hz
    · rename_i hl
      cases hz
      exact op_add_str pins s σ H v w u u' Q I rv rw' ⟨_, _, r1.str, r2.str, hl, q H _ (Same.refl _) (ouA rfl (.str _))⟩
    · cases hz
  · split at hz
    · rename_i xs ys hl
      cases hz
      obtain ⟨l, vs, ev, h1, rl, z1⟩ := r1.tv.lst
      obtain ⟨l', ws, ew, h2, rl2, z2⟩ := r2.tv.lst
      have hl' : vs.length + ws.length ≤ sizeLine := by rw [rl.length, rl2.length]; exact hl
      exact MB.op_catR pins s σ H v w u u' Q I rv rw' ⟨l, l', vs, ws, ev, ew, h1, h2, hl', fun p hp => q _ _ (same_new hp) (ouNew S hp rfl trivial (.lst (by rw [List.length_append]; exact hl') (rl.append rl2)))⟩
    · cases hz
  · split at hz
    · rename_i xs ys hl
      cases hz
      have k1 : Rp G H v (.tup _) := r1.elim id fun ⟨_, _, _, _, _, _, c⟩ => by cases c
      have k2 : Rp G H w (.tup _) := r2.elim id fun ⟨_, _, _, _, _, _, c⟩ => by cases c
      obtain ⟨l, vs, ev, h1, rl⟩ := r1.tv.tup
      obtain ⟨l', ws, ew, h2, rl2⟩ := r2.tv.tup
      rw [← hK] at h1 h2
      have hl' : vs.length + ws.length ≤ sizeLine := by rw [rl.length, rl2.length]; exact hl
      refine op_catA pins s σ H v w u u' Q I rv rw' ⟨l, l', vs, ws, ev, ew, h1, h2, hl', fun e => ?_, fun _ e => ?_, fun _ _ p hp => ?_⟩
      · subst e
        cases rl
        exact q H _ (Same.refl _) (ouA rfl (by rw [List.nil_append, ← ew]; exact k2))
      · subst e
        cases rl2
        exact q H _ (Same.refl _) (ouA rfl (by rw [List.append_nil, ← ev]; exact k1))
      · exact q _ _ (same_new hp) (.inr ⟨rfl, tupNew hp (rl.append rl2)⟩)
    · cases hz
  · cases hz
    exact op_sub pins s σ H v w u u' Q I rv rw' ⟨_, _, r1.int, r2.int, q H _ (Same.refl _) (ouA rfl (.int _))⟩
  · split at hz
    · rename_i hc
      cases hz
      exact op_mul pins s σ H v w u u' Q I rv rw' ⟨_, _, r1.int, r2.int, hc, q H _ (Same.refl _) (ouA rfl (.int _))⟩
    · cases hz
  · split at hz
    · rename_i hc
      cases hz
      exact op_fdiv pins s σ H v w u u' Q I rv rw' ⟨_, _, r1.int, r2.int, hc, q H _ (Same.refl _) (ouA rfl (.int _))⟩
    · cases hz
  · split at hz
    · rename_i hc
      cases hz
      exact op_mod pins s σ H v w u u' Q I rv rw' ⟨_, _, r1.int, r2.int, hc, q H _ (Same.refl _) (ouA rfl (.int _))⟩
    · cases hz
  · split at hz
    · rename_i hc
      cases hz
      exact op_pow pins s σ H v w u u' Q I rv rw' ⟨_, _, r1.int, r2.int, hc, q H _ (Same.refl _) (ouA rfl (.int _))⟩
    · cases hz
  · cases hz
theorem w_op2 {op : Operator} {f : T → T → Option T} (ho : OpR X (binaryOp op) (rF G f)) (ha : PE X a (tEvB G H0 A)) (hb : PE X b (tEvB G H0 B)) : PE X (.BinOp a op b pos) (tEvW G H0 fun ρ => bnd (A ρ) fun x => bnd (B ρ) fun y => opt (f x y)) :=
  (pe_op (pos := pos) ho ha hb).imp fun σ H Q ⟨ρ, b, er, S, r⟩ => ev2 er S r fun x y b' H' v w s S' rv rw' r' => by
    obtain ⟨t, e, k⟩ := r'.opt S'
    exact ⟨x, y, t, b', S', rv, rw', e, fun H2 u sm o => k H2 u sm o⟩
theorem w_bin (op : MB.BOp) (c : Ctx G N sc n X) (ha : PE X a (tEvB G H0 A)) (hb : PE X b (tEvB G H0 B)) : PE X (.BinOp a (MB.opOf op) b pos) (tEvW G H0 (mBin op A B)) := w_op2 (op_bin op c.K) ha hb
/-- - a -/
def mNeg (A : Env → M T) : Env → M T := fun ρ => bnd (A ρ) fun x => opt (match x with | .int i => some (MB.T.int (-i)) | _ => none)
theorem w_neg (ha : PE X a (tEvB G H0 A)) : PE X (.UnaryOp .USub a pos) (tEv G H0 (mNeg A)) :=
  (pe_un (pos := pos) un_neg ha).imp fun σ H Q ⟨ρ, b, er, S, r⟩ => ⟨ρ, b, er, S, r.bnd.imp fun x b' H' s S' r' v rv => by
    obtain ⟨t, e, k⟩ := r'.opt S'
    cases x with
    | int i => cases e; exact ⟨i, rv.int, k _ (.int _)⟩
    | _ => cases e⟩
/-! ### comparisons -/
def mCmp (op : MB.COp) (A B : Env → M T) : Env → M T := fun ρ => bnd (A ρ) fun x => bnd (B ρ) fun y => opt ((MB.cmpT op x y).map .bl)
theorem w_cmp (op : MB.COp) (c : Ctx G N sc n X) (ha : PE X a (tEvB G H0 A)) (hb : PE X b (tEvB G H0 B)) (hm : behindInMarks (MB.copOf op) b = false) : PE X (.Compare a [MB.copOf op] [b] pos) (tEv G H0 (mCmp op A B)) :=
  (pe_cmpR (pos := pos) (MB.op_cmp op c.hu c.K) ha hb hm).imp fun σ H Q ⟨ρ, b, er, S, r⟩ => ev2 er S r fun x y b' H' v w s S' rv rw' r' => by
    obtain ⟨t, e, k⟩ := r'.opt S'
    obtain ⟨j, hj, rfl⟩ := Option.map_eq_some_iff.mp e
    exact ⟨G.al, x, y, j, rv.tv, rw'.tv, hj, k _ (.bl j)⟩
def mCmpT (op : MB.COp) (A B : Env → M T) : Env → M Bool := fun ρ => bnd (A ρ) fun x => bnd (B ρ) fun y => opt (MB.cmpT op x y)
/-- two in a row, a test behind -/
theorem ev2t {σ : L2.St} {H : Hp} {b : Nat} {ρ : Env} {f : T → T → M Bool} {K : Bool → Nat → Hp → Prop} {R : V → V → Hp → Prop} (er : ER G H0 H σ ρ) (S : St G b H) (r : Run G H (bnd (A ρ) fun x => bnd (B ρ) fun y => f x y) b K)
    (k : ∀ x y b' H' v w, Stp G H H' → St G b' H' → RB G H' v x → RB G H' w y → Run G H' (f x y) b' K → R v w H') : tEvB G H0 A σ H fun v H1 => tEvB G H0 B σ H1 fun w H2 => R v w H2 :=
  ⟨ρ, b, er, S, r.bnd.imp fun x b1 H1 s1 S1 r1 v rv => ⟨ρ, b1, er.mono s1 S, S1, r1.bnd.imp fun y b2 H2 s2 S2 r2 w rw' => k x y b2 H2 v w (s1.trans s2) S2 (rv.mono s2 S1) rw' r2⟩⟩
theorem PTimp {t t' : TT} (h : PT X e t) (i : ∀ σ H Q, t' σ H Q → t σ H Q) : PT X e t' := ⟨fun pins s σ H Q I q => h.run pins s σ H Q I (i _ _ _ q)⟩
theorem PWimp {t t' : TT} (h : PW X e t) (i : ∀ σ H Q, t' σ H Q → t σ H Q) : PW X e t' := ⟨fun wh pins s σ H Q I q => h.run wh pins s σ H Q I (i _ _ _ q)⟩
theorem t_cmp (op : MB.COp) (c : Ctx G N sc n X) (ha : PE X a (tEvB G H0 A)) (hb : PE X b (tEvB G H0 B)) (hm : behindInMarks (MB.copOf op) b = false) : PT X (.Compare a [MB.copOf op] [b] pos) (tTv G H0 (mCmpT op A B)) :=
  PTimp (pt_cmpR (pos := pos) (MB.op_cmp op c.hu c.K) ha hb hm) fun σ H Q ⟨ρ, b, er, S, r⟩ => ev2t er S r fun x y b' H' v w s S' rv rw' r' => by
    obtain ⟨j, hj, k⟩ := r'.opt S'
    exact ⟨G.al, x, y, j, rv.tv, rw'.tv, hj, j, rfl, k⟩
def mChn (o1 o2 : MB.COp) (A B D : Env → M T) : Env → M T := fun ρ => bnd (A ρ) fun x => bnd (B ρ) fun y => bnd (opt (MB.cmpT o1 x y)) fun r =>
  if r = true then bnd (D ρ) fun z => opt ((MB.cmpT o2 y z).map .bl) else ret (.bl false)
theorem chn_red (o1 o2 : MB.COp) {σ : L2.St} {H : Hp} {Q : VK} {ρ : Env} {b : Nat} {K : T → Nat → Hp → Prop} (er : ER G H0 H σ ρ) (S : St G b H) (r : Run G H (mChn o1 o2 A B D ρ) b K)
    (hQ : ∀ b' H' k, St G b' H' → K (.bl k) b' H' → Q (.bl k) H') : tChain (MB.rCmp G.g o1) (MB.rCmp G.g o2) (tEvB G H0 A) (tEvB G H0 B) (tEvB G H0 D) σ H Q :=
  ev2 er S r fun x y b' H' v w s S' rv rw' r' => by
    obtain ⟨j, hj, r'⟩ := r'.bnd.opt S'
    refine ⟨G.al, x, y, j, rv.tv, rw'.tv, hj, j, rfl, ?_⟩
    cases j with
    | false => exact hQ b' H' false S' (Run.ret S' r')
    | true => exact ⟨ρ, b', er.mono s S, S', Run.imp (Run.bnd r') fun z b3 H3 s3 S3 r3 w3 rw3 => by
        obtain ⟨t, e, k⟩ := r3.opt S3
        obtain ⟨j, hj, rfl⟩ := Option.map_eq_some_iff.mp e
        exact ⟨G.al, y, z, j, (rw'.mono s3 S').tv, rw3.tv, hj, hQ b3 H3 j S3 k⟩⟩
theorem w_chn (o1 o2 : MB.COp) (c : Ctx G N sc n X) (ha : PE X a (tEvB G H0 A)) (hb : PE X b (tEvB G H0 B)) (hd : PE X d (tEvB G H0 D)) (hm : lastMarks [MB.copOf o1, MB.copOf o2] [b, d] = false) :
    PE X (.Compare a [MB.copOf o1, MB.copOf o2] [b, d] pos) (tEv G H0 (mChn o1 o2 A B D)) :=
  (pe_chain (pos := pos) (MB.op_cmp o1 c.hu c.K) (MB.op_cmp o2 c.hu c.K) ha hb hd hm).imp fun σ H Q ⟨ρ, b, er, S, r⟩ => chn_red o1 o2 er S r fun b' H' k S' h => h _ (.bl k)
/-! ### truth -/
def truW : T → Option Bool
  | .non => some false
  | .bl b => some b
  | .int i => some (i != 0)
  | .lst xs => some (!xs.isEmpty)
  | .tup xs => some (!xs.isEmpty)
  | _ => none
def mTru (m : Env → M T) : Env → M Bool := fun ρ => bnd (m ρ) fun x => opt (truW x)
theorem truV {H : Hp} {v : V} {t : T} {k : Bool} (hK : X.K = G.g.K) (r : RB G H v t) (h : truW t = some k) : TruV X.K v H k := by
  have rv := r.tv
  cases t with
  | non => cases h; rw [rv.non]; rfl
  | bl b => cases h; rw [rv.bl]; rfl
  | int i => cases h; rw [rv.int]; rfl
  | lst xs =>
    cases h
    obtain ⟨p, vs, rfl, hr, rl, _⟩ := rv.lst
    refine .inl ⟨vs, .inl hr, ?_⟩
    cases rl <;> rfl
  | tup xs =>
    cases h
    obtain ⟨p, vs, rfl, hr, rl⟩ := rv.tup
    rw [← hK] at hr
    refine .inr (.inl ⟨vs, hr, ?_⟩)
    cases rl <;> rfl
  | _ => cases h
/-- any expression as a test -/
theorem t_any (c : Ctx G N sc n X) (ha : PE X a (tEvB G H0 A)) (he : ∀ whole, isTrue a X.env whole = (do let v ← whole; standAt a.pos; holding [v] (truthy v)) := by intro _; rfl) : PT X a (tTv G H0 (mTru A)) :=
  PTimp (pt_truth ha he) fun σ H Q ⟨ρ, b, er, S, r⟩ => ⟨ρ, b, er, S, r.bnd.imp fun x b' H' s S' r' v rv => by
    obtain ⟨k, e, q⟩ := r'.opt S'
    exact ⟨k, truV c.K rv e, q⟩⟩
def mNotT (A : Env → M Bool) : Env → M Bool := fun ρ => bnd (A ρ) fun k => ret (!k)
def mAndT (A B : Env → M Bool) : Env → M Bool := fun ρ => bnd (A ρ) fun k => if k = true then B ρ else ret false
def mOrT (A B : Env → M Bool) : Env → M Bool := fun ρ => bnd (A ρ) fun k => if k = true then ret true else B ρ
variable {At Bt Dt : Env → M Bool}
theorem t_not (ha : PT X a (tTv G H0 At)) : PT X (.UnaryOp .Not a pos) (tTv G H0 (mNotT At)) :=
  PTimp (pt_not (pos := pos) ha) fun σ H Q ⟨ρ, b, er, S, r⟩ => ⟨ρ, b, er, S, r.bnd.imp fun k b' H' s S' r' => r'.ret S'⟩
theorem t_and (ha : PT X a (tTv G H0 At)) (hb : PW X (.BoolOp .And (b :: rest) pos) (tTv G H0 Bt)) : PW X (.BoolOp .And (a :: b :: rest) pos) (tTv G H0 (mAndT At Bt)) :=
  PWimp (pw_and ha hb) fun σ H Q ⟨ρ, b, er, S, r⟩ => ⟨ρ, b, er, S, r.bnd.imp fun k b' H' s S' r' => by
    cases k with
    | true => exact ⟨ρ, b', er.mono s S, S', r'⟩
    | false => exact Run.ret S' r'⟩
theorem t_or (ha : PT X a (tTv G H0 At)) (hb : PW X (.BoolOp .Or (b :: rest) pos) (tTv G H0 Bt)) : PW X (.BoolOp .Or (a :: b :: rest) pos) (tTv G H0 (mOrT At Bt)) :=
  PWimp (pw_or ha hb) fun σ H Q ⟨ρ, b, er, S, r⟩ => ⟨ρ, b, er, S, r.bnd.imp fun k b' H' s S' r' => by
    cases k with
    | false => exact ⟨ρ, b', er.mono s S, S', r'⟩
    | true => exact Run.ret S' r'⟩
theorem t_and1 (ha : PT X a (tTv G H0 At)) : PW X (.BoolOp .And [a] pos) (tTv G H0 At) := pw_and1 ha
theorem t_or1 (ha : PT X a (tTv G H0 At)) : PW X (.BoolOp .Or [a] pos) (tTv G H0 At) := pw_or1 ha
/-! ### .. as values -/
def mNot (A : Env → M T) : Env → M T := fun ρ => bnd (A ρ) fun x => bnd (opt (truW x)) fun k => ret (.bl (!k))
def mAnd (A B : Env → M T) : Env → M T := fun ρ => bnd (A ρ) fun x => bnd (opt (truW x)) fun k => if k = true then B ρ else ret x
def mOr (A B : Env → M T) : Env → M T := fun ρ => bnd (A ρ) fun x => bnd (opt (truW x)) fun k => if k = true then ret x else B ρ
def mIf (D : Env → M Bool) (A B : Env → M T) : Env → M T := fun ρ => bnd (D ρ) fun k => if k = true then A ρ else B ρ
theorem w_not (c : Ctx G N sc n X) (ha : PE X a (tEvB G H0 A)) : PE X (.UnaryOp .Not a pos) (tEv G H0 (mNot A)) :=
  (pe_notT (pos := pos) ha).imp fun σ H Q ⟨ρ, b, er, S, r⟩ => ⟨ρ, b, er, S, r.bnd.imp fun x b' H' s S' r' v rv => by
    obtain ⟨k, e, q⟩ := r'.bnd.opt S'
    exact ⟨k, truV c.K rv e, (Run.ret S' q) _ (.bl _)⟩⟩
theorem w_and (c : Ctx G N sc n X) (ha : PE X a (tEv G H0 A)) (hb : PE X (.BoolOp .And (b :: rest) pos) (tEv G H0 B)) : PE X (.BoolOp .And (a :: b :: rest) pos) (tEv G H0 (mAnd A B)) :=
  (pe_andT ha hb).imp fun σ H Q ⟨ρ, b, er, S, r⟩ => ⟨ρ, b, er, S, r.bnd.imp fun x b' H' s S' r' v rv => by
    obtain ⟨k, e, q⟩ := r'.bnd.opt S'
    refine ⟨k, truV c.K (.inl rv) e, ?_⟩
    cases k with
    | true => exact ⟨ρ, b', er.mono s S, S', q⟩
    | false => exact (Run.ret S' q) v rv⟩
theorem w_or (c : Ctx G N sc n X) (ha : PE X a (tEv G H0 A)) (hb : PE X (.BoolOp .Or (b :: rest) pos) (tEv G H0 B)) : PE X (.BoolOp .Or (a :: b :: rest) pos) (tEv G H0 (mOr A B)) :=
  (pe_orT ha hb).imp fun σ H Q ⟨ρ, b, er, S, r⟩ => ⟨ρ, b, er, S, r.bnd.imp fun x b' H' s S' r' v rv => by
    obtain ⟨k, e, q⟩ := r'.bnd.opt S'
    refine ⟨k, truV c.K (.inl rv) e, ?_⟩
    cases k with
    | false => exact ⟨ρ, b', er.mono s S, S', q⟩
    | true => exact (Run.ret S' q) v rv⟩
theorem w_if (hd : PT X d (tTv G H0 Dt)) (ha : PE X a (tEv G H0 A)) (hb : PE X b (tEv G H0 B)) : PE X (.IfExp d a b pos) (tEv G H0 (mIf Dt A B)) :=
  (pe_ifExp (pos := pos) hd ha hb).imp fun σ H Q ⟨ρ, b, er, S, r⟩ => ⟨ρ, b, er, S, r.bnd.imp fun k b' H' s S' r' => by
    cases k with
    | true => exact ⟨ρ, b', er.mono s S, S', r'⟩
    | false => exact ⟨ρ, b', er.mono s S, S', r'⟩⟩
/-! ### displays, arguments -/
variable {es : List Expr} {As : Env → M (List T)}
def aNil : Env → M (List T) := fun _ => ret []
def aCons (A : Env → M T) (As : Env → M (List T)) : Env → M (List T) := fun ρ => bnd (A ρ) fun x => bnd (As ρ) fun xs => ret (x :: xs)
theorem a_nil : PA X [] (tAv G H0 0 aNil) := ⟨fun pos pins s σ H Q I ⟨ρ, b, er, S, r⟩ => pa_nil.run pos pins s σ H Q I ((r.ret S) [] .nil rfl)⟩
theorem PAimp {t t' : TA} (h : PA X es t) (hi : ∀ σ H Q, t' σ H Q → t σ H Q) : PA X es t' := ⟨fun p pins s σ H Q I q => h.run p pins s σ H Q I (hi σ H Q q)⟩
theorem a_cons {k : Nat} (ha : PE X a (tEv G H0 A)) (hr : PA X es (tAv G H0 k As)) (hs : starEach (a :: es) X.env = (false, eval a X.env) :: starEach es X.env := by rfl) : PA X (a :: es) (tAv G H0 (k + 1) (aCons A As)) :=
  PAimp (pa_cons ha hr hs) fun σ H Q ⟨ρ, b, er, S, r⟩ => ⟨ρ, b, er, S, r.bnd.imp fun x b1 H1 s1 S1 r1 v rv => ⟨ρ, b1, er.mono s1 S, S1, r1.bnd.imp fun xs b2 H2 s2 S2 r2 vs rvs hl => (r2.ret S2) (v :: vs) (.cons (rv.mono s2 S1) rvs) (by rw [List.length_cons, hl])⟩⟩
theorem a_u {k : Nat} (h : PA X es (tAv G H0 k As)) : PA X es (tAu G H0 As) := PAimp h fun σ H Q ⟨ρ, b, er, S, r⟩ => ⟨ρ, b, er, S, r.imp fun ts b' H' _ _ k vs rv _ => k vs rv⟩
def mLst (As : Env → M (List T)) : Env → M T := fun ρ => bnd (As ρ) fun xs => opt (if xs.length ≤ 1000 then some (.lst xs) else none)
def mTup (As : Env → M (List T)) : Env → M T := fun ρ => bnd (As ρ) fun xs => opt (if xs.length ≤ 1000 then some (.tup xs) else none)
theorem line1000 {k : Nat} (h : k ≤ 1000) : k ≤ sizeLine := by rw [sizeLine_eq]; omega
theorem w_lst (h : PA X es (tAu G H0 As)) : PE X (.List es pos) (tEvW G H0 (mLst As)) :=
  (pe_lst (pos := pos) h).imp fun σ H Q ⟨ρ, b, er, S, r⟩ => ⟨ρ, b, er, S, r.bnd.imp fun xs b1 H1 s1 S1 r1 vs rv => by
    obtain ⟨t, e, k⟩ := r1.opt S1
    split at e
    · rename_i hl
      cases e
      have hl' : vs.length ≤ sizeLine := by rw [rv.length]; exact line1000 hl
      exact ⟨hl', fun p hp => k _ _ (same_new hp) (ouNew S1 hp rfl trivial (.lst hl' rv))⟩
    · cases e⟩
theorem w_tup {x1} (h : PA X es (tAu G H0 As)) : PE X (.Tuple es x1 pos) (tEvW G H0 (mTup As)) :=
  (pe_tup (pos := pos) h).imp fun σ H Q ⟨ρ, b, er, S, r⟩ => ⟨ρ, b, er, S, r.bnd.imp fun xs b1 H1 s1 S1 r1 vs rv => by
    obtain ⟨t, e, k⟩ := r1.opt S1
    split at e
    · rename_i hl
      cases e
      have hl' : vs.length ≤ sizeLine := by rw [rv.length]; exact line1000 hl
      exact ⟨hl', fun p hp => k _ _ (same_new hp) (.inr ⟨rfl, tupNew hp rv⟩)⟩
    · cases e⟩
end
end Wp

end -- W2
section -- W3
set_option Elab.async false
set_option linter.all false
set_option maxRecDepth 100000
set_option maxHeartbeats 2000000
/-! Built-in functions and subscripts. -/
namespace Wp
open PySem PySem.Spec L2
section
variable {G : Gs} {H0 : Hp} {X : Cx} {N : List Str} {sc : Scope} {n : Nat} {a b d e : Expr} {m A B D : Env → M T} {pos p : Pos} {rest : List Expr}
/-- a built-in of one thing that is read -/
def rF1 (G : Gs) (f : T → Option T) : List V → Hp → VK → Prop := fun vs H Q => ∃ v x t b, vs = [v] ∧ St G b H ∧ RB G H v x ∧ f x = some t ∧ ∀ H' u, Same H H' → Ou G H H' u t → Q u H'
/-- an argument that is read alone -/
theorem a_one (ha : PE X a (tEvB G H0 A)) (hs : starEach [a] X.env = (false, eval a X.env) :: starEach [] X.env := by rfl) {K : T → M T} {r : List V → Hp → VK → Prop} (hr : ∀ x b H v Q, St G b H → RB G H v x → Run G H (K x) b (fun t _ H1 => ∀ H' v, Same H1 H' → Ou G H1 H' v t → Q v H') → r [v] H Q) :
    PA X [a] (fun σ H Q => ∃ W : VK, (∀ vs H', (r vs H' W → Q vs H')) ∧ tEvW G H0 (fun ρ => bnd (A ρ) K) σ H W) := by
  refine PAimp (pa_cons ha pa_nil hs) fun σ H Q ⟨W, i, ρ, b, er, S, q⟩ => ⟨ρ, b, er, S, q.bnd.imp fun x b1 H1 s1 S1 r1 v rv => i _ _ (hr x b1 H1 v W S1 rv r1)⟩
def mB1 (f : T → Option T) (A : Env → M T) : Env → M T := fun ρ => bnd (A ρ) fun x => opt (f x)
theorem red1 {f : T → Option T} {σ : L2.St} {H : Hp} {Q : VK} (q : tEvW G H0 (mB1 f A) σ H Q) : tEvB G H0 A σ H fun v H1 => rF1 G f [v] H1 Q := by
  obtain ⟨ρ, b, er, S, r⟩ := q
  refine ⟨ρ, b, er, S, r.bnd.imp fun x b1 H1 s1 S1 r1 v rv => ?_⟩
  obtain ⟨t, e, k⟩ := r1.opt S1
  exact ⟨v, x, t, b1, rfl, S1, rv, e, k⟩
theorem pa1 {ta : TE} (ha : PE X a ta) (hs : starEach [a] X.env = (false, eval a X.env) :: starEach [] X.env) : PA X [a] (fun σ H Q => ta σ H fun v H1 => Q [v] H1) := PAimp (pa_cons ha pa_nil hs) fun σ H Q q => q
theorem w_b1 {id : String} {x : Str} {f : T → Option T} (hc : CallR X (.builtin id) (rF1 G f)) (hg : Gl X x) (hm : X.mg x = none) (hv : bootBuiltins x = some (.builtin id)) (ha : PE X a (tEvB G H0 A)) (hs : starEach [a] X.env = (false, eval a X.env) :: starEach [] X.env := by rfl)
    (hn : x ≠ "__name__" := by decide) (hdb : (x == ("__debug__" : Str)) = false := by decide) : PE X (.Call (.Name x p) [a] [] pos) (tEvW G H0 (mB1 f A)) :=
  (pe_callB hc hg hm hv (pa1 ha hs) hn hdb hs).imp fun σ H Q q => red1 q
theorem w_t1 {ty : String} {x : Str} {f : T → Option T} (hc : CallR X (.type ty) (rF1 G f)) (hg : Gl X x) (hm : X.mg x = none) (hv : bootBuiltins x = some (.type ty)) (ha : PE X a (tEvB G H0 A)) (hs : starEach [a] X.env = (false, eval a X.env) :: starEach [] X.env := by rfl)
    (hn : x ≠ "__name__" := by decide) (hdb : (x == ("__debug__" : Str)) = false := by decide) : PE X (.Call (.Name x p) [a] [] pos) (tEvW G H0 (mB1 f A)) :=
  (pe_callTy hc hg hm hv (pa1 ha hs) hn hdb hs).imp fun σ H Q q => red1 q
/-- what is no container is handed back as it is -/
theorem w_unW (h : PE X e (tEvW G H0 m)) : PE X e (tEv G H0 m) := shut h
theorem new1 {H : Hp} {b : Nat} {Q : VK} {r : T} {u : HO} (S : St G b H) (k : ∀ H' w, Same H H' → Ou G H H' w r → Q w H') (ho : MB.ownable r = true) (mu : Mut (some u)) (c : MB.Con G.g G.al H u r) {p : Addr} (hp : H p = none) : Q (.ref p) (upd H p u) :=
  k _ _ (same_new hp) (ouNew S hp ho mu c)
def lenW : T → Option T
  | .lst xs => some (.int xs.length)
  | .tup xs => some (.int xs.length)
  | .str x => if x.length ≤ sizeLine then some (.int x.length) else none
  | _ => none
theorem call_lenW (hK : X.K = G.g.K) : CallR X (.builtin "len") (rF1 G lenW) := fun pins s σ H vs us Q I r ⟨v, x, t, b, ev, S, rb, e, k⟩ => by
  subst ev
  have rv := rb.tv
  cases x with
  | lst ts =>
    cases e
    obtain ⟨a, vs, rfl, h, rl, _⟩ := rv.lst
    have q : Q (.int ts.length) H := k H _ (Same.refl _) (ouA rfl (.int _))
    rw [← rl.length] at q
    exact call_len pins s σ H _ us Q I r ⟨_, _, rfl, .inl ⟨vs, .inl h, rfl⟩, q⟩
  | tup ts =>
    cases e
    obtain ⟨a, vs, rfl, h, rl⟩ := rv.tup
    have q : Q (.int ts.length) H := k H _ (Same.refl _) (ouA rfl (.int _))
    rw [← rl.length] at q
    rw [← hK] at h
    exact call_len pins s σ H _ us Q I r ⟨_, _, rfl, .inr ⟨vs, h, rfl⟩, q⟩
  | str x =>
    have e : (if x.length ≤ sizeLine then some (MB.T.int x.length) else none) = some t := e
    split at e
    · rename_i hl
      cases e
      rw [rv.str] at r
      exact call_len pins s σ H _ us Q I r ⟨_, _, rfl, ⟨hl, rfl⟩, k H _ (Same.refl _) (ouA rfl (.int _))⟩
    · cases e
  | _ => cases e
def allW : T → Option T
  | .lst ts => (MB.boolsT ts).map fun l => .bl (l.all id)
  | _ => none
theorem call_allW (hc : X.calm = true) : CallR X (.builtin "all") (rF1 G allW) := fun pins s σ H vs us Q I r ⟨v, x, t, b, ev, S, rb, e, k⟩ => by
  subst ev
  cases x with
  | lst ts =>
    obtain ⟨l, hl, rfl⟩ := Option.map_eq_some_iff.mp e
    obtain ⟨a, vs, rfl, h, rl, _⟩ := rb.tv.lst
    have e := MB.repL_bools hl rl
    subst e
    exact cr_all hc pins s σ H _ us Q I r ⟨a, l, rfl, .inl h, k H _ (Same.refl _) (ouA rfl (.bl _))⟩
  | _ => cases e
def sortedW : T → Option T
  | .lst ts => (MB.strsT ts).bind fun l => if l.length < 64 then some (.lst ((MB.sortS l).map .str)) else none
  | .dct kvs => (MB.strsT (kvs.map (·.1))).bind fun l => if l.length < 64 then some (.lst ((MB.sortS l).map .str)) else none
  | _ => none
theorem dctA {H : Hp} {v : V} {ts : List (T × T)} (r : RB G H v (.dct ts)) (hf : (ts.all fun q => q.1.key.isSome) = true) : ∃ a kvs, v = .ref a ∧ Rd H a (.dK kvs) ∧ MB.RepD G.g G.al H kvs ts ∧ kvs.length ≤ sizeLine := r.tv.dctA hf
theorem call_sortedW (hc : X.calm = true) : CallR X (.builtin "sorted") (rF1 G sortedW) := fun pins s σ H vs us Q I r ⟨v, x, t, b, ev, S, rb, e, k⟩ => by
  subst ev
  have fin : ∀ (l : List Str), t = .lst ((MB.sortS l).map .str) → l.length < 64 → ∀ (ys : List Str) (p : Addr), ys.Perm l → PyProof.Rows.sortedS ys = true → H p = none → Q (.ref p) (upd H p (.lst (ys.map V.str))) := fun l er hl ys p hp hs hn => by
    subst er
    have e := MB.sortS_eq hp hs
    refine new1 (u := .lst (ys.map V.str)) S k rfl trivial (.lst ?_ ?_) hn
    · rw [List.length_map, hp.length_eq, sizeLine_eq]; omega
    · rw [e]; exact MB.strs_repL _
  cases x with
  | lst ts =>
    obtain ⟨l, hl, hb⟩ := Option.bind_eq_some_iff.mp e
    split at hb
    · rename_i h64
      cases hb
      obtain ⟨a, vs, rfl, h, rl, _⟩ := rb.tv.lst
      have e := MB.repL_strs hl rl
      subst e
      exact cr_sortedS pins s σ H _ us Q I r ⟨a, l, rfl, .inl h, h64, fin l rfl h64⟩
    · cases hb
  | dct ts =>
    obtain ⟨l, hl, hb⟩ := Option.bind_eq_some_iff.mp e
    split at hb
    · rename_i h64
      cases hb
      obtain ⟨a, kvs, rfl, h, rd, z⟩ := dctA rb (MB.strs_allkeys hl)
      exact call_sortedD hc pins s σ H _ us Q I r ⟨a, kvs, l, rfl, h, MB.strs_keys rd hl, h64, fin l rfl h64⟩
    · cases hb
  | _ => cases e
def intW : T → Option T
  | .int i => some (.int i)
  | .bl b => some (.int (MB.b2 b))
  | _ => none
theorem call_intW : CallR X (.type "int") (rF1 G intW) := fun pins s σ H vs us Q I r ⟨v, x, t, b, ev, S, rb, e, k⟩ => by
  subst ev
  cases x with
  | int i => cases e; rw [rb.int] at r; exact call_int1 pins s σ H _ us Q I r (.inl ⟨i, rfl, k H _ (Same.refl _) (ouA rfl (.int _))⟩)
  | bl i => cases e; rw [rb.tv.bl] at r; exact call_int1 pins s σ H _ us Q I r (.inr ⟨i, rfl, k H _ (Same.refl _) (ouA rfl (.int _))⟩)
  | _ => cases e
def listW : T → Option T
  | .lst xs => some (.lst xs)
  | .tup xs => some (.lst xs)
  | .dct kvs => if kvs.all (fun p => p.1.key.isSome) then some (.lst (kvs.map (·.1))) else none
  | _ => none
theorem call_listW (hK : X.K = G.g.K) (hc : X.calm = true) : CallR X (.type "list") (rF1 G listW) := fun pins s σ H vs us Q I r ⟨v, x, t, b, ev, S, rb, e, k⟩ => by
  subst ev
  cases x with
  | lst ts =>
    cases e
    obtain ⟨a, vs, rfl, h, rl, z⟩ := rb.tv.lst
    exact call_list_of pins s σ H _ us Q I r ⟨a, vs, rfl, .inl (.inl h), fun p hp => new1 (u := .lst vs) S k rfl trivial (.lst z rl) hp⟩
  | tup ts =>
    cases e
    obtain ⟨a, vs, rfl, h, rl⟩ := rb.tv.tup
    rw [← hK] at h
    obtain ⟨_, _, _, z⟩ := I.tuple h
    exact call_list_of pins s σ H _ us Q I r ⟨a, vs, rfl, .inr h, fun p hp => new1 (u := .lst vs) S k rfl trivial (.lst z rl) hp⟩
  | dct ts =>
    have hb : (if (ts.all fun q => q.1.key.isSome) then some (MB.T.lst (ts.map (·.1))) else none) = some t := e
    split at hb
    · rename_i hf
      cases hb
      obtain ⟨a, kvs, rfl, h, rd, z⟩ := dctA rb hf
      exact call_listD hc pins s σ H _ us Q I r ⟨a, kvs, rfl, h, fun p hp => new1 (u := .lst (kvs.map fun kv => kV kv.1)) S k rfl trivial (.lst (by rw [List.length_map]; exact z) (MB.repD_ks rd)) hp⟩
    · cases hb
  | _ => cases e
/-- dict(d) of a dict with text keys -/
def dictW : T → Option T
  | .dct kvs => if kvs.all (fun p => p.1.key.isSome) then some (.dct kvs) else none
  | _ => none
theorem call_dictW : CallR X (.type "dict") (rF1 G dictW) := fun pins s σ H vs us Q I r ⟨v, x, t, b, ev, S, rb, e, k⟩ => by
  subst ev
  cases x with
  | dct ts =>
    have hb : (if (ts.all fun q => q.1.key.isSome) then some (MB.T.dct ts) else none) = some t := e
    split at hb
    · rename_i hf
      cases hb
      obtain ⟨a, kvs, rfl, h, rd, z⟩ := dctA rb hf
      exact call_dictD pins s σ H _ us Q I r ⟨a, kvs, rfl, h, fun p hp => new1 (u := .dK kvs) S k rfl trivial (.dK z rd) hp⟩
    · cases hb
  | _ => cases e
/-! ### isinstance -/
def tyN : T → String
  | .non => "NoneType" | .bl _ => "bool" | .int _ => "int" | .str _ => "str" | .lst _ => "list" | .tup _ => "tuple" | .dct _ => "dict" | _ => ""
def plain7 : T → Bool
  | .non | .bl _ | .int _ | .str _ | .lst _ | .tup _ | .dct _ => true
  | _ => false
theorem kitW {pins : List (Addr × Obj)} {σ : L2.St} {H : Hp} {s : Shared} {v : V} {t : T} {u : Value} (I : Inv X pins σ H s) (hK : X.K = G.g.K) (ru : RelV v u) (r : RB G H v t) (hp : plain7 t = true) :
    ∃ P : Heap → Prop, PySem.W.KitX X.K u (.type (tyN t)) P ∧ P s.heap ∧ u ≠ .builtin "__main__.__loader__#opaque" := by
  cases t with
  | non => rw [r.tv.non] at ru; cases ru; exact ⟨_, PySem.W.kitx_none, True.intro, fun z => nomatch z⟩
  | bl i => rw [r.tv.bl] at ru; cases ru; exact ⟨_, PySem.W.kitx_bool, True.intro, fun z => nomatch z⟩
  | int i => rw [r.tv.int] at ru; obtain ⟨t, rfl⟩ := ru; exact ⟨_, PySem.W.kitx_int, True.intro, fun z => nomatch z⟩
  | str i => rw [r.tv.str] at ru; obtain ⟨t, rfl⟩ := ru; exact ⟨_, PySem.W.kitx_str, True.intro, fun z => nomatch z⟩
  | lst ts =>
    obtain ⟨a, vs, e, h, _, _⟩ := r.tv.lst
    subst e
    cases ru
    obtain ⟨its, _, ⟨o, n, h1, h2, _⟩, _⟩ := I.list (.inl h)
    exact ⟨_, PySem.W.kitx_list, ⟨o, h1, h2⟩, fun z => nomatch z⟩
  | tup ts =>
    obtain ⟨a, vs, e, h, _⟩ := r.tv.tup
    subst e
    cases ru
    rw [← hK] at h
    obtain ⟨its, _, ⟨o, h1, h2, _⟩, _⟩ := I.tuple h
    exact ⟨_, PySem.W.kitx_tuple, ⟨o, h1, h2⟩, fun z => nomatch z⟩
  | dct ts =>
    obtain ⟨a, e, o, h1, h2⟩ := MB.isD_of I r.tv
    subst e
    cases ru
    exact ⟨_, PySem.W.kitx_dict, ⟨o, h1, h2⟩, fun z => nomatch z⟩
  | _ => cases hp
/-- isinstance(x, T) of a built-in type -/
def isiT (n : String) : T → Option T := fun t => if plain7 t = true then (kitB (tyN t) n).map .bl else none
def rIsiW (G : Gs) (n : String) : List V → Hp → VK → Prop := fun vs H Q => ∃ v x t, vs = [v, .ty n] ∧ RB G H v x ∧ isiT n x = some t ∧ ∀ u, Rp G H u t → Q u H
theorem call_isiW (hK : X.K = G.g.K) (n : String) : CallR X (.builtin "isinstance") (rIsiW G n) := fun pins s σ H vs us Q I r ⟨v, x, t, ev, rb, e, k⟩ => by
  subst ev
  obtain ⟨u1, u2, rfl, r1, r2⟩ := vals2 r
  cases (show u2 = Value.type n from r2)
  unfold isiT at e
  split at e
  · rename_i hp
    obtain ⟨j, hj, rfl⟩ := Option.map_eq_some_iff.mp e
    obtain ⟨P, Z, p, hx⟩ := kitW I hK r1 rb hp
    exact PySem.W.kia_one Z I.kIn p (kit_ty hj) hx fun tk => ⟨.bl j, H, I.tok tk, rfl, k _ (.bl j)⟩
  · cases e
theorem w_isi {n : String} {x : Str} {p1 p2 : Pos} (c : Ctx G N sc k X) (hg : Gl X "isinstance") (hm : X.mg "isinstance" = none) (ht : PE X (.Name x p2) (tC (.ty n))) (ha : PE X a (tEvB G H0 A))
    (hs : starEach [a, .Name x p2] X.env = (false, eval a X.env) :: starEach [.Name x p2] X.env := by rfl) (hs2 : starEach [.Name x p2] X.env = (false, eval (.Name x p2) X.env) :: starEach [] X.env := by rfl) :
    PE X (.Call (.Name "isinstance" p1) [a, .Name x p2] [] pos) (tEv G H0 (mB1 (isiT n) A)) :=
  (pe_callB (call_isiW c.K n) hg hm (by decide +kernel) (pa_cons ha (pa_cons ht pa_nil hs2) hs) (by decide) (by decide) hs).imp fun σ H Q ⟨ρ, b, er, S, r⟩ => ⟨ρ, b, er, S, r.bnd.imp fun x b1 H1 s1 S1 r1 v rv => by
    obtain ⟨t, e, q⟩ := r1.opt S1
    exact ⟨v, x, t, rfl, rv, e, q⟩⟩
end
end Wp

end -- W3
section -- W4
set_option Elab.async false
set_option linter.all false
set_option maxRecDepth 100000
set_option maxHeartbeats 2000000
/-! Subscripts, slices, calls of defs. -/
namespace Wp
open PySem PySem.Spec L2
section
variable {G : Gs} {H0 : Hp} {X : Cx} {N : List Str} {sc : Scope} {n : Nat} {a b d e : Expr} {m A B D : Env → M T} {pos p : Pos} {rest es : List Expr} {As : Env → M (List T)}
/-! ### x[i] -/
def ixW : T → T → Option T
  | .lst xs, .int i => atI xs i
  | .tup xs, .int i => atI xs i
  | .str x, .int i => if x.length ≤ sizeLine then (atI x.cps.toList i).map fun c => .str ⟨#[c]⟩ else none
  | _, _ => none
theorem atL {H : Hp} {vs : List V} {ts : List T} {i : Int} {t : T} (r : RpL G H vs ts) (h : atI ts i = some t) : ∃ v, atI vs i = some v ∧ Rp G H v t := by
  unfold atI at h ⊢
  rw [r.length]
  obtain ⟨j, h1, h2⟩ := Option.bind_eq_some_iff.mp h
  obtain ⟨v, h3, h4⟩ := r.get h2
  exact ⟨v, by rw [h1]; exact h3, h4⟩
def mIx (A B : Env → M T) : Env → M T := fun ρ => bnd (A ρ) fun x => bnd (B ρ) fun y => opt (ixW x y)
theorem w_ix (c : Ctx G N sc n X) (ha : PE X a (tEvB G H0 A)) (hb : PE X b (tEvB G H0 B)) (hs : PlainIx b := by intro _ _; rfl) : PE X (.Subscript a b pos) (tEv G H0 (mIx A B)) :=
  (pe_ix (pos := pos) ix_seq ha hb hs).imp fun σ H Q ⟨ρ, b, er, S, r⟩ => ev2 er S r fun x y b' H' v w s S' rv rw' r' => by
    obtain ⟨t, e, k⟩ := r'.opt S'
    cases y with
    | int i =>
      have ew := rw'.int
      cases x with
      | lst ts =>
        obtain ⟨p, vs, ev, h, rl, _⟩ := rv.tv.lst
        obtain ⟨u, h1, h2⟩ := atL rl e
        exact .inl ⟨p, vs, i, u, ev, ew, .inl h, h1, k u h2⟩
      | tup ts =>
        obtain ⟨p, vs, ev, h, rl⟩ := rv.tv.tup
        obtain ⟨u, h1, h2⟩ := atL rl e
        rw [← c.K] at h
        exact .inr (.inl ⟨p, vs, i, u, ev, ew, h, h1, k u h2⟩)
      | str z =>
        have e : (if z.length ≤ sizeLine then (atI z.cps.toList i).map fun c => MB.T.str ⟨#[c]⟩ else none) = some t := e
        split at e
        · rename_i hz
          obtain ⟨c, hc, rfl⟩ := Option.map_eq_some_iff.mp e
          exact .inr (.inr ⟨z, i, c, rv.str, ew, hz, hc, k _ (.str _)⟩)
        · cases e
      | _ => cases e
    | _ => cases x <;> cases e
/-- d[k] -/
def dgetW : T → T → Option T
  | .dct kvs, k => if (k.key.isSome && MB.dform kvs k) = true then MB.dget kvs k else none
  | _, _ => none
def mDget (A B : Env → M T) : Env → M T := fun ρ => bnd (A ρ) fun x => bnd (B ρ) fun y => opt (dgetW x y)
theorem w_dget (c : Ctx G N sc n X) (ha : PE X a (tEvB G H0 A)) (hb : PE X b (tEvB G H0 B)) (hs : NoSl b := by intro _ _; rfl) : PE X (.Subscript a b pos) (tEv G H0 (mDget A B)) :=
  (pe_dget (pos := pos) (by have := c.hu; omega) ha hb hs).imp fun σ H Q ⟨ρ, b, er, S, r⟩ => ev2 (R := fun v w H => ∃ a u, v = .ref a ∧ DGet H a w (some u) ∧ Q u H) er S r fun x y b' H' v w s S' rv rw' r' => by
    obtain ⟨t, e, k⟩ := r'.opt S'
    cases x with
    | dct kvs =>
      have e : (if (y.key.isSome && MB.dform kvs y) = true then MB.dget kvs y else none) = some t := e
      split at e
      · rename_i hf
        rw [Bool.and_eq_true] at hf
        obtain ⟨ky, hk⟩ := Option.isSome_iff_exists.mp hf.1
        obtain ⟨p, kv, ev, h, rd, _⟩ := rv.tv.dctK hk hf.2
        have ek := MB.key_rep hk rw'.tv
        obtain ⟨u, e1, e2⟩ := (MB.dget_k rd hk).1 t e
        exact ⟨p, u, ev, .inl ⟨kv, ky, h, ek, e1.symm⟩, k u e2⟩
      · cases e
    | _ => cases e
/-! ### slices -/
def cutL (ts : List T) (lo hi : Option Int) : List T := (ts.drop (HT.sIx ts.length 0 lo)).take (HT.sIx ts.length ts.length hi - HT.sIx ts.length 0 lo)
def slW (lo hi : Option Int) : T → Option T
  | .lst xs => some (.lst (cutL xs lo hi))
  | .tup xs => some (.tup (cutL xs lo hi))
  | .str x => if x.length ≤ sizeLine then some (.str (cutS x lo hi)) else none
  | _ => none
def pNone : Env → M (Option Int) := fun _ => ret none
def pSome (A : Env → M T) : Env → M (Option Int) := fun ρ => bnd (A ρ) fun x => opt (match x with | .int i => some (some i) | _ => none)
def tOv (G : Gs) (H0 : Hp) (m : Env → M (Option Int)) : TO := fun σ H Q => ∃ ρ b, ER G H0 H σ ρ ∧ St G b H ∧ Run G H (m ρ) b fun o _ H' => Q o H'
theorem POimp {o : Option Expr} {t t' : TO} (h : PO X o t) (i : ∀ σ H Q, t' σ H Q → t σ H Q) : PO X o t' := ⟨fun pins s σ H Q I q => h.run pins s σ H Q I (i _ _ _ q)⟩
theorem p_none : PO X none (tOv G H0 pNone) := POimp po_none fun σ H Q ⟨ρ, b, er, S, r⟩ => r.ret S
theorem p_some (ha : PE X a (tEvB G H0 A)) : PO X (some a) (tOv G H0 (pSome A)) := POimp (po_some ha) fun σ H Q ⟨ρ, b, er, S, r⟩ => ⟨ρ, b, er, S, r.bnd.imp fun x b1 H1 s1 S1 r1 v rv => by
    obtain ⟨t, e, k⟩ := r1.opt S1
    cases x with
    | int i => cases e; exact ⟨i, rv.int, k⟩
    | _ => cases e⟩
def mSl (A : Env → M T) (P Q : Env → M (Option Int)) : Env → M T := fun ρ => bnd (A ρ) fun x => bnd (P ρ) fun lo => bnd (Q ρ) fun hi => opt (slW lo hi x)
theorem cutRep {H : Hp} {vs : List V} {ts : List T} (lo hi : Option Int) (r : RpL G H vs ts) : RpL G H (cutV vs lo hi) (cutL ts lo hi) := by
  unfold cutV cutL
  rw [r.length]
  exact (MB.RepL.take _ (MB.RepL.drop _ r))
theorem w_sl {lo hi : Option Expr} {P Q : Env → M (Option Int)} {p2 : Pos} (c : Ctx G N sc n X) (ha : PE X a (tEvB G H0 A)) (hl : PO X lo (tOv G H0 P)) (hh : PO X hi (tOv G H0 Q)) : PE X (.Subscript a (.Slice lo hi none p2) pos) (tEvW G H0 (mSl A P Q)) :=
  (pe_slice (pos := pos) (p2 := p2) (sl_list.or (sl_tupA.or sl_str)) ha hl hh).imp fun σ H Qk ⟨ρ, b, er, S, r⟩ => ⟨ρ, b, er, S, r.bnd.imp fun x b1 H1 s1 S1 r1 v rv => ⟨ρ, b1, er.mono s1 S, S1, r1.bnd.imp fun lo b2 H2 s2 S2 r2 => ⟨ρ, b2, (er.mono s1 S).mono s2 S1, S2, r2.bnd.imp fun hi b3 H3 s3 S3 r3 => by
    obtain ⟨t, e, k⟩ := r3.opt S3
    have rv3 : RB G H3 v x := rv.mono (s2.trans s3) S1
    cases x with
    | lst ts =>
      cases e
      obtain ⟨p, vs, ev, h, rl, z⟩ := rv3.tv.lst
      exact .inl ⟨p, vs, ev, .inl h, fun q hq => k _ _ (same_new hq) (ouNew S3 hq rfl trivial (.lst (Nat.le_trans (cutV_length vs lo hi) z) (cutRep lo hi rl)))⟩
    | tup ts =>
      cases e
      have rp : Rp G H3 v (.tup ts) := rv3.elim id fun ⟨_, _, _, _, _, _, c⟩ => by cases c
      obtain ⟨p, vs, ev, h, rl⟩ := rv3.tv.tup
      rw [← c.K] at h
      refine .inr (.inl ⟨p, vs, ev, h, fun ⟨z1, z2⟩ => ?_, fun _ q hq => k _ _ (same_new hq) (.inr ⟨rfl, tupNew hq (cutRep lo hi rl)⟩)⟩)
      refine k _ _ (Same.refl _) (ouA rfl ?_)
      have e : cutL ts lo hi = ts := by
        unfold cutL
        rw [rl.length] at z1 z2
        rw [z1, z2]
        simp
      rw [e, ← ev]
      exact rp
    | str z =>
      have e : (if z.length ≤ sizeLine then some (MB.T.str (cutS z lo hi)) else none) = some t := e
      split at e
      · rename_i hz
        cases e
        exact .inr (.inr ⟨z, rv3.str, hz, k _ _ (Same.refl _) (ouA rfl (.str _))⟩)
      · cases e
    | _ => cases e⟩⟩⟩
theorem revRep {H : Hp} : ∀ {vs : List V} {ts : List T}, RpL G H vs ts → RpL G H vs.reverse ts.reverse
  | _, _, .nil => .nil
  | _, _, .cons a b => by
    rw [List.reverse_cons, List.reverse_cons]
    exact (revRep b).append (.cons a .nil)
/-- xs[::-1] -/
def revW : T → Option T
  | .lst xs => some (.lst xs.reverse)
  | _ => none
theorem w_rev {k : Nat} {p1 p2 p3 : Pos} (ha : PE X a (tEvB G H0 A)) : PE X (.Subscript a (.Slice none none (some (.UnaryOp .USub (.Constant (.int 1) k p1) p2)) p3) pos) (tEvW G H0 (mB1 revW A)) :=
  (pe_revL (pos := pos) (p1 := p1) (p2 := p2) (p3 := p3) (k := k) ha).imp fun σ H Q q => by
    obtain ⟨ρ, b, er, S, r⟩ := red1 q
    exact ⟨ρ, b, er, S, r.imp fun x b1 H1 s1 S1 k v rv => by
      obtain ⟨v', x', t, b2, e0, S2, rv2, e, k⟩ := k v rv
      cases e0
      cases x' with
      | lst ts =>
        cases e
        obtain ⟨p, vs, ev, h, rl, z⟩ := rv2.tv.lst
        exact ⟨p, vs, ev, .inl h, fun q hq => k _ _ (same_new hq) (ouNew S2 hq rfl trivial (.lst (by rw [List.length_reverse]; exact z) (revRep rl)))⟩
      | _ => cases e⟩
/-! ### calls of defs -/
/-- a def's promise: it answers what m wants -/
def spW (g : MB.Gx) (k : Nat) (m : List T → M T) : Sp := fun vs H Q _ => vs.length = k ∧ ∃ (a L C : Addr) (ts : List T) (b : Nat), RpL ⟨g, a, L, C⟩ H vs ts ∧ St ⟨g, a, L, C⟩ b H ∧ Run ⟨g, a, L, C⟩ H (m ts) b fun t _ H' => ∀ v, Rp ⟨g, a, L, C⟩ H' v t → Q v H'
section
variable {CX : CXT} {k j : Nat} {f : Addr} {fd : FuncData} {ps ks : List Str} {sp : Sp} {dvs : List V} {ds : List Value} {E : XK} {x : Str} {t tk : TA} {kws : List Keyword} {g : List Value → List Value → List Value} {gV : List V → List V → List V}
theorem run_fnG {pins : List (Addr × Obj)} {σ : L2.St} {H : Hp} {s : Shared} {Q : VK} {us : List Value} {vs : List V} (F : Gd.FnG X.prog X.w X.K X.mg X.base CX k f fd ps sp) (fr : Gd.Free X.A) (hr : Room k X.A) (hb : Binds X.K fd ps ds) (hd : Vals dvs ds) (hx : Passes CX X E)
    (I : Inv X pins σ H s) (r : Vals vs us) (h : sp (vs ++ dvs) H Q E) : wpAny (model X.prog X.w) X.A (call (.ref f) us) (EP X pins σ Q) X.xe s := by
  have r2 : Vals (vs ++ dvs) (us ++ ds) := r.append hd
  have hl : (us ++ ds).length = ps.length := by rw [← r2.length]; exact F.len _ _ _ _ h
  refine wpAny_call (codeAny_mono (F.go X.A X.stack s H ⟨us, []⟩ (us ++ ds) (vs ++ dvs) Q E fr hr I.env0 (hb s us I.kIn hl) r2 h) fun r s' hq => ?_)
  cases r with
  | error e => exact hx pins σ H s e s' I hq
  | ok fl =>
    cases fl with
    | ret u => exact I.after hq
    | next => exact False.elim hq
    | brk => exact False.elim hq
    | cont => exact False.elim hq
theorem pe_callG (F : Gd.FnG X.prog X.w X.K X.mg X.base CX k f fd ps sp) (fr : Gd.Free X.A) (hr : Room k X.A) (hg : Gl X x) (hm : X.mg x = some (.ref f)) (hk : PySem.W.keepIn X.K (.ref f) = true) (hb : Binds X.K fd ps ds) (hd : Vals dvs ds) (hx : Passes CX X E)
    (ha : PA X (e :: es) t) (hdb : (x == ("__debug__" : Str)) = false := by decide) (he : starEach (e :: es) X.env = (false, eval e X.env) :: starEach es X.env := by rfl) (hpl : (backTo pos (starEach es X.env)).any (·.1) = false := by rfl) :
    PE X (.Call (.Name x p) (e :: es) [] pos) (tCall sp dvs E t) := by
  refine ⟨fun pins s σ H Q I h => ?_⟩
  refine wpAny_Call_Name_kw (ld_glob I hg hm ?_ hdb)
  refine PySem.W.callWith_K (h₀ := X.base) I.ok.mod.kin hk (thn (ha.run pos pins s σ H _ I h) fun us s1 ⟨vs, H1, I1, r, q⟩ => ⟨I1.kIn, ?_⟩) he hpl
  exact run_fnG F fr hr hb hd hx I1 r q
theorem run_fnNG {pins : List (Addr × Obj)} {σ : L2.St} {H : Hp} {s : Shared} {Q : VK} {us ws : List Value} {vs zs : List V} (F : Gd.FnG X.prog X.w X.K X.mg X.base CX k f fd ps sp) (fr : Gd.Free X.A) (hr : Room k X.A) (hb : KBn X.K fd ps n ks g gV) (hx : Passes CX X E)
    (I : Inv X pins σ H s) (r : Vals vs us) (rz : Vals zs ws) (l1 : vs.length = n) (l2 : zs.length = ks.length) (h : sp (gV vs zs) H Q E) : wpAny (model X.prog X.w) X.A (call (.ref f) us (ks.zip ws)) (EP X pins σ Q) X.xe s := by
  have r2 := hb.rel r rz
  refine wpAny_call (codeAny_mono (F.go X.A X.stack s H ⟨us, ks.zip ws⟩ (g us ws) (gV vs zs) Q E fr hr I.env0 (hb.to s us ws I.kIn (r.length.symm.trans l1) (rz.length.symm.trans l2)) r2 h) fun r s' hq => ?_)
  cases r with
  | error e => exact hx pins σ H s e s' I hq
  | ok fl =>
    cases fl with
    | ret u => exact I.after hq
    | next => exact False.elim hq
    | brk => exact False.elim hq
    | cont => exact False.elim hq
theorem pe_callNG (F : Gd.FnG X.prog X.w X.K X.mg X.base CX k f fd ps sp) (fr : Gd.Free X.A) (hr : Room k X.A) (hg : Gl X x) (hm : X.mg x = some (.ref f)) (hk : PySem.W.keepIn X.K (.ref f) = true) (hb : KBn X.K fd ps n ks g gV) (hx : Passes CX X E)
    (ha : PA X (e :: es) t) (hkw : PK X kws tk) (hall : (backToKw pos (keywordEach kws X.env)).all (·.1.isSome) = true := by rfl) (hks : (backToKw pos (keywordEach kws X.env)).filterMap (·.1) = ks := by rfl)
    (hdb : (x == ("__debug__" : Str)) = false := by decide) (he : starEach (e :: es) X.env = (false, eval e X.env) :: starEach es X.env := by rfl)
    (hpl : ((backTo pos (starEach (e :: es) X.env)).any (·.1) || (backToKw pos (keywordEach kws X.env)).any (·.1.isNone)) = false := by rfl) :
    PE X (.Call (.Name x p) (e :: es) kws pos) (tCallN n ks.length sp gV E t tk) := by
  refine ⟨fun pins s σ H Q I h => ?_⟩
  refine wpAny_Call_Name_kw (ld_glob I hg hm ?_ hdb)
  refine PySem.W.callWith_KW (h₀ := X.base) I.ok.mod.kin hk hall (thn (ha.run pos pins s σ H _ I h) fun us s1 ⟨vs, H1, I1, r, q⟩ => ?_) hpl he
  refine thn (hkw.run pos pins s1 σ H1 _ I1 q) fun ws s2 ⟨zs, H2, I2, rz, l1, l2, q2⟩ => ⟨I2.kIn, ?_⟩
  rw [hks]
  exact run_fnNG F fr hr hb hx I2 r rz l1 l2 q2
end
/-- a def that stands at the module's name and keeps a promise -/
structure FnW (g : MB.Gx) (x : Str) (k lv : Nat) (m : List T → M T) : Prop where
  ex : ∃ (f : Addr) (fd : FuncData) (ps : List Str), Gd.FnG g.prog g.w g.K g.mg g.base CX0 lv f fd ps (spW g k m) ∧ g.mg x = some (.ref f) ∧ PySem.W.keepIn g.K (.ref f) = true ∧ Binds g.K fd ps []
def mCall (m : List T → M T) (As : Env → M (List T)) : Env → M T := fun ρ => bnd (As ρ) m
theorem w_call {x : Str} {k lv : Nat} {mf : List T → M T} (c : Ctx G N sc n X) (F : FnW G.g x k lv mf) (hl : lv ≤ n) (hg : Gl X x) (ha : PA X (e :: es) (tAv G H0 k As)) (hdb : (x == ("__debug__" : Str)) = false := by decide)
    (he : starEach (e :: es) X.env = (false, eval e X.env) :: starEach es X.env := by rfl) (hpl : (backTo pos (starEach es X.env)).any (·.1) = false := by rfl) : PE X (.Call (.Name x p) (e :: es) [] pos) (tEv G H0 (mCall mf As)) := by
  obtain ⟨f, fd, ps, F, h1, h2, h3⟩ := F.ex
  rw [← c.prog, ← c.w, ← c.K, ← c.mg, ← c.base] at F
  rw [← c.mg] at h1
  rw [← c.K] at h2 h3
  refine (pe_callG (p := p) (pos := pos) F c.free (c.room.mono hl) hg h1 h2 h3 .nil pass0 ha hdb he hpl).imp fun σ H Q ⟨ρ, b, er, S, r⟩ => ?_
  refine ⟨ρ, b, er, S, r.bnd.imp fun ts b1 H1 s1 S1 r1 vs rv hl => ?_⟩
  show spW G.g k mf (vs ++ []) H1 Q E0
  rw [List.append_nil]
  exact ⟨hl, G.a, G.L, G.C, ts, b1, rv, S1, r1⟩
end
end Wp

end -- W4
section -- W5
set_option Elab.async false
set_option linter.all false
set_option maxRecDepth 100000
set_option maxHeartbeats 2000000
/-! Statements. -/
namespace Wp
open PySem PySem.Spec L2
inductive Fl where
  | nx (ρ : Env) | rt (t : T) | bk (ρ : Env) | ct (ρ : Env)
/-- a statement: from the entry's heap H0 and the statement's own, H -/
def RunS {α : Type} (G : Gs) (H0 H : Hp) (x : M α) (b : Nat) (K : α → Nat → Hp → Prop) : Prop := ∃ R, x b R ∧ ∀ t b', R t b' → ∀ H', Stp G H0 H' → MB.Stay H H' → St G b' H' → K t b' H'
section
variable {G : Gs} {b b' : Nat} {H0 H H' H2 : Hp} {α β : Type}
theorem RunS.ret {a : α} {K : α → Nat → Hp → Prop} (k : Stp G H0 H) (S : St G b H) (h : RunS G H0 H (Wp.ret a) b K) : K a b H := by
  obtain ⟨R, h, q⟩ := h
  exact q a b h H k .rfl' S
theorem RunS.bnd {x : M α} {f : α → M β} {K : β → Nat → Hp → Prop} (h : RunS G H0 H (Wp.bnd x f) b K) : RunS G H0 H x b fun a b' H' => RunS G H0 H' (f a) b' K := by
  obtain ⟨R, h, k⟩ := h
  exact ⟨_, h, fun a b' r H' s y S => ⟨R, r, fun t b2 r2 H2 s2 y2 S2 => k t b2 r2 H2 s2 (y.trans y2) S2⟩⟩
theorem RunS.opt {o : Option α} {K : α → Nat → Hp → Prop} (k : Stp G H0 H) (S : St G b H) (h : RunS G H0 H (Wp.opt o) b K) : ∃ a, o = some a ∧ K a b H := by
  obtain ⟨R, ⟨a, e, r⟩, q⟩ := h
  exact ⟨a, e, q a b r H k .rfl' S⟩
theorem RunS.imp {x : M α} {K K' : α → Nat → Hp → Prop} (h : RunS G H0 H x b K) (i : ∀ a b' H', Stp G H0 H' → MB.Stay H H' → St G b' H' → K a b' H' → K' a b' H') : RunS G H0 H x b K' := by
  obtain ⟨R, h, k⟩ := h
  exact ⟨R, h, fun t b' r H' s y S => i t b' H' s y S (k t b' r H' s y S)⟩
/-- an expression within a statement -/
theorem RunS.ex {x : M α} {f : α → M β} {K : β → Nat → Hp → Prop} (k0 : Stp G H0 H) (S0 : St G b H) (h : RunS G H0 H (Wp.bnd x f) b K) : Run G H x b fun a b' H' => RunS G H0 H' (f a) b' K := by
  obtain ⟨R, h, k⟩ := h
  exact ⟨_, h, fun a b' r H' s S => ⟨R, r, fun t b2 r2 H2 s2 y2 S2 => k t b2 r2 H2 s2 ((s.stay S0).trans y2) S2⟩⟩
theorem RunS.at {x : M α} {K : α → Nat → Hp → Prop} (h : RunS G H0 H x b K) (y : MB.Stay H H') : RunS G H0 H' x b K := by
  obtain ⟨R, h, k⟩ := h
  exact ⟨R, h, fun t b' r H2 s2 y2 S => k t b' r H2 s2 (y.trans y2) S⟩
end
def post (G : Gs) (H0 : Hp) (D : Ends) : Fl → Nat → Hp → Prop := fun f _ H' => match f with
  | .nx ρ => ∀ σ, ER G H0 H' σ ρ → D.nx σ H'
  | .rt t => ∀ v, Rp G H' v t → D.rt v H'
  | .bk ρ => ∀ σ, ER G H0 H' σ ρ → D.bk σ H'
  | .ct ρ => ∀ σ, ER G H0 H' σ ρ → D.ct σ H'
def tSv (G : Gs) (H0 : Hp) (m : Env → M Fl) : TS := fun D σ H => ∃ ρ b, ER G H0 H σ ρ ∧ Stp G H0 H ∧ St G b H ∧ RunS G H0 H (m ρ) b (post G H0 D)
section
variable {G : Gs} {b : Nat} {H0 H H' : Hp} {σ : L2.St} {ρ : Env} {i j : Nat} {t u : T} {v w : V}
/-! ### slots that change -/
theorem ER.setSh (h : ER G H0 H σ ρ) (i : Nat) (r : Rp G H v t) : ER G H0 H (σ.set i (some v)) (ρ.set i (some (.sh t))) := by
  refine ⟨by simp [h.len], fun j s e => ?_, fun j k t u n e1 e2 => ?_⟩
  · by_cases hj : j = i
    · subst hj
      have hlt : j < ρ.length := by
        have := (List.getElem?_eq_some_iff.mp e).1
        simpa using this
      rw [List.getElem?_set_self hlt] at e
      cases e
      exact ⟨some v, by rw [List.getElem?_set_self (by rw [h.len]; exact hlt)], v, rfl, r⟩
    · rw [List.getElem?_set_ne (Ne.symm hj)] at e ⊢
      exact h.sl j s e
  · have nj : j ≠ i := fun z => by
      subst z
      have hlt : j < ρ.length := by
        have := (List.getElem?_eq_some_iff.mp e1).1
        simpa using this
      rw [List.getElem?_set_self hlt] at e1
      cases e1
    have nk : k ≠ i := fun z => by
      subst z
      have hlt : k < ρ.length := by
        have := (List.getElem?_eq_some_iff.mp e2).1
        simpa using this
      rw [List.getElem?_set_self hlt] at e2
      cases e2
    rw [List.getElem?_set_ne (Ne.symm nj)] at e1 ⊢
    rw [List.getElem?_set_ne (Ne.symm nk)] at e2 ⊢
    exact h.apart j k t u n e1 e2
/-- an own container comes; no other slot holds it -/
theorem ER.setOw (h : ER G H0 H σ ρ) (i : Nat) {p : Addr} {o : HO} (np : p ∉ G.al) (h0 : N0 H0 p) (hp : H p = some o) (mu : Mut (some o)) (c : MB.Con G.g G.al H o t)
    (fr : ∀ j u, j ≠ i → ρ[j]? = some (some (MB.Sl.ow u)) → σ[j]? ≠ some (some (V.ref p))) : ER G H0 H (σ.set i (some (.ref p))) (ρ.set i (some (.ow t))) := by
  refine ⟨by simp [h.len], fun j s e => ?_, fun j k t' u n e1 e2 => ?_⟩
  · by_cases hj : j = i
    · subst hj
      have hlt : j < ρ.length := by
        have := (List.getElem?_eq_some_iff.mp e).1
        simpa using this
      rw [List.getElem?_set_self hlt] at e
      cases e
      exact ⟨some (.ref p), by rw [List.getElem?_set_self (by rw [h.len]; exact hlt)], p, o, rfl, np, h0, hp, mu, c⟩
    · rw [List.getElem?_set_ne (Ne.symm hj)] at e ⊢
      exact h.sl j s e
  · by_cases hj : j = i
    · subst hj
      have hlt : j < ρ.length := by
        have := (List.getElem?_eq_some_iff.mp e1).1
        simpa using this
      rw [List.getElem?_set_self (by rw [h.len]; exact hlt)]
      rw [List.getElem?_set_ne n] at e2 ⊢
      exact fun z => fr k u (Ne.symm n) e2 z.symm
    · rw [List.getElem?_set_ne (Ne.symm hj)] at e1 ⊢
      by_cases hk : k = i
      · subst hk
        have hlt : k < ρ.length := by
          have := (List.getElem?_eq_some_iff.mp e2).1
          simpa using this
        rw [List.getElem?_set_self (by rw [h.len]; exact hlt)]
        exact fr j t' hj e1
      · rw [List.getElem?_set_ne (Ne.symm hk)] at e2 ⊢
        exact h.apart j k t' u n e1 e2
/-- an own slot as it stands -/
theorem ER.own (h : ER G H0 H σ ρ) (e : MB.owS ρ i = some t) : ∃ p o, σ[i]? = some (some (V.ref p)) ∧ p ∉ G.al ∧ N0 H0 p ∧ H p = some o ∧ Mut (some o) ∧ MB.Con G.g G.al H o t ∧ ρ[i]? = some (some (.ow t)) := by
  unfold MB.owS at e
  split at e
  · rename_i t' q
    cases e
    obtain ⟨v, h1, p, o, h2, n, h0, hp, mu, c⟩ := h.sl i _ q
    subst h2
    exact ⟨p, o, h1, n, h0, hp, mu, c, q⟩
  · cases e
theorem stay_upd {p : Addr} {o o' : HO} (hp : H p = some o) (mu : Mut (some o)) : MB.Stay H (upd H p o') :=
  ⟨fun a x u e => by rw [upd_ne (fun z => by rw [z, hp] at e; cases e; exact mu)]; exact e, fun a xs e => by rw [upd_ne (fun z => by rw [z, hp] at e; cases e; exact mu)]; exact e⟩
theorem stp_upd (k : Stp G H0 H) {p : Addr} {o' : HO} (h0 : N0 H0 p) : Stp G H0 (upd H p o') := fun b x e n1 n2 m => by
  rw [upd_ne (fun z => by subst z; obtain ⟨ps, q⟩ := h0 _ e; exact m ps q)]
  exact k b x e n1 n2 m
/-- the own container at p is changed: all slots but i are as they were -/
theorem ER.change (h : ER G H0 H σ ρ) {p : Addr} {o o' : HO} (hσ : σ[i]? = some (some (V.ref p))) (hρ : ρ[i]? = some (some (MB.Sl.ow t))) (np : p ∉ G.al) (h0 : N0 H0 p) (hp : H p = some o) (mu : Mut (some o)) (mu' : Mut (some o'))
    (c : MB.Con G.g G.al (upd H p o') o' u) : ER G H0 (upd H p o') σ (ρ.set i (some (.ow u))) := by
  have sy := stay_upd (o' := o') hp mu
  have hlt : i < ρ.length := (List.getElem?_eq_some_iff.mp hρ).1
  refine ⟨by simp [h.len], fun j s e => ?_, fun j k t' u' n e1 e2 => ?_⟩
  · by_cases hj : j = i
    · subst hj
      rw [List.getElem?_set_self hlt] at e
      cases e
      exact ⟨_, hσ, p, o', rfl, np, h0, upd_same, mu', c⟩
    · rw [List.getElem?_set_ne (Ne.symm hj)] at e
      obtain ⟨x, h1, h2⟩ := h.sl j s e
      refine ⟨x, h1, ?_⟩
      cases s with
      | sh t => obtain ⟨y, e1, r⟩ := h2; exact ⟨y, e1, MB.Rep.mono List.prefix_rfl sy r⟩
      | ow t' =>
        obtain ⟨q, z, e1, n, g0, hq, m, c'⟩ := h2
        refine ⟨q, z, e1, n, g0, ?_, m, MB.Con.mono List.prefix_rfl sy c'⟩
        rw [upd_ne fun z => ?_]
        · exact hq
        · subst z e1
          exact h.apart j i t' t hj e hρ (h1.trans hσ.symm)
  · have at' : ∀ k u', (ρ.set i (some (MB.Sl.ow u)))[k]? = some (some (MB.Sl.ow u')) → ∃ w, ρ[k]? = some (some (MB.Sl.ow w)) := fun k u' e => by
      by_cases hk : k = i
      · exact ⟨t, by rw [hk]; exact hρ⟩
      · rw [List.getElem?_set_ne (Ne.symm hk)] at e
        exact ⟨u', e⟩
    obtain ⟨w1, q1⟩ := at' j t' e1
    obtain ⟨w2, q2⟩ := at' k u' e2
    exact h.apart j k w1 w2 n q1 q2
/-- an own container is shut -/
theorem ER.lock (h : ER G H0 H σ ρ) {p : Addr} {o : HO} {od : Obj} (hσ : σ[i]? = some (some (V.ref p))) (hρ : ρ[i]? = some (some (MB.Sl.ow t))) (hp : H p = some o) (mu : Mut (some o)) (c : MB.Con G.g G.al H o t) :
    ER G H0 (upd H p (.frz od o)) σ (ρ.set i (some (.sh t))) := by
  have sy := stay_upd (o' := .frz od o) hp mu
  have hlt : i < ρ.length := (List.getElem?_eq_some_iff.mp hρ).1
  refine ⟨by simp [h.len], fun j s e => ?_, fun j k t' u' n e1 e2 => ?_⟩
  · by_cases hj : j = i
    · subst hj
      rw [List.getElem?_set_self hlt] at e
      cases e
      exact ⟨_, hσ, _, rfl, .con upd_same (MB.Con.mono List.prefix_rfl sy c)⟩
    · rw [List.getElem?_set_ne (Ne.symm hj)] at e
      obtain ⟨x, h1, h2⟩ := h.sl j s e
      refine ⟨x, h1, ?_⟩
      cases s with
      | sh t => obtain ⟨y, e1, r⟩ := h2; exact ⟨y, e1, MB.Rep.mono List.prefix_rfl sy r⟩
      | ow t' =>
        obtain ⟨q, z, e1, n, g0, hq, m, c'⟩ := h2
        refine ⟨q, z, e1, n, g0, ?_, m, MB.Con.mono List.prefix_rfl sy c'⟩
        rw [upd_ne fun z => ?_]
        · exact hq
        · subst z e1
          exact h.apart j i t' t hj e hρ (h1.trans hσ.symm)
  · have at' : ∀ k u', (ρ.set i (some (MB.Sl.sh t)))[k]? = some (some (MB.Sl.ow u')) → ρ[k]? = some (some (MB.Sl.ow u')) := fun k u' e => by
      by_cases hk : k = i
      · rw [hk, List.getElem?_set_self hlt] at e; cases e
      · rw [List.getElem?_set_ne (Ne.symm hk)] at e
        exact e
    exact h.apart j k _ _ n (at' j t' e1) (at' k u' e2)
end
section
variable {G : Gs} {H0 : Hp} {X : Cx} {N : List Str} {sc : Scope} {n : Nat} {a bb d e : Expr} {A B D : Env → M T} {pos p : Pos} {st : Stmt} {rest : List Stmt} {m m' : Env → M Fl}
theorem PSimp {t t' : TS} (h : PS X st t) (i : ∀ D σ H, t' D σ H → t D σ H) : PS X st t' := ⟨fun pins s σ H D I q => h.run pins s σ H D I (i _ _ _ q)⟩
theorem PSsimp {t t' : TS} (h : PSs X rest t) (i : ∀ D σ H, t' D σ H → t D σ H) : PSs X rest t' := ⟨fun pins s σ H D I q => h.run pins s σ H D I (i _ _ _ q)⟩
/-! ### blocks -/
def sNil : Env → M Fl := fun ρ => ret (.nx ρ)
def sSeq (m m' : Env → M Fl) : Env → M Fl := fun ρ => bnd (m ρ) fun f => match f with
  | .nx ρ' => m' ρ'
  | f => ret f
theorem s_nil : PSs X [] (tSv G H0 sNil) := PSsimp pss_nil fun D σ H ⟨ρ, b, er, k, S, r⟩ => (r.ret k S) σ er
theorem s_cons (h1 : PS X st (tSv G H0 m)) (h2 : PSs X rest (tSv G H0 m')) : PSs X (st :: rest) (tSv G H0 (sSeq m m')) :=
  PSsimp (pss_cons h1 h2) fun D σ H ⟨ρ, b, er, k, S, r⟩ => ⟨ρ, b, er, k, S, r.bnd.imp fun f b' H' k' y S' q => by
    cases f with
    | nx ρ' => exact fun σ' er' => ⟨ρ', b', er', k', S', q⟩
    | rt t => have q' := RunS.ret (K := post G H0 D) k' S' q; exact q'
    | bk ρ' => have q' := RunS.ret (K := post G H0 D) k' S' q; exact q'
    | ct ρ' => have q' := RunS.ret (K := post G H0 D) k' S' q; exact q'⟩
theorem s_one (h1 : PS X st (tSv G H0 m)) : PSs X [st] (tSv G H0 m) := pss_one h1
/-! ### assignments -/
def sSet (i : Nat) (A : Env → M T) : Env → M Fl := fun ρ => bnd (A ρ) fun t => ret (.nx (ρ.set i (some (.sh t))))
theorem s_set {i : Nat} {x : Str} {pos' : Pos} (c : Ctx G N sc n X) (hi : N[i]? = some x) (hx : Loc sc x) (ha : PE X e (tEv G H0 A)) (hs : swapsWith e (some (.Name x pos')) pos.line X.env = pure false := by rfl)
    (hf : X.fn x = true ∨ X.env.scope.names.lookup x = some .local := by first | exact .inl rfl | exact .inr rfl | assumption) : PS X (.Assign [.Name x pos'] e pos) (tSv G H0 (sSet i A)) :=
  PSimp (ps_set (pos' := pos') (by rw [c.hN]; exact c.nd) (by rw [c.hN]; exact hi) (by rw [c.hsc]; exact hx) ha hs hf) fun D σ H ⟨ρ, b, er, k, S, r⟩ => ⟨ρ, b, er, S, (r.ex k S).imp fun t b' H' s S' q v rv => (q.ret (k.trans s) S') _ ((er.mono s S).setSh i rv)⟩
/-- name = a new container, held by this name alone -/
def sOwn (i : Nat) (A : Env → M T) : Env → M Fl := fun ρ => bnd (A ρ) fun t => opt (if MB.ownable t = true then some (.nx (ρ.set i (some (.ow t)))) else none)
theorem ouOwn {H1 H' : Hp} {v : V} {t : T} (o : Ou G H1 H' v t) (ho : MB.ownable t = true) : ∃ p u, v = .ref p ∧ p ∉ G.al ∧ H1 p = none ∧ H' p = some u ∧ Mut (some u) ∧ MB.Con G.g G.al H' u t := by
  rcases o with ⟨_, p, u, h⟩ | ⟨h, _⟩
  · exact ⟨p, u, h⟩
  · rw [ho] at h; cases h
theorem new0 {H H1 : Hp} {p : Addr} (k : Stp G H H1) (np : p ∉ G.al) (h : H1 p = none) : N0 H p := fun u e => by
  simp only [Gs.al, List.mem_cons, List.mem_nil_iff, or_false, not_or] at np
  refine Classical.byContradiction fun z => ?_
  rw [k p u e np.1 np.2.1 (fun ps q => z ⟨ps, q⟩)] at h
  cases h
theorem ER.fresh {H : Hp} {σ : L2.St} {ρ : Env} (er : ER G H0 H σ ρ) {p : Addr} (hp : H p = none) (j : Nat) (u : T) (e : ρ[j]? = some (some (MB.Sl.ow u))) : σ[j]? ≠ some (some (V.ref p)) := fun z => by
  obtain ⟨v, h1, q, o, h2, _, _, hq, _⟩ := er.sl j _ e
  subst h2
  rw [h1] at z
  cases z
  rw [hp] at hq
  cases hq
theorem ER.more {H H' : Hp} {σ : L2.St} {ρ : Env} {b : Nat} (er : ER G H0 H σ ρ) (S : St G b H) (s : Same H H') : ER G H0 H' σ ρ := er.mono (.same s) S
theorem s_own {i : Nat} {x : Str} {pos' : Pos} (c : Ctx G N sc n X) (hi : N[i]? = some x) (hx : Loc sc x) (ha : PE X e (tEvW G H0 A)) (hs : swapsWith e (some (.Name x pos')) pos.line X.env = pure false := by rfl)
    (hf : X.fn x = true ∨ X.env.scope.names.lookup x = some .local := by first | exact .inl rfl | exact .inr rfl | assumption) : PS X (.Assign [.Name x pos'] e pos) (tSv G H0 (sOwn i A)) :=
  PSimp (ps_set (pos' := pos') (by rw [c.hN]; exact c.nd) (by rw [c.hN]; exact hi) (by rw [c.hsc]; exact hx) ha hs hf) fun D σ H ⟨ρ, b, er, k, S, r⟩ => ⟨ρ, b, er, S, (r.ex k S).imp fun t b' H1 s S' q H' v sm o => by
    have k' : Stp G H0 H' := (k.trans s).trans (.same sm)
    obtain ⟨f, ef, q⟩ := (q.at (Stp.stay (.same sm) S')).opt k' (S'.same sm)
    split at ef
    · rename_i ho
      cases ef
      obtain ⟨p, u, rfl, np, h1, hp, mu, cn⟩ := ouOwn o ho
      have er1 := er.mono s S
      exact q _ ((er1.more S' sm).setOw i np (new0 (k.trans s) np h1) hp mu cn fun j w _ e => er1.fresh h1 j w e)
    · cases ef⟩
/-- an expression alone -/
def sEx (A : Env → M T) : Env → M Fl := fun ρ => bnd (A ρ) fun _ => ret (.nx ρ)
theorem s_ex (ha : PE X e (tEv G H0 A)) (hs : swapsWith e none pos.line X.env = pure false := by rfl) : PS X (.Expr e pos) (tSv G H0 (sEx A)) :=
  PSimp (ps_expr (pos := pos) ha hs) fun D σ H ⟨ρ, b, er, k, S, r⟩ => ⟨ρ, b, er, S, (r.ex k S).imp fun t b' H' s S' q v rv => (q.ret (k.trans s) S') _ (er.mono s S)⟩
def sPass : Env → M Fl := fun ρ => ret (.nx ρ)
theorem s_pass : PS X (.Pass pos) (tSv G H0 sPass) := PSimp ps_pass fun D σ H ⟨ρ, b, er, k, S, r⟩ => (r.ret k S) σ er
/-! ### return, if -/
def sRet (A : Env → M T) : Env → M Fl := fun ρ => bnd (A ρ) fun t => ret (.rt t)
theorem s_ret (ha : PE X e (tEv G H0 A)) : PS X (.Return (some e) pos) (tSv G H0 (sRet A)) :=
  PSimp (ps_ret (pos := pos) ha) fun D σ H ⟨ρ, b, er, k, S, r⟩ => ⟨ρ, b, er, S, (r.ex k S).imp fun t b' H' s S' q v rv => (q.ret (k.trans s) S') v rv⟩
def sIf (C : Env → M Bool) (m m' : Env → M Fl) : Env → M Fl := fun ρ => bnd (C ρ) fun k => if k = true then m ρ else m' ρ
theorem s_if {C : Env → M Bool} {x y : List Stmt} (hc : PT X e (tTv G H0 C)) (h1 : PSs X x (tSv G H0 m)) (h2 : PSs X y (tSv G H0 m')) : PS X (.If e x y pos) (tSv G H0 (sIf C m m')) :=
  PSimp (ps_if (pos := pos) hc h1 h2) fun D σ H ⟨ρ, b, er, k, S, r⟩ => ⟨ρ, b, er, S, (r.ex k S).imp fun t b' H' s S' q => by
    cases t with
    | true => exact ⟨ρ, b', er.mono s S, k.trans s, S', q⟩
    | false => exact ⟨ρ, b', er.mono s S, k.trans s, S', q⟩⟩
/-- the own container at slot i is shut -/
def sShut (i : Nat) : Env → M Fl := fun ρ => opt ((MB.owS ρ i).map fun t => .nx (ρ.set i (some (.sh t))))
theorem ss_shut (i : Nat) (h : PSs X rest (tSv G H0 m)) : PSs X rest (tSv G H0 (sSeq (sShut i) m)) := by
  refine ⟨fun pins s σ H D I ⟨ρ, b, er, k, S, r⟩ => ?_⟩
  obtain ⟨f, e, q⟩ := r.bnd.opt k S
  obtain ⟨t, ht, rfl⟩ := Option.map_eq_some_iff.mp e
  obtain ⟨p, o, hσ, np, h0, hp, mu, cn, hρ⟩ := er.own ht
  obtain ⟨od, J⟩ := I.lock hp mu
  exact h.run pins s σ _ D J ⟨_, b, er.lock hσ hρ hp mu cn, stp_upd k h0, S.upd np (nt1 hp (nt_con cn)), q.at (stay_upd hp mu)⟩
/-- return name, an own container's -/
def sRetOw (i : Nat) : Env → M Fl := fun ρ => opt ((MB.rdB ρ i).map fun t => .rt t)
theorem s_retOw {i : Nat} {x : Str} (c : Ctx G N sc n X) (hi : N[i]? = some x) (hv : Vis sc x) (hd : (x == ("__debug__" : Str)) = false := by decide) (hcd : (x == ("__classdict__" : Str)) = false := by decide) : PS X (.Return (some (.Name x p)) pos) (tSv G H0 (sRetOw i)) := by
  refine ⟨fun pins s σ H D I ⟨ρ, b, er, k, S, r⟩ => ?_⟩
  obtain ⟨f, e, q⟩ := r.opt k S
  obtain ⟨t, ht, rfl⟩ := Option.map_eq_some_iff.mp e
  unfold MB.rdB at ht
  split at ht
  · rename_i t' hq
    cases ht
    obtain ⟨v, h1, x', h2, rp⟩ := er.sl i _ hq
    subst h2
    exact (ps_ret (pos := pos) (pe_var (pos := p) (i := i) (by rw [c.hN]; exact hi) (by rw [c.hsc]; exact hv) hd hcd)).run pins s σ H D I ⟨_, h1, q _ rp⟩
  · rename_i t' hq
    cases ht
    obtain ⟨p', o, hσ, np, h0, hp, mu, cn, hρ⟩ := er.own (t := t) (i := i) (by unfold MB.owS; rw [hq])
    obtain ⟨od, J⟩ := I.lock hp mu
    have q' := (r.at (H' := upd H p' (.frz od o)) (stay_upd hp mu)).opt (stp_upd k h0) (S.upd np (nt1 hp (nt_con cn)))
    obtain ⟨f, e2, q'⟩ := q'
    rw [e] at e2
    cases e2
    exact (ps_ret (pos := pos) (pe_var (pos := p) (i := i) (by rw [c.hN]; exact hi) (by rw [c.hsc]; exact hv) hd hcd)).run pins s σ _ D J ⟨_, hσ, q' _ (.con upd_same (MB.Con.mono List.prefix_rfl (stay_upd hp mu) cn))⟩
  · cases ht
end
end Wp

end -- W5
section -- W6
set_option Elab.async false
set_option linter.all false
set_option maxRecDepth 100000
set_option maxHeartbeats 2000000
/-! Own containers change; pairs of names. -/
namespace Wp
open PySem PySem.Spec L2
section
variable {G : Gs} {H0 : Hp} {X : Cx} {N : List Str} {sc : Scope} {n : Nat} {a bb d e : Expr} {A B D : Env → M T} {pos p : Pos} {st : Stmt} {rest : List Stmt} {m m' : Env → M Fl}
/-! ### xs.append(e) -/
def ownL (ρ : Env) (i : Nat) : Option (List T) := match MB.owS ρ i with
  | some (.lst xs) => some xs
  | _ => none
def ownD (ρ : Env) (i : Nat) : Option (List (T × T)) := match MB.owS ρ i with
  | some (.dct xs) => some xs
  | _ => none
theorem ownL_ow {ρ : Env} {i : Nat} {xs : List T} (h : ownL ρ i = some xs) : MB.owS ρ i = some (.lst xs) := by
  unfold ownL at h
  split at h
  · rename_i q; cases h; exact q
  · cases h
theorem ownD_ow {ρ : Env} {i : Nat} {xs : List (T × T)} (h : ownD ρ i = some xs) : MB.owS ρ i = some (.dct xs) := by
  unfold ownD at h
  split at h
  · rename_i q; cases h; exact q
  · cases h
theorem ER.ownL {H : Hp} {σ : L2.St} {ρ : Env} {i : Nat} {ts : List T} (h : ER G H0 H σ ρ) (e : Wp.ownL ρ i = some ts) : ∃ q vs, σ[i]? = some (some (V.ref q)) ∧ q ∉ G.al ∧ N0 H0 q ∧ H q = some (.lst vs) ∧ RpL G H vs ts ∧ vs.length ≤ sizeLine ∧ ρ[i]? = some (some (.ow (.lst ts))) := by
  obtain ⟨q, o, hσ, np, h0, hp, mu, c, hρ⟩ := h.own (ownL_ow e)
  cases c with
  | lst z r => exact ⟨q, _, hσ, np, h0, hp, r, z, hρ⟩
theorem ER.ownD {H : Hp} {σ : L2.St} {ρ : Env} {i : Nat} {ts : List (T × T)} (h : ER G H0 H σ ρ) (e : Wp.ownD ρ i = some ts) (hk : (ts.all fun q => q.1.key.isSome) = true) : ∃ q vs, σ[i]? = some (some (V.ref q)) ∧ q ∉ G.al ∧ N0 H0 q ∧ H q = some (.dK vs) ∧ MB.RepD G.g G.al H vs ts ∧ vs.length ≤ sizeLine ∧ ρ[i]? = some (some (.ow (.dct ts))) := by
  obtain ⟨q, o, hσ, np, h0, hp, mu, c, hρ⟩ := h.own (ownD_ow e)
  cases c with
  | dK z r => exact ⟨q, _, hσ, np, h0, hp, r, z, hρ⟩
  | dT z ne r =>
    exfalso
    cases r with
    | nil => exact ne rfl
    | cons k a b =>
      have := List.all_eq_true.mp hk _ (List.mem_cons_self ..)
      simp [MB.T.key] at this
def sApp (i : Nat) (A : Env → M T) : Env → M Fl := fun ρ => bnd (opt (ownL ρ i)) fun xs => bnd (A ρ) fun t => opt (if xs.length < sizeLine then some (.nx (ρ.set i (some (.ow (.lst (xs ++ [t])))))) else none)
theorem s_app {i : Nat} {x : Str} {apos cpos : Pos} (c : Ctx G N sc n X) (hi : N[i]? = some x) (hv : Vis sc x) (ha : PE X e (tEv G H0 A))
    (hbase : attributeBase (.Name x p) "append" X.env (eval (.Name x p) X.env) = eval (.Name x p) X.env := by rfl) (hline : (apos.endLine == cpos.line) = true := by rfl)
    (hs : starEach [e] X.env = (false, eval e X.env) :: starEach [] X.env := by rfl)
    (hfew : ((backTo cpos (starEach [e] X.env)).all (fun x => !x.1) && (backToKw cpos (keywordEach [] X.env)).all (fun x => x.1.isSome)
      && decide (([e] : List Expr).length + ([] : List Keyword).length + (if ([] : List Keyword).isEmpty then 0 else 1) < 30)) = true := by rfl) (hplain : (backTo cpos (starEach [] X.env)).any (·.1) = false := by rfl)
    (hsw : swapsWith (.Call (.Attribute (.Name x p) "append" apos) [e] [] cpos) none pos.line X.env = pure false := by rfl)
    (hd : (x == ("__debug__" : Str)) = false := by decide) (hcd : (x == ("__classdict__" : Str)) = false := by decide) :
    PS X (.Expr (.Call (.Attribute (.Name x p) "append" apos) [e] [] cpos) pos) (tSv G H0 (sApp i A)) :=
  PSimp (ps_expr (pos := pos) (pe_bm PySem.F.plainAttrs_list PySem.F.slot_list_append PySem.F.type_list_append mt_append (pe_var (i := i) (by rw [c.hN]; exact hi) (by rw [c.hsc]; exact hv) hd hcd) (pa_cons ha pa_nil hs) hbase hfew hline hs hplain) hsw) fun D σ H ⟨ρ, b, er, k, S, r⟩ => by
    obtain ⟨xs, e1, r⟩ := r.bnd.opt k S
    obtain ⟨q, vs, hσ, np, h0, hq, rl, z, hρ⟩ := er.ownL e1
    refine ⟨_, hσ, .inl ⟨rfl, vs, .inl (.inl hq)⟩, ρ, b, er, S, (r.ex k S).imp fun t b' H' s S' r' v rv => ?_⟩
    obtain ⟨f, ef, _⟩ := r'.opt (k.trans s) S'
    split at ef
    · rename_i hl
      have hq' := keepO s np hq
      have sy := stay_upd (o' := .lst (vs ++ [v])) hq' trivial
      obtain ⟨f2, ef2, q2⟩ := (r'.at sy).opt (stp_upd (k.trans s) h0) (S'.upd np (nt1 hq' nt_l))
      rw [if_pos hl] at ef2
      cases ef2
      exact ⟨q, vs, v, rfl, rfl, hq', by rw [rl.length]; exact hl, q2 _ ((er.mono s S).change hσ hρ np h0 hq' trivial trivial (.lst (by rw [List.length_append, rl.length]; exact hl) (MB.RepL.mono List.prefix_rfl sy ((rl.mono s S).append (.cons rv .nil)))))⟩
    · cases ef
/-! ### y = xs.pop(k) -/
def sPop (j i : Nat) (A : Env → M T) : Env → M Fl := fun ρ => bnd (opt (ownL ρ i)) fun xs => bnd (A ρ) fun t => bnd (opt (match t with | .int k => some k | _ => none)) fun k =>
  bnd (opt (if -(2 ^ 63) ≤ k ∧ k < 2 ^ 63 then L2.ixN xs.length k else none)) fun q => bnd (opt xs[q]?) fun v => ret (.nx ((ρ.set i (some (.ow (.lst (xs.eraseIdx q))))).set j (some (.sh v))))
theorem s_pop {i j : Nat} {x y : Str} {apos cpos pos' : Pos} (c : Ctx G N sc n X) (hi : N[i]? = some x) (hv : Vis sc x) (hj : N[j]? = some y) (hy : Loc sc y) (hij : j ≠ i) (ha : PE X e (tEv G H0 A))
    (hbase : attributeBase (.Name x p) "pop" X.env (eval (.Name x p) X.env) = eval (.Name x p) X.env := by rfl) (hline : (apos.endLine == cpos.line) = true := by rfl)
    (hs : starEach [e] X.env = (false, eval e X.env) :: starEach [] X.env := by rfl)
    (hfew : ((backTo cpos (starEach [e] X.env)).all (fun x => !x.1) && (backToKw cpos (keywordEach [] X.env)).all (fun x => x.1.isSome)
      && decide (([e] : List Expr).length + ([] : List Keyword).length + (if ([] : List Keyword).isEmpty then 0 else 1) < 30)) = true := by rfl) (hplain : (backTo cpos (starEach [] X.env)).any (·.1) = false := by rfl)
    (hsw : swapsWith (.Call (.Attribute (.Name x p) "pop" apos) [e] [] cpos) (some (.Name y pos')) pos.line X.env = pure false := by rfl)
    (hf : X.fn y = true ∨ X.env.scope.names.lookup y = some .local := by first | exact .inl rfl | exact .inr rfl | assumption)
    (hd : (x == ("__debug__" : Str)) = false := by decide) (hcd : (x == ("__classdict__" : Str)) = false := by decide) :
    PS X (.Assign [.Name y pos'] (.Call (.Attribute (.Name x p) "pop" apos) [e] [] cpos) pos) (tSv G H0 (sPop j i A)) :=
  PSimp (ps_set (pos' := pos') (by rw [c.hN]; exact c.nd) (by rw [c.hN]; exact hj) (by rw [c.hsc]; exact hy) (pe_bm PySem.F.plainAttrs_list PySem.F.slot_list_pop PySem.F.type_list_pop mt_popAt (pe_var (i := i) (by rw [c.hN]; exact hi) (by rw [c.hsc]; exact hv) hd hcd) (pa_cons ha pa_nil hs) hbase hfew hline hs hplain) hsw hf) fun D σ H ⟨ρ, b, er, k, S, r⟩ => by
    obtain ⟨xs, e1, r⟩ := r.bnd.opt k S
    obtain ⟨q, vs, hσ, np, h0, hq, rl, z, hρ⟩ := er.ownL e1
    refine ⟨_, hσ, .inl ⟨rfl, vs, .inl (.inl hq)⟩, ρ, b, er, S, (r.ex k S).imp fun t b' H' s S' r' v rv => ?_⟩
    obtain ⟨kk, ek, r1⟩ := r'.bnd.opt (k.trans s) S'
    have hq' := keepO s np hq
    obtain ⟨w, ew, r2⟩ := r1.bnd.opt (k.trans s) S'
    obtain ⟨u, eu, r3⟩ := r2.bnd.opt (k.trans s) S'
    clear r2 r1 r'
    cases t with
    | int k2 =>
      obtain rfl : k2 = kk := Option.some.inj ek
      split at ew
      · rename_i hb
        obtain ⟨h1, h2, _, _⟩ := L2.ixN_seq ew
        rw [← rl.length] at h1
        obtain ⟨v1, ev1, rv1⟩ := (rl.mono s S).get eu
        have sy := stay_upd (o' := .lst (vs.eraseIdx w)) hq' trivial
        refine ⟨q, vs, k2, w, v1, rfl, by rw [(RB.int (G := G) (H := H') (.inl rv))], hq', hb.1, hb.2, h1, ev1, ?_⟩
        have er2 := (er.mono s S).change (o' := .lst (vs.eraseIdx w)) hσ hρ np h0 hq' trivial trivial (u := .lst (xs.eraseIdx w)) (.lst (Nat.le_trans (List.length_eraseIdx_le ..) z) (MB.RepL.mono List.prefix_rfl sy ((rl.mono s S).erase w)))
        exact RunS.ret (K := post G H0 D) (stp_upd (k.trans s) h0) (S'.upd np (nt1 hq' nt_l)) (r3.at sy) _ (er2.setSh j (MB.Rep.mono List.prefix_rfl sy rv1))
      · cases ew
    | _ => cases ek
/-! ### d[k] = v -/
def putW (k v : T) (kvs : List (T × T)) : Option (List (T × T)) := if (k.key.isSome && (kvs.all fun q => q.1.key.isSome) && decide (kvs.length < sizeLine)) = true then some (MB.dput kvs k v) else none
theorem has_rep {H : Hp} {k : Key} {kt : T} (hk : kt.key = some k) : ∀ {vs : List (Key × V)} {ts : List (T × T)}, MB.RepD G.g G.al H vs ts → (vs.any fun kv => decide (kv.1 = k)) = MB.dhas ts kt
  | _, _, .nil => rfl
  | _, _, .cons (k := k') (tk := tk) h a b => by
    unfold MB.dhas
    rw [List.any_cons, List.any_cons, has_rep hk b]
    congr 1
    rw [MB.tk_k.mpr h, MB.tk_k.mpr hk]
    by_cases e : k' = k
    · subst e; simp
    · have : ¬ (some (MB.TK.k k') = some (MB.TK.k k)) := fun z => e (by injection z with z; injection z)
      simp [e]
theorem map_rep {H : Hp} {k : Key} {kt : T} {v : V} {t : T} (hk : kt.key = some k) (rv : Rp G H v t) : ∀ {vs : List (Key × V)} {ts : List (T × T)}, MB.RepD G.g G.al H vs ts →
    MB.RepD G.g G.al H (vs.map fun kv => if kv.1 = k then (kv.1, v) else kv) (ts.map fun p => if p.1.tk = kt.tk then (p.1, t) else p)
  | _, _, .nil => .nil
  | _, _, .cons (k := k') (tk := tk) h a b => by
    rw [List.map_cons, List.map_cons]
    by_cases e : k' = k
    · subst e
      have e2 : tk.tk = kt.tk := (MB.tk_k.mpr h).trans (MB.tk_k.mpr hk).symm
      simp only [e2, if_true]
      exact .cons h rv (map_rep hk rv b)
    · have e2 : ¬ tk.tk = kt.tk := fun z => by
        rw [MB.tk_k.mpr h, MB.tk_k.mpr hk] at z
        injection z with z
        injection z with z
        exact e z
      simp only [e, e2, if_false]
      exact .cons h a (map_rep hk rv b)
theorem put_rep {H : Hp} {k : Key} {kt : T} {v : V} {t : T} {vs : List (Key × V)} {ts : List (T × T)} (hk : kt.key = some k) (rv : Rp G H v t) (rd : MB.RepD G.g G.al H vs ts) : MB.RepD G.g G.al H (putK vs k v) (MB.dput ts kt t) := by
  have app : ∀ {vs : List (Key × V)} {ts : List (T × T)}, MB.RepD G.g G.al H vs ts → MB.RepD G.g G.al H (vs ++ [(k, v)]) (ts ++ [(kt, t)]) := by
    intro vs
    induction vs with
    | nil => intro ts r; cases r; exact .cons hk rv .nil
    | cons q vs ih => intro ts r; cases r with
      | cons h a b => exact .cons h a (ih b)
  unfold putK MB.dput
  rw [has_rep hk rd]
  cases MB.dhas ts kt with
  | true => exact map_rep hk rv rd
  | false => exact app rd
theorem putK_len {κ : Type} [DecidableEq κ] {vs : List (κ × V)} {k : κ} {v : V} (h : vs.length < sizeLine) : (putK vs k v).length ≤ sizeLine := by
  unfold putK
  split
  · rw [List.length_map]; omega
  · rw [List.length_append]; exact h
def sPut (i : Nat) (K V : Env → M T) : Env → M Fl := fun ρ => bnd (V ρ) fun v => bnd (opt (ownD ρ i)) fun kvs => bnd (K ρ) fun k => opt ((putW k v kvs).map fun u => .nx (ρ.set i (some (.ow (.dct u)))))
theorem putW_some {k v : T} {kvs u : List (T × T)} (h : putW k v kvs = some u) : ∃ ky, k.key = some ky ∧ (kvs.all fun q => q.1.key.isSome) = true ∧ kvs.length < sizeLine ∧ u = MB.dput kvs k v := by
  unfold putW at h
  split at h
  · rename_i z
    rw [Bool.and_eq_true, Bool.and_eq_true] at z
    obtain ⟨ky, e⟩ := Option.isSome_iff_exists.mp z.1.1
    exact ⟨ky, e, z.1.2, of_decide_eq_true z.2, (Option.some.inj h).symm⟩
  · cases h
theorem s_put {i : Nat} {x : Str} {key val : Expr} {pos' : Pos} {K V : Env → M T} (c : Ctx G N sc n X) (hi : N[i]? = some x) (hv : Vis sc x) (hk : PE X key (tEv G H0 K)) (ha : PE X val (tEv G H0 V))
    (hs : swapsWith val (some (.Subscript (.Name x p) key pos')) pos.line X.env = pure false := by rfl) (hd : (x == ("__debug__" : Str)) = false := by decide) (hcd : (x == ("__classdict__" : Str)) = false := by decide) :
    PS X (.Assign [.Subscript (.Name x p) key pos'] val pos) (tSv G H0 (sPut i K V)) :=
  PSimp (ps_dput (pos' := pos') (pos := pos) (by have := c.hu; omega) (pe_var (i := i) (by rw [c.hN]; exact hi) (by rw [c.hsc]; exact hv) hd hcd) hk ha hs) fun D σ H ⟨ρ, b, er, k, S, r⟩ => ⟨ρ, b, er, S, (r.ex k S).imp fun t b1 H1 s1 S1 r1 v rv => by
    have er1 := er.mono s1 S
    obtain ⟨kvs, e1, r1⟩ := r1.bnd.opt (k.trans s1) S1
    obtain ⟨q, o, hσ, np, h0, hp, mu, cn, hρ⟩ := er1.own (ownD_ow e1)
    refine ⟨_, hσ, ρ, b1, er1, S1, (r1.ex (k.trans s1) S1).imp fun kt b2 H2 s2 S2 r2 y ry => ?_⟩
    obtain ⟨f, ef, _⟩ := r2.opt ((k.trans s1).trans s2) S2
    obtain ⟨u, eu, rfl⟩ := Option.map_eq_some_iff.mp ef
    obtain ⟨ky, hky, hall, hlen, rfl⟩ := putW_some eu
    obtain ⟨q', vs, hσ', np', h0', hq, rd, z, hρ'⟩ := er1.ownD e1 hall
    rw [hσ] at hσ'
    cases hσ'
    have hq' := keepO s2 np hq
    have sy := stay_upd (o' := .dK (putK vs ky v)) hq' trivial
    have hl : vs.length < sizeLine := by rw [rd.length]; exact hlen
    have ey := MB.key_rep hky (RB.tv (G := G) (H := H2) (.inl ry))
    subst ey
    obtain ⟨f2, ef2, q2⟩ := (r2.at sy).opt (stp_upd ((k.trans s1).trans s2) h0) (S2.upd np (nt1 hq' nt_d))
    rw [eu] at ef2
    cases ef2
    exact ⟨q, _, rfl, DPut.k hq' hl, q2 _ ((er1.mono s2 S1).change hσ hρ np h0 hq' trivial trivial (.dK (putK_len hl) (MB.RepD.mono List.prefix_rfl sy (put_rep hky (rv.mono s2 S1) (MB.RepD.mono List.prefix_rfl (s2.stay S1) rd)))))⟩⟩
/-! ### two names at once -/
def mkS (o : Bool) (t : T) : MB.Sl := if o = true then .ow t else .sh t
/-- what a name gets: a shut thing, or a new container -/
def Ox (G : Gs) (o : Bool) (H1 H' : Hp) (v : V) (t : T) : Prop := match o with
  | false => Rp G H' v t
  | true => ∃ p u, v = .ref p ∧ p ∉ G.al ∧ H1 p = none ∧ H' p = some u ∧ Mut (some u) ∧ MB.Con G.g G.al H' u t
def tEx (G : Gs) (H0 : Hp) (o : Bool) (m : Env → M T) : TE := fun σ H Q => ∃ ρ b, ER G H0 H σ ρ ∧ St G b H ∧ Run G H (m ρ) b fun t _ H1 => ∀ H' v, Same H1 H' → Ox G o H1 H' v t → Q v H'
theorem x_sh (h : PE X e (tEv G H0 A)) : PE X e (tEx G H0 false A) := h.imp fun σ H Q ⟨ρ, b, er, S, r⟩ => ⟨ρ, b, er, S, r.imp fun t b' H1 s S1 k v rv => k H1 v (Same.refl _) rv⟩
def mOwn (A : Env → M T) : Env → M T := fun ρ => bnd (A ρ) fun t => opt (if MB.ownable t = true then some t else none)
theorem x_ow (h : PE X e (tEvW G H0 A)) : PE X e (tEx G H0 true (mOwn A)) := h.imp fun σ H Q ⟨ρ, b, er, S, r⟩ => ⟨ρ, b, er, S, r.bnd.imp fun t b' H1 s S1 q H' v sm o => by
  obtain ⟨t', e, k⟩ := q.opt S1
  split at e
  · rename_i ho
    cases e
    exact k H' v sm (ouOwn o ho)
  · cases e⟩
theorem ER.setX {H1 H : Hp} {σ : L2.St} {ρ : Env} {o : Bool} {v : V} {t : T} (h : ER G H0 H σ ρ) (i : Nat) (x : Ox G o H1 H v t) (k1 : Stp G H0 H1) (fr : ∀ p, v = .ref p → H1 p = none → ∀ j u, j ≠ i → ρ[j]? = some (some (MB.Sl.ow u)) → σ[j]? ≠ some (some (V.ref p))) :
    ER G H0 H (σ.set i (some v)) (ρ.set i (some (mkS o t))) := by
  cases o with
  | false => exact h.setSh i x
  | true =>
    obtain ⟨p, u, rfl, np, h1, hp, mu, c⟩ := x
    exact h.setOw i np (new0 k1 np h1) hp mu c (fr p rfl h1)
theorem Ox.mono {H1 H H' : Hp} {o : Bool} {v : V} {t : T} {b : Nat} (x : Ox G o H1 H v t) (k : Stp G H H') (S : St G b H) : Ox G o H1 H' v t := by
  cases o with
  | false => exact Rp.mono x k S
  | true => obtain ⟨p, u, e, np, h1, hp, mu, c⟩ := x; exact ⟨p, u, e, np, h1, keepO k np hp, mu, MB.Con.mono List.prefix_rfl (k.stay S) c⟩
def sPair (o1 o2 : Bool) (i j : Nat) (A B : Env → M T) : Env → M Fl := fun ρ => bnd (A ρ) fun x => bnd (B ρ) fun y => ret (.nx ((ρ.set i (some (mkS o1 x))).set j (some (mkS o2 y))))
/-- both are there -/
theorem pair_fin {o1 o2 : Bool} {i j : Nat} {D : Ends} {σ : L2.St} {H : Hp} {ρ : Env} {b : Nat} (hij : i ≠ j) (er : ER G H0 H σ ρ) (k : Stp G H0 H) (S : St G b H) (r : RunS G H0 H (sPair o1 o2 i j A B ρ) b (post G H0 D)) {R : V → V → Hp → Prop}
    (hR : ∀ v w b2 H2, St G b2 H2 → (∀ H3, Same H2 H3 → D.nx ((σ.set i (some v)).set j (some w)) H3) → R v w H2) : tEx G H0 o1 A σ H fun v H1 => tEx G H0 o2 B σ H1 fun w H2 => R v w H2 := by
  refine ⟨ρ, b, er, S, (r.ex k S).imp fun x b1 H1 s1 S1 r1 H1' v sm1 o1' => ?_⟩
  have S1' := S1.same sm1
  have k1 := k.trans s1
  have er1 := (er.mono s1 S).more S1 sm1
  have r1' := r1.at (Stp.stay (.same sm1) S1)
  refine ⟨ρ, b1, er1, S1', (r1'.ex (k1.trans (.same sm1)) S1').imp fun y b2 H2 s2 S2 r2 H2' w sm2 o2' => ?_⟩
  have k2 := (k1.trans (.same sm1)).trans s2
  refine hR v w b2 H2' (S2.same sm2) fun H3 sm3 => ?_
  have S2' := S2.same sm2
  have k3 : Stp G H0 H3 := (k2.trans (.same sm2)).trans (.same sm3)
  refine RunS.ret (K := post G H0 D) k3 (S2'.same sm3) (r2.at ((Stp.stay (.same sm2) S2).trans (Stp.stay (.same sm3) S2'))) _ ?_
  have er3 := (((er1.mono s2 S1').more S2 sm2).more S2' sm3)
  have q1 : Ox G o1 H1 H3 v x := ((o1'.mono s2 S1').mono (.same sm2) S2).mono (.same sm3) S2'
  have q2 : Ox G o2 H2 H3 w y := o2'.mono (.same sm3) S2'
  have e1 := er3.setX i q1 k1 fun p ev hp j' u _ e => (er.mono s1 S).fresh hp j' u e
  refine e1.setX j q2 k2 fun p ev hp j' u nj e => ?_
  by_cases hj : j' = i
  · subst hj
    have hlt : j' < ρ.length := by
      have := (List.getElem?_eq_some_iff.mp e).1
      simpa using this
    rw [List.getElem?_set_self (by rw [er.len]; exact hlt)]
    intro z
    have z : v = V.ref p := by injection z with z; injection z
    rw [List.getElem?_set_self hlt] at e
    cases o1 with
    | false => unfold mkS at e; simp at e
    | true =>
      obtain ⟨p', u', e', np', _, hp', mu', _⟩ := o1'
      rw [e'] at z
      cases z
      have := keepO s2 np' hp'
      rw [hp] at this
      cases this
  · rw [List.getElem?_set_ne (Ne.symm hj)] at e ⊢
    exact (er1.mono s2 S1').fresh hp j' u e
theorem s_pair {o1 o2 : Bool} {i j : Nat} {x y : Str} {x1 x2 : Nat} {p1 p2 p3 p4 : Pos} (c : Ctx G N sc n X) (hi : N[i]? = some x) (hj : N[j]? = some y) (hij : i ≠ j) (hx : Loc sc x) (hy : Loc sc y) (ha : PE X a (tEx G H0 o1 A)) (hb : PE X bb (tEx G H0 o2 B))
    (hs : swapsWithSole [.Tuple [.Name x p1, .Name y p2] x1 p3] (.Tuple [a, bb] x2 p4) pos.line X.env = pure false := by rfl) (hw : swappedStores [.Tuple [.Name x p1, .Name y p2] x1 p3] (.Tuple [a, bb] x2 p4) X.env = pure none := by rfl)
    (h1 : (assignEach [.Tuple [.Name x p1, .Name y p2] x1 p3] X.env).map (·.2) = [assign (.Tuple [.Name x p1, .Name y p2] x1 p3) X.env] := by rfl)
    (hs1 : starEach [a, bb] X.env = (false, eval a X.env) :: starEach [bb] X.env := by rfl) (hs2 : starEach [bb] X.env = (false, eval bb X.env) :: starEach [] X.env := by rfl)
    (hf : X.fn x = true ∨ X.env.scope.names.lookup x = some .local := by first | exact .inl rfl | exact .inr rfl | assumption) (hf2 : X.fn y = true ∨ X.env.scope.names.lookup y = some .local := by first | exact .inl rfl | exact .inr rfl | assumption) :
    PS X (.Assign [.Tuple [.Name x p1, .Name y p2] x1 p3] (.Tuple [a, bb] x2 p4) pos) (tSv G H0 (sPair o1 o2 i j A B)) :=
  PSimp (ps_asg (pe_tup (pa_cons ha (pa_cons hb pa_nil hs2) hs1)) (pg_tup (n := 2) c.calm (pgs_cons (pg_name (by rw [c.hN]; exact c.nd) (by rw [c.hN]; exact hi) (by rw [c.hsc]; exact hx) hf) (pgs_cons (pg_name (by rw [c.hN]; exact c.nd) (by rw [c.hN]; exact hj) (by rw [c.hsc]; exact hy) hf2) pgs_nil))) hs hw h1) fun D σ H ⟨ρ, b, er, k, S, r⟩ => by
    refine pair_fin (R := fun v w H2 => [v, w].length ≤ sizeLine ∧ ∀ q, H2 q = none → ∃ a xs, V.ref q = .ref a ∧ SqT X.K (upd H2 q (.tup [v, w])) a xs ∧ xs.length = 2 ∧ gCons (gName i) (gCons (gName j) gNil) xs σ (upd H2 q (.tup [v, w])) D.nx) hij er k S r fun v w b2 H2 S2 hk => ?_
    exact ⟨by show 2 ≤ sizeLine; decide +kernel, fun q hq => ⟨q, [v, w], rfl, .inl (.inl upd_same), rfl, v, [w], rfl, w, [], rfl, rfl, hk _ (same_new hq)⟩⟩
theorem s_pairL {o1 o2 : Bool} {i j : Nat} {x y : Str} {x1 x2 : Nat} {p1 p2 p3 p4 : Pos} (c : Ctx G N sc n X) (hi : N[i]? = some x) (hj : N[j]? = some y) (hij : i ≠ j) (hx : sc.names.lookup x = some .local) (hy : sc.names.lookup y = some .local) (ha : PE X a (tEx G H0 o1 A)) (hb : PE X bb (tEx G H0 o2 B))
    (hw : swappedStores [.Tuple [.Name x p1, .Name y p2] x1 p3] (.Tuple [a, bb] x2 p4) X.env = pure (some [x, y]) := by rfl) (hs : swapsWithSole [.Tuple [.Name x p1, .Name y p2] x1 p3] (.Tuple [a, bb] x2 p4) pos.line X.env = pure false := by rfl)
    (hs1 : starEach [a, bb] X.env = (false, eval a X.env) :: starEach [bb] X.env := by rfl) (hs2 : starEach [bb] X.env = (false, eval bb X.env) :: starEach [] X.env := by rfl) :
    PS X (.Assign [.Tuple [.Name x p1, .Name y p2] x1 p3] (.Tuple [a, bb] x2 p4) pos) (tSv G H0 (sPair o1 o2 i j A B)) :=
  PSimp (ps_par c.calm (by rw [c.hN]; exact c.nd) (by rw [c.hN]; exact hi) (by rw [c.hN]; exact hj) hij (by rw [c.hsc]; exact hx) (by rw [c.hsc]; exact hy) (pa_cons ha (pa_cons hb pa_nil hs2) hs1) hw hs) fun D σ H ⟨ρ, b, er, k, S, r⟩ =>
    pair_fin (R := fun v w H2 => ∃ v' w', [v, w] = [v', w'] ∧ D.nx ((σ.set i (some v')).set j (some w')) H2) hij er k S r fun v w b2 H2 S2 hk => ⟨v, w, rfl, hk _ (Same.refl _)⟩
end
end Wp

end -- W6
section -- W7
set_option Elab.async false
set_option linter.all false
set_option maxRecDepth 100000
set_option maxHeartbeats 2000000
/-! What is walked; for, comprehensions. -/
namespace Wp
open PySem PySem.Spec L2
/-- J walks the things ts -/
def Wk (G : Gs) (J : It) (H1 : Hp) (ts : List T) : Prop := ∃ (n : Nat) (Gd : Hp → Prop) (Y : Nat → Hp → V → Hp → Prop), Walk J n Gd Y ∧ n = ts.length ∧ n ≤ sizeLine ∧ (∀ H', MB.Stay H1 H' → Gd H') ∧
  ∀ i H' x H'', MB.Stay H1 H' → i < n → Y i H' x H'' → Same H' H'' ∧ ∃ t, ts[i]? = some t ∧ Rp G H'' x t
def tIv (G : Gs) (H0 : Hp) (m : Env → M (List T)) : TI := fun σ H R => ∃ ρ b, ER G H0 H σ ρ ∧ St G b H ∧ Run G H (m ρ) b fun ts _ H1 => ∀ J, Wk G J H1 ts → R J H1
/-- the keys of a dict of any kind -/
def Itx (d : Addr) (o : Obj) (ks : List V) : It :=
  ⟨fun i H => (∃ u, H d = some (.frz o u)) ∧ i < ks.length, fun i H x H' => H' = H ∧ ks[i]? = some x, fun i H => (∃ u, H d = some (.frz o u)) ∧ ks.length ≤ i⟩
section
variable {G : Gs} {H0 : Hp} {X : Cx} {N : List Str} {sc : Scope} {n : Nat} {a bb d e tg iter : Expr} {A B D : Env → M T} {pos p : Pos} {st : Stmt} {rest body : List Stmt} {m m' : Env → M Fl}
theorem PIimp {t t' : TI} (h : PI X tg e t) (i : ∀ σ H R, t' σ H R → t σ H R) : PI X tg e t' := ⟨fun pins s σ H R I q => h.run pins s σ H R I (i _ _ _ q)⟩
theorem same_stay {H H' : Hp} (s : Same H H') : MB.Stay H H' := ⟨fun a o u h => s _ _ h, fun a xs h => s _ _ h⟩
theorem rd_stay {H H' : Hp} {a : Addr} {o : Obj} {u : HO} (y : MB.Stay H H') (h : H a = some (.frz o u)) : Rd H' a u := .inr ⟨o, y.frz _ _ _ h⟩
theorem wk_at {H H' : Hp} {vs : List V} {ts : List T} (rl : RpL G H vs ts) (y : MB.Stay H H') {i : Nat} {x : V} (e : vs[i]? = some x) : ∃ t, ts[i]? = some t ∧ Rp G H' x t := by
  obtain ⟨t, h1, h2⟩ := rl.getV e
  exact ⟨t, h1, MB.Rep.mono List.prefix_rfl y h2⟩
/-! ### lists, tuples, texts -/
def iL (A : Env → M T) : Env → M (List T) := fun ρ => bnd (A ρ) fun x => opt (match x with | .lst ts => some ts | _ => none)
theorem i_list (c : Ctx G N sc n X) (ha : PE X e (tEv G H0 A)) : PI X tg e (tIv G H0 (iL A)) :=
  PIimp (pi_list ha) fun σ H R ⟨ρ, b, er, S, r⟩ => ⟨ρ, b, er, S, r.bnd.imp fun x b1 H1 s1 S1 r1 v rv => by
    obtain ⟨ts, e, k⟩ := r1.opt S1
    cases x with
    | lst ts' =>
      cases e
      cases rv with
      | con h cn =>
        cases cn with
        | lst z rl =>
          rename_i a o vs
          exact ⟨a, rfl, ⟨vs, .inl (.inr ⟨_, h⟩)⟩, k _ ⟨_, _, _, walk_list (K := X.K) (a := a) (xs := vs), rl.length, z, fun H' y => .inl (rd_stay y h), fun i H' x H'' y hi ⟨e1, e2⟩ => by
            subst e1
            exact ⟨Same.refl _, wk_at rl y e2⟩⟩⟩
    | _ => cases e⟩
def iT (A : Env → M T) : Env → M (List T) := fun ρ => bnd (A ρ) fun x => opt (match x with | .tup ts => if ts.length ≤ sizeLine then some ts else none | _ => none)
theorem i_tup (c : Ctx G N sc n X) (ha : PE X e (tEv G H0 A)) : PI X tg e (tIv G H0 (iT A)) :=
  PIimp (pi_tup ha) fun σ H R ⟨ρ, b, er, S, r⟩ => ⟨ρ, b, er, S, r.bnd.imp fun x b1 H1 s1 S1 r1 v rv => by
    obtain ⟨ts, e, k⟩ := r1.opt S1
    cases x with
    | tup ts' =>
      have e : (if ts'.length ≤ sizeLine then some ts' else none) = some ts := e
      split at e
      · rename_i hz
        cases e
        obtain ⟨a, vs, rfl, h, rl⟩ := MB.RepV.tup (.inl rv)
        rw [← c.K] at h
        exact ⟨a, rfl, ⟨vs, h⟩, k _ ⟨_, _, _, walk_tup (K := X.K) (a := a) (xs := vs), rl.length, by rw [rl.length]; exact hz, fun H' y => y.sqT h, fun i H' x H'' y hi ⟨e1, e2⟩ => by
          subst e1
          exact ⟨Same.refl _, wk_at rl y e2⟩⟩⟩
      · cases e
    | _ => cases e⟩
def iS (A : Env → M T) : Env → M (List T) := fun ρ => bnd (A ρ) fun x => opt (match x with | .str x => if x.cps.size ≤ sizeLine then some (x.cps.toList.map fun c => .str ⟨#[c]⟩) else none | _ => none)
theorem i_str (ha : PE X e (tEv G H0 A)) : PI X tg e (tIv G H0 (iS A)) :=
  PIimp (pi_str ha) fun σ H R ⟨ρ, b, er, S, r⟩ => ⟨ρ, b, er, S, r.bnd.imp fun x b1 H1 s1 S1 r1 v rv => by
    obtain ⟨ts, e, k⟩ := r1.opt S1
    cases x with
    | str z =>
      have e : (if z.cps.size ≤ sizeLine then some (z.cps.toList.map fun c => MB.T.str ⟨#[c]⟩) else none) = some ts := e
      split at e
      · rename_i hz
        cases e
        have ev := RB.str (G := G) (H := H1) (.inl rv)
        exact ⟨z, ev, k _ ⟨_, _, _, walk_str (z := z), by simp, hz, fun _ _ => trivial, fun i H' x H'' y hi ⟨e1, c, e2, e3⟩ => by
          subst e1 e3
          exact ⟨Same.refl _, .str ⟨#[c]⟩, by rw [List.getElem?_map, Array.getElem?_toList, e2]; rfl, .str _⟩⟩⟩
      · cases e
    | _ => cases e⟩
/-! ### range -/
def iR1 (As : Env → M (List T)) : Env → M (List T) := fun ρ => bnd (As ρ) fun ts => opt (match ts with
  | [.int j] => if 0 ≤ j ∧ j ≤ 16777216 then some ((List.range j.toNat).map fun (i : Nat) => .int (0 + (i : Int))) else none
  | _ => none)
theorem i_rng1 {x : Expr} {ap : Pos} {As : Env → M (List T)} {k : Nat} (hg : Gl X "range") (hm : X.mg "range" = none) (ha : PA X [x] (tAv G H0 k As)) (hs : starEach [x] X.env = [(false, eval x X.env)] := by rfl) : PI X tg (.Call (.Name "range" ap) [x] [] pos) (tIv G H0 (iR1 As)) :=
  PIimp (pi_range1 (p := ap) (pos := pos) hg hm ha hs) fun σ H R ⟨ρ, b, er, S, r⟩ => ⟨ρ, b, er, S, r.bnd.imp fun x b1 H1 s1 S1 r1 vs rv _ => by
    obtain ⟨ts, e, k⟩ := r1.opt S1
    split at e
    · rename_i j
      split at e
      · rename_i hj
        cases e
        cases rv with
        | cons ra rb =>
          cases rb
          have ev := RB.int (G := G) (H := H1) (.inl ra)
          subst ev
          exact ⟨j, rfl, by omega, by omega, k _ ⟨_, _, _, walk_range (lo := 0) (n := j.toNat), by simp, by rw [sizeLine_eq]; omega, fun _ _ => trivial, fun i H' x H'' y hi ⟨e1, e2⟩ => by
            subst e1 e2
            exact ⟨Same.refl _, .int (0 + (i : Int)), by simp [hi], .int _⟩⟩⟩
      · cases e
    · cases e⟩
/-! ### dicts -/
theorem turn_keysX {P : Program} {w : World} {K : PySem.W.Frag} {tg : Expr} {d : Addr} {o : Obj} {es : Array DictEntry} {ep : Nat} {ks : List V} (it : Addr) (hod : o.data = .dict es ep) (hk : Vals ks (es.toList.map (·.key))) :
    Turn P w K tg (Itx d o ks) [it] it (fun i h => h.IsKeyIter it d i ks.length ep) where
  mem := by simp
  obj := fun i h st b hb => by
    have e : b = it := by simpa using hb
    subst e
    obtain ⟨oi, e, c, dd⟩ := st
    exact ⟨oi, e, fun v z => by rw [dd] at z; cases z⟩
  keep := fun i h h' st k => st.at fun oi e => k it (by simp) oi e
  item := by
    intro X hP hw hK hc i pins s σ H E I hf st hg
    subst hP hw hK
    obtain ⟨⟨u, hd⟩, hi⟩ := hg
    obtain ⟨f0, f1, f2, f3, f4, f5⟩ := hf it (by simp)
    have hgd := (I.hok d _ hd).1
    have hsz : es.size = ks.length := by have := hk.length; simp at this; exact this.symm
    obtain ⟨kv, hkv⟩ : ∃ p, ks[i]? = some p := ⟨ks[i], List.getElem?_eq_getElem hi⟩
    obtain ⟨w, hw, rw'⟩ := hk.get hkv
    rw [List.getElem?_map] at hw
    obtain ⟨en, hen, rfl⟩ := Option.map_eq_some_iff.mp hw
    rw [Array.getElem?_toList] at hen
    refine next_key_item st hgd hod hsz hen fun h' st' sb => ?_
    have I1 : Inv X pins σ H { s with heap := h' } := I.turned (t' := s.toks) (fun b ob hb e => (sb.2 b hb).trans e) f0 f1 f3 f4 f5
    obtain ⟨oi, e, c, dd⟩ := id st'
    exact ⟨en.key, rfl, go_of (s := { s with heap := h' }) e c dd (by decide) ⟨kv, H, I1, rw', ⟨rfl, hkv⟩, st', fun b hb => (hf b hb).1⟩⟩
  done := by
    intro X hP hw hK hc i pins s σ H E I hf st hg
    subst hP hw hK
    obtain ⟨⟨u, hd⟩, hi⟩ := hg
    obtain ⟨f0, f1, f2, f3, f4, f5⟩ := hf it (by simp)
    have hgd := (I.hok d _ hd).1
    have hsz : es.size = ks.length := by have := hk.length; simp at this; exact this.symm
    exact next_key_end (I.ok.hd hc) st hgd hod hsz hi fun h' eb => ⟨rfl, I.turned (t' := s.toks) (fun b ob hb e => eb b ob hb e) f0 f1 f3 f4 f5⟩
  self := fun A i s Q E st h => by
    refine wpAny_pyIter_slot st.typeIs PySem.F.slot_dict_keyiterator_iter (wpAny_call_entry PySem.F.slot_dict_keyiterator_iter st.typeIs PySem.F.entry_dict_keyiterator_iter ?_ (PySem.F.args_dict_keyiterator_iter_1 _))
    show wpAny _ _ (PySem.ret (.ref it)) _ _ s
    exact wpAny_pure ⟨_, rfl, "dict_keyiterator", _, st.typeIs, PySem.F.slot_dict_keyiterator_next.lookup, h⟩
theorem walk_keysX {d : Addr} {o : Obj} {ks : List V} : Walk (Itx d o ks) ks.length (fun H => ∃ u, H d = some (.frz o u)) (YAt ks) :=
  ⟨fun _ _ hi q => ⟨q, hi⟩, fun _ q => ⟨q, Nat.le_refl _⟩, fun _ _ _ _ _ _ y => y⟩
/-- the keys of a shut dict, whatever they are -/
theorem pi_keysE {td : TE} (he : PE X e td) : PI X tg e (fun σ H R => td σ H fun x H1 => ∃ d o u, x = .ref d ∧ H1 d = some (.frz o u) ∧ ((∃ kvs, u = .dK kvs ∧ R (Itk d o kvs) H1) ∨ (∃ kvs, u = .dT kvs ∧ R (Itkt d o kvs) H1) ∨
    ∃ ks vs, (d == sysModules) = false ∧ MB.OddAt o ks vs ∧ R (Itx d o ks) H1)) := by
  refine ⟨fun pins s σ H R I h => ?_⟩
  refine thn (he.run pins s σ H _ I h) fun u s1 ⟨x, H1, I1, rx, d, o, u', ex, hd, q⟩ => ?_
  subst ex
  obtain rfl : u = Value.ref d := rx
  rcases q with ⟨kvs, rfl, q⟩ | ⟨kvs, rfl, q⟩ | ⟨ks, vs, hs, ⟨hx, es, ep, hdt, hk, hv, hz⟩, q⟩
  · obtain ⟨hs, hgd, hx, es, ep, vs, hdt, hsz, kv, hm⟩ := I1.frzK hd
    refine iter_keys hs hgd hx hdt (pi_one (tk := s1.toks) I1 _ (turn_keys _ hdt) ⟨_, Heap.get?_push_size _ rfl, rfl, ?_⟩ q)
    rw [hsz] <;> rfl
  · obtain ⟨hs, hgd, hx, es, ep, hdt, hsz, ent⟩ := I1.frzT hd
    refine iter_keys hs hgd hx hdt (pi_one (tk := s1.toks) I1 _ (turn_keysT _ hdt) ⟨_, Heap.get?_push_size _ rfl, rfl, ?_⟩ q)
    rw [hsz] <;> rfl
  · have hgd := (I1.hok d _ hd).1
    have hsz : es.size = ks.length := by have := hk.length; simp at this; exact this.symm
    refine iter_keys hs hgd hx hdt (pi_one (tk := s1.toks) I1 _ (turn_keysX _ hdt hk) ⟨_, Heap.get?_push_size _ rfl, rfl, ?_⟩ q)
    rw [hsz] <;> rfl
def iK (A : Env → M T) : Env → M (List T) := fun ρ => bnd (A ρ) fun x => opt (match x with | .dct kvs => some (kvs.map (·.1)) | _ => none)
theorem keysOf_rep {H : Hp} : ∀ {xs : List T} {ks : List Key}, MB.keysOf xs = some ks → RpL G H (ks.map kV) xs
  | [], ks, h => by cases h; exact .nil
  | x :: xs, ks, h => by
    unfold MB.keysOf at h
    split at h
    · rename_i k ks' h1 h2
      cases h
      exact .cons (MB.rep_kV h1) (keysOf_rep h2)
    · cases h
theorem repDT_ks {H : Hp} : ∀ {kvs : List (List Key × V)} {ts : List (T × T)}, MB.RepDT G.g G.al H kvs ts → ∀ (i : Nat) (q : Addr) (k : List Key) (v : V), kvs[i]? = some (k, v) → H q = some (.tup (k.map kV)) → ∃ t, (ts.map (·.1))[i]? = some t ∧ Rp G H (.ref q) t
  | _, _, .nil, i, q, k, v, e, _ => by simp at e
  | _, _, .cons hk a b, 0, q, k, v, e, hq => by
    simp at e
    obtain ⟨rfl, rfl⟩ := e
    exact ⟨_, rfl, .tup hq (keysOf_rep hk)⟩
  | _, _, .cons hk a b, i + 1, q, k, v, e, hq => by
    obtain ⟨t, h1, h2⟩ := repDT_ks b i q k v (by simpa using e) hq
    exact ⟨t, by simpa using h1, h2⟩
theorem i_keys (ha : PE X e (tEv G H0 A)) : PI X tg e (tIv G H0 (iK A)) :=
  PIimp (pi_keysE ha) fun σ H R ⟨ρ, b, er, S, r⟩ => ⟨ρ, b, er, S, r.bnd.imp fun x b1 H1 s1 S1 r1 v rv => by
    obtain ⟨ts, e, k⟩ := r1.opt S1
    cases x with
    | dct kvs =>
      cases e
      cases rv with
      | con h cn =>
        cases cn with
        | dK z rd =>
          rename_i a o kv
          refine ⟨a, o, _, rfl, h, .inl ⟨kv, rfl, k _ ⟨_, _, _, walk_keys (d := a) (o := o) (kvs := kv), by rw [List.length_map]; exact rd.length, z, fun H' y => y.frz _ _ _ h, fun i H' x H'' y hi ⟨e1, ky, v, e2, e3⟩ => ?_⟩⟩⟩
          subst e1 e3
          have := wk_at (MB.repD_ks rd) y (i := i) (x := kV ky) (by rw [List.getElem?_map, e2]; rfl)
          exact ⟨Same.refl _, this⟩
        | dT z ne rd =>
          rename_i a o kv
          refine ⟨a, o, _, rfl, h, .inr (.inl ⟨kv, rfl, k _ ⟨_, _, _, walk_keysT (d := a) (o := o) (kvs := kv), by rw [List.length_map]; exact rd.length, z, fun H' y => y.frz _ _ _ h, fun i H' x H'' y hi ⟨e1, ky, v, q, e2, e3, e4⟩ => ?_⟩⟩)⟩
          subst e1 e3
          exact ⟨Same.refl _, repDT_ks (MB.RepDT.mono List.prefix_rfl y rd) i q ky v e2 e4⟩
      | odd h hs od hk ka va =>
        rename_i a o u ks vs
        refine ⟨a, o, u, rfl, h, .inr (.inr ⟨ks, vs, hs, od, k _ ⟨_, _, _, walk_keysX (d := a) (o := o) (ks := ks), by rw [List.length_map] <;> exact (by have := ka.length; simpa using this), ?_, fun H' y => ⟨u, y.frz _ _ _ h⟩, fun i H' x H'' y hi ⟨e1, e2⟩ => ?_⟩⟩)⟩
        · obtain ⟨_, es, ep, _, h1, _, h2⟩ := od
          have := h1.length
          simp at this
          omega
        · subst e1
          exact ⟨Same.refl _, wk_at ka y e2⟩
    | _ => cases e⟩
/-! ### d.values() -/
def iV (A : Env → M T) : Env → M (List T) := fun ρ => bnd (A ρ) fun x => opt (match x with | .dct kvs => if kvs.all (fun q => q.1.key.isSome) then some (kvs.map (·.2)) else none | _ => none)
theorem dctF {H : Hp} {v : V} {ts : List (T × T)} (r : Rp G H v (.dct ts)) (hf : (ts.all fun q => q.1.key.isSome) = true) : ∃ a o kvs, v = .ref a ∧ H a = some (.frz o (.dK kvs)) ∧ MB.RepD G.g G.al H kvs ts ∧ kvs.length ≤ sizeLine := by
  cases r with
  | con h cn =>
    cases cn with
    | dK z rd => exact ⟨_, _, _, rfl, h, rd, z⟩
    | dT z ne rd =>
      exfalso
      cases rd with
      | nil => exact ne rfl
      | cons k a b =>
        have := List.all_eq_true.mp hf _ (List.mem_cons_self ..)
        simp [MB.T.key] at this
  | odd h hs od hk ka va =>
    exfalso
    obtain ⟨p, hp, e⟩ := List.any_eq_true.mp hk
    have := List.all_eq_true.mp hf p hp
    unfold MB.T.tk at e
    cases q : p.1 with
    | int i => rw [q] at e; cases e
    | str i => rw [q] at e; cases e
    | _ => rw [q] at this; cases this
theorem i_vals {apos : Pos} (ha : PE X e (tEv G H0 A)) (hbase : attributeBase e "values" X.env (eval e X.env) = eval e X.env := by rfl) (hline : (apos.endLine == pos.line) = true := by rfl) : PI X tg (.Call (.Attribute e "values" apos) [] [] pos) (tIv G H0 (iV A)) :=
  PIimp (pi_values ha hbase hline) fun σ H R ⟨ρ, b, er, S, r⟩ => ⟨ρ, b, er, S, r.bnd.imp fun x b1 H1 s1 S1 r1 v rv => by
    obtain ⟨ts, e, k⟩ := r1.opt S1
    cases x with
    | dct kvs =>
      have e : (if kvs.all (fun q => q.1.key.isSome) then some (kvs.map (·.2)) else none) = some ts := e
      split at e
      · rename_i hf
        cases e
        obtain ⟨a, o, kv, rfl, h, rd, z⟩ := dctF rv hf
        refine ⟨a, o, kv, rfl, h, k _ ⟨_, _, _, walk_values (d := a) (o := o) (kvs := kv), by rw [List.length_map]; exact rd.length, z, fun H' y => y.frz _ _ _ h, fun i H' x H'' y hi ⟨e1, ky, e2⟩ => ?_⟩⟩
        subst e1
        exact ⟨Same.refl _, wk_at (MB.repD_vs rd) y (i := i) (x := x) (by rw [List.getElem?_map, e2]; rfl)⟩
      · cases e
    | _ => cases e⟩
end
end Wp

end -- W7
section -- W8
set_option Elab.async false
set_option linter.all false
set_option maxRecDepth 100000
set_option maxHeartbeats 2000000
/-! Targets; for; list comprehensions. -/
namespace Wp
open PySem PySem.Spec L2
/-- a target: what it makes of the slots; vs: the slots that it stores -/
structure Tg (G : Gs) (H0 : Hp) (X : Cx) (tg : Expr) (gt : TG) (vs : List Nat) (g : T → Env → Option Env) : Prop where
  pg : PG X tg gt
  ok : ∀ (v : V) (t : T) (σ : L2.St) (ρ ρ' : Env) (H : Hp) (Q : L2.St → Hp → Prop), ER G H0 H σ ρ → Rp G H v t → g t ρ = some ρ' → (∀ σ', ER G H0 H σ' ρ' → (∀ ws, (∀ i ∈ vs, i ∈ ws) → wipe σ' ws = wipe σ ws) → Q σ' H) → gt v σ H Q
def gN (i : Nat) : T → Env → Option Env := fun t ρ => some (ρ.set i (some (.sh t)))
def gP (i j : Nat) : T → Env → Option Env := fun t ρ => match t with
  | .tup [x, y] => some ((ρ.set i (some (.sh x))).set j (some (.sh y)))
  | _ => none
theorem wipe_get (σ : L2.St) (j : Nat) : ∀ (vs : List Nat), (wipe σ vs)[j]? = if j ∈ vs then (if j < σ.length then some none else none) else σ[j]?
  | [] => by simp [wipe]
  | v :: vs => by
    unfold wipe
    by_cases h : v = j
    · subst h
      by_cases hl : v < σ.length
      · rw [List.getElem?_set_self (by rw [wipe_length]; exact hl)]
        simp [hl]
      · rw [List.getElem?_eq_none (by rw [List.length_set, wipe_length]; omega)]
        simp [hl]
    · rw [List.getElem?_set_ne h, wipe_get σ j vs]
      simp [Ne.symm h]
theorem wipe_set {σ : L2.St} {i : Nat} {o : Option V} {ws : List Nat} (h : i ∈ ws) : wipe (σ.set i o) ws = wipe σ ws := by
  apply List.ext_getElem?
  intro j
  rw [wipe_get, wipe_get, List.length_set]
  by_cases hj : j ∈ ws
  · simp [hj]
  · have : i ≠ j := fun e => hj (e ▸ h)
    simp [hj, List.getElem?_set_ne this]
section
variable {G : Gs} {H0 : Hp} {X : Cx} {N : List Str} {sc : Scope} {n : Nat} {a bb d e tg iter elt : Expr} {A B D : Env → M T} {pos p : Pos} {st : Stmt} {rest body : List Stmt} {m m' : Env → M Fl} {vs : List Nat} {g : T → Env → Option Env}
theorem g_name {i : Nat} {x : Str} (c : Ctx G N sc n X) (hi : N[i]? = some x) (hx : Loc sc x) (hf : X.fn x = true ∨ X.env.scope.names.lookup x = some .local := by first | exact .inl rfl | exact .inr rfl | assumption) : Tg G H0 X (.Name x p) (gName i) [i] (gN i) :=
  ⟨pg_name (by rw [c.hN]; exact c.nd) (by rw [c.hN]; exact hi) (by rw [c.hsc]; exact hx) hf, fun v t σ ρ ρ' H Q er rv e k => by
    cases e
    exact k _ (er.setSh i rv) fun ws h => wipe_set (h i (List.mem_singleton.mpr rfl))⟩
theorem g_pair {i j : Nat} {x y : Str} {k : Nat} {p1 p2 : Pos} (c : Ctx G N sc n X) (hi : N[i]? = some x) (hx : Loc sc x) (hj : N[j]? = some y) (hy : Loc sc y)
    (hf : X.fn x = true ∨ X.env.scope.names.lookup x = some .local := by first | exact .inl rfl | exact .inr rfl | assumption) (hf2 : X.fn y = true ∨ X.env.scope.names.lookup y = some .local := by first | exact .inl rfl | exact .inr rfl | assumption) :
    Tg G H0 X (.Tuple [.Name x p1, .Name y p2] k pos) (gTup X.K 2 (gCons (gName i) (gCons (gName j) gNil))) [i, j] (gP i j) :=
  ⟨pg_tup (n := 2) c.calm (pgs_cons (pg_name (by rw [c.hN]; exact c.nd) (by rw [c.hN]; exact hi) (by rw [c.hsc]; exact hx) hf) (pgs_cons (pg_name (by rw [c.hN]; exact c.nd) (by rw [c.hN]; exact hj) (by rw [c.hsc]; exact hy) hf2) pgs_nil)), fun v t σ ρ ρ' H Q er rv e k => by
    unfold gP at e
    split at e
    · cases e
      rename_i x y
      obtain ⟨a, us, rfl, h, rl⟩ := MB.RepV.tup (.inl rv)
      cases rl with
      | cons ra rl =>
        cases rl with
        | cons rb rl =>
          cases rl
          rw [← c.K] at h
          exact ⟨a, _, rfl, h, rfl, _, _, rfl, _, _, rfl, rfl, k _ ((er.setSh i ra).setSh j rb) fun ws h => (wipe_set (h j (by simp))).trans (wipe_set (h i (by simp)))⟩
    · cases e⟩
/-! ### for -/
def forW (f : T → Env → M Fl) : List T → Env → M Fl
  | [], ρ => ret (.nx ρ)
  | t :: ts, ρ => bnd (f t ρ) fun fl => match fl with
    | .nx ρ' => forW f ts ρ'
    | .ct ρ' => forW f ts ρ'
    | .bk ρ' => ret (.nx ρ')
    | .rt t => ret (.rt t)
def sFor (I : Env → M (List T)) (g : T → Env → Option Env) (m : Env → M Fl) : Env → M Fl := fun ρ => bnd (I ρ) fun ts => forW (fun t r => bnd (opt (g t r)) m) ts ρ
theorem s_for {I : Env → M (List T)} (hp : PassesOwn (model X.prog X.w) X.A X.env X.xe) (c : Ctx G N sc n X) (hi : PI X tg iter (tIv G H0 I)) {gt : TG} (hg : Tg G H0 X tg gt vs g) (hb : PSs X body (tSv G H0 m)) (hs : ∀ x, foldedSetIterable iter X.env x = pure x := by intro _; rfl) :
    PS X (.For tg iter body [] pos) (tSv G H0 (sFor I g m)) := by
  have hgt := hg.pg
  have hk := hg.ok
  refine PSimp (ps_for hp c.calm hi hgt hb hs) fun D σ H ⟨ρ, b, er, k, S, r⟩ => ⟨ρ, b, er, S, (r.ex k S).imp fun ts b1 H1 s1 S1 r1 J ⟨nn, Gd, Y, w, hn, hz, hG, hY⟩ => ?_⟩
  subst hn
  refine for_it w (fun i σ' Hc => ∃ ρ' b', ER G H0 Hc σ' ρ' ∧ Stp G H0 Hc ∧ St G b' Hc ∧ MB.Stay H1 Hc ∧ RunS G H0 Hc (forW (fun t r => bnd (opt (g t r)) m) (ts.drop i) ρ') b' (post G H0 D))
    ⟨ρ, b1, er.mono s1 S, k.trans s1, S1, .rfl', r1⟩ (fun i σ' Hc _ ⟨_, _, _, _, _, y, _⟩ => hG Hc y) ?_ ?_
  · rintro i x σ' Hc Hd hi ⟨ρ', b', er', k', S', y', r'⟩ hYi
    obtain ⟨sm, t, ht, rv⟩ := hY i Hc x Hd y' hi hYi
    have ed : ts.drop i = t :: ts.drop (i + 1) := by
      rw [List.drop_eq_getElem_cons hi]
      congr 1
      rw [List.getElem?_eq_getElem hi] at ht
      exact Option.some.inj ht
    rw [ed] at r'
    have kd : Stp G H0 Hd := k'.trans (.same sm)
    have Sd := S'.same sm
    have yd := y'.trans (same_stay sm)
    have r2 : RunS G H0 Hd (forW (fun t r => bnd (opt (g t r)) m) (t :: ts.drop (i + 1)) ρ') b' (post G H0 D) := r'.at (same_stay sm)
    obtain ⟨ρ2, e2, r3⟩ := r2.bnd.bnd.opt kd Sd
    refine hk x t σ' ρ' ρ2 Hd _ (er'.more S' sm) rv e2 fun σ2 er2 _ => ⟨ρ2, b', er2, kd, Sd, r3.imp fun f b3 H3 k3 y3 S3 q => ?_⟩
    cases f with
    | nx ρ3 => exact fun σ3 er3 => ⟨ρ3, b3, er3, k3, S3, yd.trans y3, q⟩
    | ct ρ3 => exact fun σ3 er3 => ⟨ρ3, b3, er3, k3, S3, yd.trans y3, q⟩
    | bk ρ3 => exact RunS.ret (K := post G H0 D) k3 S3 q
    | rt t => exact RunS.ret (K := post G H0 D) k3 S3 q
  · rintro σ' Hc ⟨ρ', b', er', k', S', y', r'⟩
    rw [List.drop_length] at r'
    exact RunS.ret (K := post G H0 D) k' S' r' σ' er'
/-! ### list comprehensions -/
theorem Ctx.blk {scope : Scope} (c : Ctx G N sc n X) (s : Shared) (H : Hp) (C : Addr) (cl : List (Str × Addr)) (fp : List Addr) : Ctx G N (relabel scope X.env) n (X.blk s H scope (compEnvC scope cl C X.env) fp) :=
  ⟨c.prog, c.w, c.K, c.mg, c.base, c.calm, c.hN, rfl, c.nd, c.room, c.free⟩
def hide (D : Addr) (H : Hp) : Hp := fun b => if b = D then none else H b
theorem hide_at {D : Addr} {H : Hp} : hide D H D = none := by unfold hide; rw [if_pos rfl]
theorem hide_ne {D b : Addr} {H : Hp} (h : b ≠ D) : hide D H b = H b := by unfold hide; rw [if_neg h]
theorem hide_upd {D : Addr} {H : Hp} {o : HO} : hide D (upd H D o) = hide D H := by
  funext b
  by_cases h : b = D
  · subst h; rw [hide_at, hide_at]
  · rw [hide_ne h, hide_ne h, upd_ne h]
theorem hide_none {D : Addr} {H : Hp} (h : H D = none) : hide D H = H := by
  funext b
  by_cases e : b = D
  · subst e; rw [hide_at, h]
  · rw [hide_ne e]
theorem same_hide {D : Addr} {H : Hp} : Same (hide D H) H := fun b o e => by
  by_cases h : b = D
  · subst h; rw [hide_at] at e; cases e
  · rw [hide_ne h] at e; exact e
theorem Stp.hide {D : Addr} {H H' : Hp} (k : Stp G H H') : Stp G (Wp.hide D H) (Wp.hide D H') := fun b o e n1 n2 n3 => by
  by_cases h : b = D
  · subst h; rw [hide_at] at e; cases e
  · rw [hide_ne h] at e ⊢
    exact k b o e n1 n2 n3
theorem St.hide {D : Addr} {H : Hp} {b : Nat} (S : St G b H) (nD : D ∉ G.al) (hn : ∀ w, H D = some w → Nt w) : St G b (Wp.hide D H) := by
  obtain ⟨⟨t, ⟨⟨r, h1⟩, ⟨ns, h2, h7⟩, ⟨ms, h3, h4⟩, h5, h6⟩, e⟩, T⟩ := S
  simp only [Gs.al, List.mem_cons, List.mem_nil_iff, or_false, not_or] at nD
  exact ⟨⟨t, ⟨⟨r, by rw [hide_ne (Ne.symm nD.1)]; exact h1⟩, ⟨ns, by rw [hide_ne (Ne.symm nD.2.1)]; exact h2, h7⟩, ⟨ms, by rw [hide_ne (Ne.symm nD.2.2)]; exact h3, h4⟩, h5, h6⟩, e⟩, tabs_keep T fun b o h m => by rw [hide_ne (fun z => by subst z; exact m (hn _ h))]; exact h⟩
theorem Run.hide {α β : Type} {D : Addr} {H : Hp} {b : Nat} {x : M α} {f : α → M β} {K : β → Nat → Hp → Prop} (h : Run G (Wp.hide D H) (Wp.bnd x f) b K) : Run G H x b fun a b' H' => Run G (Wp.hide D H') (f a) b' K := by
  obtain ⟨R, h, k⟩ := h
  exact ⟨_, h, fun a b' r H' s S => ⟨R, r, fun t b2 r2 H2 s2 S2 => k t b2 r2 H2 (s.hide.trans s2) S2⟩⟩
def walkW {α : Type} (f : T → M (Option α)) : List T → M (List α)
  | [] => ret []
  | t :: ts => bnd (f t) fun o => bnd (walkW f ts) fun ys => ret (match o with
    | some y => y :: ys
    | none => ys)
def lcT (own : List Nat) (g : T → Env → Option Env) (C : Env → M Bool) (E : Env → M T) (ρ : Env) : T → M (Option T) := fun t => bnd (opt (g t (MB.wipeE ρ own))) fun r => bnd (C r) fun k => if k = true then bnd (E r) fun y => ret (some y) else ret none
def mLc (own : List Nat) (I : Env → M (List T)) (g : T → Env → Option Env) (C : Env → M Bool) (E : Env → M T) : Env → M T := fun ρ => bnd (I ρ) fun ts => bnd (walkW (lcT own g C E ρ) ts) fun ys => ret (.lst ys)
def cYes : Env → M Bool := fun _ => ret true
theorem wipeE_get (j : Nat) : ∀ (vs : List Nat) (ρ : Env), (MB.wipeE ρ vs)[j]? = if j ∈ vs then (if j < ρ.length then some none else none) else ρ[j]?
  | [], ρ => by simp [MB.wipeE]
  | v :: vs, ρ => by
    unfold MB.wipeE
    rw [wipeE_get j vs, List.length_set]
    by_cases h : v = j
    · subst h
      by_cases hv : v ∈ vs
      · simp [hv]
      · by_cases hl : v < ρ.length
        · simp [hv, hl]
        · simp [hv, hl]
    · rw [List.getElem?_set_ne h]
      simp [Ne.symm h]
theorem wipeE_length : ∀ (vs : List Nat) (ρ : Env), (MB.wipeE ρ vs).length = ρ.length
  | [], ρ => rfl
  | v :: vs, ρ => by unfold MB.wipeE; rw [wipeE_length vs, List.length_set]
theorem ER.wipe {H : Hp} {σ : L2.St} {ρ : Env} (h : ER G H0 H σ ρ) (vs : List Nat) : ER G H0 H (L2.wipe σ vs) (MB.wipeE ρ vs) := by
  have key : ∀ i s, (MB.wipeE ρ vs)[i]? = some (some s) → ρ[i]? = some (some s) ∧ i ∉ vs := fun i s e => by
    rw [wipeE_get] at e
    by_cases hi : i ∈ vs
    · rw [if_pos hi] at e
      split at e <;> cases e
    · rw [if_neg hi] at e
      exact ⟨e, hi⟩
  refine ⟨by rw [wipe_length, wipeE_length, h.len], fun i s e => ?_, fun i j t u n e1 e2 => ?_⟩
  · obtain ⟨h1, h2⟩ := key i s e
    rw [wipe_get, if_neg h2]
    exact h.sl i s h1
  · obtain ⟨h1, h2⟩ := key i _ e1
    obtain ⟨h3, h4⟩ := key j _ e2
    rw [wipe_get, if_neg h2, wipe_get, if_neg h4]
    exact h.apart i j t u n h1 h3
theorem Stp.of_hide {D : Addr} {H : Hp} : Stp G (Wp.hide D H) H := .same same_hide
/-- the comprehension's reading -/
theorem lc_red {I : Env → M (List T)} {C : Env → M Bool} {E : Env → M T} {own : List Nat} {wi : TI} {gt : TG} {tt : TT} {te : TE} (hwi : ∀ σ H R, tIv G H0 I σ H R → wi σ H R)
    (hk : ∀ (v : V) (t : T) (σ : L2.St) (ρ ρ' : Env) (H : Hp) (Q : L2.St → Hp → Prop), ER G H0 H σ ρ → Rp G H v t → g t ρ = some ρ' → (∀ σ', ER G H0 H σ' ρ' → (∀ ws, (∀ i ∈ vs, i ∈ ws) → wipe σ' ws = wipe σ ws) → Q σ' H) → gt v σ H Q)
    (ho : ∀ i ∈ vs, i ∈ own) (hC : ∀ σ H Q, tTv G H0 C σ H Q → tt σ H Q) (hE : ∀ σ H Q, tEv G H0 E σ H Q → te σ H Q) {σ : L2.St} {H : Hp} {Q : VK} (q : tEvW G H0 (mLc own I g C E) σ H Q) : tLc wi gt tt te own σ H Q := by
  obtain ⟨ρ, b, er, S, r⟩ := q
  refine hwi _ _ _ ⟨ρ, b, er, S, r.bnd.imp fun ts b1 H1 s1 S1 r1 J ⟨nn, Gd, Y, w, hn, hz, hG, hY⟩ D hD => ?_⟩
  subst hn
  have nD : D ∉ G.al := S1.new hD
  refine lc_it w (fun i Hc => ∃ (acc : List T) (us : List V) (b' : Nat), Hc D = some (.lst us) ∧ RpL G Hc us acc ∧ us.length ≤ i ∧ St G b' (hide D Hc) ∧ Stp G H1 (hide D Hc) ∧
      Run G (hide D Hc) (walkW (lcT own g C E ρ) (ts.drop i)) b' fun ys _ H2 => ∀ H' v, Same H2 H' → Ou G H2 H' v (.lst (acc ++ ys)) → Q v H')
    ⟨[], [], b1, upd_same, .nil, Nat.le_refl _, by rw [hide_upd, hide_none hD]; exact S1, by rw [hide_upd, hide_none hD]; exact .rfl', ?_⟩ (fun i Hc _ ⟨_, _, _, _, _, _, _, s, _⟩ => hG Hc ((s.stay S1).trans (same_stay same_hide))) ?_ ?_
  · rw [hide_upd, hide_none hD]
    exact r1.bnd.imp fun ys b2 H2 s2 S2 q => by rw [List.nil_append]; exact Run.ret S2 q
  · rintro i x Hc Hd hi ⟨acc, us, b', hc, rl, hl, Sh, sh, rr⟩ hYi
    have Sc : St G b' Hc := Sh.same same_hide
    obtain ⟨sm, t, ht, rv⟩ := hY i Hc x Hd ((sh.stay S1).trans (same_stay same_hide)) hi hYi
    have ed : ts.drop i = t :: ts.drop (i + 1) := by
      rw [List.drop_eq_getElem_cons hi]
      congr 1
      rw [List.getElem?_eq_getElem hi] at ht
      exact Option.some.inj ht
    rw [ed] at rr
    have Sd := Sc.same sm
    have kd : Stp G (hide D Hc) (hide D Hd) := Stp.hide (.same sm)
    have Shd : St G b' (hide D Hd) := Sd.hide nD (nt1 (keepO (.same sm) nD hc) nt_l)
    have erd : ER G H0 Hd (wipe σ own) (MB.wipeE ρ own) := (((er.mono s1 S).mono (sh.trans kd) S1).more Shd same_hide).wipe own
    have rr2 := rr.at kd
    obtain ⟨r, e2, rr3⟩ := rr2.bnd.bnd.opt Shd
    have hcd := keepO (.same sm) nD hc
    have shd := sh.trans kd
    refine hk x t _ _ r Hd _ erd rv e2 fun σ2 er2 hw => ⟨?_, ?_⟩
    · rw [hw own ho]
      apply List.ext_getElem?
      intro j
      rw [wipe_get, wipe_get, wipe_length]
      split <;> rfl
    refine hC _ _ _ ⟨r, b', er2, Sd, (Run.hide rr3).imp fun k b2 H2 s2 S2 q => ?_⟩
    have hc2 := keepO s2 nD hcd
    have Sh2 : St G b2 (hide D H2) := S2.hide nD (nt1 hc2 nt_l)
    have rl2 : RpL G H2 us acc := (rl.mono (.same sm) Sc).mono s2 Sd
    cases k with
    | false =>
      have q1 := Run.ret Sh2 q
      exact ⟨acc, us, b2, hc2, rl2, Nat.le_succ_of_le hl, Sh2, shd.trans s2.hide, q1.bnd.imp fun ys b3 H3 s3 S3 q3 => q3.ret S3⟩
    | true =>
      refine hE _ _ _ ⟨r, b2, er2.mono s2 Sd, S2, (Run.hide (x := E r) (f := fun y => ret (some y)) q).imp fun y b3 H3 s3 S3 q3 yv ry => ?_⟩
      have hc3 := keepO s3 nD hc2
      have Sh3 : St G b3 (hide D H3) := S3.hide nD (nt1 hc3 nt_l)
      have q4 := Run.ret Sh3 q3
      have sy := stay_upd (o' := .lst (us ++ [yv])) hc3 trivial
      refine ⟨us, hc3, Nat.lt_of_le_of_lt hl (Nat.lt_of_lt_of_le hi hz), acc ++ [y], us ++ [yv], b3, upd_same, MB.RepL.mono List.prefix_rfl sy ((rl2.mono s3 S2).append (.cons ry .nil)), by rw [List.length_append]; exact Nat.succ_le_succ hl, by rw [hide_upd]; exact Sh3, by rw [hide_upd]; exact (shd.trans s2.hide).trans s3.hide, ?_⟩
      rw [hide_upd]
      refine q4.bnd.imp fun ys b4 H4 s4 S4 q5 => ?_
      have q6 := q5.ret S4
      rw [List.append_assoc]
      exact q6
  · rintro Hc ⟨acc, us, b', hc, rl, hl, Sh, sh, rr⟩
    rw [List.drop_length] at rr
    have q := Run.ret Sh rr Hc (.ref D) same_hide
    rw [List.append_nil] at q
    exact q (.inl ⟨rfl, D, _, rfl, nD, hide_at, hc, trivial, .lst (Nat.le_trans hl hz) rl⟩)
theorem q_nil : PTs X [] (tTv G H0 cYes) := ⟨fun pins s σ H Q I ⟨ρ, b, er, S, r⟩ => pts_nil.run pins s σ H Q I (r.ret S)⟩
theorem q_one {C : Env → M Bool} (h : PT X e (tTv G H0 C)) : PTs X [e] (tTv G H0 C) := pts_one h
theorem w_lc {I : Env → M (List T)} {C : Env → M Bool} {E : Env → M T} (own : List (Str × Nat)) {ifs : List Expr} {scope : Scope} {gt : TG} (c : Ctx G N sc n X) (hi : PI X tg iter (tIv G H0 I)) (ok : BlkOk N sc scope own)
    (hg : ∀ (s : Shared) (H : Hp) (C : Addr) (cl : List (Str × Addr)) (fp : List Addr), Tg G H0 (X.blk s H scope (compEnvC scope cl C X.env) fp) tg gt vs g)
    (ht : ∀ (s : Shared) (H : Hp) (D : Addr) (cl : List (Str × Addr)) (fp : List Addr), PTs (X.blk s H scope (compEnvC scope cl D X.env) fp) ifs (tTv G H0 C))
    (he : ∀ (s : Shared) (H : Hp) (C : Addr) (cl : List (Str × Addr)) (fp : List Addr), PE (X.blk s H scope (compEnvC scope cl C X.env) fp) elt (tEv G H0 E)) (ho : ∀ i ∈ vs, i ∈ own.map (·.2) := by decide) (hs : ∀ x, foldedSetIterable iter X.env x = pure x := by intro _; rfl) :
    PE X (.ListComp elt [⟨tg, iter, ifs, 0⟩] scope pos) (tEvW G H0 (mLc (own.map (·.2)) I g C E)) :=
  ⟨fun pins s σ H Q J q => (pe_lc (pos := pos) c.calm (by rw [c.hN]; exact c.nd) hi (by rw [c.hN, c.hsc]; exact ok) (fun s H C cl fp => (hg s H C cl fp).pg) ht he hs).run pins s σ H Q J
    (lc_red (fun _ _ _ z => z) (hg s H 0 [] []).ok ho (fun _ _ _ z => z) (fun _ _ _ z => z) q)⟩
/-- name = [..]: the list is the name's own -/
theorem s_ownLc {I : Env → M (List T)} {C : Env → M Bool} {E : Env → M T} (own : List (Str × Nat)) {ifs : List Expr} {scope : Scope} {gt : TG} {i : Nat} {y : Str} {py spos : Pos} (c : Ctx G N sc n X) (hy : N[i]? = some y) (hyl : sc.names.lookup y = some .local) (hi : PI X tg iter (tIv G H0 I)) (ok : BlkOk N sc scope own)
    (hg : ∀ (s : Shared) (H : Hp) (C : Addr) (cl : List (Str × Addr)) (fp : List Addr), Tg G H0 (X.blk s H scope (compEnvC scope cl C X.env) fp) tg gt vs g)
    (ht : ∀ (s : Shared) (H : Hp) (D : Addr) (cl : List (Str × Addr)) (fp : List Addr), PTs (X.blk s H scope (compEnvC scope cl D X.env) fp) ifs (tTv G H0 C))
    (he : ∀ (s : Shared) (H : Hp) (C : Addr) (cl : List (Str × Addr)) (fp : List Addr), PE (X.blk s H scope (compEnvC scope cl C X.env) fp) elt (tEv G H0 E))
    (hsw : swapsWith (.ListComp elt [⟨tg, iter, ifs, 0⟩] scope pos) (some (.Name y py)) spos.line X.env = pure true) (ho : ∀ i ∈ vs, i ∈ own.map (·.2) := by decide) (hs : ∀ x, foldedSetIterable iter X.env x = pure x := by intro _; rfl) :
    PS X (.Assign [.Name y py] (.ListComp elt [⟨tg, iter, ifs, 0⟩] scope pos) spos) (tSv G H0 (sOwn i (mLc (own.map (·.2)) I g C E))) :=
  ⟨fun pins s σ H D J ⟨ρ, b, er, k, S, r⟩ => (ps_setLc (i := i) c.calm (by rw [c.hN]; exact c.nd) (by rw [c.hN]; exact hy) (by rw [c.hsc]; exact hyl) hsw hi (by rw [c.hN, c.hsc]; exact ok) (fun s H C cl fp => (hg s H C cl fp).pg) ht he hs).run pins s σ H D J (by
    show tLc _ _ _ _ _ _ _ _
    refine lc_red (G := G) (H0 := H0) (fun _ _ _ z => z) (hg s H 0 [] []).ok ho (fun _ _ _ z => z) (fun _ _ _ z => z) ⟨ρ, b, er, S, (r.ex k S).imp fun t b' H1 s S' q H' v sm o => ?_⟩
    have k' : Stp G H0 H' := (k.trans s).trans (.same sm)
    obtain ⟨f, ef, q⟩ := (q.at (Stp.stay (.same sm) S')).opt k' (S'.same sm)
    split at ef
    · rename_i ho
      cases ef
      obtain ⟨p, u, rfl, np, h1, hp, mu, cn⟩ := ouOwn o ho
      have er1 := er.mono s S
      exact q _ ((er1.more S' sm).setOw i np (new0 (k.trans s) np h1) hp mu cn fun j w _ e => er1.fresh h1 j w e)
    · cases ef)⟩
end
end Wp

end -- W8
section -- W9
set_option Elab.async false
set_option linter.all false
set_option maxRecDepth 100000
set_option maxHeartbeats 2000000
/-! Defs: from the body to the promise. -/
namespace Wp
open PySem PySem.Spec L2
def startE (ns : Nat) (ts : List T) : Env := ts.map (fun t => some (MB.Sl.sh t)) ++ List.replicate (ns - ts.length) none
/-- what a def with ns names and this body answers -/
def runW (ns : Nat) (mb : Env → M Fl) : List T → M T := fun ts => bnd (mb (startE ns ts)) fun f => match f with
  | .rt t => ret t
  | .nx _ => ret .non
  | .bk _ => nev
  | .ct _ => nev
theorem er_start {G : Gs} {H : Hp} {vs : List V} {ts : List T} (N : List Str) (r : RpL G H vs ts) : ER G H H (L2.start N vs) (startE N.length ts) := by
  have hl := r.length
  refine ⟨by simp [L2.start, startE, hl], fun i s e => ?_, fun i j t u n e1 e2 => ?_⟩
  · unfold startE at e
    by_cases hi : i < ts.length
    · rw [List.getElem?_append_left (by simpa using hi), List.getElem?_map] at e
      obtain ⟨t, h1, h2⟩ := Option.map_eq_some_iff.mp e
      cases h2
      obtain ⟨v, h3, h4⟩ := r.get h1
      refine ⟨some v, ?_, v, rfl, h4⟩
      unfold L2.start
      rw [List.getElem?_append_left (by simpa [hl] using hi), List.getElem?_map, h3]
      rfl
    · rw [List.getElem?_append_right (by simpa using hi), List.getElem?_replicate] at e
      split at e <;> cases e
  · exfalso
    unfold startE at e1
    by_cases hi : i < ts.length
    · rw [List.getElem?_append_left (by simpa using hi), List.getElem?_map] at e1
      obtain ⟨t, h1, h2⟩ := Option.map_eq_some_iff.mp e1
      cases h2
    · rw [List.getElem?_append_right (by simpa using hi), List.getElem?_replicate] at e1
      split at e1 <;> cases e1
/-- the body's reading, from the promise -/
theorem body_red {g : MB.Gx} {a L C : Addr} {H : Hp} {vs : List V} {ts : List T} {b : Nat} {Q : VK} {mb : Env → M Fl} (N : List Str) (rl : RpL ⟨g, a, L, C⟩ H vs ts) (S : St ⟨g, a, L, C⟩ b H)
    (r : Run ⟨g, a, L, C⟩ H (runW N.length mb ts) b fun t _ H' => ∀ v, Rp ⟨g, a, L, C⟩ H' v t → Q v H') : tSv ⟨g, a, L, C⟩ H mb { nx := fun _ H' => Q .non H', rt := Q } (L2.start N vs) H := by
  obtain ⟨R, h, k⟩ := r.bnd
  refine ⟨_, b, er_start N rl, .rfl', S, R, h, fun f b' rf H' s y S' => ?_⟩
  have q := k f b' rf H' s S'
  cases f with
  | rt t => have q' := Run.ret (a := t) S' q; exact q'
  | nx ρ => exact fun σ _ => (Run.ret S' q) .non .non
  | bk ρ => exact (Run.nev q).elim
  | ct ρ => exact (Run.nev q).elim
abbrev bodyX (g : MB.Gx) (N : List Str) (x : Str) (st : Stmt) (f : Addr) (cdv : Value) (A : Around) (outer : List PySem.Env) (s : Shared) (H : Hp) (E : XK) : Cx := (cxOf CX0 g.prog g.w g.K g.mg g.base N x (defScope st) f cdv A outer s H E).nox
/-- THE RULE for a def -/
theorem fn_body {g : MB.Gx} {x : Str} {st : Stmt} {f : Addr} {fd : FuncData} {N ps : List Str} {k : Nat} {mb : Env → M Fl} (F : Dr.At g.K g.mg x st ps f fd) (S : FnScope N ps (defScope st))
    (body : ∀ (G : Gs) (cdv : Value) (A : Around) (outer : List PySem.Env) (s : Shared) (H : Hp) (E : XK), G.g = g → Ctx G N (defScope st) k (bodyX g N x st f cdv A outer s H E) → PSs (bodyX g N x st f cdv A outer s H E) (defBody st) (tSv G H mb)) :
    FnW g x ps.length (k + 1) (runW N.length mb) := by
  refine ⟨f, fd, ps, Gd.of_body F.fn S (fun vs H Q E h => h.1) (fun cdv A outer s H vs Q E fr hr h => ?_), F.m, F.fn.kp, F.b⟩
  obtain ⟨_, a, L, C, ts, b, rl, S', r⟩ := h
  exact ⟨_, body ⟨g, a, L, C⟩ cdv A outer s H E rfl ⟨rfl, rfl, rfl, rfl, rfl, rfl, rfl, rfl, S.nd, hr, fr⟩, body_red N rl S' r⟩
/-- a def that never is entered (a recursion's end) -/
theorem fn_never {g : MB.Gx} {x : Str} {st : Stmt} {f : Addr} {fd : FuncData} {ps : List Str} (F : Dr.At g.K g.mg x st ps f fd) (k : Nat) : FnW g x ps.length k fun _ => nev := by
  refine ⟨f, fd, ps, ⟨fun vs H Q E h => h.1, fun A outer s H args us vs Q E fr hr e0 hb r h => ?_⟩, F.m, F.fn.kp, F.b⟩
  obtain ⟨_, a, L, C, ts, b, rl, S', r⟩ := h
  exact (Run.nev r).elim
theorem FnW.mono {g : MB.Gx} {x : Str} {k lv lv' : Nat} {m : List T → M T} (F : FnW g x k lv m) (h : lv ≤ lv') : FnW g x k lv' m := by
  obtain ⟨f, fd, ps, F, h1, h2, h3⟩ := F.ex
  exact ⟨f, fd, ps, ⟨F.len, fun A outer s H args us vs Q E fr hr => F.go A outer s H args us vs Q E fr (hr.mono h)⟩, h1, h2, h3⟩
/-- from a promise proved by hand -/
theorem FnW.of {g : MB.Gx} {x : Str} {st : Stmt} {f : Addr} {fd : FuncData} {ps : List Str} {lv : Nat} {sp : Sp} {m : List T → M T} (F : Dr.At g.K g.mg x st ps f fd) (O : FnOk g.prog g.w g.K g.mg g.base CX0 lv f fd ps sp)
    (h : ∀ vs H Q E, spW g ps.length m vs H Q E → sp vs H Q E) : FnW g x ps.length lv m :=
  ⟨f, fd, ps, ⟨fun vs H Q E q => q.1, fun A outer s H args us vs Q E fr hr e0 hb r q => O.run A outer s H args us vs Q E hr e0 hb r (h _ _ _ _ q)⟩, F.m, F.fn.kp, F.b⟩
/-! ### the drawing defs -/
def mTake : List T → M T := fun ts b R => ∃ n : Int, ts = [.loc 0, .int n] ∧ 0 < n ∧ n < 1073741824 ∧ 1 ≤ b ∧ ∀ (r : Int) (b' : Nat), 0 ≤ r → r < n → b ≤ b' + 1 → R (.int r) b'
def mWord : List T → M T := fun ts b R => ts = [.loc 0] ∧ 10 ≤ b ∧ ∀ (x : Str) (b' : Nat), Dr.wdB x = true → b ≤ b' + 10 → R (.str x) b'
theorem loc0 {G : Gs} {H : Hp} {v : V} (r : Rp G H v (.loc 0)) : v = .ref G.a := by
  cases r with
  | con h c => cases c
  | loc e => cases e; rfl
theorem fn_take {g : MB.Gx} {ft fm : Addr} {fd fdm : FuncData} (F : Dr.At g.K g.mg "_law_take" Dr.sTake ["_law_state", "_law_size"] ft fd) (T : Dr.Tx g.mg) (M : Dr.At g.K g.mg "_law_mixed" Dr.sMixed ["_law_state"] fm fdm) : FnW g "_law_take" 2 2 mTake :=
  FnW.of F (Dr.ok_take F.fn T M) fun vs H Q E ⟨hl, a, L, C, ts, b, rl, ⟨⟨t, S, hb⟩, Tb⟩, R, ⟨n, e, n0, n1, b1, hR⟩, k⟩ => by
    subst e
    cases rl with
    | cons r1 rl =>
      cases rl with
      | cons r2 rl =>
        cases rl
        have e1 := loc0 r1
        have e2 := RB.int (G := ⟨g, a, L, C⟩) (H := H) (.inl r2)
        refine ⟨a, L, C, t, n, by rw [e1, e2], S, by omega, n0, n1, fun i H' t' i0 i1 S' l1 l2 kp => ?_⟩
        have hS : St ⟨g, a, L, C⟩ (b - 1) H' := ⟨⟨t', S', by omega⟩, St.kept (G := ⟨g, a, L, C⟩) ⟨⟨t, S, hb⟩, Tb⟩ kp⟩
        exact k _ _ (hR i (b - 1) i0 i1 (by omega)) H' (.of kp) hS _ (.int i)
theorem fn_word {g : MB.Gx} {f ft fm : Addr} {fd fdt fdm : FuncData} (F : Dr.At g.K g.mg "_law_word" Dr.sWord ["_law_state"] f fd) (T : Dr.Tx g.mg) (TK : Dr.At g.K g.mg "_law_take" Dr.sTake ["_law_state", "_law_size"] ft fdt) (M : Dr.At g.K g.mg "_law_mixed" Dr.sMixed ["_law_state"] fm fdm) : FnW g "_law_word" 1 3 mWord :=
  FnW.of F (Dr.ok_word F.fn T TK M) fun vs H Q E ⟨hl, a, L, C, ts, b, rl, ⟨⟨t, S, hb⟩, Tb⟩, R, ⟨e, b1, hR⟩, k⟩ => by
    subst e
    cases rl with
    | cons r1 rl =>
      cases rl
      have e1 := loc0 r1
      refine ⟨a, L, C, t, by rw [e1], S, by omega, fun x H' t' hx S' l1 l2 kp => ?_⟩
      have hS : St ⟨g, a, L, C⟩ (b - 10) H' := ⟨⟨t', S', by omega⟩, St.kept (G := ⟨g, a, L, C⟩) ⟨⟨t, S, hb⟩, Tb⟩ kp⟩
      exact k _ _ (hR x (b - 10) hx (by omega)) H' (.of kp) hS _ (.str x)
end Wp

end -- W9
section -- W10
set_option Elab.async false
set_option linter.all false
set_option maxRecDepth 100000
set_option maxHeartbeats 2000000
/-! Short forms of the rules, with what is plain filled in; calls by keywords; {}; xs * n; while. -/
namespace Wp
open PySem PySem.Spec L2
section
variable {G : Gs} {H0 : Hp} {X : Cx} {N : List Str} {sc : Scope} {n : Nat} {a bb d e tg iter elt : Expr} {A B D : Env → M T} {pos p : Pos} {st : Stmt} {rest body : List Stmt} {m m' : Env → M Fl} {es : List Expr} {As : Env → M (List T)}
theorem v_ (i : Nat) {x : Str} (c : Ctx G N sc n X) (hi : N[i]? = some x := by rfl) (hv : Vis sc x := by first | exact .inl rfl | exact .inr (.inl rfl) | exact .inr (.inr rfl)) (hd : (x == ("__debug__" : Str)) = false := by decide) (hcd : (x == ("__classdict__" : Str)) = false := by decide) : PE X (.Name x pos) (tEv G H0 (mVar i)) := w_var c hi hv hd hcd
theorem b_ (i : Nat) {x : Str} (c : Ctx G N sc n X) (hi : N[i]? = some x := by rfl) (hv : Vis sc x := by first | exact .inl rfl | exact .inr (.inl rfl) | exact .inr (.inr rfl)) (hd : (x == ("__debug__" : Str)) = false := by decide) (hcd : (x == ("__classdict__" : Str)) = false := by decide) : PE X (.Name x pos) (tEvB G H0 (mVarB i)) := w_varB c hi hv hd hcd
theorem w_one {op} (h : PE X a (tEv G H0 A)) : PE X (.BoolOp op [a] pos) (tEv G H0 A) := pe_one h
/-- a built-in type as a value -/
theorem w_ty {n : String} {x : Str} (hg : Gl X x) (hm : X.mg x = none) (hv : bootBuiltins x = some (.type n)) (hn : x ≠ "__name__" := by decide) (hd : (x == ("__debug__" : Str)) = false := by decide) : PE X (.Name x pos) (tC (.ty n)) := pe_bltn hg hm hv rfl hn hd
/-- isinstance(x, (T, U)) -/
def isi2 (n1 n2 : String) : T → Option T := fun t => if plain7 t = true then (match kitB (tyN t) n1, kitB (tyN t) n2 with
  | some b1, some b2 => some (.bl (b1 || b2))
  | _, _ => none) else none
theorem w_isi2 {k : Nat} {n1 n2 : String} {x y : Str} {q : Nat} {p1 p2 p3 p4 : Pos} (c : Ctx G N sc k X) (hg : Gl X "isinstance") (hm : X.mg "isinstance" = none) (ht : PE X (.Name x p2) (tC (.ty n1))) (hu : PE X (.Name y p3) (tC (.ty n2))) (ha : PE X a (tEvB G H0 A))
    (hs : starEach [a, .Tuple [.Name x p2, .Name y p3] q p4] X.env = (false, eval a X.env) :: starEach [.Tuple [.Name x p2, .Name y p3] q p4] X.env := by rfl) (hs2 : starEach [.Tuple [.Name x p2, .Name y p3] q p4] X.env = (false, eval (.Tuple [.Name x p2, .Name y p3] q p4) X.env) :: starEach [] X.env := by rfl)
    (hs3 : starEach [.Name x p2, .Name y p3] X.env = (false, eval (.Name x p2) X.env) :: starEach [.Name y p3] X.env := by rfl) (hs4 : starEach [.Name y p3] X.env = (false, eval (.Name y p3) X.env) :: starEach [] X.env := by rfl) :
    PE X (.Call (.Name "isinstance" p1) [a, .Tuple [.Name x p2, .Name y p3] q p4] [] pos) (tEv G H0 (mB1 (isi2 n1 n2) A)) := by
  have hc : CallR X (.builtin "isinstance") (fun vs H Q => ∃ v x t tp, vs = [v, .ref tp] ∧ H tp = some (.tup [.ty n1, .ty n2]) ∧ RB G H v x ∧ isi2 n1 n2 x = some t ∧ ∀ u, Rp G H u t → Q u H) := fun pins s σ H vs us Q I r ⟨v, x, t, tp, ev, hT, rb, e, k⟩ => by
    subst ev
    obtain ⟨u1, u2, rfl, r1, r2⟩ := vals2 r
    cases (show u2 = Value.ref tp from r2)
    unfold isi2 at e
    split at e
    · rename_i hp
      split at e
      · rename_i b1 b2 e1 e2
        cases e
        obtain ⟨P, Z, p, hx⟩ := kitW I c.K r1 rb hp
        obtain ⟨_, its, rv, o, h1, h2, n, h3⟩ := (show ObjOk X.prog X.w H s.heap tp (.tup _) from I.hok tp _ hT)
        have e3 := ClsV.all (.cons (.ty n1) (.cons (.ty n2) .nil)) rv
        subst e3
        obtain ⟨oc, od, dt, sl⟩ := o
        simp only at h2 h3
        subst h2 h3
        refine PySem.W.kia_tup Z I.kIn p h1 (b := b1 || b2) ?_ hx fun tk => ⟨.bl (b1 || b2), H, I.tok tk, rfl, k _ (.bl _)⟩
        refine kitAny_cons (kit_ty e1) (fun hb => ?_) (fun hb => by rw [hb]; rfl)
        refine kitAny_cons (kit_ty e2) (fun hb2 => ?_) (fun hb2 => by rw [hb2]; simp)
        rw [hb, hb2]
        rfl
      · cases e
    · cases e
  refine shut ((pe_callB hc hg hm (by decide +kernel) (pa_cons ha (pa_cons (pe_tup (pa_cons ht (pa_cons hu pa_nil hs4) hs3)) pa_nil hs2) hs) (by decide) (by decide) hs).imp fun σ H Q ⟨ρ, b, er, S, r⟩ => ⟨ρ, b, er, S, r.bnd.imp fun x b1 H1 s1 S1 r1 v rv => ?_⟩)
  obtain ⟨t, e, q⟩ := r1.opt S1
  refine ⟨by show 2 ≤ sizeLine; decide +kernel, fun tp hp => ⟨v, x, t, tp, rfl, upd_same, rv.mono (.same (same_new hp)) S1, e, fun u ru => q _ u (same_new hp) (.inr ⟨?_, ru⟩)⟩⟩
  unfold isi2 at e
  split at e
  · split at e
    · cases e; rfl
    · cases e
  · cases e
/-! ### {} and xs * n -/
def mDNew : Env → M T := fun _ => ret (.dct [])
theorem w_dnew : PE X (.Dict [] [] pos) (tEvW G H0 mDNew) := (pe_dnewK (pos := pos)).imp fun σ H Q ⟨ρ, b, er, S, r⟩ p hp => (r.ret S) _ _ (same_new hp) (ouNew S hp rfl trivial (.dK (Nat.zero_le _) .nil))
def mRep (A B : Env → M T) : Env → M T := fun ρ => bnd (A ρ) fun x => bnd (B ρ) fun y => opt (match x, y with
  | .lst xs, .int k => if 0 ≤ k ∧ k < 1000 ∧ xs.length ≤ 1000 then some (.lst (List.replicate k.toNat xs).flatten) else none
  | _, _ => none)
theorem flat_rep {H : Hp} {vs : List V} {ts : List T} (r : RpL G H vs ts) : ∀ k : Nat, RpL G H (List.replicate k vs).flatten (List.replicate k ts).flatten
  | 0 => .nil
  | k + 1 => by
    rw [List.replicate_succ, List.replicate_succ, List.flatten_cons, List.flatten_cons]
    exact r.append (flat_rep r k)
theorem w_rep (ha : PE X a (tEvW G H0 A)) (hb : PE X bb (tEv G H0 B)) : PE X (.BinOp a .Mult bb pos) (tEvW G H0 (mRep A B)) :=
  (pe_op (pos := pos) op_rep ha hb).imp fun σ H Q ⟨ρ, b, er, S, r⟩ => ⟨ρ, b, er, S, r.bnd.imp fun x b1 H1 s1 S1 r1 H1' v sm o => by
    refine ⟨ρ, b1, (er.mono s1 S).more S1 sm, S1.same sm, (r1.at (.same sm)).bnd.imp fun y b2 H2 s2 S2 r2 w rw' => ?_⟩
    obtain ⟨t, e, k⟩ := r2.opt S2
    split at e
    · rename_i xs j
      split at e
      · rename_i hj
        cases e
        obtain ⟨p, u, rfl, np, _, hp, mu, cn⟩ := ouOwn o rfl
        cases cn with
        | lst z rl =>
          rename_i vs
          have hp2 := keepO s2 np hp
          have hlen : vs.length * j.toNat ≤ sizeLine := by
            rw [rl.length, sizeLine_eq]
            have h1 : xs.length * j.toNat ≤ 1000 * 1000 := Nat.mul_le_mul hj.2.2 (by omega)
            omega
          refine ⟨p, j, vs, rfl, RB.int (G := G) (H := H2) (.inl rw'), hp2, by omega, by omega, hlen, fun q hq => k _ _ (same_new hq) (ouNew S2 hq rfl trivial (.lst ?_ (flat_rep (RpL.mono rl s2 (S1.same sm)) _)))⟩
          rw [List.length_flatten, List.map_replicate, List.sum_replicate_nat, Nat.mul_comm]
          exact hlen
      · cases e
    · cases e⟩
/-! ### keywords -/
def tKv (G : Gs) (H0 : Hp) (k : Nat) (m : Env → M (List T)) : TA := tAv G H0 k m
theorem PKimp {kws : List Keyword} {t t' : TA} (h : PK X kws t) (hi : ∀ σ H Q, t' σ H Q → t σ H Q) : PK X kws t' := ⟨fun p pins s σ H Q I q => h.run p pins s σ H Q I (hi σ H Q q)⟩
theorem k_nil : PK X [] (tAv G H0 0 aNil) := PKimp pk_nil fun σ H Q ⟨ρ, b, er, S, r⟩ => (r.ret S) [] .nil rfl
theorem k_cons {nm : Option Str} {kws : List Keyword} {k : Nat} (ha : PE X a (tEv G H0 A)) (hr : PK X kws (tAv G H0 k As)) : PK X (⟨nm, a, p⟩ :: kws) (tAv G H0 (k + 1) (aCons A As)) :=
  PKimp (pk_cons ha hr) fun σ H Q ⟨ρ, b, er, S, r⟩ => ⟨ρ, b, er, S, r.bnd.imp fun x b1 H1 s1 S1 r1 v rv => ⟨ρ, b1, er.mono s1 S, S1, r1.bnd.imp fun xs b2 H2 s2 S2 r2 vs rvs hl => (r2.ret S2) (v :: vs) (.cons (rv.mono s2 S1) rvs) (by rw [List.length_cons, hl])⟩⟩
/-- a def called with keywords: n positional values, then ks -/
structure FnK (g : MB.Gx) (x : Str) (n : Nat) (ks : List Str) (lv : Nat) (m : List T → M T) : Prop where
  ex : ∃ (f : Addr) (fd : FuncData) (ps : List Str), Gd.FnG g.prog g.w g.K g.mg g.base CX0 lv f fd ps (spW g (n + ks.length) m) ∧ g.mg x = some (.ref f) ∧ PySem.W.keepIn g.K (.ref f) = true ∧ KBn g.K fd ps n ks (fun us ws => us ++ ws) (fun vs zs => vs ++ zs)
def mCallK (m : List T → M T) (As Bs : Env → M (List T)) : Env → M T := fun ρ => bnd (As ρ) fun ts => bnd (Bs ρ) fun us => m (ts ++ us)
theorem w_callK {x : Str} {k lv : Nat} {ks : List Str} {mf : List T → M T} {kws : List Keyword} {Bs : Env → M (List T)} (c : Ctx G N sc n X) (F : FnK G.g x k ks lv mf) (hl : lv ≤ n) (hg : Gl X x) (ha : PA X (e :: es) (tAv G H0 k As)) (hk : PK X kws (tAv G H0 ks.length Bs))
    (hall : (backToKw pos (keywordEach kws X.env)).all (·.1.isSome) = true := by rfl) (hks : (backToKw pos (keywordEach kws X.env)).filterMap (·.1) = ks := by rfl)
    (hdb : (x == ("__debug__" : Str)) = false := by decide) (he : starEach (e :: es) X.env = (false, eval e X.env) :: starEach es X.env := by rfl)
    (hpl : ((backTo pos (starEach (e :: es) X.env)).any (·.1) || (backToKw pos (keywordEach kws X.env)).any (·.1.isNone)) = false := by rfl) :
    PE X (.Call (.Name x p) (e :: es) kws pos) (tEv G H0 (mCallK mf As Bs)) := by
  obtain ⟨f, fd, ps, F, h1, h2, h3⟩ := F.ex
  rw [← c.prog, ← c.w, ← c.K, ← c.mg, ← c.base] at F
  rw [← c.mg] at h1
  rw [← c.K] at h2 h3
  refine (pe_callNG (p := p) (pos := pos) F c.free (c.room.mono hl) hg h1 h2 h3 pass0 ha hk hall hks hdb he hpl).imp fun σ H Q ⟨ρ, b, er, S, r⟩ => ?_
  refine ⟨ρ, b, er, S, r.bnd.imp fun ts b1 H1 s1 S1 r1 vs rv hl => ⟨ρ, b1, er.mono s1 S, S1, r1.bnd.imp fun us b2 H2 s2 S2 r2 zs rz hl2 => ⟨hl, hl2, by rw [List.length_append, hl, hl2], G.a, G.L, G.C, ts ++ us, b2, (rv.mono s2 S1).append rz, S2, r2⟩⟩⟩
/-! ### while -/
def whileW (C : Env → M Bool) (m : Env → M Fl) : Nat → Env → M Fl
  | 0, _ => nev
  | k + 1, ρ => bnd (C ρ) fun c => if c = true then bnd (m ρ) fun fl => match fl with
      | .nx ρ' => whileW C m k ρ'
      | .ct ρ' => whileW C m k ρ'
      | .bk ρ' => ret (.nx ρ')
      | .rt t => ret (.rt t)
    else ret (.nx ρ)
/-- so many turns at most -/
theorem s_while {C : Env → M Bool} (k0 : Nat) (hp : PassesOwn (model X.prog X.w) X.A X.env X.xe) (hc : PT X e (tTv G H0 C)) (hb : PSs X body (tSv G H0 m)) : PS X (.While e body [] pos) (tSv G H0 (whileW C m k0)) :=
  PSimp (ps_while hp hc hb) fun D σ H ⟨ρ, b, er, k, S, r⟩ => by
    refine ⟨fun j σ' Hc => ∃ ρ' b', ER G H0 Hc σ' ρ' ∧ Stp G H0 Hc ∧ St G b' Hc ∧ RunS G H0 Hc (whileW C m j ρ') b' (post G H0 D), ⟨k0, ρ, b, er, k, S, r⟩, ?_⟩
    rintro j σ' Hc ⟨ρ', b', er', k', S', r'⟩
    cases j with
    | zero =>
      obtain ⟨R, h, _⟩ := r'
      exact h.elim
    | succ j =>
      refine ⟨ρ', b', er', S', (r'.ex k' S').imp fun c b2 H2 s2 S2 q => ?_⟩
      cases c with
      | false => exact RunS.ret (K := post G H0 D) (k'.trans s2) S2 q _ (er'.mono s2 S')
      | true =>
        refine ⟨fun σ3 H3 => ∃ ρ3 b3, ER G H0 H3 σ3 ρ3 ∧ Stp G H0 H3 ∧ St G b3 H3 ∧ RunS G H0 H3 (whileW C m j ρ3) b3 (post G H0 D), fun σ3 H3 h => ⟨j, Nat.lt_succ_self _, h⟩, ρ', b2, er'.mono s2 S', k'.trans s2, S2, ?_⟩
        refine (RunS.bnd (x := m ρ') q).imp fun f b3 H3 k3 y3 S3 q3 => ?_
        cases f with
        | nx ρ3 => exact fun σ3 er3 => ⟨ρ3, b3, er3, k3, S3, q3⟩
        | ct ρ3 => exact fun σ3 er3 => ⟨ρ3, b3, er3, k3, S3, q3⟩
        | bk ρ3 => exact RunS.ret (K := post G H0 D) (a := .nx ρ3) k3 S3 q3
        | rt t => have q4 := RunS.ret (K := post G H0 D) (a := .rt t) k3 S3 q3; exact q4
end
end Wp

end -- W10
section -- W11
set_option Elab.async false
set_option linter.all false
set_option maxRecDepth 100000
set_option maxHeartbeats 2000000
/-! Constants of the module; defs with keyword-only parameters. -/
namespace Wp
open PySem PySem.Spec PyProof.Rows L2
section
variable {G : Gs} {H0 : Hp} {X : Cx} {N : List Str} {sc : Scope} {n : Nat} {a bb d e tg iter elt : Expr} {A B D : Env → M T} {pos p : Pos}
theorem c_str {x z : Str} (hm : ∃ t, X.mg x = some (.str z t)) (hg : Gl X x := by rfl) (hd : (x == ("__debug__" : Str)) = false := by decide) : PE X (.Name x pos) (tEv G H0 (mLit (.str z))) := by
  obtain ⟨t, hm⟩ := hm
  exact w_con (pe_glob (v := .str z) hg hm ⟨t, rfl⟩ hd) fun _ => .str z
theorem c_int {x : Str} {i : Int} (hm : ∃ t, X.mg x = some (.int i t)) (hg : Gl X x := by rfl) (hd : (x == ("__debug__" : Str)) = false := by decide) : PE X (.Name x pos) (tEv G H0 (mLit (.int i))) := by
  obtain ⟨t, hm⟩ := hm
  exact w_con (pe_glob (v := .int i) hg hm ⟨t, rfl⟩ hd) fun _ => .int i
/-- () of the module -/
theorem c_mark {x : Str} (hm : ∃ a o its n, X.mg x = some (.ref a) ∧ G.g.K.lookup a = some o ∧ o.cls = .type "tuple" ∧ o.data = .seq its n ∧ its.size = 0) (hg : Gl X x := by rfl) (hd : (x == ("__debug__" : Str)) = false := by decide) : PE X (.Name x pos) (tEv G H0 (mLit (.tup []))) := by
  obtain ⟨a, o, its, n, hm, h1, h2, h3, h4⟩ := hm
  refine w_con (pe_glob (v := .ref a) hg hm rfl hd) fun H => .tupE (.inr ⟨o, its, n, h1, h2, h3, by rw [h4]; exact Nat.zero_le _, ?_⟩)
  have : its.toList = [] := by
    apply List.eq_nil_of_length_eq_zero
    simpa using h4
  rw [this]
  exact .nil
def mChnT (o1 o2 : MB.COp) (A B D : Env → M T) : Env → M Bool := fun ρ => bnd (A ρ) fun x => bnd (B ρ) fun y => bnd (opt (MB.cmpT o1 x y)) fun r =>
  if r = true then bnd (D ρ) fun z => opt (MB.cmpT o2 y z) else ret false
theorem t_chn (o1 o2 : MB.COp) (c : Ctx G N sc n X) (ha : PE X a (tEvB G H0 A)) (hb : PE X bb (tEvB G H0 B)) (hd : PE X d (tEvB G H0 D)) (hm : lastMarks [MB.copOf o1, MB.copOf o2] [bb, d] = false) :
    PT X (.Compare a [MB.copOf o1, MB.copOf o2] [bb, d] pos) (tTv G H0 (mChnT o1 o2 A B D)) :=
  PTimp (pt_chain (pos := pos) (MB.op_cmp o1 c.hu c.K) (MB.op_cmp o2 c.hu c.K) ha hb hd hm) fun σ H Q ⟨ρ, b, er, S, r⟩ => ev2t er S r fun x y b' H' v w s S' rv rw' r' => by
    obtain ⟨j, hj, r'⟩ := r'.bnd.opt S'
    refine ⟨G.g |> fun _ => G.al, x, y, j, rv.tv, rw'.tv, hj, j, rfl, ?_⟩
    cases j with
    | false => exact ⟨false, rfl, Run.ret S' r'⟩
    | true => exact ⟨ρ, b', er.mono s S, S', Run.imp (Run.bnd r') fun z b3 H3 s3 S3 r3 w3 rw3 => by
        obtain ⟨j, hj, k⟩ := r3.opt S3
        exact ⟨G.al, y, z, j, (rw'.mono s3 S').tv, rw3.tv, hj, j, rfl, k⟩⟩
end
/-- a body of a def that has defaults -/
theorem of_bodyD {P : Program} {w : World} {K : PySem.W.Frag} {mg : Str → Option Value} {base : Heap} {x qual : Str} {params : Arguments} {body : List Stmt} {scope : Scope} {dvs : List V} {kws : List (Str × V)} {f : Addr} {fd : FuncData} {N ps : List Str} {k : Nat} {sp : Sp} (F : FunD K x qual params body scope dvs kws f fd) (S : FnScope N ps scope) (len : ∀ vs H Q E, sp vs H Q E → vs.length = ps.length)
    (hbody : ∀ (cdv : Value) (A : Around) (outer : List PySem.Env) (s : Shared) (H : Hp) (vs : List V) (Q : VK) (E : XK), Gd.Free A → Room k (A.deeper (envOfC qual scope s.heap.objs.size f cdv)) → sp vs H Q E →
      ∃ t, PSs (cxOf CX0 P w K mg base N qual scope f cdv A outer s H E).nox body t ∧ t { nx := fun _ H' => Q .non H', rt := Q } (L2.start N vs) H) : Gd.FnG P w K mg base CX0 (k + 1) f fd ps sp := by
  obtain ⟨oc, od, dV, kV, doc, pm, an, cdv, ct, osl, rfl, lk, hcd, _, _⟩ := F.ex
  refine ⟨len, fun A outer s H args us vs Q E fr hr e0 hb r hsp => ?_⟩
  have n1 := len _ _ _ _ hsp
  have KX : K.In s.heap := e0.mod.kin.keeps fun b o z => (e0.bs b o z).1
  have kinds : ∀ y ∈ ps.zip us, scope.names.lookup y.1 = some .local ∨ (scope.names.lookup y.1 = some .cell ∧ ((cellsFrom (s.heap.objs.size + 1) scope.names []).lookup y.1).isSome = true) := by
    rintro ⟨y, v⟩ hy
    exact (S.par y (List.of_mem_zip hy).1).imp id fun z => ⟨z, PySem.W.cellsFrom_some _ _ _ (.inl z)⟩
  obtain ⟨t, ht, hq⟩ := hbody cdv A outer s H vs Q E fr (hr.deeper _) hsp
  refine codeAny_call_function hr.depth (KX _ _ lk) rfl S.co S.gen rfl (PySem.W.codeRec_of KX hcd) (hb _ _ _ _ (wpAny_newFunctionEnv_cells S.kind kinds fun env he s1 x => ?_))
  subst he
  refine ⟨(e0.mod.nolimit.keeps fun b o z => (e0.bs b o z).1).keeps x.toInCall.keep, codeAny_func ?_⟩
  have J0 : Inv (cxOf CX0 P w K mg base N qual scope f cdv A outer s H E) [] (L2.start N vs) H s1 := inv_start S hr.hd e0 n1 r x
  refine wpAny_mono (ht.nox.run [] s1 (L2.start N vs) H _ J0 hq) (fun fl s' hs => ?_) fun _ _ z => z
  cases fl with
  | ret u => obtain ⟨v, σ', H', J, rv, q⟩ := hs; exact ⟨v, H', J.os, J.bare, J.base, J.hok, rv, q⟩
  | next => obtain ⟨σ', H', J, q⟩ := hs; exact ⟨.non, H', J.os, J.bare, J.base, J.hok, rfl, q⟩
  | brk => obtain ⟨_, _, _, q⟩ := hs; exact q.elim
  | cont => obtain ⟨_, _, _, q⟩ := hs; exact q.elim
/-- a def with keyword-only parameters at the module's name -/
structure AtD (K : PySem.W.Frag) (mg : Str → Option Value) (x : Str) (st : Stmt) (ps : List Str) (kws : List (Str × V)) (f : Addr) (fd : FuncData) : Prop where
  fn : FunD K x x (defArgs st) (defBody st) (defScope st) [] kws f fd
  m : mg x = some (.ref f)
theorem fnK_body {g : MB.Gx} {x : Str} {st : Stmt} {f : Addr} {fd : FuncData} {N ps ks : List Str} {kws : List (Str × V)} {k j : Nat} {mb : Env → M Fl} (F : AtD g.K g.mg x st ps kws f fd) (S : FnScope N ps (defScope st)) (hj : ps.length = j + ks.length)
    (hb : ∀ (dV kV doc pm : Value) (an : Option Addr) (cdv ct : Value) (us ws : List Value), us.length = j → ws.length = ks.length → bindArgs (PySem.W.fnOf x x (defArgs st) (defBody st) (defScope st) .none kV doc pm an cdv ct) ⟨us, ks.zip ws⟩ = pure (ps.zip (us ++ ws)))
    (body : ∀ (G : Gs) (cdv : Value) (A : Around) (outer : List PySem.Env) (s : Shared) (H : Hp) (E : XK), G.g = g → Ctx G N (defScope st) k (bodyX g N x st f cdv A outer s H E) → PSs (bodyX g N x st f cdv A outer s H E) (defBody st) (tSv G H mb)) :
    FnK g x j ks (k + 1) (runW N.length mb) := by
  refine ⟨f, fd, ps, of_bodyD F.fn S (fun vs H Q E h => by rw [hj]; exact h.1) (fun cdv A outer s H vs Q E fr hr h => ?_), F.m, F.fn.kp, ?_, fun r1 r2 => r1.append r2⟩
  · obtain ⟨_, a, L, C, ts, b, rl, S', r⟩ := h
    exact ⟨_, body ⟨g, a, L, C⟩ cdv A outer s H E rfl ⟨rfl, rfl, rfl, rfl, rfl, rfl, rfl, rfl, S.nd, hr, fr⟩, body_red N rl S' r⟩
  · intro s us ws _ l1 l2
    obtain ⟨oc, od, dV, kV, doc, pm, an, cdv, ct, osl, rfl, lk, hcd, hD, _⟩ := F.fn.ex
    have e : dV = .none := by
      rcases hD with ⟨_, e⟩ | ⟨e, _⟩
      · exact e
      · exact absurd rfl e
    subst e
    exact .of_eq (hb .none kV doc pm an cdv ct us ws l1 l2)
theorem fnK_never {g : MB.Gx} {x : Str} {st : Stmt} {f : Addr} {fd : FuncData} {ps ks : List Str} {kws : List (Str × V)} {j : Nat} (F : AtD g.K g.mg x st ps kws f fd) (hj : ps.length = j + ks.length)
    (hb : ∀ (dV kV doc pm : Value) (an : Option Addr) (cdv ct : Value) (us ws : List Value), us.length = j → ws.length = ks.length → bindArgs (PySem.W.fnOf x x (defArgs st) (defBody st) (defScope st) .none kV doc pm an cdv ct) ⟨us, ks.zip ws⟩ = pure (ps.zip (us ++ ws))) (k : Nat) : FnK g x j ks k fun _ => nev := by
  refine ⟨f, fd, ps, ⟨fun vs H Q E h => by rw [hj]; exact h.1, fun A outer s H args us vs Q E fr hr e0 hb r h => ?_⟩, F.m, F.fn.kp, ?_, fun r1 r2 => r1.append r2⟩
  · obtain ⟨_, a, L, C, ts, b, rl, S', r⟩ := h
    exact (Run.nev r).elim
  · intro s us ws _ l1 l2
    obtain ⟨oc, od, dV, kV, doc, pm, an, cdv, ct, osl, rfl, lk, hcd, hD, _⟩ := F.fn.ex
    have e : dV = .none := by
      rcases hD with ⟨_, e⟩ | ⟨e, _⟩
      · exact e
      · exact absurd rfl e
    subst e
    exact .of_eq (hb .none kV doc pm an cdv ct us ws l1 l2)
end Wp

end -- W11
section -- SD
set_option Elab.async false
set_option linter.all false
set_option maxRecDepth 100000
set_option maxHeartbeats 3200000
/-! set(d) of a dict, and == of two sets. -/
namespace Sd
open PySem PyProof.Rows
theorem sub_dict_set : isSubtype (.type "dict") (.type "set") = pure false := by rw [isSubtype_type]; kernel_rfl
theorem sub_dict_frozenset : isSubtype (.type "dict") (.type "frozenset") = pure false := by rw [isSubtype_type]; kernel_rfl
variable {prog : Program} {w : World} {A : Around} {E : Value → Shared → Prop} {s : Shared} {K : Type} [DecidableEq K] {knd : KeyKind prog w K}
theorem congrS {h : Heap} {a : Addr} {S S' : K → Bool} {n : Nat} (hS : h.SetOf knd a S n) (e : ∀ k, S k = S' k) : h.SetOf knd a S' n := by
  have : S = S' := funext e
  subst this
  exact hS
/-- the elements come one by one -/
theorem fill {S d : Addr} {od : Obj} {es : Array DictEntry} {ep : Nat} {Q : PUnit → Shared → Prop} {nm : String} (hSd : S ≠ d) (hod : s.heap.get? d = some od) (hdd : od.data = .dict es ep) (hk : KeysOf knd es) (hsc : ∀ e ∈ es, e.key.scannable = true) (hz : es.size < 1000) (hnd : ∀ (i j : Nat) (hi : i < es.size) (hj : j < es.size) (k : K), i ≠ j → knd.is k es[i].key = true → knd.is k es[j].key = false)
    (hS : s.heap.SetOf knd S (fun _ => false) 0)
    (hQ : ∀ (h' : Heap), Heap.SameBut S s.heap h' → h'.SetOf knd S (fun k => es.toList.any fun e => knd.is k e.key) es.size → Q () { s with heap := h' }) :
    wpAny (model prog w) A (forIn [:es.size] PUnit.unit fun i (_ : PUnit) => (do
          let l' ← dictEntries d
          match l'[i]? with
            | some e => do
              let _ ← holding [e.key] (setAddHashed S e.key e.hash)
              let ep' ← dictEpoch d
              if (ep' != ep) = true then do
                  (unsupported (toString nm ++ toString ":changed-during-callback") : Sem PUnit)
                  pure (ForInStep.yield PUnit.unit)
                else pure (ForInStep.yield PUnit.unit)
            | _ => do
              (unsupported "internal:set-from-dict" : Sem PUnit)
              pure (ForInStep.yield PUnit.unit) : Sem (ForInStep PUnit))) Q E s := by
  refine SeqAt.wpAny_forIn_span 0 es.size _ (fun i _ s' => ∃ (h' : Heap), s' = { s with heap := h' } ∧ i ≤ es.size ∧ Heap.SameBut S s.heap h' ∧ h'.SetOf knd S (fun k => (es.toList.take i).any fun e => knd.is k e.key) i) _ ?_ ?_ _
    ⟨s.heap, rfl, Nat.zero_le _, Heap.SameBut.refl _ _, by simpa using hS⟩
  · rintro i c s' _ hi ⟨h', rfl, _, sb, hS'⟩
    have hod' : h'.get? d = some od := (sb.2 d (Ne.symm hSd)).trans hod
    refine wpAny_bind (wpAny_dictEntries hod' hdd ?_)
    rw [Array.getElem?_eq_getElem hi]
    obtain ⟨k, hkey, hhash⟩ := hk es[i] (Array.getElem_mem hi)
    show wpAny _ _ (holding [es[i].key] (setAddHashed S es[i].key es[i].hash) >>= _) _ _ _
    rw [hhash]
    refine wpAny_bind (wpAny_holding (wpAny_setAddHashed_of hkey (hsc _ (Array.getElem_mem hi)) hS' (by unfold scanBound; omega) fun h'' sb' hS'' => ?_))
    have sb2 := sb.trans sb'
    have hod'' : h''.get? d = some od := (sb2.2 d (Ne.symm hSd)).trans hod
    refine wpAny_bind (wpAny_dictEpoch hod'' hdd ?_)
    rw [if_neg (by simp)]
    have hno : ((List.take i es.toList).any fun e => knd.is k e.key) = false := by
      rw [List.any_eq_false]
      intro e he
      obtain ⟨j, hj, ej⟩ := List.mem_iff_getElem.mp he
      have hj2 : j < i := by
        have := List.length_take_le i es.toList
        omega
      have hj3 : j < es.size := by omega
      have e2 : e = es[j] := by rw [← ej, List.getElem_take]; simp
      rw [e2, hnd i j hi hj3 k (by omega) hkey]
      decide
    rw [hno] at hS''
    simp only [Bool.false_eq_true, if_false] at hS''
    refine wpAny_pure ⟨h'', rfl, hi, sb2, ?_⟩
    · refine congrS hS'' (fun k' => ?_)
      have e1 : es.toList.take (i + 1) = es.toList.take i ++ [es[i]] := by
        rw [List.take_succ]
        simp [hi]
      rw [e1, List.any_append]
      congr 1
      simp only [List.any_cons, List.any_nil, Bool.or_false]
      by_cases e : k' = k
      · subst e; simp [hkey]
      · rw [decide_eq_false e]
        cases q : knd.is k' es[i].key with
        | false => rfl
        | true => exact absurd (knd.inj _ _ _ q hkey) e
  · rintro c s' ⟨h', rfl, _, sb, hS'⟩
    rw [Nat.max_eq_right (Nat.zero_le _)] at hS'
    refine hQ h' sb ?_
    have : es.toList.take es.size = es.toList := List.take_of_length_le (by simp)
    rw [this] at hS'
    exact hS'
set_option maxHeartbeats 6400000 in
theorem call_set_dict {d : Addr} {od : Obj} {es : Array DictEntry} {ep : Nat} {Q : Value → Shared → Prop} (hod : s.heap.get? d = some od) (hx : od.ExactDict) (hdd : od.data = .dict es ep) (hne : (d == sysModules) = false) (hk : KeysOf knd es) (hsc : ∀ e ∈ es, e.key.scannable = true) (hz : es.size ≤ 4) (hnd : ∀ (i j : Nat) (hi : i < es.size) (hj : j < es.size) (k : K), i ≠ j → knd.is k es[i].key = true → knd.is k es[j].key = false)
    (h : ∀ (h' : Heap), h'.SetOf knd s.heap.objs.size (fun k => es.toList.any fun e => knd.is k e.key) es.size → (∀ b o, s.heap.get? b = some o → h'.get? b = some o) → Q (.ref s.heap.objs.size) { s with heap := h' }) :
    wpAny (model prog w) A (call (.type "set") [.ref d]) Q E s := by
  obtain ⟨c, tl, hmro⟩ := F.called_set.mro
  have hmade := F.called_set.made
  have hsub := F.called_set.sub
  refine wpAny_call (codeAny_of_tree ?_)
  show wpAny _ _ (callAny (.type "set") _) _ _ _
  refine wpAny_pure ⟨Code.quiet_builtin _ (by decide +kernel), codeAny_builtin F.entry_type_call ?_⟩
  rw [Around.under_plain (weight_type_call_type "set" [.ref d] []) rfl]
  have h1 := F.called_set.notType
  have h2 := F.called_set.canCreate
  have hct := F.typeCall_set_1 (.ref d)
  repeat (any_goals (first | assumption | wp_step))
  refine codeAny_mono (code_set_new_1 (.ref d) (E := E) (Q₁ := fun obj s₁ => ∃ led : Bool, obj = .ref s.heap.objs.size ∧ s₁ = { s with heap := s.heap.push { cls := .type "set", dict := none, data := .set #[] 0 (.fresh 0 0 led) } }) fun led => ⟨led, rfl, rfl⟩) fun r s₁ hr => ?_
  cases r with
  | error e => exact hr
  | ok fl =>
    cases fl with
    | ret obj =>
      obtain ⟨led, rfl, rfl⟩ := hr
      have hS : (s.heap.push { cls := .type "set", dict := none, data := .set #[] 0 (.fresh 0 0 led) }).get? s.heap.objs.size = some { cls := .type "set", dict := none, data := .set #[] 0 (.fresh 0 0 led) } := Heap.get?_push_size _ rfl
      have hT : Shared.TypeIs { s with heap := s.heap.push { cls := .type "set", dict := none, data := .set #[] 0 (.fresh 0 0 led) } } (.ref s.heap.objs.size) "set" := ⟨_, hS, rfl⟩
      have hli := F.called_set.init.lookup
      have hbi := F.called_set.init.bind (.ref s.heap.objs.size)
      repeat (any_goals (first | assumption | wp_step))
      refine codeAny_mono (codeAny_call_builtin (R := wants (fun r s₂ => r = .none ∧ ∃ h', s₂ = { s with heap := h' } ∧
          h'.SetOf knd s.heap.objs.size (fun k => es.toList.any fun e => knd.is k e.key) es.size ∧
          (∀ b o, s.heap.get? b = some o → h'.get? b = some o)) E) F.called_set.init.plain F.entry_set_init (check_set_init_1 hT ?_)) fun r₂ s₂ hr₂ => ?_
      · have hod' : (s.heap.push { cls := .type "set", dict := none, data := .set #[] 0 (.fresh 0 0 led) }).get? d = some od := Heap.get?_push_of_some _ hod
        obtain ⟨hc, hdn, hsl⟩ := hx
        obtain ⟨ocls, odict, odata, oslots⟩ := od
        simp only at hc hdn hdd
        subst hc hdn hdd
        have hsls := sub_dict_set
        have hslf := sub_dict_frozenset
        unfold Builtin.«set.__init__» noKeywords Builtin.Frozenset.updateFrom
        wp_walk
        have hroom : (SetTable.fresh 0 0 led).roomFor es.size = none := by
          have h0 : (SetTable.fresh 0 0 led).fill = 0 := rfl
          unfold SetTable.roomFor
          rw [h0]
          refine if_neg ?_
          show ¬ ((0 + es.size) * 5 ≥ 7 * 3)
          omega
        dsimp only
        rw [hroom]
        refine wpAny_pure ?_
        refine wpAny_bind (wpAny_dictEntries hod' rfl ?_)
        refine wpAny_bind (fill (knd := knd) (od := { cls := .type "dict", data := .dict es ep, slots := oslots }) (ep := ep) (Nat.ne_of_gt (Heap.lt_size hod)) hod' rfl hk hsc (by omega) hnd ?_ fun h' sb hS' => ?_)
        · have hget := hS
          exact congrS ((PyProof.Rows.setObjOf_fresh (knd := knd) led).setOf hget (by unfold scanBound; omega)) (fun _ => rfl)
        · refine wpAny_pure ?_
          show wpAny _ _ (ret Value.none) _ _ _
          refine wpAny_pure ⟨rfl, h', rfl, hS', fun b o e => ?_⟩
          exact (sb.2 b (Nat.ne_of_lt (Heap.lt_size e))).trans (Heap.get?_push_of_some _ e)
      · cases r₂ with
        | error e => exact hr₂
        | ok fl₂ =>
          cases fl₂ with
          | ret r =>
            obtain ⟨rfl, h', rfl, hS', hk'⟩ := hr₂
            repeat (any_goals (first | assumption | wp_step))
            exact h _ hS' hk'
          | _ => exact hr₂.elim
    | _ => exact hr.elim
end Sd

end -- SD
section -- SE
set_option Elab.async false
set_option linter.all false
set_option maxRecDepth 100000
set_option maxHeartbeats 3200000
/-! == of two sets. -/
namespace Sd
open PySem PyProof.Rows
variable {prog : Program} {w : World} {A : Around} {E : Value → Shared → Prop} {s : Shared} {K : Type} [DecidableEq K] {knd : KeyKind prog w K}
theorem entry_set_eq : entryFor table "set.__eq__" = some Builtin.«frozenset.__eq__» := 
  entryFor_alias (id' := "frozenset.__eq__") (by kernel_rfl) rfl (by decide +kernel) (by kernel_rfl)
theorem isAny {a : Addr} {Q : Bool → Shared → Prop} (ht : s.TypeIs (.ref a) "set") (h : Q true s) : wpAny (model prog w) A (Builtin.Frozenset.isAnySet (.ref a)) Q E s := by
  unfold Builtin.Frozenset.isAnySet
  have := sub_set_self
  refine wpAny_bind (wpAny_isInstance ht this ?_)
  exact wpAny_pure h
theorem quietKey {v : Value} {Q : Bool → Shared → Prop} (hv : v.scannable = true) (h : Q true s) : wpAny (model prog w) A (Builtin.Frozenset.quietEq v) Q E s := by
  unfold Builtin.Frozenset.quietEq
  cases v with
  | ref a => cases hv
  | _ => exact wpAny_pure h
theorem setIs {a : Addr} {S : K → Bool} {n : Nat} (h : s.heap.SetOf knd a S n) : s.TypeIs (.ref a) "set" := by
  obtain ⟨o, _, _, _, e, x, _⟩ := h
  exact ⟨o, e, x.1⟩
theorem walks {a b : Addr} {oa ob : Obj} {ea eb : Array (Int × Value)} {pa pb : Nat} {ta tb : SetTable} {Q : List (Int × Value) → Shared → Prop} (ha : s.heap.get? a = some oa) (da : oa.data = .set ea pa ta) (fa : ta.fits ea.size = true) (la : ElemsOf knd ea.toList)
    (hb : s.heap.get? b = some ob) (db : ob.data = .set eb pb tb) (fb : tb.fits eb.size = true) (lb : ElemsOf knd eb.toList) (h : Q ea.toList s) : wpAny (model prog w) A (Builtin.Frozenset.walkUnseen a b) Q E s := by
  unfold Builtin.Frozenset.walkUnseen
  refine wpAny_bind (wpAny_setEntries_of ha da fa (wpAny_bind (wpAny_setEntries_of hb db fb ?_)))
  refine wpAny_bind (wpAny_forIn_list _ (fun rest c s' => s' = s ∧ (∀ e ∈ rest, e ∈ ea.toList ++ eb.toList) ∧ c.1 = none) _ ?_ ?_ _ _ ⟨rfl, fun e he => he, rfl⟩)
  · rintro ⟨i, x⟩ rest c s' ⟨rfl, hm, hc⟩
    have hx : x.scannable = true := by
      rcases List.mem_append.mp (hm (i, x) (List.mem_cons_self ..)) with z | z
      · exact (la _ z).2
      · exact (lb _ z).2
    dsimp only
    refine wpAny_bind (quietKey hx ?_)
    exact wpAny_pure ⟨rfl, fun e he => hm e (List.mem_cons_of_mem _ he), rfl⟩
  · rintro c s' ⟨rfl, _, hc⟩
    obtain ⟨c1, c2⟩ := c
    obtain rfl : c1 = none := hc
    exact wpAny_pure h
theorem subset {a b : Addr} {S S' : K → Bool} {n n' : Nat} {Q : Bool → Shared → Prop} {nm : String} (ha : s.heap.SetOf knd a S n) (hb : s.heap.SetOf knd b S' n') (hn : n = n') (h : ∀ r : Bool, (r = true ↔ ∀ k, S k = true → S' k = true) → Q r s) :
    wpAny (model prog w) A (Builtin.Frozenset.subsetOf nm a b) Q E s := by
  obtain ⟨oa, ea, pa, ta, ga, xa, da, la, ma, za, fa, na⟩ := id ha
  obtain ⟨ob, eb, pb, tb, gb, xb, db, lb, mb, zb, fb, nb⟩ := id hb
  unfold Builtin.Frozenset.subsetOf Builtin.Frozenset.sizeOf
  refine wpAny_bind (wpAny_bind (wpAny_setEntries_of ga da fa (wpAny_pure ?_)))
  refine wpAny_bind (wpAny_bind (wpAny_setEntries_of gb db fb (wpAny_pure ?_)))
  rw [if_neg (by omega)]
  refine wpAny_bind (wpAny_setEpoch_of ga da fa ?_)
  refine wpAny_bind (walks ga da fa la gb db fb lb ?_)
  refine wpAny_bind (wpAny_mono (wpAny_forIn_list _ (fun rest (c : Option Bool × Unit) s' => s' = s ∧ (∃ pre, ea.toList = pre ++ rest ∧ ∀ e ∈ pre, ∀ k, knd.is k e.2 = true → S' k = true) ∧ c.1 = none) (fun (c : Option Bool × Unit) s' => s' = s ∧ ((c.1 = none ∧ ∀ k, S k = true → S' k = true) ∨ (c.1 = some false ∧ ∃ k, S k = true ∧ S' k = false))) ?_ ?_ _ _ ⟨rfl, ⟨[], rfl, by simp⟩, rfl⟩) (fun c s' hq => ?_) fun _ _ z => z)
  · rintro ⟨i, x⟩ rest c s' ⟨rfl, ⟨pre, he, hp⟩, hc⟩
    have hm : (i, x) ∈ ea.toList := by rw [he]; simp
    obtain ⟨⟨k, hk, hi⟩, hx⟩ := la _ hm
    dsimp only at hk hi hx ⊢
    rw [hi]
    refine wpAny_bind (wpAny_holding (wpAny_setFind_of hk hx hb fun r hr => ?_))
    cases r with
    | none =>
      simp only [Option.isNone_none, if_true]
      exact wpAny_pure ⟨rfl, .inr ⟨rfl, k, (ma k).mpr ⟨_, hm, hk⟩, hr.symm⟩⟩
    | some j =>
      simp only [Option.isNone_some, Bool.false_eq_true, if_false]
      unfold Builtin.Frozenset.unchanged
      refine wpAny_bind (wpAny_bind (wpAny_setEpoch_of ga da fa ?_))
      rw [if_neg (by simp)]
      refine wpAny_pure (wpAny_pure ⟨rfl, ⟨pre ++ [(i, x)], by rw [he]; simp, fun e hm2 k' hk' => ?_⟩, rfl⟩)
      rcases List.mem_append.mp hm2 with z | z
      · exact hp e z k' hk'
      · rw [List.mem_singleton.mp z] at hk'
        rw [knd.inj _ _ _ hk' hk]
        exact hr.symm
  · rintro c s' ⟨rfl, ⟨pre, he, hp⟩, hc⟩
    rw [List.append_nil] at he
    exact ⟨rfl, .inl ⟨hc, fun k hS => by
      obtain ⟨e, hm, hk⟩ := (ma k).mp hS
      exact hp e (by rw [← he]; exact hm) k hk⟩⟩
  · obtain ⟨rfl, hq⟩ := hq
    obtain ⟨c1, c2⟩ := c
    rcases hq with ⟨e, hq⟩ | ⟨e, k, h1, h2⟩
    · obtain rfl : c1 = none := e
      exact wpAny_pure (h true ⟨fun _ => hq, fun _ => rfl⟩)
    · obtain rfl : c1 = some false := e
      refine wpAny_pure (h false ⟨fun z => absurd z (by decide), fun z => ?_⟩)
      rw [z k h1] at h2
      cases h2
theorem set_eq {a b : Addr} {S S' : K → Bool} {n n' : Nat} {Q : Value → Shared → Prop} (ha : s.heap.SetOf knd a S n) (hb : s.heap.SetOf knd b S' n') (hu : A.units < cLine) (h : ∀ r : Bool, (r = true ↔ n = n' ∧ ∀ k, S k = true → S' k = true) → Q (.bool r) s) :
    wpAny (model prog w) A (compareOp .Eq (.ref a) (.ref b)) Q E s := by
  obtain ⟨oa, ea, pa, ta, ga, xa, da, la, ma, za, fa, na⟩ := id ha
  obtain ⟨ob, eb, pb, tb, gb, xb, db, lb, mb, zb, fb, nb⟩ := id hb
  show wpAny _ _ (richCompare .Eq (.ref a) (.ref b)) _ _ _
  refine wpAny_richCompare_same_room (op := .Eq) (setIs ha) (setIs hb) PySem.F.slot_set_eq (wpAny_call_entry PySem.F.slot_set_eq (setIs ha) entry_set_eq ?_ (PySem.F.args_set_eq_2 _ _)) hu
  show wpAny _ _ (Builtin.Frozenset.slot1 "__eq__" ⟨[.ref a, .ref b], []⟩ >>= _) _ _ s
  refine wpAny_bind (wpAny_bind (wpAny_pure (wpAny_pure ?_)))
  dsimp only
  refine wpAny_bind (isAny (setIs hb) ?_)
  simp only [Bool.not_true, Bool.false_eq_true, if_false]
  refine wpAny_bind (wpAny_pure ?_)
  refine wpAny_bind (wpAny_pure ?_)
  unfold Builtin.Frozenset.sizeOf
  refine wpAny_bind (wpAny_bind (wpAny_setEntries_of ga da fa (wpAny_pure ?_)))
  refine wpAny_bind (wpAny_bind (wpAny_setEntries_of gb db fb (wpAny_pure ?_)))
  refine wpAny_bind ?_
  by_cases e : ea.size = eb.size
  · have hb' : (ea.size != eb.size) = false := by simp [e]
    rw [hb']
    simp only [Bool.false_eq_true, if_false]
    refine wpAny_bind (wpAny_bind (wpAny_isInstance (setIs ha) PySem.F.sub_set_frozenset ?_))
    refine wpAny_pure ?_
    simp only [Bool.false_eq_true, if_false]
    refine subset ha hb (by rw [← na, ← nb, e]) fun r hr => ?_
    refine wpAny_pure ⟨_, rfl, by simp, h r ⟨fun z => ⟨by rw [← na, ← nb, e], hr.mp z⟩, fun z => hr.mpr z.2⟩⟩
  · have hb' : (ea.size != eb.size) = true := by simp [e]
    rw [hb']
    simp only [if_true]
    refine wpAny_pure (wpAny_pure ⟨_, rfl, by simp, h false ⟨fun z => absurd z (by decide), fun z => absurd (by rw [na, nb]; exact z.1) e⟩⟩)
end Sd

end -- SE
section -- ZN
set_option Elab.async false
set_option linter.all false
set_option maxRecDepth 100000
set_option maxHeartbeats 2000000
/-! zip(a, b) walked with one name: the pair handed out last may live or be gone. -/
namespace Zn
open PySem PySem.Spec PyProof.Rows L2
/-- z as it stands between two turns: f0 its last pair's number -/
abbrev Zs (h : Heap) (z TI TO : Addr) (f0 : Value) (f : Bool) : Prop :=
  h.get? z = some { cls := .type "zip", dict := none, data := .fields #[f0, .bool f, .bool false, .ref TI, .ref TO], slots := #[] }
section
variable {prog : Program} {w : World} {A : Around} {E : Value → Shared → Prop} {s : Shared} {z TI TO i1 i2 l1 l2 T : Addr} {k1 k2 : Nat} {xs ys : Array Value} {x y a b f0 : Value} {f : Bool}
theorem gone {Q : Option Obj → Shared → Prop} (h0 : s.heap.get? T = none) (h : Q none s) : wpAny (model prog w) A (loadIfAlive T) Q E s := by
  have h' : Q (s.heap.get? T) s := by rw [h0]; exact h
  exact fun _ _ _ => h'
theorem isFree {Q : Bool → Shared → Prop} (hz : Zs s.heap z TI TO (rawInt T) f) (hT : s.heap.get? T = none) (h : Q true s) : wpAny (model prog w) A (Builtin.SmallTypes.ownedTupleIsFree (.ref z)) Q E s := by
  unfold Builtin.SmallTypes.ownedTupleIsFree
  refine wpAny_bind (wpAny_field hz rfl (x := rawInt T) rfl ?_)
  show wpAny _ _ (loadIfAlive ((T : Int).toNat) >>= _) _ _ _
  rw [Int.toNat_natCast]
  exact wpAny_bind (gone hT (by simpa using wpAny_pure h))
/-- what stays but for z, TO and the two iterators -/
abbrev But (z TO i1 i2 : Addr) (h h' : Heap) : Prop := ∀ c o, c ≠ z → c ≠ TO → c ≠ i1 → c ≠ i2 → h.get? c = some o → h'.get? c = some o
theorem turn {Q : Value → Shared → Prop} (D : ZipApart z TI TO i1 i2 l1 l2) (hz : Zs s.heap z TI TO f0 f)
    (hfree : ∀ (Q : Bool → Shared → Prop), Q true s → wpAny (model prog w) A (Builtin.SmallTypes.ownedTupleIsFree (.ref z)) Q E s) (hTI : IsPair s.heap TI (.ref i1) (.ref i2)) (hTO : IsPair s.heap TO a b)
    (h1 : s.heap.IsListIter i1 l1 k1) (h2 : s.heap.IsListIter i2 l2 k2) (hl1 : s.heap.IsList l1 xs) (hl2 : s.heap.IsList l2 ys) (hx : xs[k1]? = some x) (hy : ys[k2]? = some y)
    (hQ : ∀ h', Zs h' z TI TO (rawInt s.heap.objs.size) false → IsPair h' TO x y → h'.IsListIter i1 l1 (k1 + 1) → h'.IsListIter i2 l2 (k2 + 1) → IsPair h' s.heap.objs.size x y → h'.objs.size = s.heap.objs.size + 1 → But z TO i1 i2 s.heap h' → Q (.ref s.heap.objs.size) { s with heap := h' }) :
    wpAny (model prog w) A (Builtin.«zip.__next__» ⟨[.ref z], []⟩) (fun fin s' => ∃ v, fin = .done (.ret v) ∧ Q v s') E s := by
  show wpAny _ _ (field (.ref z) 2 >>= _) _ _ _
  refine wpAny_bind (wpAny_field hz rfl (x := .bool false) rfl ?_)
  show wpAny _ _ (field (.ref z) 3 >>= _) _ _ _
  refine wpAny_bind (wpAny_field hz rfl (x := .ref TI) rfl (wpAny_bind (wpAny_seqItems hTI rfl ?_)))
  refine wpAny_bind (hfree _ ?_)
  simp only [if_true]
  refine wpAny_bind (wpAny_rule (wpAny_bind (wpAny_field hz rfl (x := .ref TO) rfl (wpAny_bind (wpAny_setField_rec hz (by simp) fun g1 z1 b1 => ?_)))))
  have z1 : Zs g1 z TI TO .ellipsis f := z1
  refine wpAny_bind ?_
  simp only [List.zipIdx_cons, List.zipIdx_nil, List.forIn_cons, List.forIn_nil]
  refine wpAny_bind (wpAny_bind (wpAny_onRaise ?_))
  show wpAny _ _ (Builtin.SmallTypes.nextOf (.ref i1) >>= _) _ _ _
  refine wpAny_bind (wpAny_nextOf_list_item (h1.extBut b1.extBut D.i1z) (hl1.extBut b1.extBut D.l1z) hx fun g2 p2 b2 => wpAny_pure ?_)
  have t2 : IsPair g2 TO a b := b2.extBut _ _ D.TOi1 (b1.extBut _ _ D.TOz hTO)
  refine wpAny_bind (wpAny_seqItems t2 rfl (wpAny_bind (wpAny_updateSeq_pair t2 fun g3 t3 b3 => wpAny_bind (wpAny_letGo (wpAny_pure ?_)))))
  have t3 : IsPair g3 TO x b := t3
  refine wpAny_bind (wpAny_bind (wpAny_onRaise ?_))
  show wpAny _ _ (Builtin.SmallTypes.nextOf (.ref i2) >>= _) _ _ _
  refine wpAny_bind (wpAny_nextOf_list_item (((h2.extBut b1.extBut D.i2z).extBut b2.extBut D.i12.symm).extBut b3.extBut D.TOi2.symm) (((hl2.extBut b1.extBut D.l2z).extBut b2.extBut D.l2i1).extBut b3.extBut D.l2TO) hy fun g4 p4 b4 => wpAny_pure ?_)
  have t4 : IsPair g4 TO x b := b4.extBut _ _ D.TOi2 t3
  refine wpAny_bind (wpAny_seqItems t4 rfl (wpAny_bind (wpAny_updateSeq_pair t4 fun g5 t5 b5 => wpAny_bind (wpAny_letGo (wpAny_pure (wpAny_pure ?_))))))
  have t5 : IsPair g5 TO x y := t5
  refine wpAny_bind (wpAny_seqItems t5 rfl (wpAny_bind (wpAny_newTuple ?_)))
  have sz : g5.objs.size = s.heap.objs.size := by rw [b5.1, b4.1, b3.1, b2.1, b1.1]
  have z5 : Zs g5 z TI TO .ellipsis f := b5.extBut _ _ D.TOz.symm (b4.extBut _ _ D.i2z.symm (b3.extBut _ _ D.TOz.symm (b2.extBut _ _ D.i1z.symm z1)))
  have k5 : But z TO i1 i2 s.heap g5 := fun c o c1 c2 c3 c4 e => b5.extBut _ _ c2 (b4.extBut _ _ c4 (b3.extBut _ _ c2 (b2.extBut _ _ c3 (b1.extBut _ _ c1 e))))
  have p5 : g5.IsListIter i1 l1 (k1 + 1) := ((p2.extBut b3.extBut D.TOi1.symm).extBut b4.extBut D.i12).extBut b5.extBut D.TOi1.symm
  have q5 : g5.IsListIter i2 l2 (k2 + 1) := p4.extBut b5.extBut D.TOi2.symm
  have zlt : z < g5.objs.size := Heap.lt_size z5
  show wpAny _ _ (Builtin.SmallTypes.ownedTupleHandOut (.ref z) (.ref g5.objs.size) >>= _) _ _ _
  refine wpAny_bind ?_
  unfold Builtin.SmallTypes.ownedTupleHandOut
  have z6 : Zs (g5.push { cls := .type "tuple", data := .seq #[x, y] }) z TI TO .ellipsis f := Heap.get?_push_of_some _ z5
  refine wpAny_bind (wpAny_setField_rec z6 (by simp) fun g7 z7 b7 => ?_)
  have z7 : Zs g7 z TI TO (rawInt g5.objs.size) f := z7
  refine wpAny_setField_rec z7 (by simp) fun g8 z8 b8 => ?_
  have z8 : Zs g8 z TI TO (rawInt g5.objs.size) false := z8
  have up : ∀ c o, c ≠ z → g5.get? c = some o → g8.get? c = some o := fun c o c1 e => b8.extBut _ _ c1 (b7.extBut _ _ c1 (Heap.get?_push_of_some _ e))
  have T8 : IsPair g8 g5.objs.size x y := b8.extBut _ _ (Nat.ne_of_gt zlt) (b7.extBut _ _ (Nat.ne_of_gt zlt) (Heap.get?_push_size _ rfl))
  have s8 : g8.objs.size = g5.objs.size + 1 := by rw [b8.1, b7.1, Heap.size_push]
  rw [sz] at z8 T8 s8
  refine wpAny_pure ⟨_, rfl, ?_⟩
  show Q (.ref g5.objs.size) _
  rw [sz]
  exact hQ g8 z8 (up _ _ D.TOz t5) (p5.at fun o e => up _ o D.i1z e) (q5.at fun o e => up _ o D.i2z e) T8 s8 fun c o c1 c2 c3 c4 e => up c o c1 (k5 c o c1 c2 c3 c4 e)
theorem last {Q : Fin → Shared → Prop} (hh : A.handled = none) (D : ZipApart z TI TO i1 i2 l1 l2) (hz : Zs s.heap z TI TO f0 f)
    (hfree : ∀ (Q : Bool → Shared → Prop), Q true s → wpAny (model prog w) A (Builtin.SmallTypes.ownedTupleIsFree (.ref z)) Q E s) (hTI : IsPair s.heap TI (.ref i1) (.ref i2)) (hTO : IsPair s.heap TO a b)
    (h1 : s.heap.IsListIter i1 l1 k1) (h2 : s.heap.IsListIter i2 l2 k2) (hl1 : s.heap.IsList l1 xs) (hl2 : s.heap.IsList l2 ys) (hend : xs[k1]? = none ∨ ys[k2]? = none)
    (hE : ∀ h' e, But z TO i1 i2 s.heap h' → (∃ o, h'.get? e = some o ∧ o.cls = .type "StopIteration") → E (.ref e) { s with heap := h' }) :
    wpAny (model prog w) A (Builtin.«zip.__next__» ⟨[.ref z], []⟩) Q E s := by
  show wpAny _ _ (field (.ref z) 2 >>= _) _ _ _
  refine wpAny_bind (wpAny_field hz rfl (x := .bool false) rfl ?_)
  show wpAny _ _ (field (.ref z) 3 >>= _) _ _ _
  refine wpAny_bind (wpAny_field hz rfl (x := .ref TI) rfl (wpAny_bind (wpAny_seqItems hTI rfl ?_)))
  refine wpAny_bind (hfree _ ?_)
  simp only [if_true]
  refine wpAny_bind (wpAny_rule (wpAny_bind (wpAny_field hz rfl (x := .ref TO) rfl (wpAny_bind (wpAny_setField_rec hz (by simp) fun g1 z1 b1 => ?_)))))
  have z1 : Zs g1 z TI TO .ellipsis f := z1
  refine wpAny_bind ?_
  simp only [List.zipIdx_cons, List.zipIdx_nil, List.forIn_cons, List.forIn_nil]
  refine wpAny_bind (wpAny_bind (wpAny_onRaise ?_))
  show wpAny _ _ (Builtin.SmallTypes.nextOf (.ref i1) >>= _) _ _ _
  have fin : ∀ (g : Heap) (e : Addr), Zs g z TI TO .ellipsis f → But z TO i1 i2 s.heap g → (∃ o, g.get? e = some o ∧ o.cls = .type "StopIteration") → ∀ g', Heap.SameBut z g g' → E (.ref e) { s with heap := g' } := fun g e zg k ⟨o, ho, hc⟩ g' sb => by
    have ne : e ≠ z := fun q => by subst q; rw [zg] at ho; cases ho; simp at hc
    exact hE g' e (fun c o c1 c2 c3 c4 q => sb.extBut _ _ c1 (k c o c1 c2 c3 c4 q)) ⟨o, sb.extBut _ _ ne ho, hc⟩
  cases hx : xs[k1]? with
  | none =>
    refine wpAny_bind (wpAny_nextOf_list_end hh (h1.extBut b1.extBut D.i1z) (hl1.extBut b1.extBut D.l1z) hx fun g2 e b2 he => ?_)
    have z2 : Zs g2 z TI TO .ellipsis f := b2 _ _ D.i1z.symm z1
    exact wpAny_setField_rec z2 (by simp) fun g3 _ b3 => fin g2 e z2 (fun c o c1 _ c3 _ q => b2 _ _ c3 (b1.extBut _ _ c1 q)) he g3 b3
  | some x =>
    have hy : ys[k2]? = none := hend.resolve_left (by rw [hx]; exact fun q => nomatch q)
    refine wpAny_bind (wpAny_nextOf_list_item (h1.extBut b1.extBut D.i1z) (hl1.extBut b1.extBut D.l1z) hx fun g2 p2 b2 => wpAny_pure ?_)
    have t2 : IsPair g2 TO a b := b2.extBut _ _ D.TOi1 (b1.extBut _ _ D.TOz hTO)
    refine wpAny_bind (wpAny_seqItems t2 rfl (wpAny_bind (wpAny_updateSeq_pair t2 fun g3 t3 b3 => wpAny_bind (wpAny_letGo (wpAny_pure ?_)))))
    refine wpAny_bind (wpAny_bind (wpAny_onRaise ?_))
    show wpAny _ _ (Builtin.SmallTypes.nextOf (.ref i2) >>= _) _ _ _
    refine wpAny_bind (wpAny_nextOf_list_end hh (((h2.extBut b1.extBut D.i2z).extBut b2.extBut D.i12.symm).extBut b3.extBut D.TOi2.symm) (((hl2.extBut b1.extBut D.l2z).extBut b2.extBut D.l2i1).extBut b3.extBut D.l2TO) hy fun g4 e b4 he => ?_)
    have z4 : Zs g4 z TI TO .ellipsis f := b4 _ _ D.i2z.symm (b3.extBut _ _ D.TOz.symm (b2.extBut _ _ D.i1z.symm z1))
    exact wpAny_setField_rec z4 (by simp) fun g5 _ b5 => fin g4 e z4 (fun c o c1 c2 c3 c4 q => b4 _ _ c4 (b3.extBut _ _ c2 (b2.extBut _ _ c3 (b1.extBut _ _ c1 q)))) he g5 b5
theorem next_turn {Q : Option Value → Shared → Prop} (D : ZipApart z TI TO i1 i2 l1 l2) (hz : Zs s.heap z TI TO f0 f) (hf : (f0 = .none ∧ f = false) ∨ ∃ T : Addr, f0 = rawInt T) (hTI : IsPair s.heap TI (.ref i1) (.ref i2)) (hTO : IsPair s.heap TO a b)
    (h1 : s.heap.IsListIter i1 l1 k1) (h2 : s.heap.IsListIter i2 l2 k2) (hl1 : s.heap.IsList l1 xs) (hl2 : s.heap.IsList l2 ys) (hx : xs[k1]? = some x) (hy : ys[k2]? = some y)
    (hQ : ∀ h', (∃ (T : Addr) (f' : Bool), Zs h' z TI TO (rawInt T) f') → (∃ a b, IsPair h' TO a b) → h'.IsListIter i1 l1 (k1 + 1) → h'.IsListIter i2 l2 (k2 + 1) → IsPair h' s.heap.objs.size x y → h'.objs.size = s.heap.objs.size + 1 → But z TO i1 i2 s.heap h' → Q (some (.ref s.heap.objs.size)) { s with heap := h' }) :
    wpAny (model prog w) A (pyNext (.ref z)) Q E s := by
  have ty : s.TypeIs (.ref z) "zip" := ⟨_, hz, rfl⟩
  have free : (∀ (A : Around) (Q : Bool → Shared → Prop) (E : Value → Shared → Prop), Q true s → wpAny (model prog w) A (Builtin.SmallTypes.ownedTupleIsFree (.ref z)) Q E s) → wpAny (model prog w) A (pyNext (.ref z)) Q E s := fun hfree => by
    unfold pyNext
    exact wpAny_bind (wpAny_attempt (wpAny_callSpecial?_slot (name := Str.ofString "__next__") ty F.slot_zip_next (wpAny_call_entry F.slot_zip_next ty F.entry_zip_next
      (turn D hz (fun Q => hfree _ Q _) hTI hTO h1 h2 hl1 hl2 hx hy fun h' a1 a2 a3 a4 a5 a6 a7 => wpAny_pure (hQ h' ⟨_, _, a1⟩ ⟨_, _, a2⟩ a3 a4 a5 a6 a7)) (F.args_zip_next_1 _))))
  rcases hf with ⟨e, e2⟩ | ⟨T, e⟩
  · subst e e2
    exact free fun A Q E q => by
      unfold Builtin.SmallTypes.ownedTupleIsFree
      exact wpAny_bind (wpAny_field hz rfl (x := .none) rfl (wpAny_pure q))
  · subst e
    cases hT : s.heap.get? T with
    | none => exact free fun A Q E q => isFree hz hT q
    | some oT =>
      refine wpAny_pyNext_zip_item_held D hz hT hTI h1 h2 hl1 hl2 hx hy fun h' a1 a3 a4 a5 a6 a7 => hQ h' ⟨_, _, a1⟩ ⟨a, b, ?_⟩ a3 a4 a5 a6 fun c o c1 _ c3 c4 q => a7 c o c1 c3 c4 q
      exact a7 _ _ D.TOz D.TOi1 D.TOi2 hTO
theorem next_last {Q : Option Value → Shared → Prop} (hh : A.handled = none) (D : ZipApart z TI TO i1 i2 l1 l2) (hz : Zs s.heap z TI TO f0 f) (hf : (f0 = .none ∧ f = false) ∨ ∃ T : Addr, f0 = rawInt T) (hTI : IsPair s.heap TI (.ref i1) (.ref i2)) (hTO : IsPair s.heap TO a b)
    (h1 : s.heap.IsListIter i1 l1 k1) (h2 : s.heap.IsListIter i2 l2 k2) (hl1 : s.heap.IsList l1 xs) (hl2 : s.heap.IsList l2 ys) (hend : xs[k1]? = none ∨ ys[k2]? = none)
    (hQ : ∀ h', But z TO i1 i2 s.heap h' → Q none { s with heap := h' }) : wpAny (model prog w) A (pyNext (.ref z)) Q E s := by
  have ty : s.TypeIs (.ref z) "zip" := ⟨_, hz, rfl⟩
  have free : (∀ (A : Around) (Q : Bool → Shared → Prop) (E : Value → Shared → Prop), Q true s → wpAny (model prog w) A (Builtin.SmallTypes.ownedTupleIsFree (.ref z)) Q E s) → wpAny (model prog w) A (pyNext (.ref z)) Q E s := fun hfree => by
    unfold pyNext
    refine wpAny_bind (wpAny_attempt (wpAny_callSpecial?_slot (name := Str.ofString "__next__") ty F.slot_zip_next (wpAny_call_entry F.slot_zip_next ty F.entry_zip_next
      (last hh D hz (fun Q => hfree _ Q _) hTI hTO h1 h2 hl1 hl2 hend fun h' e hk he => ?_) (F.args_zip_next_1 _))))
    exact wpAny_bind (wpAny_isInstance (T := "StopIteration") (b := true) he isSubtype_stop (wpAny_pure (hQ _ hk)))
  rcases hf with ⟨e, e2⟩ | ⟨T, e⟩
  · subst e e2
    exact free fun A Q E q => by
      unfold Builtin.SmallTypes.ownedTupleIsFree
      exact wpAny_bind (wpAny_field hz rfl (x := .none) rfl (wpAny_pure q))
  · subst e
    cases hT : s.heap.get? T with
    | none => exact free fun A Q E q => isFree hz hT q
    | some oT => exact wpAny_pyNext_zip_end_held hh D hz hT hTI h1 h2 hl1 hl2 hend fun h' a7 => hQ h' fun c o c1 _ c3 c4 q => a7 c o c1 c3 c4 q
end
/-- one name for the pair -/
theorem turnN {P : Program} {w : World} {K : PySem.W.Frag} {nm : Str} {tpos : Pos} {a b z TI TO i1 i2 : Addr} (D : ZipApart z TI TO i1 i2 a b) :
    Turn P w K (.Name nm tpos) (Itz K a b) [z, TI, TO, i1, i2] z (fun i h => (∃ f0 f, Zs h z TI TO f0 f ∧ ((f0 = .none ∧ f = false) ∨ ∃ T : Addr, f0 = rawInt T)) ∧ IsPair h TI (.ref i1) (.ref i2) ∧ (∃ x y, IsPair h TO x y) ∧ h.IsListIter i1 a i ∧ h.IsListIter i2 b i) where
  mem := by simp
  obj := fun i h st c hc => by
    obtain ⟨⟨f0, f, hz, _⟩, hTI, ⟨x, y, hTO⟩, ⟨o1, e1, _, d1⟩, ⟨o2, e2, _, d2⟩⟩ := st
    have e' : c = z ∨ c = TI ∨ c = TO ∨ c = i1 ∨ c = i2 := by simpa using hc
    rcases e' with q | q | q | q | q
    · rw [q]; exact ⟨_, hz, fun v q => nomatch q⟩
    · rw [q]; exact ⟨_, hTI, fun v q => nomatch q⟩
    · rw [q]; exact ⟨_, hTO, fun v q => nomatch q⟩
    · rw [q]; exact ⟨o1, e1, fun v q => by rw [d1] at q; cases q⟩
    · rw [q]; exact ⟨o2, e2, fun v q => by rw [d2] at q; cases q⟩
  keep := fun i h h' st k => by
    obtain ⟨⟨f0, f, hz, hf⟩, hTI, ⟨x, y, hTO⟩, h1, h2⟩ := st
    exact ⟨⟨f0, f, k z (by simp) _ hz, hf⟩, k TI (by simp) _ hTI, ⟨x, y, k TO (by simp) _ hTO⟩, h1.at fun o q => k i1 (by simp) o q, h2.at fun o q => k i2 (by simp) o q⟩
  item := by
    intro X hP hw hK hc i pins s σ H E I hf st hg
    subst hP hw hK
    obtain ⟨⟨f0, f, hz, hf0⟩, hTI, ⟨x0, y0, hTO⟩, h1, h2⟩ := st
    obtain ⟨xs, ys, x, y, hqx, hqy, hx, hy⟩ := hg
    obtain ⟨its, rv, p, _⟩ := I.list hqx
    obtain ⟨its2, rv2, p2, _⟩ := I.list hqy
    obtain ⟨u, hu, ru⟩ := rv.get hx
    obtain ⟨u2, hu2, ru2⟩ := rv2.get hy
    have hzl : z < s.heap.objs.size := Heap.lt_size hz
    refine next_turn D hz hf0 hTI hTO h1 h2 p.isList p2.isList (x := u) (y := u2) (by simpa using hu) (by simpa using hu2) fun h' z' TO' h1' h2' hT hsz hk => ?_
    obtain ⟨T, f', z'⟩ := z'
    refine ⟨_, rfl, wpAny_pure ?_⟩
    have new : ObjOk X.prog X.w (upd H s.heap.objs.size (.tup [x, y])) h' s.heap.objs.size (.tup [x, y]) := ⟨by show 2 ≤ sizeLine; decide, [u, u2], .cons ru (.cons ru2 .nil), ⟨_, hT, rfl, _, rfl⟩⟩
    have I1 : Inv X pins σ (upd H s.heap.objs.size (.tup [x, y])) { s with heap := h' } :=
      I.turnedNew (t' := s.toks) (ch := [z, TI, TO, i1, i2]) (fun c o hb q => hk c o (fun q' => hb (by simp [q'])) (fun q' => hb (by simp [q'])) (fun q' => hb (by simp [q'])) (fun q' => hb (by simp [q'])) q) hf (Nat.le_refl _) new
    refine ⟨.ref s.heap.objs.size, _, I1, rfl, ⟨_, x, y, rfl, I.hok.fresh (Nat.le_refl _), rfl, fun l hl => by rw [I.list_inj hl hqx]; exact hx, fun l hl => by rw [I.list_inj hl hqy]; exact hy⟩, ⟨⟨_, _, z', .inr ⟨T, rfl⟩⟩, hk _ _ D.TIz D.TITO D.TIi1 D.TIi2 hTI, TO', h1', h2'⟩, fun c hcm => ?_⟩
    have hlt : c < s.heap.objs.size := by
      have e' : c = z ∨ c = TI ∨ c = TO ∨ c = i1 ∨ c = i2 := by simpa using hcm
      rcases e' with q | q | q | q | q
      · rw [q]; exact hzl
      · rw [q]; exact Heap.lt_size hTI
      · rw [q]; exact Heap.lt_size hTO
      · rw [q]; obtain ⟨_, e1, _⟩ := h1; exact Heap.lt_size e1
      · rw [q]; obtain ⟨_, e2, _⟩ := h2; exact Heap.lt_size e2
    rw [upd_ne (Nat.ne_of_lt hlt)]
    exact (hf c hcm).1
  done := by
    intro X hP hw hK hc i pins s σ H E I hf st hg
    subst hP hw hK
    obtain ⟨⟨f0, f, hz, hf0⟩, hTI, ⟨x0, y0, hTO⟩, h1, h2⟩ := st
    obtain ⟨xs, ys, hqx, hqy, hend⟩ := hg
    obtain ⟨its, rv, p, _⟩ := I.list hqx
    obtain ⟨its2, rv2, p2, _⟩ := I.list hqy
    have l1 := rv.length
    have l2 := rv2.length
    have he : its.toArray[i]? = none ∨ its2.toArray[i]? = none := by
      rcases hend with q | q
      · exact .inl (by simp; omega)
      · exact .inr (by simp; omega)
    exact next_last (I.ok.hd hc) D hz hf0 hTI hTO h1 h2 p.isList p2.isList he fun h' hk => ⟨rfl, I.turnedL (t' := s.toks) (ch := [z, TI, TO, i1, i2]) (fun c o hb q =>
      hk c o (fun q' => hb (by simp [q'])) (fun q' => hb (by simp [q'])) (fun q' => hb (by simp [q'])) (fun q' => hb (by simp [q'])) q) hf⟩
  self := fun A i s Q E st h => by
    obtain ⟨⟨f0, f, hz, _⟩, _⟩ := st
    have ty : s.TypeIs (.ref z) "zip" := ⟨_, hz, rfl⟩
    refine wpAny_pyIter_slot ty F.slot_zip_iter (wpAny_call_entry F.slot_zip_iter ty F.entry_zip_iter ?_ (F.args_zip_iter_1 _))
    show wpAny _ _ (ret (.ref z)) _ _ s
    exact wpAny_pure ⟨_, rfl, "zip", _, ty, F.slot_zip_next.lookup, h⟩
theorem pi_zipN {X : Cx} {e e2 : Expr} {ta : TA} {p pos tpos : Pos} {nm : Str} (hg : Gl X "zip") (hm : X.mg "zip" = none) (ha : PA X [e, e2] ta)
    (hs : starEach [e, e2] X.env = (false, eval e X.env) :: starEach [e2] X.env := by rfl) (hpl : (backTo pos (starEach [e2] X.env)).any (·.1) = false := by rfl) :
    PI X (.Name nm tpos) (.Call (.Name "zip" p) [e, e2] [] pos) (iZip X.K ta) := by
  refine ⟨fun pins s σ H R I h => ?_⟩
  refine Call_ (ld_blt I hg hm PyProof.Rows.boot_zip (PyProof.Rows.callWith_type1 (thn (ha.run pos pins s σ H _ I h) fun us s1 ⟨vs, H1, I1, r1, q1⟩ => ?_) hs hpl))
  obtain ⟨a, b, xs, ys, ex, hqx, hqy, q⟩ := q1
  subst ex
  cases r1 with
  | cons r rr =>
    cases rr with
    | cons r' rr =>
      cases rr
      cases r
      cases r'
      obtain ⟨its, rv, p1, _⟩ := I1.list hqx
      obtain ⟨its2, rv2, p2, _⟩ := I1.list hqy
      refine call_zip_2 p1.isList p2.isList fun h' hz hTI hTO h1 h2 hsz hk => wpAny_pyIter_zip hz ?_
      have I2 : Inv X pins σ H1 { s1 with heap := h' } := I1.kept (t' := s1.toks) hk
      refine ⟨s1.heap.objs.size + 4, [s1.heap.objs.size + 4, s1.heap.objs.size + 2, s1.heap.objs.size + 3, s1.heap.objs.size, s1.heap.objs.size + 1], _, _, H1, rfl, I2, turnN (PySem.W.ktu_apart s1.heap.objs.size a b p1.lt p2.lt), ⟨⟨_, _, hz, .inl ⟨rfl, rfl⟩⟩, hTI, ⟨_, _, hTO⟩, h1, h2⟩, fun c hcm => ?_, q⟩
      have e' : c = s1.heap.objs.size + 4 ∨ c = s1.heap.objs.size + 2 ∨ c = s1.heap.objs.size + 3 ∨ c = s1.heap.objs.size ∨ c = s1.heap.objs.size + 1 := by simpa using hcm
      have hle : s1.heap.objs.size ≤ c := by
        show @LE.le Nat _ _ _
        rcases e' with q | q | q | q | q <;> subst q
        · exact Nat.le_add_right _ _
        · exact Nat.le_add_right _ _
        · exact Nat.le_add_right _ _
        · exact Nat.le_refl _
        · exact Nat.le_add_right _ _
      exact I1.fpOk hle (I1.hok.fresh hle)
end Zn

end -- ZN
section -- W12
set_option Elab.async false
set_option linter.all false
set_option maxRecDepth 100000
set_option maxHeartbeats 2000000
/-! set(d) == set(e); f( *pair) for pair in zip(a, b); tuple(x). -/
namespace Wp
open PySem PySem.Spec L2
section
variable {G : Gs} {H0 : Hp} {X : Cx} {N : List Str} {sc : Scope} {n : Nat} {a bb d e tg iter elt : Expr} {A B D : Env → M T} {pos p : Pos} {st : Stmt} {rest body : List Stmt} {m m' : Env → M Fl} {es : List Expr} {As : Env → M (List T)}
def keyS (kvs : List (Key × V)) : Key → Bool := fun k => kvs.any fun q => decide (q.1 = k)
theorem pairs_any {P : Program} {w : World} {k : Key} : ∀ {es : List DictEntry} {vs : List (Key × Value)} {kvs : List (Key × V)}, Pairs (mixKind P w) es vs → KV kvs vs → (es.any fun e => (mixKind P w).is k e.key) = keyS kvs k
  | _, _, _, .nil, r => by cases r; rfl
  | _, _, _, .cons h1 h2 h3, r => by
    cases r with
    | cons r1 r2 =>
      rename_i kv es0 kvs0 q qs
      unfold keyS
      rw [List.any_cons, List.any_cons, pairs_any h3 r2]
      congr 1
      rw [r1.1]
      by_cases e : kv.1 = k
      · subst e; simp [h1]
      · rw [decide_eq_false e]
        cases z : (mixKind P w).is k _ with
        | false => rfl
        | true => exact absurd ((mixKind P w).inj _ _ _ h1 z) e
def rSetD (P : Program) (w : World) : List V → Hp → VK → Prop := fun vs H Q => ∃ a o kvs, vs = [.ref a] ∧ H a = some (.frz o (.dK kvs)) ∧ kvs.length ≤ 4 ∧ ∀ p, H p = none → Q (.ref p) (upd H p (SetK P w p (keyS kvs) kvs.length))
theorem cr_setD : CallR X (.type "set") (rSetD X.prog X.w) := fun pins s σ H vs us Q I r ⟨a, o, kvs, ev, h, hz, q⟩ => by
  subst ev
  obtain ⟨u, rfl, ru⟩ := vals1 r
  cases ru
  obtain ⟨_, hne, vs, kv, o', es, ep, hod, hx, hdd, hk, hp, hnd⟩ := dk_rd I.hok (.inr ⟨o, h⟩ : Rd H a (.dK kvs))
  have hl : es.size = kvs.length := by
    have h1 := hp.length
    have h2 := Paired.length kv
    simp at h1
    omega
  refine Sd.call_set_dict (knd := mixKind X.prog X.w) hod hx hdd hne hk (fun e he => ?_) (by omega) (fun i j hi hj k nij h1 => ?_) fun h' R k => ?_
  · obtain ⟨k, h1, _⟩ := hk e he
    exact key_scan (keyIs_rel h1)
  · cases z : (mixKind X.prog X.w).is k es[j].key with
    | false => rfl
    | true =>
      exfalso
      have l1 := hp.length
      simp at l1
      have g1 := hp.get? (i := i) (e := es[i]) (k := (vs[i]'(by omega)).1) (v := (vs[i]'(by omega)).2) (by simp [hi]) (by simp [show i < vs.length by omega])
      have g2 := hp.get? (i := j) (e := es[j]) (k := (vs[j]'(by omega)).1) (v := (vs[j]'(by omega)).2) (by simp [hj]) (by simp [show j < vs.length by omega])
      have e1 := (mixKind X.prog X.w).inj _ _ _ h1 g1.1
      have e2 := (mixKind X.prog X.w).inj _ _ _ z g2.1
      have := (List.getElem_inj (xs := vs.map (·.1)) (i := i) (j := j) (h₀ := by simp; omega) (h₁ := by simp; omega) hnd).mp (by simp [← e1, ← e2])
      exact nij this
  · have R' : h'.SetOf (mixKind X.prog X.w) s.heap.objs.size (keyS kvs) kvs.length := by
      rw [hl] at R
      exact Sd.congrS R fun k => pairs_any hp kv
    exact ⟨.ref s.heap.objs.size, _, I.laid (t' := s.toks) k (Nat.le_refl _) (setK_new R'), rfl, q _ (I.hok.fresh (Nat.le_refl _))⟩
def rSetEq (P : Program) (w : World) : R2 := fun x y H Q => ∃ p q S S' n n', x = .ref p ∧ y = .ref q ∧ H p = some (SetK P w p S n) ∧ H q = some (SetK P w q S' n') ∧ ∀ r : Bool, (r = true ↔ n = n' ∧ ∀ k, S k = true → S' k = true) → Q (.bl r) H
theorem op_setEq (hu : X.A.units < cLine) : OpR X (compareOp .Eq) (rSetEq X.prog X.w) := fun pins s σ H x y v u Q I rx ry ⟨p, q, S, S', n, n', e1, e2, h1, h2, k⟩ => by
  subst e1 e2
  cases rx
  cases ry
  exact Sd.set_eq (setK_get I h1) (setK_get I h2) hu fun r hr => ⟨.bl r, H, I, rfl, k r hr⟩
def setW : T → Option (List T)
  | .dct ts => if (ts.all fun q => q.1.key.isSome) ∧ ts.length ≤ 4 then some (ts.map (·.1)) else none
  | _ => none
def sameKeys (ks us : List T) : Bool := ks.length == us.length && ks.all fun k => us.any fun u => decide (u.key = k.key)
def mSetEq (A B : Env → M T) : Env → M T := fun ρ => bnd (A ρ) fun x => bnd (opt (setW x)) fun ks => bnd (B ρ) fun y => bnd (opt (setW y)) fun us => ret (.bl (sameKeys ks us))
theorem keyS_rep {H : Hp} {k : Key} : ∀ {kvs : List (Key × V)} {ts : List (T × T)}, MB.RepD G.g G.al H kvs ts → keyS kvs k = (ts.map (·.1)).any fun u => decide (u.key = some k)
  | _, _, .nil => rfl
  | _, _, .cons (k := k') (tk := tk) h a b => by
    unfold keyS
    rw [List.any_cons, List.map_cons, List.any_cons]
    have e := keyS_rep (k := k) b
    unfold keyS at e
    rw [e, h]
    congr 1
    by_cases z : k' = k <;> simp [z]
theorem setW_at {H : Hp} {v : V} {x : T} {ks : List T} (r : Rp G H v x) (e : setW x = some ks) : ∃ kvs a o, v = .ref a ∧ H a = some (.frz o (.dK kvs)) ∧ (∃ ts, x = .dct ts ∧ MB.RepD G.g G.al H kvs ts ∧ ks = ts.map (·.1)) ∧ kvs.length ≤ 4 ∧ kvs.length = ks.length := by
  cases x with
  | dct ts =>
    have e : (if (ts.all fun q => q.1.key.isSome) ∧ ts.length ≤ 4 then some (ts.map (·.1)) else none) = some ks := e
    split at e
    · rename_i h
      cases e
      obtain ⟨a, o, kvs, hv, ha, rd, _⟩ := dctF r h.1
      have hl := MB.RepL.length (MB.repD_ks rd)
      simp only [List.length_map] at hl
      exact ⟨kvs, a, o, hv, ha, ⟨ts, rfl, rd, rfl⟩, by omega, by simp [hl]⟩
    · cases e
  | _ => cases e
theorem allkey {x : T} {ks : List T} (e : setW x = some ks) : ∀ u ∈ ks, u.key.isSome = true := by
  cases x with
  | dct ts =>
    have e : (if (ts.all fun q => q.1.key.isSome) ∧ ts.length ≤ 4 then some (ts.map (·.1)) else none) = some ks := e
    split at e
    · rename_i h
      cases e
      intro u hu
      obtain ⟨q, hq, rfl⟩ := List.mem_map.mp hu
      exact List.all_eq_true.mp h.1 q hq
    · cases e
  | _ => cases e
theorem w_seteq {p1 p2 q1 q2 : Pos} (c : Ctx G N sc n X) (hg : Gl X "set") (hm : X.mg "set" = none) (ha : PE X a (tEv G H0 A)) (hb : PE X bb (tEv G H0 B)) (hs : starEach [a] X.env = (false, eval a X.env) :: starEach [] X.env := by rfl) (hs2 : starEach [bb] X.env = (false, eval bb X.env) :: starEach [] X.env := by rfl) :
    PE X (.Compare (.Call (.Name "set" p1) [a] [] p2) [.Eq] [.Call (.Name "set" q1) [bb] [] q2] pos) (tEv G H0 (mSetEq A B)) := by
  have hbt : bootBuiltins "set" = some (.type "set") := by decide +kernel
  refine (pe_cmpR (pos := pos) (op_setEq (by have := c.hu; omega)) (pe_callTy (pos := p2) cr_setD hg hm hbt (pa1 ha hs) (by decide) (by decide) hs) (pe_callTy (pos := q2) cr_setD hg hm hbt (pa1 hb hs2) (by decide) (by decide) hs2) (nomark _)).imp fun σ H Q ⟨ρ, b, er, S, r⟩ => ?_
  refine ⟨ρ, b, er, S, r.bnd.imp fun x b1 H1 s1 S1 r1 v rv => ?_⟩
  obtain ⟨ks, e1, r1⟩ := r1.bnd.opt S1
  obtain ⟨kvs, a, o, hv, h1, ⟨ts1, _, rd1, e1'⟩, l1, l1'⟩ := setW_at rv e1
  refine ⟨a, o, kvs, by rw [hv], h1, l1, fun p hp => ?_⟩
  have sm1 := same_new (o := SetK X.prog X.w p (keyS kvs) kvs.length) hp
  have er2 := (er.mono s1 S).mono (.same sm1) S1
  have S2 := S1.same sm1
  have np := S1.new hp
  refine ⟨ρ, b1, er2, S2, (r1.at (.same sm1)).bnd.imp fun y b2 H2 s2 S2' r2 w rw' => ?_⟩
  obtain ⟨us, e2, r2⟩ := r2.bnd.opt S2'
  obtain ⟨kvs2, a2, o2, hw, h2, ⟨ts2, _, rd2, e2'⟩, l2, l2'⟩ := setW_at rw' e2
  refine ⟨a2, o2, kvs2, by rw [hw], h2, l2, fun q hq => ?_⟩
  have sm2 := same_new (o := SetK X.prog X.w q (keyS kvs2) kvs2.length) hq
  have hpp := keepO (.same sm2) np (keepO s2 np upd_same)
  refine ⟨p, q, _, _, _, _, rfl, rfl, hpp, upd_same, fun k hk => ?_⟩
  have fin := (r2.at (.same sm2)).ret (S2'.same sm2) (.bl k) 
  have ek : k = sameKeys ks us := by
    rw [Bool.eq_iff_iff, hk]
    unfold sameKeys
    rw [Bool.and_eq_true, beq_iff_eq, List.all_eq_true, ← l1', ← l2']
    refine and_congr_right fun _ => ⟨fun z u hu => ?_, fun z k' hk' => ?_⟩
    · obtain ⟨k', hk'⟩ := Option.isSome_iff_exists.mp (allkey e1 u hu)
      have := z k' (by rw [keyS_rep rd1, ← e1', List.any_eq_true]; exact ⟨u, hu, by simp [hk']⟩)
      rw [keyS_rep rd2, ← e2'] at this
      rw [hk']; exact this
    · rw [keyS_rep rd1, ← e1', List.any_eq_true] at hk'
      obtain ⟨u, hu, eu⟩ := hk'
      have eu := of_decide_eq_true eu
      have := z u hu
      rw [eu] at this
      rw [keyS_rep rd2, ← e2']; exact this
  exact fin (by rw [ek]; exact .bl _)
end
end Wp

end -- W12
section -- Fx3
set_option Elab.async false
set_option linter.all false
set_option maxRecDepth 100000
/-! What the module holds. -/
namespace Wp
open PySem PySem.Spec L2
structure Fx (g : MB.Gx) : Prop where
  f_isinstance : g.mg "isinstance" = none
  f_str : g.mg "str" = none
  f_int : g.mg "int" = none
  f_bool : g.mg "bool" = none
  f_list : g.mg "list" = none
  f_tuple : g.mg "tuple" = none
  f_dict : g.mg "dict" = none
  f_len : g.mg "len" = none
  f_all : g.mg "all" = none
  f_sorted : g.mg "sorted" = none
  f_range : g.mg "range" = none
  c_LETTERS : ∃ t, g.mg "LETTERS" = some (.str "abcdefghijklmnopqrstuvwxyz" t)
  c_MOST_LETTERS : ∃ t, g.mg "MOST_LETTERS" = some (.int 8 t)
  c_MOST_DICTS : ∃ t, g.mg "MOST_DICTS" = some (.int 60 t)
  c_MARK : ∃ a o its n, g.mg "MARK" = some (.ref a) ∧ g.K.lookup a = some o ∧ o.cls = .type "tuple" ∧ o.data = .seq its n ∧ its.size = 0
end Wp

end -- Fx3
section -- P1
set_option Elab.async false
set_option linter.all false
set_option maxRecDepth 100000
set_option maxHeartbeats 4000000
namespace Wp
open PySem PySem.Spec PyProof.Rows L2
abbrev s_is_letters : Stmt := Dr.topS 8
abbrev n_is_letters : List Str := ["thing", "sign"]
theorem sc_is_letters : FnScope n_is_letters ["thing"] (defScope s_is_letters) := ⟨rfl, rfl, rfl, by decide +kernel, rfl, by decide +kernel, by decide +kernel⟩
def m_is_letters : Env → M Fl := sRet (mAnd (mB1 (isiT "str") (mVarB 0)) (mAnd (mCmp .le (mB1 lenW (mVarB 0)) (mLit (.int 8))) (mB1 allW (mLc [1] (iS (mVar 0)) (gN 1) (cYes) (mCmp .inn (mVarB 1) (mLit (.str "abcdefghijklmnopqrstuvwxyz")))))))
theorem f_is_letters {g : MB.Gx} (TX : Fx g) {f : Addr} {fd : FuncData} (F : Dr.At g.K g.mg "is_letters" s_is_letters ["thing"] f fd) {lv : Nat} : FnW g "is_letters" 1 (lv + 1) (runW 2 (m_is_letters )) := by
  refine fn_body (N := n_is_letters) F sc_is_letters fun G cdv A outer s H E hg c => ?_
  subst hg
  exact (s_one (s_ret (w_and c (w_isi (n := "str") c rfl TX.f_isinstance (w_ty rfl TX.f_str (by decide +kernel)) (b_ 0 c)) (w_and c (w_cmp .le c (toB (shut (w_b1 (call_lenW c.K) rfl TX.f_len (by decide +kernel) (b_ 0 c)))) (toB (c_int TX.c_MOST_LETTERS)) (nomark _)) (w_one (shut (w_b1 (call_allW c.calm) rfl TX.f_all (by decide +kernel) (toB (shut (w_lc [("sign", 1)] c (i_str (v_ 0 c)) (blkOk_by (N := n_is_letters) (sc := defScope s_is_letters) (by decide +kernel)) (fun s1 H1 C1 cl1 fp1 => (g_name (i := 1) (c.blk s1 H1 C1 cl1 fp1) rfl (by first | exact .inl rfl | exact .inr rfl))) (fun s1 H1 C1 cl1 fp1 => q_nil) (fun s1 H1 C1 cl1 fp1 => (w_cmp .inn (c.blk s1 H1 C1 cl1 fp1) (b_ 1 (c.blk s1 H1 C1 cl1 fp1)) (toB (c_str TX.c_LETTERS)) rfl))))))))))))
abbrev s_is_name : Stmt := Dr.topS 9
abbrev n_is_name : List Str := ["thing"]
theorem sc_is_name : FnScope n_is_name ["thing"] (defScope s_is_name) := ⟨rfl, rfl, rfl, by decide +kernel, rfl, by decide +kernel, by decide +kernel⟩
def m_is_name (d_is_letters : List T → M T) : Env → M Fl := sRet (mAnd (mCall d_is_letters (aCons (mVar 0) (aNil))) (mCmp .ne (mVarB 0) (mLit (.str ""))))
theorem f_is_name {g : MB.Gx} (TX : Fx g) {f : Addr} {fd : FuncData} (F : Dr.At g.K g.mg "is_name" s_is_name ["thing"] f fd) {lv : Nat} {d_is_letters : List T → M T} (C_is_letters : FnW g "is_letters" 1 lv d_is_letters) : FnW g "is_name" 1 (lv + 1) (runW 1 (m_is_name d_is_letters)) := by
  refine fn_body (N := n_is_name) F sc_is_name fun G cdv A outer s H E hg c => ?_
  subst hg
  exact (s_one (s_ret (w_and c (w_call c C_is_letters (Nat.le_refl _) rfl (a_cons (v_ 0 c) a_nil)) (w_one (w_cmp .ne c (b_ 0 c) (toB w_str) (nomark _))))))
abbrev s_is_item : Stmt := Dr.topS 10
abbrev n_is_item : List Str := ["thing"]
theorem sc_is_item : FnScope n_is_item ["thing"] (defScope s_is_item) := ⟨rfl, rfl, rfl, by decide +kernel, rfl, by decide +kernel, by decide +kernel⟩
def m_is_item (d_is_letters : List T → M T) : Env → M Fl := sRet (mOr (mCmp .is (mVarB 0) (mLit .non)) (mOr (mB1 (isiT "int") (mVarB 0)) (mCall d_is_letters (aCons (mVar 0) (aNil)))))
theorem f_is_item {g : MB.Gx} (TX : Fx g) {f : Addr} {fd : FuncData} (F : Dr.At g.K g.mg "is_item" s_is_item ["thing"] f fd) {lv : Nat} {d_is_letters : List T → M T} (C_is_letters : FnW g "is_letters" 1 lv d_is_letters) : FnW g "is_item" 1 (lv + 1) (runW 1 (m_is_item d_is_letters)) := by
  refine fn_body (N := n_is_item) F sc_is_item fun G cdv A outer s H E hg c => ?_
  subst hg
  exact (s_one (s_ret (w_or c (w_cmp .is c (b_ 0 c) (toB w_non) (nomark _)) (w_or c (w_isi (n := "int") c rfl TX.f_isinstance (w_ty rfl TX.f_int (by decide +kernel)) (b_ 0 c)) (w_one (w_call c C_is_letters (Nat.le_refl _) rfl (a_cons (v_ 0 c) a_nil)))))))
abbrev s_kind_here : Stmt := Dr.topS 13
abbrev n_kind_here : List Str := ["result"]
theorem sc_kind_here : FnScope n_kind_here ["result"] (defScope s_kind_here) := ⟨rfl, rfl, rfl, by decide +kernel, rfl, by decide +kernel, by decide +kernel⟩
def m_kind_here : Env → M Fl := sSeq (sIf (mCmpT .is (mVarB 0) (mLit .non)) (sRet (mLit (.str "null"))) (sNil)) (sSeq (sIf (mTru (mB1 (isi2 "list" "dict") (mVarB 0))) (sRet (mIf (mTru (mB1 (isiT "list") (mVarB 0))) (mLit (.str "list")) (mLit (.str "dict")))) (sNil)) (sRet (mIf (mTru (mB1 (isiT "tuple") (mVarB 0))) (mLit (.str "mark")) (mLit (.str "plain")))))
theorem f_kind_here {g : MB.Gx} (TX : Fx g) {f : Addr} {fd : FuncData} (F : Dr.At g.K g.mg "kind_here" s_kind_here ["result"] f fd) {lv : Nat} : FnW g "kind_here" 1 (lv + 1) (runW 1 (m_kind_here )) := by
  refine fn_body (N := n_kind_here) F sc_kind_here fun G cdv A outer s H E hg c => ?_
  subst hg
  exact (s_cons (s_if (t_cmp .is c (b_ 0 c) (toB w_non) (nomark _)) (s_one (s_ret w_str)) s_nil) (s_cons (s_if (t_any c (toB (w_isi2 (n1 := "list") (n2 := "dict") c rfl TX.f_isinstance (w_ty rfl TX.f_list (by decide +kernel)) (w_ty rfl TX.f_dict (by decide +kernel)) (b_ 0 c)))) (s_one (s_ret (w_if (t_any c (toB (w_isi (n := "list") c rfl TX.f_isinstance (w_ty rfl TX.f_list (by decide +kernel)) (b_ 0 c)))) w_str w_str))) s_nil) (s_one (s_ret (w_if (t_any c (toB (w_isi (n := "tuple") c rfl TX.f_isinstance (w_ty rfl TX.f_tuple (by decide +kernel)) (b_ 0 c)))) w_str w_str)))))
abbrev s_is_same_item : Stmt := Dr.topS 15
abbrev n_is_same_item : List Str := ["one", "other"]
theorem sc_is_same_item : FnScope n_is_same_item ["one", "other"] (defScope s_is_same_item) := ⟨rfl, rfl, rfl, by decide +kernel, rfl, by decide +kernel, by decide +kernel⟩
def m_is_same_item : Env → M Fl := sRet (mAnd (mCmp .eq (mB1 (isiT "bool") (mVarB 0)) (mB1 (isiT "bool") (mVarB 1))) (mCmp .eq (mVarB 0) (mVarB 1)))
theorem f_is_same_item {g : MB.Gx} (TX : Fx g) {f : Addr} {fd : FuncData} (F : Dr.At g.K g.mg "is_same_item" s_is_same_item ["one", "other"] f fd) {lv : Nat} : FnW g "is_same_item" 2 (lv + 1) (runW 2 (m_is_same_item )) := by
  refine fn_body (N := n_is_same_item) F sc_is_same_item fun G cdv A outer s H E hg c => ?_
  subst hg
  exact (s_one (s_ret (w_and c (w_cmp .eq c (toB (w_isi (n := "bool") c rfl TX.f_isinstance (w_ty rfl TX.f_bool (by decide +kernel)) (b_ 0 c))) (toB (w_isi (n := "bool") c rfl TX.f_isinstance (w_ty rfl TX.f_bool (by decide +kernel)) (b_ 1 c))) (nomark _)) (w_one (w_cmp .eq c (b_ 0 c) (b_ 1 c) (nomark _))))))
abbrev s__law_kind : Stmt := Dr.topS 28
abbrev n__law_kind : List Str := ["_law_thing_here"]
theorem sc__law_kind : FnScope n__law_kind ["_law_thing_here"] (defScope s__law_kind) := ⟨rfl, rfl, rfl, by decide +kernel, rfl, by decide +kernel, by decide +kernel⟩
def m__law_kind : Env → M Fl := sSeq (sIf (mCmpT .is (mVarB 0) (mLit .non)) (sRet (mLit (.str "null"))) (sNil)) (sSeq (sIf (mTru (mB1 (isiT "tuple") (mVarB 0))) (sRet (mIf (mCmpT .eq (mVarB 0) (mTup (aNil))) (mLit (.str "mark")) (mLit (.str "missing")))) (sNil)) (sSeq (sIf (mTru (mB1 (isiT "dict") (mVarB 0))) (sRet (mLit (.str "dict"))) (sNil)) (sRet (mIf (mTru (mB1 (isiT "list") (mVarB 0))) (mLit (.str "list")) (mLit (.str "plain"))))))
theorem f__law_kind {g : MB.Gx} (TX : Fx g) {f : Addr} {fd : FuncData} (F : Dr.At g.K g.mg "_law_kind" s__law_kind ["_law_thing_here"] f fd) {lv : Nat} : FnW g "_law_kind" 1 (lv + 1) (runW 1 (m__law_kind )) := by
  refine fn_body (N := n__law_kind) F sc__law_kind fun G cdv A outer s H E hg c => ?_
  subst hg
  exact (s_cons (s_if (t_cmp .is c (b_ 0 c) (toB w_non) (nomark _)) (s_one (s_ret w_str)) s_nil) (s_cons (s_if (t_any c (toB (w_isi (n := "tuple") c rfl TX.f_isinstance (w_ty rfl TX.f_tuple (by decide +kernel)) (b_ 0 c)))) (s_one (s_ret (w_if (t_cmp .eq c (b_ 0 c) (toB (shut (w_tup (a_u a_nil)))) (nomark _)) w_str w_str))) s_nil) (s_cons (s_if (t_any c (toB (w_isi (n := "dict") c rfl TX.f_isinstance (w_ty rfl TX.f_dict (by decide +kernel)) (b_ 0 c)))) (s_one (s_ret w_str)) s_nil) (s_one (s_ret (w_if (t_any c (toB (w_isi (n := "list") c rfl TX.f_isinstance (w_ty rfl TX.f_list (by decide +kernel)) (b_ 0 c)))) w_str w_str))))))
abbrev s__law_is_word : Stmt := Dr.topS 32
abbrev n__law_is_word : List Str := ["_law_thing_here", "_law_fewest", "_law_sign"]
theorem sc__law_is_word : FnScope n__law_is_word ["_law_thing_here", "_law_fewest"] (defScope s__law_is_word) := ⟨rfl, rfl, rfl, by decide +kernel, rfl, by decide +kernel, by decide +kernel⟩
def m__law_is_word : Env → M Fl := sSeq (sIf (mOrT (mNotT (mTru (mB1 (isiT "str") (mVarB 0)))) (mNotT (mChnT .le .le (mVarB 1) (mB1 lenW (mVarB 0)) (mLit (.int 8))))) (sRet (mLit (.bl false))) (sNil)) (sRet (mCmp .eq (mLc [2] (iS (mVar 0)) (gN 2) (mCmpT .nin (mVarB 2) (mLit (.str "abcdefghijklmnopqrstuvwxyz"))) (mVar 2)) (mLst (aNil))))
theorem f__law_is_word {g : MB.Gx} (TX : Fx g) {f : Addr} {fd : FuncData} (F : Dr.At g.K g.mg "_law_is_word" s__law_is_word ["_law_thing_here", "_law_fewest"] f fd) {lv : Nat} : FnW g "_law_is_word" 2 (lv + 1) (runW 3 (m__law_is_word )) := by
  refine fn_body (N := n__law_is_word) F sc__law_is_word fun G cdv A outer s H E hg c => ?_
  subst hg
  exact (s_cons (s_if (PW.pt (t_or (t_not (t_any c (toB (w_isi (n := "str") c rfl TX.f_isinstance (w_ty rfl TX.f_str (by decide +kernel)) (b_ 0 c))))) (t_or1 (t_not (t_chn .le .le c (b_ 1 c) (toB (shut (w_b1 (call_lenW c.K) rfl TX.f_len (by decide +kernel) (b_ 0 c)))) (toB w_int) rfl))))) (s_one (s_ret w_bl)) s_nil) (s_one (s_ret (w_cmp .eq c (toB (shut (w_lc [("_law_sign", 2)] c (i_str (v_ 0 c)) (blkOk_by (N := n__law_is_word) (sc := defScope s__law_is_word) (by decide +kernel)) (fun s1 H1 C1 cl1 fp1 => (g_name (i := 2) (c.blk s1 H1 C1 cl1 fp1) rfl (by first | exact .inl rfl | exact .inr rfl))) (fun s1 H1 C1 cl1 fp1 => (q_one (t_cmp .nin (c.blk s1 H1 C1 cl1 fp1) (b_ 2 (c.blk s1 H1 C1 cl1 fp1)) (toB w_str) rfl))) (fun s1 H1 C1 cl1 fp1 => (v_ 2 (c.blk s1 H1 C1 cl1 fp1)))))) (toB (shut (w_lst (a_u a_nil)))) (nomark _)))))
abbrev s__law_is_item : Stmt := Dr.topS 33
abbrev n__law_is_item : List Str := ["_law_thing_here"]
theorem sc__law_is_item : FnScope n__law_is_item ["_law_thing_here"] (defScope s__law_is_item) := ⟨rfl, rfl, rfl, by decide +kernel, rfl, by decide +kernel, by decide +kernel⟩
def m__law_is_item (d__law_is_word : List T → M T) : Env → M Fl := sRet (mOr (mCmp .is (mVarB 0) (mLit .non)) (mOr (mB1 (isiT "int") (mVarB 0)) (mCall d__law_is_word (aCons (mVar 0) (aCons (mLit (.int 0)) (aNil))))))
theorem f__law_is_item {g : MB.Gx} (TX : Fx g) {f : Addr} {fd : FuncData} (F : Dr.At g.K g.mg "_law_is_item" s__law_is_item ["_law_thing_here"] f fd) {lv : Nat} {d__law_is_word : List T → M T} (C__law_is_word : FnW g "_law_is_word" 2 lv d__law_is_word) : FnW g "_law_is_item" 1 (lv + 1) (runW 1 (m__law_is_item d__law_is_word)) := by
  refine fn_body (N := n__law_is_item) F sc__law_is_item fun G cdv A outer s H E hg c => ?_
  subst hg
  exact (s_one (s_ret (w_or c (w_cmp .is c (b_ 0 c) (toB w_non) (nomark _)) (w_or c (w_isi (n := "int") c rfl TX.f_isinstance (w_ty rfl TX.f_int (by decide +kernel)) (b_ 0 c)) (w_one (w_call c C__law_is_word (Nat.le_refl _) rfl (a_cons (v_ 0 c) (a_cons w_int a_nil))))))))
abbrev s__law_pick : Stmt := Dr.topS 22
abbrev n__law_pick : List Str := ["_law_state", "_law_some"]
theorem sc__law_pick : FnScope n__law_pick ["_law_state", "_law_some"] (defScope s__law_pick) := ⟨rfl, rfl, rfl, by decide +kernel, rfl, by decide +kernel, by decide +kernel⟩
def m__law_pick (d__law_take : List T → M T) : Env → M Fl := sRet (mIx (mVarB 1) (mCall d__law_take (aCons (mVar 0) (aCons (mB1 lenW (mVarB 1)) (aNil)))))
theorem f__law_pick {g : MB.Gx} (TX : Fx g) {f : Addr} {fd : FuncData} (F : Dr.At g.K g.mg "_law_pick" s__law_pick ["_law_state", "_law_some"] f fd) {lv : Nat} {d__law_take : List T → M T} (C__law_take : FnW g "_law_take" 2 lv d__law_take) : FnW g "_law_pick" 2 (lv + 1) (runW 2 (m__law_pick d__law_take)) := by
  refine fn_body (N := n__law_pick) F sc__law_pick fun G cdv A outer s H E hg c => ?_
  subst hg
  exact (s_one (s_ret (w_ix c (b_ 1 c) (toB (w_call c C__law_take (Nat.le_refl _) rfl (a_cons (v_ 0 c) (a_cons (shut (w_b1 (call_lenW c.K) rfl TX.f_len (by decide +kernel) (b_ 1 c))) a_nil)))))))
abbrev s__law_item : Stmt := Dr.topS 25
abbrev n__law_item : List Str := ["_law_state", "_law_k", "_law_some", "_law_number", "_law_great"]
theorem sc__law_item : FnScope n__law_item ["_law_state"] (defScope s__law_item) := ⟨rfl, rfl, rfl, by decide +kernel, rfl, by decide +kernel, by decide +kernel⟩
def m__law_item (d__law_take d__law_pick d__law_word : List T → M T) : Env → M Fl := sSeq (sPair false false 3 4 (mBin .sub (mCall d__law_take (aCons (mVar 0) (aCons (mLit (.int 6)) (aNil)))) (mLit (.int 2))) (mLit (.int 1))) (sSeq (sFor (iR1 (aCons (mCall d__law_take (aCons (mVar 0) (aCons (mLit (.int 39)) (aNil)))) (aNil))) (gN 1) (sSet 4 (mBin .add (mBin .mul (mVarB 4) (mLit (.int 10))) (mCall d__law_take (aCons (mVar 0) (aCons (mLit (.int 10)) (aNil))))))) (sSeq (sSet 2 (mLst (aCons (mLit .non) (aCons (mLit (.bl true)) (aCons (mLit (.bl false)) (aCons (mVar 3) (aCons (mLit (.int 0)) (aCons (mLit (.int 1)) (aCons (mBin .add (mBin .pow (mLit (.int 10)) (mLit (.int 39))) (mVarB 3)) (aCons (mBin .sub (mLit (.int 1)) (mBin .pow (mLit (.int 10)) (mLit (.int 40)))) (aCons (mLit (.str "")) (aCons (mLit (.str "true")) (aCons (mLit (.str "null")) (aCons (mLit (.str "abcdefgh")) (aNil))))))))))))))) (sRet (mCall d__law_pick (aCons (mVar 0) (aCons (mBin .add (mBin .add (mVarB 2) (mRep (mLst (aCons (mCall d__law_word (aCons (mVar 0) (aNil))) (aNil))) (mLit (.int 3)))) (mLst (aCons (mVar 4) (aCons (mBin .sub (mLit (.int 0)) (mVarB 4)) (aNil))))) (aNil)))))))
theorem f__law_item {g : MB.Gx} (TX : Fx g) {f : Addr} {fd : FuncData} (F : Dr.At g.K g.mg "_law_item" s__law_item ["_law_state"] f fd) {lv : Nat} {d__law_take d__law_pick d__law_word : List T → M T} (C__law_take : FnW g "_law_take" 2 lv d__law_take) (C__law_pick : FnW g "_law_pick" 2 lv d__law_pick) (C__law_word : FnW g "_law_word" 1 lv d__law_word) : FnW g "_law_item" 1 (lv + 1) (runW 5 (m__law_item d__law_take d__law_pick d__law_word)) := by
  refine fn_body (N := n__law_item) F sc__law_item fun G cdv A outer s H E hg c => ?_
  subst hg
  exact (s_cons (s_pairL (i := 3) (j := 4) c rfl rfl (by decide) rfl rfl (x_sh (shut (w_bin .sub c (toB (w_call c C__law_take (Nat.le_refl _) rfl (a_cons (v_ 0 c) (a_cons w_int a_nil)))) (toB w_int)))) (x_sh w_int)) (s_cons (s_for PassesOwn.never c (i_rng1 rfl TX.f_range (a_cons (w_call c C__law_take (Nat.le_refl _) rfl (a_cons (v_ 0 c) (a_cons w_int a_nil))) a_nil)) (g_name (i := 1) c rfl (by first | exact .inl rfl | exact .inr rfl)) (s_one (s_set (i := 4) c rfl (by first | exact .inl rfl | exact .inr rfl) (shut (w_bin .add c (toB (shut (w_bin .mul c (b_ 4 c) (toB w_int)))) (toB (w_call c C__law_take (Nat.le_refl _) rfl (a_cons (v_ 0 c) (a_cons w_int a_nil))))))))) (s_cons (s_set (i := 2) c rfl (by first | exact .inl rfl | exact .inr rfl) (shut (w_lst (a_u (a_cons w_non (a_cons w_bl (a_cons w_bl (a_cons (v_ 3 c) (a_cons w_int (a_cons w_int (a_cons (shut (w_bin .add c (toB (shut (w_bin .pow c (toB w_int) (toB w_int)))) (b_ 3 c))) (a_cons (shut (w_bin .sub c (toB w_int) (toB (shut (w_bin .pow c (toB w_int) (toB w_int)))))) (a_cons w_str (a_cons w_str (a_cons w_str (a_cons w_str a_nil)))))))))))))))) (s_one (s_ret (w_call c C__law_pick (Nat.le_refl _) rfl (a_cons (v_ 0 c) (a_cons (shut (w_bin .add c (toB (shut (w_bin .add c (b_ 2 c) (toB (shut (w_rep (w_lst (a_u (a_cons (w_call c C__law_word (Nat.le_refl _) rfl (a_cons (v_ 0 c) a_nil)) a_nil))) w_int)))))) (toB (shut (w_lst (a_u (a_cons (v_ 4 c) (a_cons (shut (w_bin .sub c (toB w_int) (b_ 4 c))) a_nil)))))))) a_nil))))))))
abbrev s__law_words : Stmt := Dr.topS 24
abbrev n__law_words : List Str := ["_law_state", "_law_many", "_law_k", "_law_found", "_law_spare", "_law_word_here", "_law_sign", "_law_extra"]
theorem sc__law_words : FnScope n__law_words ["_law_state", "_law_many"] (defScope s__law_words) := ⟨rfl, rfl, rfl, by decide +kernel, rfl, by decide +kernel, by decide +kernel⟩
def m__law_words (d__law_word : List T → M T) : Env → M Fl := sSeq (sPair true false 3 4 (mOwn (mLst (aNil))) (mLc [6] (iS (mLit (.str "abcdefghijklmnopqrstuvwxyz"))) (gN 6) (cYes) (mBin .add (mLit (.str "z")) (mVarB 6)))) (sSeq (sFor (iR1 (aCons (mVar 1) (aNil))) (gN 2) (sSeq (sSet 5 (mCall d__law_word (aCons (mVar 0) (aNil)))) (sSeq (sIf (mCmpT .inn (mVarB 5) (mVarB 3)) (sSet 5 (mIx (mLc [7] (iL (mVar 4)) (gN 7) (mCmpT .nin (mVarB 7) (mVarB 3)) (mVar 7)) (mLit (.int 0)))) (sNil)) (sApp 3 (mVar 5))))) (sRetOw 3))
theorem f__law_words {g : MB.Gx} (TX : Fx g) {f : Addr} {fd : FuncData} (F : Dr.At g.K g.mg "_law_words" s__law_words ["_law_state", "_law_many"] f fd) {lv : Nat} {d__law_word : List T → M T} (C__law_word : FnW g "_law_word" 1 lv d__law_word) : FnW g "_law_words" 2 (lv + 1) (runW 8 (m__law_words d__law_word)) := by
  refine fn_body (N := n__law_words) F sc__law_words fun G cdv A outer s H E hg c => ?_
  subst hg
  exact (s_cons (s_pair (i := 3) (j := 4) c rfl rfl (by decide) (by first | exact .inl rfl | exact .inr rfl) (by first | exact .inl rfl | exact .inr rfl) (x_ow (w_lst (a_u a_nil))) (x_sh (shut (w_lc [("_law_sign", 6)] c (i_str w_str) (blkOk_by (N := n__law_words) (sc := defScope s__law_words) (by decide +kernel)) (fun s1 H1 C1 cl1 fp1 => (g_name (i := 6) (c.blk s1 H1 C1 cl1 fp1) rfl (by first | exact .inl rfl | exact .inr rfl))) (fun s1 H1 C1 cl1 fp1 => q_nil) (fun s1 H1 C1 cl1 fp1 => (shut (w_bin .add (c.blk s1 H1 C1 cl1 fp1) (toB w_str) (b_ 6 (c.blk s1 H1 C1 cl1 fp1))))))))) (s_cons (s_for PassesOwn.never c (i_rng1 rfl TX.f_range (a_cons (v_ 1 c) a_nil)) (g_name (i := 2) c rfl (by first | exact .inl rfl | exact .inr rfl)) (s_cons (s_set (i := 5) c rfl (by first | exact .inl rfl | exact .inr rfl) (w_call c C__law_word (Nat.le_refl _) rfl (a_cons (v_ 0 c) a_nil))) (s_cons (s_if (t_cmp .inn c (b_ 5 c) (b_ 3 c) rfl) (s_one (s_set (i := 5) c rfl (by first | exact .inl rfl | exact .inr rfl) (w_ix c (toB (shut (w_lc [("_law_extra", 7)] c (i_list c (v_ 4 c)) (blkOk_by (N := n__law_words) (sc := defScope s__law_words) (by decide +kernel)) (fun s1 H1 C1 cl1 fp1 => (g_name (i := 7) (c.blk s1 H1 C1 cl1 fp1) rfl (by first | exact .inl rfl | exact .inr rfl))) (fun s1 H1 C1 cl1 fp1 => (q_one (t_cmp .nin (c.blk s1 H1 C1 cl1 fp1) (b_ 7 (c.blk s1 H1 C1 cl1 fp1)) (b_ 3 (c.blk s1 H1 C1 cl1 fp1)) rfl))) (fun s1 H1 C1 cl1 fp1 => (v_ 7 (c.blk s1 H1 C1 cl1 fp1)))))) (toB w_int)))) s_nil) (s_one (s_app (i := 3) c rfl (by first | exact .inl rfl | exact .inr (.inl rfl)) (v_ 5 c)))))) (s_one (s_retOw (i := 3) c rfl (by first | exact .inl rfl | exact .inr (.inl rfl))))))
abbrev s__law_turned : Stmt := Dr.topS 38
abbrev n__law_turned : List Str := ["_law_state", "_law_thing_here", "_law_left", "_law_found", "_law_word_here"]
theorem sc__law_turned : FnScope n__law_turned ["_law_state", "_law_thing_here"] (defScope s__law_turned) := ⟨rfl, rfl, rfl, by decide +kernel, rfl, by decide +kernel, by decide +kernel⟩
def m__law_turned (d__law_take d__law_turned : List T → M T) : Env → M Fl := sSeq (sIf (mNotT (mTru (mB1 (isiT "dict") (mVarB 1)))) (sRet (mIf (mTru (mB1 (isiT "list") (mVarB 1))) (mB1 listW (mVarB 1)) (mVar 1))) (sNil)) (sSeq (sPair true true 2 3 (mOwn (mB1 sortedW (mVarB 1))) (mOwn (mDNew))) (sSeq (whileW (mCmpT .ne (mVarB 2) (mLst (aNil))) (sSeq (sPop 4 2 (mCall d__law_take (aCons (mVar 0) (aCons (mB1 lenW (mVarB 2)) (aNil))))) (sPut 3 (mVar 4) (mCall d__law_turned (aCons (mVar 0) (aCons (mDget (mVarB 1) (mVarB 4)) (aNil)))))) 64) (sRetOw 3)))
theorem f__law_turned {g : MB.Gx} (TX : Fx g) {f : Addr} {fd : FuncData} (F : Dr.At g.K g.mg "_law_turned" s__law_turned ["_law_state", "_law_thing_here"] f fd) {lv : Nat} {d__law_take d__law_turned : List T → M T} (C__law_take : FnW g "_law_take" 2 lv d__law_take) (C__law_turned : FnW g "_law_turned" 2 lv d__law_turned) : FnW g "_law_turned" 2 (lv + 1) (runW 5 (m__law_turned d__law_take d__law_turned)) := by
  refine fn_body (N := n__law_turned) F sc__law_turned fun G cdv A outer s H E hg c => ?_
  subst hg
  exact (s_cons (s_if (t_not (t_any c (toB (w_isi (n := "dict") c rfl TX.f_isinstance (w_ty rfl TX.f_dict (by decide +kernel)) (b_ 1 c))))) (s_one (s_ret (w_if (t_any c (toB (w_isi (n := "list") c rfl TX.f_isinstance (w_ty rfl TX.f_list (by decide +kernel)) (b_ 1 c)))) (shut (w_t1 (call_listW c.K c.calm) rfl TX.f_list (by decide +kernel) (b_ 1 c))) (v_ 1 c)))) s_nil) (s_cons (s_pairL (i := 2) (j := 3) c rfl rfl (by decide) rfl rfl (x_ow (w_b1 (call_sortedW c.calm) rfl TX.f_sorted (by decide +kernel) (b_ 1 c))) (x_ow w_dnew)) (s_cons (s_while 64 PassesOwn.never (t_cmp .ne c (b_ 2 c) (toB (shut (w_lst (a_u a_nil)))) (nomark _)) (s_cons (s_pop (i := 2) (j := 4) c rfl (by first | exact .inl rfl | exact .inr (.inl rfl)) rfl (by first | exact .inl rfl | exact .inr rfl) (by decide) (w_call c C__law_take (Nat.le_refl _) rfl (a_cons (v_ 0 c) (a_cons (shut (w_b1 (call_lenW c.K) rfl TX.f_len (by decide +kernel) (b_ 2 c))) a_nil)))) (s_one (s_put (i := 3) c rfl (by first | exact .inl rfl | exact .inr (.inl rfl)) (v_ 4 c) (w_call c C__law_turned (Nat.le_refl _) rfl (a_cons (v_ 0 c) (a_cons (w_dget c (b_ 1 c) (b_ 4 c)) a_nil))))))) (s_one (s_retOw (i := 3) c rfl (by first | exact .inl rfl | exact .inr (.inl rfl)))))))
abbrev s__law_same : Stmt := Dr.topS 29
abbrev n__law_same : List Str := ["_law_near_here", "_law_far", "_law_kind_here", "_law_word_here", "_law_k"]
theorem sc__law_same : FnScope n__law_same ["_law_near_here", "_law_far"] (defScope s__law_same) := ⟨rfl, rfl, rfl, by decide +kernel, rfl, by decide +kernel, by decide +kernel⟩
def m__law_same (d__law_kind d__law_same : List T → M T) : Env → M Fl := sSeq (sSet 2 (mCall d__law_kind (aCons (mVar 0) (aNil)))) (sSeq (sIf (mCmpT .ne (mVarB 2) (mCall d__law_kind (aCons (mVar 1) (aNil)))) (sRet (mLit (.bl false))) (sNil)) (sSeq (sIf (mCmpT .eq (mVarB 2) (mLit (.str "dict"))) (sSeq (sIf (mCmpT .ne (mB1 sortedW (mVarB 0)) (mB1 sortedW (mVarB 1))) (sRet (mLit (.bl false))) (sNil)) (sRet (mCmp .eq (mLc [3] (iK (mVar 0)) (gN 3) (mNotT (mTru (mCall d__law_same (aCons (mDget (mVarB 0) (mVarB 3)) (aCons (mDget (mVarB 1) (mVarB 3)) (aNil)))))) (mVar 3)) (mLst (aNil))))) (sNil)) (sSeq (sIf (mCmpT .eq (mVarB 2) (mLit (.str "list"))) (sSeq (sIf (mCmpT .ne (mB1 lenW (mVarB 0)) (mB1 lenW (mVarB 1))) (sRet (mLit (.bl false))) (sNil)) (sRet (mCmp .eq (mLc [4] (iR1 (aCons (mB1 lenW (mVarB 0)) (aNil))) (gN 4) (mNotT (mTru (mCall d__law_same (aCons (mIx (mVarB 0) (mVarB 4)) (aCons (mIx (mVarB 1) (mVarB 4)) (aNil)))))) (mVar 4)) (mLst (aNil))))) (sNil)) (sRet (mAnd (mCmp .eq (mB1 (isiT "bool") (mVarB 0)) (mB1 (isiT "bool") (mVarB 1))) (mCmp .eq (mVarB 0) (mVarB 1)))))))
theorem f__law_same {g : MB.Gx} (TX : Fx g) {f : Addr} {fd : FuncData} (F : Dr.At g.K g.mg "_law_same" s__law_same ["_law_near_here", "_law_far"] f fd) {lv : Nat} {d__law_kind d__law_same : List T → M T} (C__law_kind : FnW g "_law_kind" 1 lv d__law_kind) (C__law_same : FnW g "_law_same" 2 lv d__law_same) : FnW g "_law_same" 2 (lv + 1) (runW 5 (m__law_same d__law_kind d__law_same)) := by
  refine fn_body (N := n__law_same) F sc__law_same fun G cdv A outer s H E hg c => ?_
  subst hg
  exact (s_cons (s_set (i := 2) c rfl (by first | exact .inl rfl | exact .inr rfl) (w_call c C__law_kind (Nat.le_refl _) rfl (a_cons (v_ 0 c) a_nil))) (s_cons (s_if (t_cmp .ne c (b_ 2 c) (toB (w_call c C__law_kind (Nat.le_refl _) rfl (a_cons (v_ 1 c) a_nil))) (nomark _)) (s_one (s_ret w_bl)) s_nil) (s_cons (s_if (t_cmp .eq c (b_ 2 c) (toB w_str) (nomark _)) (s_cons (s_if (t_cmp .ne c (toB (shut (w_b1 (call_sortedW c.calm) rfl TX.f_sorted (by decide +kernel) (b_ 0 c)))) (toB (shut (w_b1 (call_sortedW c.calm) rfl TX.f_sorted (by decide +kernel) (b_ 1 c)))) (nomark _)) (s_one (s_ret w_bl)) s_nil) (s_one (s_ret (w_cmp .eq c (toB (shut (w_lc [("_law_word_here", 3)] c (i_keys (v_ 0 c)) (blkOk_by (N := n__law_same) (sc := defScope s__law_same) (by decide +kernel)) (fun s1 H1 C1 cl1 fp1 => (g_name (i := 3) (c.blk s1 H1 C1 cl1 fp1) rfl (by first | exact .inl rfl | exact .inr rfl))) (fun s1 H1 C1 cl1 fp1 => (q_one (t_not (t_any (c.blk s1 H1 C1 cl1 fp1) (toB (w_call (c.blk s1 H1 C1 cl1 fp1) C__law_same (Nat.le_refl _) rfl (a_cons (w_dget (c.blk s1 H1 C1 cl1 fp1) (b_ 0 (c.blk s1 H1 C1 cl1 fp1)) (b_ 3 (c.blk s1 H1 C1 cl1 fp1))) (a_cons (w_dget (c.blk s1 H1 C1 cl1 fp1) (b_ 1 (c.blk s1 H1 C1 cl1 fp1)) (b_ 3 (c.blk s1 H1 C1 cl1 fp1))) a_nil)))))))) (fun s1 H1 C1 cl1 fp1 => (v_ 3 (c.blk s1 H1 C1 cl1 fp1)))))) (toB (shut (w_lst (a_u a_nil)))) (nomark _))))) s_nil) (s_cons (s_if (t_cmp .eq c (b_ 2 c) (toB w_str) (nomark _)) (s_cons (s_if (t_cmp .ne c (toB (shut (w_b1 (call_lenW c.K) rfl TX.f_len (by decide +kernel) (b_ 0 c)))) (toB (shut (w_b1 (call_lenW c.K) rfl TX.f_len (by decide +kernel) (b_ 1 c)))) (nomark _)) (s_one (s_ret w_bl)) s_nil) (s_one (s_ret (w_cmp .eq c (toB (shut (w_lc [("_law_k", 4)] c (i_rng1 rfl TX.f_range (a_cons (shut (w_b1 (call_lenW c.K) rfl TX.f_len (by decide +kernel) (b_ 0 c))) a_nil)) (blkOk_by (N := n__law_same) (sc := defScope s__law_same) (by decide +kernel)) (fun s1 H1 C1 cl1 fp1 => (g_name (i := 4) (c.blk s1 H1 C1 cl1 fp1) rfl (by first | exact .inl rfl | exact .inr rfl))) (fun s1 H1 C1 cl1 fp1 => (q_one (t_not (t_any (c.blk s1 H1 C1 cl1 fp1) (toB (w_call (c.blk s1 H1 C1 cl1 fp1) C__law_same (Nat.le_refl _) rfl (a_cons (w_ix (c.blk s1 H1 C1 cl1 fp1) (b_ 0 (c.blk s1 H1 C1 cl1 fp1)) (b_ 4 (c.blk s1 H1 C1 cl1 fp1))) (a_cons (w_ix (c.blk s1 H1 C1 cl1 fp1) (b_ 1 (c.blk s1 H1 C1 cl1 fp1)) (b_ 4 (c.blk s1 H1 C1 cl1 fp1))) a_nil)))))))) (fun s1 H1 C1 cl1 fp1 => (v_ 4 (c.blk s1 H1 C1 cl1 fp1)))))) (toB (shut (w_lst (a_u a_nil)))) (nomark _))))) s_nil) (s_one (s_ret (w_and c (w_cmp .eq c (toB (w_isi (n := "bool") c rfl TX.f_isinstance (w_ty rfl TX.f_bool (by decide +kernel)) (b_ 0 c))) (toB (w_isi (n := "bool") c rfl TX.f_isinstance (w_ty rfl TX.f_bool (by decide +kernel)) (b_ 1 c))) (nomark _)) (w_one (w_cmp .eq c (b_ 0 c) (b_ 1 c) (nomark _))))))))))
abbrev s__law_is_ordered : Stmt := Dr.topS 31
abbrev n__law_is_ordered : List Str := ["_law_found", "_law_word_here"]
theorem sc__law_is_ordered : FnScope n__law_is_ordered ["_law_found"] (defScope s__law_is_ordered) := ⟨rfl, rfl, rfl, by decide +kernel, rfl, by decide +kernel, by decide +kernel⟩
def m__law_is_ordered (d__law_is_ordered : List T → M T) : Env → M Fl := sSeq (sIf (mNotT (mTru (mB1 (isiT "dict") (mVarB 0)))) (sRet (mLit (.bl true))) (sNil)) (sSeq (sIf (mCmpT .ne (mB1 listW (mVarB 0)) (mB1 sortedW (mVarB 0))) (sRet (mLit (.bl false))) (sNil)) (sRet (mCmp .eq (mLc [1] (iK (mVar 0)) (gN 1) (mNotT (mTru (mCall d__law_is_ordered (aCons (mDget (mVarB 0) (mVarB 1)) (aNil))))) (mVar 1)) (mLst (aNil)))))
theorem f__law_is_ordered {g : MB.Gx} (TX : Fx g) {f : Addr} {fd : FuncData} (F : Dr.At g.K g.mg "_law_is_ordered" s__law_is_ordered ["_law_found"] f fd) {lv : Nat} {d__law_is_ordered : List T → M T} (C__law_is_ordered : FnW g "_law_is_ordered" 1 lv d__law_is_ordered) : FnW g "_law_is_ordered" 1 (lv + 1) (runW 2 (m__law_is_ordered d__law_is_ordered)) := by
  refine fn_body (N := n__law_is_ordered) F sc__law_is_ordered fun G cdv A outer s H E hg c => ?_
  subst hg
  exact (s_cons (s_if (t_not (t_any c (toB (w_isi (n := "dict") c rfl TX.f_isinstance (w_ty rfl TX.f_dict (by decide +kernel)) (b_ 0 c))))) (s_one (s_ret w_bl)) s_nil) (s_cons (s_if (t_cmp .ne c (toB (shut (w_t1 (call_listW c.K c.calm) rfl TX.f_list (by decide +kernel) (b_ 0 c)))) (toB (shut (w_b1 (call_sortedW c.calm) rfl TX.f_sorted (by decide +kernel) (b_ 0 c)))) (nomark _)) (s_one (s_ret w_bl)) s_nil) (s_one (s_ret (w_cmp .eq c (toB (shut (w_lc [("_law_word_here", 1)] c (i_keys (v_ 0 c)) (blkOk_by (N := n__law_is_ordered) (sc := defScope s__law_is_ordered) (by decide +kernel)) (fun s1 H1 C1 cl1 fp1 => (g_name (i := 1) (c.blk s1 H1 C1 cl1 fp1) rfl (by first | exact .inl rfl | exact .inr rfl))) (fun s1 H1 C1 cl1 fp1 => (q_one (t_not (t_any (c.blk s1 H1 C1 cl1 fp1) (toB (w_call (c.blk s1 H1 C1 cl1 fp1) C__law_is_ordered (Nat.le_refl _) rfl (a_cons (w_dget (c.blk s1 H1 C1 cl1 fp1) (b_ 0 (c.blk s1 H1 C1 cl1 fp1)) (b_ 1 (c.blk s1 H1 C1 cl1 fp1))) a_nil))))))) (fun s1 H1 C1 cl1 fp1 => (v_ 1 (c.blk s1 H1 C1 cl1 fp1)))))) (toB (shut (w_lst (a_u a_nil)))) (nomark _))))))
abbrev s_stands : Stmt := Dr.topS 11
abbrev n_stands : List Str := ["thing", "dicts", "with_marks", "inner", "item", "name"]
theorem sc_stands : FnScope n_stands ["thing", "dicts", "with_marks"] (defScope s_stands) := ⟨rfl, rfl, rfl, by decide +kernel, rfl, by decide +kernel, by decide +kernel⟩
def m_stands (d_is_name d_is_item k_stands : List T → M T) : Env → M Fl := sSeq (sIf (mTru (mB1 (isiT "dict") (mVarB 0))) (sSeq (sIf (mOrT (mCmpT .eq (mVarB 1) (mLit (.int 0))) (mNotT (mTru (mB1 allW (mLc [5] (iK (mVar 0)) (gN 5) (cYes) (mCall d_is_name (aCons (mVar 5) (aNil)))))))) (sRet (mLit (.bl false))) (sNil)) (sRet (mB1 allW (mLc [3] (iV (mVar 0)) (gN 3) (cYes) (mCallK k_stands (aCons (mVar 3) (aCons (mBin .sub (mVarB 1) (mLit (.int 1))) (aNil))) (aCons (mVar 2) (aNil))))))) (sNil)) (sSeq (sIf (mTru (mB1 (isiT "list") (mVarB 0))) (sRet (mB1 allW (mLc [4] (iL (mVar 0)) (gN 4) (cYes) (mCall d_is_item (aCons (mVar 4) (aNil)))))) (sNil)) (sRet (mOr (mCall d_is_item (aCons (mVar 0) (aNil))) (mAnd (mVar 2) (mAnd (mB1 (isiT "tuple") (mVarB 0)) (mCmp .eq (mVarB 0) (mLit (.tup []))))))))
theorem b_stands : ∀ (dV kV doc pm : Value) (an : Option Addr) (cdv ct : Value) (us ws : List Value), us.length = 2 → ws.length = 1 → bindArgs (PySem.W.fnOf "stands" "stands" (defArgs s_stands) (defBody s_stands) (defScope s_stands) .none kV doc pm an cdv ct) ⟨us, List.zip (["with_marks"] : List Str) ws⟩ = pure (List.zip (["thing", "dicts", "with_marks"] : List Str) (us ++ ws)) := fun dV kV doc pm an cdv ct us ws h1 h2 => match us, ws, h1, h2 with | [a0, a1], [b0], _, _ => rfl
theorem f_stands {g : MB.Gx} (TX : Fx g) {f : Addr} {fd : FuncData} {kws : List (Str × V)} (F : AtD g.K g.mg "stands" s_stands ["thing", "dicts", "with_marks"] kws f fd) {lv : Nat} {d_is_name d_is_item k_stands : List T → M T} (C_is_name : FnW g "is_name" 1 lv d_is_name) (C_is_item : FnW g "is_item" 1 lv d_is_item) (K_stands : FnK g "stands" 2 ["with_marks"] lv k_stands) : FnK g "stands" 2 ["with_marks"] (lv + 1) (runW 6 (m_stands d_is_name d_is_item k_stands)) := by
  refine fnK_body (N := n_stands) F sc_stands rfl b_stands fun G cdv A outer s H E hg c => ?_
  subst hg
  exact (s_cons (s_if (t_any c (toB (w_isi (n := "dict") c rfl TX.f_isinstance (w_ty rfl TX.f_dict (by decide +kernel)) (b_ 0 c)))) (s_cons (s_if (PW.pt (t_or (t_cmp .eq c (b_ 1 c) (toB w_int) (nomark _)) (t_or1 (t_not (t_any c (toB (shut (w_b1 (call_allW c.calm) rfl TX.f_all (by decide +kernel) (toB (shut (w_lc [("name", 5)] c (i_keys (v_ 0 c)) (blkOk_by (N := n_stands) (sc := defScope s_stands) (by decide +kernel)) (fun s1 H1 C1 cl1 fp1 => (g_name (i := 5) (c.blk s1 H1 C1 cl1 fp1) rfl (by first | exact .inl rfl | exact .inr rfl))) (fun s1 H1 C1 cl1 fp1 => q_nil) (fun s1 H1 C1 cl1 fp1 => (w_call (c.blk s1 H1 C1 cl1 fp1) C_is_name (Nat.le_refl _) rfl (a_cons (v_ 5 (c.blk s1 H1 C1 cl1 fp1)) a_nil)))))))))))))) (s_one (s_ret w_bl)) s_nil) (s_one (s_ret (shut (w_b1 (call_allW c.calm) rfl TX.f_all (by decide +kernel) (toB (shut (w_lc [("inner", 3)] c (i_vals (v_ 0 c)) (blkOk_by (N := n_stands) (sc := defScope s_stands) (by decide +kernel)) (fun s1 H1 C1 cl1 fp1 => (g_name (i := 3) (c.blk s1 H1 C1 cl1 fp1) rfl (by first | exact .inl rfl | exact .inr rfl))) (fun s1 H1 C1 cl1 fp1 => q_nil) (fun s1 H1 C1 cl1 fp1 => (w_callK (c.blk s1 H1 C1 cl1 fp1) K_stands (Nat.le_refl _) rfl (a_cons (v_ 3 (c.blk s1 H1 C1 cl1 fp1)) (a_cons (shut (w_bin .sub (c.blk s1 H1 C1 cl1 fp1) (b_ 1 (c.blk s1 H1 C1 cl1 fp1)) (toB w_int))) a_nil)) (k_cons (v_ 2 (c.blk s1 H1 C1 cl1 fp1)) k_nil))))))))))) s_nil) (s_cons (s_if (t_any c (toB (w_isi (n := "list") c rfl TX.f_isinstance (w_ty rfl TX.f_list (by decide +kernel)) (b_ 0 c)))) (s_one (s_ret (shut (w_b1 (call_allW c.calm) rfl TX.f_all (by decide +kernel) (toB (shut (w_lc [("item", 4)] c (i_list c (v_ 0 c)) (blkOk_by (N := n_stands) (sc := defScope s_stands) (by decide +kernel)) (fun s1 H1 C1 cl1 fp1 => (g_name (i := 4) (c.blk s1 H1 C1 cl1 fp1) rfl (by first | exact .inl rfl | exact .inr rfl))) (fun s1 H1 C1 cl1 fp1 => q_nil) (fun s1 H1 C1 cl1 fp1 => (w_call (c.blk s1 H1 C1 cl1 fp1) C_is_item (Nat.le_refl _) rfl (a_cons (v_ 4 (c.blk s1 H1 C1 cl1 fp1)) a_nil)))))))))) s_nil) (s_one (s_ret (w_or c (w_call c C_is_item (Nat.le_refl _) rfl (a_cons (v_ 0 c) a_nil)) (w_one (w_and c (v_ 2 c) (w_and c (w_isi (n := "tuple") c rfl TX.f_isinstance (w_ty rfl TX.f_tuple (by decide +kernel)) (b_ 0 c)) (w_one (w_cmp .eq c (b_ 0 c) (toB (c_mark TX.c_MARK)) (nomark _)))))))))))
abbrev s_is_result : Stmt := Dr.topS 12
abbrev n_is_result : List Str := ["value"]
theorem sc_is_result : FnScope n_is_result ["value"] (defScope s_is_result) := ⟨rfl, rfl, rfl, by decide +kernel, rfl, by decide +kernel, by decide +kernel⟩
def m_is_result (k_stands : List T → M T) : Env → M Fl := sRet (mCallK k_stands (aCons (mVar 0) (aCons (mLit (.int 60)) (aNil))) (aCons (mLit (.bl true)) (aNil)))
theorem f_is_result {g : MB.Gx} (TX : Fx g) {f : Addr} {fd : FuncData} (F : Dr.At g.K g.mg "is_result" s_is_result ["value"] f fd) {lv : Nat} {k_stands : List T → M T} (K_stands : FnK g "stands" 2 ["with_marks"] lv k_stands) : FnW g "is_result" 1 (lv + 1) (runW 1 (m_is_result k_stands)) := by
  refine fn_body (N := n_is_result) F sc_is_result fun G cdv A outer s H E hg c => ?_
  subst hg
  exact (s_one (s_ret (w_callK c K_stands (Nat.le_refl _) rfl (a_cons (v_ 0 c) (a_cons (c_int TX.c_MOST_DICTS) a_nil)) (k_cons w_bl k_nil))))
abbrev s__law_thing : Stmt := Dr.topS 26
abbrev n__law_thing : List Str := ["_law_state", "_law_names", "_law_deep", "_law_marks", "_law_way", "_law_k"]
theorem sc__law_thing : FnScope n__law_thing ["_law_state", "_law_names", "_law_deep", "_law_marks"] (defScope s__law_thing) := ⟨rfl, rfl, rfl, by decide +kernel, rfl, by decide +kernel, by decide +kernel⟩
def m__law_thing (d__law_take d__law_dict d__law_item : List T → M T) : Env → M Fl := sSeq (sSet 4 (mCall d__law_take (aCons (mVar 0) (aCons (mLit (.int 9)) (aNil))))) (sSeq (sIf (mAndT (mCmpT .lt (mVarB 4) (mLit (.int 4))) (mCmpT .gt (mVarB 2) (mLit (.int 0)))) (sRet (mCall d__law_dict (aCons (mVar 0) (aCons (mVar 1) (aCons (mVar 2) (aCons (mVar 3) (aNil))))))) (sNil)) (sSeq (sIf (mCmpT .lt (mVarB 4) (mLit (.int 6))) (sRet (mLc [5] (iR1 (aCons (mCall d__law_take (aCons (mVar 0) (aCons (mLit (.int 4)) (aNil)))) (aNil))) (gN 5) (cYes) (mCall d__law_item (aCons (mVar 0) (aNil))))) (sNil)) (sRet (mIf (mAndT (mTru (mVarB 3)) (mCmpT .eq (mVarB 4) (mLit (.int 6)))) (mTup (aNil)) (mCall d__law_item (aCons (mVar 0) (aNil)))))))
theorem f__law_thing {g : MB.Gx} (TX : Fx g) {f : Addr} {fd : FuncData} (F : Dr.At g.K g.mg "_law_thing" s__law_thing ["_law_state", "_law_names", "_law_deep", "_law_marks"] f fd) {lv : Nat} {d__law_take d__law_dict d__law_item : List T → M T} (C__law_take : FnW g "_law_take" 2 lv d__law_take) (C__law_dict : FnW g "_law_dict" 4 lv d__law_dict) (C__law_item : FnW g "_law_item" 1 lv d__law_item) : FnW g "_law_thing" 4 (lv + 1) (runW 6 (m__law_thing d__law_take d__law_dict d__law_item)) := by
  refine fn_body (N := n__law_thing) F sc__law_thing fun G cdv A outer s H E hg c => ?_
  subst hg
  exact (s_cons (s_set (i := 4) c rfl (by first | exact .inl rfl | exact .inr rfl) (w_call c C__law_take (Nat.le_refl _) rfl (a_cons (v_ 0 c) (a_cons w_int a_nil)))) (s_cons (s_if (PW.pt (t_and (t_cmp .lt c (b_ 4 c) (toB w_int) (nomark _)) (t_and1 (t_cmp .gt c (b_ 2 c) (toB w_int) (nomark _))))) (s_one (s_ret (w_call c C__law_dict (Nat.le_refl _) rfl (a_cons (v_ 0 c) (a_cons (v_ 1 c) (a_cons (v_ 2 c) (a_cons (v_ 3 c) a_nil))))))) s_nil) (s_cons (s_if (t_cmp .lt c (b_ 4 c) (toB w_int) (nomark _)) (s_one (s_ret (shut (w_lc [("_law_k", 5)] c (i_rng1 rfl TX.f_range (a_cons (w_call c C__law_take (Nat.le_refl _) rfl (a_cons (v_ 0 c) (a_cons w_int a_nil))) a_nil)) (blkOk_by (N := n__law_thing) (sc := defScope s__law_thing) (by decide +kernel)) (fun s1 H1 C1 cl1 fp1 => (g_name (i := 5) (c.blk s1 H1 C1 cl1 fp1) rfl (by first | exact .inl rfl | exact .inr rfl))) (fun s1 H1 C1 cl1 fp1 => q_nil) (fun s1 H1 C1 cl1 fp1 => (w_call (c.blk s1 H1 C1 cl1 fp1) C__law_item (Nat.le_refl _) rfl (a_cons (v_ 0 (c.blk s1 H1 C1 cl1 fp1)) a_nil))))))) s_nil) (s_one (s_ret (w_if (PW.pt (t_and (t_any c (b_ 3 c)) (t_and1 (t_cmp .eq c (b_ 4 c) (toB w_int) (nomark _))))) (shut (w_tup (a_u a_nil))) (w_call c C__law_item (Nat.le_refl _) rfl (a_cons (v_ 0 c) a_nil))))))))
abbrev s__law_dict : Stmt := Dr.topS 27
abbrev n__law_dict : List Str := ["_law_state", "_law_names", "_law_deep", "_law_marks", "_law_k", "_law_rest", "_law_found", "_law_word_here"]
theorem sc__law_dict : FnScope n__law_dict ["_law_state", "_law_names", "_law_deep", "_law_marks"] (defScope s__law_dict) := ⟨rfl, rfl, rfl, by decide +kernel, rfl, by decide +kernel, by decide +kernel⟩
def m__law_dict (d__law_take d__law_thing : List T → M T) : Env → M Fl := sSeq (sPair true true 5 6 (mOwn (mB1 listW (mVarB 1))) (mOwn (mDNew))) (sSeq (sFor (iR1 (aCons (mCall d__law_take (aCons (mVar 0) (aCons (mBin .add (mB1 lenW (mVarB 1)) (mLit (.int 1))) (aNil)))) (aNil))) (gN 4) (sSeq (sPop 7 5 (mCall d__law_take (aCons (mVar 0) (aCons (mB1 lenW (mVarB 5)) (aNil))))) (sPut 6 (mVar 7) (mCall d__law_thing (aCons (mVar 0) (aCons (mVar 1) (aCons (mBin .sub (mVarB 2) (mLit (.int 1))) (aCons (mVar 3) (aNil))))))))) (sRetOw 6))
theorem f__law_dict {g : MB.Gx} (TX : Fx g) {f : Addr} {fd : FuncData} (F : Dr.At g.K g.mg "_law_dict" s__law_dict ["_law_state", "_law_names", "_law_deep", "_law_marks"] f fd) {lv : Nat} {d__law_take d__law_thing : List T → M T} (C__law_take : FnW g "_law_take" 2 lv d__law_take) (C__law_thing : FnW g "_law_thing" 4 lv d__law_thing) : FnW g "_law_dict" 4 (lv + 1) (runW 8 (m__law_dict d__law_take d__law_thing)) := by
  refine fn_body (N := n__law_dict) F sc__law_dict fun G cdv A outer s H E hg c => ?_
  subst hg
  exact (s_cons (s_pairL (i := 5) (j := 6) c rfl rfl (by decide) rfl rfl (x_ow (w_t1 (call_listW c.K c.calm) rfl TX.f_list (by decide +kernel) (b_ 1 c))) (x_ow w_dnew)) (s_cons (s_for PassesOwn.never c (i_rng1 rfl TX.f_range (a_cons (w_call c C__law_take (Nat.le_refl _) rfl (a_cons (v_ 0 c) (a_cons (shut (w_bin .add c (toB (shut (w_b1 (call_lenW c.K) rfl TX.f_len (by decide +kernel) (b_ 1 c)))) (toB w_int))) a_nil))) a_nil)) (g_name (i := 4) c rfl (by first | exact .inl rfl | exact .inr rfl)) (s_cons (s_pop (i := 5) (j := 7) c rfl (by first | exact .inl rfl | exact .inr (.inl rfl)) rfl (by first | exact .inl rfl | exact .inr rfl) (by decide) (w_call c C__law_take (Nat.le_refl _) rfl (a_cons (v_ 0 c) (a_cons (shut (w_b1 (call_lenW c.K) rfl TX.f_len (by decide +kernel) (b_ 5 c))) a_nil)))) (s_one (s_put (i := 6) c rfl (by first | exact .inl rfl | exact .inr (.inl rfl)) (v_ 7 c) (w_call c C__law_thing (Nat.le_refl _) rfl (a_cons (v_ 0 c) (a_cons (v_ 1 c) (a_cons (shut (w_bin .sub c (b_ 2 c) (toB w_int))) (a_cons (v_ 3 c) a_nil))))))))) (s_one (s_retOw (i := 6) c rfl (by first | exact .inl rfl | exact .inr (.inl rfl))))))
abbrev s__law_is_thing : Stmt := Dr.topS 34
abbrev n__law_is_thing : List Str := ["_law_thing_here", "_law_deep", "_law_marks", "_law_word_here", "_law_item_here"]
theorem sc__law_is_thing : FnScope n__law_is_thing ["_law_thing_here", "_law_deep", "_law_marks"] (defScope s__law_is_thing) := ⟨rfl, rfl, rfl, by decide +kernel, rfl, by decide +kernel, by decide +kernel⟩
def m__law_is_thing (d__law_is_word d__law_is_thing d__law_is_item : List T → M T) : Env → M Fl := sSeq (sIf (mTru (mB1 (isiT "dict") (mVarB 0))) (sSeq (sIf (mOrT (mCmpT .eq (mVarB 1) (mLit (.int 0))) (mCmpT .ne (mLc [3] (iK (mVar 0)) (gN 3) (mNotT (mTru (mCall d__law_is_word (aCons (mVar 3) (aCons (mLit (.int 1)) (aNil)))))) (mVar 3)) (mLst (aNil)))) (sRet (mLit (.bl false))) (sNil)) (sRet (mCmp .eq (mLc [3] (iK (mVar 0)) (gN 3) (mNotT (mTru (mCall d__law_is_thing (aCons (mDget (mVarB 0) (mVarB 3)) (aCons (mBin .sub (mVarB 1) (mLit (.int 1))) (aCons (mVar 2) (aNil))))))) (mVar 3)) (mLst (aNil))))) (sNil)) (sSeq (sIf (mTru (mB1 (isiT "list") (mVarB 0))) (sRet (mCmp .eq (mLc [4] (iL (mVar 0)) (gN 4) (mNotT (mTru (mCall d__law_is_item (aCons (mVar 4) (aNil))))) (mVar 4)) (mLst (aNil)))) (sNil)) (sSeq (sIf (mTru (mB1 (isiT "tuple") (mVarB 0))) (sRet (mAnd (mVar 2) (mCmp .eq (mVarB 0) (mTup (aNil))))) (sNil)) (sRet (mCall d__law_is_item (aCons (mVar 0) (aNil))))))
theorem f__law_is_thing {g : MB.Gx} (TX : Fx g) {f : Addr} {fd : FuncData} (F : Dr.At g.K g.mg "_law_is_thing" s__law_is_thing ["_law_thing_here", "_law_deep", "_law_marks"] f fd) {lv : Nat} {d__law_is_word d__law_is_thing d__law_is_item : List T → M T} (C__law_is_word : FnW g "_law_is_word" 2 lv d__law_is_word) (C__law_is_thing : FnW g "_law_is_thing" 3 lv d__law_is_thing) (C__law_is_item : FnW g "_law_is_item" 1 lv d__law_is_item) : FnW g "_law_is_thing" 3 (lv + 1) (runW 5 (m__law_is_thing d__law_is_word d__law_is_thing d__law_is_item)) := by
  refine fn_body (N := n__law_is_thing) F sc__law_is_thing fun G cdv A outer s H E hg c => ?_
  subst hg
  exact (s_cons (s_if (t_any c (toB (w_isi (n := "dict") c rfl TX.f_isinstance (w_ty rfl TX.f_dict (by decide +kernel)) (b_ 0 c)))) (s_cons (s_if (PW.pt (t_or (t_cmp .eq c (b_ 1 c) (toB w_int) (nomark _)) (t_or1 (t_cmp .ne c (toB (shut (w_lc [("_law_word_here", 3)] c (i_keys (v_ 0 c)) (blkOk_by (N := n__law_is_thing) (sc := defScope s__law_is_thing) (by decide +kernel)) (fun s1 H1 C1 cl1 fp1 => (g_name (i := 3) (c.blk s1 H1 C1 cl1 fp1) rfl (by first | exact .inl rfl | exact .inr rfl))) (fun s1 H1 C1 cl1 fp1 => (q_one (t_not (t_any (c.blk s1 H1 C1 cl1 fp1) (toB (w_call (c.blk s1 H1 C1 cl1 fp1) C__law_is_word (Nat.le_refl _) rfl (a_cons (v_ 3 (c.blk s1 H1 C1 cl1 fp1)) (a_cons w_int a_nil)))))))) (fun s1 H1 C1 cl1 fp1 => (v_ 3 (c.blk s1 H1 C1 cl1 fp1)))))) (toB (shut (w_lst (a_u a_nil)))) (nomark _))))) (s_one (s_ret w_bl)) s_nil) (s_one (s_ret (w_cmp .eq c (toB (shut (w_lc [("_law_word_here", 3)] c (i_keys (v_ 0 c)) (blkOk_by (N := n__law_is_thing) (sc := defScope s__law_is_thing) (by decide +kernel)) (fun s1 H1 C1 cl1 fp1 => (g_name (i := 3) (c.blk s1 H1 C1 cl1 fp1) rfl (by first | exact .inl rfl | exact .inr rfl))) (fun s1 H1 C1 cl1 fp1 => (q_one (t_not (t_any (c.blk s1 H1 C1 cl1 fp1) (toB (w_call (c.blk s1 H1 C1 cl1 fp1) C__law_is_thing (Nat.le_refl _) rfl (a_cons (w_dget (c.blk s1 H1 C1 cl1 fp1) (b_ 0 (c.blk s1 H1 C1 cl1 fp1)) (b_ 3 (c.blk s1 H1 C1 cl1 fp1))) (a_cons (shut (w_bin .sub (c.blk s1 H1 C1 cl1 fp1) (b_ 1 (c.blk s1 H1 C1 cl1 fp1)) (toB w_int))) (a_cons (v_ 2 (c.blk s1 H1 C1 cl1 fp1)) a_nil))))))))) (fun s1 H1 C1 cl1 fp1 => (v_ 3 (c.blk s1 H1 C1 cl1 fp1)))))) (toB (shut (w_lst (a_u a_nil)))) (nomark _))))) s_nil) (s_cons (s_if (t_any c (toB (w_isi (n := "list") c rfl TX.f_isinstance (w_ty rfl TX.f_list (by decide +kernel)) (b_ 0 c)))) (s_one (s_ret (w_cmp .eq c (toB (shut (w_lc [("_law_item_here", 4)] c (i_list c (v_ 0 c)) (blkOk_by (N := n__law_is_thing) (sc := defScope s__law_is_thing) (by decide +kernel)) (fun s1 H1 C1 cl1 fp1 => (g_name (i := 4) (c.blk s1 H1 C1 cl1 fp1) rfl (by first | exact .inl rfl | exact .inr rfl))) (fun s1 H1 C1 cl1 fp1 => (q_one (t_not (t_any (c.blk s1 H1 C1 cl1 fp1) (toB (w_call (c.blk s1 H1 C1 cl1 fp1) C__law_is_item (Nat.le_refl _) rfl (a_cons (v_ 4 (c.blk s1 H1 C1 cl1 fp1)) a_nil))))))) (fun s1 H1 C1 cl1 fp1 => (v_ 4 (c.blk s1 H1 C1 cl1 fp1)))))) (toB (shut (w_lst (a_u a_nil)))) (nomark _)))) s_nil) (s_cons (s_if (t_any c (toB (w_isi (n := "tuple") c rfl TX.f_isinstance (w_ty rfl TX.f_tuple (by decide +kernel)) (b_ 0 c)))) (s_one (s_ret (w_and c (v_ 2 c) (w_one (w_cmp .eq c (b_ 0 c) (toB (shut (w_tup (a_u a_nil)))) (nomark _)))))) s_nil) (s_one (s_ret (w_call c C__law_is_item (Nat.le_refl _) rfl (a_cons (v_ 0 c) a_nil)))))))
end Wp

end -- P1
section -- X1
set_option Elab.async false
set_option linter.all false
set_option maxRecDepth 100000
set_option maxHeartbeats 2000000
/-! try: body, except x as n: suite, where the error is kept as a thing of the heap. -/
namespace Xk
open PySem PySem.Spec PyProof.Rows L2
/-- an error of the class cls that was caught -/
def ErrO (cls : Value) (d : Option Addr) (a : Addr) : HO := .ext fun h => ∃ oe vs, h.get? a = some oe ∧ Zc cls d oe ∧ oe.data = .fields vs
section
variable {X : Cx} {pins : List (Addr × Obj)} {σ : L2.St} {H : Hp} {s : Shared}
theorem track {a : Addr} {o : HO} {oe : Obj} {vs : Array Value} (I : Inv X pins σ H s) (hn : H a = none) (h0 : X.s_0.heap.get? a = none) (ho : s.heap.get? a = some oe) (hd : oe.data = .fields vs) (nL : a ≠ X.env.locals) (np : ∀ p ∈ X.pn ++ pins, p.1 ≠ a) (new : ObjOk X.prog X.w (upd H a o) s.heap a o) : Inv X pins σ (upd H a o) s := by
  have nf : ∀ b, (∃ o, X.s_0.heap.get? b = some o) → b ≠ a := fun b ⟨o, e⟩ z => by rw [z, h0] at e; cases e
  have nt : ∀ {b : Addr} {u : HO}, H b = some u → b ≠ a := fun {b u} e => ne_of_none e hn
  refine ⟨I.ok, I.os, I.bare, ⟨I.base.keep, I.base.slot, fun b u e n hx => by rw [upd_ne (nf b ⟨u, e⟩)]; exact I.base.free b u e n hx, I.base.there, fun b xs e => ?_, fun b u x e => ?_, fun b ps e => ?_⟩, I.loc, I.cell, by rw [upd_ne (Ne.symm nL)]; exact I.free, fun x c e => ?_, fun p hp => ?_, fun b u e => ?_, I.len⟩
  · have q := I.base.tups b xs e
    rw [upd_ne (nt q)]; exact q
  · have q := I.base.frzs b u x e
    rw [upd_ne (nt q)]; exact q
  · obtain ⟨m, q⟩ := I.base.tbls b ps e
    exact ⟨m, by rw [upd_ne (nt q)]; exact q⟩
  · obtain ⟨v, o', q, q2⟩ := I.cell x c e
    rw [upd_ne (fun z => by subst z; rw [ho] at q; cases q; rw [hd] at q2; cases q2)]
    exact I.freeC x c e
  · obtain ⟨h1, h2, h3⟩ := I.pin p hp
    exact ⟨h1, by rw [upd_ne (np p hp)]; exact h2, h3⟩
  · by_cases hb : b = a
    · subst hb
      rw [upd_same] at e; cases e
      exact new
    · rw [upd_ne hb] at e
      exact (I.hok b u e).stay (fun c v _ k => k) (fun c q => by rw [upd_ne (nt q)]; exact q) fun c xs q => by rw [upd_ne (nt q)]; exact q
theorem errOk {P : Program} {w : World} {H : Hp} {h : Heap} {a : Addr} {cls : Value} {d : Option Addr} {oe : Obj} {vs : Array Value} (e : h.get? a = some oe) (z : Zc cls d oe) (hd : oe.data = .fields vs) : ObjOk P w H h a (ErrO cls d a) :=
  ⟨⟨oe, vs, e, z, hd⟩, ⟨oe, e⟩, fun _ _ ⟨o, v, q, r⟩ k => ⟨o, v, k o q, r⟩⟩
/-- the suite's context, no pin -/
abbrev suiteK (X : Cx) (a : Addr) (pn : List (Addr × Obj)) : Cx := X.suite a pn
theorem toSuite (I : Inv X pins σ H s) (a : Addr) : Inv (suiteK X a (X.pn ++ pins)) [] σ H s :=
  ⟨I.ok.suite _ _, I.os, I.bare, I.base, I.loc, I.cell, I.free, I.freeC, fun p hp => I.pin p (by rw [List.append_nil] at hp; exact hp), I.hok, I.len⟩
theorem ofSuite {a : Addr} (I : Inv (suiteK X a (X.pn ++ pins)) [] σ H s) (ok : X.Ok) : Inv X pins σ H s :=
  ⟨ok, I.os, I.bare, I.base, I.loc, I.cell, I.free, I.freeC, fun p hp => I.pin p (by rw [List.append_nil]; exact hp), I.hok, I.len⟩
end
/-- of an error of the body: its class is c's, the suite goes on with it -/
def wKeep (K : PySem.W.Frag) (c : Value) (i : Nat) (ts : TS) (D : Ends) : WX := fun cls d σ H =>
  PySem.W.exmOne K cls c = some true ∧ ∀ a, H a = none → ts { nx := fun σ' H' => D.nx (σ'.set i none) H', rt := D.rt, bk := fun σ' H' => D.bk (σ'.set i none) H', ct := fun σ' H' => D.ct (σ'.set i none) H' } (σ.set i (some (.ref a))) (upd H a (ErrO cls d a))
section
variable {X : Cx} {x n : Str} {c : Value} {i : Nat} {body suite : List Stmt} {b₀ : Stmt} {np pos pos' : Pos} {tb : WX → TS} {ts : TS}
theorem ps_try_keep (hs : X.stack = X.env :: X.outer) (hx : X.ex = []) (hf : X.env.frame = some X.env.locals) (hN : X.N.Nodup) (hi : X.N[i]? = some n) (hln : X.env.kindOf n = some .local) (hc : Names X x c)
    (hb : ∀ (W : WX) (pn : List (Addr × Obj)) (xe : Value → Shared → Prop), Takes (X.tr pn xe) W → PSs (X.tr pn xe) body (tb W)) (hsu : ∀ (a : Addr) (pn : List (Addr × Obj)), PSs (suiteK X a pn) (b₀ :: suite) ts) :
    PS X (.Try body [.ExceptHandler (some (.Name x np)) (some n) (b₀ :: suite) pos'] [] [] pos) (fun D σ H => tb (wKeep X.K c i ts D) D σ H) := by
  refine ⟨fun pins s σ H D I h => wpAny_Try_except ?_⟩
  have ok := I.ok
  have hfr : X.A.frames = some (X.env :: X.outer) := by rw [ok.frames, hs]
  refine wpAny_mono ((hb (wKeep X.K c i ts D) (X.pn ++ pins) (fun e s₁ => wpAny (model X.prog X.w) X.A (noteFrame e X.env) (fun _ s₂ => wpAny (model X.prog X.w) X.A (setFlight e none) (fun _ s₃ =>
    wpAny (model X.prog X.w) X.A (handleBy e X.env [.ExceptHandler (some (.Name x np)) (some n) (b₀ :: suite) pos']) (SP X pins D) X.xe s₃) X.xe s₂) X.xe s₁) (fun u s' xx => ?_)).run [] s σ H D (I.toTry _) h) (fun f s1 hsp => ?_) (fun e s1 he => he)
  · obtain ⟨a, B, sI, pins', σ', H', cls, d, rfl, J', nb, up, sky, na, os, ag, hb1, hyes⟩ := xx
    have J : Inv X pins σ' H' sI := J'.ofTry ok
    show wpAny (model X.prog X.w) X.A (noteFrame (.ref a) X.env) _ _ _
    refine Sky.land Zc.steady hfr hf (by rw [← hs]; exact sky) fun h3 fl3 up3 => ?_
    have J3 : Inv X pins σ' H' { s' with heap := h3 } := J.landed nb fl3.1 (up.trans up3) os ag
    obtain ⟨oe3, vs3, he3, hz3, hd3⟩ := fl3.there
    have test : ∀ {Q : Value → Shared → Prop} {E : Value → Shared → Prop}, Q c { s' with heap := h3 } → wpAny (model X.prog X.w) (X.A.mark (some (.ref a))) (eval (.Name x np) X.env) Q E { s' with heap := h3 } := fun {Q E} q => by
      have S3 := toSuite J3 a
      obtain ⟨hg, hdbg, hm | ⟨hm, hv, hnn⟩⟩ := hc
      · exact ld_glob (X := suiteK X a (X.pn ++ pins)) S3 hg hm q hdbg
      · exact ld_blt (X := suiteK X a (X.pn ++ pins)) S3 hg hm hv q hnn hdbg
    have LT : PySem.W.Looks (model X.prog X.w) h3 (typeOf (.ref a)) cls := fun A Q E s k q => wpAny_typeOf_ref (k _ _ he3) (by rw [hz3.1]; exact q)
    refine wpAny_handleBy_cons (codeAny_handlers_test (test ((PySem.W.exm_one (M := model X.prog X.w) J3.kIn LT hb1).here ?_))) (by intro q; cases q)
    refine codeAny_handlers_suite_as (HandSPX.lands_againZ fl3 fun h4 fl4 up4 => ?_)
    have J4 : Inv X pins σ' H' { s' with heap := h4 } := J.landed nb fl4.1 ((up.trans up3).trans up4) os ag
    obtain ⟨oe4, vs4, he4, hz4, hd4⟩ := fl4.there
    have nfr : a ∉ frs (X.env :: X.outer) := fun hm => by
      obtain ⟨_, o', e', hnf⟩ := fl4.2.2.1.mem hm
      rw [he4] at e'; cases e'
      exact hnf _ hd4
    have nL : a ≠ X.env.locals := fun z => nfr (List.mem_filterMap.mpr ⟨X.env, List.mem_cons_self, by rw [hf, z]⟩)
    have nfr' : a ∉ frs X.stack := by rw [hs]; exact nfr
    have nB : B.get? a = none := by
      rcases sky with h | h | h
      · exact h.2.1
      · exact h.2.1
      · exact h.2.1
    have gone : sI.heap.get? a = none := by
      cases q : sI.heap.get? a with
      | none => rfl
      | some o => rw [nb a o q nfr'] at nB; cases nB
    have h0 : X.s_0.heap.get? a = none := by
      cases q : X.s_0.heap.get? a with
      | none => rfl
      | some o =>
        obtain ⟨o', e⟩ := J.base.there a o q (fun z => by rw [hx] at z; cases z)
        rw [gone] at e; cases e
    have J5 := track J4 na h0 he4 hd4 nL (fun p hp => fun z => by
      have e := (J.pin p hp).1
      rw [z, gone] at e; cases e) (errOk he4 hz4 hd4)
    refine store_ok (X := suiteK X a (X.pn ++ pins)) (v := .ref a) (toSuite J5 a) hN hi (.inl hln) rfl (fun s5 S5 => ?_) (.inr hln)
    refine wpAny_mono ((hsu a (X.pn ++ pins)).run [] s5 _ _ _ S5 (hyes a na)) (fun f s6 hsp => ?_) (fun _ _ z => False.elim z)
    have end_ : ∀ {σ6 : L2.St} {H6 : Hp} {Q : Shared → Prop}, Inv (suiteK X a (X.pn ++ pins)) [] σ6 H6 s6 → (∀ s7, Inv X pins (σ6.set i none) H6 s7 → Q s7) →
        wpAny (model X.prog X.w) X.A (do bindName X.env n .none; unbindBehindTheSuite X.env n pos') (fun _ s7 => Q s7) X.xe s6 := fun {σ6 H6 Q} S6 hq => gone_ok (ofSuite S6 ok) hN hi hln hq
    cases f with
    | next => obtain ⟨σ6, H6, S6, q6⟩ := hsp; exact end_ S6 fun s7 J7 => ⟨_, _, J7, q6⟩
    | brk => obtain ⟨σ6, H6, S6, q6⟩ := hsp; exact end_ S6 fun s7 J7 => ⟨_, _, J7, q6⟩
    | cont => obtain ⟨σ6, H6, S6, q6⟩ := hsp; exact end_ S6 fun s7 J7 => ⟨_, _, J7, q6⟩
    | ret u => obtain ⟨v6, σ6, H6, S6, r6, q6⟩ := hsp; exact end_ S6 fun s7 J7 => ⟨_, _, _, J7, r6, q6⟩
  · cases f with
    | next => obtain ⟨σ', H', J', q⟩ := hsp; exact wpAny_execs_nil ⟨σ', H', J'.ofTry ok, q⟩
    | brk => obtain ⟨σ', H', J', q⟩ := hsp; exact ⟨σ', H', J'.ofTry ok, q⟩
    | cont => obtain ⟨σ', H', J', q⟩ := hsp; exact ⟨σ', H', J'.ofTry ok, q⟩
    | ret u => obtain ⟨v, σ', H', J', r, q⟩ := hsp; exact ⟨v, σ', H', J'.ofTry ok, r, q⟩
end
/-! ### isinstance of such an error -/
def rIsErr (K : PySem.W.Frag) (D : Addr) : List V → Hp → VK → Prop := fun xs H Q => ∃ (a : Addr) (c : V) (cv : Value) (b : Bool), xs = [.ref a, c] ∧ H a = some (ErrO (.ref D) none a) ∧ (∀ u, RelV c u → u = cv) ∧ PySem.W.kitOne K (.ref D) cv = some b ∧ Q (.bl b) H
theorem call_isErr {X : Cx} {D : Addr} (C : ExcC X.K D) : CallR X (.builtin "isinstance") (rIsErr X.K D) := by
  intro pins s σ H xs us Q I r h
  obtain ⟨a, c, cv, b, rfl, ha, hcv, e, q⟩ := h
  obtain ⟨u1, u2, rfl, rx, rt⟩ := vals2 r
  cases rx
  have ec := hcv _ rt
  subst ec
  obtain ⟨⟨oe, vs, hget, hz, hv⟩, _⟩ := I.hok a _ ha
  have J : PySem.W.InstAt s.heap a oe D none := by
    obtain ⟨oc, od, oda, osl⟩ := oe
    obtain ⟨h1, h2⟩ := hz
    dsimp only at h1 h2 hv
    subst h1 h2 hv
    exact ⟨hget, rfl, rfl, trivial⟩
  exact PySem.W.kia_one (PySem.W.handS_kitx_exc C.hg C.hk C.hs C.hd C.ha C.hn C.ht C.hm) I.kIn J e (fun z => nomatch z) fun tk => ⟨.bl b, H, I.kept (t' := tk) fun _ _ z => z, rfl, q⟩
/-! ### a lambda called two defs below -/
section
variable {X : Cx} {pins : List (Addr × Obj)} {σ : L2.St} {H : Hp} {s : Shared}
theorem unTwo {fs ex : List Addr} {F : Addr} {H H1 H2 : Hp} {h h1 h2 : Heap} (a : Un fs ex H H1 h h1) (b : Un (F :: fs) ex H1 H2 h1 h2) (hF : h.get? F = none) : Un fs ex H H2 h h2 := by
  have ne : ∀ {c : Addr} {o : Obj}, h.get? c = some o → c ≠ F := fun {c o} e z => by rw [z, hF] at e; cases e
  refine ⟨fun c ob q n hc hx => b.keep c ob (a.keep c ob q n hc hx) (a.free c ob q n hx) (fun z => ?_) hx, fun c ob q n hc hx => ?_, fun c ob q n hx => ?_, fun c ob q hx => ?_, fun c xs q => b.tups c xs (a.tups c xs q), fun c ob xs q => b.frzs c ob xs (a.frzs c ob xs q), fun c ps q => ?_⟩
  · rcases List.mem_cons.mp z with z | z
    · exact ne q z
    · exact hc z
  · obtain ⟨sl, e1⟩ := a.slot c ob q n hc hx
    obtain ⟨sl', e2⟩ := b.slot c _ e1 (a.free c ob q n hx) (List.mem_cons_of_mem _ hc) hx
    exact ⟨sl', e2⟩
  · obtain ⟨o', e1⟩ := a.there c ob q hx
    exact b.free c o' e1 (a.free c ob q n hx) hx
  · obtain ⟨o', e1⟩ := a.there c ob q hx
    exact b.there c o' e1 hx
  · obtain ⟨m1, e1⟩ := a.tbls c ps q
    obtain ⟨m2, e2⟩ := b.tbls c _ e1
    exact ⟨m1 ++ m2, by rw [e2, Array.append_assoc]⟩
/-- x(), in a def some calls below the one that made the lambda; hun: what that way kept -/
theorem pe_actD {CXg : CXT} {Eg : XK} {Ng : List Str} {qg : Str} {sg : Scope} {g f c' : Addr} {cdg pm ctv : Value} {params : Arguments} {body : Expr} {scope : Scope} {k i : Nat} {a : Str} {pn : List (Addr × Obj)} {xe : Value → Shared → Prop} {W : WX} {E : XK} {tb : TE} {p1 p2 : Pos} {A' : Around} {outer' : List Env} {s' : Shared} {H' : Hp}
    (I : Inv X pins σ H s) (L : LamX.LamS X.env.scope scope) (hf : s'.heap.get? f = some (PySem.W.kla_obj "<lambda>" (X.env.qual ++ "<lambda>") params body scope (cloFrom X.env.cells scope.names []) pm c' ctv)) (hfn : H' f = none) (hfr : f ∉ frs outer')
    (hun : ∀ (HZ : Hp) (h : Heap), Un (frs outer') [] H' HZ s'.heap h → Un (frs X.stack) [] H HZ s.heap h)
    (hbind : bindArgs (PySem.W.kla_fn "<lambda>" (X.env.qual ++ "<lambda>") params body scope (cloFrom X.env.cells scope.names []) pm (.ref c') ctv) ⟨[], []⟩ = pure [])
    (tk : Takes ((cxOf CXg X.prog X.w X.K X.mg X.base Ng qg sg g cdg A' outer' s' H' Eg).tr pn xe) W) {σ0 : L2.St} (hW : ∀ cls d H', E cls d H' → W cls d σ0 H') (hr : Room (k + 1) (A'.deeper (envOfC qg sg s'.heap.objs.size g cdg)))
    (hbody : ∀ (A : Around) (outer : List Env) (s : Shared) (H : Hp), A.guards = A'.guards → Room k (A.deeper (LamX.lamEnv X scope s.heap.objs.size f c')) → PE (LamX.lamCx X A outer s H E scope f c') body tb)
    (hN : Ng[i]? = some a) (hv : Vis sg a) (hd : (a == ("__debug__" : Str)) = false := by decide) (hcd : (a == ("__classdict__" : Str)) = false := by decide) :
    PE ((cxOf CXg X.prog X.w X.K X.mg X.base Ng qg sg g cdg A' outer' s' H' Eg).tr pn xe) (.Call (.Name a p1) [] [] p2)
      (fun σZ HZ Q => σZ = σ0 ∧ σZ[i]? = some (some (.ref f)) ∧ HZ c' = some (LamX.CodeO c' (X.env.qual ++ "<lambda>")) ∧ tb σ HZ Q) := by
  refine ⟨fun pinsZ sZ σZ HZ Q IZ ⟨h0, hs, hc, ht⟩ => ?_⟩
  subst h0
  refine wpAny_Call_Name_kw (thn ((pe_var (pos := p1) (i := i) hN hv hd hcd).run pinsZ sZ σZ HZ (fun v H1 => v = .ref f ∧ H1 = HZ) IZ ⟨.ref f, hs, rfl, rfl⟩) fun u s1 ⟨v, H1, I1, r1, ev, eH⟩ => ?_)
  subst ev eH
  obtain rfl : u = Value.ref f := r1
  have of1 := I1.base.keep f _ hf hfn hfr (fun z => nomatch (show f ∈ ([] : List Addr) from z))
  refine PySem.W.callWith_F0 ⟨_, _, _, _, of1⟩ ?_
  obtain ⟨⟨oc, vs, t, hoc, hdc, hvc⟩, _, _⟩ := I1.hok c' _ hc
  have rc : codeAny (model X.prog X.w) (A'.deeper (envOfC qg sg s'.heap.objs.size g cdg)) (.call (.ref f) ⟨[], []⟩) (CR (L2.CX X.prog X.w) (envOfC qg sg s'.heap.objs.size g cdg :: outer') X.prog X.w H1 s1 Q E) s1 := by
    refine PySem.W.kla_callFunE hr.depth of1 rfl L.co L.gen rfl ⟨c', oc, vs, t, rfl, hoc, hdc, hvc⟩ ?_
    rw [hbind]
    refine wpAny_pure (wpAny_newFunctionEnv (fun y hy => (L.own y hy).2) (fun y hy => absurd hy (by simp)) (fun h₁ hns hsb => ⟨I1.nolimit.fresh _ hsb, ?_⟩) L.kind)
    show codeAny _ _ (.expr body (LamX.lamEnv X scope s1.heap.objs.size f c')) _ _
    have kp : ∀ b o, s1.heap.get? b = some o → h₁.get? b = some o := fun b o e => hsb.extBut b o (Nat.ne_of_lt (Heap.lt_size e)) (Heap.get?_push_of_some _ e)
    have J : Inv (LamX.lamCx X (A'.deeper (envOfC qg sg s'.heap.objs.size g cdg)) (envOfC qg sg s'.heap.objs.size g cdg :: outer') s1 H1 E scope f c') [] σ H1 { s1 with heap := h₁, toks := s1.toks + ([] : List (Str × Value)).length } :=
      LamX.lam_start2 I L I1.env0 hr.hd (hun _ _ I1.base) hns kp
    refine PySem.W.kla_codeExpr (wpAny_mono ((hbody (A'.deeper (envOfC qg sg s'.heap.objs.size g cdg)) _ s1 H1 rfl (hr.deeper _)).run [] _ _ H1 Q J ht) (fun v s' hq => ?_) fun e s' hq => hq)
    obtain ⟨w', H', J', rv, q⟩ := hq
    exact ⟨w', H', J'.os, J'.bare, J'.base, J'.hok, rv, q⟩
  refine wpAny_call (codeAny_mono rc fun r s' hq => ?_)
  cases r with
  | error e => exact tk e _ (XE.of_call I1 (fun cls d H' h => hW cls d H' h) hq)
  | ok fl =>
    cases fl with
    | ret u => exact I1.after hq
    | next => exact False.elim hq
    | brk => exact False.elim hq
    | cont => exact False.elim hq
end
end Xk

end -- X1
section -- X2
set_option Elab.async false
set_option linter.all false
set_option maxRecDepth 100000
set_option maxHeartbeats 4000000
/-! _law_is_bad(lambda: ..): the lambda raises BadValue. -/
namespace Xk
open PySem PySem.Spec PyProof.Rows L2
abbrev stC : Stmt := Dr.topS 37
abbrev stB : Stmt := Dr.topS 40
abbrev nC : List Str := ["_law_work", "_law_caught_here", "e"]
abbrev nB : List Str := ["_law_work", "_law_caught_here"]
theorem scC : FnScope nC ["_law_work"] (defScope stC) := ⟨rfl, rfl, rfl, by decide +kernel, rfl, by decide +kernel, by decide +kernel⟩
theorem scB : FnScope nB ["_law_work"] (defScope stB) := ⟨rfl, rfl, rfl, by decide +kernel, rfl, by decide +kernel, by decide +kernel⟩
theorem nodC : nC.Nodup := by decide +kernel
theorem nodB : nB.Nodup := by decide +kernel
/-- what the classes say -/
structure Bad (K : PySem.W.Frag) (mg : Str → Option Value) (ME BV : Addr) : Prop where
  me : mg "MergeError" = some (.ref ME)
  bv : mg "BadValue" = some (.ref BV)
  ve : mg "ValueError" = none
  ii : mg "isinstance" = none
  ex : PySem.W.exmOne K (.ref BV) (.ref ME) = some true
  ec : ExcC K BV
  xi : PySem.W.excIn K BV [.type "ValueError", .type "Exception", .type "BaseException", .type "object"] "ValueError.__new__" = true
  kp : PySem.W.keepIn K (.ref BV) = true
  r1 : PySem.W.subIn K (.ref BV) (.type "BaseException") = some true
  r2 : PySem.W.typeIn K (.ref BV) = some (.type "type")
  k1 : PySem.W.kitOne K (.ref BV) (.ref BV) = some true
  k2 : PySem.W.kitOne K (.ref BV) (.type "ValueError") = some true
section
variable {X : Cx} {ME BV gB gC : Addr} {fdB fdC : FuncData}
/-- what the lambda must do: raise BadValue -/
def eBad (BV : Addr) (Q : VK) : XK := fun cls d H' => cls = .ref BV ∧ d = none ∧ ∀ a, H' a = none → Q (.ref a) (upd H' a (ErrO (.ref BV) none a))
theorem peF {X : Cx} {e : Expr} {t : TE} (h : PE X e t) : PE X e fun σ H _ => t σ H fun _ _ => False := ⟨fun pins s σ H Q I q => thn (h.run pins s σ H _ I q) fun u s1 ⟨v, H1, I1, r1, z⟩ => z.elim⟩
/-- the body of _law_caught -/
theorem body_caught {f c' : Addr} {q : Str} {tl : XK → Hp → VK → Prop} {K : PySem.W.Frag} {P : Program} {w : World} {mg : Str → Option Value} {base : Heap} {A : Around} {outer : List Env} {s : Shared} {H : Hp} {cdv : Value} {Q : VK} (F : Bad K mg ME BV)
    (act : ∀ (W : WX) (pn : List (Addr × Obj)) (xe : Value → Shared → Prop) (E : XK) (σ0 : L2.St) (p1 p2 : Pos), Takes ((cxOf CX0 P w K mg base nC "_law_caught" (defScope stC) gC cdv A outer s H E0).tr pn xe) W → (∀ cls d H', E cls d H' → W cls d σ0 H') →
      PE ((cxOf CX0 P w K mg base nC "_law_caught" (defScope stC) gC cdv A outer s H E0).tr pn xe) (.Call (.Name "_law_work" p1) [] [] p2) (fun σZ HZ Q => σZ = σ0 ∧ σZ[0]? = some (some (.ref f)) ∧ HZ c' = some (LamX.CodeO c' q) ∧ tl E HZ Q))
    (hc : H c' = some (LamX.CodeO c' q)) (h : tl (eBad BV Q) H fun _ _ => False) :
    ∃ t, PSs (cxOf CX0 P w K mg base nC "_law_caught" (defScope stC) gC cdv A outer s H E0).nox (defBody stC) t ∧ t { nx := fun _ H' => Q .non H', rt := Q } (L2.start nC [.ref f]) H := by
  refine ⟨_, pss_cons (ps_set (i := 1) nodC rfl (.inl rfl) pe_non) (pss_cons (ps_try_keep (c := .ref ME) (i := 2)
      (tb := fun W D σ H => ∃ Ech : XK, (∀ cls d H', Ech cls d H' → W cls d σ H') ∧ σ[0]? = some (some (.ref f)) ∧ H c' = some (LamX.CodeO c' q) ∧ tl Ech H fun _ _ => False)
      rfl rfl rfl nodC rfl rfl ⟨rfl, by decide, .inl F.me⟩ (fun W pn xe tk => ?_) (fun a pn => pss_one (ps_set (i := 1) nodC rfl (.inl rfl) (pe_var (i := 2) rfl (.inl rfl))))) (pss_one (ps_ret (pe_var (i := 1) rfl (.inl rfl))))), ?_⟩
  · refine pss_one ⟨fun pins s' σ' H' D I ⟨Ech, hW, h1, h2, h3⟩ => ?_⟩
    exact (ps_expr (peF (act W pn xe Ech σ' _ _ tk hW))).run pins s' σ' H' D I ⟨rfl, h1, h2, h3⟩
  · refine ⟨_, fun cls d H' z => ?_, rfl, hc, h⟩
    obtain ⟨rfl, rfl, k⟩ := z
    exact ⟨F.ex, fun a na => ⟨.ref a, rfl, .ref a, rfl, k a na⟩⟩
/-- the body of _law_is_bad; run: what _law_caught does there -/
theorem body_bad {f : Addr} {K : PySem.W.Frag} {P : Program} {w : World} {mg : Str → Option Value} {base : Heap} {A : Around} {outer : List Env} {s : Shared} {H : Hp} {cdv : Value} {Q : VK} (F : Bad K mg ME BV)
    {tc : TE} (run : ∀ p1 p2 p3, PE (cxOf CX0 P w K mg base nB "_law_is_bad" (defScope stB) gB cdv A outer s H E0).nox (.Call (.Name "_law_caught" p1) [.Name "_law_work" p2] [] p3) tc)
    (h : ∀ Q' : VK, (∀ a H', H' a = some (ErrO (.ref BV) none a) → Q (.bl true) H' → Q' (.ref a) H') → tc (L2.start nB [.ref f]) H Q') :
    ∃ t, PSs (cxOf CX0 P w K mg base nB "_law_is_bad" (defScope stB) gB cdv A outer s H E0).nox (defBody stB) t ∧ t { nx := fun _ H' => Q .non H', rt := Q } (L2.start nB [.ref f]) H := by
  refine ⟨_, pss_cons (ps_set (i := 1) nodB rfl (.inl rfl) (run _ _ _)) (pss_one (ps_ret (pe_and (pe_callB (call_isErr F.ec) rfl F.ii (by decide +kernel) (pa_cons (pe_var (i := 1) rfl (.inl rfl)) (pa_cons (pe_glob (v := .ref BV) rfl F.bv rfl) pa_nil)) )
    (pe_one (pe_callB (call_isErr F.ec) rfl F.ii (by decide +kernel) (pa_cons (pe_var (i := 1) rfl (.inl rfl)) (pa_cons (pe_bltn (v := .ty "ValueError") (u := .type "ValueError") rfl F.ve (by decide +kernel) rfl) pa_nil))))))), ?_⟩
  refine h _ fun a H' ha hq => ?_
  refine ⟨.ref a, rfl, a, .ref BV, .ref BV, true, rfl, ha, fun u r => r, F.k1, true, rfl, ?_⟩
  rw [if_pos rfl]
  exact ⟨.ref a, rfl, a, .ty "ValueError", .type "ValueError", true, rfl, ha, fun u r => r, F.k2, hq⟩
end
end Xk

end -- X2
section -- X3
set_option Elab.async false
set_option linter.all false
set_option maxRecDepth 100000
set_option maxHeartbeats 4000000
/-! _law_is_bad(lambda: ..), the rule. -/
namespace Xk
open PySem PySem.Spec PyProof.Rows L2
section
variable {X : Cx} {ME BV gB gC : Addr} {fdB fdC : FuncData}
theorem run_caught {f c' : Addr} {k : Nat} {params : Arguments} {body : Expr} {scope : Scope} {pm ctv : Value} {t : XK → TE} {pins : List (Addr × Obj)} {σ : L2.St} {H : Hp} {s : Shared} {cdv : Value} (C : Dr.At X.K X.mg "_law_caught" stC ["_law_work"] gC fdC) (F : Bad X.K X.mg ME BV)
    (I : Inv X pins σ H s) (L : LamX.LamS X.env.scope scope) (hf : s.heap.get? f = some (PySem.W.kla_obj "<lambda>" (X.env.qual ++ "<lambda>") params body scope (cloFrom X.env.cells scope.names []) pm c' ctv)) (hfn : H f = none) (hfr : f ∉ frs X.stack) (hr : Room (k + 2) (X.A.deeper (envOfC "_law_is_bad" (defScope stB) s.heap.objs.size gB cdv)))
    (hbind : bindArgs (PySem.W.kla_fn "<lambda>" (X.env.qual ++ "<lambda>") params body scope (cloFrom X.env.cells scope.names []) pm (.ref c') ctv) ⟨[], []⟩ = pure [])
    (hbody : ∀ (A : Around) (outer : List Env) (s : Shared) (H : Hp) (E : XK), A.guards = X.A.guards → Room k (A.deeper (LamX.lamEnv X scope s.heap.objs.size f c')) → PE (LamX.lamCx X A outer s H E scope f c') body (t E)) (p1 p2 p3 : Pos) :
    PE (cxOf CX0 X.prog X.w X.K X.mg X.base nB "_law_is_bad" (defScope stB) gB cdv X.A X.stack s H E0).nox (.Call (.Name "_law_caught" p1) [.Name "_law_work" p2] [] p3)
      (fun σZ HZ Q' => σZ[0]? = some (some (.ref f)) ∧ HZ c' = some (LamX.CodeO c' (X.env.qual ++ "<lambda>")) ∧ t (eBad BV Q') σ HZ fun _ _ => False) := by
  refine ⟨fun pinsZ sZ σZ HZ Q' IZ ⟨h0, hc, ht⟩ => ?_⟩
  refine wpAny_Call_Name_kw (ld_glob IZ rfl C.m ?_ (by decide))
  refine PySem.W.callWith_K (h₀ := X.base) IZ.ok.mod.kin C.fn.kp (thn ((pa_cons (pe_var (pos := p2) (i := 0) rfl (.inl rfl)) pa_nil).run p3 pinsZ sZ σZ HZ (fun vs H1 => vs = [.ref f] ∧ H1 = HZ) IZ ⟨.ref f, h0, rfl, rfl⟩) fun us s1 ⟨vs, H1, I1, r, e1, e2⟩ => ⟨I1.kIn, ?_⟩) rfl rfl
  subst e1 e2
  obtain ⟨u, rfl, ru⟩ := vals1 r
  cases ru
  obtain ⟨oc, od, kV, doc, pm2, an, cdv2, ct, osl, ef, lk, hcd⟩ := C.fn.ex
  have hb := C.b
  rw [ef] at hb lk
  have un1 : Un (frs X.stack) [] H H1 s.heap s1.heap := I1.base
  have lo : s.heap.get? s.heap.objs.size = none := by
    cases q : s.heap.get? s.heap.objs.size with
    | none => rfl
    | some o => exact absurd (Heap.lt_size q) (Nat.lt_irrefl _)
  have hfr2 : f ∉ frs (envOfC "_law_is_bad" (defScope stB) s.heap.objs.size gB cdv :: X.stack) := fun z => by
    rcases List.mem_cons.mp (show f ∈ s.heap.objs.size :: frs X.stack from z) with z | z
    · rw [z, lo] at hf; cases hf
    · exact hfr z
  have rc : codeAny (model X.prog X.w) (X.A.deeper (envOfC "_law_is_bad" (defScope stB) s.heap.objs.size gB cdv)) (.call (.ref gC) ⟨[.ref f], []⟩) (CR CX0 (envOfC "_law_is_bad" (defScope stB) s.heap.objs.size gB cdv :: X.stack) X.prog X.w H1 s1 Q' E0) s1 := by
    refine LamX.run_ofS (N := nC) (ps := ["_law_work"]) (us := [.ref f]) (vs := [.ref f]) lk hcd scC hr I1.env0 (hb s1 [.ref f] I1.kIn rfl) (.cons rfl .nil) rfl fun hr' => ?_
    obtain ⟨t', ht', hq'⟩ := body_caught (gC := gC) (cdv := cdv2) (A := X.A.deeper (envOfC "_law_is_bad" (defScope stB) s.heap.objs.size gB cdv)) (outer := envOfC "_law_is_bad" (defScope stB) s.heap.objs.size gB cdv :: X.stack) (s := s1) (P := X.prog) (w := X.w) (base := X.base) (tl := fun E H' Q' => t E σ H' Q') F (fun W pn xe E σ0 p1 p2 tk hW =>
      pe_actD (i := 0) I L (un1.keep f _ hf hfn hfr (fun z => nomatch z)) (un1.free f _ hf hfn (fun z => nomatch z)) hfr2 (fun HZ h u => unTwo (F := s.heap.objs.size) un1 (show Un (s.heap.objs.size :: frs X.stack) [] H1 HZ s1.heap h from u) lo) hbind tk hW hr' (fun A outer s H hg hr2 => hbody A outer s H E hg hr2) rfl (.inl rfl)) hc ht
    exact ⟨t', ht'.nox, hq'⟩
  refine wpAny_call (codeAny_mono rc fun r s2 hq => ?_)
  cases r with
  | error e => exact (show False from hq).elim
  | ok fl =>
    cases fl with
    | ret u => exact I1.after hq
    | next => exact False.elim hq
    | brk => exact False.elim hq
    | cont => exact False.elim hq
theorem pe_isbad {T : List (Addr × Str)} {c P : Addr} {k : Nat} {params : Arguments} {body : Expr} {scope : Scope} {t : XK → TE} {p lpos pos : Pos} (B : Dr.At X.K X.mg "_law_is_bad" stB ["_law_work"] gB fdB) (C : Dr.At X.K X.mg "_law_caught" stC ["_law_work"] gC fdC) (F : Bad X.K X.mg ME BV) (hg : Gl X "_law_is_bad")
    (TB : LamX.TabB X.base X.mg c P) (hcode : X.env.code = .ref c) (hmT : (P, X.env.qual ++ "<lambda>") ∈ T) (hu : ∀ p ∈ T, p.1 = P → p.2 = X.env.qual ++ "<lambda>") (hr : Room (k + 3) X.A) (L : LamX.LamS X.env.scope scope) (hdef : defaultsOf params X.env = ([], []))
    (hbind : ∀ (q : Str) (cl : List (Str × Addr)) (pm cv ctv : Value), bindArgs (PySem.W.kla_fn "<lambda>" q params body scope cl pm cv ctv) ⟨[], []⟩ = pure [])
    (hbody : ∀ (A : Around) (outer : List Env) (s : Shared) (H : Hp) (E : XK) (f c' : Addr), A.guards = X.A.guards → Room k (A.deeper (LamX.lamEnv X scope s.heap.objs.size f c')) → PE (LamX.lamCx X A outer s H E scope f c') body (t E)) :
    PE X (.Call (.Name "_law_is_bad" p) [.Lambda params body scope lpos] [] pos) (fun σ H Q => LamX.Tabs T H ∧ ∀ H1, LamX.ExtN H H1 → LamX.Tabs T H1 → ∀ E : XK, (∀ H', (∀ a, H' a = none → Q (.bl true) (upd H' a (ErrO (.ref BV) none a))) → E (.ref BV) none H') → t E σ H1 fun _ _ => False) := by
  refine ⟨fun pins s σ H Q I ⟨hT, h⟩ => ?_⟩
  refine wpAny_Call_Name_kw (ld_glob I hg B.m ?_ (by decide))
  refine PySem.W.callWith_K (h₀ := X.base) I.ok.mod.kin B.fn.kp ?_ (by rfl) (by rfl)
  show wpAny _ _ (spliced ((false, eval (.Lambda params body scope lpos) X.env) :: backTo pos (starEach [] X.env))) _ _ s
  refine Calls.spliced_cons (LamX.lam_make2 I TB hcode hmT hu hT hdef (L.has I.ok) fun f c' pm' ctv H1 s' I1 eN T1 hf hfn hfr hco => ?_)
  refine Calls.spliced_nil ⟨I1.kIn, ?_⟩
  obtain ⟨oc, od, kV, doc, pm2, an, cdv, ct, osl, ef, lk, hcd⟩ := B.fn.ex
  have hb := B.b
  rw [ef] at hb lk
  have rc : codeAny (model X.prog X.w) X.A (.call (.ref gB) ⟨[.ref f], []⟩) (CR CX0 X.stack X.prog X.w H1 s' Q E0) s' := by
    refine LamX.run_ofS (k := k + 2) (N := nB) (ps := ["_law_work"]) (us := [.ref f]) (vs := [.ref f]) lk hcd scB hr I1.env0 (hb s' [.ref f] I1.kIn rfl) (.cons rfl .nil) rfl fun hr' => ?_
    obtain ⟨t', ht', hq'⟩ := body_bad (gB := gB) (cdv := cdv) (A := X.A) (outer := X.stack) (s := s') (H := H1) (P := X.prog) (w := X.w) (base := X.base) (Q := Q) (f := f) F (run_caught (gB := gB) (cdv := cdv) C F I1 L hf hfn hfr hr' (hbind _ _ _ _ _) (fun A outer s H E hg hr2 => hbody A outer s H E f c' hg hr2))
      (fun Q' hQ => ⟨rfl, hco, h H1 eN T1 _ fun H' hk => ⟨rfl, rfl, fun a na => hQ a _ upd_same (hk a na)⟩⟩)
    exact ⟨t', ht'.nox, hq'⟩
  refine wpAny_call (codeAny_mono rc fun r s2 hq => ?_)
  cases r with
  | error e => exact (show False from hq).elim
  | ok fl =>
    cases fl with
    | ret u => exact I1.after hq
    | next => exact False.elim hq
    | brk => exact False.elim hq
    | cont => exact False.elim hq
end
end Xk

end -- X3
section -- X4
set_option Elab.async false
set_option linter.all false
set_option maxRecDepth 100000
set_option maxHeartbeats 4000000
/-! Defs that raise BadValue. -/
namespace Wp
open PySem PySem.Spec L2 Xk
/-- a def that raises BadValue where m says so -/
def spE (g : MB.Gx) (BV : Addr) (k : Nat) (m : List T → M Unit) : Sp := fun vs H _ E => vs.length = k ∧ ∃ (a L C : Addr) (ts : List T) (b : Nat), RpL ⟨g, a, L, C⟩ H vs ts ∧ St ⟨g, a, L, C⟩ b H ∧ Run ⟨g, a, L, C⟩ H (m ts) b fun _ b' H' => St ⟨g, a, L, C⟩ b' H' → E (.ref BV) none H'
structure FnE (g : MB.Gx) (BV : Addr) (x : Str) (k lv : Nat) (m : List T → M Unit) : Prop where
  ex : ∃ (f : Addr) (fd : FuncData) (ps : List Str), Gd.FnG g.prog g.w g.K g.mg g.base (L2.CX g.prog g.w) lv f fd ps (spE g BV k m) ∧ g.mg x = some (.ref f) ∧ PySem.W.keepIn g.K (.ref f) = true ∧ Binds g.K fd ps []
abbrev bodyE (g : MB.Gx) (N : List Str) (x : Str) (st : Stmt) (f : Addr) (cdv : Value) (A : Around) (outer : List PySem.Env) (s : Shared) (H : Hp) (E : XK) : Cx := cxOf (L2.CX g.prog g.w) g.prog g.w g.K g.mg g.base N x (defScope st) f cdv A outer s H E
/-- what goes before the raise -/
def tRs (G : Gs) (H0 : Hp) (BV : Addr) (E : XK) (m : Env → M Unit) : TS := fun _ σ H => ∃ ρ b, ER G H0 H σ ρ ∧ St G b H ∧ Run G H (m ρ) b fun _ b' H' => St G b' H' → E (.ref BV) none H'
theorem fnE_body {g : MB.Gx} {BV : Addr} {x : Str} {st : Stmt} {f : Addr} {fd : FuncData} {N ps : List Str} {k : Nat} {mb : Env → M Unit} (F : Dr.At g.K g.mg x st ps f fd) (S : FnScope N ps (defScope st))
    (body : ∀ (G : Gs) (cdv : Value) (A : Around) (outer : List PySem.Env) (s : Shared) (H : Hp) (E : XK), G.g = g → Ctx G N (defScope st) k (bodyE g N x st f cdv A outer s H E) → Takes (bodyE g N x st f cdv A outer s H E) (fun cls d _ H => E cls d H) → PSs (bodyE g N x st f cdv A outer s H E) (defBody st) (tRs G H BV E mb)) :
    FnE g BV x ps.length (k + 1) fun ts => mb (startE N.length ts) := by
  refine ⟨f, fd, ps, ⟨fun vs H Q E h => h.1, fun A outer s H args us vs Q E fr hr e0 hb r h => ?_⟩, F.m, F.fn.kp, F.b⟩
  obtain ⟨hl, a, L, C, ts, b, rl, S', rr⟩ := h
  obtain ⟨oc, od, kV, doc, pm, an, cdv, ct, osl, rfl, lk, hcd⟩ := F.fn.ex
  refine LamX.run_ofS lk hcd S hr e0 hb r hl fun hr' => ?_
  refine ⟨_, body ⟨g, a, L, C⟩ cdv A outer s H E rfl ⟨rfl, rfl, rfl, rfl, rfl, rfl, rfl, rfl, S.nd, hr', fr⟩ (takes_of rfl rfl rfl (E₁ := fun e' s'' => L2.CX g.prog g.w outer H s E e' s'') ?_), ?_⟩
  · rfl
  · exact ⟨_, b, er_start N rl, S', rr⟩
theorem sts_nev {X : Cx} {st : List Stmt} : PSs X st (fun _ _ _ => False) := ⟨fun _ _ _ _ _ _ z => z.elim⟩
section
variable {G : Gs} {H0 : Hp} {X : Cx} {N : List Str} {sc : Scope} {n : Nat} {e : Expr} {body rest els : List Stmt} {BV ME : Addr} {E : XK} {Cm : Env → M Bool}
/-- if c: raise BadValue("..") -/
theorem sts_raise {m : Str} {j : Nat} {p p2 p3 pos pos2 : Pos} (c : Ctx G N sc n X) (F : Bad X.K X.mg ME BV) (tk : Takes X fun cls d _ H => E cls d H) (hg : Gl X "BadValue") (hc : PT X e (tTv G H0 Cm)) :
    PSs X (.If e [.Raise (some (.Call (.Name "BadValue" p) [.Constant (.str m) j p2] [] p3)) none pos] els pos2 :: rest) (tRs G H0 BV E fun ρ => bnd (Cm ρ) fun k => opt (if k = true then some () else none)) := by
  refine ⟨fun pins s σ H D I ⟨ρ, b, er, S, r⟩ => ?_⟩
  refine (pss_cons (ps_if (pos := pos2) hc (pss_one (ps_raise (pos := pos) c.calm tk (pmk_own (j := j) (p := p) (p2 := p2) (pos := p3) (m := m) PySem.F.excBase_ValueError F.xi F.bv F.kp (raises_own F.r1 F.r2) hg))) sts_nev) sts_nev).run pins s σ H D I ⟨ρ, b, er, S, r.bnd.imp fun k b1 H1 s1 S1 r1 => ?_⟩
  obtain ⟨u, eu, q⟩ := r1.opt S1
  cases k with
  | true => exact q S1
  | false => cases eu
/-! ### _law_is_bad(lambda: x(..)) -/
def mBad (m : List T → M Unit) (As : Env → M (List T)) : Env → M T := fun ρ => bnd (As ρ) fun ts => bnd (m ts) fun _ => ret (.bl true)
/-- the lambda's code table is told -/
structure TbOk (G : Gs) (X : Cx) : Prop where
  ex : ∃ c P, LamX.TabB X.base X.mg c P ∧ X.env.code = .ref c ∧ (P, X.env.qual ++ "<lambda>") ∈ G.g.tt ∧ ∀ p ∈ G.g.tt, p.1 = P → p.2 = X.env.qual ++ "<lambda>"
theorem takes_lam {A : Around} {outer : List PySem.Env} {s : Shared} {H : Hp} {scope : Scope} {f c' : Addr} : Takes (LamX.lamCx X A outer s H E scope f c') fun cls d _ H => E cls d H := takes_of rfl rfl rfl (E₁ := fun e' s'' => L2.CX X.prog X.w outer H s E e' s'') rfl
theorem w_isbad {gB gC : Addr} {fdB fdC : FuncData} {params : Arguments} {scope : Scope} {x : Str} {k lv : Nat} {m : List T → M Unit} {As : Env → M (List T)} {es : List Expr} {p p2 p3 lpos pos : Pos} (c : Ctx G N sc n X) (B : Dr.At X.K X.mg "_law_is_bad" stB ["_law_work"] gB fdB) (C : Dr.At X.K X.mg "_law_caught" stC ["_law_work"] gC fdC) (F : Bad X.K X.mg ME BV)
    (hg : Gl X "_law_is_bad") (tb : TbOk G X) (FE : FnE G.g BV x k lv m) (hn : lv + 3 ≤ n) (L : LamX.LamS sc scope) (hdef : defaultsOf params X.env = ([], []))
    (hbind : ∀ (q : Str) (cl : List (Str × Addr)) (pm cv ctv : Value), bindArgs (PySem.W.kla_fn "<lambda>" q params (.Call (.Name x p2) (e :: es) [] p3) scope cl pm cv ctv) ⟨[], []⟩ = pure [])
    (hx : scope.names.lookup x = some .globalImplicit) (ha : ∀ (G : Gs) (H0 : Hp) (Y : Cx), Ctx G N scope lv Y → PA Y (e :: es) (tAv G H0 k As)) (hdb : (x == ("__debug__" : Str)) = false := by decide)
    (he : ∀ Y : Cx, starEach (e :: es) Y.env = (false, eval e Y.env) :: starEach es Y.env := by intro _; rfl) (hpl : ∀ Y : Cx, (backTo p3 (starEach es Y.env)).any (·.1) = false := by intro _; rfl) :
    PE X (.Call (.Name "_law_is_bad" p) [.Lambda params (.Call (.Name x p2) (e :: es) [] p3) scope lpos] [] pos) (tEv G H0 (mBad m As)) := by
  obtain ⟨cA, P, TB, hcode, hmT, hu⟩ := tb.ex
  obtain ⟨f, fd, ps, FG, h1, h2, h3⟩ := FE.ex
  rw [← c.prog, ← c.w, ← c.K, ← c.mg, ← c.base] at FG
  rw [← c.mg] at h1
  rw [← c.K] at h2 h3
  refine (pe_isbad (t := fun E σ H Q => tCall (spE G.g BV k m) [] E (tAv G H0 k As) σ H Q) B C F hg TB hcode hmT hu (c.room.mono hn) (by rw [c.hsc]; exact L) hdef hbind (fun A outer s H E f' c' hG hr => ?_)).imp fun σ H Q ⟨ρ, b, er, S, r⟩ => ?_
  · have cl : Ctx G N scope lv (LamX.lamCx X A outer s H E scope f' c') := ⟨c.prog, c.w, c.K, c.mg, c.base, rfl, c.hN, rfl, c.nd, hr, by show A.guards = _; rw [hG]; exact c.free⟩
    exact pe_callG (X := LamX.lamCx X A outer s H E scope f' c') FG cl.free hr hx h1 h2 h3 .nil (passes_call takes_lam fun _ _ _ _ h => h) (ha G H0 _ cl) hdb (he _) (hpl _)
  · refine ⟨S.2, fun H1 eN T1 E hE => ?_⟩
    have st : Stp G H H1 := fun b o e _ _ n => eN b o e n
    have S1 : St G b H1 := by
      obtain ⟨⟨t, ⟨⟨r, h1⟩, ⟨ns, h2, h7⟩, ⟨ms, h3, h4⟩, h5, h6⟩, e⟩, _⟩ := S
      exact ⟨⟨t, ⟨⟨r, eN _ _ h1 (fun _ z => nomatch z)⟩, ⟨ns, eN _ _ h2 (fun _ z => nomatch z), h7⟩, ⟨ms, eN _ _ h3 (fun _ z => nomatch z), h4⟩, h5, h6⟩, e⟩, T1⟩
    refine ⟨ρ, b, er.mono st S, S1, (r.at st).bnd.imp fun ts b2 H2 s2 S2 r2 vs rv hl => ?_⟩
    show spE G.g BV k m (vs ++ []) H2 _ E
    rw [List.append_nil]
    refine ⟨hl, G.a, G.L, G.C, ts, b2, rv, S2, r2.bnd.imp fun u b3 H3 s3 S3 r3 _ => hE H3 fun a na => ?_⟩
    exact (Run.ret (S3.same (same_new na)) (r3.at (.same (same_new na)))) _ (.bl true)
end
end Wp

end -- X4
section -- W13
set_option Elab.async false
set_option linter.all false
set_option maxRecDepth 100000
set_option maxHeartbeats 2000000
/-! zip with one name, f( *pair), tuple(xs), min, max, raise that is never met. -/
namespace Wp
open PySem PySem.Spec L2
section
variable {G : Gs} {H0 : Hp} {X : Cx} {N : List Str} {sc : Scope} {n : Nat} {a bb d e tg iter elt : Expr} {A B D : Env → M T} {pos p : Pos} {st : Stmt} {rest body : List Stmt} {m m' : Env → M Fl} {es : List Expr} {As : Env → M (List T)}
/-! ### zip -/
theorem lstF {H : Hp} {v : V} {ts : List T} (r : Rp G H v (.lst ts)) : ∃ a o vs, v = .ref a ∧ H a = some (.frz o (.lst vs)) ∧ RpL G H vs ts ∧ vs.length ≤ sizeLine := by
  cases r with
  | con h cn =>
    cases cn with
    | lst z rl => exact ⟨_, _, _, rfl, h, rl, z⟩
def iZ (As : Env → M (List T)) : Env → M (List T) := fun ρ => bnd (As ρ) fun ts => opt (match ts with
  | [.lst xs, .lst ys] => some (List.zipWith (fun x y => .tup [x, y]) xs ys)
  | _ => none)
theorem i_zipN {nm : Str} {e2 : Expr} {tpos : Pos} (c : Ctx G N sc n X) (hg : Gl X "zip") (hm : X.mg "zip" = none) (ha : PA X [e, e2] (tAv G H0 2 As))
    (hs : starEach [e, e2] X.env = (false, eval e X.env) :: starEach [e2] X.env := by rfl) (hpl : (backTo pos (starEach [e2] X.env)).any (·.1) = false := by rfl) : PI X (.Name nm tpos) (.Call (.Name "zip" p) [e, e2] [] pos) (tIv G H0 (iZ As)) :=
  PIimp (Zn.pi_zipN (p := p) (pos := pos) hg hm ha hs hpl) fun σ H R ⟨ρ, b, er, S, r⟩ => ⟨ρ, b, er, S, r.bnd.imp fun ts b1 H1 s1 S1 r1 vs rv _ => by
    obtain ⟨us, e, k⟩ := r1.opt S1
    split at e
    · rename_i xs ys
      cases e
      cases rv with
      | cons r1 rv =>
        cases rv with
        | cons r2 rv =>
          cases rv
          obtain ⟨a, o1, vs, rfl, f1, rl1, z1⟩ := lstF r1
          obtain ⟨a', o2, ws, rfl, f2, rl2, z2⟩ := lstF r2
          refine ⟨a, a', vs, ws, rfl, .inl (.inr ⟨o1, f1⟩), .inl (.inr ⟨o2, f2⟩), k _ ⟨_, _, _, walk_zip (K := X.K) (a := a) (b := a') (xs := vs) (ys := ws) rfl, by rw [List.length_zipWith, rl1.length, rl2.length], Nat.le_trans (Nat.min_le_left _ _) z1, fun H' y => ⟨.inl (rd_stay y f1), .inl (rd_stay y f2)⟩, fun i H' x H'' y hi q => ?_⟩⟩
          obtain ⟨T, u, w, rfl, hT, rfl, e1, e2⟩ := q
          obtain ⟨t1, g1, g2⟩ := wk_at rl1 y e1
          obtain ⟨t2, g3, g4⟩ := wk_at rl2 y e2
          exact ⟨same_new hT, .tup [t1, t2], by rw [List.getElem?_zipWith, g1, g3], tupNew hT (.cons g2 (.cons g4 .nil))⟩
    · cases e⟩
/-! ### f( *x) -/
def mStar (k : Nat) (mf : List T → M T) (A : Env → M T) : Env → M T := fun ρ => bnd (A ρ) fun x => bnd (opt (match x with | .tup ts => if ts.length = k then some ts else none | _ => none)) mf
theorem w_star {x : Str} {k lv : Nat} {mf : List T → M T} {sp_ : Pos} (c : Ctx G N sc n X) (F : FnW G.g x k lv mf) (hl : lv ≤ n) (hg : Gl X x) (ha : PE X e (tEv G H0 A)) (hdb : (x == ("__debug__" : Str)) = false := by decide)
    (hst : starEach [.Starred e sp_] X.env = [(true, eval e X.env)] := by rfl) : PE X (.Call (.Name x p) [.Starred e sp_] [] pos) (tEv G H0 (mStar k mf A)) := by
  obtain ⟨f, fd, ps, F, h1, h2, h3⟩ := F.ex
  rw [← c.prog, ← c.w, ← c.K, ← c.mg, ← c.base] at F
  rw [← c.mg] at h1
  rw [← c.K] at h2 h3
  refine ⟨fun pins s σ H Q I ⟨ρ, b, er, S, r⟩ => ?_⟩
  refine wpAny_Call_Name_kw (ld_glob I hg h1 ?_ hdb)
  refine PySem.W.callWith_S (h₀ := X.base) I.ok.mod.kin h2 (thn (ha.run pins s σ H (fun v H1 => ∃ b1 vs ts q, v = V.ref q ∧ SqT X.K H1 q vs ∧ RpL G H1 vs ts ∧ vs.length = k ∧ St G b1 H1 ∧ Run G H1 (mf ts) b1 fun t _ H' => ∀ v, Rp G H' v t → Q v H') I ⟨ρ, b, er, S, r.bnd.imp fun x b1 H1 s1 S1 r1 v rv => ?_⟩) fun v s1 ⟨y, H1, I1, ry, q⟩ => ?_) hst
  · obtain ⟨ts, et, r2⟩ := r1.bnd.opt S1
    cases x with
    | tup us =>
      have et : (if us.length = k then some us else none) = some ts := et
      split at et
      · rename_i hk
        cases et
        obtain ⟨p, vs, ev, h, rl⟩ := MB.RepV.tup (.inl rv)
        rw [← c.K] at h
        exact ⟨b1, vs, ts, p, ev, h, rl, rl.length.trans hk, S1, r2⟩
      · cases et
    | _ => cases et
  · obtain ⟨b1, vs, ts, p, ey, hx, rl, hk, S1, r2⟩ := q
    subst ey
    obtain rfl : v = Value.ref p := ry
    refine StX.star_any I1 (.inl hx) fun us s2 I2 rv => ⟨I2.kIn, ?_⟩
    have q := run_fnG (Q := Q) (us := us) (vs := vs) (dvs := []) (ds := []) F c.free (c.room.mono hl) h3 .nil (E := E0) pass0 I2 rv (by rw [List.append_nil]; exact ⟨hk, G.a, G.L, G.C, ts, _, rl, S1, r2⟩)
    exact q
/-! ### tuple(xs) -/
def tupW : T → Option T
  | .lst xs => some (.tup xs)
  | _ => none
theorem call_tupW : CallR X (.type "tuple") (rF1 G tupW) := fun pins s σ H vs us Q I r ⟨v, x, t, b, ev, S, rb, e, k⟩ => by
  subst ev
  obtain ⟨u, rfl, ru⟩ := vals1 r
  cases x with
  | lst ts =>
    cases e
    obtain ⟨a, vs, rfl, h, rl, _⟩ := rb.tv.lst
    exact rl_tuple pins s σ H _ u Q I ru (.inl ⟨a, vs, rfl, .inl h, fun q hq => k _ _ (same_new hq) (.inr ⟨rfl, tupNew hq rl⟩)⟩)
  | _ => cases e
/-! ### raise, where it is never met -/
def sNev : Env → M Fl := fun _ => nev
theorem s_nev : PS X st (tSv G H0 sNev) := ⟨fun pins s σ H D I ⟨ρ, b, er, k, S, R, z, _⟩ => z.elim⟩
end
end Wp

end -- W13
section -- OD
set_option Elab.async false
set_option linter.all false
set_option maxRecDepth 100000
set_option maxHeartbeats 2000000
/-! d[()] = v and d[None] = v among keys that are texts. -/
namespace Od
open PySem PySem.Spec PyProof.Rows L2 PySem.SeqAt
section
variable {P : Program} {w : World} {A : Around} {E : Value → Shared → Prop} {s : Shared} {d t : Addr} {o ot : Obj} {es : Array DictEntry} {ep : Nat}
theorem find_tup {h : Int} {Q : Option Nat → Shared → Prop} (hu : A.units < cLine) (ho : s.heap.get? d = some o) (hd : o.data = .dict es ep) (ht : s.heap.IsTuple t #[]) (hs : ∀ e ∈ es, ∃ x u, e.key = .str x u) (hQ : Q none s) :
    wpAny (model P w) A (dictFind d (.ref t) h) Q E s := by
  unfold dictFind
  try with_reducible refine wpAny_holding ?_
  refine wpAny_bind (wpAny_dictEntries ho hd ?_)
  dsimp only
  have hall : ((Value.ref t :: (placesWithHash es.size (fun i => es[i]?.map (·.hash)) h).filterMap fun i => es[i]?.map (·.key)).all carriedByValue) = false := rfl
  rw [if_neg (by rw [hall]; exact Bool.false_ne_true)]
  have key : ∀ {v : Value}, v ∈ ((placesWithHash es.size (fun i => es[i]?.map (·.hash)) h).filterMap fun i => es[i]?.map (·.key)) → ∃ x u, v = .str x u := fun {v} hv => by
    obtain ⟨i, _, hi⟩ := List.mem_filterMap.mp hv
    obtain ⟨e, he, rfl⟩ := Option.map_eq_some_iff.mp hi
    exact hs e (Array.mem_of_getElem? he)
  have hany : (es.any fun e => e.key == Value.ref t && e.hash != h) = false := by
    rw [Array.any_eq_false]
    intro i hi q
    obtain ⟨x, u, e⟩ := hs es[i] (Array.getElem_mem hi)
    rw [e] at q
    exact absurd q (by simp)
  rw [if_neg (by rw [hany]; exact Bool.false_ne_true)]
  generalize hst : ((placesWithHash es.size (fun i => es[i]?.map (·.hash)) h).filterMap fun i => es[i]?.map (·.key)) = stored at key ⊢
  have hne : (stored == [Value.ref t]) = false := by
    cases q : stored == [Value.ref t] with
    | false => rfl
    | true =>
      have e := eq_of_beq q
      obtain ⟨x, u, z⟩ := key (v := .ref t) (by rw [e]; exact List.mem_singleton.mpr rfl)
      cases z
  rw [if_neg (by rw [hne]; exact Bool.false_ne_true)]
  have tell : ∀ {Q : Bool → Shared → Prop}, Q false s → wpAny (model P w) A (tableMayTell (.ref t) stored) Q E s := fun {Q} hq => by
    unfold tableMayTell
    cases he : stored.isEmpty with
    | true => rw [if_pos rfl]; exact wpAny_pure hq
    | false =>
      rw [if_neg Bool.false_ne_true]
      refine wpAny_bind (wpAny_eqIsQuiet_tuple (knd := mixKind P w) (ks := []) ?_ ?_)
      · obtain ⟨ot, h1, h2, n, h3⟩ := id ht
        exact ⟨ot, #[], n, h1, h2, h3, .nil⟩
      show wpAny _ _ (if (!true) = true then _ else _) _ _ _
      rw [if_neg (by decide)]
      refine wpAny_bind ?_
      refine wpAny_forIn_list _ (fun rest b s' => s' = s ∧ b = (none, ()) ∧ ∀ v ∈ rest, ∃ x u, v = Value.str x u) _ ?_ ?_ _ _ ⟨rfl, rfl, fun v hv => key hv⟩
      · rintro x rest b s' ⟨rfl, rfl, hk⟩
        obtain ⟨y, u, rfl⟩ := hk x List.mem_cons_self
        refine wpAny_bind ?_
        rw [eqIsQuiet_byValue _ rfl]
        refine wpAny_pure ?_
        show wpAny _ _ (if (!true) = true then _ else _) _ _ _
        rw [if_neg (by decide)]
        exact wpAny_pure ⟨rfl, rfl, fun v hv => hk v (List.mem_cons_of_mem _ hv)⟩
      · rintro b s' ⟨rfl, rfl, _⟩
        exact wpAny_pure hq
  refine wpAny_bind (tell ?_)
  show wpAny _ _ (if (false && _) = true then _ else _) _ _ _
  rw [Bool.false_and, if_neg Bool.false_ne_true]
  refine wpAny_bind ?_
  refine wpAny_forIn_list _ (fun rest b s' => s' = s ∧ b = (none, none)) _ ?_ ?_ _ _ ⟨rfl, rfl⟩
  · rintro x rest b s' ⟨rfl, rfl⟩
    cases he : es[x]? with
    | none => exact wpAny_pure ⟨rfl, rfl⟩
    | some e =>
      obtain ⟨y, u, ek⟩ := hs e (Array.mem_of_getElem? he)
      dsimp only
      by_cases hh : (e.hash == h) = true
      · rw [if_pos hh]
        refine wpAny_bind (wpAny_dictEpoch ho hd (wpAny_bind ?_))
        rw [ek]
        refine EqAt.str_tuple y u ht hu _ _ _ _ (wpAny_bind (wpAny_dictEpoch ho hd ?_))
        rw [if_neg (by simp), if_neg Bool.false_ne_true]
        refine wpAny_bind (wpAny_rule ?_)
        rw [Bool.false_and, if_neg Bool.false_ne_true]
        exact wpAny_pure ⟨rfl, rfl⟩
      · rw [if_neg hh]
        exact wpAny_pure ⟨rfl, rfl⟩
  · rintro b s' ⟨rfl, rfl⟩
    exact wpAny_pure hQ
end
end Od
namespace Od
open PySem PySem.Spec PyProof.Rows L2 PySem.SeqAt
section
variable {P : Program} {w : World} {A : Around} {E : Value → Shared → Prop} {s : Shared} {d t : Addr} {o ot : Obj} {es : Array DictEntry} {ep : Nat}
/-- a key that is found nowhere is laid at the end -/
theorem setItem_new {key v : Value} {Q : Unit → Shared → Prop} (ho : s.heap.get? d = some o) (hx : o.ExactDict) (hd : o.data = .dict es ep) (hz : es.size ≤ sizeLine)
    (hh : ∀ (E : Value → Shared → Prop) (Q : Int → Shared → Prop), (∀ i tk, (∀ (E : Value → Shared → Prop) (Q : Option Nat → Shared → Prop), Q none { s with toks := tk } → wpAny (model P w) A.in1 (dictFind d key i) Q E { s with toks := tk }) → Q i { s with toks := tk }) → wpAny (model P w) A.in1 (pyHash key) Q E s)
    (hQ : ∀ (h' : Heap) (o' : Obj) (i : Int) (ep' tk : Nat), h'.get? d = some o' → o'.ExactDict → o'.data = .dict (es.push ⟨i, key, v⟩) ep' → Heap.SameBut d s.heap h' → Q () { s with heap := h', toks := tk }) :
    wpAny (model P w) A (setItem (.ref d) key v) Q E s := by
  have hT : s.TypeIs (.ref d) "dict" := ⟨o, ho, hx.1⟩
  unfold setItem
  try with_reducible refine wpAny_holding ?_
  refine wpAny_bind (wpAny_sequenceKey hT (by decide) ?_)
  refine wpAny_bind (wpAny_callSpecial?_slot (name := Str.ofString "__setitem__") hT PySem.F.slot_dict_setitem
    (wpAny_call_entry PySem.F.slot_dict_setitem hT PySem.F.entry_dict_setitem ?_ (PySem.F.args_dict_setitem_3 _ _ _)))
  show wpAny _ _ (Builtin.Dict.notOrdered "__setitem__" ⟨[.ref d, key, v], []⟩ >>= _) _ _ s
  refine wpAny_bind (wpAny_notOrdered_dict hT ?_)
  show wpAny _ _ (dictSet d key v >>= _) _ _ s
  refine wpAny_bind ?_
  unfold dictSet
  try with_reducible refine wpAny_holding ?_
  refine wpAny_bind (hh _ _ fun i tk hf => ?_)
  unfold dictSetHashed
  try with_reducible refine wpAny_holding ?_
  refine wpAny_bind (hf _ _ ?_)
  dsimp only
  refine wpAny_bind (wpAny_rule ?_)
  refine wpAny_updateDictKeys (s := { s with toks := tk }) ho hd ?_ hz (by simp)
  refine wpAny_pure ⟨.none, rfl, wpAny_pure (hQ _ _ i _ tk (Heap.get?_update_self _ ho (Obj.isFreed_of_dict (Obj.data_mapDictKeys hd _))) (hx.mapDictKeys _) (Obj.data_mapDictKeys hd _) (Heap.SameBut.update ..))⟩
end
end Od

end -- OD
section -- OE
set_option Elab.async false
set_option linter.all false
set_option maxRecDepth 100000
set_option maxHeartbeats 2000000
/-! .. over the abstract heap. -/
namespace Od
open PySem PySem.Spec PyProof.Rows L2 PySem.SeqAt
/-- an object stands at a -/
def AnyO (a : Addr) : HO := .ext fun h => ∃ o, h.get? a = some o
theorem pairs_txt {P : Program} {w : World} : ∀ {es : List DictEntry} {vs : List (Key × Value)} {kvs : List (Key × V)}, Pairs (mixKind P w) es vs → KV kvs vs → (∀ q ∈ kvs, ∃ x, q.1 = Sum.inr x) →
    (∀ e ∈ es, ∃ x t, e.key = .str x t) ∧ Vals (kvs.map fun q => kV q.1) (es.map (·.key)) ∧ Vals (kvs.map (·.2)) (es.map (·.val))
  | _, _, _, .nil, r, _ => by cases r; exact ⟨fun e he => (nomatch he), .nil, .nil⟩
  | _, _, _, .cons h1 h2 h3, r, hk => by
    cases r with
    | cons r1 r2 =>
      obtain ⟨i1, i2, i3⟩ := pairs_txt h3 r2 fun q hq => hk q (List.mem_cons_of_mem _ hq)
      obtain ⟨x, ex⟩ := hk _ List.mem_cons_self
      have hr := keyIs_rel (show keyIs _ _ = true from h1)
      rw [← r1.1] at hr
      refine ⟨fun e he => ?_, .cons hr i2, .cons (by dsimp only; rw [h2]; exact r1.2) i3⟩
      rcases List.mem_cons.mp he with rfl | he
      · rw [ex] at hr
        obtain ⟨t, z⟩ := (show ∃ t, _ = Value.str x t from hr)
        exact ⟨x, t, z⟩
      · exact i1 e he
theorem leaf_keys {P : Program} {w : World} {es : Array DictEntry} (h : KeysOf (mixKind P w) es) (hs : ∀ e ∈ es, ∃ x t, e.key = .str x t) : KeysOf (leafKind P w) es := fun e he => by
  obtain ⟨k, h1, h2⟩ := h e he
  obtain ⟨x, t, ek⟩ := hs e he
  rw [ek] at h1
  cases k with
  | inl i => cases h1
  | inr y =>
    refine ⟨.text y, ?_, h2⟩
    rw [ek]
    exact h1
section
variable {X : Cx} {pins : List (Addr × Obj)} {σ : L2.St} {H : Hp} {s : Shared} {a : Addr} {kvs : List (Key × V)} {y v : V} {u r : Value} {E : Value → Shared → Prop} {Q : Unit → Shared → Prop}
theorem d_putOdd (hu : X.A.units + 8 < cLine) (I : Inv X pins σ H s) (e : H a = some (.dK kvs)) (hk : ∀ q ∈ kvs, ∃ x, q.1 = Sum.inr x) (hy : y = .non ∨ ∃ t, y = .ref t ∧ SqT X.K H t []) (ru : RelV y u) (rv : RelV v r)
    (h : ∀ s' o, Inv X pins σ (upd H a (.frz o (AnyO a))) s' → (a == sysModules) = false → MB.OddAt o ((kvs.map fun q => kV q.1) ++ [y]) (kvs.map (·.2) ++ [v]) → Q () s') (hl : kvs.length < sizeLine) :
    wpAny (model X.prog X.w) X.A (setItem (.ref a) u r) Q E s := by
  obtain ⟨z, hsm, vs, rel, o, es, ep, ho, hx, hdd, hko, hp, hnd⟩ := dk_of I.hok e
  obtain ⟨t1, t2, t3⟩ := pairs_txt hp rel hk
  have hs : ∀ e ∈ es, ∃ x t, e.key = .str x t := fun e he => t1 e (by simpa using he)
  have hz : es.size = kvs.length := by have := t2.length; simp at this; omega
  refine setItem_new ho hx hdd (by omega) (fun E' Q' hq => ?_) fun h' o' i ep' tk h1 h2 h3 sb => ?_
  · rcases hy with rfl | ⟨t, rfl, ht⟩
    · cases (show u = Value.none from ru)
      refine (leafKind X.prog X.w).pyHash (k := .none) rfl (hq _ _ fun E2 Q2 q2 => ?_)
      refine wpAny_dictFind_of (knd := leafKind X.prog X.w) (k := .none) rfl (s := { s with toks := s.toks + 1 }) ho hdd (leaf_keys hko hs) ?_
      have e0 : (es.findIdx? fun e => (leafKind X.prog X.w).is .none e.key) = none := by
        rw [Array.findIdx?_eq_none_iff]
        intro e he
        obtain ⟨x, t, ek⟩ := hs e he
        rw [ek]; rfl
      rw [e0]
      exact q2
    · cases (show u = Value.ref t from ru)
      obtain ⟨its, rt, p, _⟩ := I.tuple ht
      cases rt
      obtain ⟨ot, g1, g2, n, g3⟩ := id p
      refine wpAny_pyHash_tuple (knd := mixKind X.prog X.w) (ks := []) (by show X.A.units + 1 < cLine; omega) ⟨ot, _, n, g1, g2, g3, .nil⟩ (hq _ _ fun E2 Q2 q2 => ?_)
      exact find_tup (s := { s with toks := _ }) (by show X.A.units + 1 < cLine; omega) ho hdd ⟨ot, g1, g2, n, g3⟩ hs q2
  · have he : ∃ q, h'.get? a = some q := ⟨o', h1⟩
    refine h _ o' (d_write I (by rw [e]; exact True.intro) sb he ⟨h1, ⟨o', h1⟩, ⟨o', h1⟩, fun g1 g2 ⟨q, hq⟩ k => ⟨q, k q hq⟩⟩) hsm ⟨h2, _, _, h3, ?_, ?_, ?_⟩
    · rw [Array.toList_push, List.map_append]
      exact t2.append (.cons ru .nil)
    · rw [Array.toList_push, List.map_append]
      exact t3.append (.cons rv .nil)
    · rw [Array.size_push]; omega
end
end Od

end -- OE
section -- W14
set_option Elab.async false
set_option linter.all false
set_option maxRecDepth 100000
set_option maxHeartbeats 4000000
/-! d.pop(k); d[k] = d.pop(w) with keys of any kind; {k: v}. -/
namespace Wp
open PySem PySem.Spec L2
section
variable {G : Gs} {H0 : Hp} {H : Hp} {σ : L2.St} {ρ : Env} {i : Nat} {t u : T}
theorem ER.toSh (h : ER G H0 H σ ρ) {p : Addr} {o o' : HO} (hσ : σ[i]? = some (some (V.ref p))) (hρ : ρ[i]? = some (some (MB.Sl.ow t))) (hp : H p = some o) (mu : Mut (some o)) (r : Rp G (upd H p o') (.ref p) u) :
    ER G H0 (upd H p o') σ (ρ.set i (some (.sh u))) := by
  have sy := stay_upd (o' := o') hp mu
  have hlt : i < ρ.length := (List.getElem?_eq_some_iff.mp hρ).1
  refine ⟨by simp [h.len], fun j s e => ?_, fun j k t' u' n e1 e2 => ?_⟩
  · by_cases hj : j = i
    · subst hj
      rw [List.getElem?_set_self hlt] at e
      cases e
      exact ⟨_, hσ, _, rfl, r⟩
    · rw [List.getElem?_set_ne (Ne.symm hj)] at e
      obtain ⟨x, h1, h2⟩ := h.sl j s e
      refine ⟨x, h1, ?_⟩
      cases s with
      | sh t => obtain ⟨y, e1, r⟩ := h2; exact ⟨y, e1, MB.Rep.mono List.prefix_rfl sy r⟩
      | ow t' =>
        obtain ⟨q, z, e1, n, g0, hq, m, c'⟩ := h2
        refine ⟨q, z, e1, n, g0, ?_, m, MB.Con.mono List.prefix_rfl sy c'⟩
        rw [upd_ne fun z => ?_]
        · exact hq
        · subst z e1
          exact h.apart j i t' t hj e hρ (h1.trans hσ.symm)
  · have at' : ∀ k u', (ρ.set i (some (MB.Sl.sh u)))[k]? = some (some (MB.Sl.ow u')) → ρ[k]? = some (some (MB.Sl.ow u')) := fun k u' e => by
      by_cases hk : k = i
      · rw [hk, List.getElem?_set_self hlt] at e; cases e
      · rw [List.getElem?_set_ne (Ne.symm hk)] at e
        exact e
    exact h.apart j k _ _ n (at' j t' e1) (at' k u' e2)
end
section
variable {G : Gs} {H0 : Hp} {X : Cx} {N : List Str} {sc : Scope} {n : Nat} {a bb d e : Expr} {A B D : Env → M T} {pos p : Pos} {st : Stmt} {rest : List Stmt} {m m' : Env → M Fl}
def popW (w : T) (kvs : List (T × T)) : Option (T × List (T × T)) := if (w.key.isSome && kvs.all fun q => q.1.key.isSome) = true then (MB.dget kvs w).map fun v => (v, MB.ddrop kvs w) else none
theorem drop_rep {H : Hp} {k : Key} {kt : T} (hk : kt.key = some k) : ∀ {vs : List (Key × V)} {ts : List (T × T)}, MB.RepD G.g G.al H vs ts → MB.RepD G.g G.al H (dropK vs k) (MB.ddrop ts kt)
  | _, _, .nil => .nil
  | _, _, .cons (k := k') (tk := tk) h a b => by
    unfold dropK MB.ddrop
    have ih := drop_rep hk b
    unfold dropK MB.ddrop at ih
    rw [List.filter_cons, List.filter_cons]
    by_cases e : k' = k
    · subst e
      have e2 : tk.tk = kt.tk := (MB.tk_k.mpr h).trans (MB.tk_k.mpr hk).symm
      simp only [e2, ne_eq, not_true_eq_false, decide_false, Bool.false_eq_true, if_false]
      exact ih
    · have e2 : ¬ tk.tk = kt.tk := fun z => by
        rw [MB.tk_k.mpr h, MB.tk_k.mpr hk] at z
        injection z with z
        injection z with z
        exact e z
      simp only [e, e2, ne_eq, not_false_eq_true, decide_true, if_true]
      exact .cons h a ih
theorem dropK_len {κ : Type} [DecidableEq κ] {vs : List (κ × V)} {k : κ} : (dropK vs k).length ≤ vs.length := List.length_filter_le ..
/-- the pop's reading -/
theorem pop_red {x : Str} {W : Env → M T} {K : Env → T → List (T × T) → M Fl} {σ : L2.St} {H : Hp} {ρ : Env} {b i : Nat} {Kk : Fl → Nat → Hp → Prop} (er : ER G H0 H σ ρ) (k : Stp G H0 H) (S : St G b H)
    (r : RunS G H0 H (bnd (opt (ownD ρ i)) fun kvs => bnd (W ρ) fun w => bnd (opt (popW w kvs)) fun q => K (ρ.set i (some (.ow (.dct q.2)))) q.1 q.2) b Kk) {Q : VK}
    (hQ : ∀ p v t us vs b' H', ER G H0 H' σ (ρ.set i (some (.ow (.dct us)))) → Stp G H0 H' → St G b' H' → p ∉ G.al → N0 H0 p → σ[i]? = some (some (V.ref p)) → H' p = some (.dK vs) → MB.RepD G.g G.al H' vs us → vs.length ≤ sizeLine → Rp G H' v t → (us.all fun q => q.1.key.isSome) = true →
      RunS G H0 H' (K (ρ.set i (some (.ow (.dct us)))) t us) b' Kk → Q v H') : tDPop1 (tVar i) (tEv G H0 W) σ H Q := by
  obtain ⟨kvs, e1, r⟩ := r.bnd.opt k S
  obtain ⟨p, o, hσ, np, h0, hp, mu, cn, hρ⟩ := er.own (ownD_ow e1)
  have hd : IsD H p := by
    cases cn with
    | dK z rd => exact .inl ⟨_, .inl hp⟩
    | dT z ne rd => exact .inr ⟨_, .inl hp⟩
  refine ⟨_, hσ, p, rfl, hd, ρ, b, er, S, (r.ex k S).imp fun w b1 H1 s1 S1 r1 y ry => ?_⟩
  obtain ⟨q, eq, r2⟩ := r1.bnd.opt (k.trans s1) S1
  unfold popW at eq
  split at eq
  · rename_i hc
    rw [Bool.and_eq_true] at hc
    obtain ⟨ky, hky⟩ := Option.isSome_iff_exists.mp hc.1
    obtain ⟨v, hv, rfl⟩ := Option.map_eq_some_iff.mp eq
    have er1 := er.mono s1 S
    obtain ⟨q', vs, hσ', np', h0', hq, rd, z, hρ'⟩ := er1.ownD e1 hc.2
    rw [hσ] at hσ'
    cases hσ'
    have ey := MB.key_rep hky (RB.tv (G := G) (H := H1) (.inl ry))
    obtain ⟨u, e3, e4⟩ := (MB.dget_k rd hky).1 v hv
    have sy := stay_upd (o' := .dK (dropK vs ky)) hq trivial
    have rd2 := MB.RepD.mono List.prefix_rfl sy (drop_rep hky rd)
    have hl : (dropK vs ky).length ≤ sizeLine := Nat.le_trans dropK_len z
    refine ⟨vs, ky, u, hq, ey, e3, hQ p u v _ _ b1 _ (er1.change hσ hρ np h0 hq trivial trivial (.dK hl rd2)) (stp_upd (k.trans s1) h0) (S1.upd np (nt1 hq nt_d)) np h0 hσ upd_same rd2 hl (MB.Rep.mono List.prefix_rfl sy e4) ?_ (r2.at sy)⟩
    rw [List.all_eq_true]
    intro q hq
    exact List.all_eq_true.mp hc.2 q (List.mem_filter.mp hq).1
  · cases eq
def sDPop (i : Nat) (W : Env → M T) : Env → M Fl := fun ρ => bnd (opt (ownD ρ i)) fun kvs => bnd (W ρ) fun w => bnd (opt (popW w kvs)) fun q => ret (.nx (ρ.set i (some (.ow (.dct q.2)))))
theorem s_dpop {i : Nat} {x : Str} {apos cpos : Pos} {W : Env → M T} (c : Ctx G N sc n X) (hi : N[i]? = some x) (hv : Vis sc x) (ha : PE X e (tEv G H0 W)) (hm : M1 X (.Name x p) "pop" apos e cpos := by exact ⟨rfl, rfl, rfl, rfl⟩)
    (hs : swapsWith (.Call (.Attribute (.Name x p) "pop" apos) [e] [] cpos) none pos.line X.env = pure false := by rfl) (hd : (x == ("__debug__" : Str)) = false := by decide) (hcd : (x == ("__classdict__" : Str)) = false := by decide) :
    PS X (.Expr (.Call (.Attribute (.Name x p) "pop" apos) [e] [] cpos) pos) (tSv G H0 (sDPop i W)) :=
  PSimp (ps_expr (pos := pos) (pe_dpop1 (pe_var (i := i) (by rw [c.hN]; exact hi) (by rw [c.hsc]; exact hv) hd hcd) ha hm) hs) fun D σ H ⟨ρ, b, er, k, S, r⟩ =>
    pop_red (x := x) (K := fun ρ' _ _ => ret (.nx ρ')) er k S r fun p v t us vs b' H' er' k' S' np h0 hσ hp rd z rv hall q => RunS.ret (K := post G H0 D) k' S' q σ er'
/-! ### d[k] = d.pop(w) -/
def isTxt : T → Bool
  | .str _ => true
  | _ => false
def oddK : T → Bool
  | .non => true
  | .tup [] => true
  | _ => false
theorem oddK_is {k : T} (h : oddK k = true) : k = .non ∨ k = .tup [] := by
  cases k with
  | non => exact .inl rfl
  | tup xs => cases xs with
    | nil => exact .inr rfl
    | cons x y => cases h
  | _ => cases h
def putX (k v : T) (us : List (T × T)) : Option MB.Sl := if us.length < sizeLine then (if k.key.isSome = true then some (.ow (.dct (MB.dput us k v))) else if (oddK k && us.all fun q => isTxt q.1) = true then some (.sh (.dct (us ++ [(k, v)]))) else none) else none
def sDPutX (K : PySem.W.Frag) (td ty tv : TE) : TS := fun D σ H => tv σ H fun v H1 => td σ H1 fun x H2 => ty σ H2 fun y H3 => ∃ a kvs, x = .ref a ∧ H3 a = some (.dK kvs) ∧ kvs.length < sizeLine ∧
  ((∃ k, y = kV k ∧ D.nx σ (upd H3 a (.dK (putK kvs k v)))) ∨ ((y = .non ∨ ∃ t, y = .ref t ∧ SqT K H3 t []) ∧ (∀ q ∈ kvs, ∃ x, q.1 = Sum.inr x) ∧ ∀ o, (a == sysModules) = false → MB.OddAt o ((kvs.map fun q => kV q.1) ++ [y]) (kvs.map (·.2) ++ [v]) → D.nx σ (upd H3 a (.frz o (Od.AnyO a)))))
theorem ps_dputX {o i value : Expr} {pos' : Pos} {td ty tv : TE} (hu : X.A.units + 8 < cLine) (ho : PE X o td) (hi : PE X i ty) (hv : PE X value tv) (hs : swapsWith value (some (.Subscript o i pos')) pos.line X.env = pure false) :
    PS X (.Assign [.Subscript o i pos'] value pos) (sDPutX X.K td ty tv) := by
  refine ⟨fun pins s σ H D I h => ?_⟩
  refine wpAny_Assign_Subscript (thn (hv.run pins s σ H _ I h) fun r s1 ⟨v, H1, I1, rv, q1⟩ => thn (ho.run pins s1 σ H1 _ I1 q1) fun u s2 ⟨x, H2, I2, rx, q2⟩ => thn (hi.run pins s2 σ H2 _ I2 q2) fun iv s3 ⟨y, H3, I3, ry, a, kvs, ex, g, hl, q3⟩ => ?_) hs
  subst ex
  obtain rfl : u = Value.ref a := rx
  rcases q3 with ⟨k, rfl, q3⟩ | ⟨hy, hk, q3⟩
  · exact d_setItem (by omega) I3 (DPut.k g hl) ry rv fun s4 I4 => ⟨σ, _, I4, q3⟩
  · exact Od.d_putOdd hu I3 g hk hy ry rv (fun s4 o I4 e od => ⟨σ, _, I4, q3 o e od⟩) hl
def sPopPut (i : Nat) (W K : Env → M T) : Env → M Fl := fun ρ => bnd (opt (ownD ρ i)) fun kvs => bnd (W ρ) fun w => bnd (opt (popW w kvs)) fun q => bnd (K (ρ.set i (some (.ow (.dct q.2))))) fun k => opt ((putX k q.1 q.2).map fun s => .nx ((ρ.set i (some (.ow (.dct q.2)))).set i (some s)))
theorem txt_keys {H : Hp} : ∀ {vs : List (Key × V)} {ts : List (T × T)}, MB.RepD G.g G.al H vs ts → (ts.all fun q => isTxt q.1) = true → ∀ q ∈ vs, ∃ x, q.1 = Sum.inr x
  | _, _, .nil, _ => fun q hq => nomatch hq
  | _, _, .cons (k := k') (tk := tk) h a b, hs => fun q hq => by
    rw [List.all_cons, Bool.and_eq_true] at hs
    rcases List.mem_cons.mp hq with rfl | hq
    · cases tk with
      | str x => cases h; exact ⟨x, rfl⟩
      | _ => cases hs.1
    · exact txt_keys b hs.2 q hq
theorem s_popPut {i : Nat} {x : Str} {key : Expr} {pos' p2 apos cpos : Pos} {K W : Env → M T} (c : Ctx G N sc n X) (hi : N[i]? = some x) (hv : Vis sc x) (hk : PE X key (tEv G H0 K)) (ha : PE X e (tEv G H0 W)) (hm : M1 X (.Name x p2) "pop" apos e cpos := by exact ⟨rfl, rfl, rfl, rfl⟩)
    (hs : swapsWith (.Call (.Attribute (.Name x p2) "pop" apos) [e] [] cpos) (some (.Subscript (.Name x p) key pos')) pos.line X.env = pure false := by rfl) (hd : (x == ("__debug__" : Str)) = false := by decide) (hcd : (x == ("__classdict__" : Str)) = false := by decide) :
    PS X (.Assign [.Subscript (.Name x p) key pos'] (.Call (.Attribute (.Name x p2) "pop" apos) [e] [] cpos) pos) (tSv G H0 (sPopPut i W K)) :=
  PSimp (ps_dputX (by have := c.hu; omega) (pe_var (i := i) (by rw [c.hN]; exact hi) (by rw [c.hsc]; exact hv) hd hcd) hk (pe_dpop1 (pe_var (i := i) (by rw [c.hN]; exact hi) (by rw [c.hsc]; exact hv) hd hcd) ha hm) hs) fun D σ H ⟨ρ, b, er, k, S, r⟩ => by
    refine pop_red (x := x) (K := fun ρ' v us => bnd (K ρ') fun k => opt ((putX k v us).map fun s => .nx (ρ'.set i (some s)))) er k S r fun p v t us vs b1 H1 er1 k1 S1 np h0 hσ hp rd z rv hall r1 => ?_
    refine ⟨_, hσ, _, b1, er1, S1, (r1.ex k1 S1).imp fun kt b2 H2 s2 S2 r2 y ry => ?_⟩
    obtain ⟨f, ef, _⟩ := r2.opt (k1.trans s2) S2
    obtain ⟨sl, es, rfl⟩ := Option.map_eq_some_iff.mp ef
    have hp2 := keepO s2 np hp
    have er2 := er1.mono s2 S1
    have rd2 := MB.RepD.mono List.prefix_rfl (s2.stay S1) rd
    have rv2 := rv.mono s2 S1
    have hlt : i < ρ.length := by
      have := er1.len
      rw [List.length_set] at this
      exact this ▸ (List.getElem?_eq_some_iff.mp hσ).1
    have hρ : (ρ.set i (some (MB.Sl.ow (.dct us))))[i]? = some (some (.ow (.dct us))) := List.getElem?_set_self hlt
    unfold putX at es
    split at es
    · rename_i hl
      have hl' : vs.length < sizeLine := by rw [rd.length]; exact hl
      refine ⟨p, vs, rfl, hp2, hl', ?_⟩
      split at es
      · rename_i hks
        cases es
        obtain ⟨ky, hky⟩ := Option.isSome_iff_exists.mp hks
        have sy := stay_upd (o' := .dK (putK vs ky v)) hp2 trivial
        have ey := MB.key_rep hky (RB.tv (G := G) (H := H2) (.inl ry))
        obtain ⟨f2, ef2, q2⟩ := (r2.at sy).opt (stp_upd (k1.trans s2) h0) (S2.upd np (nt1 hp2 nt_d))
        rw [ef] at ef2
        cases ef2
        exact .inl ⟨ky, ey, q2 _ (er2.change hσ hρ np h0 hp2 trivial trivial (.dK (putK_len hl') (MB.RepD.mono List.prefix_rfl sy (put_rep hky rv2 rd2))))⟩
      · split at es
        · rename_i hn ho
          rw [Bool.and_eq_true] at ho
          have ho : (kt = .non ∨ kt = .tup []) ∧ _ := ⟨oddK_is ho.1, ho.2⟩
          cases es
          have hy : y = .non ∨ ∃ t, y = .ref t ∧ SqT X.K H2 t [] := by
            rcases ho.1 with rfl | rfl
            · exact .inl (RB.tv (G := G) (H := H2) (.inl ry)).non
            · obtain ⟨q, ws, e, h, rl⟩ := MB.RepV.tup (.inl ry)
              cases rl
              rw [← c.K] at h
              exact .inr ⟨q, e, h⟩
          refine .inr ⟨hy, txt_keys rd2 ho.2, fun o esm od => ?_⟩
          have sy := stay_upd (o' := .frz o (Od.AnyO p)) hp2 trivial
          obtain ⟨f2, ef2, q2⟩ := (r2.at sy).opt (stp_upd (k1.trans s2) h0) (S2.upd np (nt1 hp2 nt_d))
          rw [ef] at ef2
          cases ef2
          refine q2 _ (er2.toSh hσ hρ hp2 trivial (.odd upd_same esm od ?_ ?_ ?_))
          · rw [List.any_append, Bool.or_eq_true]
            right
            rcases ho.1 with rfl | rfl <;> rfl
          · rw [List.map_append]
            exact (MB.RepL.mono List.prefix_rfl sy (MB.repD_ks rd2)).append (.cons (MB.Rep.mono List.prefix_rfl sy ry) .nil)
          · rw [List.map_append]
            exact (MB.RepL.mono List.prefix_rfl sy (MB.repD_vs rd2)).append (.cons (MB.Rep.mono List.prefix_rfl sy rv2) .nil)
        · cases es
    · cases es
end
end Wp

end -- W14
section -- W15
set_option Elab.async false
set_option linter.all false
set_option maxRecDepth 100000
set_option maxHeartbeats 2000000
/-! {k: v}. -/
namespace Wp
open PySem PySem.Spec L2
/-- {None: v} -/
def tDispN (tv : TE) : TE := fun σ H Q => ∀ p, H p = none → tv σ (upd H p (.dK [])) fun y H2 => H2 p = some (.dK []) ∧ ∀ o, (p == sysModules) = false → MB.OddAt o [.non] [y] → Q (.ref p) (upd H2 p (.frz o (Od.AnyO p)))
theorem pe_dispN {X : Cx} {pos p2 : Pos} {j : Nat} {v : Expr} {tv : TE} (hv : PE X v tv) : PE X (.Dict [some (.Constant .none j p2)] [v] pos) (tDispN tv) := by
  refine ⟨fun pins s σ H Q I q => ?_⟩
  have hn := I.hok.fresh (Nat.le_refl s.heap.objs.size)
  have I1 := I.laid (a := s.heap.objs.size) (o := .dK []) (h' := s.heap.push { cls := .type "dict", data := .dict #[] }) (t' := s.toks) (fun _ _ q => Heap.get?_push_of_some _ q) (Nat.le_refl _) (dk_empty s.heap I.big)
  refine wpAny_Dict_walk (knd := leafKind X.prog X.w) rfl rfl (by simp) (by show 1 ≤ 15; omega) (thn ((pps_cons (pe_non (j := j) (pos := p2)) hv (pps_nil (pos := pos))).run pins _ σ _
    (fun ps H2 => match ps with
      | [(V.non, y)] => H2 s.heap.objs.size = some (.dK []) ∧ ∀ o, (s.heap.objs.size == sysModules) = false → MB.OddAt o [V.non] [y] → Q (.ref s.heap.objs.size) (upd H2 s.heap.objs.size (.frz o (Od.AnyO s.heap.objs.size)))
      | _ => False) I1 (q _ hn)) fun ws s2 ⟨ps, H2, I2, rel, q2⟩ => ?_)
  split at q2
  case h_2 => exact q2.elim
  rename_i y
  obtain ⟨e, q2⟩ := q2
  cases rel with
  | @cons a b as bs h1 t1 =>
    cases t1
    obtain ⟨b1, b2⟩ := b
    obtain ⟨r1, r2⟩ := h1
    cases (show b1 = Value.none from r1)
    obtain ⟨z, hd, vs0, r0, o, es, ep, ho, hx, hdd, hko, hp, hnd⟩ := dk_of I2.hok e
    cases r0
    have e0 : es = #[] := by
      have := hp.length
      simp at this
      exact Array.eq_empty_of_size_eq_zero (by simpa using this)
    subst e0
    refine ⟨[(.none, b2)], ⟨rfl, rfl, True.intro⟩, ⟨o, #[], ep, ho, hx, hdd, fun e he => absurd he (by simp), .nil, List.nodup_nil⟩, fun h' dd' hs => ?_⟩
    obtain ⟨o', es', ep', g1, g2, g3, _, g4, _⟩ := dd'
    have g4 : Pairs (leafKind X.prog X.w) es'.toList [(Leaf.none, b2)] := g4
    refine ⟨.ref s.heap.objs.size, _, d_write (ob := .frz o' (Od.AnyO s.heap.objs.size)) I2 (by rw [e]; exact True.intro) hs ⟨o', g1⟩ ⟨g1, ⟨o', g1⟩, ⟨o', g1⟩, fun h1 h2 ⟨q, hq⟩ k => ⟨q, k q hq⟩⟩, rfl, q2 o' hd ⟨g2, es', ep', g3, ?_, ?_, ?_⟩⟩
    · obtain ⟨l⟩ := es'
      cases g4 with
      | @cons en _ _ _ k1 k2 k3 =>
        cases k3
        refine .cons ?_ .nil
        have k1 : Leaf.isOf .none en.key = true := k1
        show en.key = Value.none
        cases q : en.key <;> rw [q] at k1 <;> first | rfl | cases k1
    · obtain ⟨l⟩ := es'
      cases g4 with
      | @cons en _ _ _ k1 k2 k3 =>
        cases k3
        exact .cons (by show L2.RelV y en.val; rw [k2]; exact r2) .nil
    · have := g4.length
      simp at this
      rw [this, sizeLine_eq]; omega
section
variable {G : Gs} {H0 : Hp} {X : Cx} {N : List Str} {sc : Scope} {n : Nat} {a bb d e : Expr} {A B D : Env → M T} {pos p : Pos} {σ : L2.St} {H : Hp}
def mDispN (B : Env → M T) : Env → M T := fun ρ => bnd (B ρ) fun v => ret (.dct [(.non, v)])
theorem w_dispN {p2 : Pos} {j : Nat} (hb : PE X bb (tEv G H0 B)) : PE X (.Dict [some (.Constant .none j p2)] [bb] pos) (tEv G H0 (mDispN B)) :=
  (pe_dispN (pos := pos) (p2 := p2) (j := j) hb).imp fun σ H Q ⟨ρ, b, er, S, r⟩ p hp => by
    have sm := same_new (o := .dK []) hp
    have np := S.new hp
    refine ⟨ρ, b, er.mono (.same sm) S, S.same sm, Run.imp (Run.hide (D := p) (x := B ρ) (f := fun v => ret (MB.T.dct [(.non, v)])) (by rw [hide_upd, hide_none hp]; exact r)) fun v b2 H2 s2 S2 r2 y ry => ?_⟩
    have hp2 := keepO s2 np upd_same
    refine ⟨hp2, fun o esm od => ?_⟩
    have sy := stay_upd (o' := .frz o (Od.AnyO p)) hp2 trivial
    have S3 : St G b2 (upd H2 p (.frz o (Od.AnyO p))) := S2.upd np (nt1 hp2 nt_d)
    have k3 : Stp G (hide p H2) (upd H2 p (.frz o (Od.AnyO p))) := fun b o' e _ _ _ => by
      have ne : b ≠ p := fun z => by subst z; rw [hide_at] at e; cases e
      rw [upd_ne ne]; rw [hide_ne ne] at e; exact e
    exact (Run.ret S3 (r2.at k3)) _ (.odd upd_same esm od rfl (.cons .non .nil) (.cons (MB.Rep.mono List.prefix_rfl sy ry) .nil))
def mDisp1 (A B : Env → M T) : Env → M T := fun ρ => bnd (A ρ) fun k => bnd (B ρ) fun v => opt (if k.key.isSome = true then some (.dct [(k, v)]) else none)
theorem w_disp1 (ha : PE X a (tEv G H0 A)) (hb : PE X bb (tEv G H0 B)) : PE X (.Dict [some a] [bb] pos) (tEvW G H0 (mDisp1 A B)) :=
  (pe_disp (pos := pos) (pps_cons ha hb pps_nil) rfl rfl (by simp) (by show 1 ≤ 15; omega)).imp fun σ H Q ⟨ρ, b, er, S, r⟩ p hp => by
    have sm := same_new (o := .dK []) hp
    have np := S.new hp
    have er1 := er.mono (.same sm) S
    refine ⟨ρ, b, er1, S.same sm, Run.imp (Run.hide (D := p) (x := A ρ) (f := fun k => bnd (B ρ) fun v => opt (if k.key.isSome = true then some (MB.T.dct [(k, v)]) else none)) (by rw [hide_upd, hide_none hp]; exact r)) fun k b1 H1 s1 S1 r1 x rx => ?_⟩
    refine ⟨ρ, b1, er1.mono s1 (S.same sm), S1, Run.imp (Run.hide (D := p) r1) fun v b2 H2 s2 S2 r2 y ry => ?_⟩
    have hp2 := keepO s2 np (keepO s1 np upd_same)
    have rx2 := rx.mono s2 S1
    have Sh := S2.hide np (nt1 hp2 nt_d)
    obtain ⟨t, et, q⟩ := r2.opt Sh
    split at et
    · rename_i hk
      cases et
      obtain ⟨ky, hky⟩ := Option.isSome_iff_exists.mp hk
      have ey := MB.key_rep hky (RB.tv (G := G) (H := H2) (.inl rx2))
      have sy := stay_upd (o' := .dK [(ky, y)]) hp2 trivial
      refine ⟨hp2, [(ky, y)], by rw [ey]; rfl, by show 1 ≤ 15; omega, q _ _ (fun b o' e => ?_) (.inl ⟨rfl, p, .dK [(ky, y)], rfl, np, hide_at, upd_same, trivial, .dK (by show 1 ≤ _; rw [sizeLine_eq]; omega) (.cons hky (MB.Rep.mono List.prefix_rfl sy ry) .nil)⟩)⟩
      have ne : b ≠ p := fun z => by subst z; rw [hide_at] at e; cases e
      show upd H2 p (.dK [(ky, y)]) b = some o'
      rw [upd_ne ne]; rw [hide_ne ne] at e; exact e
    · cases et
end
end Wp

end -- W15
section -- W16
set_option Elab.async false
set_option linter.all false
set_option maxRecDepth 100000
set_option maxHeartbeats 2000000
/-! Calls by keywords alone; min, max of two; repr of bools. -/
namespace Wp
open PySem PySem.Spec L2
/-- a def called by the keywords ks alone; perm: in the parameters' order -/
structure FnP (g : MB.Gx) (x : Str) (ks : List Str) (perm : ∀ α : Type, List α → List α) (lv : Nat) (m : List T → M T) : Prop where
  ex : ∃ (f : Addr) (fd : FuncData) (ps : List Str), Gd.FnG g.prog g.w g.K g.mg g.base CX0 lv f fd ps (spW g ks.length m) ∧ g.mg x = some (.ref f) ∧ PySem.W.keepIn g.K (.ref f) = true ∧ KBn g.K fd ps 0 ks (fun _ ws => perm _ ws) (fun _ zs => perm _ zs)
def permI (α : Type) (l : List α) : List α := l
def perm2 (α : Type) : List α → List α
  | [a, b] => [b, a]
  | l => l
theorem vals_p2 {vs : List V} {us : List Value} (r : Vals vs us) : Vals (perm2 V vs) (perm2 Value us) := by
  cases r with
  | nil => exact .nil
  | cons a r =>
    cases r with
    | nil => exact .cons a .nil
    | cons b r =>
      cases r with
      | nil => exact .cons b (.cons a .nil)
      | cons c r => exact .cons a (.cons b (.cons c r))
theorem fnP_body {g : MB.Gx} {x : Str} {st : Stmt} {f : Addr} {fd : FuncData} {N ps ks : List Str} {k : Nat} {mb : Env → M Fl} {perm : ∀ α : Type, List α → List α} (hp : ∀ {vs : List V} {us : List Value}, Vals vs us → Vals (perm V vs) (perm Value us)) (hpl : ps.length = ks.length) (F : Dr.At g.K g.mg x st ps f fd) (S : FnScope N ps (defScope st))
    (hb : ∀ (kV doc pm : Value) (an : Option Addr) (cdv ct : Value) (ws : List Value), ws.length = ks.length → bindArgs (PySem.W.fnOf x x (defArgs st) (defBody st) (defScope st) .none kV doc pm an cdv ct) ⟨[], ks.zip ws⟩ = pure (ps.zip (perm Value ws)))
    (body : ∀ (G : Gs) (cdv : Value) (A : Around) (outer : List PySem.Env) (s : Shared) (H : Hp) (E : XK), G.g = g → Ctx G N (defScope st) k (bodyX g N x st f cdv A outer s H E) → PSs (bodyX g N x st f cdv A outer s H E) (defBody st) (tSv G H mb)) :
    FnP g x ks perm (k + 1) (runW N.length mb) := by
  refine ⟨f, fd, ps, Gd.of_body F.fn S (fun vs H Q E h => by rw [hpl]; exact h.1) (fun cdv A outer s H vs Q E fr hr h => ?_), F.m, F.fn.kp, ⟨fun s us ws _ l1 l2 => ?_, fun r1 r2 => hp r2⟩⟩
  · obtain ⟨_, a, L, C, ts, b, rl, S', r⟩ := h
    exact ⟨_, body ⟨g, a, L, C⟩ cdv A outer s H E rfl ⟨rfl, rfl, rfl, rfl, rfl, rfl, rfl, rfl, S.nd, hr, fr⟩, body_red N rl S' r⟩
  · obtain ⟨oc, od, kV, doc, pm, an, cdv, ct, osl, rfl, lk, hcd⟩ := F.fn.ex
    cases us with
    | nil => exact .of_eq (hb kV doc pm an cdv ct ws l2)
    | cons u us => cases l1
section
variable {G : Gs} {H0 : Hp} {X : Cx} {N : List Str} {sc : Scope} {n : Nat} {a bb d e : Expr} {es : List Expr} {A B D : Env → M T} {As : Env → M (List T)} {pos p : Pos} {σ : L2.St} {H : Hp}
def mCallP (perm : ∀ α : Type, List α → List α) (m : List T → M T) (As : Env → M (List T)) : Env → M T := fun ρ => bnd (As ρ) fun ts => m (perm T ts)
theorem w_callP {x : Str} {lv : Nat} {ks : List Str} {perm : ∀ α : Type, List α → List α} {mf : List T → M T} {kws : List Keyword} (c : Ctx G N sc n X) (F : FnP G.g x ks perm lv mf) (hl : lv ≤ n) (hg : Gl X x) (hk : PK X kws (tAv G H0 ks.length As))
    (hr : ∀ {H : Hp} {vs : List V} {ts : List T}, RpL G H vs ts → RpL G H (perm V vs) (perm T ts)) (hlen : ∀ vs : List V, (perm V vs).length = vs.length)
    (hall : (backToKw pos (keywordEach kws X.env)).all (·.1.isSome) = true := by rfl) (hks : (backToKw pos (keywordEach kws X.env)).filterMap (·.1) = ks := by rfl)
    (hdb : (x == ("__debug__" : Str)) = false := by decide) (hpl : ((backTo pos (starEach [] X.env)).any (·.1) || (backToKw pos (keywordEach kws X.env)).any (·.1.isNone)) = false := by rfl) :
    PE X (.Call (.Name x p) [] kws pos) (tEv G H0 (mCallP perm mf As)) := by
  obtain ⟨f, fd, ps, F, h1, h2, h3⟩ := F.ex
  rw [← c.prog, ← c.w, ← c.K, ← c.mg, ← c.base] at F
  rw [← c.mg] at h1
  rw [← c.K] at h2 h3
  refine ⟨fun pins s σ H Q I ⟨ρ, b, er, S, r⟩ => ?_⟩
  refine wpAny_Call_Name_kw (ld_glob I hg h1 ?_ hdb)
  refine PySem.W.callWith_KW0 (h₀ := X.base) I.ok.mod.kin h2 hall ?_ hpl
  refine thn (hk.run pos pins s σ H (fun zs H1 => ∃ ts b1, RpL G H1 zs ts ∧ zs.length = ks.length ∧ St G b1 H1 ∧ Run G H1 (mf (perm T ts)) b1 fun t _ H' => ∀ v, Rp G H' v t → Q v H') I ⟨ρ, b, er, S, r.bnd.imp fun ts b1 H1 s1 S1 r1 vs rv hl => ⟨ts, b1, rv, hl, S1, r1⟩⟩) fun ws s2 ⟨zs, H2, I2, rz, ts, b1, rl, hlz, S1, r1⟩ => ⟨I2.kIn, ?_⟩
  rw [hks]
  have hps : (perm V zs).length = ks.length := (hlen zs).trans hlz
  exact run_fnNG (Q := Q) (us := []) (ws := ws) (vs := []) (zs := zs) (E := E0) F c.free (c.room.mono hl) h3 pass0 I2 .nil rz rfl hlz ⟨hps, G.a, G.L, G.C, perm T ts, b1, hr rl, S1, r1⟩
theorem p2_rep {H : Hp} {vs : List V} {ts : List T} (r : RpL G H vs ts) : RpL G H (perm2 V vs) (perm2 T ts) := by
  cases r with
  | nil => exact .nil
  | cons a r =>
    cases r with
    | nil => exact .cons a .nil
    | cons b r =>
      cases r with
      | nil => exact .cons b (.cons a .nil)
      | cons c r => exact .cons a (.cons b (.cons c r))
theorem p2_len : ∀ vs : List V, (perm2 V vs).length = vs.length
  | [] => rfl
  | [_] => rfl
  | [_, _] => rfl
  | _ :: _ :: _ :: _ => rfl
/-! ### min, max -/
def mm2 (f : Int → Int → Int) : List T → Option T
  | [.int i, .int j] => some (.int (f i j))
  | _ => none
def mMM (f : Int → Int → Int) (As : Env → M (List T)) : Env → M T := fun ρ => bnd (As ρ) fun ts => opt (mm2 f ts)
def maxI (i j : Int) : Int := if j > i then j else i
def minI (i j : Int) : Int := if j < i then j else i
theorem mm_red {f : Int → Int → Int} {σ : L2.St} {H : Hp} {Q : VK} (q : tEv G H0 (mMM f As) σ H Q) : tAv G H0 2 As σ H fun vs H1 => ∃ i j, vs = [.int i, .int j] ∧ Q (.int (f i j)) H1 := by
  obtain ⟨ρ, b, er, S, r⟩ := q
  refine ⟨ρ, b, er, S, r.bnd.imp fun ts b1 H1 s1 S1 r1 vs rv _ => ?_⟩
  obtain ⟨t, e, k⟩ := r1.opt S1
  unfold mm2 at e
  split at e
  · rename_i i j
    cases e
    cases rv with
    | cons r1 rv =>
      cases rv with
      | cons r2 rv =>
        cases rv
        exact ⟨i, j, by rw [RB.int (G := G) (H := H1) (.inl r1), RB.int (G := G) (H := H1) (.inl r2)], k _ (.int _)⟩
  · cases e
theorem w_max (c : Ctx G N sc n X) (hg : Gl X "max") (hm : X.mg "max" = none) (ha : PA X (e :: es) (tAv G H0 2 As)) (he : starEach (e :: es) X.env = (false, eval e X.env) :: starEach es X.env := by rfl) (hpl : (backTo pos (starEach es X.env)).any (·.1) = false := by rfl) :
    PE X (.Call (.Name "max" p) (e :: es) [] pos) (tEv G H0 (mMM maxI As)) := (pe_callB (call_max2 c.calm) hg hm (by decide +kernel) ha (by decide) (by decide) he hpl).imp fun σ H Q q => mm_red q
theorem w_min (c : Ctx G N sc n X) (hg : Gl X "min") (hm : X.mg "min" = none) (ha : PA X (e :: es) (tAv G H0 2 As)) (he : starEach (e :: es) X.env = (false, eval e X.env) :: starEach es X.env := by rfl) (hpl : (backTo pos (starEach es X.env)).any (·.1) = false := by rfl) :
    PE X (.Call (.Name "min" p) (e :: es) [] pos) (tEv G H0 (mMM minI As)) := (pe_callB (call_min2 c.calm) hg hm (by decide +kernel) ha (by decide) (by decide) he hpl).imp fun σ H Q q => mm_red q
/-! ### a + b, a an int or a bool -/
def addT : T → T → Option T
  | .int i, .int j => some (.int (i + j))
  | .bl b, .int j => some (.int ((if b = true then (1 : Int) else 0) + j))
  | _, _ => none
theorem op_addB : OpR X (binaryOp .Add) (rF G addT) := fun pins s σ H v w u u' Q I rv rw' ⟨x, y, t, b, S, r1, r2, hz, q⟩ => by
  unfold addT at hz
  split at hz
  · cases hz
    exact op_add pins s σ H v w u u' Q I rv rw' ⟨_, _, r1.int, r2.int, q H _ (Same.refl _) (ouA rfl (.int _))⟩
  · rename_i b1 j
    cases hz
    rw [r1.tv.bl] at rv
    rw [r2.int] at rw'
    cases rv
    obtain ⟨t, rfl⟩ := rw'
    exact PySem.IntBool.add_bool_int ⟨.int _, H, I.tok _, ⟨_, rfl⟩, q H _ (Same.refl _) (ouA rfl (.int _))⟩
  · cases hz
def mAddB (A B : Env → M T) : Env → M T := fun ρ => bnd (A ρ) fun x => bnd (B ρ) fun y => opt (addT x y)
theorem w_addb (ha : PE X a (tEvB G H0 A)) (hb : PE X bb (tEvB G H0 B)) : PE X (.BinOp a .Add bb pos) (tEvW G H0 (mAddB A B)) := w_op2 op_addB ha hb
/-! ### repr of a list of two bools -/
def reprW : T → Option T
  | .lst [.bl b, .bl c] => some (.str (PyData.list [.bool b, .bool c]).shown)
  | _ => none
theorem sm2 (b c : Bool) : Gd.Sm (PyData.list [.bool b, .bool c]) := by cases b <;> cases c <;> exact ⟨by decide +kernel, by decide +kernel, by decide +kernel, by decide +kernel⟩
theorem call_reprW (hg : Gd.Free X.A) (hu : X.A.units + 64 < cLine) (hs : Gd.HasSys X.K) : CallR X (.builtin "repr") (rF1 G reprW) := fun pins s σ H vs us Q I r ⟨v, x, t, b, ev, S, rb, e, k⟩ => by
  subst ev
  unfold reprW at e
  split at e
  · rename_i b1 b2
    cases e
    obtain ⟨a, vs, rfl, h, rl, _⟩ := rb.tv.lst
    cases rl with
    | cons r1 rl =>
      cases rl with
      | cons r2 rl =>
        cases rl
        cases (MB.RepV.bl (.inl r1))
        cases (MB.RepV.bl (.inl r2))
        exact Gd.reprOf hg hu hs pins s σ H _ us Q I r ⟨a, _, fun _ => True, rfl, .lst trivial h (.cons (.bl _) (.cons (.bl _) .nil)), sm2 b1 b2, k _ _ (Same.refl _) (ouA rfl (.str _))⟩
  · cases e
end
end Wp

end -- W16
section -- W18
set_option Elab.async false
set_option linter.all false
set_option maxRecDepth 100000
set_option maxHeartbeats 2000000
/-! x != {} of a dict. -/
namespace Wp
open PySem PySem.Spec L2
section
variable {G : Gs} {H0 : Hp} {X : Cx} {N : List Str} {sc : Scope} {n : Nat} {a bb d e : Expr} {A B D : Env → M T} {pos p : Pos}
def rNeE (G : Gs) : R2 := fun x y H Q => ∃ kvs, RB G H x (.dct kvs) ∧ (kvs.all fun q => q.1.key.isSome) = true ∧ RB G H y (.dct []) ∧ Q (.bl (!kvs.isEmpty)) H
theorem op_neE (hu : X.A.units < cLine) : OpR X (compareOp .NotEq) (rNeE G) := by
  intro pins s σ H x y v u Q I rx ry ⟨kvs, r1, hk, r2, q⟩
  obtain ⟨a1, ks, rfl, h1, rd, _⟩ := dctA r1 hk
  obtain ⟨a2, ls, rfl, h2, rd2, _⟩ := dctA r2 rfl
  cases rd2
  obtain rfl : v = Value.ref a1 := rx
  obtain rfl : u = Value.ref a2 := ry
  obtain ⟨_, ya, va, ra, da⟩ := dk_rd I.hok h1
  obtain ⟨_, yb, vb, rb, db⟩ := dk_rd I.hok h2
  cases rb
  have hl : ks.length = kvs.length := rd.length
  have hv : va.length = kvs.length := by rw [← hl]; exact (Paired.length ra).symm
  refine PySem.W.keq_ne (knd := mixKind X.prog X.w) (r := true) ya yb da db hu (fun e => ?_) (fin_bl I q ?_)
  · have e0 : va = [] := List.length_eq_zero_iff.mp e
    subst e0
    cases ra
    exact hits_all .nil .nil (fun p hp => nomatch hp)
  · cases kvs with
    | nil => simp at hv; simp [hv]
    | cons q qs => rw [show (va.length == ([] : List (Key × Value)).length) = false from by rw [hv]; rfl]; rfl
def neE (x y : T) : Option Bool := match x, y with
  | .dct kvs, .dct [] => if (kvs.all fun q => q.1.key.isSome) = true then some (!kvs.isEmpty) else none
  | _, _ => none
def mNeE (A B : Env → M T) : Env → M Bool := fun ρ => bnd (A ρ) fun x => bnd (B ρ) fun y => opt (neE x y)
theorem t_neE (c : Ctx G N sc n X) (ha : PE X a (tEvB G H0 A)) (hb : PE X bb (tEvB G H0 B)) (hm : behindInMarks .NotEq bb = false := by rfl) : PT X (.Compare a [.NotEq] [bb] pos) (tTv G H0 (mNeE A B)) := by
  refine PTimp (pt_cmpR (pos := pos) (op_neE (G := G) (by have := c.hu; omega)) ha hb hm) fun σ H Q ⟨ρ, b, er, S, r⟩ => ev2t er S r fun x y b' H' v w s S' rv rw' r' => ?_
  obtain ⟨j, hj, k⟩ := r'.opt S'
  unfold neE at hj
  split at hj
  · rename_i kvs
    split at hj
    · rename_i hk
      cases hj
      exact ⟨kvs, rv, hk, rw', _, rfl, k⟩
    · cases hj
  · cases hj
end
end Wp

end -- W18
section -- Fx4
set_option Elab.async false
set_option linter.all false
set_option maxRecDepth 100000
set_option maxHeartbeats 4000000
/-! What the module holds, further; a def that makes lambdas. -/
namespace Wp
open PySem PySem.Spec PyProof.Rows L2
structure Fy (g : MB.Gx) : Prop extends Fx g where
  f_set : g.mg "set" = none
  f_zip : g.mg "zip" = none
  f_min : g.mg "min" = none
  f_max : g.mg "max" = none
  f_repr : g.mg "repr" = none
  sys : Gd.HasSys g.K
/-- the def's code object and its table are told -/
def TabF (g : MB.Gx) (fd : FuncData) (x : Str) : Prop := ∀ (st : Stmt) (kV doc pm : Value) (an : Option Addr) (cdv ct : Value), fd = PySem.W.fnOf x x (defArgs st) (defBody st) (defScope st) .none kV doc pm an cdv ct →
  ∃ c P, LamX.TabB g.base g.mg c P ∧ cdv = .ref c ∧ (P, (envOfC x (defScope st) 0 0 cdv).qual ++ ("<lambda>" : Str)) ∈ g.tt ∧ ∀ p ∈ g.tt, p.1 = P → p.2 = (envOfC x (defScope st) 0 0 cdv).qual ++ ("<lambda>" : Str)
theorem fn_bodyT {g : MB.Gx} {x : Str} {st : Stmt} {f : Addr} {fd : FuncData} {N ps : List Str} {k : Nat} {mb : Env → M Fl} (F : Dr.At g.K g.mg x st ps f fd) (S : FnScope N ps (defScope st)) (tt : TabF g fd x)
    (body : ∀ (G : Gs) (cdv : Value) (A : Around) (outer : List PySem.Env) (s : Shared) (H : Hp) (E : XK), G.g = g → Ctx G N (defScope st) k (bodyX g N x st f cdv A outer s H E) → TbOk G (bodyX g N x st f cdv A outer s H E) → PSs (bodyX g N x st f cdv A outer s H E) (defBody st) (tSv G H mb)) :
    FnW g x ps.length (k + 1) (runW N.length mb) := by
  refine ⟨f, fd, ps, ⟨fun vs H Q E h => h.1, fun A outer s H args us vs Q E fr hr e0 hb r h => ?_⟩, F.m, F.fn.kp, F.b⟩
  obtain ⟨hl, a, L, C, ts, b, rl, S', rr⟩ := h
  obtain ⟨oc, od, kV, doc, pm, an, cdv, ct, osl, e, lk, hcd⟩ := F.fn.ex
  obtain ⟨c, P, t1, t2, t3, t4⟩ := tt st kV doc pm an cdv ct e
  subst e
  refine LamX.run_ofS lk hcd S hr e0 hb r hl fun hr' => ?_
  exact ⟨_, (body ⟨g, a, L, C⟩ cdv A outer s H E rfl ⟨rfl, rfl, rfl, rfl, rfl, rfl, rfl, rfl, S.nd, hr', fr⟩ ⟨c, P, t1, t2, t3, t4⟩).nox, body_red N rl S' rr⟩
end Wp

end -- Fx4
section -- P2
set_option Elab.async false
set_option linter.all false
set_option maxRecDepth 100000
set_option maxHeartbeats 4000000
namespace Wp
open PySem PySem.Spec PyProof.Rows L2
abbrev s_kind_of : Stmt := Dr.topS 14
abbrev n_kind_of : List Str := ["result"]
theorem sc_kind_of : FnScope n_kind_of ["result"] (defScope s_kind_of) := ⟨rfl, rfl, rfl, by decide +kernel, rfl, by decide +kernel, by decide +kernel⟩
def m_kind_of (d_is_result d_kind_here : List T → M T) : Env → M Fl := sSeq (sIf (mNotT (mTru (mCall d_is_result (aCons (mVar 0) (aNil))))) (sNev) (sNil)) (sRet (mCall d_kind_here (aCons (mVar 0) (aNil))))
theorem f_kind_of {g : MB.Gx} (TY : Fy g) {f : Addr} {fd : FuncData} (F : Dr.At g.K g.mg "kind_of" s_kind_of ["result"] f fd) {lv : Nat} {d_is_result d_kind_here : List T → M T} (C_is_result : FnW g "is_result" 1 lv d_is_result) (C_kind_here : FnW g "kind_here" 1 lv d_kind_here) : FnW g "kind_of" 1 (lv + 1) (runW 1 (m_kind_of d_is_result d_kind_here)) := by
  refine fn_body (N := n_kind_of) F sc_kind_of fun G cdv A outer s H E hg c => ?_
  subst hg
  have TX := TY
  exact (s_cons (s_if (t_not (t_any c (toB (w_call c C_is_result (Nat.le_refl _) rfl (a_cons (v_ 0 c) a_nil))))) (s_one s_nev) s_nil) (s_one (s_ret (w_call c C_kind_here (Nat.le_refl _) rfl (a_cons (v_ 0 c) a_nil)))))
abbrev s_is_same : Stmt := Dr.topS 16
abbrev n_is_same : List Str := ["one", "other", "kind", "name", "pair"]
theorem sc_is_same : FnScope n_is_same ["one", "other"] (defScope s_is_same) := ⟨rfl, rfl, rfl, by decide +kernel, rfl, by decide +kernel, by decide +kernel⟩
def m_is_same (d_kind_here d_is_same d_is_same_item : List T → M T) : Env → M Fl := sSeq (sSet 2 (mCall d_kind_here (aCons (mVar 0) (aNil)))) (sSeq (sIf (mCmpT .ne (mVarB 2) (mCall d_kind_here (aCons (mVar 1) (aNil)))) (sRet (mLit (.bl false))) (sNil)) (sSeq (sIf (mCmpT .eq (mVarB 2) (mLit (.str "dict"))) (sRet (mAnd (mSetEq (mVar 0) (mVar 1)) (mB1 allW (mLc [3] (iK (mVar 0)) (gN 3) (cYes) (mCall d_is_same (aCons (mDget (mVarB 0) (mVarB 3)) (aCons (mDget (mVarB 1) (mVarB 3)) (aNil)))))))) (sNil)) (sSeq (sIf (mCmpT .eq (mVarB 2) (mLit (.str "list"))) (sRet (mAnd (mCmp .eq (mB1 lenW (mVarB 0)) (mB1 lenW (mVarB 1))) (mB1 allW (mLc [4] (iZ (aCons (mVar 0) (aCons (mVar 1) (aNil)))) (gN 4) (cYes) (mStar 2 d_is_same_item (mVar 4)))))) (sNil)) (sRet (mCall d_is_same_item (aCons (mVar 0) (aCons (mVar 1) (aNil))))))))
theorem f_is_same {g : MB.Gx} (TY : Fy g) {f : Addr} {fd : FuncData} (F : Dr.At g.K g.mg "is_same" s_is_same ["one", "other"] f fd) {lv : Nat} {d_kind_here d_is_same d_is_same_item : List T → M T} (C_kind_here : FnW g "kind_here" 1 lv d_kind_here) (C_is_same : FnW g "is_same" 2 lv d_is_same) (C_is_same_item : FnW g "is_same_item" 2 lv d_is_same_item) : FnW g "is_same" 2 (lv + 1) (runW 5 (m_is_same d_kind_here d_is_same d_is_same_item)) := by
  refine fn_body (N := n_is_same) F sc_is_same fun G cdv A outer s H E hg c => ?_
  subst hg
  have TX := TY
  exact (s_cons (s_set (i := 2) c rfl (by first | exact .inl rfl | exact .inr rfl) (w_call c C_kind_here (Nat.le_refl _) rfl (a_cons (v_ 0 c) a_nil))) (s_cons (s_if (t_cmp .ne c (b_ 2 c) (toB (w_call c C_kind_here (Nat.le_refl _) rfl (a_cons (v_ 1 c) a_nil))) (nomark _)) (s_one (s_ret w_bl)) s_nil) (s_cons (s_if (t_cmp .eq c (b_ 2 c) (toB w_str) (nomark _)) (s_one (s_ret (w_and c (w_seteq c rfl TX.f_set (v_ 0 c) (v_ 1 c)) (w_one (shut (w_b1 (call_allW c.calm) rfl TX.f_all (by decide +kernel) (toB (shut (w_lc [("name", 3)] c (i_keys (v_ 0 c)) (blkOk_by (N := n_is_same) (sc := defScope s_is_same) (by decide +kernel)) (fun s1 H1 C1 cl1 fp1 => (g_name (i := 3) (c.blk s1 H1 C1 cl1 fp1) rfl (by first | exact .inl rfl | exact .inr rfl))) (fun s1 H1 C1 cl1 fp1 => q_nil) (fun s1 H1 C1 cl1 fp1 => (w_call (c.blk s1 H1 C1 cl1 fp1) C_is_same (Nat.le_refl _) rfl (a_cons (w_dget (c.blk s1 H1 C1 cl1 fp1) (b_ 0 (c.blk s1 H1 C1 cl1 fp1)) (b_ 3 (c.blk s1 H1 C1 cl1 fp1))) (a_cons (w_dget (c.blk s1 H1 C1 cl1 fp1) (b_ 1 (c.blk s1 H1 C1 cl1 fp1)) (b_ 3 (c.blk s1 H1 C1 cl1 fp1))) a_nil))))))))))))) s_nil) (s_cons (s_if (t_cmp .eq c (b_ 2 c) (toB w_str) (nomark _)) (s_one (s_ret (w_and c (w_cmp .eq c (toB (shut (w_b1 (call_lenW c.K) rfl TX.f_len (by decide +kernel) (b_ 0 c)))) (toB (shut (w_b1 (call_lenW c.K) rfl TX.f_len (by decide +kernel) (b_ 1 c)))) (nomark _)) (w_one (shut (w_b1 (call_allW c.calm) rfl TX.f_all (by decide +kernel) (toB (shut (w_lc [("pair", 4)] c (i_zipN c rfl TX.f_zip (a_cons (v_ 0 c) (a_cons (v_ 1 c) a_nil))) (blkOk_by (N := n_is_same) (sc := defScope s_is_same) (by decide +kernel)) (fun s1 H1 C1 cl1 fp1 => (g_name (i := 4) (c.blk s1 H1 C1 cl1 fp1) rfl (by first | exact .inl rfl | exact .inr rfl))) (fun s1 H1 C1 cl1 fp1 => q_nil) (fun s1 H1 C1 cl1 fp1 => (w_star (c.blk s1 H1 C1 cl1 fp1) C_is_same_item (Nat.le_refl _) rfl (v_ 4 (c.blk s1 H1 C1 cl1 fp1))))))))))))) s_nil) (s_one (s_ret (w_call c C_is_same_item (Nat.le_refl _) rfl (a_cons (v_ 0 c) (a_cons (v_ 1 c) a_nil)))))))))
abbrev s_same : Stmt := Dr.topS 17
abbrev n_same : List Str := ["one", "other"]
theorem sc_same : FnScope n_same ["one", "other"] (defScope s_same) := ⟨rfl, rfl, rfl, by decide +kernel, rfl, by decide +kernel, by decide +kernel⟩
def m_same (d_is_result d_is_same : List T → M T) : Env → M Fl := sSeq (sIf (mOrT (mNotT (mTru (mCall d_is_result (aCons (mVar 0) (aNil))))) (mNotT (mTru (mCall d_is_result (aCons (mVar 1) (aNil)))))) (sNev) (sNil)) (sRet (mCall d_is_same (aCons (mVar 0) (aCons (mVar 1) (aNil)))))
theorem f_same {g : MB.Gx} (TY : Fy g) {f : Addr} {fd : FuncData} (F : Dr.At g.K g.mg "same" s_same ["one", "other"] f fd) {lv : Nat} {d_is_result d_is_same : List T → M T} (C_is_result : FnW g "is_result" 1 lv d_is_result) (C_is_same : FnW g "is_same" 2 lv d_is_same) : FnW g "same" 2 (lv + 1) (runW 2 (m_same d_is_result d_is_same)) := by
  refine fn_body (N := n_same) F sc_same fun G cdv A outer s H E hg c => ?_
  subst hg
  have TX := TY
  exact (s_cons (s_if (PW.pt (t_or (t_not (t_any c (toB (w_call c C_is_result (Nat.le_refl _) rfl (a_cons (v_ 0 c) a_nil))))) (t_or1 (t_not (t_any c (toB (w_call c C_is_result (Nat.le_refl _) rfl (a_cons (v_ 1 c) a_nil)))))))) (s_one s_nev) s_nil) (s_one (s_ret (w_call c C_is_same (Nat.le_refl _) rfl (a_cons (v_ 0 c) (a_cons (v_ 1 c) a_nil))))))
def re_same (d_is_result : List T → M T) : Env → M Unit := fun ρ => bnd ((mOrT (mNotT (mTru (mCall d_is_result (aCons (mVar 0) (aNil))))) (mNotT (mTru (mCall d_is_result (aCons (mVar 1) (aNil)))))) ρ) fun k => opt (if k = true then some () else none)
theorem fe_same {g : MB.Gx} (TY : Fy g) {ME BV : Addr} (Bd : Xk.Bad g.K g.mg ME BV) {f : Addr} {fd : FuncData} (F : Dr.At g.K g.mg "same" s_same ["one", "other"] f fd) {lv : Nat} {d_is_result : List T → M T} (C_is_result : FnW g "is_result" 1 lv d_is_result) : FnE g BV "same" 2 (lv + 1) (fun ts => re_same d_is_result (startE 2 ts)) := by
  refine fnE_body (N := n_same) F sc_same fun G cdv A outer s H E hg c tk => ?_
  subst hg
  have TX := TY
  exact sts_raise c Bd tk rfl (PW.pt (t_or (t_not (t_any c (toB (w_call c C_is_result (Nat.le_refl _) rfl (a_cons (v_ 0 c) a_nil))))) (t_or1 (t_not (t_any c (toB (w_call c C_is_result (Nat.le_refl _) rfl (a_cons (v_ 1 c) a_nil))))))))
def re_kind_of (d_is_result : List T → M T) : Env → M Unit := fun ρ => bnd ((mNotT (mTru (mCall d_is_result (aCons (mVar 0) (aNil))))) ρ) fun k => opt (if k = true then some () else none)
theorem fe_kind_of {g : MB.Gx} (TY : Fy g) {ME BV : Addr} (Bd : Xk.Bad g.K g.mg ME BV) {f : Addr} {fd : FuncData} (F : Dr.At g.K g.mg "kind_of" s_kind_of ["result"] f fd) {lv : Nat} {d_is_result : List T → M T} (C_is_result : FnW g "is_result" 1 lv d_is_result) : FnE g BV "kind_of" 1 (lv + 1) (fun ts => re_kind_of d_is_result (startE 1 ts)) := by
  refine fnE_body (N := n_kind_of) F sc_kind_of fun G cdv A outer s H E hg c tk => ?_
  subst hg
  have TX := TY
  exact sts_raise c Bd tk rfl (t_not (t_any c (toB (w_call c C_is_result (Nat.le_refl _) rfl (a_cons (v_ 0 c) a_nil)))))
theorem fp_same {g : MB.Gx} (TY : Fy g) {f : Addr} {fd : FuncData} (F : Dr.At g.K g.mg "same" s_same ["one", "other"] f fd) {lv : Nat} {d_is_result d_is_same : List T → M T} (C_is_result : FnW g "is_result" 1 lv d_is_result) (C_is_same : FnW g "is_same" 2 lv d_is_same) : FnP g "same" ["other", "one"] perm2 (lv + 1) (runW 2 (m_same d_is_result d_is_same)) := by
  refine fnP_body (N := n_same) (st := s_same) (ps := ["one", "other"]) vals_p2 rfl F sc_same (fun kV doc pm an cdv ct ws h => match ws, h with | [b0, b1], _ => rfl) fun G cdv A outer s H E hg c => ?_
  subst hg
  have TX := TY
  exact (s_cons (s_if (PW.pt (t_or (t_not (t_any c (toB (w_call c C_is_result (Nat.le_refl _) rfl (a_cons (v_ 0 c) a_nil))))) (t_or1 (t_not (t_any c (toB (w_call c C_is_result (Nat.le_refl _) rfl (a_cons (v_ 1 c) a_nil)))))))) (s_one s_nev) s_nil) (s_one (s_ret (w_call c C_is_same (Nat.le_refl _) rfl (a_cons (v_ 0 c) (a_cons (v_ 1 c) a_nil))))))
theorem fp_kind_of {g : MB.Gx} (TY : Fy g) {f : Addr} {fd : FuncData} (F : Dr.At g.K g.mg "kind_of" s_kind_of ["result"] f fd) {lv : Nat} {d_is_result d_kind_here : List T → M T} (C_is_result : FnW g "is_result" 1 lv d_is_result) (C_kind_here : FnW g "kind_here" 1 lv d_kind_here) : FnP g "kind_of" ["result"] permI (lv + 1) (runW 1 (m_kind_of d_is_result d_kind_here)) := by
  refine fnP_body (N := n_kind_of) (st := s_kind_of) (ps := ["result"]) (fun r => r) rfl F sc_kind_of (fun kV doc pm an cdv ct ws h => match ws, h with | [b0], _ => rfl) fun G cdv A outer s H E hg c => ?_
  subst hg
  have TX := TY
  exact (s_cons (s_if (t_not (t_any c (toB (w_call c C_is_result (Nat.le_refl _) rfl (a_cons (v_ 0 c) a_nil))))) (s_one s_nev) s_nil) (s_one (s_ret (w_call c C_kind_here (Nat.le_refl _) rfl (a_cons (v_ 0 c) a_nil)))))
abbrev s__law_odd : Stmt := Dr.topS 35
abbrev n__law_odd : List Str := ["_law_state", "_law_word_here", "_law_some"]
theorem sc__law_odd : FnScope n__law_odd ["_law_state"] (defScope s__law_odd) := ⟨rfl, rfl, rfl, by decide +kernel, rfl, by decide +kernel, by decide +kernel⟩
def m__law_odd (d__law_word d__law_pick : List T → M T) : Env → M Fl := sSeq (sSet 1 (mCall d__law_word (aCons (mVar 0) (aNil)))) (sSeq (sSet 2 (mLst (aCons (mLit .non) (aCons (mLit (.bl true)) (aCons (mLit (.int 0)) (aCons (mNeg (mLit (.int 1))) (aCons (mLit (.str "")) (aCons (mVar 1) (aCons (mBin .add (mVarB 1) (mLit (.str "A"))) (aCons (mLit (.str "abcdefghi")) (aCons (mLit (.str "a b")) (aCons (mLit (.str "a-")) (aCons (mLit (.str "1")) (aCons (mTup (aNil)) (aCons (mTup (aCons (mTup (aNil)) (aNil))) (aCons (mTup (aCons (mLit (.int 1)) (aNil))) (aCons (mLst (aNil)) (aCons (mLst (aCons (mLst (aNil)) (aNil))) (aNil))))))))))))))))))) (sSeq (sSet 2 (mBin .add (mVarB 2) (mLst (aCons (mLst (aCons (mTup (aNil)) (aNil))) (aCons (mLst (aCons (mVar 1) (aCons (mLit .non) (aNil)))) (aCons (mDNew) (aCons (mDisp1 (mVar 1) (mTup (aNil))) (aCons (mDisp1 (mLit (.str "A")) (mLit (.int 1))) (aCons (mDisp1 (mLit (.int 1)) (mLit (.int 2))) (aCons (mDisp1 (mLit (.str "")) (mLit (.int 1))) (aCons (mDispN (mLit (.int 1))) (aCons (mLst (aCons (mDNew) (aNil))) (aCons (mTup (aCons (mVar 1) (aNil))) (aNil)))))))))))))) (sRet (mCall d__law_pick (aCons (mVar 0) (aCons (mVar 2) (aNil)))))))
theorem f__law_odd {g : MB.Gx} (TY : Fy g) {f : Addr} {fd : FuncData} (F : Dr.At g.K g.mg "_law_odd" s__law_odd ["_law_state"] f fd) {lv : Nat} {d__law_word d__law_pick : List T → M T} (C__law_word : FnW g "_law_word" 1 lv d__law_word) (C__law_pick : FnW g "_law_pick" 2 lv d__law_pick) : FnW g "_law_odd" 1 (lv + 1) (runW 3 (m__law_odd d__law_word d__law_pick)) := by
  refine fn_body (N := n__law_odd) F sc__law_odd fun G cdv A outer s H E hg c => ?_
  subst hg
  have TX := TY
  exact (s_cons (s_set (i := 1) c rfl (by first | exact .inl rfl | exact .inr rfl) (w_call c C__law_word (Nat.le_refl _) rfl (a_cons (v_ 0 c) a_nil))) (s_cons (s_set (i := 2) c rfl (by first | exact .inl rfl | exact .inr rfl) (shut (w_lst (a_u (a_cons w_non (a_cons w_bl (a_cons w_int (a_cons (w_neg (toB w_int)) (a_cons w_str (a_cons (v_ 1 c) (a_cons (shut (w_bin .add c (b_ 1 c) (toB w_str))) (a_cons w_str (a_cons w_str (a_cons w_str (a_cons w_str (a_cons (shut (w_tup (a_u a_nil))) (a_cons (shut (w_tup (a_u (a_cons (shut (w_tup (a_u a_nil))) a_nil)))) (a_cons (shut (w_tup (a_u (a_cons w_int a_nil)))) (a_cons (shut (w_lst (a_u a_nil))) (a_cons (shut (w_lst (a_u (a_cons (shut (w_lst (a_u a_nil))) a_nil)))) a_nil)))))))))))))))))))) (s_cons (s_set (i := 2) c rfl (by first | exact .inl rfl | exact .inr rfl) (shut (w_bin .add c (b_ 2 c) (toB (shut (w_lst (a_u (a_cons (shut (w_lst (a_u (a_cons (shut (w_tup (a_u a_nil))) a_nil)))) (a_cons (shut (w_lst (a_u (a_cons (v_ 1 c) (a_cons w_non a_nil))))) (a_cons (shut w_dnew) (a_cons (shut (w_disp1 (v_ 1 c) (shut (w_tup (a_u a_nil))))) (a_cons (shut (w_disp1 w_str w_int)) (a_cons (shut (w_disp1 w_int w_int)) (a_cons (shut (w_disp1 w_str w_int)) (a_cons (w_dispN w_int) (a_cons (shut (w_lst (a_u (a_cons (shut w_dnew) a_nil)))) (a_cons (shut (w_tup (a_u (a_cons (v_ 1 c) a_nil)))) a_nil))))))))))))))))) (s_one (s_ret (w_call c C__law_pick (Nat.le_refl _) rfl (a_cons (v_ 0 c) (a_cons (v_ 2 c) a_nil))))))))
abbrev s__law_bent : Stmt := Dr.topS 36
abbrev n__law_bent : List Str := ["_law_state", "_law_thing_here", "_law_way", "_law_k", "_law_found", "_law_word_here"]
theorem sc__law_bent : FnScope n__law_bent ["_law_state", "_law_thing_here"] (defScope s__law_bent) := ⟨rfl, rfl, rfl, by decide +kernel, rfl, by decide +kernel, by decide +kernel⟩
def m__law_bent (d__law_take d__law_pick d__law_bent d__law_odd : List T → M T) : Env → M Fl := sSeq (sIf (mAndT (mTru (mB1 (isiT "dict") (mVarB 1))) (mAndT (mNeE (mVarB 1) (mDNew)) (mCmpT .gt (mCall d__law_take (aCons (mVar 0) (aCons (mLit (.int 4)) (aNil)))) (mLit (.int 0))))) (sSeq (sPair true false 4 5 (mOwn (mB1 dictW (mVarB 1))) (mCall d__law_pick (aCons (mVar 0) (aCons (mB1 listW (mVarB 1)) (aNil))))) (sSeq (sSet 2 (mCall d__law_take (aCons (mVar 0) (aCons (mLit (.int 6)) (aNil))))) (sSeq (sIf (mCmpT .eq (mVarB 2) (mLit (.int 0))) (sPopPut 4 (mVar 5) (mCall d__law_pick (aCons (mVar 0) (aCons (mLst (aCons (mLit (.str "A")) (aCons (mLit (.str "")) (aCons (mLit (.str "abcdefghi")) (aCons (mLit (.int 1)) (aCons (mLit .non) (aCons (mLit (.str "a1")) (aCons (mTup (aNil)) (aCons (mLit (.str "zz")) (aNil)))))))))) (aNil))))) (sPut 4 (mVar 5) (mCall d__law_bent (aCons (mVar 0) (aCons (mDget (mVarB 4) (mVarB 5)) (aNil)))))) (sRetOw 4)))) (sNil)) (sSeq (sIf (mAndT (mTru (mB1 (isiT "list") (mVarB 1))) (mAndT (mCmpT .ne (mVarB 1) (mLst (aNil))) (mCmpT .gt (mCall d__law_take (aCons (mVar 0) (aCons (mLit (.int 4)) (aNil)))) (mLit (.int 0))))) (sSeq (sSet 3 (mCall d__law_take (aCons (mVar 0) (aCons (mB1 lenW (mVarB 1)) (aNil))))) (sRet (mBin .add (mBin .add (mSl (mVarB 1) (pNone) (pSome (mVarB 3))) (mLst (aCons (mCall d__law_bent (aCons (mVar 0) (aCons (mIx (mVarB 1) (mVarB 3)) (aNil)))) (aNil)))) (mSl (mVarB 1) (pSome (mBin .add (mVarB 3) (mLit (.int 1)))) (pNone))))) (sNil)) (sRet (mIf (mAndT (mTru (mB1 (isiT "list") (mVarB 1))) (mCmpT .eq (mCall d__law_take (aCons (mVar 0) (aCons (mLit (.int 3)) (aNil)))) (mLit (.int 0)))) (mB1 tupW (mVarB 1)) (mCall d__law_odd (aCons (mVar 0) (aNil))))))
theorem f__law_bent {g : MB.Gx} (TY : Fy g) {f : Addr} {fd : FuncData} (F : Dr.At g.K g.mg "_law_bent" s__law_bent ["_law_state", "_law_thing_here"] f fd) {lv : Nat} {d__law_take d__law_pick d__law_bent d__law_odd : List T → M T} (C__law_take : FnW g "_law_take" 2 lv d__law_take) (C__law_pick : FnW g "_law_pick" 2 lv d__law_pick) (C__law_bent : FnW g "_law_bent" 2 lv d__law_bent) (C__law_odd : FnW g "_law_odd" 1 lv d__law_odd) : FnW g "_law_bent" 2 (lv + 1) (runW 6 (m__law_bent d__law_take d__law_pick d__law_bent d__law_odd)) := by
  refine fn_body (N := n__law_bent) F sc__law_bent fun G cdv A outer s H E hg c => ?_
  subst hg
  have TX := TY
  exact (s_cons (s_if (PW.pt (t_and (t_any c (toB (w_isi (n := "dict") c rfl TX.f_isinstance (w_ty rfl TX.f_dict (by decide +kernel)) (b_ 1 c)))) (t_and (t_neE c (b_ 1 c) (toB (shut w_dnew))) (t_and1 (t_cmp .gt c (toB (w_call c C__law_take (Nat.le_refl _) rfl (a_cons (v_ 0 c) (a_cons w_int a_nil)))) (toB w_int) (nomark _)))))) (s_cons (s_pairL (i := 4) (j := 5) c rfl rfl (by decide) rfl rfl (x_ow (w_t1 call_dictW rfl TX.f_dict (by decide +kernel) (b_ 1 c))) (x_sh (w_call c C__law_pick (Nat.le_refl _) rfl (a_cons (v_ 0 c) (a_cons (shut (w_t1 (call_listW c.K c.calm) rfl TX.f_list (by decide +kernel) (b_ 1 c))) a_nil))))) (s_cons (s_set (i := 2) c rfl (by first | exact .inl rfl | exact .inr rfl) (w_call c C__law_take (Nat.le_refl _) rfl (a_cons (v_ 0 c) (a_cons w_int a_nil)))) (s_cons (s_if (t_cmp .eq c (b_ 2 c) (toB w_int) (nomark _)) (s_one (s_popPut (i := 4) c rfl (by first | exact .inl rfl | exact .inr (.inl rfl)) (w_call c C__law_pick (Nat.le_refl _) rfl (a_cons (v_ 0 c) (a_cons (shut (w_lst (a_u (a_cons w_str (a_cons w_str (a_cons w_str (a_cons w_int (a_cons w_non (a_cons w_str (a_cons (shut (w_tup (a_u a_nil))) (a_cons w_str a_nil))))))))))) a_nil))) (v_ 5 c))) (s_one (s_put (i := 4) c rfl (by first | exact .inl rfl | exact .inr (.inl rfl)) (v_ 5 c) (w_call c C__law_bent (Nat.le_refl _) rfl (a_cons (v_ 0 c) (a_cons (w_dget c (b_ 4 c) (b_ 5 c)) a_nil)))))) (s_one (s_retOw (i := 4) c rfl (by first | exact .inl rfl | exact .inr (.inl rfl))))))) s_nil) (s_cons (s_if (PW.pt (t_and (t_any c (toB (w_isi (n := "list") c rfl TX.f_isinstance (w_ty rfl TX.f_list (by decide +kernel)) (b_ 1 c)))) (t_and (t_cmp .ne c (b_ 1 c) (toB (shut (w_lst (a_u a_nil)))) (nomark _)) (t_and1 (t_cmp .gt c (toB (w_call c C__law_take (Nat.le_refl _) rfl (a_cons (v_ 0 c) (a_cons w_int a_nil)))) (toB w_int) (nomark _)))))) (s_cons (s_set (i := 3) c rfl (by first | exact .inl rfl | exact .inr rfl) (w_call c C__law_take (Nat.le_refl _) rfl (a_cons (v_ 0 c) (a_cons (shut (w_b1 (call_lenW c.K) rfl TX.f_len (by decide +kernel) (b_ 1 c))) a_nil)))) (s_one (s_ret (shut (w_bin .add c (toB (shut (w_bin .add c (toB (shut (w_sl c (b_ 1 c) p_none (p_some (b_ 3 c))))) (toB (shut (w_lst (a_u (a_cons (w_call c C__law_bent (Nat.le_refl _) rfl (a_cons (v_ 0 c) (a_cons (w_ix c (b_ 1 c) (b_ 3 c)) a_nil))) a_nil)))))))) (toB (shut (w_sl c (b_ 1 c) (p_some (toB (shut (w_bin .add c (b_ 3 c) (toB w_int))))) p_none)))))))) s_nil) (s_one (s_ret (w_if (PW.pt (t_and (t_any c (toB (w_isi (n := "list") c rfl TX.f_isinstance (w_ty rfl TX.f_list (by decide +kernel)) (b_ 1 c)))) (t_and1 (t_cmp .eq c (toB (w_call c C__law_take (Nat.le_refl _) rfl (a_cons (v_ 0 c) (a_cons w_int a_nil)))) (toB w_int) (nomark _))))) (shut (w_t1 call_tupW rfl TX.f_tuple (by decide +kernel) (b_ 1 c))) (w_call c C__law_odd (Nat.le_refl _) rfl (a_cons (v_ 0 c) a_nil)))))))
abbrev s__law_near : Stmt := Dr.topS 39
abbrev n__law_near : List Str := ["_law_state", "_law_thing_here", "_law_k", "_law_some", "_law_found", "_law_word_here"]
theorem sc__law_near : FnScope n__law_near ["_law_state", "_law_thing_here"] (defScope s__law_near) := ⟨rfl, rfl, rfl, by decide +kernel, rfl, by decide +kernel, by decide +kernel⟩
def m__law_near (d__law_take d__law_pick d__law_near : List T → M T) : Env → M Fl := sSeq (sIf (mAndT (mTru (mB1 (isiT "dict") (mVarB 1))) (mAndT (mNeE (mVarB 1) (mDNew)) (mCmpT .gt (mCall d__law_take (aCons (mVar 0) (aCons (mLit (.int 5)) (aNil)))) (mLit (.int 0))))) (sSeq (sPair true false 4 5 (mOwn (mB1 dictW (mVarB 1))) (mCall d__law_pick (aCons (mVar 0) (aCons (mB1 sortedW (mVarB 1)) (aNil))))) (sSeq (sIf (mCmpT .eq (mCall d__law_take (aCons (mVar 0) (aCons (mLit (.int 6)) (aNil)))) (mLit (.int 0))) (sDPop 4 (mVar 5)) (sPut 4 (mVar 5) (mCall d__law_near (aCons (mVar 0) (aCons (mDget (mVarB 4) (mVarB 5)) (aNil)))))) (sRetOw 4))) (sNil)) (sSeq (sIf (mAndT (mTru (mB1 (isiT "list") (mVarB 1))) (mCmpT .ne (mVarB 1) (mLst (aNil)))) (sSeq (sSet 2 (mCall d__law_take (aCons (mVar 0) (aCons (mB1 lenW (mVarB 1)) (aNil))))) (sSeq (sSet 3 (mLst (aCons (mBin .add (mSl (mVarB 1) (pNone) (pSome (mVarB 2))) (mSl (mVarB 1) (pSome (mBin .add (mVarB 2) (mLit (.int 1)))) (pNone))) (aCons (mBin .add (mVarB 1) (mSl (mVarB 1) (pSome (mVarB 2)) (pSome (mBin .add (mVarB 2) (mLit (.int 1)))))) (aCons (mB1 revW (mVarB 1)) (aNil)))))) (sRet (mCall d__law_pick (aCons (mVar 0) (aCons (mBin .add (mVarB 3) (mRep (mLst (aCons (mBin .add (mBin .add (mSl (mVarB 1) (pNone) (pSome (mVarB 2))) (mLst (aCons (mCall d__law_near (aCons (mVar 0) (aCons (mIx (mVarB 1) (mVarB 2)) (aNil)))) (aNil)))) (mSl (mVarB 1) (pSome (mBin .add (mVarB 2) (mLit (.int 1)))) (pNone))) (aNil))) (mLit (.int 3)))) (aNil))))))) (sNil)) (sSeq (sIf (mTru (mB1 (isiT "int") (mVarB 1))) (sRet (mCall d__law_pick (aCons (mVar 0) (aCons (mLst (aCons (mB1 intW (mVarB 1)) (aCons (mCmp .eq (mVarB 1) (mLit (.int 1))) (aCons (mAddB (mVarB 1) (mLit (.int 1))) (aNil))))) (aNil))))) (sNil)) (sRet (mCall d__law_pick (aCons (mVar 0) (aCons (mLst (aCons (mLit .non) (aCons (mLit (.int 0)) (aCons (mLit (.int 1)) (aCons (mLit (.bl true)) (aCons (mLit (.bl false)) (aCons (mLit (.str "")) (aCons (mLit (.str "a")) (aNil))))))))) (aNil)))))))
theorem f__law_near {g : MB.Gx} (TY : Fy g) {f : Addr} {fd : FuncData} (F : Dr.At g.K g.mg "_law_near" s__law_near ["_law_state", "_law_thing_here"] f fd) {lv : Nat} {d__law_take d__law_pick d__law_near : List T → M T} (C__law_take : FnW g "_law_take" 2 lv d__law_take) (C__law_pick : FnW g "_law_pick" 2 lv d__law_pick) (C__law_near : FnW g "_law_near" 2 lv d__law_near) : FnW g "_law_near" 2 (lv + 1) (runW 6 (m__law_near d__law_take d__law_pick d__law_near)) := by
  refine fn_body (N := n__law_near) F sc__law_near fun G cdv A outer s H E hg c => ?_
  subst hg
  have TX := TY
  exact (s_cons (s_if (PW.pt (t_and (t_any c (toB (w_isi (n := "dict") c rfl TX.f_isinstance (w_ty rfl TX.f_dict (by decide +kernel)) (b_ 1 c)))) (t_and (t_neE c (b_ 1 c) (toB (shut w_dnew))) (t_and1 (t_cmp .gt c (toB (w_call c C__law_take (Nat.le_refl _) rfl (a_cons (v_ 0 c) (a_cons w_int a_nil)))) (toB w_int) (nomark _)))))) (s_cons (s_pairL (i := 4) (j := 5) c rfl rfl (by decide) rfl rfl (x_ow (w_t1 call_dictW rfl TX.f_dict (by decide +kernel) (b_ 1 c))) (x_sh (w_call c C__law_pick (Nat.le_refl _) rfl (a_cons (v_ 0 c) (a_cons (shut (w_b1 (call_sortedW c.calm) rfl TX.f_sorted (by decide +kernel) (b_ 1 c))) a_nil))))) (s_cons (s_if (t_cmp .eq c (toB (w_call c C__law_take (Nat.le_refl _) rfl (a_cons (v_ 0 c) (a_cons w_int a_nil)))) (toB w_int) (nomark _)) (s_one (s_dpop (i := 4) c rfl (by first | exact .inl rfl | exact .inr (.inl rfl)) (v_ 5 c))) (s_one (s_put (i := 4) c rfl (by first | exact .inl rfl | exact .inr (.inl rfl)) (v_ 5 c) (w_call c C__law_near (Nat.le_refl _) rfl (a_cons (v_ 0 c) (a_cons (w_dget c (b_ 4 c) (b_ 5 c)) a_nil)))))) (s_one (s_retOw (i := 4) c rfl (by first | exact .inl rfl | exact .inr (.inl rfl)))))) s_nil) (s_cons (s_if (PW.pt (t_and (t_any c (toB (w_isi (n := "list") c rfl TX.f_isinstance (w_ty rfl TX.f_list (by decide +kernel)) (b_ 1 c)))) (t_and1 (t_cmp .ne c (b_ 1 c) (toB (shut (w_lst (a_u a_nil)))) (nomark _))))) (s_cons (s_set (i := 2) c rfl (by first | exact .inl rfl | exact .inr rfl) (w_call c C__law_take (Nat.le_refl _) rfl (a_cons (v_ 0 c) (a_cons (shut (w_b1 (call_lenW c.K) rfl TX.f_len (by decide +kernel) (b_ 1 c))) a_nil)))) (s_cons (s_set (i := 3) c rfl (by first | exact .inl rfl | exact .inr rfl) (shut (w_lst (a_u (a_cons (shut (w_bin .add c (toB (shut (w_sl c (b_ 1 c) p_none (p_some (b_ 2 c))))) (toB (shut (w_sl c (b_ 1 c) (p_some (toB (shut (w_bin .add c (b_ 2 c) (toB w_int))))) p_none))))) (a_cons (shut (w_bin .add c (b_ 1 c) (toB (shut (w_sl c (b_ 1 c) (p_some (b_ 2 c)) (p_some (toB (shut (w_bin .add c (b_ 2 c) (toB w_int)))))))))) (a_cons (shut (w_rev (b_ 1 c))) a_nil))))))) (s_one (s_ret (w_call c C__law_pick (Nat.le_refl _) rfl (a_cons (v_ 0 c) (a_cons (shut (w_bin .add c (b_ 3 c) (toB (shut (w_rep (w_lst (a_u (a_cons (shut (w_bin .add c (toB (shut (w_bin .add c (toB (shut (w_sl c (b_ 1 c) p_none (p_some (b_ 2 c))))) (toB (shut (w_lst (a_u (a_cons (w_call c C__law_near (Nat.le_refl _) rfl (a_cons (v_ 0 c) (a_cons (w_ix c (b_ 1 c) (b_ 2 c)) a_nil))) a_nil)))))))) (toB (shut (w_sl c (b_ 1 c) (p_some (toB (shut (w_bin .add c (b_ 2 c) (toB w_int))))) p_none))))) a_nil))) w_int))))) a_nil))))))) s_nil) (s_cons (s_if (t_any c (toB (w_isi (n := "int") c rfl TX.f_isinstance (w_ty rfl TX.f_int (by decide +kernel)) (b_ 1 c)))) (s_one (s_ret (w_call c C__law_pick (Nat.le_refl _) rfl (a_cons (v_ 0 c) (a_cons (shut (w_lst (a_u (a_cons (shut (w_t1 call_intW rfl TX.f_int (by decide +kernel) (b_ 1 c))) (a_cons (w_cmp .eq c (b_ 1 c) (toB w_int) (nomark _)) (a_cons (shut (w_addb (b_ 1 c) (toB w_int))) a_nil)))))) a_nil))))) s_nil) (s_one (s_ret (w_call c C__law_pick (Nat.le_refl _) rfl (a_cons (v_ 0 c) (a_cons (shut (w_lst (a_u (a_cons w_non (a_cons w_int (a_cons w_int (a_cons w_bl (a_cons w_bl (a_cons w_str (a_cons w_str a_nil)))))))))) a_nil))))))))
abbrev s__law_pair_right : Stmt := Dr.topS 41
abbrev n__law_pair_right : List Str := ["_law_near_here", "_law_far", "_law_due"]
theorem sc__law_pair_right : FnScope n__law_pair_right ["_law_near_here", "_law_far"] (defScope s__law_pair_right) := ⟨rfl, rfl, rfl, by decide +kernel, rfl, by decide +kernel, by decide +kernel⟩
def m__law_pair_right (d__law_is_thing d__law_same d_same : List T → M T) (r_same : List T → M Unit) : Env → M Fl := sSeq (sIf (mOrT (mNotT (mTru (mCall d__law_is_thing (aCons (mVar 0) (aCons (mLit (.int 60)) (aCons (mLit (.bl true)) (aNil))))))) (mNotT (mTru (mCall d__law_is_thing (aCons (mVar 1) (aCons (mLit (.int 60)) (aCons (mLit (.bl true)) (aNil)))))))) (sSeq (sIf (mNotT (mTru (mBad r_same (aCons (mVar 0) (aCons (mVar 1) (aNil)))))) (sRet (mLit (.bl false))) (sNil)) (sRet (mBad r_same (aCons (mVar 1) (aCons (mVar 0) (aNil)))))) (sNil)) (sSeq (sSet 2 (mCall d__law_same (aCons (mVar 0) (aCons (mVar 1) (aNil))))) (sRet (mCmp .eq (mB1 reprW (mLst (aCons (mCall d_same (aCons (mVar 0) (aCons (mVar 1) (aNil)))) (aCons (mCallP perm2 d_same (aCons (mVar 0) (aCons (mVar 1) (aNil)))) (aNil))))) (mB1 reprW (mLst (aCons (mVar 2) (aCons (mVar 2) (aNil))))))))
theorem f__law_pair_right {g : MB.Gx} (TY : Fy g) {f : Addr} {fd : FuncData} (F : Dr.At g.K g.mg "_law_pair_right" s__law_pair_right ["_law_near_here", "_law_far"] f fd) {lv : Nat} {d__law_is_thing d__law_same d_same : List T → M T} {r_same : List T → M Unit} {gB gC ME BV : Addr} {fdB fdC : FuncData} (C__law_is_thing : FnW g "_law_is_thing" 3 lv d__law_is_thing) (C__law_same : FnW g "_law_same" 2 lv d__law_same) (C_same : FnW g "same" 2 lv d_same) (P_same : FnP g "same" ["other", "one"] perm2 lv d_same) (Bb : Dr.At g.K g.mg "_law_is_bad" Xk.stB ["_law_work"] gB fdB) (Bc : Dr.At g.K g.mg "_law_caught" Xk.stC ["_law_work"] gC fdC) (Bd : Xk.Bad g.K g.mg ME BV) {lve : Nat} (hE : lve + 3 ≤ lv) (E_same : FnE g BV "same" 2 lve r_same) (tt : TabF g fd "_law_pair_right") : FnW g "_law_pair_right" 2 (lv + 1) (runW 3 (m__law_pair_right d__law_is_thing d__law_same d_same r_same)) := by
  refine fn_bodyT (N := n__law_pair_right) F sc__law_pair_right tt fun G cdv A outer s H E hg c tb => ?_
  subst hg
  have TX := TY
  exact (s_cons (s_if (PW.pt (t_or (t_not (t_any c (toB (w_call c C__law_is_thing (Nat.le_refl _) rfl (a_cons (v_ 0 c) (a_cons w_int (a_cons w_bl a_nil))))))) (t_or1 (t_not (t_any c (toB (w_call c C__law_is_thing (Nat.le_refl _) rfl (a_cons (v_ 1 c) (a_cons w_int (a_cons w_bl a_nil)))))))))) (s_cons (s_if (t_not (t_any c (toB (w_isbad c Bb Bc Bd rfl tb E_same hE (LamX.lamS_by (by decide +kernel)) rfl (fun _ _ _ _ _ => rfl) rfl (fun GL HL YL cL => (a_cons (v_ 0 cL) (a_cons (v_ 1 cL) a_nil))))))) (s_one (s_ret w_bl)) s_nil) (s_one (s_ret (w_isbad c Bb Bc Bd rfl tb E_same hE (LamX.lamS_by (by decide +kernel)) rfl (fun _ _ _ _ _ => rfl) rfl (fun GL HL YL cL => (a_cons (v_ 1 cL) (a_cons (v_ 0 cL) a_nil))))))) s_nil) (s_cons (s_set (i := 2) c rfl (by first | exact .inl rfl | exact .inr rfl) (w_call c C__law_same (Nat.le_refl _) rfl (a_cons (v_ 0 c) (a_cons (v_ 1 c) a_nil)))) (s_one (s_ret (w_cmp .eq c (toB (shut (w_b1 (call_reprW c.free (by have := c.hu; omega) (by rw [c.K]; exact TX.sys)) rfl TX.f_repr (by decide +kernel) (toB (shut (w_lst (a_u (a_cons (w_call c C_same (Nat.le_refl _) rfl (a_cons (v_ 0 c) (a_cons (v_ 1 c) a_nil))) (a_cons (w_callP c P_same (Nat.le_refl _) rfl (k_cons (v_ 0 c) (k_cons (v_ 1 c) k_nil)) p2_rep p2_len) a_nil))))))))) (toB (shut (w_b1 (call_reprW c.free (by have := c.hu; omega) (by rw [c.K]; exact TX.sys)) rfl TX.f_repr (by decide +kernel) (toB (shut (w_lst (a_u (a_cons (v_ 2 c) (a_cons (v_ 2 c) a_nil))))))))) (nomark _))))))
end Wp

end -- P2
section -- W17
set_option Elab.async false
set_option linter.all false
set_option maxRecDepth 100000
set_option maxHeartbeats 4000000
/-! The law's own def: the state is begun, then so many turns. -/
namespace Wp
open PySem PySem.Spec PyProof.Rows L2
section
variable {G : Gs} {H0 : Hp} {X : Cx} {N : List Str} {sc : Scope} {n : Nat} {tg iter : Expr} {pos : Pos} {body : List Stmt} {m : Env → M Fl} {vs : List Nat} {g : T → Env → Option Env}
/-- as s_for, what is walked told by wi, and Ex of the slots -/
theorem s_forG {I : Env → M (List T)} {wi : TI} {Ex : L2.St → Hp → Prop} (hp : PassesOwn (model X.prog X.w) X.A X.env X.xe) (c : Ctx G N sc n X) (hi : PI X tg iter wi) (hw : ∀ σ H R, Ex σ H → tIv G H0 I σ H R → wi σ H R) {gt : TG} (hg : Tg G H0 X tg gt vs g) (hb : PSs X body (tSv G H0 m)) (hs : ∀ x, foldedSetIterable iter X.env x = pure x := by intro _; rfl) :
    PS X (.For tg iter body [] pos) (fun D σ H => Ex σ H ∧ tSv G H0 (sFor I g m) D σ H) := by
  have hgt := hg.pg
  have hk := hg.ok
  refine PSimp (ps_for hp c.calm hi hgt hb hs) fun D σ H ⟨ex, ρ, b, er, k, S, r⟩ => hw _ _ _ ex ⟨ρ, b, er, S, (r.ex k S).imp fun ts b1 H1 s1 S1 r1 J ⟨nn, Gd, Y, w, hn, hz, hG, hY⟩ => ?_⟩
  subst hn
  refine for_it w (fun i σ' Hc => ∃ ρ' b', ER G H0 Hc σ' ρ' ∧ Stp G H0 Hc ∧ St G b' Hc ∧ MB.Stay H1 Hc ∧ RunS G H0 Hc (forW (fun t r => bnd (opt (g t r)) m) (ts.drop i) ρ') b' (post G H0 D))
    ⟨ρ, b1, er.mono s1 S, k.trans s1, S1, .rfl', r1⟩ (fun i σ' Hc _ ⟨_, _, _, _, _, y, _⟩ => hG Hc y) ?_ ?_
  · rintro i x σ' Hc Hd hi ⟨ρ', b', er', k', S', y', r'⟩ hYi
    obtain ⟨sm, t, ht, rv⟩ := hY i Hc x Hd y' hi hYi
    have ed : ts.drop i = t :: ts.drop (i + 1) := by
      rw [List.drop_eq_getElem_cons hi]
      congr 1
      rw [List.getElem?_eq_getElem hi] at ht
      exact Option.some.inj ht
    rw [ed] at r'
    have kd : Stp G H0 Hd := k'.trans (.same sm)
    have Sd := S'.same sm
    have yd := y'.trans (same_stay sm)
    have r2 : RunS G H0 Hd (forW (fun t r => bnd (opt (g t r)) m) (t :: ts.drop (i + 1)) ρ') b' (post G H0 D) := r'.at (same_stay sm)
    obtain ⟨ρ2, e2, r3⟩ := r2.bnd.bnd.opt kd Sd
    refine hk x t σ' ρ' ρ2 Hd _ (er'.more S' sm) rv e2 fun σ2 er2 _ => ⟨ρ2, b', er2, kd, Sd, r3.imp fun f b3 H3 k3 y3 S3 q => ?_⟩
    cases f with
    | nx ρ3 => exact fun σ3 er3 => ⟨ρ3, b3, er3, k3, S3, yd.trans y3, q⟩
    | ct ρ3 => exact fun σ3 er3 => ⟨ρ3, b3, er3, k3, S3, yd.trans y3, q⟩
    | bk ρ3 => exact RunS.ret (K := post G H0 D) k3 S3 q
    | rt t => exact RunS.ret (K := post G H0 D) k3 S3 q
  · rintro σ' Hc ⟨ρ', b', er', k', S', y', r'⟩
    rw [List.drop_length] at r'
    exact RunS.ret (K := post G H0 D) k' S' r' σ' er'
/-- 4 to 14 turns -/
def iTurns : Env → M (List T) := fun _ b R => ∀ j : Nat, 4 ≤ j → j ≤ 14 → R ((List.range j).map fun (i : Nat) => .int (0 + (i : Int))) b
def exScr (K : PySem.W.Frag) (σ : L2.St) (H : Hp) : Prop := ∃ a xs, σ[0]? = some (some (V.ref a)) ∧ SqL K H a xs ∧ xs.length ≤ 63
theorem i_turns {x : Str} {p1 p2 p3 p4 p5 p6 p7 p8 p9 p10 : Pos} {k1 k2 : Nat} (c : Ctx G N sc n X) (hi : N[0]? = some x) (hv : Vis sc x) (h1 : Gl X "range") (h2 : X.mg "range" = none) (h3 : Gl X "max") (h4 : X.mg "max" = none) (h5 : Gl X "min") (h6 : X.mg "min" = none) (h7 : Gl X "len") (h8 : X.mg "len" = none) (hd : (x == ("__debug__" : Str)) = false := by decide) (hcd : (x == ("__classdict__" : Str)) = false := by decide) :
    ∃ wi, PI X tg (.Call (.Name "range" p1) [.Call (.Name "max" p2) [.Constant (.int 4) k1 p3, .Call (.Name "min" p4) [.Constant (.int 14) k2 p5, .Call (.Name "len" p6) [.Name x p7] [] p8] [] p9] [] p10] [] pos) wi ∧ ∀ σ H R, exScr X.K σ H → tIv G H0 iTurns σ H R → wi σ H R := by
  refine ⟨_, pi_range1 (p := p1) (pos := pos) h1 h2 (pa_cons (pe_callB (call_max2 c.calm) h3 h4 (by decide +kernel) (pa_cons pe_int (pa_cons (pe_callB (call_min2 c.calm) h5 h6 (by decide +kernel) (pa_cons pe_int (pa_cons
    (pe_callB call_len h7 h8 (by decide +kernel) (pa_cons (pe_var (i := 0) (by rw [c.hN]; exact hi) (by rw [c.hsc]; exact hv) hd hcd) pa_nil)) pa_nil))) pa_nil))) pa_nil), ?_⟩
  intro σ H R ⟨a, xs, hσ, hq, hl⟩ ⟨ρ, b, er, S, r⟩
  have key : ∀ j : Nat, 4 ≤ j → j ≤ 14 → R (Itr 0 j) H := fun j j1 j2 => by
    obtain ⟨R', h, k⟩ := r
    refine k _ b (h j j1 j2) H .rfl' S _ ⟨_, _, _, walk_range (lo := 0) (n := j), by simp, by rw [sizeLine_eq]; omega, fun _ _ => trivial, fun i H' x H'' y hi ⟨e1, e2⟩ => ?_⟩
    subst e1 e2
    exact ⟨Same.refl _, .int (0 + (i : Int)), by simp [hi], .int _⟩
  refine ⟨_, hσ, .ref a, xs.length, rfl, .inl ⟨xs, hq, rfl⟩, 14, (xs.length : Int), rfl, 4, _, rfl, ?_⟩
  have hle : xs.length ≤ 63 := hl
  generalize hm : (if (if (xs.length : Int) < 14 then (xs.length : Int) else 14) > 4 then (if (xs.length : Int) < 14 then (xs.length : Int) else 14) else 4) = j
  have j1 : 4 ≤ j ∧ j ≤ 14 := by
    rw [← hm]
    split <;> split <;> omega
  exact ⟨j, rfl, by omega, by omega, key j.toNat (by omega) (by omega)⟩
end
/-- the law's promise -/
def spLawW (g : MB.Gx) : Sp := fun vs H Q _ => ∃ (a : Addr) (ns : List Int), vs = [.ref a] ∧ SqL g.K H a (ns.map V.int) ∧ ns.length ≤ 63 ∧ LamX.Tabs g.tt H ∧ ∀ H', Q (.bl true) H'
def rho0 (n : Nat) : Env := (List.replicate n none).set 1 (some (.sh (.loc 0)))
theorem ps_ex {X : Cx} {st : Stmt} {α : Type} {t : α → TS} (h : ∀ a, PS X st (t a)) : PS X st fun D σ H => ∃ a, t a D σ H := ⟨fun pins s σ H D I ⟨a, q⟩ => (h a).run pins s σ H D I q⟩
theorem fn_law {g : MB.Gx} {f fb : Addr} {fd fdb : FuncData} {N : List Str} {st : Stmt} {k : Nat} {m : Env → M Fl} {gt : T → Env → Option Env} (F : Dr.At g.K g.mg "law" st ["_law_script"] f fd) (S : FnScope N ["_law_script"] (defScope st)) (tt : TabF g fd "law")
    (GB : FnOk g.prog g.w g.K g.mg g.base CX0 1 fb fdb ["_law_script"] (Dr.spBegun g.K)) (Ab : Dr.At g.K g.mg "_law_begun" Dr.sBegun ["_law_script"] fb fdb) (hk : 1 ≤ k) (hN2 : 2 ≤ N.length)
    (body : ∀ (cdv : Value) (A : Around) (outer : List PySem.Env) (s : Shared) (H : Hp) (E : XK), (∀ G : Gs, G.g = g → Ctx G N (defScope st) k (bodyX g N "law" st f cdv A outer s H E)) → (∀ G : Gs, G.g = g → TbOk G (bodyX g N "law" st f cdv A outer s H E)) →
      ∃ tb : TS, PSs (bodyX g N "law" st f cdv A outer s H E) (defBody st) tb ∧ ∀ D σ H, (∃ v, σ[0]? = some (some v) ∧ Dr.spBegun g.K ([v] ++ []) H (fun u H1 => ∃ q : Gs × Hp, q.1.g = g ∧ exScr g.K (σ.set 1 (some u)) H1 ∧ tSv q.1 q.2 (sFor iTurns gt m) { D with nx := fun σ' H' => D.rt (.bl true) H' } (σ.set 1 (some u)) H1) E0) → tb D σ H)
    (hm : ∀ j : Nat, 4 ≤ j → j ≤ 14 → forW (fun t r => bnd (opt (gt t r)) m) ((List.range j).map fun (i : Nat) => .int (0 + (i : Int))) (rho0 N.length) (2 ^ 38) fun fl _ => ∃ ρ', fl = .nx ρ') :
    Gd.FnG g.prog g.w g.K g.mg g.base CX0 (k + 1) f fd ["_law_script"] (spLawW g) := by
  refine ⟨fun vs H Q E ⟨a, ns, h, _⟩ => by rw [h]; rfl, fun A outer s H args us vs Q E fr hr e0 hb r ⟨a, ns, hv, hq, hl, hT, hQ⟩ => ?_⟩
  subst hv
  obtain ⟨oc, od, kV, doc, pm, an, cdv, ct, osl, e, lk, hcd⟩ := F.fn.ex
  obtain ⟨c, P, t1, t2, t3, t4⟩ := tt st kV doc pm an cdv ct e
  subst e
  refine LamX.run_ofS lk hcd S hr e0 hb r rfl fun hr' => ?_
  obtain ⟨tb, h1, h2⟩ := body cdv A outer s H E (fun G hG => by subst hG; exact ⟨rfl, rfl, rfl, rfl, rfl, rfl, rfl, rfl, S.nd, hr', fr⟩) (fun G hG => by subst hG; exact ⟨c, P, t1, t2, t3, t4⟩)
  refine ⟨tb, h1.nox, h2 _ _ _ ⟨.ref a, rfl, a, ns, rfl, hq, hl, fun p L C H' hS sm np nL nC => ?_⟩⟩
  have hT' : LamX.Tabs g.tt H' := hT.ext sm
  refine ⟨(⟨g, p, L, C⟩, H'), rfl, ⟨a, ns.map V.int, ?_, sm.seq hq, by rw [List.length_map]; exact hl⟩, rho0 N.length, 2 ^ 38, ?_, .rfl', ⟨⟨0, hS, by omega⟩, hT'⟩, ?_⟩
  · rw [List.getElem?_set_ne (by omega)]; rfl
  · have hlen : (L2.start N [V.ref a]).length = N.length := by
      unfold L2.start
      simp
      omega
    refine ⟨by unfold rho0; rw [List.length_set, List.length_set, List.length_replicate, hlen], fun i s' e => ?_, fun i j t u n e1 e2 => ?_⟩
    · unfold rho0 at e
      by_cases hi : i = 1
      · subst hi
        rw [List.getElem?_set_self (by rw [List.length_replicate]; omega)] at e
        cases e
        exact ⟨_, List.getElem?_set_self (by rw [hlen]; omega), _, rfl, .loc rfl⟩
      · rw [List.getElem?_set_ne (Ne.symm hi), List.getElem?_replicate] at e
        split at e <;> cases e
    · exfalso
      unfold rho0 at e1
      by_cases hi : i = 1
      · subst hi
        rw [List.getElem?_set_self (by rw [List.length_replicate]; omega)] at e1
        cases e1
      · rw [List.getElem?_set_ne (Ne.symm hi), List.getElem?_replicate] at e1
        split at e1 <;> cases e1
  · refine ⟨fun fl _ => ∃ ρ', fl = .nx ρ', fun j j1 j2 => hm j j1 j2, fun fl b' ⟨ρ', e⟩ H2 s2 y2 S2 => ?_⟩
    subst e
    exact fun σ' _ => hQ H2
end Wp

end -- W17
section -- P3
set_option Elab.async false
set_option linter.all false
set_option maxRecDepth 100000
set_option maxHeartbeats 4000000
namespace Wp
open PySem PySem.Spec PyProof.Rows L2
abbrev s_law : Stmt := Dr.topS 42
abbrev n_law : List Str := ["_law_script", "_law_state", "_law_turn", "_law_words_here", "_law_thing_here", "_law_more", "_law_turned_here", "_law_odd_here", "_law_extra"]
theorem sc_law : FnScope n_law ["_law_script"] (defScope s_law) := ⟨rfl, rfl, rfl, by decide +kernel, rfl, by decide +kernel, by decide +kernel⟩
theorem nd_law : n_law.Nodup := by decide +kernel
def m_law (d__law_words d__law_take d__law_thing d__law_turned d__law_odd d__law_near d__law_bent d__law_pair_right d_kind_of d__law_kind d__law_is_thing : List T → M T) (r_kind_of : List T → M Unit) : Env → M Fl := sSeq (sSet 3 (mCall d__law_words (aCons (mVar 1) (aCons (mBin .add (mLit (.int 1)) (mCall d__law_take (aCons (mVar 1) (aCons (mLit (.int 4)) (aNil))))) (aNil))))) (sSeq (sSet 4 (mCall d__law_thing (aCons (mVar 1) (aCons (mVar 3) (aCons (mCall d__law_take (aCons (mVar 1) (aCons (mLit (.int 5)) (aNil)))) (aCons (mLit (.bl true)) (aNil))))))) (sSeq (sPair false false 6 7 (mCall d__law_turned (aCons (mVar 1) (aCons (mVar 4) (aNil)))) (mCall d__law_odd (aCons (mVar 1) (aNil)))) (sSeq (sSet 5 (mLst (aCons (mVar 6) (aCons (mCall d__law_near (aCons (mVar 1) (aCons (mVar 6) (aNil)))) (aCons (mCall d__law_thing (aCons (mVar 1) (aCons (mVar 3) (aCons (mLit (.int 2)) (aCons (mLit (.bl true)) (aNil)))))) (aNil)))))) (sSeq (sSet 5 (mBin .add (mVarB 5) (mLst (aCons (mVar 7) (aCons (mCall d__law_bent (aCons (mVar 1) (aCons (mVar 4) (aNil)))) (aNil)))))) (sSeq (sIf (mCmpT .inn (mLit (.bl false)) (mLc [8] (iL (mVar 5)) (gN 8) (cYes) (mCall d__law_pair_right (aCons (mVar 4) (aCons (mVar 8) (aNil)))))) (sRet (mLit (.bl false))) (sNil)) (sSeq (sIf (mOrT (mCmpT .ne (mCall d_kind_of (aCons (mVar 4) (aNil))) (mCall d__law_kind (aCons (mVar 4) (aNil)))) (mCmpT .ne (mCallP permI d_kind_of (aCons (mIx (mVarB 5) (mLit (.int 2))) (aNil))) (mCall d__law_kind (aCons (mIx (mVarB 5) (mLit (.int 2))) (aNil))))) (sRet (mLit (.bl false))) (sNil)) (sIf (mAndT (mNotT (mTru (mCall d__law_is_thing (aCons (mVar 7) (aCons (mLit (.int 60)) (aCons (mLit (.bl true)) (aNil))))))) (mNotT (mTru (mBad r_kind_of (aCons (mVar 7) (aNil)))))) (sRet (mLit (.bl false))) (sNil))))))))
theorem f_law {g : MB.Gx} (TY : Fy g) {f fb : Addr} {fd fdb : FuncData} (F : Dr.At g.K g.mg "law" s_law ["_law_script"] f fd) (tt : TabF g fd "law") (GB : FnOk g.prog g.w g.K g.mg g.base CX0 1 fb fdb ["_law_script"] (Dr.spBegun g.K)) (Ab : Dr.At g.K g.mg "_law_begun" Dr.sBegun ["_law_script"] fb fdb) {lv : Nat} (h1 : 1 ≤ lv) {d__law_words d__law_take d__law_thing d__law_turned d__law_odd d__law_near d__law_bent d__law_pair_right d_kind_of d__law_kind d__law_is_thing : List T → M T} {r_kind_of : List T → M Unit} {gB gC ME BV : Addr} {fdB fdC : FuncData} (C__law_words : FnW g "_law_words" 2 lv d__law_words) (C__law_take : FnW g "_law_take" 2 lv d__law_take) (C__law_thing : FnW g "_law_thing" 4 lv d__law_thing) (C__law_turned : FnW g "_law_turned" 2 lv d__law_turned) (C__law_odd : FnW g "_law_odd" 1 lv d__law_odd) (C__law_near : FnW g "_law_near" 2 lv d__law_near) (C__law_bent : FnW g "_law_bent" 2 lv d__law_bent) (C__law_pair_right : FnW g "_law_pair_right" 2 lv d__law_pair_right) (C_kind_of : FnW g "kind_of" 1 lv d_kind_of) (C__law_kind : FnW g "_law_kind" 1 lv d__law_kind) (C__law_is_thing : FnW g "_law_is_thing" 3 lv d__law_is_thing) (P_kind_of : FnP g "kind_of" ["result"] permI lv d_kind_of) (Bb : Dr.At g.K g.mg "_law_is_bad" Xk.stB ["_law_work"] gB fdB) (Bc : Dr.At g.K g.mg "_law_caught" Xk.stC ["_law_work"] gC fdC) (Bd : Xk.Bad g.K g.mg ME BV) {lve : Nat} (hE : lve + 3 ≤ lv) (E_kind_of : FnE g BV "kind_of" 1 lve r_kind_of)
    (hm : ∀ j : Nat, 4 ≤ j → j ≤ 14 → forW (fun t r => bnd (opt ((gN 2) t r)) (m_law d__law_words d__law_take d__law_thing d__law_turned d__law_odd d__law_near d__law_bent d__law_pair_right d_kind_of d__law_kind d__law_is_thing r_kind_of)) ((List.range j).map fun (i : Nat) => .int (0 + (i : Int))) (rho0 9) (2 ^ 38) fun fl _ => ∃ ρ', fl = .nx ρ') : Gd.FnG g.prog g.w g.K g.mg g.base CX0 (lv + 1) f fd ["_law_script"] (spLawW g) := by
  have TX := TY
  refine fn_law (N := n_law) (gt := (gN 2)) F sc_law tt GB Ab h1 (by decide) (fun cdv A outer s H E hc ht => ?_) hm
  refine ⟨_, pss_cons (ps_set (i := 1) nd_law rfl (by first | exact .inl rfl | exact .inr rfl) (pe_callG (E := E0) (Gd.FnG.of GB) (hc ⟨g, 0, 0, 0⟩ rfl).free ((hc ⟨g, 0, 0, 0⟩ rfl).room.mono h1) rfl Ab.m Ab.fn.kp Ab.b .nil pass0 (pa_cons (pe_var (i := 0) rfl (by first | exact .inl rfl | exact .inr (.inl rfl))) pa_nil)))
    (pss_cons (ps_ex (α := {q : Gs × Hp // q.1.g = g}) (t := fun q D σ H => exScr g.K σ H ∧ tSv q.1.1 q.1.2 (sFor iTurns (gN 2) (m_law d__law_words d__law_take d__law_thing d__law_turned d__law_odd d__law_near d__law_bent d__law_pair_right d_kind_of d__law_kind d__law_is_thing r_kind_of)) D σ H) fun q => ?_) (pss_one (ps_ret pe_bl))), fun D σ H ⟨v, hσ, b, ns, e, hq, hl, k⟩ => ⟨v, hσ, b, ns, e, hq, hl, fun a L C H' S sm n1 n2 n3 => ?_⟩⟩
  · obtain ⟨⟨G, H0⟩, hg⟩ := q
    dsimp only at hg
    have c := hc G hg
    have tb := ht G hg
    subst  hg
    obtain ⟨wi, w1, w2⟩ := i_turns (G := G) (H0 := H0) c rfl (.inl rfl) rfl TX.f_range rfl TX.f_max rfl TX.f_min rfl TX.f_len
    exact s_forG PassesOwn.never c w1 w2 (g_name (i := 2) c rfl (by first | exact .inl rfl | exact .inr rfl)) (s_cons (s_set (i := 3) c rfl (by first | exact .inl rfl | exact .inr rfl) (w_call c C__law_words (Nat.le_refl _) rfl (a_cons (v_ 1 c) (a_cons (shut (w_bin .add c (toB w_int) (toB (w_call c C__law_take (Nat.le_refl _) rfl (a_cons (v_ 1 c) (a_cons w_int a_nil)))))) a_nil)))) (s_cons (s_set (i := 4) c rfl (by first | exact .inl rfl | exact .inr rfl) (w_call c C__law_thing (Nat.le_refl _) rfl (a_cons (v_ 1 c) (a_cons (v_ 3 c) (a_cons (w_call c C__law_take (Nat.le_refl _) rfl (a_cons (v_ 1 c) (a_cons w_int a_nil))) (a_cons w_bl a_nil)))))) (s_cons (s_pair (i := 6) (j := 7) c rfl rfl (by decide) (by first | exact .inl rfl | exact .inr rfl) (by first | exact .inl rfl | exact .inr rfl) (x_sh (w_call c C__law_turned (Nat.le_refl _) rfl (a_cons (v_ 1 c) (a_cons (v_ 4 c) a_nil)))) (x_sh (w_call c C__law_odd (Nat.le_refl _) rfl (a_cons (v_ 1 c) a_nil)))) (s_cons (s_set (i := 5) c rfl (by first | exact .inl rfl | exact .inr rfl) (shut (w_lst (a_u (a_cons (v_ 6 c) (a_cons (w_call c C__law_near (Nat.le_refl _) rfl (a_cons (v_ 1 c) (a_cons (v_ 6 c) a_nil))) (a_cons (w_call c C__law_thing (Nat.le_refl _) rfl (a_cons (v_ 1 c) (a_cons (v_ 3 c) (a_cons w_int (a_cons w_bl a_nil))))) a_nil))))))) (s_cons (s_set (i := 5) c rfl (by first | exact .inl rfl | exact .inr rfl) (shut (w_bin .add c (b_ 5 c) (toB (shut (w_lst (a_u (a_cons (v_ 7 c) (a_cons (w_call c C__law_bent (Nat.le_refl _) rfl (a_cons (v_ 1 c) (a_cons (v_ 4 c) a_nil))) a_nil))))))))) (s_cons (s_if (t_cmp .inn c (toB w_bl) (toB (shut (w_lc [("_law_extra", 8)] c (i_list c (v_ 5 c)) (blkOk_by (N := n_law) (sc := defScope s_law) (by decide +kernel)) (fun s1 H1 C1 cl1 fp1 => (g_name (i := 8) (c.blk s1 H1 C1 cl1 fp1) rfl (by first | exact .inl rfl | exact .inr rfl))) (fun s1 H1 C1 cl1 fp1 => q_nil) (fun s1 H1 C1 cl1 fp1 => (w_call (c.blk s1 H1 C1 cl1 fp1) C__law_pair_right (Nat.le_refl _) rfl (a_cons (v_ 4 (c.blk s1 H1 C1 cl1 fp1)) (a_cons (v_ 8 (c.blk s1 H1 C1 cl1 fp1)) a_nil))))))) rfl) (s_one (s_ret w_bl)) s_nil) (s_cons (s_if (PW.pt (t_or (t_cmp .ne c (toB (w_call c C_kind_of (Nat.le_refl _) rfl (a_cons (v_ 4 c) a_nil))) (toB (w_call c C__law_kind (Nat.le_refl _) rfl (a_cons (v_ 4 c) a_nil))) (nomark _)) (t_or1 (t_cmp .ne c (toB (w_callP c P_kind_of (Nat.le_refl _) rfl (k_cons (w_ix c (b_ 5 c) (toB w_int)) k_nil) (fun r => r) (fun _ => rfl))) (toB (w_call c C__law_kind (Nat.le_refl _) rfl (a_cons (w_ix c (b_ 5 c) (toB w_int)) a_nil))) (nomark _))))) (s_one (s_ret w_bl)) s_nil) (s_one (s_if (PW.pt (t_and (t_not (t_any c (toB (w_call c C__law_is_thing (Nat.le_refl _) rfl (a_cons (v_ 7 c) (a_cons w_int (a_cons w_bl a_nil))))))) (t_and1 (t_not (t_any c (toB (w_isbad c Bb Bc Bd rfl tb E_kind_of hE (LamX.lamS_by (by decide +kernel)) rfl (fun _ _ _ _ _ => rfl) rfl (fun GL HL YL cL => (a_cons (v_ 7 cL) a_nil))))))))) (s_one (s_ret w_bl)) s_nil)))))))))
  · obtain ⟨q, hg, h⟩ := k a L C H' S sm n1 n2 n3
    exact ⟨⟨q, hg⟩, h⟩
end Wp

end -- P3
section -- L1
set_option linter.all false
set_option maxRecDepth 100000
set_option maxHeartbeats 1000000
/-! Plain: what the small defs answer. -/
namespace Wp
open PySem PySem.Spec L2
/-- x answers a, and draws nothing -/
def Pm {α : Type} (x : M α) (a : α) : Prop := ∀ (b : Nat) (R : α → Nat → Prop), R a b → x b R
section
variable {α β : Type} {x y : M α} {a : α}
theorem pm_ret : Pm (ret a) a := fun _ _ r => r
theorem pm_bnd {f : α → M β} {c : β} (h : Pm x a) (k : Pm (f a) c) : Pm (bnd x f) c := fun b R r => h b _ (k b R r)
theorem pm_opt {o : Option α} (h : o = some a) : Pm (opt o) a := fun b R r => ⟨a, h, r⟩
theorem pm_t (h : Pm x a) : Pm (if true = true then x else y) a := by rw [if_pos rfl]; exact h
theorem pm_f (h : Pm y a) : Pm (if false = true then x else y) a := by rw [if_neg Bool.false_ne_true]; exact h
theorem Pm.cast {c : α} (h : Pm x a) (e : a = c) : Pm x c := e ▸ h
end
section
variable {m m' : Env → M Fl} {ρ ρ' : Env} {f : Fl} {t : T} {A : Env → M T} {C : Env → M Bool} {ns : Nat} {ts : List T}
theorem q_run (h : Pm (m (startE ns ts)) (.rt t)) : Pm (runW ns m ts) t := pm_bnd h pm_ret
theorem q_ret (h : Pm (A ρ) t) : Pm (sRet A ρ) (.rt t) := pm_bnd h pm_ret
theorem q_rt (h : Pm (m ρ) (.rt t)) : Pm (sSeq m m' ρ) (.rt t) := pm_bnd h pm_ret
theorem q_nx (h : Pm (m ρ) (.nx ρ')) (k : Pm (m' ρ') f) : Pm (sSeq m m' ρ) f := pm_bnd h k
theorem q_ift (h : Pm (C ρ) true) (k : Pm (m ρ) f) : Pm (sIf C m m' ρ) f := pm_bnd h (pm_t k)
theorem q_iff (h : Pm (C ρ) false) (k : Pm (m' ρ) f) : Pm (sIf C m m' ρ) f := pm_bnd h (pm_f k)
theorem q_none : Pm (sNil ρ) (.nx ρ) := pm_ret
end
theorem pm_walk {α : Type} {f : T → M (Option α)} {h : T → Option α} : ∀ (ts : List T), (∀ t ∈ ts, Pm (f t) (h t)) → Pm (walkW f ts) (ts.filterMap h)
  | [], _ => pm_ret
  | t :: ts, hf => by
    refine pm_bnd (hf t List.mem_cons_self) (pm_bnd (pm_walk ts fun u hu => hf u (List.mem_cons_of_mem _ hu)) ?_)
    rw [List.filterMap_cons]
    cases h t <;> exact pm_ret
/-- a comprehension over ts, without a test -/
theorem pm_lc {own : List Nat} {I : Env → M (List T)} {g : T → Env → Option Env} {C : Env → M Bool} {E : Env → M T} {ρ : Env} {ts : List T} {h : T → Option T} (hi : Pm (I ρ) ts) (he : ∀ t ∈ ts, Pm (lcT own g C E ρ t) (h t)) : Pm (mLc own I g C E ρ) (.lst (ts.filterMap h)) :=
  pm_bnd hi (pm_bnd (pm_walk ts he) pm_ret)
def LET : Str := "abcdefghijklmnopqrstuvwxyz"
def signs (x : Str) : List T := x.cps.toList.map fun c => .str ⟨#[c]⟩
def inLet : T → Bool
  | .str x => MB.strIn x LET
  | _ => false
def allLet (x : Str) : Bool := (signs x).all inLet
def wordB (n : Int) (x : Str) : Bool := decide (n ≤ x.length) && (decide ((x.length : Int) ≤ 8) && allLet x)
def lettersB : T → Bool
  | .str x => wordB 0 x
  | _ => false
/-- a text that is short -/
def shortB : T → Bool
  | .str x => decide (x.length ≤ 1000)
  | _ => true
def isK (n : String) (t : T) : Bool := (kitB (tyN t) n).getD false
def isStr : T → Bool
  | .str _ => true
  | _ => false
theorem isi_of {n : String} {t : T} {b : Bool} (h : plain7 t = true) (k : kitB (tyN t) n = some b) : isiT n t = some (.bl b) := by
  unfold isiT
  rw [if_pos h, k]
  rfl
theorem isi_str (t : T) (h : plain7 t = true) : isiT "str" t = some (.bl (isStr t)) := by
  refine isi_of h ?_
  cases t <;> first | exact (by decide +kernel : kitB "NoneType" "str" = some false) | exact (by decide +kernel : kitB "bool" "str" = some false) | exact (by decide +kernel : kitB "int" "str" = some false) | exact (by decide +kernel : kitB "str" "str" = some true) | exact (by decide +kernel : kitB "list" "str" = some false) | exact (by decide +kernel : kitB "tuple" "str" = some false) | exact (by decide +kernel : kitB "dict" "str" = some false) | cases h
theorem len_short {y : Str} (h : y.length ≤ 1000) : y.length ≤ sizeLine := Nat.le_trans h (by rw [sizeLine_eq]; omega)
theorem boolsT_map {f : T → Bool} : ∀ ts : List T, MB.boolsT (ts.map fun t => MB.T.bl (f t)) = some (ts.map f)
  | [] => rfl
  | t :: ts => by
    have := boolsT_map (f := f) ts
    simp only [List.map_cons]
    unfold MB.boolsT
    rw [this] <;> rfl
theorem all_map {f : T → Bool} (ts : List T) : allW (.lst (ts.map fun t => .bl (f t))) = some (.bl (ts.all f)) := by
  show Option.map (fun l => MB.T.bl (l.all id)) (MB.boolsT (ts.map fun t => MB.T.bl (f t))) = _
  rw [boolsT_map, Option.map_some, List.all_map]
  rfl
theorem filterMap_some {α β : Type} (f : α → β) (l : List α) : l.filterMap (fun x => some (f x)) = l.map f := by simp
def d_letters : List T → M T := runW 2 m_is_letters
theorem a_letters (x : T) (h : plain7 x = true) (hs : shortB x = true) : Pm (d_letters [x]) (.bl (lettersB x)) := by
  refine pm_bnd (a := Fl.rt (.bl (lettersB x))) ?_ pm_ret
  refine pm_bnd (a := (MB.T.bl (lettersB x) : T)) ?_ pm_ret
  refine pm_bnd (pm_bnd (pm_opt rfl) (pm_opt (isi_str x h))) (pm_bnd (pm_opt rfl) ?_)
  cases x with
  | str y =>
    have hs : y.length ≤ 1000 := of_decide_eq_true hs
    refine pm_t (pm_bnd (pm_bnd (pm_bnd (pm_opt rfl) (pm_opt (if_pos (len_short hs)))) (pm_bnd pm_ret (pm_opt rfl))) (pm_bnd (pm_opt rfl) ?_))
    by_cases h8 : (y.length : Int) ≤ 8
    · rw [show (decide ((y.length : Int) ≤ 8)) = true from decide_eq_true h8]
      refine pm_t ?_
      have lc : Pm (mLc [1] (iS (mVar 0)) (gN 1) cYes (mCmp .inn (mVarB 1) (mLit (.str "abcdefghijklmnopqrstuvwxyz"))) (startE 2 [.str y])) (.lst ((signs y).filterMap fun t => some (.bl (inLet t)))) := by
        refine pm_lc (pm_bnd (pm_opt rfl) (pm_opt (if_pos (len_short hs)))) fun t ht => ?_
        obtain ⟨c, _, rfl⟩ := List.mem_map.mp ht
        exact pm_bnd (pm_opt rfl) (pm_bnd pm_ret (pm_t (pm_bnd (pm_bnd (pm_opt rfl) (pm_bnd pm_ret (pm_opt rfl))) pm_ret)))
      refine pm_bnd lc (pm_opt ?_)
      rw [filterMap_some, all_map]
      show some (MB.T.bl (allLet y)) = some (MB.T.bl (decide ((0 : Int) ≤ y.length) && (decide ((y.length : Int) ≤ 8) && allLet y)))
      rw [decide_eq_true h8, decide_eq_true (by omega : (0 : Int) ≤ (y.length : Int))]
      rfl
    · rw [show (decide ((y.length : Int) ≤ 8)) = false from decide_eq_false h8]
      refine pm_f (pm_ret.cast ?_)
      show MB.T.bl false = MB.T.bl (decide ((0 : Int) ≤ y.length) && (decide ((y.length : Int) ≤ 8) && allLet y))
      rw [decide_eq_false h8]
      simp
  | _ => first | exact pm_f pm_ret | cases h
/-! ### names, items -/
def nameB : T → Bool
  | .str x => wordB 0 x && !decide (x = "")
  | _ => false
def d_name : List T → M T := runW 1 (m_is_name d_letters)
theorem a_name (x : T) (h : plain7 x = true) (hs : shortB x = true) : Pm (d_name [x]) (.bl (nameB x)) := by
  refine pm_bnd (a := Fl.rt (.bl (nameB x))) ?_ pm_ret
  refine pm_bnd (a := (MB.T.bl (nameB x) : T)) ?_ pm_ret
  refine pm_bnd (pm_bnd (pm_bnd (pm_opt rfl) (pm_bnd pm_ret pm_ret)) (a_letters x h hs)) (pm_bnd (pm_opt rfl) ?_)
  cases x with
  | str y =>
    cases e : lettersB (.str y) with
    | true =>
      refine pm_t (pm_bnd (pm_opt rfl) (pm_bnd pm_ret (pm_opt ?_)))
      show some (MB.T.bl (!decide (y = ("" : Str)))) = some (MB.T.bl (wordB 0 y && !decide (y = "")))
      rw [show wordB 0 y = true from e]
      rfl
    | false =>
      refine pm_f (pm_ret.cast ?_)
      show MB.T.bl false = MB.T.bl (wordB 0 y && !decide (y = ""))
      rw [show wordB 0 y = false from e]
      rfl
  | _ => first | exact pm_f pm_ret | cases h
def isNone : T → Bool
  | .non => true
  | _ => false
def isInt : T → Bool
  | .int _ | .bl _ => true
  | _ => false
theorem isi_int (t : T) (h : plain7 t = true) : isiT "int" t = some (.bl (isInt t)) := by
  refine isi_of h ?_
  cases t <;> first | exact (by decide +kernel : kitB "NoneType" "int" = some false) | exact (by decide +kernel : kitB "bool" "int" = some true) | exact (by decide +kernel : kitB "int" "int" = some true) | exact (by decide +kernel : kitB "str" "int" = some false) | exact (by decide +kernel : kitB "list" "int" = some false) | exact (by decide +kernel : kitB "tuple" "int" = some false) | exact (by decide +kernel : kitB "dict" "int" = some false) | cases h
def itemB (x : T) : Bool := isNone x || (isInt x || lettersB x)
def d_item : List T → M T := runW 1 (m_is_item d_letters)
theorem a_item (x : T) (h : plain7 x = true) (hs : shortB x = true) : Pm (d_item [x]) (.bl (itemB x)) := by
  refine pm_bnd (a := Fl.rt (.bl (itemB x))) ?_ pm_ret
  refine pm_bnd (a := (MB.T.bl (itemB x) : T)) ?_ pm_ret
  refine pm_bnd (a := (MB.T.bl (isNone x) : T)) (pm_bnd (pm_opt rfl) (pm_bnd pm_ret (pm_opt ?_))) (pm_bnd (pm_opt rfl) ?_)
  · cases x <;> rfl
  cases e : isNone x with
  | true => exact pm_t (pm_ret.cast (by unfold itemB; rw [e]; rfl))
  | false =>
    refine pm_f (pm_bnd (pm_bnd (pm_opt rfl) (pm_opt (isi_int x h))) (pm_bnd (pm_opt rfl) ?_))
    cases e2 : isInt x with
    | true => exact pm_t (pm_ret.cast (by unfold itemB; rw [e, e2]; rfl))
    | false =>
      refine pm_f (Pm.cast (a := (MB.T.bl (lettersB x) : T)) ?_ (by unfold itemB; rw [e, e2]; rfl))
      exact pm_bnd (pm_bnd (pm_opt rfl) (pm_bnd pm_ret pm_ret)) (a_letters x h hs)
/-! ### the law's own look at texts and items -/
def d_lword : List T → M T := runW 3 m__law_is_word
def lwordB (n : Int) : T → Bool
  | .str x => wordB n x
  | _ => false
theorem filter_nil {f : T → Bool} : ∀ ts : List T, (ts.filterMap fun t => if f t = true then none else some t) = [] ↔ ts.all f = true
  | [] => by simp
  | t :: ts => by
    rw [List.filterMap_cons, List.all_cons]
    cases e : f t with
    | true => simp only [if_true, Bool.true_and]; exact filter_nil ts
    | false => simp
theorem pm_or {A B : Env → M Bool} {ρ : Env} {a b : Bool} (h : Pm (A ρ) a) (k : a = false → Pm (B ρ) b) : Pm (mOrT A B ρ) (a || b) := by
  refine pm_bnd h ?_
  cases a with
  | true => exact pm_t pm_ret
  | false => exact pm_f ((k rfl).cast (by simp))
theorem eq_none {ys : List T} (hp : True ∨ True) : MB.eqT (.lst ys) (.lst []) = some ys.isEmpty := by
  unfold MB.eqT
  rw [if_neg (by simp [MB.T.atom])]
  cases ys with
  | nil => rfl
  | cons y ys => rfl
theorem str_pl (c : Nat) (h : c < 0x110000) : MB.T.pl 8 (.str ⟨#[c]⟩) = true := by simp [MB.T.pl, h]
theorem a_lword (x : T) (n : Int) (h : plain7 x = true) (hs : shortB x = true) : Pm (d_lword [x, .int n]) (.bl (lwordB n x)) := by
  refine q_run ?_
  have t1 : Pm (mNotT (mTru (mB1 (isiT "str") (mVarB 0))) (startE 3 [x, .int n])) (!isStr x) := pm_bnd (a := isStr x) (pm_bnd (pm_bnd (pm_opt rfl) (pm_opt (isi_str x h))) (pm_opt rfl)) pm_ret
  by_cases hx : ∃ y, x = .str y
  · obtain ⟨y, rfl⟩ := hx
    have hs : y.length ≤ 1000 := of_decide_eq_true hs
    have t2 : Pm (mChnT .le .le (mVarB 1) (mB1 lenW (mVarB 0)) (mLit (.int 8)) (startE 3 [.str y, .int n])) (decide (n ≤ y.length) && decide ((y.length : Int) ≤ 8)) := by
      refine pm_bnd (a := (.int n : T)) (pm_opt rfl) (pm_bnd (a := (.int y.length : T)) (pm_bnd (pm_opt rfl) (pm_opt (if_pos (len_short hs)))) (pm_bnd (a := decide (n ≤ (y.length : Int))) (pm_opt rfl) ?_))
      cases decide (n ≤ (y.length : Int)) with
      | true => exact pm_t (pm_bnd (a := (.int 8 : T)) pm_ret (pm_opt rfl))
      | false => exact pm_f pm_ret
    have t3 := pm_or (B := mNotT (mChnT .le .le (mVarB 1) (mB1 lenW (mVarB 0)) (mLit (.int 8)))) (b := !(decide (n ≤ (y.length : Int)) && decide ((y.length : Int) ≤ 8))) t1 (fun _ => pm_bnd t2 pm_ret)
    cases e : (decide (n ≤ (y.length : Int)) && decide ((y.length : Int) ≤ 8)) with
    | false =>
      rw [e] at t3
      have t4 := q_ret (A := mLit (.bl false)) (ρ := startE 3 [.str y, .int n]) (t := .bl false) pm_ret
      refine (q_rt (q_ift (t3.cast rfl) t4)).cast ?_
      show Fl.rt (.bl false) = Fl.rt (.bl (decide (n ≤ (y.length : Int)) && (decide ((y.length : Int) ≤ 8) && allLet y)))
      rw [← Bool.and_assoc, e]
      rfl
    | true =>
      rw [e] at t3
      refine q_nx (q_iff (t3.cast rfl) q_none) (q_ret ?_)
      have lc : Pm (mLc [2] (iS (mVar 0)) (gN 2) (mCmpT .nin (mVarB 2) (mLit (.str "abcdefghijklmnopqrstuvwxyz"))) (mVar 2) (startE 3 [.str y, .int n])) (.lst ((signs y).filterMap fun t => if inLet t = true then none else some t)) := by
        refine pm_lc (pm_bnd (pm_opt rfl) (pm_opt (if_pos (len_short hs)))) fun t ht => ?_
        obtain ⟨c, _, rfl⟩ := List.mem_map.mp ht
        refine pm_bnd (pm_opt rfl) (pm_bnd (a := !inLet (.str ⟨#[c]⟩)) (pm_bnd (pm_opt rfl) (pm_bnd pm_ret (pm_opt rfl))) ?_)
        cases inLet (.str ⟨#[c]⟩) with
        | true => exact pm_f pm_ret
        | false => exact pm_t (pm_bnd (pm_opt rfl) pm_ret)
      refine pm_bnd lc (pm_bnd (a := (.lst [] : T)) (pm_bnd (a := ([] : List T)) pm_ret (pm_opt rfl)) (pm_opt ?_))
      show Option.map MB.T.bl (MB.eqT _ _) = _
      rw [eq_none (.inl trivial)]
      show some (MB.T.bl _) = some (MB.T.bl (decide (n ≤ (y.length : Int)) && (decide ((y.length : Int) ≤ 8) && allLet y)))
      rw [← Bool.and_assoc, e, Bool.true_and]
      congr 2
      rw [Bool.eq_iff_iff, List.isEmpty_iff, filter_nil]
      rfl
  · have e : isStr x = false := by cases x <;> first | rfl | exact absurd ⟨_, rfl⟩ hx
    have e2 : lwordB n x = false := by cases x <;> first | rfl | exact absurd ⟨_, rfl⟩ hx
    rw [e2]
    rw [e] at t1
    have t3 := pm_or (B := mNotT (mChnT .le .le (mVarB 1) (mB1 lenW (mVarB 0)) (mLit (.int 8)))) (b := true) t1 (fun z => nomatch z)
    exact q_rt (q_ift t3 (q_ret pm_ret))
end Wp

end -- L1
section -- L2
set_option linter.all false
set_option maxRecDepth 100000
set_option maxHeartbeats 1000000
/-! Plain: stands. -/
namespace Wp
open PySem PySem.Spec L2
def isDct : T → Bool
  | .dct _ => true
  | _ => false
def isLst : T → Bool
  | .lst _ => true
  | _ => false
def isTup : T → Bool
  | .tup _ => true
  | _ => false
theorem isi_dct (t : T) (h : plain7 t = true) : isiT "dict" t = some (.bl (isDct t)) := by
  refine isi_of h ?_
  cases t <;> first | exact (by decide +kernel : kitB "NoneType" "dict" = some false) | exact (by decide +kernel : kitB "bool" "dict" = some false) | exact (by decide +kernel : kitB "int" "dict" = some false) | exact (by decide +kernel : kitB "str" "dict" = some false) | exact (by decide +kernel : kitB "list" "dict" = some false) | exact (by decide +kernel : kitB "tuple" "dict" = some false) | exact (by decide +kernel : kitB "dict" "dict" = some true) | cases h
theorem isi_lst (t : T) (h : plain7 t = true) : isiT "list" t = some (.bl (isLst t)) := by
  refine isi_of h ?_
  cases t <;> first | exact (by decide +kernel : kitB "NoneType" "list" = some false) | exact (by decide +kernel : kitB "bool" "list" = some false) | exact (by decide +kernel : kitB "int" "list" = some false) | exact (by decide +kernel : kitB "str" "list" = some false) | exact (by decide +kernel : kitB "list" "list" = some true) | exact (by decide +kernel : kitB "tuple" "list" = some false) | exact (by decide +kernel : kitB "dict" "list" = some false) | cases h
theorem isi_tup (t : T) (h : plain7 t = true) : isiT "tuple" t = some (.bl (isTup t)) := by
  refine isi_of h ?_
  cases t <;> first | exact (by decide +kernel : kitB "NoneType" "tuple" = some false) | exact (by decide +kernel : kitB "bool" "tuple" = some false) | exact (by decide +kernel : kitB "int" "tuple" = some false) | exact (by decide +kernel : kitB "str" "tuple" = some false) | exact (by decide +kernel : kitB "list" "tuple" = some false) | exact (by decide +kernel : kitB "tuple" "tuple" = some true) | exact (by decide +kernel : kitB "dict" "tuple" = some false) | cases h
/-- trees that are met, so deep at most -/
def WF : Nat → T → Bool
  | 0, _ => false
  | _ + 1, .non | _ + 1, .bl _ | _ + 1, .int _ => true
  | _ + 1, .str x => decide (x.length ≤ 1000) && x.cps.all (· < 0x110000)
  | n + 1, .lst ts => ts.all (WF n) && decide (ts.length ≤ 1000)
  | n + 1, .tup ts => ts.all (WF n) && ts.all (MB.T.pl 7)
  | n + 1, .dct kvs => (kvs.all fun q => WF n q.1 && WF n q.2) && decide ((kvs.map fun q => q.1.tk).Nodup ∧ kvs.length ≤ 4)
  | _ + 1, _ => false
theorem wf_plain {n : Nat} {x : T} (h : WF n x = true) : plain7 x = true := by
  cases n with
  | zero => cases h
  | succ n => cases x <;> first | rfl | (unfold WF at h; cases h)
theorem wf_short {n : Nat} {x : T} (h : WF n x = true) : shortB x = true := by
  cases n with
  | zero => cases h
  | succ n =>
    cases x with
    | str y =>
      unfold WF at h
      rw [Bool.and_eq_true] at h
      exact h.1
    | _ => rfl
def standsB : Nat → Int → Bool → T → Bool
  | 0, _, _, _ => false
  | f + 1, n, m, .dct kvs => !decide (n = 0) && ((kvs.all fun q => nameB q.1) && kvs.all fun q => standsB f (n - 1) m q.2)
  | _ + 1, _, _, .lst ts => ts.all itemB
  | _ + 1, _, m, .tup ts => m && ts.isEmpty
  | _ + 1, _, _, x => itemB x
def k_st : Nat → List T → M T
  | 0 => fun _ => nev
  | l + 1 => runW 6 (m_stands d_name d_item (k_st l))
theorem all_fst {f : T → Bool} (kvs : List (T × T)) : (kvs.map (·.1)).all f = kvs.all fun q => f q.1 := by rw [List.all_map]; rfl
theorem all_snd {f : T → Bool} (kvs : List (T × T)) : (kvs.map (·.2)).all f = kvs.all fun q => f q.2 := by rw [List.all_map]; rfl
theorem name_key {t : T} (h : nameB t = true) : t.key.isSome = true := by cases t <;> first | rfl | cases h
theorem a_stands : ∀ (f l : Nat), f ≤ l → ∀ (x : T) (n : Int) (m : Bool), WF f x = true → Pm (k_st l [x, .int n, .bl m]) (.bl (standsB f n m x))
  | 0, _, _, x, _, _, h => by cases h
  | f + 1, 0, hl, _, _, _, _ => by omega
  | f + 1, l + 1, hl, x, n, m, h => by
    have ih := a_stands f l (by omega)
    have p := wf_plain h
    have hsh := wf_short h
    show Pm (runW 6 (m_stands d_name d_item (k_st l)) [x, .int n, .bl m]) _
    refine q_run ?_
    have t1 : Pm (mTru (mB1 (isiT "dict") (mVarB 0)) (startE 6 [x, .int n, .bl m])) (isDct x) := pm_bnd (pm_bnd (pm_opt rfl) (pm_opt (isi_dct x p))) (pm_opt rfl)
    have t2 : Pm (mTru (mB1 (isiT "list") (mVarB 0)) (startE 6 [x, .int n, .bl m])) (isLst x) := pm_bnd (pm_bnd (pm_opt rfl) (pm_opt (isi_lst x p))) (pm_opt rfl)
    by_cases hd : ∃ kvs, x = .dct kvs
    · obtain ⟨kvs, rfl⟩ := hd
      have hk : ∀ q ∈ kvs, WF f q.1 = true ∧ WF f q.2 = true := fun q hq => by
        have h0 := (show ((kvs.all fun q => WF f q.1 && WF f q.2) && decide ((kvs.map fun q => q.1.tk).Nodup ∧ kvs.length ≤ 4)) = true from h)
        rw [Bool.and_eq_true] at h0
        have := List.all_eq_true.mp h0.1 q hq
        rw [Bool.and_eq_true] at this
        exact this
      refine q_rt (q_ift t1 ?_)
      have c1 : Pm (mCmpT .eq (mVarB 1) (mLit (.int 0)) (startE 6 [.dct kvs, .int n, .bl m])) (decide (n = 0)) := pm_bnd (pm_opt rfl) (pm_bnd pm_ret (pm_opt (by show some (n == 0) = some (decide (n = 0)); rfl)))
      have c2 : Pm (mNotT (mTru (mB1 allW (mLc [5] (iK (mVar 0)) (gN 5) cYes (mCall d_name (aCons (mVar 5) aNil))))) (startE 6 [.dct kvs, .int n, .bl m])) (!(kvs.all fun q => nameB q.1)) := by
        refine pm_bnd (a := kvs.all fun q => nameB q.1) (pm_bnd (a := (.bl (kvs.all fun q => nameB q.1) : T)) (pm_bnd (a := (.lst ((kvs.map (·.1)).filterMap fun t => some (.bl (nameB t))) : T)) (pm_lc (pm_bnd (pm_opt rfl) (pm_opt rfl)) fun t ht => ?_) (pm_opt ?_)) (pm_opt rfl)) pm_ret
        · obtain ⟨q, hq, rfl⟩ := List.mem_map.mp ht
          exact pm_bnd (pm_opt rfl) (pm_bnd pm_ret (pm_t (pm_bnd (pm_bnd (pm_bnd (pm_opt rfl) (pm_bnd pm_ret pm_ret)) (a_name q.1 (wf_plain (hk q hq).1) (wf_short (hk q hq).1))) pm_ret)))
        · rw [filterMap_some, all_map, all_fst]
      have c3 := pm_or c1 (fun _ => c2)
      cases e : (decide (n = 0) || !(kvs.all fun q => nameB q.1)) with
      | true =>
        rw [e] at c3
        refine (q_rt (q_ift c3 (q_ret pm_ret))).cast ?_
        show Fl.rt (.bl false) = Fl.rt (.bl (!decide (n = 0) && ((kvs.all fun q => nameB q.1) && kvs.all fun q => standsB f (n - 1) m q.2)))
        have z : (!decide (n = 0) && ((kvs.all fun q => nameB q.1) && kvs.all fun q => standsB f (n - 1) m q.2)) = false := by
          revert e
          cases decide (n = 0) <;> cases (kvs.all fun q => nameB q.1) <;> intro e <;> first | rfl | exact absurd e (by decide)
        rw [z]
      | false =>
        rw [e] at c3
        rw [Bool.or_eq_false_iff] at e
        have hn : (kvs.all fun q => nameB q.1) = true := by have := e.2; cases q : (kvs.all fun q => nameB q.1) <;> first | rfl | (rw [q] at this; cases this)
        refine q_nx (q_iff c3 q_none) (q_ret (Pm.cast (a := (.bl (kvs.all fun q => standsB f (n - 1) m q.2) : T)) ?_ ?_))
        · refine pm_bnd (a := (.lst ((kvs.map (·.2)).filterMap fun t => some (.bl (standsB f (n - 1) m t))) : T)) (pm_lc (pm_bnd (pm_opt rfl) (pm_opt (if_pos ?_))) fun t ht => ?_) (pm_opt ?_)
          · rw [List.all_eq_true]
            intro q hq
            exact name_key (List.all_eq_true.mp hn q hq)
          · obtain ⟨q, hq, rfl⟩ := List.mem_map.mp ht
            refine pm_bnd (pm_opt rfl) (pm_bnd pm_ret (pm_t (pm_bnd (a := (.bl (standsB f (n - 1) m q.2) : T)) ?_ pm_ret)))
            exact pm_bnd (pm_bnd (pm_opt rfl) (pm_bnd (pm_bnd (pm_bnd (pm_opt rfl) (pm_bnd pm_ret (pm_opt rfl))) (pm_bnd pm_ret pm_ret)) pm_ret)) (pm_bnd (pm_bnd (pm_opt rfl) (pm_bnd pm_ret pm_ret)) (ih q.2 (n - 1) m (hk q hq).2))
          · rw [filterMap_some, all_map, all_snd]
        · show MB.T.bl _ = MB.T.bl (!decide (n = 0) && ((kvs.all fun q => nameB q.1) && kvs.all fun q => standsB f (n - 1) m q.2))
          rw [e.1, hn]; rfl
    · have e : isDct x = false := by cases x <;> first | rfl | exact absurd ⟨_, rfl⟩ hd
      rw [e] at t1
      refine q_nx (q_iff t1 q_none) ?_
      by_cases hl2 : ∃ ts, x = .lst ts
      · obtain ⟨ts, rfl⟩ := hl2
        have hk : ∀ q ∈ ts, WF f q = true := List.all_eq_true.mp (by have h0 := (show (ts.all (WF f) && decide (ts.length ≤ 1000)) = true from h); rw [Bool.and_eq_true] at h0; exact h0.1)
        refine q_rt (q_ift t2 (q_ret ?_))
        refine pm_bnd (a := (.lst (ts.filterMap fun t => some (.bl (itemB t))) : T)) (pm_lc (pm_bnd (pm_opt rfl) (pm_opt rfl)) fun t ht => ?_) (pm_opt ?_)
        · exact pm_bnd (pm_opt rfl) (pm_bnd pm_ret (pm_t (pm_bnd (pm_bnd (pm_bnd (pm_opt rfl) (pm_bnd pm_ret pm_ret)) (a_item t (wf_plain (hk t ht)) (wf_short (hk t ht)))) pm_ret)))
        · rw [filterMap_some, all_map]; rfl
      · have e2 : isLst x = false := by cases x <;> first | rfl | exact absurd ⟨_, rfl⟩ hl2
        rw [e2] at t2
        refine q_nx (q_iff t2 q_none) (q_ret ?_)
        have i1 : Pm (mCall d_item (aCons (mVar 0) aNil) (startE 6 [x, .int n, .bl m])) (.bl (itemB x)) := pm_bnd (pm_bnd (pm_opt rfl) (pm_bnd pm_ret pm_ret)) (a_item x p hsh)
        refine pm_bnd i1 (pm_bnd (pm_opt rfl) ?_)
        cases e3 : itemB x with
        | true => exact pm_t (pm_ret.cast (by cases x <;> first | (exact congrArg MB.T.bl e3.symm) | cases e3 | exact absurd ⟨_, rfl⟩ hd | exact absurd ⟨_, rfl⟩ hl2))
        | false =>
          refine pm_f (pm_bnd (a := (.bl m : T)) (pm_opt rfl) (pm_bnd (pm_opt rfl) ?_))
          cases m with
          | false => exact pm_f (pm_ret.cast (by cases x <;> first | (exact congrArg MB.T.bl e3.symm) | rfl | exact absurd ⟨_, rfl⟩ hd | exact absurd ⟨_, rfl⟩ hl2))
          | true =>
            refine pm_t (pm_bnd (pm_bnd (pm_opt rfl) (pm_opt (isi_tup x p))) (pm_bnd (pm_opt rfl) ?_))
            cases x with
            | tup ts =>
              refine pm_t (pm_bnd (pm_opt rfl) (pm_bnd pm_ret (pm_opt ?_)))
              have hp : ts.all (MB.T.pl 7) = true := by
                have := (show (ts.all (WF f) && ts.all (MB.T.pl 7)) = true from h)
                rw [Bool.and_eq_true] at this
                exact this.2
              show Option.map MB.T.bl (MB.eqT (.tup ts) (.tup [])) = some (MB.T.bl (true && ts.isEmpty))
              unfold MB.eqT
              rw [if_neg (by simp [MB.T.atom])]
              have q1 : MB.T.pl 8 (.tup ts) = true := by unfold MB.T.pl; exact hp
              have q2 : MB.T.pl 8 (.tup []) = true := rfl
              simp only [q1, q2, Bool.and_self, if_true]
              cases ts <;> rfl
            | _ => first | exact pm_f (pm_ret.cast (congrArg MB.T.bl e3.symm)) | exact absurd ⟨_, rfl⟩ hd | exact absurd ⟨_, rfl⟩ hl2 | cases p
end Wp

end -- L2
section -- L3
set_option linter.all false
set_option maxRecDepth 100000
set_option maxHeartbeats 1000000
/-! Plain: items by the law's own look; is_result. -/
namespace Wp
open PySem PySem.Spec L2
def d_litem : List T → M T := runW 1 (m__law_is_item d_lword)
theorem lword0 (x : T) : lwordB 0 x = lettersB x := by cases x <;> rfl
theorem a_litem (x : T) (h : plain7 x = true) (hs : shortB x = true) : Pm (d_litem [x]) (.bl (itemB x)) := by
  refine q_run (q_ret ?_)
  refine pm_bnd (a := (MB.T.bl (isNone x) : T)) (pm_bnd (pm_opt rfl) (pm_bnd pm_ret (pm_opt ?_))) (pm_bnd (pm_opt rfl) ?_)
  · cases x <;> rfl
  cases e : isNone x with
  | true => exact pm_t (pm_ret.cast (by unfold itemB; rw [e]; rfl))
  | false =>
    refine pm_f (pm_bnd (pm_bnd (pm_opt rfl) (pm_opt (isi_int x h))) (pm_bnd (pm_opt rfl) ?_))
    cases e2 : isInt x with
    | true => exact pm_t (pm_ret.cast (by unfold itemB; rw [e, e2]; rfl))
    | false =>
      refine pm_f (Pm.cast (a := (MB.T.bl (lwordB 0 x) : T)) ?_ (by unfold itemB; rw [e, e2, lword0]; rfl))
      exact pm_bnd (pm_bnd (pm_opt rfl) (pm_bnd (pm_bnd pm_ret (pm_bnd pm_ret pm_ret)) pm_ret)) (a_lword x 0 h hs)
def d_result (l : Nat) : List T → M T := runW 1 (m_is_result (k_st l))
theorem a_result (f l : Nat) (hl : f ≤ l) (x : T) (h : WF f x = true) : Pm (d_result l [x]) (.bl (standsB f 60 true x)) := by
  refine q_run (q_ret ?_)
  exact pm_bnd (pm_bnd (pm_opt rfl) (pm_bnd (pm_bnd pm_ret (pm_bnd pm_ret pm_ret)) pm_ret)) (pm_bnd (pm_bnd pm_ret (pm_bnd pm_ret pm_ret)) (a_stands f l hl x 60 true h))
end Wp

end -- L3
section -- L4
set_option linter.all false
set_option maxRecDepth 100000
set_option maxHeartbeats 1000000
/-! Plain: _law_is_thing. -/
namespace Wp
open PySem PySem.Spec L2
def k_th : Nat → List T → M T
  | 0 => fun _ => nev
  | l + 1 => runW 5 (m__law_is_thing d_lword (k_th l) d_litem)
theorem lword_name {t : T} : lwordB 1 t = nameB t := by
  cases t with
  | str y =>
    show (decide ((1 : Int) ≤ y.length) && (decide ((y.length : Int) ≤ 8) && allLet y)) = ((decide ((0 : Int) ≤ y.length) && (decide ((y.length : Int) ≤ 8) && allLet y)) && !decide (y = ""))
    by_cases e : y = ""
    · subst e; rfl
    · have h : y.length ≠ 0 := fun z => e (by
        obtain ⟨c⟩ := y
        have : c.size = 0 := z
        rw [Array.eq_empty_of_size_eq_zero this]
        rfl)
      have h1 : (1 : Int) ≤ y.length := by omega
      have h2 : (0 : Int) ≤ y.length := by omega
      simp [h1, h2, e]
  | _ => rfl
theorem dget_of {kvs : List (T × T)} (nd : (kvs.map fun q => q.1.tk).Nodup) : ∀ q ∈ kvs, MB.dget kvs q.1 = some q.2 := by
  induction kvs with
  | nil => intro q hq; cases hq
  | cons p ps ih =>
    rw [List.map_cons, List.nodup_cons] at nd
    intro q hq
    unfold MB.dget
    rw [List.find?_cons]
    rcases List.mem_cons.mp hq with rfl | hq
    · simp
    · have ne : ¬ p.1.tk = q.1.tk := fun e => nd.1 (by rw [e]; exact List.mem_map.mpr ⟨q, hq, rfl⟩)
      rw [decide_eq_false ne]
      exact ih nd.2 q hq
theorem dform_of {kvs : List (T × T)} (h : (kvs.all fun q => nameB q.1) = true) {q : T × T} (hq : q ∈ kvs) : (q.1.key.isSome && MB.dform kvs q.1) = true := by
  have str : ∀ p ∈ kvs, ∃ x, p.1 = .str x := fun p hp => by
    have := List.all_eq_true.mp h p hp
    cases e : p.1 <;> rw [e] at this <;> first | exact ⟨_, rfl⟩ | cases this
  obtain ⟨x, ex⟩ := str q hq
  rw [ex]
  unfold MB.dform
  rw [Bool.and_eq_true, Bool.and_eq_true, List.all_eq_true]
  refine ⟨rfl, rfl, fun p hp => ?_⟩
  obtain ⟨y, ey⟩ := str p hp
  rw [ey]; rfl
end Wp

end -- L4
section -- L5
set_option linter.all false
set_option maxRecDepth 100000
set_option maxHeartbeats 1000000
/-! Plain: _law_is_thing answers standsB too. -/
namespace Wp
open PySem PySem.Spec L2
theorem wf_dct {f : Nat} {kvs : List (T × T)} (h : WF (f + 1) (.dct kvs) = true) : (∀ q ∈ kvs, WF f q.1 = true ∧ WF f q.2 = true) ∧ (kvs.map fun q => q.1.tk).Nodup ∧ kvs.length ≤ 4 := by
  have h0 := (show ((kvs.all fun q => WF f q.1 && WF f q.2) && decide ((kvs.map fun q => q.1.tk).Nodup ∧ kvs.length ≤ 4)) = true from h)
  rw [Bool.and_eq_true] at h0
  refine ⟨fun q hq => ?_, of_decide_eq_true h0.2⟩
  have := List.all_eq_true.mp h0.1 q hq
  rw [Bool.and_eq_true] at this
  exact this
theorem wf_lst {f : Nat} {ts : List T} (h : WF (f + 1) (.lst ts) = true) : (∀ t ∈ ts, WF f t = true) ∧ ts.length ≤ 1000 := by
  have h0 := (show (ts.all (WF f) && decide (ts.length ≤ 1000)) = true from h)
  rw [Bool.and_eq_true] at h0
  exact ⟨List.all_eq_true.mp h0.1, of_decide_eq_true h0.2⟩
theorem wf_tup {f : Nat} {ts : List T} (h : WF (f + 1) (.tup ts) = true) : (∀ t ∈ ts, WF f t = true) ∧ ts.all (MB.T.pl 7) = true := by
  have := (show (ts.all (WF f) && ts.all (MB.T.pl 7)) = true from h)
  rw [Bool.and_eq_true] at this
  exact ⟨List.all_eq_true.mp this.1, this.2⟩
/-- a comprehension over ts that leaves out what B holds of -/
theorem pm_lcf {own : List Nat} {I : Env → M (List T)} {i : Nat} {C : Env → M Bool} {E : Env → M T} {ρ : Env} {ts : List T} {B : T → Bool} (hi : Pm (I ρ) ts) (hC : ∀ t ∈ ts, Pm (C ((MB.wipeE ρ own).set i (some (.sh t)))) (!B t)) (hE : ∀ t ∈ ts, Pm (E ((MB.wipeE ρ own).set i (some (.sh t)))) t) : Pm (mLc own I (gN i) C E ρ) (.lst (ts.filterMap fun t => if B t = true then none else some t)) := by
  refine pm_lc hi fun t ht => ?_
  refine pm_bnd (pm_opt rfl) (pm_bnd (hC t ht) ?_)
  cases e : B t with
  | true => exact pm_f pm_ret
  | false => exact pm_t (pm_bnd (hE t ht) pm_ret)
theorem isE_filter {B : T → Bool} (ts : List T) : (ts.filterMap fun t => if B t = true then none else some t).isEmpty = ts.all B := by
  rw [Bool.eq_iff_iff, List.isEmpty_iff, filter_nil]
theorem pm_none {A : Env → M T} {ρ : Env} {ts : List T} {B : T → Bool} (h : Pm (A ρ) (.lst (ts.filterMap fun t => if B t = true then none else some t))) : Pm (mCmp .eq A (mLst aNil) ρ) (.bl (ts.all B)) := by
  refine pm_bnd h (pm_bnd (a := (.lst [] : T)) (pm_bnd (a := ([] : List T)) pm_ret (pm_opt rfl)) (pm_opt ?_))
  show Option.map MB.T.bl (MB.eqT _ _) = _
  rw [eq_none (.inl trivial), isE_filter]
  rfl
theorem pm_some {A : Env → M T} {ρ : Env} {ts : List T} {B : T → Bool} (h : Pm (A ρ) (.lst (ts.filterMap fun t => if B t = true then none else some t))) : Pm (mCmpT .ne A (mLst aNil) ρ) (!ts.all B) := by
  refine pm_bnd h (pm_bnd (a := (.lst [] : T)) (pm_bnd (a := ([] : List T)) pm_ret (pm_opt rfl)) (pm_opt ?_))
  show Option.map (!·) (MB.eqT _ _) = _
  rw [eq_none (.inl trivial), isE_filter]
  rfl
/-- B of what stands at a key -/
def atK (kvs : List (T × T)) (B : T → Bool) (k : T) : Bool := match MB.dget kvs k with
  | some v => B v
  | none => false
theorem all_atK {kvs : List (T × T)} {B : T → Bool} (nd : (kvs.map fun q => q.1.tk).Nodup) : (kvs.map (·.1)).all (atK kvs B) = kvs.all fun q => B q.2 := by
  rw [all_fst]
  have : ∀ q ∈ kvs, atK kvs B q.1 = B q.2 := fun q hq => by unfold atK; rw [dget_of nd q hq]
  rw [Bool.eq_iff_iff, List.all_eq_true, List.all_eq_true]
  exact ⟨fun h q hq => by rw [← this q hq]; exact h q hq, fun h q hq => by rw [this q hq]; exact h q hq⟩
theorem dgetW_of {kvs : List (T × T)} (hn : (kvs.all fun q => nameB q.1) = true) (nd : (kvs.map fun q => q.1.tk).Nodup) {q : T × T} (hq : q ∈ kvs) : dgetW (.dct kvs) q.1 = some q.2 := by
  show (if (q.1.key.isSome && MB.dform kvs q.1) = true then MB.dget kvs q.1 else none) = _
  rw [if_pos (dform_of hn hq), dget_of nd q hq]
theorem a_thing : ∀ (f l : Nat), f ≤ l → ∀ (x : T) (n : Int) (m : Bool), WF f x = true → Pm (k_th l [x, .int n, .bl m]) (.bl (standsB f n m x))
  | 0, _, _, x, _, _, h => by cases h
  | f + 1, 0, hl, _, _, _, _ => by omega
  | f + 1, l + 1, hl, x, n, m, h => by
    have ih := a_thing f l (by omega)
    have p := wf_plain h
    have hsh := wf_short h
    show Pm (runW 5 (m__law_is_thing d_lword (k_th l) d_litem) [x, .int n, .bl m]) _
    refine q_run ?_
    have t1 : Pm (mTru (mB1 (isiT "dict") (mVarB 0)) (startE 5 [x, .int n, .bl m])) (isDct x) := pm_bnd (pm_bnd (pm_opt rfl) (pm_opt (isi_dct x p))) (pm_opt rfl)
    have t2 : Pm (mTru (mB1 (isiT "list") (mVarB 0)) (startE 5 [x, .int n, .bl m])) (isLst x) := pm_bnd (pm_bnd (pm_opt rfl) (pm_opt (isi_lst x p))) (pm_opt rfl)
    have t3 : Pm (mTru (mB1 (isiT "tuple") (mVarB 0)) (startE 5 [x, .int n, .bl m])) (isTup x) := pm_bnd (pm_bnd (pm_opt rfl) (pm_opt (isi_tup x p))) (pm_opt rfl)
    by_cases hd : ∃ kvs, x = .dct kvs
    · obtain ⟨kvs, rfl⟩ := hd
      obtain ⟨hk, nd, _⟩ := wf_dct h
      refine q_rt (q_ift t1 ?_)
      have c1 : Pm (mCmpT .eq (mVarB 1) (mLit (.int 0)) (startE 5 [.dct kvs, .int n, .bl m])) (decide (n = 0)) := pm_bnd (pm_opt rfl) (pm_bnd pm_ret (pm_opt (by show some (n == 0) = some (decide (n = 0)); rfl)))
      have c2 : Pm (mCmpT .ne (mLc [3] (iK (mVar 0)) (gN 3) (mNotT (mTru (mCall d_lword (aCons (mVar 3) (aCons (mLit (.int 1)) aNil))))) (mVar 3)) (mLst aNil) (startE 5 [.dct kvs, .int n, .bl m])) (!(kvs.all fun q => nameB q.1)) := by
        refine Pm.cast (pm_some (ts := kvs.map (·.1)) (B := nameB) (pm_lcf (pm_bnd (pm_opt rfl) (pm_opt rfl)) (fun t ht => ?_) (fun t ht => pm_opt rfl))) (by rw [all_fst])
        obtain ⟨q, hq, rfl⟩ := List.mem_map.mp ht
        refine pm_bnd (a := nameB q.1) (pm_bnd (a := (.bl (nameB q.1) : T)) ?_ (pm_opt rfl)) pm_ret
        rw [← lword_name]
        exact pm_bnd (pm_bnd (pm_opt rfl) (pm_bnd (pm_bnd pm_ret (pm_bnd pm_ret pm_ret)) pm_ret)) (a_lword q.1 1 (wf_plain (hk q hq).1) (wf_short (hk q hq).1))
      have c3 := pm_or c1 (fun _ => c2)
      cases e : (decide (n = 0) || !(kvs.all fun q => nameB q.1)) with
      | true =>
        rw [e] at c3
        refine (q_rt (q_ift c3 (q_ret pm_ret))).cast ?_
        show Fl.rt (.bl false) = Fl.rt (.bl (!decide (n = 0) && ((kvs.all fun q => nameB q.1) && kvs.all fun q => standsB f (n - 1) m q.2)))
        have z : (!decide (n = 0) && ((kvs.all fun q => nameB q.1) && kvs.all fun q => standsB f (n - 1) m q.2)) = false := by
          revert e
          cases decide (n = 0) <;> cases (kvs.all fun q => nameB q.1) <;> intro e <;> first | rfl | exact absurd e (by decide)
        rw [z]
      | false =>
        rw [e] at c3
        rw [Bool.or_eq_false_iff] at e
        have hn : (kvs.all fun q => nameB q.1) = true := by have := e.2; cases q : (kvs.all fun q => nameB q.1) <;> first | rfl | (rw [q] at this; cases this)
        refine q_nx (q_iff c3 q_none) (q_ret (Pm.cast (a := (.bl (kvs.all fun q => standsB f (n - 1) m q.2) : T)) ?_ ?_))
        · refine Pm.cast (pm_none (ts := kvs.map (·.1)) (B := atK kvs (standsB f (n - 1) m)) (pm_lcf (pm_bnd (pm_opt rfl) (pm_opt rfl)) (fun t ht => ?_) (fun t ht => pm_opt rfl))) (by rw [all_atK nd])
          obtain ⟨q, hq, rfl⟩ := List.mem_map.mp ht
          have e2 : atK kvs (standsB f (n - 1) m) q.1 = standsB f (n - 1) m q.2 := by unfold atK; rw [dget_of nd q hq]
          rw [e2]
          refine pm_bnd (a := standsB f (n - 1) m q.2) (pm_bnd (a := (.bl (standsB f (n - 1) m q.2) : T)) ?_ (pm_opt rfl)) pm_ret
          refine pm_bnd (a := [q.2, .int (n - 1), .bl m]) (pm_bnd (a := q.2) (pm_bnd (pm_opt rfl) (pm_bnd (pm_opt rfl) (pm_opt (dgetW_of hn nd hq)))) (pm_bnd (a := [.int (n - 1), .bl m]) (pm_bnd (a := (.int (n - 1) : T)) (pm_bnd (pm_opt rfl) (pm_bnd pm_ret (pm_opt rfl))) (pm_bnd (a := [.bl m]) (pm_bnd (pm_opt rfl) (pm_bnd pm_ret pm_ret)) pm_ret)) pm_ret)) (ih q.2 (n - 1) m (hk q hq).2)
        · show MB.T.bl _ = MB.T.bl (!decide (n = 0) && ((kvs.all fun q => nameB q.1) && kvs.all fun q => standsB f (n - 1) m q.2))
          rw [e.1, hn]; rfl
    · have e : isDct x = false := by cases x <;> first | rfl | exact absurd ⟨_, rfl⟩ hd
      rw [e] at t1
      refine q_nx (q_iff t1 q_none) ?_
      by_cases hl2 : ∃ ts, x = .lst ts
      · obtain ⟨ts, rfl⟩ := hl2
        have hk := (wf_lst h).1
        refine q_rt (q_ift t2 (q_ret ?_))
        refine Pm.cast (pm_none (ts := ts) (B := itemB) (pm_lcf (pm_bnd (pm_opt rfl) (pm_opt rfl)) (fun t ht => ?_) (fun t ht => pm_opt rfl))) rfl
        exact pm_bnd (a := itemB t) (pm_bnd (a := (.bl (itemB t) : T)) (pm_bnd (pm_bnd (pm_opt rfl) (pm_bnd pm_ret pm_ret)) (a_litem t (wf_plain (hk t ht)) (wf_short (hk t ht)))) (pm_opt rfl)) pm_ret
      · have e2 : isLst x = false := by cases x <;> first | rfl | exact absurd ⟨_, rfl⟩ hl2
        rw [e2] at t2
        refine q_nx (q_iff t2 q_none) ?_
        by_cases hu : ∃ ts, x = .tup ts
        · obtain ⟨ts, rfl⟩ := hu
          refine q_rt (q_ift t3 (q_ret ?_))
          have e3 : MB.eqT (.tup ts) (.tup []) = some ts.isEmpty := by
            unfold MB.eqT
            rw [if_neg (by simp [MB.T.atom])]
            have q1 : MB.T.pl 8 (.tup ts) = true := by unfold MB.T.pl; exact (wf_tup h).2
            have q2 : MB.T.pl 8 (.tup []) = true := rfl
            simp only [q1, q2, Bool.and_self, if_true]
            cases ts <;> rfl
          refine pm_bnd (a := (.bl m : T)) (pm_opt rfl) (pm_bnd (a := m) (pm_opt rfl) ?_)
          cases m with
          | false => exact pm_f (pm_ret.cast rfl)
          | true =>
            refine pm_t (pm_bnd (a := (.tup ts : T)) (pm_opt rfl) (pm_bnd (a := (.tup [] : T)) (pm_bnd pm_ret (pm_opt rfl)) (pm_opt ?_)))
            show Option.map MB.T.bl (MB.eqT (.tup ts) (.tup [])) = some (MB.T.bl (true && ts.isEmpty))
            rw [e3]; rfl
        · have e3 : isTup x = false := by cases x <;> first | rfl | exact absurd ⟨_, rfl⟩ hu
          rw [e3] at t3
          refine q_nx (q_iff t3 q_none) (q_ret ?_)
          refine Pm.cast (pm_bnd (pm_bnd (pm_opt rfl) (pm_bnd pm_ret pm_ret)) (a_litem x p hsh)) ?_
          cases x <;> first | rfl | exact absurd ⟨_, rfl⟩ hd | exact absurd ⟨_, rfl⟩ hl2 | exact absurd ⟨_, rfl⟩ hu | cases p
end Wp

end -- L5
section -- L6
set_option linter.all false
set_option maxRecDepth 100000
set_option maxHeartbeats 1000000
/-! Plain: sameness: kinds, items, texts in order. -/
namespace Wp
open PySem PySem.Spec L2
theorem q_set {i : Nat} {A : Env → M T} {m' : Env → M Fl} {ρ : Env} {t : T} {f : Fl} (h : Pm (A ρ) t) (k : Pm (m' (ρ.set i (some (.sh t)))) f) : Pm (sSeq (sSet i A) m' ρ) f := pm_bnd (a := Fl.nx (ρ.set i (some (.sh t)))) (pm_bnd h pm_ret) k
def isBoolT : T → Bool
  | .bl _ => true
  | _ => false
theorem isi_bool (t : T) (h : plain7 t = true) : isiT "bool" t = some (.bl (isBoolT t)) := by
  refine isi_of h ?_
  cases t <;> first | exact (by decide +kernel : kitB "NoneType" "bool" = some false) | exact (by decide +kernel : kitB "bool" "bool" = some true) | exact (by decide +kernel : kitB "int" "bool" = some false) | exact (by decide +kernel : kitB "str" "bool" = some false) | exact (by decide +kernel : kitB "list" "bool" = some false) | exact (by decide +kernel : kitB "tuple" "bool" = some false) | exact (by decide +kernel : kitB "dict" "bool" = some false) | cases h
theorem kit_lst (t : T) (h : plain7 t = true) : kitB (tyN t) "list" = some (isLst t) := by
  cases t <;> first | exact (by decide +kernel : kitB "NoneType" "list" = some false) | exact (by decide +kernel : kitB "bool" "list" = some false) | exact (by decide +kernel : kitB "int" "list" = some false) | exact (by decide +kernel : kitB "str" "list" = some false) | exact (by decide +kernel : kitB "list" "list" = some true) | exact (by decide +kernel : kitB "tuple" "list" = some false) | exact (by decide +kernel : kitB "dict" "list" = some false) | cases h
theorem kit_dct (t : T) (h : plain7 t = true) : kitB (tyN t) "dict" = some (isDct t) := by
  cases t <;> first | exact (by decide +kernel : kitB "NoneType" "dict" = some false) | exact (by decide +kernel : kitB "bool" "dict" = some false) | exact (by decide +kernel : kitB "int" "dict" = some false) | exact (by decide +kernel : kitB "str" "dict" = some false) | exact (by decide +kernel : kitB "list" "dict" = some false) | exact (by decide +kernel : kitB "tuple" "dict" = some false) | exact (by decide +kernel : kitB "dict" "dict" = some true) | cases h
theorem isi_ld (t : T) (h : plain7 t = true) : isi2 "list" "dict" t = some (.bl (isLst t || isDct t)) := by
  unfold isi2
  rw [if_pos h, kit_lst t h, kit_dct t h]
def kindT : T → Str
  | .non => "null"
  | .dct _ => "dict"
  | .lst _ => "list"
  | .tup _ => "mark"
  | _ => "plain"
theorem kd_dct (x : T) : decide (kindT x = "dict") = isDct x := by cases x <;> rfl
theorem kd_lst (x : T) : decide (kindT x = "list") = isLst x := by cases x <;> rfl
def d_kind : List T → M T := runW 1 m_kind_here
theorem a_kind (x : T) (p : plain7 x = true) : Pm (d_kind [x]) (.str (kindT x)) := by
  refine q_run ?_
  have t0 : Pm (mCmpT .is (mVarB 0) (mLit .non) (startE 1 [x])) (isNone x) := pm_bnd (pm_opt rfl) (pm_bnd pm_ret (pm_opt (by cases x <;> rfl)))
  have t1 : Pm (mTru (mB1 (isi2 "list" "dict") (mVarB 0)) (startE 1 [x])) (isLst x || isDct x) := pm_bnd (pm_bnd (pm_opt rfl) (pm_opt (isi_ld x p))) (pm_opt rfl)
  have t2 : Pm (mTru (mB1 (isiT "list") (mVarB 0)) (startE 1 [x])) (isLst x) := pm_bnd (pm_bnd (pm_opt rfl) (pm_opt (isi_lst x p))) (pm_opt rfl)
  have t3 : Pm (mTru (mB1 (isiT "tuple") (mVarB 0)) (startE 1 [x])) (isTup x) := pm_bnd (pm_bnd (pm_opt rfl) (pm_opt (isi_tup x p))) (pm_opt rfl)
  have i2 : ∀ {A B : Env → M T} {c : Bool} {D : Env → M Bool} {ρ : Env} {u v : T}, Pm (D ρ) c → Pm (A ρ) u → Pm (B ρ) v → Pm (mIf D A B ρ) (if c = true then u else v) := fun {A B c D ρ u v} h a b => by
    refine pm_bnd h ?_
    cases c
    · exact pm_f b
    · exact pm_t a
  cases x with
  | non => exact q_rt (q_ift t0 (q_ret pm_ret))
  | dct ks => exact q_nx (q_iff t0 q_none) (q_rt (q_ift t1 (q_ret (i2 t2 pm_ret pm_ret))))
  | lst ks => exact q_nx (q_iff t0 q_none) (q_rt (q_ift t1 (q_ret (i2 t2 pm_ret pm_ret))))
  | tup ks => exact q_nx (q_iff t0 q_none) (q_nx (q_iff t1 q_none) (q_ret (i2 t3 pm_ret pm_ret)))
  | bl b => exact q_nx (q_iff t0 q_none) (q_nx (q_iff t1 q_none) (q_ret (i2 t3 pm_ret pm_ret)))
  | int b => exact q_nx (q_iff t0 q_none) (q_nx (q_iff t1 q_none) (q_ret (i2 t3 pm_ret pm_ret)))
  | str b => exact q_nx (q_iff t0 q_none) (q_nx (q_iff t1 q_none) (q_ret (i2 t3 pm_ret pm_ret)))
  | _ => cases p
def d_lkind : List T → M T := runW 1 m__law_kind
/-- a tuple is empty -/
def okT : T → Bool
  | .tup ts => ts.isEmpty
  | _ => true
theorem a_lkind (x : T) (p : plain7 x = true) (o : okT x = true) : Pm (d_lkind [x]) (.str (kindT x)) := by
  refine q_run ?_
  have t0 : Pm (mCmpT .is (mVarB 0) (mLit .non) (startE 1 [x])) (isNone x) := pm_bnd (pm_opt rfl) (pm_bnd pm_ret (pm_opt (by cases x <;> rfl)))
  have t1 : Pm (mTru (mB1 (isiT "dict") (mVarB 0)) (startE 1 [x])) (isDct x) := pm_bnd (pm_bnd (pm_opt rfl) (pm_opt (isi_dct x p))) (pm_opt rfl)
  have t2 : Pm (mTru (mB1 (isiT "list") (mVarB 0)) (startE 1 [x])) (isLst x) := pm_bnd (pm_bnd (pm_opt rfl) (pm_opt (isi_lst x p))) (pm_opt rfl)
  have t3 : Pm (mTru (mB1 (isiT "tuple") (mVarB 0)) (startE 1 [x])) (isTup x) := pm_bnd (pm_bnd (pm_opt rfl) (pm_opt (isi_tup x p))) (pm_opt rfl)
  have i2 : ∀ {A B : Env → M T} {c : Bool} {D : Env → M Bool} {ρ : Env} {u v : T}, Pm (D ρ) c → Pm (A ρ) u → Pm (B ρ) v → Pm (mIf D A B ρ) (if c = true then u else v) := fun {A B c D ρ u v} h a b => by
    refine pm_bnd h ?_
    cases c
    · exact pm_f b
    · exact pm_t a
  cases x with
  | non => exact q_rt (q_ift t0 (q_ret pm_ret))
  | dct ks => exact q_nx (q_iff t0 q_none) (q_nx (q_iff t3 q_none) (q_rt (q_ift t1 (q_ret pm_ret))))
  | tup ks =>
    have e : ks = [] := List.isEmpty_iff.mp o
    subst e
    refine q_nx (q_iff t0 q_none) (q_rt (q_ift t3 (q_ret (i2 (c := true) ?_ pm_ret pm_ret))))
    exact pm_bnd (a := (.tup [] : T)) (pm_opt rfl) (pm_bnd (a := (.tup [] : T)) (pm_bnd (a := ([] : List T)) pm_ret (pm_opt rfl)) (pm_opt (by decide +kernel)))
  | lst ks => exact q_nx (q_iff t0 q_none) (q_nx (q_iff t3 q_none) (q_nx (q_iff t1 q_none) (q_ret (i2 t2 pm_ret pm_ret))))
  | bl b => exact q_nx (q_iff t0 q_none) (q_nx (q_iff t3 q_none) (q_nx (q_iff t1 q_none) (q_ret (i2 t2 pm_ret pm_ret))))
  | int b => exact q_nx (q_iff t0 q_none) (q_nx (q_iff t3 q_none) (q_nx (q_iff t1 q_none) (q_ret (i2 t2 pm_ret pm_ret))))
  | str b => exact q_nx (q_iff t0 q_none) (q_nx (q_iff t3 q_none) (q_nx (q_iff t1 q_none) (q_ret (i2 t2 pm_ret pm_ret))))
  | _ => cases p
/-! ### items -/
def sameI (x y : T) : Bool := (isBoolT x == isBoolT y) && x.eqv y
def d_sitem : List T → M T := runW 2 m_is_same_item
theorem eqT_bl (a b : Bool) : MB.eqT (.bl a) (.bl b) = some (a == b) := by cases a <;> cases b <;> rfl
theorem pm_eqB {A B : Env → M T} {ρ : Env} {a b : Bool} (h : Pm (A ρ) (.bl a)) (k : Pm (B ρ) (.bl b)) : Pm (mCmp .eq A B ρ) (.bl (a == b)) := pm_bnd h (pm_bnd k (pm_opt (by
  show Option.map MB.T.bl (MB.eqT _ _) = _
  rw [eqT_bl]; rfl)))
theorem pm_eqT {A B : Env → M T} {ρ : Env} {x y : T} {c : Bool} (h : Pm (A ρ) x) (k : Pm (B ρ) y) (e : MB.eqT x y = some c) : Pm (mCmp .eq A B ρ) (.bl c) := pm_bnd h (pm_bnd k (pm_opt (by
  show Option.map MB.T.bl (MB.eqT _ _) = _
  rw [e]; rfl)))
theorem pm_and {A B : Env → M T} {ρ : Env} {a b : Bool} (h : Pm (A ρ) (.bl a)) (k : a = true → Pm (B ρ) (.bl b)) : Pm (mAnd A B ρ) (.bl (a && b)) := by
  refine pm_bnd h (pm_bnd (a := a) (pm_opt rfl) ?_)
  cases a with
  | true => exact pm_t (k rfl)
  | false => exact pm_f pm_ret
theorem pm_same2 {ρ : Env} {i j : Nat} {x y : T} (hi : MB.rdB ρ i = some x) (hj : MB.rdB ρ j = some y) (px : plain7 x = true) (py : plain7 y = true) (e : MB.eqT x y = some (x.eqv y)) : Pm (mAnd (mCmp .eq (mB1 (isiT "bool") (mVarB i)) (mB1 (isiT "bool") (mVarB j))) (mCmp .eq (mVarB i) (mVarB j)) ρ) (.bl (sameI x y)) :=
  pm_and (pm_eqB (pm_bnd (pm_opt hi) (pm_opt (isi_bool x px))) (pm_bnd (pm_opt hj) (pm_opt (isi_bool y py)))) fun _ => pm_eqT (pm_opt hi) (pm_opt hj) e
theorem a_sitem (x y : T) (px : plain7 x = true) (py : plain7 y = true) (e : MB.eqT x y = some (x.eqv y)) : Pm (d_sitem [x, y]) (.bl (sameI x y)) :=
  q_run (q_ret (pm_same2 (i := 0) (j := 1) rfl rfl px py e))
theorem eq_atom {x y : T} (hx : x.atom = true) (hy : y.atom = true) : MB.eqT x y = some (x.eqv y) := by
  unfold MB.eqT
  rw [hx, hy, Bool.and_self, if_pos rfl]
theorem item_atom {x : T} (p : plain7 x = true) (h : itemB x = true) : x.atom = true := by
  cases x <;> first | rfl | cases h | cases p
/-! ### keys in order -/
theorem strs_of : ∀ {kvs : List (T × T)}, (kvs.all fun q => nameB q.1) = true → ∃ l : List Str, kvs.map (·.1) = l.map .str
  | [], _ => ⟨[], rfl⟩
  | q :: ks, h => by
    rw [List.all_cons, Bool.and_eq_true] at h
    obtain ⟨l, e⟩ := strs_of h.2
    have : ∃ x, q.1 = .str x := by
      have := h.1
      cases e : q.1 <;> rw [e] at this <;> first | exact ⟨_, rfl⟩ | cases this
    obtain ⟨x, ex⟩ := this
    exact ⟨x :: l, by rw [List.map_cons, List.map_cons, e, ex]⟩
theorem strsT_map : ∀ l : List Str, MB.strsT (l.map .str) = some l
  | [] => rfl
  | x :: l => by
    rw [List.map_cons]
    show (MB.strsT (l.map .str)).map (x :: ·) = _
    rw [strsT_map l]; rfl
theorem sorted_of {kvs : List (T × T)} {l : List Str} (e : kvs.map (·.1) = l.map .str) (h : kvs.length ≤ 4) : sortedW (.dct kvs) = some (.lst ((MB.sortS l).map .str)) := by
  show (MB.strsT (kvs.map (·.1))).bind _ = _
  rw [e, strsT_map]
  have : l.length < 64 := by
    have := congrArg List.length e
    rw [List.length_map, List.length_map] at this
    omega
  show (if l.length < 64 then _ else _) = _
  rw [if_pos this]
theorem eqvs_strs : ∀ a b : List Str, MB.eqvs (a.map .str) (b.map .str) = decide (a = b)
  | [], [] => rfl
  | [], _ :: _ => rfl
  | _ :: _, [] => rfl
  | x :: a, y :: b => by
    rw [List.map_cons, List.map_cons]
    show (decide (x = y) && MB.eqvs (a.map .str) (b.map .str)) = _
    rw [eqvs_strs a b]
    by_cases e : x = y
    · subst e; simp
    · simp [e]
theorem eq_strs (a b : List Str) (ha : ∀ x ∈ a, (x.cps.all (· < 0x110000)) = true) (hb : ∀ x ∈ b, (x.cps.all (· < 0x110000)) = true) : MB.eqT (.lst (a.map .str)) (.lst (b.map .str)) = some (decide (a = b)) := by
  have pl : ∀ a : List Str, (∀ x ∈ a, (x.cps.all (· < 0x110000)) = true) → MB.T.pl 8 (.lst (a.map .str)) = true := fun a ha => by
    unfold MB.T.pl
    rw [List.all_eq_true]
    intro t ht
    obtain ⟨x, hx, rfl⟩ := List.mem_map.mp ht
    have := ha x hx
    simpa [MB.T.pl] using this
  unfold MB.eqT
  rw [if_neg (by simp [MB.T.atom])]
  simp only [List.length_map]
  by_cases e : a.length = b.length
  · rw [if_pos e]
    simp only [pl a ha, pl b hb, Bool.and_self, if_true]
    show some (MB.eqvs (a.map .str) (b.map .str)) = _
    rw [eqvs_strs]
  · rw [if_neg e, decide_eq_false (fun z => e (by rw [z]))]
theorem perm_of_sub {α : Type} [BEq α] [LawfulBEq α] : ∀ {l m : List α}, l.Nodup → (∀ x ∈ l, x ∈ m) → m.length ≤ l.length → l.Perm m
  | [], m, _, _, h => by
    have : m = [] := List.eq_nil_of_length_eq_zero (by simpa using h)
    rw [this]
  | x :: l, m, nd, hs, h => by
    rw [List.nodup_cons] at nd
    have hx : x ∈ m := hs x List.mem_cons_self
    have ih := perm_of_sub (l := l) (m := m.erase x) nd.2 (fun y hy => by
      refine (List.mem_erase_of_ne (fun (e : y = x) => nd.1 (e ▸ hy))).mpr ?_
      exact hs y (List.mem_cons_of_mem _ hy)) (by rw [List.length_erase_of_mem hx]; simp at h; omega)
    exact (ih.cons x).trans (List.perm_cons_erase hx).symm
theorem sort_iff {l m : List Str} (hl : l.Nodup) : decide (MB.sortS l = MB.sortS m) = sameKeys (l.map .str) (m.map .str) := by
  have h2 : sameKeys (l.map .str) (m.map .str) = true ↔ l.length = m.length ∧ ∀ x ∈ l, x ∈ m := by
    unfold sameKeys
    rw [Bool.and_eq_true, List.length_map, List.length_map, beq_iff_eq, List.all_eq_true]
    refine and_congr_right fun _ => ⟨fun h x hx => ?_, fun h t ht => ?_⟩
    · obtain ⟨u, hu, e⟩ := List.any_eq_true.mp (h _ (List.mem_map_of_mem hx))
      obtain ⟨y, hy, rfl⟩ := List.mem_map.mp hu
      have e := of_decide_eq_true e
      have : y = x := by injection e with e; injection e
      exact this ▸ hy
    · obtain ⟨x, hx, rfl⟩ := List.mem_map.mp ht
      exact List.any_eq_true.mpr ⟨.str x, List.mem_map_of_mem (h x hx), decide_eq_true rfl⟩
  rw [Bool.eq_iff_iff, decide_eq_true_iff, h2]
  constructor
  · intro e
    have p : l.Perm m := ((List.mergeSort_perm l MB.leS).symm.trans (show (MB.sortS l).Perm m from e ▸ List.mergeSort_perm m MB.leS))
    exact ⟨p.length_eq, fun x hx => p.mem_iff.mp hx⟩
  · rintro ⟨e, hs⟩
    have p : (MB.sortS l).Perm m := (List.mergeSort_perm l MB.leS).trans (perm_of_sub hl hs (by omega))
    exact PySem.W.Srt.the_of_perm MB.leS MB.leS_trans MB.leS_total MB.leS_anti p (List.pairwise_mergeSort MB.leS_trans MB.leS_total l)
end Wp

end -- L6
section -- L7
set_option linter.all false
set_option maxRecDepth 100000
set_option maxHeartbeats 1000000
/-! Plain: is_same and _law_same answer sameB on results. -/
namespace Wp
open PySem PySem.Spec L2
def pairI : T → Bool
  | .tup [a, b] => sameI a b
  | _ => false
/-- B of what stands at a key in both -/
def atKK (k1 k2 : List (T × T)) (B : T → T → Bool) (k : T) : Bool := match MB.dget k1 k, MB.dget k2 k with
  | some v, some w => B v w
  | _, _ => false
def pairsZ (xs ys : List T) : List T := List.zipWith (fun x y => .tup [x, y]) xs ys
def sameB : Nat → T → T → Bool
  | 0, _, _ => false
  | f + 1, .dct k1, .dct k2 => sameKeys (k1.map (·.1)) (k2.map (·.1)) && (k1.map (·.1)).all (atKK k1 k2 (sameB f))
  | _ + 1, .lst xs, .lst ys => decide (xs.length = ys.length) && (pairsZ xs ys).all pairI
  | _ + 1, x, y => decide (kindT x = kindT y) && sameI x y
theorem same_ne {f : Nat} {x y : T} (e : ¬ kindT x = kindT y) : sameB (f + 1) x y = false := by
  cases x <;> cases y <;> first | exact absurd rfl e | (show (decide _ && _) = false; rw [decide_eq_false e]; rfl)
/-- a result: it is well-formed and stands -/
structure Rs (f : Nat) (n : Int) (x : T) : Prop where
  wf : WF f x = true
  st : standsB f n true x = true
theorem Rs.pos {f : Nat} {n : Int} {x : T} (h : Rs f n x) : ∃ g, f = g + 1 := by
  cases f with
  | zero => cases h.wf
  | succ g => exact ⟨g, rfl⟩
theorem Rs.ok {f : Nat} {n : Int} {x : T} (h : Rs f n x) : okT x = true := by
  obtain ⟨g, rfl⟩ := h.pos
  have := h.st
  cases x <;> first | rfl | exact (by rw [show standsB (g + 1) n true (.tup _) = (true && _) from rfl, Bool.true_and] at this; exact this)
theorem Rs.dct {f : Nat} {n : Int} {kvs : List (T × T)} (h : Rs (f + 1) n (.dct kvs)) : (kvs.all fun q => nameB q.1) = true ∧ (∀ q ∈ kvs, Rs f (n - 1) q.2) ∧ (kvs.map fun q => q.1.tk).Nodup ∧ kvs.length ≤ 4 ∧ ∀ q ∈ kvs, WF f q.1 = true := by
  obtain ⟨w, nd, l4⟩ := wf_dct h.wf
  have s := (show (!decide (n = 0) && ((kvs.all fun q => nameB q.1) && kvs.all fun q => standsB f (n - 1) true q.2)) = true from h.st)
  rw [Bool.and_eq_true, Bool.and_eq_true] at s
  exact ⟨s.2.1, fun q hq => ⟨(w q hq).2, List.all_eq_true.mp s.2.2 q hq⟩, nd, l4, fun q hq => (w q hq).1⟩
theorem Rs.lst {f : Nat} {n : Int} {ts : List T} (h : Rs (f + 1) n (.lst ts)) : (∀ t ∈ ts, WF f t = true ∧ itemB t = true) ∧ ts.length ≤ 1000 :=
  ⟨fun t ht => ⟨(wf_lst h.wf).1 t ht, List.all_eq_true.mp (show ts.all itemB = true from h.st) t ht⟩, (wf_lst h.wf).2⟩
theorem rs_item {f : Nat} {n : Int} {x : T} (w : WF f x = true) (i : itemB x = true) : Rs f n x := ⟨w, by
  cases f with
  | zero => cases w
  | succ g => cases x <;> first | exact i | cases i⟩
theorem same_item {f : Nat} {x y : T} (px : plain7 x = true) (py : plain7 y = true) (i : itemB x = true) (j : itemB y = true) : sameB (f + 1) x y = sameI x y := by
  cases x <;> first | (cases i; done) | (cases px; done) | (cases y <;> first | (cases j; done) | (cases py; done) | rfl | (show (decide _ && sameI _ _) = sameI _ _; rw [decide_eq_true rfl]; rfl))
theorem kd_tup (x : T) : decide (kindT x = "mark") = isTup x := by cases x <;> rfl
theorem is_dct {x y : T} (e : kindT x = kindT y) : isDct y = isDct x := by rw [← kd_dct, ← e, kd_dct]
theorem is_lst {x y : T} (e : kindT x = kindT y) : isLst y = isLst x := by rw [← kd_lst, ← e, kd_lst]
theorem is_tup {x y : T} (e : kindT x = kindT y) : isTup y = isTup x := by rw [← kd_tup, ← e, kd_tup]
theorem get_dct {x : T} (h : isDct x = true) : ∃ k, x = .dct k := by cases x <;> first | exact ⟨_, rfl⟩ | (cases h; done)
theorem get_lst {x : T} (h : isLst x = true) : ∃ k, x = .lst k := by cases x <;> first | exact ⟨_, rfl⟩ | (cases h; done)
theorem pairs_len {xs ys : List T} : (pairsZ xs ys).length = min xs.length ys.length := by unfold pairsZ; rw [List.length_zipWith]
theorem pairs_get {xs ys : List T} {i : Nat} (h : i < (pairsZ xs ys).length) (hx : i < xs.length) (hy : i < ys.length) : (pairsZ xs ys)[i] = .tup [xs[i], ys[i]] := by simp [pairsZ]
theorem set_of {kvs : List (T × T)} (hn : (kvs.all fun q => nameB q.1) = true) (l4 : kvs.length ≤ 4) : setW (.dct kvs) = some (kvs.map (·.1)) := by
  show (if (kvs.all fun q => q.1.key.isSome) = true ∧ kvs.length ≤ 4 then some (kvs.map (·.1)) else none) = _
  rw [if_pos ⟨List.all_eq_true.mpr fun q hq => name_key (List.all_eq_true.mp hn q hq), l4⟩]
/-- a key of the one stands in the other -/
theorem key_in {k1 k2 : List (T × T)} (h1 : (k1.all fun q => nameB q.1) = true) (h2 : (k2.all fun q => nameB q.1) = true) (e : sameKeys (k1.map (·.1)) (k2.map (·.1)) = true) : ∀ q ∈ k1, ∃ p ∈ k2, p.1 = q.1 := by
  have str : ∀ {ks : List (T × T)}, (ks.all fun q => nameB q.1) = true → ∀ p ∈ ks, ∃ x, p.1 = .str x := fun {ks} h p hp => by
    have := List.all_eq_true.mp h p hp
    cases e : p.1 <;> rw [e] at this <;> first | exact ⟨_, rfl⟩ | cases this
  unfold sameKeys at e
  rw [Bool.and_eq_true] at e
  intro q hq
  obtain ⟨u, hu, eu⟩ := List.any_eq_true.mp (List.all_eq_true.mp e.2 q.1 (List.mem_map.mpr ⟨q, hq, rfl⟩))
  obtain ⟨p, hp, rfl⟩ := List.mem_map.mp hu
  refine ⟨p, hp, ?_⟩
  obtain ⟨x, ex⟩ := str h1 q hq
  obtain ⟨y, ey⟩ := str h2 p hp
  have eu := of_decide_eq_true eu
  rw [ex, ey] at eu
  rw [ex, ey]
  injection eu with eu
  injection eu with eu
  rw [eu]
theorem eq_kind {ρ : Env} {i j : Nat} {x y : T} {A B : Env → M T} (h : Pm (A ρ) (.str (kindT x))) (k : Pm (B ρ) (.str (kindT y))) : Pm (mCmpT .ne A B ρ) (!decide (kindT x = kindT y)) := pm_bnd h (pm_bnd k (pm_opt rfl))
theorem eqT_int (i j : Int) : MB.eqT (.int i) (.int j) = some (decide (i = j)) := rfl
theorem eq_rest {f : Nat} {n n' : Int} {x y : T} (hx : Rs f n x) (hy : Rs f n' y) (e : kindT x = kindT y) (d : isDct x = false) (l : isLst x = false) : MB.eqT x y = some (x.eqv y) := by
  have px := wf_plain hx.wf
  have py := wf_plain hy.wf
  have ox := hx.ok
  have oy := hy.ok
  have dy := (is_dct e).trans d
  have ly := (is_lst e).trans l
  have ty := is_tup e
  cases x <;> first | (cases d; done) | (cases l; done) | (cases px; done) | (cases y <;> first | (cases dy; done) | (cases ly; done) | (cases py; done) | exact eq_atom rfl rfl | (cases ty; done) | skip)
  rename_i xs ys
  have e1 : xs = [] := List.isEmpty_iff.mp ox
  have e2 : ys = [] := List.isEmpty_iff.mp oy
  subst e1 e2
  decide +kernel
theorem same_rest {f : Nat} {x y : T} (e : kindT x = kindT y) (d : isDct x = false) (l : isLst x = false) : sameB (f + 1) x y = sameI x y := by
  cases x <;> first | (cases d; done) | (cases l; done) | (show (decide _ && sameI _ y) = sameI _ y; rw [decide_eq_true e]; rfl)
def k_sm : Nat → List T → M T
  | 0 => fun _ => nev
  | l + 1 => runW 5 (m_is_same d_kind (k_sm l) d_sitem)
theorem ne_int (i j : Int) : MB.cmpT .ne (.int i) (.int j) = some (!decide (i = j)) := rfl
theorem len_eq (xs ys : List T) : decide ((xs.length : Int) = (ys.length : Int)) = decide (xs.length = ys.length) := by
  by_cases h : xs.length = ys.length
  · rw [decide_eq_true h, decide_eq_true (by omega)]
  · rw [decide_eq_false h, decide_eq_false (by omega)]
theorem a_is_same : ∀ (f l : Nat), f ≤ l → ∀ (x y : T) (n n' : Int), Rs f n x → Rs f n' y → Pm (k_sm l [x, y]) (.bl (sameB f x y))
  | 0, _, _, x, _, _, _, h, _ => by cases h.wf
  | f + 1, 0, hl, _, _, _, _, _, _ => by omega
  | f + 1, l + 1, hl, x, y, n, n', hx, hy => by
    have ih := a_is_same f l (by omega)
    have px := wf_plain hx.wf
    have py := wf_plain hy.wf
    show Pm (runW 5 (m_is_same d_kind (k_sm l) d_sitem) [x, y]) _
    refine q_run (q_set (pm_bnd (a := [x]) (pm_bnd (pm_opt rfl) (pm_bnd pm_ret pm_ret)) (a_kind x px)) ?_)
    have t1 : Pm (mCmpT .ne (mVarB 2) (mCall d_kind (aCons (mVar 1) aNil)) ((startE 5 [x, y]).set 2 (some (.sh (.str (kindT x)))))) (!decide (kindT x = kindT y)) :=
      eq_kind (i := 0) (j := 0) (pm_opt rfl) (pm_bnd (a := [y]) (pm_bnd (pm_opt rfl) (pm_bnd pm_ret pm_ret)) (a_kind y py))
    by_cases e : kindT x = kindT y
    rotate_left
    · rw [decide_eq_false e] at t1
      exact (q_rt (q_ift t1 (q_ret pm_ret))).cast (by rw [same_ne e])
    rw [decide_eq_true e] at t1
    refine q_nx (q_iff t1 q_none) ?_
    have t2 : Pm (mCmpT .eq (mVarB 2) (mLit (.str "dict")) ((startE 5 [x, y]).set 2 (some (.sh (.str (kindT x)))))) (isDct x) := Pm.cast (a := decide (kindT x = "dict")) (pm_bnd (a := (.str (kindT x) : T)) (pm_opt rfl) (pm_bnd (a := (.str "dict" : T)) pm_ret (pm_opt rfl))) (kd_dct x)
    have t3 : Pm (mCmpT .eq (mVarB 2) (mLit (.str "list")) ((startE 5 [x, y]).set 2 (some (.sh (.str (kindT x)))))) (isLst x) := Pm.cast (a := decide (kindT x = "list")) (pm_bnd (a := (.str (kindT x) : T)) (pm_opt rfl) (pm_bnd (a := (.str "list" : T)) pm_ret (pm_opt rfl))) (kd_lst x)
    by_cases hd : ∃ kvs, x = .dct kvs
    · obtain ⟨k1, rfl⟩ := hd
      obtain ⟨k2, rfl⟩ := get_dct ((is_dct e).trans rfl)
      obtain ⟨n1, r1, nd1, s1, w1⟩ := hx.dct
      obtain ⟨n2, r2, nd2, s2, w2⟩ := hy.dct
      refine q_rt (q_ift t2 (q_ret ?_))
      show Pm _ (MB.T.bl (sameKeys (k1.map (·.1)) (k2.map (·.1)) && (k1.map (·.1)).all (atKK k1 k2 (sameB f))))
      have c1 : Pm (mSetEq (mVar 0) (mVar 1) ((startE 5 [.dct k1, .dct k2]).set 2 (some (.sh (.str (kindT (.dct k1))))))) (.bl (sameKeys (k1.map (·.1)) (k2.map (·.1)))) := pm_bnd (a := (.dct k1 : T)) (pm_opt rfl) (pm_bnd (a := k1.map (·.1)) (pm_opt (set_of n1 s1)) (pm_bnd (a := (.dct k2 : T)) (pm_opt rfl) (pm_bnd (a := k2.map (·.1)) (pm_opt (set_of n2 s2)) pm_ret)))
      refine pm_and (b := (k1.map (·.1)).all (atKK k1 k2 (sameB f))) c1 fun ek => ?_
      have ki := key_in n1 n2 ek
      refine pm_bnd (a := (.lst ((k1.map (·.1)).filterMap fun t => some (.bl (atKK k1 k2 (sameB f) t))) : T)) (pm_lc (pm_bnd (pm_opt rfl) (pm_opt rfl)) fun t ht => ?_) (pm_opt (by rw [filterMap_some, all_map]))
      obtain ⟨q, hq, rfl⟩ := List.mem_map.mp ht
      obtain ⟨p, hp, ep⟩ := ki q hq
      have e1 := dget_of nd1 q hq
      have e2 := dget_of nd2 p hp
      have d1 := dgetW_of n1 nd1 hq
      have d2 := dgetW_of n2 nd2 hp
      rw [ep] at e2 d2
      have e3 : atKK k1 k2 (sameB f) q.1 = sameB f q.2 p.2 := by unfold atKK; rw [e1, e2]
      rw [e3]
      exact pm_bnd (pm_opt rfl) (pm_bnd pm_ret (pm_t (pm_bnd (pm_bnd (a := [q.2, p.2]) (pm_bnd (pm_bnd (pm_opt rfl) (pm_bnd (pm_opt rfl) (pm_opt d1))) (pm_bnd (a := [p.2]) (pm_bnd (a := p.2) (pm_bnd (pm_opt rfl) (pm_bnd (pm_opt rfl) (pm_opt d2))) (pm_bnd pm_ret pm_ret)) pm_ret)) (ih q.2 p.2 (n - 1) (n' - 1) (r1 q hq) (r2 p hp))) pm_ret)))
    · have ed : isDct x = false := by cases x <;> first | rfl | exact absurd ⟨_, rfl⟩ hd
      rw [ed] at t2
      refine q_nx (q_iff t2 q_none) ?_
      by_cases hl2 : ∃ ts, x = .lst ts
      · obtain ⟨xs, rfl⟩ := hl2
        obtain ⟨ys, rfl⟩ := get_lst ((is_lst e).trans rfl)
        obtain ⟨i1, z1⟩ := hx.lst
        obtain ⟨i2, z2⟩ := hy.lst
        refine q_rt (q_ift t3 (q_ret ?_))
        show Pm _ (MB.T.bl (decide (xs.length = ys.length) && (pairsZ xs ys).all pairI))
        refine pm_and (a := decide (xs.length = ys.length)) (b := (pairsZ xs ys).all pairI) (Pm.cast (pm_eqT (x := .int xs.length) (y := .int ys.length) (pm_bnd (pm_opt rfl) (pm_opt rfl)) (pm_bnd (pm_opt rfl) (pm_opt rfl)) (eqT_int _ _)) (by rw [len_eq])) fun _ => ?_
        refine pm_bnd (a := (.lst ((pairsZ xs ys).filterMap fun t => some (.bl (pairI t))) : T)) (pm_lc (pm_bnd (a := [.lst xs, .lst ys]) (pm_bnd (pm_opt rfl) (pm_bnd (a := [.lst ys]) (pm_bnd (pm_opt rfl) (pm_bnd pm_ret pm_ret)) pm_ret)) (pm_opt rfl)) fun t ht => ?_) (pm_opt (by rw [filterMap_some, all_map]))
        obtain ⟨i, hi, rfl⟩ := List.mem_iff_getElem.mp ht
        have hi' := hi
        rw [pairs_len] at hi'
        have hxi : i < xs.length := by omega
        have hyi : i < ys.length := by omega
        have eg : (pairsZ xs ys)[i] = .tup [xs[i], ys[i]] := pairs_get hi (by omega) (by omega)
        rw [eg]
        have a1 := i1 _ (List.getElem_mem hxi)
        have a2 := i2 _ (List.getElem_mem hyi)
        have p1 := wf_plain a1.1
        have p2 := wf_plain a2.1
        exact pm_bnd (pm_opt rfl) (pm_bnd pm_ret (pm_t (pm_bnd (pm_bnd (a := (.tup [xs[i], ys[i]] : T)) (pm_opt rfl) (pm_bnd (a := [xs[i], ys[i]]) (pm_opt rfl) (a_sitem xs[i] ys[i] p1 p2 (eq_atom (item_atom p1 a1.2) (item_atom p2 a2.2))))) pm_ret)))
      · have el : isLst x = false := by cases x <;> first | rfl | exact absurd ⟨_, rfl⟩ hl2
        rw [el] at t3
        refine q_nx (q_iff t3 q_none) (q_ret ?_)
        rw [same_rest e ed el]
        exact pm_bnd (a := [x, y]) (pm_bnd (pm_opt rfl) (pm_bnd (a := [y]) (pm_bnd (pm_opt rfl) (pm_bnd pm_ret pm_ret)) pm_ret)) (a_sitem x y px py (eq_rest hx hy e ed el))
theorem nodup_of_map {α β : Type} (f : α → β) : ∀ {l : List α}, (l.map f).Nodup → l.Nodup
  | [], _ => List.nodup_nil
  | x :: l, h => by
    rw [List.map_cons, List.nodup_cons] at h
    rw [List.nodup_cons]
    exact ⟨fun hx => h.1 (List.mem_map_of_mem hx), nodup_of_map f h.2⟩
def k_ls : Nat → List T → M T
  | 0 => fun _ => nev
  | l + 1 => runW 5 (m__law_same d_lkind (k_ls l))
/-- the items at a place -/
def atI2 (xs ys : List T) : T → Bool
  | .int i => match xs[i.toNat]?, ys[i.toNat]? with
    | some a, some b => sameI a b
    | _, _ => false
  | _ => false
theorem all_at {xs ys : List T} (h : xs.length = ys.length) : ((List.range xs.length).map fun (i : Nat) => (.int (0 + (i : Int)) : T)).all (atI2 xs ys) = (pairsZ xs ys).all pairI := by
  rw [Bool.eq_iff_iff, List.all_eq_true, List.all_eq_true]
  have key : ∀ (i : Nat) (hx : i < xs.length) (hy : i < ys.length), atI2 xs ys (.int (0 + (i : Int))) = sameI xs[i] ys[i] := fun i hx hy => by
    unfold atI2
    have e : (0 + (i : Int)).toNat = i := by omega
    simp only [e, List.getElem?_eq_getElem hx, List.getElem?_eq_getElem hy]
  constructor
  · intro a t ht
    obtain ⟨i, hi, rfl⟩ := List.mem_iff_getElem.mp ht
    have hi' := hi
    rw [pairs_len] at hi'
    have eg : (pairsZ xs ys)[i] = .tup [xs[i], ys[i]] := pairs_get hi (by omega) (by omega)
    rw [eg]
    show sameI xs[i] ys[i] = true
    rw [← key i (by omega) (by omega)]
    exact a _ (List.mem_map.mpr ⟨i, List.mem_range.mpr (by omega), rfl⟩)
  · intro a t ht
    obtain ⟨i, hi, rfl⟩ := List.mem_map.mp ht
    have hi := List.mem_range.mp hi
    have hy : i < ys.length := by omega
    rw [key i hi hy]
    have hz : i < (pairsZ xs ys).length := by rw [pairs_len]; omega
    have := a _ (List.getElem_mem hz)
    have eg : (pairsZ xs ys)[i] = .tup [xs[i], ys[i]] := pairs_get hz hi hy
    rw [eg] at this
    exact this
theorem atI_get {xs : List T} {i : Nat} (h : i < xs.length) : atI xs (0 + (i : Int)) = some xs[i] := by
  rw [show (0 + (i : Int)) = (i : Int) by omega]
  exact atI_nat (List.getElem?_eq_getElem h)
theorem a_lsame : ∀ (f l : Nat), f ≤ l → ∀ (x y : T) (n n' : Int), Rs f n x → Rs f n' y → Pm (k_ls l [x, y]) (.bl (sameB f x y))
  | 0, _, _, x, _, _, _, h, _ => by cases h.wf
  | f + 1, 0, hl, _, _, _, _, _, _ => by omega
  | f + 1, l + 1, hl, x, y, n, n', hx, hy => by
    have ih := a_lsame f l (by omega)
    have px := wf_plain hx.wf
    have py := wf_plain hy.wf
    show Pm (runW 5 (m__law_same d_lkind (k_ls l)) [x, y]) _
    refine q_run (q_set (pm_bnd (a := [x]) (pm_bnd (pm_opt rfl) (pm_bnd pm_ret pm_ret)) (a_lkind x px hx.ok)) ?_)
    have t1 : Pm (mCmpT .ne (mVarB 2) (mCall d_lkind (aCons (mVar 1) aNil)) ((startE 5 [x, y]).set 2 (some (.sh (.str (kindT x)))))) (!decide (kindT x = kindT y)) :=
      eq_kind (i := 0) (j := 0) (pm_opt rfl) (pm_bnd (a := [y]) (pm_bnd (pm_opt rfl) (pm_bnd pm_ret pm_ret)) (a_lkind y py hy.ok))
    by_cases e : kindT x = kindT y
    rotate_left
    · rw [decide_eq_false e] at t1
      exact (q_rt (q_ift t1 (q_ret pm_ret))).cast (by rw [same_ne e])
    rw [decide_eq_true e] at t1
    refine q_nx (q_iff t1 q_none) ?_
    have t2 : Pm (mCmpT .eq (mVarB 2) (mLit (.str "dict")) ((startE 5 [x, y]).set 2 (some (.sh (.str (kindT x)))))) (isDct x) := Pm.cast (a := decide (kindT x = "dict")) (pm_bnd (a := (.str (kindT x) : T)) (pm_opt rfl) (pm_bnd (a := (.str "dict" : T)) pm_ret (pm_opt rfl))) (kd_dct x)
    have t3 : Pm (mCmpT .eq (mVarB 2) (mLit (.str "list")) ((startE 5 [x, y]).set 2 (some (.sh (.str (kindT x)))))) (isLst x) := Pm.cast (a := decide (kindT x = "list")) (pm_bnd (a := (.str (kindT x) : T)) (pm_opt rfl) (pm_bnd (a := (.str "list" : T)) pm_ret (pm_opt rfl))) (kd_lst x)
    by_cases hd : ∃ kvs, x = .dct kvs
    · obtain ⟨k1, rfl⟩ := hd
      obtain ⟨k2, rfl⟩ := get_dct ((is_dct e).trans rfl)
      obtain ⟨n1, r1, nd1, s1, w1⟩ := hx.dct
      obtain ⟨n2, r2, nd2, s2, w2⟩ := hy.dct
      obtain ⟨l1, m1⟩ := strs_of n1
      obtain ⟨l2, m2⟩ := strs_of n2
      have cps : ∀ {ks : List (T × T)} {l : List Str}, ks.map (·.1) = l.map .str → (∀ q ∈ ks, WF f q.1 = true) → ∀ x ∈ MB.sortS l, (x.cps.all (· < 0x110000)) = true := fun {ks l} m w x hx => by
        have hx : x ∈ l := List.mem_mergeSort.mp hx
        have : (MB.T.str x : T) ∈ ks.map (·.1) := m ▸ List.mem_map_of_mem hx
        obtain ⟨q, hq, eq⟩ := List.mem_map.mp this
        have := w q hq
        rw [eq] at this
        cases f with
        | zero => cases this
        | succ f =>
          have := (show (decide (x.length ≤ 1000) && x.cps.all (· < 0x110000)) = true from this)
          rw [Bool.and_eq_true] at this
          exact this.2
      have ndl : l1.Nodup := by
        have : (l1.map fun x => (MB.T.str x).tk).Nodup := by
          have e : (k1.map fun q => q.1.tk) = (k1.map (·.1)).map MB.T.tk := by rw [List.map_map]; rfl
          rw [e, m1, List.map_map] at nd1
          exact nd1
        exact nodup_of_map _ this
      have t4 : Pm (mCmpT .ne (mB1 sortedW (mVarB 0)) (mB1 sortedW (mVarB 1)) ((startE 5 [.dct k1, .dct k2]).set 2 (some (.sh (.str (kindT (.dct k1))))))) (!sameKeys (k1.map (·.1)) (k2.map (·.1))) := by
        refine pm_bnd (pm_bnd (pm_opt rfl) (pm_opt (sorted_of m1 s1))) (pm_bnd (pm_bnd (pm_opt rfl) (pm_opt (sorted_of m2 s2))) (pm_opt ?_))
        show Option.map (!·) (MB.eqT _ _) = _
        rw [eq_strs _ _ (cps m1 w1) (cps m2 w2), m1, m2, sort_iff ndl]
        rfl
      refine q_rt (q_ift t2 ?_)
      cases ek : sameKeys (k1.map (·.1)) (k2.map (·.1)) with
      | false =>
        rw [ek] at t4
        refine (q_rt (q_ift t4 (q_ret pm_ret))).cast ?_
        show Fl.rt (.bl false) = Fl.rt (.bl (sameKeys (k1.map (·.1)) (k2.map (·.1)) && (k1.map (·.1)).all (atKK k1 k2 (sameB f))))
        rw [ek]; rfl
      | true =>
        rw [ek] at t4
        have ki := key_in n1 n2 ek
        refine q_nx (q_iff t4 q_none) (q_ret ?_)
        refine Pm.cast (pm_none (ts := k1.map (·.1)) (B := atKK k1 k2 (sameB f)) (pm_lcf (pm_bnd (pm_opt rfl) (pm_opt rfl)) (fun t ht => ?_) (fun t ht => pm_opt rfl))) ?_
        · obtain ⟨q, hq, rfl⟩ := List.mem_map.mp ht
          obtain ⟨p, hp, ep⟩ := ki q hq
          have e1 := dget_of nd1 q hq
          have e2 := dget_of nd2 p hp
          have d1 := dgetW_of n1 nd1 hq
          have d2 := dgetW_of n2 nd2 hp
          rw [ep] at e2 d2
          have e3 : atKK k1 k2 (sameB f) q.1 = sameB f q.2 p.2 := by unfold atKK; rw [e1, e2]
          rw [e3]
          exact pm_bnd (a := sameB f q.2 p.2) (pm_bnd (a := (.bl (sameB f q.2 p.2) : T)) (pm_bnd (a := [q.2, p.2]) (pm_bnd (pm_bnd (pm_opt rfl) (pm_bnd (pm_opt rfl) (pm_opt d1))) (pm_bnd (a := [p.2]) (pm_bnd (a := p.2) (pm_bnd (pm_opt rfl) (pm_bnd (pm_opt rfl) (pm_opt d2))) (pm_bnd pm_ret pm_ret)) pm_ret)) (ih q.2 p.2 (n - 1) (n' - 1) (r1 q hq) (r2 p hp))) (pm_opt rfl)) pm_ret
        · show _ = (MB.T.bl (sameKeys (k1.map (·.1)) (k2.map (·.1)) && (k1.map (·.1)).all (atKK k1 k2 (sameB f))) : T)
          rw [ek]; rfl
    · have ed : isDct x = false := by cases x <;> first | rfl | exact absurd ⟨_, rfl⟩ hd
      rw [ed] at t2
      refine q_nx (q_iff t2 q_none) ?_
      by_cases hl2 : ∃ ts, x = .lst ts
      · obtain ⟨xs, rfl⟩ := hl2
        obtain ⟨ys, rfl⟩ := get_lst ((is_lst e).trans rfl)
        obtain ⟨i1, z1⟩ := hx.lst
        obtain ⟨i2, z2⟩ := hy.lst
        refine q_rt (q_ift t3 ?_)
        have t4 : Pm (mCmpT .ne (mB1 lenW (mVarB 0)) (mB1 lenW (mVarB 1)) ((startE 5 [.lst xs, .lst ys]).set 2 (some (.sh (.str (kindT (.lst xs))))))) (!decide (xs.length = ys.length)) := by
          refine pm_bnd (a := (.int xs.length : T)) (pm_bnd (pm_opt rfl) (pm_opt rfl)) (pm_bnd (a := (.int ys.length : T)) (pm_bnd (pm_opt rfl) (pm_opt rfl)) (pm_opt ?_))
          rw [ne_int, len_eq]
        by_cases ez : xs.length = ys.length
        · rw [decide_eq_true ez] at t4
          refine q_nx (q_iff t4 q_none) (q_ret ?_)
          refine Pm.cast (pm_none (ts := (List.range xs.length).map fun (i : Nat) => (.int (0 + (i : Int)) : T)) (B := atI2 xs ys) (pm_lcf (pm_bnd (a := [.int xs.length]) (pm_bnd (a := (.int xs.length : T)) (pm_bnd (pm_opt rfl) (pm_opt rfl)) (pm_bnd pm_ret pm_ret)) (pm_opt ?_)) (fun t ht => ?_) (fun t ht => pm_opt rfl))) ?_
          · show (if 0 ≤ (xs.length : Int) ∧ (xs.length : Int) ≤ 16777216 then _ else _) = _
            rw [if_pos ⟨by omega, by omega⟩]
            rw [Int.toNat_natCast]
          · obtain ⟨i, hi, rfl⟩ := List.mem_map.mp ht
            have hxi := List.mem_range.mp hi
            have hyi : i < ys.length := by omega
            have a1 := i1 _ (List.getElem_mem hxi)
            have a2 := i2 _ (List.getElem_mem hyi)
            obtain ⟨f', rfl⟩ : ∃ f', f = f' + 1 := by
              cases f with
              | zero => cases a1.1
              | succ f' => exact ⟨f', rfl⟩
            have e3 : atI2 xs ys (.int (0 + (i : Int))) = sameB (f' + 1) xs[i] ys[i] := by
              rw [same_item (wf_plain a1.1) (wf_plain a2.1) a1.2 a2.2]
              unfold atI2
              have e : (0 + (i : Int)).toNat = i := by omega
              simp only [e, List.getElem?_eq_getElem hxi, List.getElem?_eq_getElem hyi]
            rw [e3]
            exact pm_bnd (a := sameB (f' + 1) xs[i] ys[i]) (pm_bnd (a := (.bl (sameB (f' + 1) xs[i] ys[i]) : T)) (pm_bnd (a := [xs[i], ys[i]]) (pm_bnd (pm_bnd (pm_opt rfl) (pm_bnd (pm_opt rfl) (pm_opt (atI_get hxi)))) (pm_bnd (a := [ys[i]]) (pm_bnd (a := ys[i]) (pm_bnd (pm_opt rfl) (pm_bnd (pm_opt rfl) (pm_opt (atI_get hyi)))) (pm_bnd pm_ret pm_ret)) pm_ret)) (ih xs[i] ys[i] 60 60 (rs_item a1.1 a1.2) (rs_item a2.1 a2.2))) (pm_opt rfl)) pm_ret
          · show _ = (MB.T.bl (decide (xs.length = ys.length) && (pairsZ xs ys).all pairI) : T)
            rw [decide_eq_true ez, all_at ez]; rfl
        · rw [decide_eq_false ez] at t4
          refine (q_rt (q_ift t4 (q_ret pm_ret))).cast ?_
          show Fl.rt (.bl false) = Fl.rt (.bl (decide (xs.length = ys.length) && (pairsZ xs ys).all pairI))
          rw [decide_eq_false ez]; rfl
      · have el : isLst x = false := by cases x <;> first | rfl | exact absurd ⟨_, rfl⟩ hl2
        rw [el] at t3
        refine q_nx (q_iff t3 q_none) (q_ret ?_)
        rw [same_rest e ed el]
        exact pm_same2 (i := 0) (j := 1) rfl rfl px py (eq_rest hx hy e ed el)
end Wp

end -- L7
section -- L8
set_option linter.all false
set_option maxRecDepth 100000
set_option maxHeartbeats 1000000
/-! Plain: same, kind_of, _law_pair_right. -/
namespace Wp
open PySem PySem.Spec L2
theorem eqv_comm (x y : T) (hx : x.atom = true ∨ y.atom = true) : x.eqv y = y.eqv x := by
  cases x <;> cases y <;> first | rfl | (rcases hx with h | h <;> (cases h; done)) | (show (_ == _) = (_ == _); exact Bool.beq_comm) | (show (_ == _) = (_ == _); exact BEq.comm) | (show decide _ = decide _; exact decide_eq_decide.mpr eq_comm)
theorem sameI_comm {x y : T} (h : x.eqv y = y.eqv x) : sameI x y = sameI y x := by
  unfold sameI
  rw [h]
  cases isBoolT x <;> cases isBoolT y <;> rfl
theorem keys_comm {k1 k2 : List (T × T)} (h1 : (k1.all fun q => nameB q.1) = true) (h2 : (k2.all fun q => nameB q.1) = true) (n1 : (k1.map fun q => q.1.tk).Nodup) (n2 : (k2.map fun q => q.1.tk).Nodup) : sameKeys (k1.map (·.1)) (k2.map (·.1)) = sameKeys (k2.map (·.1)) (k1.map (·.1)) := by
  have ndl : ∀ {ks : List (T × T)} {l : List Str}, ks.map (·.1) = l.map .str → (ks.map fun q => q.1.tk).Nodup → l.Nodup := fun {ks l} m nd => by
    have : (l.map fun x => (MB.T.str x).tk).Nodup := by
      have e : (ks.map fun q => q.1.tk) = (ks.map (·.1)).map MB.T.tk := by rw [List.map_map]; rfl
      rw [e, m, List.map_map] at nd
      exact nd
    exact nodup_of_map _ this
  obtain ⟨l, e⟩ := strs_of h1
  obtain ⟨m, e2⟩ := strs_of h2
  rw [e, e2, ← sort_iff (ndl e n1), ← sort_iff (ndl e2 n2)]
  by_cases h : MB.sortS l = MB.sortS m
  · rw [decide_eq_true h, decide_eq_true h.symm]
  · rw [decide_eq_false h, decide_eq_false (fun z => h z.symm)]
theorem atKK_comm {k1 k2 : List (T × T)} {B : T → T → Bool} (h1 : (k1.all fun q => nameB q.1) = true) (h2 : (k2.all fun q => nameB q.1) = true) (n1 : (k1.map fun q => q.1.tk).Nodup) (n2 : (k2.map fun q => q.1.tk).Nodup) (e : sameKeys (k1.map (·.1)) (k2.map (·.1)) = true) (hB : ∀ p ∈ k1, ∀ q ∈ k2, B p.2 q.2 = B q.2 p.2) (h : (k1.map (·.1)).all (atKK k1 k2 B) = true) : (k2.map (·.1)).all (atKK k2 k1 B) = true := by
  rw [List.all_eq_true]
  intro t ht
  obtain ⟨q, hq, rfl⟩ := List.mem_map.mp ht
  obtain ⟨p, hp, ep⟩ := key_in h2 h1 (by rw [keys_comm h2 h1 n2 n1]; exact e) q hq
  have e1 := dget_of n1 p hp
  have e2 := dget_of n2 q hq
  have := List.all_eq_true.mp h p.1 (List.mem_map.mpr ⟨p, hp, rfl⟩)
  unfold atKK at this ⊢
  rw [ep] at e1 this
  rw [e1, e2] at this
  rw [e1, e2]
  show B q.2 p.2 = true
  rw [← hB p hp q hq]
  exact this
theorem sameB_comm : ∀ (f : Nat) (x y : T) (n n' : Int), Rs f n x → Rs f n' y → sameB f x y = sameB f y x
  | 0, _, _, _, _, h, _ => by cases h.wf
  | f + 1, x, y, n, n', hx, hy => by
    have ih := sameB_comm f
    by_cases e : kindT x = kindT y
    rotate_left
    · rw [same_ne e, same_ne (fun z => e z.symm)]
    by_cases hd : ∃ kvs, x = .dct kvs
    · obtain ⟨k1, rfl⟩ := hd
      obtain ⟨k2, rfl⟩ := get_dct ((is_dct e).trans rfl)
      obtain ⟨n1, r1, nd1, s1, w1⟩ := hx.dct
      obtain ⟨n2, r2, nd2, s2, w2⟩ := hy.dct
      show (sameKeys (k1.map (·.1)) (k2.map (·.1)) && (k1.map (·.1)).all (atKK k1 k2 (sameB f))) = (sameKeys (k2.map (·.1)) (k1.map (·.1)) && (k2.map (·.1)).all (atKK k2 k1 (sameB f)))
      rw [keys_comm n2 n1 nd2 nd1]
      cases ek : sameKeys (k1.map (·.1)) (k2.map (·.1)) with
      | false => rfl
      | true =>
        rw [Bool.true_and, Bool.true_and, Bool.eq_iff_iff]
        have ek2 : sameKeys (k2.map (·.1)) (k1.map (·.1)) = true := by rw [keys_comm n2 n1 nd2 nd1]; exact ek
        exact ⟨atKK_comm n1 n2 nd1 nd2 ek fun p hp q hq => ih p.2 q.2 _ _ (r1 p hp) (r2 q hq), atKK_comm n2 n1 nd2 nd1 ek2 fun p hp q hq => ih p.2 q.2 _ _ (r2 p hp) (r1 q hq)⟩
    · have ed : isDct x = false := by cases x <;> first | rfl | exact absurd ⟨_, rfl⟩ hd
      by_cases hl2 : ∃ ts, x = .lst ts
      · obtain ⟨xs, rfl⟩ := hl2
        obtain ⟨ys, rfl⟩ := get_lst ((is_lst e).trans rfl)
        obtain ⟨i1, z1⟩ := hx.lst
        obtain ⟨i2, z2⟩ := hy.lst
        show (decide (xs.length = ys.length) && (pairsZ xs ys).all pairI) = (decide (ys.length = xs.length) && (pairsZ ys xs).all pairI)
        by_cases ez : xs.length = ys.length
        · rw [decide_eq_true ez, decide_eq_true ez.symm, Bool.true_and, Bool.true_and]
          have gen : ∀ (xs ys : List T), (∀ t ∈ xs, t.atom = true) → (pairsZ xs ys).all pairI = (pairsZ ys xs).all pairI := fun xs => by
            induction xs with
            | nil => intro ys _; cases ys <;> rfl
            | cons a xs ih =>
              intro ys ha
              cases ys with
              | nil => rfl
              | cons b ys =>
                show (sameI a b && (pairsZ xs ys).all pairI) = (sameI b a && (pairsZ ys xs).all pairI)
                rw [ih ys fun t ht => ha t (List.mem_cons_of_mem _ ht), sameI_comm (eqv_comm a b (.inl (ha a List.mem_cons_self)))]
          exact gen xs ys fun t ht => item_atom (wf_plain (i1 t ht).1) (i1 t ht).2
        · rw [decide_eq_false ez, decide_eq_false (fun z => ez z.symm)]; rfl
      · have el : isLst x = false := by cases x <;> first | rfl | exact absurd ⟨_, rfl⟩ hl2
        have ed' : isDct y = false := by rw [← kd_dct, ← e, kd_dct]; exact ed
        have el' : isLst y = false := by rw [← kd_lst, ← e, kd_lst]; exact el
        rw [same_rest e ed el, same_rest e.symm ed' el']
        refine sameI_comm ?_
        have px := wf_plain hx.wf
        have py := wf_plain hy.wf
        have ox := hx.ok
        have oy := hy.ok
        cases x <;> first | (cases ed; done) | (cases el; done) | (cases px; done) | exact eqv_comm _ _ (.inl rfl) | skip
        rename_i xs
        cases y <;> first | (cases ed'; done) | (cases el'; done) | (cases py; done) | exact eqv_comm _ _ (.inr rfl) | skip
        rename_i ys
        have e1 : xs = [] := List.isEmpty_iff.mp ox
        have e2 : ys = [] := List.isEmpty_iff.mp oy
        subst e1 e2
        rfl
/-! ### same, kind_of -/
def d_same (l : Nat) : List T → M T := runW 2 (m_same (d_result l) (k_sm l))
def r_same (l : Nat) : List T → M Unit := fun ts => re_same (d_result l) (startE 2 ts)
def d_kof (l : Nat) : List T → M T := runW 1 (m_kind_of (d_result l) d_kind)
def r_kof (l : Nat) : List T → M Unit := fun ts => re_kind_of (d_result l) (startE 1 ts)
theorem pm_res {f l : Nat} (hl : f ≤ l) {x : T} (h : WF f x = true) {i : Nat} {ρ : Env} (e : MB.rdS ρ i = some x) : Pm (mNotT (mTru (mCall (d_result l) (aCons (mVar i) aNil))) ρ) (!standsB f 60 true x) :=
  pm_bnd (a := standsB f 60 true x) (pm_bnd (a := (.bl (standsB f 60 true x) : T)) (pm_bnd (a := [x]) (pm_bnd (pm_opt e) (pm_bnd pm_ret pm_ret)) (a_result f l hl x h)) (pm_opt rfl)) pm_ret
theorem a_same {f l : Nat} (hl : f ≤ l) {x y : T} (hx : Rs f 60 x) (hy : Rs f 60 y) : Pm (d_same l [x, y]) (.bl (sameB f x y)) := by
  have h1 := pm_res hl hx.wf (i := 0) (ρ := startE 2 [x, y]) rfl
  have h2 := pm_res hl hy.wf (i := 1) (ρ := startE 2 [x, y]) rfl
  rw [hx.st] at h1
  rw [hy.st] at h2
  refine q_run (q_nx (q_iff (pm_or h1 fun _ => h2) q_none) (q_ret ?_))
  exact pm_bnd (a := [x, y]) (pm_bnd (pm_opt rfl) (pm_bnd (a := [y]) (pm_bnd (pm_opt rfl) (pm_bnd pm_ret pm_ret)) pm_ret)) (a_is_same f l hl x y 60 60 hx hy)
theorem a_kof {f l : Nat} (hl : f ≤ l) {x : T} (hx : Rs f 60 x) : Pm (d_kof l [x]) (.str (kindT x)) := by
  have h1 := pm_res hl hx.wf (i := 0) (ρ := startE 1 [x]) rfl
  rw [hx.st] at h1
  refine q_run (q_nx (q_iff h1 q_none) (q_ret ?_))
  exact pm_bnd (a := [x]) (pm_bnd (pm_opt rfl) (pm_bnd pm_ret pm_ret)) (a_kind x (wf_plain hx.wf))
theorem ar_same {f l : Nat} (hl : f ≤ l) {x y : T} (hx : WF f x = true) (hy : WF f y = true) (h : (standsB f 60 true x && standsB f 60 true y) = false) : Pm (r_same l [x, y]) () := by
  have h1 := pm_res hl hx (i := 0) (ρ := startE 2 [x, y]) rfl
  have h2 := pm_res hl hy (i := 1) (ρ := startE 2 [x, y]) rfl
  have h3 := pm_or h1 fun _ => h2
  have e : (!standsB f 60 true x || !standsB f 60 true y) = true := by rw [← Bool.not_and, h]; rfl
  rw [e] at h3
  show Pm (re_same (d_result l) (startE 2 [x, y])) ()
  unfold re_same
  exact pm_bnd h3 (pm_opt rfl)
theorem ar_kof {f l : Nat} (hl : f ≤ l) {x : T} (hx : WF f x = true) (h : standsB f 60 true x = false) : Pm (r_kof l [x]) () := by
  have h1 := pm_res hl hx (i := 0) (ρ := startE 1 [x]) rfl
  rw [h] at h1
  show Pm (re_kind_of (d_result l) (startE 1 [x])) ()
  unfold re_kind_of
  exact pm_bnd h1 (pm_opt rfl)
def d_pair (l : Nat) : List T → M T := runW 3 (m__law_pair_right (k_th l) (k_ls l) (d_same l) (r_same l))
theorem pm_thing {f l : Nat} (hl : f ≤ l) {x : T} (h : WF f x = true) {i : Nat} {ρ : Env} (e : MB.rdS ρ i = some x) : Pm (mNotT (mTru (mCall (k_th l) (aCons (mVar i) (aCons (mLit (.int 60)) (aCons (mLit (.bl true)) aNil))))) ρ) (!standsB f 60 true x) :=
  pm_bnd (a := standsB f 60 true x) (pm_bnd (a := (.bl (standsB f 60 true x) : T)) (pm_bnd (a := [x, .int 60, .bl true]) (pm_bnd (pm_opt e) (pm_bnd (a := [.int 60, .bl true]) (pm_bnd pm_ret (pm_bnd (a := [.bl true]) (pm_bnd pm_ret (pm_bnd pm_ret pm_ret)) pm_ret)) pm_ret)) (a_thing f l hl x 60 true h)) (pm_opt rfl)) pm_ret
theorem a_pair {f l : Nat} (hl : f ≤ l) {x y : T} (hx : WF f x = true) (hy : WF f y = true) : Pm (d_pair l [x, y]) (.bl true) := by
  have h1 := pm_thing hl hx (i := 0) (ρ := startE 3 [x, y]) rfl
  have h2 := pm_thing hl hy (i := 1) (ρ := startE 3 [x, y]) rfl
  have h3 := pm_or h1 fun _ => h2
  refine q_run ?_
  cases e : (standsB f 60 true x && standsB f 60 true y) with
  | false =>
    have e3 : (!standsB f 60 true x || !standsB f 60 true y) = true := by rw [← Bool.not_and, e]; rfl
    rw [e3] at h3
    have e' : (standsB f 60 true y && standsB f 60 true x) = false := by rw [Bool.and_comm]; exact e
    refine q_rt (q_ift h3 (q_nx (q_iff (pm_bnd (a := true) (pm_bnd (a := (.bl true : T)) ?_ (pm_opt rfl)) pm_ret) q_none) (q_ret ?_)))
    · exact pm_bnd (a := [x, y]) (pm_bnd (pm_opt rfl) (pm_bnd (a := [y]) (pm_bnd (pm_opt rfl) (pm_bnd pm_ret pm_ret)) pm_ret)) (pm_bnd (ar_same hl hx hy e) pm_ret)
    · exact pm_bnd (a := [y, x]) (pm_bnd (pm_opt rfl) (pm_bnd (a := [x]) (pm_bnd (pm_opt rfl) (pm_bnd pm_ret pm_ret)) pm_ret)) (pm_bnd (ar_same hl hy hx e') pm_ret)
  | true =>
    have e3 : (!standsB f 60 true x || !standsB f 60 true y) = false := by rw [← Bool.not_and, e]; rfl
    rw [e3] at h3
    rw [Bool.and_eq_true] at e
    have rx : Rs f 60 x := ⟨hx, e.1⟩
    have ry : Rs f 60 y := ⟨hy, e.2⟩
    refine q_nx (q_iff h3 q_none) (q_set (t := .bl (sameB f x y)) (pm_bnd (a := [x, y]) (pm_bnd (pm_opt rfl) (pm_bnd (a := [y]) (pm_bnd (pm_opt rfl) (pm_bnd pm_ret pm_ret)) pm_ret)) (a_lsame f l hl x y 60 60 rx ry)) (q_ret ?_))
    have c1 : Pm (mB1 reprW (mLst (aCons (mCall (d_same l) (aCons (mVar 0) (aCons (mVar 1) aNil))) (aCons (mCallP perm2 (d_same l) (aCons (mVar 0) (aCons (mVar 1) aNil))) aNil))) ((startE 3 [x, y]).set 2 (some (.sh (.bl (sameB f x y)))))) (.str (PyData.list [.bool (sameB f x y), .bool (sameB f x y)]).shown) := by
      refine pm_bnd (a := (.lst [.bl (sameB f x y), .bl (sameB f x y)] : T)) (pm_bnd (a := [.bl (sameB f x y), .bl (sameB f x y)]) (pm_bnd (a := (.bl (sameB f x y) : T)) ?_ (pm_bnd (a := [.bl (sameB f x y)]) (pm_bnd (a := (.bl (sameB f x y) : T)) ?_ (pm_bnd pm_ret pm_ret)) pm_ret)) (pm_opt rfl)) (pm_opt rfl)
      · exact pm_bnd (a := [x, y]) (pm_bnd (pm_opt rfl) (pm_bnd (a := [y]) (pm_bnd (pm_opt rfl) (pm_bnd pm_ret pm_ret)) pm_ret)) (a_same hl rx ry)
      · refine pm_bnd (a := [x, y]) (pm_bnd (pm_opt rfl) (pm_bnd (a := [y]) (pm_bnd (pm_opt rfl) (pm_bnd pm_ret pm_ret)) pm_ret)) ?_
        rw [sameB_comm f x y 60 60 rx ry]
        exact a_same hl ry rx
    have c2 : Pm (mB1 reprW (mLst (aCons (mVar 2) (aCons (mVar 2) aNil))) ((startE 3 [x, y]).set 2 (some (.sh (.bl (sameB f x y)))))) (.str (PyData.list [.bool (sameB f x y), .bool (sameB f x y)]).shown) :=
      pm_bnd (a := (.lst [.bl (sameB f x y), .bl (sameB f x y)] : T)) (pm_bnd (a := [.bl (sameB f x y), .bl (sameB f x y)]) (pm_bnd (pm_opt rfl) (pm_bnd (a := [.bl (sameB f x y)]) (pm_bnd (pm_opt rfl) (pm_bnd pm_ret pm_ret)) pm_ret)) (pm_opt rfl)) (pm_opt rfl)
    refine pm_eqT c1 c2 ?_
    rw [eq_atom rfl rfl]
    exact congrArg some (decide_eq_true rfl)
end Wp

end -- L8
section -- L9
set_option linter.all false
set_option maxRecDepth 100000
set_option maxHeartbeats 1000000
/-! Plain: what is drawn: names, items. -/
namespace Wp
open PySem PySem.Spec L2
/-- x answers what P holds of, with d draws at most -/
def Qm {α : Type} (x : M α) (d : Nat) (P : α → Prop) : Prop := ∀ (b : Nat) (R : α → Nat → Prop), d ≤ b → (∀ a b', P a → b ≤ b' + d → R a b') → x b R
section
variable {α β : Type} {x y : M α} {a : α} {P P' : α → Prop} {Q : β → Prop} {d d' e : Nat}
theorem qm_ret (h : P a) : Qm (ret a) d P := fun b R _ r => r a b h (by omega)
theorem qm_pm (h : Pm x a) (p : P a) : Qm x d P := fun b R _ r => h b R (r a b p (by omega))
theorem qm_bnd {f : α → M β} (h : Qm x d P) (k : ∀ a, P a → Qm (f a) d' Q) (l : d + d' ≤ e) : Qm (bnd x f) e Q := fun b R hb r => h b _ (by omega) fun a b' pa h1 => k a pa b' R (by omega) fun c b'' qc h2 => r c b'' qc (by omega)
theorem qm_pb {f : α → M β} (h : Pm x a) (k : Qm (f a) d Q) : Qm (bnd x f) d Q := fun b R hb r => h b _ (k b R hb r)
theorem qm_then {f : α → M β} {g : α → β} (h : Qm x d P) (k : ∀ a, P a → Pm (f a) (g a) ∧ Q (g a)) : Qm (bnd x f) d Q := fun b R hb r => h b _ hb fun a b' pa h1 => (k a pa).1 b' R (r _ b' (k a pa).2 h1)
theorem qm_mono (h : Qm x d P) (l : d ≤ d') (k : ∀ a, P a → P' a) : Qm x d' P' := fun b R hb r => h b R (by omega) fun a b' pa h1 => r a b' (k a pa) (by omega)
theorem qm_opt {o : Option α} (h : o = some a) (p : P a) : Qm (opt o) d P := qm_pm (pm_opt h) p
theorem qm_t (h : Qm x d P) : Qm (if true = true then x else y) d P := by rw [if_pos rfl]; exact h
theorem qm_f (h : Qm y d P) : Qm (if false = true then x else y) d P := by rw [if_neg Bool.false_ne_true]; exact h
end
/-- it hands back what P holds of -/
def Rt (P : T → Prop) : Fl → Prop := fun fl => ∃ t, fl = .rt t ∧ P t
/-- it goes on, with what I holds of -/
def Nx (I : Env → Prop) : Fl → Prop := fun fl => ∃ ρ, fl = .nx ρ ∧ I ρ
section
variable {m m' : Env → M Fl} {ρ : Env} {P P' : T → Prop} {I J : Env → Prop} {d d' e : Nat} {A B : Env → M T} {C : Env → M Bool} {ns i : Nat} {ts : List T} {Q : Fl → Prop} {F : Bool → Prop}
theorem r_run (h : Qm (m (startE ns ts)) d (Rt P)) : Qm (runW ns m ts) d P := fun b R hb r => h b _ hb fun fl b' ⟨t, e, p⟩ h1 => by subst e; exact r t b' p h1
theorem r_ret (h : Qm (A ρ) d P) : Qm (sRet A ρ) d (Rt P) := fun b R hb r => h b _ hb fun t b' p h1 => r _ b' ⟨t, rfl, p⟩ h1
theorem r_set (h : Qm (A ρ) d P) (k : ∀ t, P t → Qm (m' (ρ.set i (some (.sh t)))) d' Q) (l : d + d' ≤ e) : Qm (sSeq (sSet i A) m' ρ) e Q := fun b R hb r => h b _ (by omega) fun t b' p h1 => k t p b' R (by omega) fun c b'' q h2 => r c b'' q (by omega)
theorem r_setp {t : T} (h : Pm (A ρ) t) (k : Qm (m' (ρ.set i (some (.sh t)))) d Q) : Qm (sSeq (sSet i A) m' ρ) d Q := fun b R hb r => h b _ (k b R hb r)
theorem r_seq (h : Qm (m ρ) d (Nx I)) (k : ∀ ρ', I ρ' → Qm (m' ρ') d' Q) (l : d + d' ≤ e) : Qm (sSeq m m' ρ) e Q := fun b R hb r => h b _ (by omega) fun fl b' ⟨ρ', e', p⟩ h1 => by subst e'; exact k ρ' p b' R (by omega) fun c b'' q h2 => r c b'' q (by omega)
theorem r_seqp {ρ' : Env} (h : Pm (m ρ) (.nx ρ')) (k : Qm (m' ρ') d Q) : Qm (sSeq m m' ρ) d Q := fun b R hb r => h b _ (k b R hb r)
/-- if C: return ..; else go on -/
theorem r_ifr (h : Qm (C ρ) d F) (k : F true → Qm (m ρ) d' (Rt P)) (k' : F false → Qm (m' ρ) d' (Rt P)) (l : d + d' ≤ e) : Qm (sSeq (sIf C m sNil) m' ρ) e (Rt P) := fun b R hb r => h b _ (by omega) fun c b' p h1 => by
  cases c with
  | true =>
    show (if true = true then m ρ else sNil ρ) b' _
    rw [if_pos rfl]
    exact k p b' _ (by omega) fun fl b'' ⟨t, et, pt⟩ h2 => by subst et; exact r _ b'' ⟨t, rfl, pt⟩ (by omega)
  | false =>
    show (if false = true then m ρ else sNil ρ) b' _
    rw [if_neg Bool.false_ne_true]
    exact k' p b' R (by omega) fun c b'' q h2 => r c b'' q (by omega)
theorem r_ifn (h : Pm (C ρ) false) (k : Qm (m' ρ) d Q) : Qm (sSeq (sIf C m sNil) m' ρ) d Q := r_seqp (q_iff h q_none) k
theorem r_ify (h : Pm (C ρ) true) (k : Qm (m ρ) d (Rt P)) : Qm (sSeq (sIf C m sNil) m' ρ) d (Rt P) := fun b R hb r => h b _ (by
  show (if true = true then m ρ else sNil ρ) b _
  rw [if_pos rfl]
  exact k b _ hb fun fl b'' ⟨t, et, pt⟩ h2 => by subst et; exact r _ b'' ⟨t, rfl, pt⟩ h2)
theorem r_mif (h : Qm (C ρ) d F) (k : F true → Qm (A ρ) d' P) (k' : F false → Qm (B ρ) d' P) (l : d + d' ≤ e) : Qm (mIf C A B ρ) e P := qm_bnd h (fun c f => by
  cases c with
  | true => exact qm_t (k f)
  | false => exact qm_f (k' f)) l
theorem r_for {g : T → Env → M Fl} {I : Nat → Env → Prop} : ∀ (ts : List T) (i : Nat), (∀ t ∈ ts, ∀ (j : Nat) (ρ : Env), i ≤ j → j < i + ts.length → I j ρ → Qm (g t ρ) d (Nx (I (j + 1)))) → ∀ ρ, I i ρ → Qm (forW g ts ρ) (d * ts.length) (Nx (I (i + ts.length)))
  | [], i, _, ρ, hi => qm_ret ⟨ρ, rfl, hi⟩
  | t :: ts, i, h, ρ, hi => fun b R hb r => by
    have e : d * (t :: ts).length = d + d * ts.length := by rw [List.length_cons, Nat.mul_add, Nat.mul_one, Nat.add_comm]
    rw [e] at hb r
    refine h t List.mem_cons_self i ρ (Nat.le_refl _) (by simp) hi b _ (by omega) fun fl b' ⟨ρ', ef, hi'⟩ h1 => ?_
    subst ef
    refine r_for ts (i + 1) (fun u hu j ρ a b => h u (List.mem_cons_of_mem _ hu) j ρ (by omega) (by rw [List.length_cons]; omega)) ρ' hi' b' R (by omega) fun fl b'' ⟨ρ'', ef, hi''⟩ h2 => r fl b'' ⟨ρ'', ef, ?_⟩ (by omega)
    rw [show i + (t :: ts).length = i + 1 + ts.length by rw [List.length_cons]; omega]
    exact hi''
end
/-- a comprehension whose items are drawn -/
theorem qm_walk {α : Type} {f : T → M (Option α)} {P : α → Prop} {d : Nat} : ∀ (ts : List T), (∀ t ∈ ts, Qm (f t) d fun o => ∃ y, o = some y ∧ P y) → Qm (walkW f ts) (d * ts.length) fun ys => ys.length = ts.length ∧ ∀ y ∈ ys, P y
  | [], _ => qm_ret ⟨rfl, fun _ h => nomatch h⟩
  | t :: ts, hf => by
    have e : d * (t :: ts).length = d + d * ts.length := by rw [List.length_cons, Nat.mul_add, Nat.mul_one, Nat.add_comm]
    rw [e]
    refine qm_bnd (hf t List.mem_cons_self) (fun o ⟨y, eo, py⟩ => ?_) (Nat.le_refl _)
    subst eo
    refine qm_bnd (d' := 0) (qm_walk ts fun u hu => hf u (List.mem_cons_of_mem _ hu)) (fun ys ⟨l, h⟩ => qm_ret ⟨by rw [List.length_cons, List.length_cons, l], fun z hz => ?_⟩) (Nat.le_refl _)
    rcases List.mem_cons.mp hz with rfl | hz
    · exact py
    · exact h z hz
/-! ### numbers, one of some, names -/
def isIx (n : Nat) (t : T) : Prop := ∃ k : Nat, t = .int k ∧ k < n
theorem q_take (n : Int) (h0 : 0 < n) (h1 : n < 1073741824) : Qm (mTake [.loc 0, .int n]) 1 (isIx n.toNat) := fun b R hb r =>
  ⟨n, rfl, h0, h1, hb, fun i b' h2 h3 h4 => r _ b' ⟨i.toNat, by rw [Int.toNat_of_nonneg h2], by omega⟩ h4⟩
theorem q_word : Qm (mWord [.loc 0]) 10 fun t => ∃ x, t = .str x ∧ Dr.wdB x = true := fun b R hb r => ⟨rfl, hb, fun x b' h1 h2 => r _ b' ⟨x, rfl, h1⟩ h2⟩
def d_pick : List T → M T := runW 2 (m__law_pick mTake)
theorem q_pick {xs : List T} (h0 : xs ≠ []) (h1 : xs.length ≤ 1000) : Qm (d_pick [.loc 0, .lst xs]) 1 (· ∈ xs) := by
  have hl : 0 < xs.length := List.length_pos_iff.mpr h0
  refine r_run (r_ret (qm_pb (a := (.lst xs : T)) (pm_opt rfl) (qm_bnd (d' := 0) (P := isIx xs.length) ?_ (fun t ⟨k, e, hk⟩ => ?_) (Nat.le_refl 1))))
  · refine qm_pb (a := [.loc 0, .int xs.length]) (pm_bnd (pm_opt rfl) (pm_bnd (a := [.int xs.length]) (pm_bnd (a := (.int xs.length : T)) (pm_bnd (pm_opt rfl) (pm_opt rfl)) (pm_bnd pm_ret pm_ret)) pm_ret)) ?_
    exact q_take _ (by omega) (by omega)
  · subst e
    exact qm_opt (show atI xs (k : Int) = some xs[k] from atI_nat (List.getElem?_eq_getElem hk)) (List.getElem_mem hk)
/-- a name: short, of letters -/
def Nm (x : Str) : Prop := nameB (.str x) = true ∧ x.length ≤ 1000 ∧ (x.cps.all (· < 0x110000)) = true
theorem in_let (c : Nat) (h : 97 ≤ c) (h2 : c ≤ 122) : inLet (.str ⟨#[c]⟩) = true := by
  have : ∀ i : Fin 26, inLet (.str ⟨#[97 + i.val]⟩) = true := by decide +kernel
  have := this ⟨c - 97, by omega⟩
  rw [show 97 + (c - 97) = c by omega] at this
  exact this
theorem nm_of {x : Str} (h : x.length ≤ 8) (h1 : 1 ≤ x.length) (hc : ∀ c ∈ x.cps.toList, 97 ≤ c ∧ c ≤ 122) : Nm x := by
  refine ⟨?_, by omega, ?_⟩
  · show ((decide ((0 : Int) ≤ x.length) && (decide ((x.length : Int) ≤ 8) && allLet x)) && !decide (x = "")) = true
    have a : allLet x = true := by
      unfold allLet signs
      rw [List.all_eq_true]
      intro t ht
      obtain ⟨c, hm, rfl⟩ := List.mem_map.mp ht
      exact in_let c (hc c hm).1 (hc c hm).2
    have ne : x ≠ "" := fun e => by
      rw [e] at h1
      exact absurd h1 (by decide)
    rw [a, decide_eq_true (by omega), decide_eq_true (by omega), decide_eq_false ne]
    rfl
  · rw [Array.all_eq_true']
    intro c hm
    have := hc c (by simpa using hm)
    simp
    omega
theorem nm_wd {x : Str} (h : Dr.wdB x = true) : Nm x := by
  unfold Dr.wdB at h
  rw [Bool.and_eq_true, Bool.and_eq_true, decide_eq_true_iff, decide_eq_true_iff, List.all_eq_true] at h
  have e : x.length = x.cps.toList.length := by show x.cps.size = _; simp
  refine nm_of (by omega) (by omega) fun c hm => ?_
  have := h.2 c hm
  rw [Bool.and_eq_true, decide_eq_true_iff, decide_eq_true_iff] at this
  exact this
theorem nm_wf {x : Str} (h : Nm x) {n : Nat} : WF (n + 1) (.str x) = true := by
  show (decide (x.length ≤ 1000) && x.cps.all (· < 0x110000)) = true
  rw [h.2.2, decide_eq_true h.2.1]; rfl
/-- names, no two alike -/
structure Nms (l : List Str) : Prop where
  nd : l.Nodup
  nm : ∀ x ∈ l, Nm x
end Wp

end -- L9
section -- LA
set_option linter.all false
set_option maxRecDepth 100000
set_option maxHeartbeats 1000000
/-! Plain: _law_words. -/
namespace Wp
open PySem PySem.Spec L2
theorem sub_len {α : Type} [BEq α] [LawfulBEq α] : ∀ {l m : List α}, l.Nodup → (∀ x ∈ l, x ∈ m) → l.length ≤ m.length
  | [], m, _, _ => by simp
  | x :: l, m, nd, hs => by
    rw [List.nodup_cons] at nd
    have hx : x ∈ m := hs x List.mem_cons_self
    have ih := sub_len (l := l) (m := m.erase x) nd.2 (fun y hy => by
      refine (List.mem_erase_of_ne (fun (e : y = x) => nd.1 (e ▸ hy))).mpr ?_
      exact hs y (List.mem_cons_of_mem _ hy))
    rw [List.length_erase_of_mem hx] at ih
    have := List.length_pos_of_mem hx
    rw [List.length_cons]
    omega
def spS : List Str := LET.cps.toList.map fun c => ("z" : Str) ++ ⟨#[c]⟩
theorem spS_nm : ∀ x ∈ spS, Nm x := by
  have : spS.all (fun x => nameB (.str x) && (decide (x.length ≤ 1000) && x.cps.all (· < 0x110000))) = true := by decide +kernel
  intro x hx
  have := List.all_eq_true.mp this x hx
  rw [Bool.and_eq_true, Bool.and_eq_true, decide_eq_true_iff] at this
  exact this
theorem spS_nd : spS.Nodup := by decide +kernel
theorem spS_len : spS.length = 26 := by decide +kernel
theorem sp_map : (signs LET).map (fun t => match t with | .str s => (.str (("z" : Str) ++ s) : T) | t => t) = spS.map .str := by
  unfold signs spS
  rw [List.map_map, List.map_map]
  rfl
theorem add_str {x y : Str} (h : x.length + y.length ≤ 2000) : MB.binT .add (.str x) (.str y) = some (.str (x ++ y)) := if_pos (by rw [sizeLine_eq]; omega)
theorem any_str (l : List Str) (x : Str) : (l.map MB.T.str).any (fun y => y.eqv (.str x)) = decide (x ∈ l) := by
  rw [Bool.eq_iff_iff, List.any_eq_true, decide_eq_true_iff]
  constructor
  · rintro ⟨y, hy, e⟩
    obtain ⟨z, hz, rfl⟩ := List.mem_map.mp hy
    have : z = x := of_decide_eq_true e
    exact this ▸ hz
  · exact fun h => ⟨.str x, List.mem_map_of_mem h, decide_eq_true rfl⟩
theorem mem_strs (l : List Str) (x : Str) : MB.memT true (.str x) (l.map .str) = some (decide (x ∈ l)) := by
  unfold MB.memT
  rw [if_pos, any_str]
  rw [Bool.or_eq_true]
  refine .inl ?_
  show (true && (l.map MB.T.str).all MB.T.atom) = true
  rw [Bool.true_and, List.all_eq_true]
  intro t ht
  obtain ⟨y, _, rfl⟩ := List.mem_map.mp ht
  rfl
theorem pm_rng {As : Env → M (List T)} {ρ : Env} {k : Int} (h : Pm (As ρ) [.int k]) (h0 : 0 ≤ k) (h1 : k ≤ 16777216) : Pm (iR1 As ρ) ((List.range k.toNat).map fun (i : Nat) => (.int (0 + (i : Int)) : T)) := pm_bnd h (pm_opt (by
  show (if 0 ≤ k ∧ k ≤ 16777216 then _ else _) = _
  rw [if_pos ⟨h0, h1⟩]))
abbrev envW (k : Int) (o2 : Option MB.Sl) (l : List Str) (o5 : Option MB.Sl) : Env := [some (.sh (.loc 0)), some (.sh (.int k)), o2, some (.ow (.lst (l.map .str))), some (.sh (.lst (spS.map .str))), o5, none, none]
def InvW (k : Int) (j : Nat) (ρ : Env) : Prop := ∃ l o2 o5, ρ = envW k o2 l o5 ∧ l.length = j ∧ Nms l
def d_words : List T → M T := runW 8 (m__law_words mWord)
theorem q_words (k : Int) (h1 : 1 ≤ k) (h4 : k ≤ 4) : Qm (d_words [.loc 0, .int k]) 40 fun t => ∃ l : List Str, t = .lst (l.map .str) ∧ l.length = k.toNat ∧ Nms l := by
  refine r_run ?_
  refine r_seqp (ρ' := envW k none [] none) ?_ ?_
  · refine pm_bnd (a := (.lst [] : T)) (pm_bnd (a := (.lst [] : T)) (pm_bnd (a := ([] : List T)) pm_ret (pm_opt rfl)) (pm_opt rfl)) (pm_bnd (a := (.lst (spS.map .str) : T)) ?_ pm_ret)
    have lc := pm_lc (own := [6]) (I := iS (mLit (.str "abcdefghijklmnopqrstuvwxyz"))) (g := gN 6) (C := cYes) (E := mBin .add (mLit (.str "z")) (mVarB 6)) (ρ := startE 8 [.loc 0, .int k]) (ts := signs LET) (h := fun t => some (match t with | .str s => (.str (("z" : Str) ++ s) : T) | t => t)) (pm_bnd (a := (.str LET : T)) pm_ret (pm_opt (if_pos (by rw [sizeLine_eq]; decide)))) (fun t ht => by
      obtain ⟨c, _, rfl⟩ := List.mem_map.mp ht
      exact pm_bnd (pm_opt rfl) (pm_bnd pm_ret (pm_t (pm_bnd (pm_bnd pm_ret (pm_bnd (pm_opt rfl) (pm_opt (add_str (x := "z") (y := ⟨#[c]⟩) (by show 1 + 1 ≤ 2000; decide))))) pm_ret))))
    rw [filterMap_some, sp_map] at lc
    exact lc
  · refine r_seq (d := 10 * k.toNat) (d' := 0) (I := InvW k k.toNat) ?_ (fun ρ' hi => ?_) (by omega)
    · refine qm_pb (a := (List.range k.toNat).map fun (i : Nat) => (.int (0 + (i : Int)) : T)) (pm_rng (k := k) (pm_bnd (pm_opt rfl) (pm_bnd pm_ret pm_ret)) (by omega) (by omega)) ?_
      have fr := r_for (d := 10) (I := InvW k) (g := fun t r => bnd (opt ((gN 2) t r)) (sSeq (sSet 5 (mCall mWord (aCons (mVar 0) (aNil)))) (sSeq (sIf (mCmpT .inn (mVarB 5) (mVarB 3)) (sSet 5 (mIx (mLc [7] (iL (mVar 4)) (gN 7) (mCmpT .nin (mVarB 7) (mVarB 3)) (mVar 7)) (mLit (.int 0)))) (sNil)) (sApp 3 (mVar 5))))) ((List.range k.toNat).map fun (i : Nat) => (.int (0 + (i : Int)) : T)) 0 (fun t ht j ρ _ hj ⟨l, o2, o5, er, hl, nm⟩ => ?_) (envW k none [] none) ⟨[], none, none, rfl, rfl, ⟨List.nodup_nil, fun _ h => nomatch h⟩⟩
      · rw [List.length_map, List.length_range, Nat.zero_add] at fr
        exact fr
      · rw [List.length_map, List.length_range] at hj
        subst er
        refine qm_pb (a := envW k (some (.sh t)) l o5) (pm_opt rfl) ?_
        refine r_set (d := 10) (d' := 0) (P := fun t => ∃ x, t = .str x ∧ Nm x) (qm_pb (a := [.loc 0]) (pm_bnd (pm_opt rfl) (pm_bnd pm_ret pm_ret)) (qm_mono q_word (Nat.le_refl _) fun t ⟨x, e, w⟩ => ⟨x, e, nm_wd w⟩)) (fun w ⟨x, ew, nx⟩ => ?_) (by omega)
        subst ew
        have c1 : Pm (mCmpT .inn (mVarB 5) (mVarB 3) (envW k (some (.sh t)) l (some (.sh (.str x))))) (decide (x ∈ l)) := pm_bnd (a := (.str x : T)) (pm_opt rfl) (pm_bnd (a := (.lst (l.map .str) : T)) (pm_opt rfl) (pm_opt (mem_strs l x)))
        have fin : ∀ x, Nm x → x ∉ l → Pm (sApp 3 (mVar 5) (envW k (some (.sh t)) l (some (.sh (.str x))))) (.nx (envW k (some (.sh t)) (l ++ [x]) (some (.sh (.str x))))) ∧ Nms (l ++ [x]) := fun x nx hx => by
          refine ⟨pm_bnd (a := l.map .str) (pm_opt rfl) (pm_bnd (a := (.str x : T)) (pm_opt rfl) (pm_opt ?_)), ?_, fun y hy => ?_⟩
          · rw [if_pos (by rw [List.length_map, sizeLine_eq]; omega)]
            unfold envW
            rw [List.map_append]
            rfl
          · rw [List.nodup_append]
            exact ⟨nm.nd, by simp, fun a ha b hb => by rw [List.mem_singleton] at hb; subst hb; exact fun e => hx (e ▸ ha)⟩
          · rcases List.mem_append.mp hy with h | h
            · exact nm.nm y h
            · rw [List.mem_singleton] at h; exact h ▸ nx
        refine r_seq (d := 0) (d' := 0) (I := fun ρ' => ∃ x, Nm x ∧ x ∉ l ∧ ρ' = envW k (some (.sh t)) l (some (.sh (.str x)))) ?_ (fun ρ' ⟨y, ny, hy, er⟩ => ?_) (Nat.le_refl _)
        · refine qm_pb (x := mCmpT .inn (mVarB 5) (mVarB 3) (envW k (some (.sh t)) l (some (.sh (.str x))))) c1 ?_
          by_cases hx : x ∈ l
          · rw [decide_eq_true hx]
            refine qm_t ?_
            have lc : Pm (mLc [7] (iL (mVar 4)) (gN 7) (mCmpT .nin (mVarB 7) (mVarB 3)) (mVar 7) (envW k (some (.sh t)) l (some (.sh (.str x))))) (.lst ((spS.map MB.T.str).filterMap fun t => if (l.map MB.T.str).any (fun y => y.eqv t) = true then none else some t)) := by
              refine pm_lcf (pm_bnd (a := (.lst (spS.map .str) : T)) (pm_opt rfl) (pm_opt rfl)) (fun t ht => ?_) (fun t ht => pm_opt rfl)
              obtain ⟨y, _, rfl⟩ := List.mem_map.mp ht
              rw [any_str]
              refine pm_bnd (a := (.str y : T)) (pm_opt rfl) (pm_bnd (a := (.lst (l.map .str) : T)) (pm_opt rfl) (pm_opt ?_))
              show Option.map (!·) (MB.memT true (.str y) (l.map .str)) = _
              rw [mem_strs]; rfl
            cases e : ((spS.map MB.T.str).filterMap fun t => if (l.map MB.T.str).any (fun y => y.eqv t) = true then none else some t) with
            | nil =>
              exfalso
              have := filter_nil (spS.map MB.T.str) |>.mp e
              have sub : ∀ y ∈ spS, y ∈ l := fun y hy => by
                have := List.all_eq_true.mp this _ (List.mem_map_of_mem hy)
                rw [any_str] at this
                exact of_decide_eq_true this
              have := sub_len spS_nd sub
              rw [spS_len] at this
              omega
            | cons u us =>
              rw [e] at lc
              have hu : u ∈ ((spS.map MB.T.str).filterMap fun t => if (l.map MB.T.str).any (fun y => y.eqv t) = true then none else some t) := by rw [e]; exact List.mem_cons_self
              obtain ⟨v, hv, ev⟩ := List.mem_filterMap.mp hu
              obtain ⟨y, hy, rfl⟩ := List.mem_map.mp hv
              rw [any_str] at ev
              have hyl : y ∉ l := fun h => by rw [decide_eq_true h, if_pos rfl] at ev; cases ev
              have eu : u = .str y := by rw [decide_eq_false hyl, if_neg Bool.false_ne_true] at ev; injection ev with ev; exact ev.symm
              subst eu
              refine qm_pm (a := Fl.nx (envW k (some (.sh t)) l (some (.sh (.str y))))) (pm_bnd (a := (.str y : T)) (pm_bnd lc (pm_bnd pm_ret (pm_opt ?_))) pm_ret) ⟨_, rfl, y, spS_nm y hy, hyl, rfl⟩
              exact atI_nat (xs := (.str y : T) :: us) (j := 0) rfl
          · rw [decide_eq_false hx]
            exact qm_f (qm_ret ⟨_, rfl, x, nx, hx, rfl⟩)
        · subst er
          have := fin y ny hy
          exact qm_pm this.1 ⟨_, rfl, l ++ [y], _, _, rfl, by simp [hl], this.2⟩
    · obtain ⟨l, o2, o5, er, hl, nm⟩ := hi
      subst er
      exact qm_pm (a := Fl.rt (.lst (l.map .str))) (pm_opt rfl) ⟨_, rfl, l, rfl, hl, nm⟩
end Wp

end -- LA
section -- LB
set_option linter.all false
set_option maxRecDepth 100000
set_option maxHeartbeats 1000000
/-! Plain: _law_item, _law_thing. -/
namespace Wp
open PySem PySem.Spec L2
/-- an item -/
def IT (t : T) : Prop := WF 1 t = true ∧ itemB t = true
theorem it_int (i : Int) : IT (.int i) := ⟨rfl, rfl⟩
theorem it_bl (i : Bool) : IT (.bl i) := ⟨rfl, rfl⟩
theorem it_non : IT .non := ⟨rfl, rfl⟩
theorem it_nm {x : Str} (h : Nm x) : IT (.str x) := ⟨nm_wf h, by
  have := (show (wordB 0 x && !decide (x = "")) = true from h.1)
  rw [Bool.and_eq_true] at this
  exact this.1⟩
theorem it_dec {x : Str} (h : (WF 1 (.str x) && itemB (.str x)) = true) : IT (.str x) := by
  rw [Bool.and_eq_true] at h
  exact h
theorem wf_mono : ∀ {f g : Nat} {x : T}, WF f x = true → f ≤ g → WF g x = true
  | 0, _, _, h, _ => by cases h
  | f + 1, 0, _, _, h => by omega
  | f + 1, g + 1, x, h, hl => by
    have ih : ∀ {y : T}, WF f y = true → WF g y = true := fun h => wf_mono h (by omega)
    cases x with
    | non => rfl
    | bl b => rfl
    | int i => rfl
    | str y => exact h
    | lst ts =>
      have := wf_lst h
      show (ts.all (WF g) && decide (ts.length ≤ 1000)) = true
      rw [Bool.and_eq_true]
      exact ⟨List.all_eq_true.mpr fun t ht => ih (this.1 t ht), decide_eq_true this.2⟩
    | tup ts =>
      have := wf_tup h
      show (ts.all (WF g) && ts.all (MB.T.pl 7)) = true
      rw [Bool.and_eq_true]
      exact ⟨List.all_eq_true.mpr fun t ht => ih (this.1 t ht), this.2⟩
    | dct kvs =>
      have := wf_dct h
      show ((kvs.all fun q => WF g q.1 && WF g q.2) && decide ((kvs.map fun q => q.1.tk).Nodup ∧ kvs.length ≤ 4)) = true
      rw [Bool.and_eq_true]
      refine ⟨List.all_eq_true.mpr fun q hq => ?_, decide_eq_true this.2⟩
      rw [Bool.and_eq_true]
      exact ⟨ih (this.1 q hq).1, ih (this.1 q hq).2⟩
    | _ => cases h
def d_ditem : List T → M T := runW 5 (m__law_item mTake d_pick mWord)
theorem cat_lst {xs ys : List T} (h : xs.length + ys.length ≤ 2000) : MB.binT .add (.lst xs) (.lst ys) = some (.lst (xs ++ ys)) := if_pos (by rw [sizeLine_eq]; omega)
abbrev envI (o1 : Option MB.Sl) (o2 : Option MB.Sl) (num g : Int) : Env := [some (.sh (.loc 0)), o1, o2, some (.sh (.int num)), some (.sh (.int g))]
def baseI (num : Int) : List T := [.non, .bl true, .bl false, .int num, .int 0, .int 1, .int (10 ^ 39 + num), .int (1 - 10 ^ 40), .str "", .str "true", .str "null", .str "abcdefgh"]
theorem pow_int (n : Nat) (h : n ≤ 1000) : MB.binT .pow (.int 10) (.int n) = some (.int (10 ^ n)) := by
  show (if 0 ≤ (n : Int) ∧ (n : Int) ≤ 1000000 ∧ (10 : Int).natAbs < 2 ^ 64 then some (MB.T.int (10 ^ (n : Int).toNat)) else none) = _
  rw [if_pos ⟨by omega, by omega, by decide⟩, Int.toNat_natCast]
theorem pm_lit {t : T} {ρ : Env} : Pm (mLit t ρ) t := pm_ret
theorem pm_arg {A : Env → M T} {As : Env → M (List T)} {ρ : Env} {t : T} {ts : List T} (h : Pm (A ρ) t) (k : Pm (As ρ) ts) : Pm (aCons A As ρ) (t :: ts) := pm_bnd h (pm_bnd k pm_ret)
theorem pm_nil {ρ : Env} : Pm (aNil ρ) [] := pm_ret
theorem pm_lst {As : Env → M (List T)} {ρ : Env} {ts : List T} (h : Pm (As ρ) ts) (l : ts.length ≤ 1000) : Pm (mLst As ρ) (.lst ts) := pm_bnd h (pm_opt (if_pos l))
theorem pm_int {op : MB.BOp} {A B : Env → M T} {ρ : Env} {x y z : T} (h : Pm (A ρ) x) (k : Pm (B ρ) y) (e : MB.binT op x y = some z) : Pm (mBin op A B ρ) z := pm_bnd h (pm_bnd k (pm_opt e))
theorem q_ditem : Qm (d_ditem [.loc 0]) 60 IT := by
  refine r_run ?_
  refine r_seq (d := 1) (d' := 59) (I := fun ρ => ∃ num, ρ = envI none none num 1) ?_ (fun ρ ⟨num, er⟩ => ?_) (by omega)
  · refine qm_bnd (d := 1) (d' := 0) (P := fun t => ∃ num, t = .int num) (qm_bnd (d := 1) (d' := 0) (P := isIx 6) (qm_pb (a := [.loc 0, .int 6]) (pm_arg (pm_opt rfl) (pm_arg pm_lit pm_nil)) (q_take 6 (by omega) (by omega))) (fun t ⟨k, e, hk⟩ => ?_) (by omega)) (fun t ⟨num, e⟩ => ?_) (by omega)
    · subst e
      exact qm_pb (a := (.int 2 : T)) pm_ret (qm_opt rfl ⟨(k : Int) - 2, rfl⟩)
    · subst e
      exact qm_pb (a := (.int 1 : T)) pm_ret (qm_ret ⟨_, rfl, num, rfl⟩)
  subst er
  refine r_seq (d := 39) (d' := 20) (I := fun ρ => ∃ o1 g, ρ = envI o1 none num g) ?_ (fun ρ ⟨o1, g, er⟩ => ?_) (by omega)
  · refine qm_bnd (d := 1) (d' := 38) (P := fun ts => ts.length ≤ 38) (qm_bnd (d := 1) (d' := 0) (P := fun ts => ∃ k : Nat, ts = [.int k] ∧ k < 39) ?_ (fun ts ⟨k, e, hk⟩ => ?_) (by omega)) (fun ts hl => ?_) (by omega)
    · refine qm_bnd (d := 1) (d' := 0) (P := isIx 39) (qm_pb (a := [.loc 0, .int 39]) (pm_arg (pm_opt rfl) (pm_arg pm_lit pm_nil)) (q_take 39 (by omega) (by omega))) (fun t ⟨k, e, hk⟩ => ?_) (by omega)
      subst e
      exact qm_pb (a := ([] : List T)) pm_nil (qm_ret ⟨k, rfl, hk⟩)
    · subst e
      refine qm_opt (a := (List.range k).map fun (i : Nat) => (.int (0 + (i : Int)) : T)) (by
        show (if 0 ≤ (k : Int) ∧ (k : Int) ≤ 16777216 then _ else _) = _
        rw [if_pos ⟨by omega, by omega⟩, Int.toNat_natCast]) (by rw [List.length_map, List.length_range]; omega)
    · refine qm_mono (r_for (d := 1) (I := fun _ ρ => ∃ o1 g, ρ = envI o1 none num g) ts 0 (fun t ht j ρ _ hj ⟨o1, g, er⟩ => ?_) _ ⟨none, 1, rfl⟩) (by omega) (fun fl h => h)
      subst er
      refine qm_pb (a := envI (some (.sh t)) none num g) (pm_opt rfl) ?_
      refine qm_bnd (d := 1) (d' := 0) (P := fun t => ∃ g, t = .int g) (qm_pb (a := (.int (g * 10) : T)) ?_ (qm_bnd (d := 1) (d' := 0) (P := isIx 10) (qm_pb (a := [.loc 0, .int 10]) (pm_arg (pm_opt rfl) (pm_arg pm_lit pm_nil)) (q_take 10 (by omega) (by omega))) (fun t ⟨k, e, hk⟩ => ?_) (by omega))) (fun t' ⟨g', e⟩ => ?_) (by omega)
      · exact pm_int (x := .int g) (y := .int 10) (pm_opt rfl) pm_ret (if_pos (.inr ⟨by decide, by decide⟩))
      · subst e
        exact qm_opt rfl ⟨_, rfl⟩
      · subst e
        exact qm_ret ⟨_, rfl, _, g', rfl⟩
  subst er
  refine r_setp (t := .lst (baseI num)) (pm_lst (pm_arg pm_lit (pm_arg pm_lit (pm_arg pm_lit (pm_arg (pm_opt rfl) (pm_arg pm_lit (pm_arg pm_lit (pm_arg (pm_int (x := .int (10 ^ 39)) (y := .int num) (pm_int (x := .int 10) (y := .int (39 : Nat)) pm_ret pm_ret (pow_int 39 (by omega))) (pm_opt rfl) rfl) (pm_arg (pm_int (x := .int 1) (y := .int (10 ^ 40)) pm_ret (pm_int (x := .int 10) (y := .int (40 : Nat)) pm_ret pm_ret (pow_int 40 (by omega))) rfl) (pm_arg pm_lit (pm_arg pm_lit (pm_arg pm_lit (pm_arg pm_lit pm_nil)))))))))))) (by show 12 ≤ 1000; omega)) ?_
  have e0 : (envI o1 none num g).set 2 (some (.sh (.lst (baseI num)))) = envI o1 (some (.sh (.lst (baseI num)))) num g := rfl
  rw [e0]
  refine r_ret (qm_bnd (d := 10) (d' := 1) (P := fun ts => ∃ w, ts = [.loc 0, .lst ((baseI num ++ [w, w, w]) ++ [.int g, .int (0 - g)])] ∧ IT w) ?_ (fun ts ⟨w, e, iw⟩ => ?_) (by omega))
  · refine qm_pb (a := (.loc 0 : T)) (pm_opt rfl) (qm_bnd (d := 10) (d' := 0) (P := fun ts => ∃ w, ts = [.lst ((baseI num ++ [w, w, w]) ++ [.int g, .int (0 - g)])] ∧ IT w) (qm_bnd (d := 10) (d' := 0) (P := fun t => ∃ w, t = .lst ((baseI num ++ [w, w, w]) ++ [.int g, .int (0 - g)]) ∧ IT w) (qm_bnd (d := 10) (d' := 0) (P := fun t => ∃ w, t = .lst (baseI num ++ [w, w, w]) ∧ IT w) ?_ (fun t ⟨w, e, iw⟩ => ?_) (by omega)) (fun t ⟨w, e, iw⟩ => ?_) (by omega)) (fun ts ⟨w, e, iw⟩ => ?_) (by omega))
    · refine qm_pb (a := (.lst (baseI num) : T)) (pm_opt rfl) (qm_bnd (d := 10) (d' := 0) (P := fun t => ∃ w, t = .lst [w, w, w] ∧ IT w) (qm_bnd (d := 10) (d' := 0) (P := fun t => ∃ w, t = .lst [w] ∧ IT w) (qm_bnd (d := 10) (d' := 0) (P := fun ts => ∃ w, ts = [w] ∧ IT w) (qm_bnd (d := 10) (d' := 0) (P := IT) (qm_pb (a := [.loc 0]) (pm_arg (pm_opt rfl) pm_nil) (qm_mono q_word (Nat.le_refl _) fun t ⟨x, e, w⟩ => e ▸ it_nm (nm_wd w))) (fun w iw => qm_pb (a := ([] : List T)) pm_nil (qm_ret ⟨w, rfl, iw⟩)) (by omega)) (fun ts ⟨w, e, iw⟩ => ?_) (by omega)) (fun t ⟨w, e, iw⟩ => ?_) (by omega)) (fun t ⟨w, e, iw⟩ => ?_) (by omega))
      · subst e; exact qm_opt rfl ⟨w, rfl, iw⟩
      · subst e; exact qm_pb (a := (.int 3 : T)) pm_ret (qm_opt rfl ⟨w, rfl, iw⟩)
      · subst e; exact qm_opt (cat_lst (by show 12 + 3 ≤ 2000; omega)) ⟨w, rfl, iw⟩
    · subst e
      refine qm_pb (a := (.lst [.int g, .int (0 - g)] : T)) (pm_lst (pm_arg (pm_opt rfl) (pm_arg (pm_int (x := .int 0) (y := .int g) pm_ret (pm_opt rfl) rfl) pm_nil)) (by show 2 ≤ 1000; omega)) (qm_opt (cat_lst (by show 15 + 2 ≤ 2000; omega)) ⟨w, rfl, iw⟩)
    · subst e; exact qm_pb (a := ([] : List T)) pm_nil (qm_ret ⟨w, rfl, iw⟩)
    · subst e; exact qm_ret ⟨w, rfl, iw⟩
  · subst e
    refine qm_mono (q_pick (by intro h; cases h) (by show 17 ≤ 1000; omega)) (Nat.le_refl _) fun t ht => ?_
    have all : ∀ t ∈ ((baseI num ++ [w, w, w]) ++ [.int g, .int (0 - g)]), IT t := by
      unfold baseI
      simp only [List.cons_append, List.nil_append, List.forall_mem_cons]
      exact ⟨it_non, it_bl _, it_bl _, it_int _, it_int _, it_int _, it_int _, it_int _, it_dec (by decide +kernel), it_dec (by decide +kernel), it_dec (by decide +kernel), it_dec (by decide +kernel), iw, iw, iw, it_int _, it_int _, fun _ h => nomatch h⟩
    exact all t ht
end Wp

end -- LB
section -- LC
set_option linter.all false
set_option maxRecDepth 100000
set_option maxHeartbeats 1000000
/-! Plain: _law_thing, _law_dict. -/
namespace Wp
open PySem PySem.Spec L2
theorem erase_perm {α : Type} : ∀ (l : List α) (i : Nat) (h : i < l.length), (l[i] :: l.eraseIdx i).Perm l
  | x :: l, 0, _ => .refl _
  | x :: l, i + 1, h => by
    have h' : i < l.length := by rw [List.length_cons] at h; omega
    have ih := erase_perm l i h'
    show (l[i] :: x :: l.eraseIdx i).Perm (x :: l)
    exact (List.Perm.swap x _ _).trans (ih.cons x)
theorem map_erase {α β : Type} (f : α → β) : ∀ (l : List α) (i : Nat), (l.map f).eraseIdx i = (l.eraseIdx i).map f
  | [], _ => rfl
  | x :: l, 0 => rfl
  | x :: l, i + 1 => by
    show f x :: (l.map f).eraseIdx i = f x :: (l.eraseIdx i).map f
    rw [map_erase f l i]
theorem len_erase {α : Type} : ∀ (l : List α) (i : Nat), i < l.length → (l.eraseIdx i).length + 1 = l.length
  | x :: l, 0, _ => rfl
  | x :: l, i + 1, h => by
    show (l.eraseIdx i).length + 1 + 1 = l.length + 1
    rw [len_erase l i (by rw [List.length_cons] at h; omega)]
/-- a thing that is drawn: so deep at most, lists not longer than m -/
inductive Th (m : Nat) : Nat → T → Prop
  | item {f : Nat} {x : T} : IT x → Th m (f + 1) x
  | lst {f : Nat} {ts : List T} : ts.length ≤ m → (∀ t ∈ ts, IT t) → Th m (f + 1) (.lst ts)
  | mark {f : Nat} : Th m (f + 1) (.tup [])
  | dct {f : Nat} {kvs : List (T × T)} {l : List Str} : kvs.map (·.1) = l.map .str → l.length ≤ 4 → Nms l → (∀ q ∈ kvs, Th m f q.2) → Th m (f + 1) (.dct kvs)
theorem Th.mono {m : Nat} : ∀ {f : Nat} {x : T}, Th m f x → ∀ {m' g : Nat}, m ≤ m' → f ≤ g → Th m' g x
  | _, _, .item h, m', g, _, hl => by
    obtain ⟨g, rfl⟩ : ∃ g', g = g' + 1 := ⟨g - 1, by omega⟩
    exact .item h
  | _, _, .lst h k, m', g, hm, hl => by
    obtain ⟨g, rfl⟩ : ∃ g', g = g' + 1 := ⟨g - 1, by omega⟩
    exact .lst (by omega) k
  | _, _, .mark, m', g, _, hl => by
    obtain ⟨g, rfl⟩ : ∃ g', g = g' + 1 := ⟨g - 1, by omega⟩
    exact .mark
  | _, _, .dct e l4 nm h, m', g, hm, hl => by
    obtain ⟨g, rfl⟩ : ∃ g', g = g' + 1 := ⟨g - 1, by omega⟩
    exact .dct e l4 nm fun q hq => (h q hq).mono hm (by omega)
/-- a dict that is being filled from names -/
structure Fd (names rest : List Str) (fs : List (T × T)) (P : T → Prop) : Prop where
  ks : ∃ ks : List Str, fs.map (·.1) = ks.map .str ∧ (rest ++ ks).Perm names
  vs : ∀ q ∈ fs, P q.2
theorem Fd.start {names : List Str} {P : T → Prop} : Fd names names [] P := ⟨⟨[], rfl, by rw [List.append_nil]⟩, fun _ h => nomatch h⟩
theorem Fd.len {names rest : List Str} {fs : List (T × T)} {P : T → Prop} (h : Fd names rest fs P) : rest.length + fs.length = names.length := by
  obtain ⟨ks, e, p⟩ := h.ks
  have := p.length_eq
  have e := congrArg List.length e
  rw [List.length_map, List.length_map] at e
  rw [List.length_append] at this
  omega
theorem Fd.keys {names rest : List Str} {fs : List (T × T)} {P : T → Prop} (h : Fd names rest fs P) : (fs.all fun q => q.1.key.isSome) = true := by
  obtain ⟨ks, e, _⟩ := h.ks
  rw [List.all_eq_true]
  intro q hq
  have : q.1 ∈ ks.map MB.T.str := e ▸ List.mem_map_of_mem hq
  obtain ⟨x, _, ex⟩ := List.mem_map.mp this
  rw [← ex]; rfl
theorem dput_new {fs : List (T × T)} {ks : List Str} {x : Str} {v : T} (e : fs.map (·.1) = ks.map .str) (hx : x ∉ ks) : MB.dput fs (.str x) v = fs ++ [(.str x, v)] := by
  unfold MB.dput
  rw [if_neg]
  unfold MB.dhas
  rw [Bool.not_eq_true, List.any_eq_false]
  intro q hq
  have : q.1 ∈ ks.map MB.T.str := e ▸ List.mem_map_of_mem hq
  obtain ⟨y, hy, ey⟩ := List.mem_map.mp this
  rw [← ey]
  intro e
  have e := of_decide_eq_true e
  have : y = x := by
    have e : (some (MB.TK.k (.inr y)) : Option MB.TK) = some (MB.TK.k (.inr x)) := e
    injection e with e
    injection e with e
    injection e
  exact hx (this ▸ hy)
theorem Fd.put {names rest : List Str} {fs : List (T × T)} {P : T → Prop} (h : Fd names rest fs P) (nd : names.Nodup) {i : Nat} (hi : i < rest.length) {v : T} (hv : P v) (l4 : names.length ≤ 1000) : putW (.str rest[i]) v fs = some (fs ++ [(.str rest[i], v)]) ∧ Fd names (rest.eraseIdx i) (fs ++ [(.str rest[i], v)]) P := by
  have hk := h.keys
  have hl := h.len
  obtain ⟨ks, e, p⟩ := h.ks
  have ndp : (rest ++ ks).Nodup := p.symm.nodup nd
  have hx : rest[i] ∉ ks := fun hm => (List.nodup_append.mp ndp).2.2 _ (List.getElem_mem hi) _ hm rfl
  refine ⟨?_, ⟨ks ++ [rest[i]], by rw [List.map_append, List.map_append, e]; rfl, ?_⟩, fun q hq => ?_⟩
  · unfold putW
    rw [hk, decide_eq_true (by rw [sizeLine_eq]; omega : fs.length < sizeLine), dput_new e hx]
    rfl
  · have q := erase_perm rest i hi
    refine List.Perm.trans ?_ p
    refine List.Perm.trans ?_ (q.append_right ks)
    show (rest.eraseIdx i ++ (ks ++ [rest[i]])).Perm (rest[i] :: rest.eraseIdx i ++ ks)
    rw [← List.append_assoc]
    exact List.perm_append_comm
  · rcases List.mem_append.mp hq with h' | h'
    · exact h.vs q h'
    · rw [List.mem_singleton] at h'
      subst h'
      exact hv
theorem Fd.th {names rest : List Str} {fs : List (T × T)} {m f : Nat} (h : Fd names rest fs (Th m f)) (nm : Nms names) (l4 : names.length ≤ 4) : Th m (f + 1) (.dct fs) := by
  have hl := h.len
  obtain ⟨ks, e, p⟩ := h.ks
  have e' := congrArg List.length e
  rw [List.length_map, List.length_map] at e'
  have ndp : (rest ++ ks).Nodup := p.symm.nodup nm.nd
  exact .dct e (by omega) ⟨(List.nodup_append.mp ndp).2.1, fun x hx => nm.nm x (p.mem_iff.mp (List.mem_append_right _ hx))⟩ h.vs
theorem ixN_nat {n k : Nat} (h : k < n) : L2.ixN n (k : Int) = some k := by
  unfold L2.ixN
  rw [if_pos (by omega), if_pos (by omega), Int.toNat_natCast]
/-- pop the k-th -/
theorem q_pop {i j : Nat} {A : Env → M T} {ρ : Env} {l : List Str} {d : Nat} (ho : MB.owS ρ i = some (.lst (l.map .str))) (h : Qm (A ρ) d (isIx l.length)) (hl : l.length ≤ 1000) : Qm (sPop j i A ρ) d (Nx fun ρ' => ∃ (k : Nat) (hk : k < l.length), ρ' = (ρ.set i (some (.ow (.lst ((l.eraseIdx k).map .str))))).set j (some (.sh (.str l[k])))) := by
  refine qm_pb (a := l.map MB.T.str) (pm_opt (by unfold ownL; rw [ho])) (qm_then (g := fun t => match t with
    | .int k => Fl.nx ((ρ.set i (some (.ow (.lst ((l.eraseIdx k.toNat).map .str))))).set j (some (.sh (l.map MB.T.str)[k.toNat]!)))
    | _ => Fl.bk ρ) h fun t ⟨k, e, hk⟩ => ?_)
  subst e
  have hk' : k < (l.map MB.T.str).length := by rw [List.length_map]; exact hk
  have e1 : (l.map MB.T.str)[k]? = some (.str l[k]) := by rw [List.getElem?_map, List.getElem?_eq_getElem hk]; rfl
  have e2 : (l.map MB.T.str)[k]! = .str l[k] := by rw [List.getElem!_eq_getElem?_getD, e1]; rfl
  refine ⟨pm_bnd (a := (k : Int)) (pm_opt rfl) (pm_bnd (a := k) (pm_opt ?_) (pm_bnd (a := (.str l[k] : T)) (pm_opt e1) ?_)), _, rfl, k, hk, ?_⟩
  · rw [if_pos ⟨by omega, by omega⟩]
    exact ixN_nat hk'
  · rw [map_erase]
    show Pm _ (Fl.nx ((ρ.set i (some (.ow (.lst ((l.eraseIdx k).map .str))))).set j (some (.sh (l.map MB.T.str)[k]!))))
    rw [e2]
    exact pm_ret
  · show ((ρ.set i (some (.ow (.lst ((l.eraseIdx k).map .str))))).set j (some (.sh (l.map MB.T.str)[k]!))) = _
    rw [e2]
def k_td : Nat → (List T → M T) × (List T → M T)
  | 0 => (fun _ => nev, fun _ => nev)
  | l + 1 => (runW 6 (m__law_thing mTake (k_td l).2 d_ditem), runW 8 (m__law_dict mTake (k_td l).1))
def cth : Nat → Nat
  | 0 => 300
  | n + 1 => 300 + 4 * (1 + cth n) + 4
abbrev envD (names : List Str) (n : Int) (o4 : Option MB.Sl) (rest : List Str) (fs : List (T × T)) (o7 : Option MB.Sl) : Env := [some (.sh (.loc 0)), some (.sh (.lst (names.map .str))), some (.sh (.int n)), some (.sh (.bl true)), o4, some (.ow (.lst (rest.map .str))), some (.ow (.dct fs)), o7]
def InvD (names : List Str) (n : Int) (P : T → Prop) (j : Nat) (ρ : Env) : Prop := ∃ o4 rest fs o7, ρ = envD names n o4 rest fs o7 ∧ fs.length = j ∧ Fd names rest fs P
theorem q_dict {names : List Str} {n l : Nat} (nm : Nms names) (l4 : names.length ≤ 4) (ih : Qm ((k_td l).1 [.loc 0, .lst (names.map .str), .int n, .bl true]) (cth n) (Th 3 (n + 1))) : Qm ((k_td (l + 1)).2 [.loc 0, .lst (names.map .str), .int ((n : Int) + 1), .bl true]) (1 + 4 * (1 + cth n)) (Th 3 (n + 2)) := by
  show Qm (runW 8 (m__law_dict mTake (k_td l).1) _) _ _
  refine r_run ?_
  refine r_seqp (ρ' := envD names ((n : Int) + 1) none names [] none) ?_ ?_
  · exact pm_bnd (a := (.lst (names.map .str) : T)) (pm_bnd (a := (.lst (names.map .str) : T)) (pm_bnd (a := (.lst (names.map .str) : T)) (pm_opt rfl) (pm_opt rfl)) (pm_opt rfl)) (pm_bnd (a := (.dct [] : T)) (pm_bnd (a := (.dct [] : T)) pm_ret (pm_opt rfl)) pm_ret)
  refine r_seq (d := 1 + 4 * (1 + cth n)) (d' := 0) (I := fun ρ => ∃ j, InvD names ((n : Int) + 1) (Th 3 (n + 1)) j ρ) ?_ (fun ρ' ⟨j, o4, rest, fs, o7, er, hj, fd⟩ => ?_) (by omega)
  · refine qm_bnd (d := 1) (d' := 4 * (1 + cth n)) (P := fun ts => ts.length ≤ names.length) ?_ (fun ts hl => ?_) (by omega)
    · refine qm_bnd (d := 1) (d' := 0) (P := fun ts => ∃ k : Nat, ts = [.int k] ∧ k < names.length + 1) (qm_bnd (d := 1) (d' := 0) (P := isIx (names.length + 1)) (qm_pb (a := [.loc 0, .int ((names.length : Int) + 1)]) (pm_arg (pm_opt rfl) (pm_arg (pm_int (x := .int names.length) (y := .int 1) (pm_bnd (a := (.lst (names.map .str) : T)) (pm_opt rfl) (pm_opt (by show some (MB.T.int ((names.map MB.T.str).length : Int)) = _; rw [List.length_map]))) pm_ret rfl) pm_nil)) ?_) (fun t ⟨k, e, hk⟩ => ?_) (by omega)) (fun ts ⟨k, e, hk⟩ => ?_) (by omega)
      · have := q_take ((names.length : Int) + 1) (by omega) (by omega)
        rw [show ((names.length : Int) + 1).toNat = names.length + 1 by omega] at this
        exact this
      · subst e
        exact qm_pb (a := ([] : List T)) pm_nil (qm_ret ⟨k, rfl, hk⟩)
      · subst e
        exact qm_opt (a := (List.range k).map fun (i : Nat) => (.int (0 + (i : Int)) : T)) (by
          show (if 0 ≤ (k : Int) ∧ (k : Int) ≤ 16777216 then _ else _) = _
          rw [if_pos ⟨by omega, by omega⟩, Int.toNat_natCast]) (by rw [List.length_map, List.length_range]; omega)
    · refine qm_mono (r_for (d := 1 + cth n) (I := InvD names ((n : Int) + 1) (Th 3 (n + 1))) ts 0 (fun t ht j ρ _ hj ⟨o4, rest, fs, o7, er, hf, fd⟩ => ?_) _ ⟨none, names, [], none, rfl, rfl, Fd.start⟩) ?_ (fun fl ⟨ρ', e, h⟩ => ⟨ρ', e, _, h⟩)
      · subst er
        have hlen := fd.len
        refine qm_pb (a := envD names ((n : Int) + 1) (some (.sh t)) rest fs o7) (pm_opt rfl) ?_
        refine r_seq (d := 1) (d' := cth n) (q_pop (l := rest) rfl ?_ (by omega)) (fun ρ' ⟨k, hk, er⟩ => ?_) (by omega)
        · refine qm_pb (a := [.loc 0, .int rest.length]) (pm_arg (pm_opt rfl) (pm_arg (pm_bnd (a := (.lst (rest.map .str) : T)) (pm_opt rfl) (pm_opt (by show some (MB.T.int ((rest.map MB.T.str).length : Int)) = _; rw [List.length_map]))) pm_nil)) ?_
          exact q_take (rest.length : Int) (by omega) (by omega)
        · subst er
          refine qm_bnd (d := cth n) (d' := 0) (P := Th 3 (n + 1)) (qm_pb (a := [.loc 0, .lst (names.map .str), .int n, .bl true]) (pm_arg (pm_opt rfl) (pm_arg (pm_opt rfl) (pm_arg (pm_int (x := .int ((n : Int) + 1)) (y := .int 1) (pm_opt rfl) pm_ret (by show some (MB.T.int ((n : Int) + 1 - 1)) = _; rw [Int.add_sub_cancel])) (pm_arg (pm_opt rfl) pm_nil)))) ih) (fun v hv => ?_) (by omega)
          obtain ⟨e1, fd'⟩ := fd.put nm.nd hk hv (by omega)
          refine qm_pb (a := fs) (pm_opt rfl) (qm_pb (a := (.str rest[k] : T)) (pm_opt rfl) (qm_opt (a := Fl.nx (envD names ((n : Int) + 1) (some (.sh t)) (rest.eraseIdx k) (fs ++ [(.str rest[k], v)]) (some (.sh (.str rest[k]))))) (by rw [e1]; rfl) ⟨_, rfl, _, _, _, _, rfl, by rw [List.length_append, hf]; rfl, fd'⟩))
      · have : ts.length ≤ 4 := by omega
        rw [Nat.mul_comm]
        exact Nat.mul_le_mul_right _ this
  · subst er
    exact qm_pm (a := Fl.rt (.dct fs)) (pm_opt rfl) ⟨_, rfl, fd.th nm l4⟩
theorem q_things {names : List Str} (nm : Nms names) (l4 : names.length ≤ 4) : ∀ (n l : Nat), 2 * n + 1 ≤ l → Qm ((k_td l).1 [.loc 0, .lst (names.map .str), .int n, .bl true]) (cth n) (Th 3 (n + 1))
  | n, 0, h => by omega
  | n, l + 1, h => by
    show Qm (runW 6 (m__law_thing mTake (k_td l).2 d_ditem) _) _ _
    refine r_run ?_
    have c300 : 300 ≤ cth n := by cases n <;> unfold cth <;> omega
    refine r_set (d := 1) (d' := cth n - 1) (P := isIx 9) (qm_pb (a := [.loc 0, .int 9]) (pm_arg (pm_opt rfl) (pm_arg pm_lit pm_nil)) (q_take 9 (by omega) (by omega))) (fun t ⟨w, ew, hw⟩ => ?_) (by omega)
    subst ew
    have c1 : Pm (mAndT (mCmpT .lt (mVarB 4) (mLit (.int 4))) (mCmpT .gt (mVarB 2) (mLit (.int 0))) ((startE 6 [.loc 0, .lst (names.map .str), .int n, .bl true]).set 4 (some (.sh (.int w))))) (decide ((w : Int) < 4) && decide ((0 : Int) < n)) := by
      refine pm_bnd (a := decide ((w : Int) < 4)) (pm_bnd (a := (.int w : T)) (pm_opt rfl) (pm_bnd (a := (.int 4 : T)) pm_ret (pm_opt rfl))) ?_
      cases decide ((w : Int) < 4) with
      | true => exact pm_t (pm_bnd (a := (.int n : T)) (pm_opt rfl) (pm_bnd (a := (.int 0 : T)) pm_ret (pm_opt rfl)))
      | false => exact pm_f pm_ret
    have c2 : Pm (mCmpT .lt (mVarB 4) (mLit (.int 6)) ((startE 6 [.loc 0, .lst (names.map .str), .int n, .bl true]).set 4 (some (.sh (.int w))))) (decide ((w : Int) < 6)) := pm_bnd (a := (.int w : T)) (pm_opt rfl) (pm_bnd (a := (.int 6 : T)) pm_ret (pm_opt rfl))
    cases e1 : (decide ((w : Int) < 4) && decide ((0 : Int) < n)) with
    | true =>
      rw [e1] at c1
      rw [Bool.and_eq_true, decide_eq_true_iff, decide_eq_true_iff] at e1
      obtain ⟨n, rfl⟩ : ∃ m, n = m + 1 := ⟨n - 1, by omega⟩
      obtain ⟨l, rfl⟩ : ∃ m, l = m + 1 := ⟨l - 1, by omega⟩
      refine r_ify c1 (r_ret (qm_pb (a := [.loc 0, .lst (names.map .str), .int ((n : Int) + 1), .bl true]) (pm_arg (pm_opt rfl) (pm_arg (pm_opt rfl) (pm_arg (pm_opt rfl) (pm_arg (pm_opt rfl) pm_nil)))) ?_))
      exact qm_mono (q_dict nm l4 (q_things nm l4 n l (by omega))) (by show _ ≤ 300 + 4 * (1 + cth n) + 4 - 1; omega) fun _ h => h
    | false =>
      rw [e1] at c1
      refine r_ifn c1 ?_
      cases e2 : decide ((w : Int) < 6) with
      | true =>
        rw [e2] at c2
        refine r_ify c2 (r_ret ?_)
        refine qm_bnd (d := 1) (d' := 180) (P := fun ts => ts.length ≤ 3) (qm_bnd (d := 1) (d' := 0) (P := fun ts => ∃ k : Nat, ts = [.int k] ∧ k < 4) (qm_bnd (d := 1) (d' := 0) (P := isIx 4) (qm_pb (a := [.loc 0, .int 4]) (pm_arg (pm_opt rfl) (pm_arg pm_lit pm_nil)) (q_take 4 (by omega) (by omega))) (fun t ⟨k, e, hk⟩ => ?_) (by omega)) (fun ts ⟨k, e, hk⟩ => ?_) (by omega)) (fun ts hl => ?_) (by omega)
        · subst e
          exact qm_pb (a := ([] : List T)) pm_nil (qm_ret ⟨k, rfl, hk⟩)
        · subst e
          exact qm_opt (a := (List.range k).map fun (i : Nat) => (.int (0 + (i : Int)) : T)) (by
            show (if 0 ≤ (k : Int) ∧ (k : Int) ≤ 16777216 then _ else _) = _
            rw [if_pos ⟨by omega, by omega⟩, Int.toNat_natCast]) (by rw [List.length_map, List.length_range]; omega)
        · refine qm_bnd (d := 60 * ts.length) (d' := 0) (qm_walk (P := IT) (d := 60) ts fun t ht => ?_) (fun ys ⟨ly, h⟩ => qm_ret (.lst (by omega) h)) (by omega)
          refine qm_pb (pm_opt rfl) (qm_pb (a := true) pm_ret (qm_t (qm_bnd (d := 60) (d' := 0) (P := IT) (qm_pb (a := [.loc 0]) (pm_arg (pm_opt rfl) pm_nil) q_ditem) (fun y hy => qm_ret ⟨y, rfl, hy⟩) (by omega))))
      | false =>
        rw [e2] at c2
        refine r_ifn c2 (r_ret ?_)
        have c3 : Pm (mAndT (mTru (mVarB 3)) (mCmpT .eq (mVarB 4) (mLit (.int 6))) ((startE 6 [.loc 0, .lst (names.map .str), .int n, .bl true]).set 4 (some (.sh (.int w))))) (decide ((w : Int) = 6)) := pm_bnd (a := true) (pm_bnd (a := (.bl true : T)) (pm_opt rfl) (pm_opt rfl)) (pm_t (pm_bnd (a := (.int w : T)) (pm_opt rfl) (pm_bnd (a := (.int 6 : T)) pm_ret (pm_opt rfl))))
        refine qm_pb c3 ?_
        cases decide ((w : Int) = 6) with
        | true => exact qm_t (qm_pm (a := (.tup [] : T)) (pm_bnd (a := ([] : List T)) pm_ret (pm_opt rfl)) .mark)
        | false => exact qm_f (qm_mono (qm_pb (a := [.loc 0]) (pm_arg (pm_opt rfl) pm_nil) q_ditem) (by omega) fun t h => .item h)
end Wp

end -- LC
section -- LD
set_option linter.all false
set_option maxRecDepth 100000
set_option maxHeartbeats 1000000
/-! Plain: _law_turned, _law_near. -/
namespace Wp
open PySem PySem.Spec L2
theorem it_nd {kvs : List (T × T)} (h : IT (.dct kvs)) : False := by cases h.2
theorem th_dct {m f : Nat} {kvs : List (T × T)} (h : Th m (f + 1) (.dct kvs)) : ∃ l : List Str, kvs.map (·.1) = l.map .str ∧ l.length ≤ 4 ∧ Nms l ∧ ∀ q ∈ kvs, Th m f q.2 := by
  cases h with
  | item h => exact (it_nd h).elim
  | dct e l4 nm h => exact ⟨_, e, l4, nm, h⟩
theorem th_lst {m f : Nat} {ts : List T} (h : Th m (f + 1) (.lst ts)) : ts.length ≤ m ∧ ∀ t ∈ ts, IT t := by
  cases h with
  | item h => cases h.2
  | lst l k => exact ⟨l, k⟩
theorem Th.pos {m f : Nat} {x : T} (h : Th m f x) : ∃ g, f = g + 1 := by
  cases h <;> exact ⟨_, rfl⟩
/-- a thing is a result -/
theorem th_rs {m : Nat} (hm : m ≤ 1000) : ∀ {f : Nat} {x : T}, Th m f x → ∀ {g : Nat} {n : Int}, f + 1 ≤ g → (f : Int) ≤ n → Rs g n x
  | _, _, .item h, g, n, hg, hn => rs_item (wf_mono h.1 (by omega)) h.2
  | f + 1, _, .lst (ts := ts) l k, g, n, hg, hn => by
    obtain ⟨g, rfl⟩ : ∃ g', g = g' + 1 := ⟨g - 1, by omega⟩
    refine ⟨?_, List.all_eq_true.mpr fun t ht => (k t ht).2⟩
    show (ts.all (WF g) && decide (ts.length ≤ 1000)) = true
    rw [Bool.and_eq_true]
    exact ⟨List.all_eq_true.mpr fun t ht => wf_mono (k t ht).1 (by omega), decide_eq_true (by omega)⟩
  | f + 1, _, .mark, g, n, hg, hn => by
    obtain ⟨g, rfl⟩ : ∃ g', g = g' + 1 := ⟨g - 1, by omega⟩
    exact ⟨rfl, rfl⟩
  | f + 1, _, .dct (kvs := kvs) (l := l) e l4 nm h, g, n, hg, hn => by
    obtain ⟨g, rfl⟩ : ∃ g', g = g' + 1 := ⟨g - 1, by omega⟩
    have ih : ∀ q ∈ kvs, Rs g (n - 1) q.2 := fun q hq => th_rs hm (h q hq) (by omega) (by omega)
    have ky : ∀ q ∈ kvs, ∃ x, q.1 = .str x ∧ Nm x := fun q hq => by
      have : q.1 ∈ l.map MB.T.str := e ▸ List.mem_map_of_mem hq
      obtain ⟨x, hx, ex⟩ := List.mem_map.mp this
      exact ⟨x, ex.symm, nm.nm x hx⟩
    have nd : (kvs.map fun q => q.1.tk).Nodup := by
      have e2 : (kvs.map fun q => q.1.tk) = (kvs.map (·.1)).map MB.T.tk := by rw [List.map_map]; rfl
      rw [e2, e, List.map_map]
      refine List.pairwise_map.mpr (nm.nd.imp fun {a b} ne he => ne ?_)
      have he : (some (MB.TK.k (.inr a)) : Option MB.TK) = some (MB.TK.k (.inr b)) := he
      injection he with he
      injection he with he
      injection he
    have len : kvs.length ≤ 4 := by
      have := congrArg List.length e
      rw [List.length_map, List.length_map] at this
      omega
    refine ⟨?_, ?_⟩
    · show ((kvs.all fun q => WF g q.1 && WF g q.2) && decide ((kvs.map fun q => q.1.tk).Nodup ∧ kvs.length ≤ 4)) = true
      rw [Bool.and_eq_true]
      refine ⟨List.all_eq_true.mpr fun q hq => ?_, decide_eq_true ⟨nd, len⟩⟩
      obtain ⟨x, ex, nx⟩ := ky q hq
      rw [Bool.and_eq_true, ex]
      obtain ⟨g, rfl⟩ : ∃ g', g = g' + 1 := ⟨g - 1, by omega⟩
      exact ⟨nm_wf nx, (ih q hq).wf⟩
    · show (!decide (n = 0) && ((kvs.all fun q => nameB q.1) && kvs.all fun q => standsB g (n - 1) true q.2)) = true
      rw [Bool.and_eq_true, Bool.and_eq_true, List.all_eq_true, List.all_eq_true]
      refine ⟨by rw [decide_eq_false (by omega)]; rfl, fun q hq => ?_, fun q hq => (ih q hq).st⟩
      obtain ⟨x, ex, nx⟩ := ky q hq
      rw [ex]
      exact nx.1
theorem th_plain {m f : Nat} {x : T} (h : Th m f x) : plain7 x = true := by
  cases h with
  | item h => exact wf_plain h.1
  | _ => rfl
/-! ### keys of a dict -/
theorem ks_tk {kvs : List (T × T)} {l : List Str} (e : kvs.map (·.1) = l.map .str) (nd : l.Nodup) : (kvs.map fun q => q.1.tk).Nodup := by
  have e2 : (kvs.map fun q => q.1.tk) = (kvs.map (·.1)).map MB.T.tk := by rw [List.map_map]; rfl
  rw [e2, e, List.map_map]
  refine List.pairwise_map.mpr (nd.imp fun {a b} ne he => ne ?_)
  have he : (some (MB.TK.k (.inr a)) : Option MB.TK) = some (MB.TK.k (.inr b)) := he
  injection he with he
  injection he with he
  injection he
theorem ks_nm {kvs : List (T × T)} {l : List Str} (e : kvs.map (·.1) = l.map .str) (nm : Nms l) : (kvs.all fun q => nameB q.1) = true := by
  rw [List.all_eq_true]
  intro q hq
  have : q.1 ∈ l.map MB.T.str := e ▸ List.mem_map_of_mem hq
  obtain ⟨x, hx, ex⟩ := List.mem_map.mp this
  rw [← ex]
  exact (nm.nm x hx).1
theorem ks_some {kvs : List (T × T)} {l : List Str} (e : kvs.map (·.1) = l.map .str) : (kvs.all fun q => q.1.key.isSome) = true := by
  rw [List.all_eq_true]
  intro q hq
  have : q.1 ∈ l.map MB.T.str := e ▸ List.mem_map_of_mem hq
  obtain ⟨x, hx, ex⟩ := List.mem_map.mp this
  rw [← ex]; rfl
theorem ks_len {kvs : List (T × T)} {l : List Str} (e : kvs.map (·.1) = l.map .str) : kvs.length = l.length := by
  have := congrArg List.length e
  rw [List.length_map, List.length_map] at this
  exact this
theorem ks_get {kvs : List (T × T)} {l : List Str} (e : kvs.map (·.1) = l.map .str) (nm : Nms l) {x : Str} (hx : x ∈ l) : ∃ q ∈ kvs, q.1 = .str x ∧ dgetW (.dct kvs) (.str x) = some q.2 ∧ MB.dget kvs (.str x) = some q.2 := by
  have : (MB.T.str x : T) ∈ kvs.map (·.1) := e ▸ List.mem_map_of_mem hx
  obtain ⟨q, hq, ex⟩ := List.mem_map.mp this
  refine ⟨q, hq, ex, ?_, ?_⟩
  · rw [← ex]; exact dgetW_of (ks_nm e nm) (ks_tk e nm.nd) hq
  · rw [← ex]; exact dget_of (ks_tk e nm.nd) q hq
theorem str_tk {x y : Str} (h : (MB.T.str x).tk = (MB.T.str y).tk) : x = y := by
  have he : (some (MB.TK.k (.inr x)) : Option MB.TK) = some (MB.TK.k (.inr y)) := h
  injection he with he
  injection he with he
  injection he
theorem dput_old {kvs : List (T × T)} {l : List Str} (e : kvs.map (·.1) = l.map .str) {x : Str} (hx : x ∈ l) {v : T} : (MB.dput kvs (.str x) v).map (·.1) = l.map .str ∧ ∀ q ∈ MB.dput kvs (.str x) v, q.2 = v ∨ ∃ p ∈ kvs, p.2 = q.2 := by
  have has : MB.dhas kvs (.str x) = true := by
    have : (MB.T.str x : T) ∈ kvs.map (·.1) := e ▸ List.mem_map_of_mem hx
    obtain ⟨q, hq, ex⟩ := List.mem_map.mp this
    exact List.any_eq_true.mpr ⟨q, hq, decide_eq_true (by rw [ex])⟩
  unfold MB.dput
  rw [if_pos has]
  refine ⟨?_, fun q hq => ?_⟩
  · rw [List.map_map, ← e]
    refine List.map_congr_left fun p _ => ?_
    show (if p.1.tk = _ then (p.1, v) else p).1 = p.1
    split <;> rfl
  · obtain ⟨p, hp, rfl⟩ := List.mem_map.mp hq
    split
    · exact .inl rfl
    · exact .inr ⟨p, hp, rfl⟩
theorem ddrop_ks : ∀ {kvs : List (T × T)} {l : List Str}, kvs.map (·.1) = l.map .str → ∀ (x : Str), (MB.ddrop kvs (.str x)).map (·.1) = (l.filter fun y => decide (y ≠ x)).map .str
  | [], [], _, _ => rfl
  | [], _ :: _, h, _ => by cases h
  | _ :: _, [], h, _ => by cases h
  | q :: ks, y :: l, h, x => by
    rw [List.map_cons, List.map_cons] at h
    injection h with h1 h2
    have ih := ddrop_ks h2 x
    unfold MB.ddrop at ih ⊢
    rw [List.filter_cons, List.filter_cons]
    by_cases e : y = x
    · subst e
      rw [if_neg (by rw [h1]; simp), if_neg (by simp)]
      exact ih
    · rw [if_pos (by rw [h1]; exact decide_eq_true fun z => e (str_tk z)), if_pos (decide_eq_true e), List.map_cons, List.map_cons, ih, h1]
theorem nms_filter {l : List Str} (nm : Nms l) (p : Str → Bool) : Nms (l.filter p) := ⟨nm.nd.filter _, fun x hx => nm.nm x (List.mem_filter.mp hx).1⟩
theorem len_filter {l : List Str} {x : Str} (hx : x ∈ l) : (l.filter fun y => decide (y ≠ x)).length < l.length := by
  have h := List.length_filter_lt_length_iff_exists (l := l) (p := fun y => decide (y ≠ x))
  exact h.mpr ⟨x, hx, by simp⟩
theorem sort_nms {l : List Str} (nm : Nms l) : Nms (MB.sortS l) := ⟨(List.mergeSort_perm l MB.leS).symm.nodup nm.nd, fun x hx => nm.nm x (List.mem_mergeSort.mp hx)⟩
theorem sort_len (l : List Str) : (MB.sortS l).length = l.length := List.length_mergeSort l
/-! ### while -/
theorem r_while {C : Env → M Bool} {m : Env → M Fl} {I : Nat → Env → Prop} {d : Nat} (hC : ∀ n ρ, I n ρ → Pm (C ρ) (decide (n ≠ 0))) (hm : ∀ n ρ, I (n + 1) ρ → Qm (m ρ) d (Nx (I n))) : ∀ (n k : Nat) (ρ : Env), I n ρ → n < k → Qm (whileW C m k ρ) (d * n) (Nx (I 0))
  | _, 0, _, _, h => by omega
  | 0, k + 1, ρ, hi, _ => qm_pb (hC 0 ρ hi) (qm_f (qm_ret ⟨ρ, rfl, hi⟩))
  | n + 1, k + 1, ρ, hi, h => by
    refine qm_pb (hC (n + 1) ρ hi) (qm_t (qm_bnd (d := d) (d' := d * n) (hm n ρ hi) (fun fl ⟨ρ', e, hi'⟩ => ?_) (by rw [Nat.mul_add, Nat.mul_one]; omega)))
    subst e
    exact r_while hC hm n k ρ' hi' (by omega)
def k_tu : Nat → List T → M T
  | 0 => fun _ => nev
  | l + 1 => runW 5 (m__law_turned mTake (k_tu l))
def ctu : Nat → Nat
  | 0 => 0
  | f + 1 => (1 + ctu f) * 4
abbrev envT (x : T) (rest : List Str) (fs : List (T × T)) (o : Option MB.Sl) : Env := [some (.sh (.loc 0)), some (.sh x), some (.ow (.lst (rest.map .str))), some (.ow (.dct fs)), o]
def InvT (x : T) (names : List Str) (P : T → Prop) (j : Nat) (ρ : Env) : Prop := ∃ rest fs o, ρ = envT x rest fs o ∧ rest.length = j ∧ Fd names rest fs P
theorem q_turned : ∀ (f l : Nat), f ≤ l → ∀ x, Th 3 f x → Qm (k_tu l [.loc 0, x]) (ctu f) (Th 3 f)
  | 0, _, _, x, h => by obtain ⟨g, e⟩ := h.pos; cases e
  | f + 1, 0, hl, _, _ => by omega
  | f + 1, l + 1, hl, x, h => by
    have p := th_plain h
    show Qm (runW 5 (m__law_turned mTake (k_tu l)) _) _ _
    refine r_run ?_
    have t1 : Pm (mNotT (mTru (mB1 (isiT "dict") (mVarB 1))) (startE 5 [.loc 0, x])) (!isDct x) := pm_bnd (a := isDct x) (pm_bnd (pm_bnd (pm_opt rfl) (pm_opt (isi_dct x p))) (pm_opt rfl)) pm_ret
    have t2 : Pm (mTru (mB1 (isiT "list") (mVarB 1)) (startE 5 [.loc 0, x])) (isLst x) := pm_bnd (pm_bnd (pm_opt rfl) (pm_opt (isi_lst x p))) (pm_opt rfl)
    by_cases hd : ∃ kvs, x = .dct kvs
    · obtain ⟨kvs, rfl⟩ := hd
      obtain ⟨ns, e, l4, nm, hv⟩ := th_dct h
      have len := ks_len e
      refine r_ifn t1 (r_seqp (ρ' := envT (.dct kvs) (MB.sortS ns) [] none) ?_ ?_)
      · exact pm_bnd (a := (.lst ((MB.sortS ns).map .str) : T)) (pm_bnd (a := (.lst ((MB.sortS ns).map .str) : T)) (pm_bnd (a := (.dct kvs : T)) (pm_opt rfl) (pm_opt (sorted_of e (by omega)))) (pm_opt rfl)) (pm_bnd (a := (.dct [] : T)) (pm_bnd (a := (.dct [] : T)) pm_ret (pm_opt rfl)) pm_ret)
      refine r_seq (d := (1 + ctu f) * ns.length) (d' := 0) (I := InvT (.dct kvs) (MB.sortS ns) (Th 3 f) 0) ?_ (fun ρ' ⟨rest, fs, o, er, hr, fd⟩ => ?_) ?_
      · refine r_while (fun n ρ ⟨rest, fs, o, er, hr, fd⟩ => ?_) (fun n ρ ⟨rest, fs, o, er, hr, fd⟩ => ?_) _ _ _ ⟨MB.sortS ns, [], none, rfl, sort_len ns, Fd.start⟩ (by omega)
        · subst er
          refine pm_bnd (a := (.lst (rest.map .str) : T)) (pm_opt rfl) (pm_bnd (a := (.lst [] : T)) (pm_lst pm_nil (by decide)) (pm_opt ?_))
          show Option.map (!·) (MB.eqT _ _) = _
          rw [eq_none (.inl trivial), ← hr]
          cases rest <;> rfl
        · subst er
          have hlen := fd.len
          rw [sort_len] at hlen
          refine r_seq (d := 1) (d' := ctu f) (q_pop (l := rest) rfl ?_ (by omega)) (fun ρ' ⟨k, hk, er⟩ => ?_) (by omega)
          · refine qm_pb (a := [.loc 0, .int rest.length]) (pm_arg (pm_opt rfl) (pm_arg (pm_bnd (a := (.lst (rest.map .str) : T)) (pm_opt rfl) (pm_opt (by show some (MB.T.int ((rest.map MB.T.str).length : Int)) = _; rw [List.length_map]))) pm_nil)) ?_
            exact q_take (rest.length : Int) (by omega) (by omega)
          · subst er
            have hm : rest[k] ∈ ns := by
              obtain ⟨ks, _, pk⟩ := fd.ks
              exact List.mem_mergeSort.mp (pk.mem_iff.mp (List.mem_append_left _ (List.getElem_mem hk)))
            obtain ⟨q, hq, eq, dg, _⟩ := ks_get e nm hm
            refine qm_bnd (d := ctu f) (d' := 0) (P := Th 3 f) (qm_pb (a := [.loc 0, q.2]) (pm_arg (pm_opt rfl) (pm_arg (pm_bnd (a := (.dct kvs : T)) (pm_opt rfl) (pm_bnd (a := (.str rest[k] : T)) (pm_opt rfl) (pm_opt dg))) pm_nil)) (q_turned f l (by omega) q.2 (hv q hq))) (fun v hv' => ?_) (by omega)
            obtain ⟨e1, fd'⟩ := fd.put (sort_nms nm).nd hk hv' (by rw [sort_len]; omega)
            refine qm_pb (a := fs) (pm_opt rfl) (qm_pb (a := (.str rest[k] : T)) (pm_opt rfl) (qm_opt (a := Fl.nx (envT (.dct kvs) (rest.eraseIdx k) (fs ++ [(.str rest[k], v)]) (some (.sh (.str rest[k]))))) (by rw [e1]; rfl) ⟨_, rfl, _, _, _, rfl, ?_, fd'⟩))
            have := len_erase rest k hk
            omega
      · subst er
        exact qm_pm (a := Fl.rt (.dct fs)) (pm_opt rfl) ⟨_, rfl, fd.th (sort_nms nm) (by rw [sort_len]; exact l4)⟩
      · show _ ≤ (1 + ctu f) * 4
        exact Nat.mul_le_mul_left _ l4
    · have ed : isDct x = false := by cases x <;> first | rfl | exact absurd ⟨_, rfl⟩ hd
      rw [ed] at t1
      refine r_ify t1 (r_ret (qm_pb t2 ?_))
      cases el : isLst x with
      | true =>
        obtain ⟨ts, rfl⟩ := get_lst el
        exact qm_t (qm_pm (a := (.lst ts : T)) (pm_bnd (pm_opt rfl) (pm_opt rfl)) h)
      | false => exact qm_f (qm_pm (a := x) (pm_opt rfl) h)
end Wp

end -- LD
section -- LE
set_option linter.all false
set_option maxRecDepth 100000
set_option maxHeartbeats 1000000
/-! Plain: _law_near. -/
namespace Wp
open PySem PySem.Spec L2
theorem cut_mem {xs : List T} {lo hi : Option Int} : ∀ t ∈ Wp.cutL xs lo hi, t ∈ xs := fun t h => List.mem_of_mem_drop (List.mem_of_mem_take h)
theorem cut_len (xs : List T) (lo hi : Option Int) : (Wp.cutL xs lo hi).length ≤ xs.length := by
  unfold Wp.cutL
  rw [List.length_take, List.length_drop]
  omega
def k_ne : Nat → List T → M T
  | 0 => fun _ => nev
  | l + 1 => runW 6 (m__law_near mTake d_pick (k_ne l))
theorem r_one {xs : List T} {P : T → Prop} {As : Env → M (List T)} {ρ : Env} (h : Pm (As ρ) [.loc 0, .lst xs]) (h0 : xs ≠ []) (h1 : xs.length ≤ 1000) (hP : ∀ t ∈ xs, P t) : Qm (mCall d_pick As ρ) 1 P := qm_pb h (qm_mono (q_pick h0 h1) (Nat.le_refl _) hP)
theorem r_len {ρ : Env} {xs : List T} {i : Nat} (h0 : MB.rdS ρ 0 = some (.loc 0)) (h : MB.rdB ρ i = some (.lst xs)) (ne : xs ≠ []) (hl : xs.length ≤ 1000) : Qm (mCall mTake (aCons (mVar 0) (aCons (mB1 lenW (mVarB i)) aNil)) ρ) 1 (isIx xs.length) := by
  have := List.length_pos_iff.mpr ne
  exact qm_pb (a := [.loc 0, .int xs.length]) (pm_arg (pm_opt h0) (pm_arg (pm_bnd (a := (.lst xs : T)) (pm_opt h) (pm_opt rfl)) pm_nil)) (q_take (xs.length : Int) (by omega) (by omega))
theorem isi_int_it {x : T} (h : IT x) (e : isInt x = true) : (∃ i, x = .int i) ∨ ∃ b, x = .bl b := by
  cases x <;> first | exact .inl ⟨_, rfl⟩ | exact .inr ⟨_, rfl⟩ | (cases e; done)
abbrev rNear : Env → M Fl := sSeq (sIf (mTru (mB1 (isiT "int") (mVarB 1))) (sRet (mCall d_pick (aCons (mVar 0) (aCons (mLst (aCons (mB1 intW (mVarB 1)) (aCons (mCmp .eq (mVarB 1) (mLit (.int 1))) (aCons (mAddB (mVarB 1) (mLit (.int 1))) (aNil))))) (aNil))))) (sNil)) (sRet (mCall d_pick (aCons (mVar 0) (aCons (mLst (aCons (mLit .non) (aCons (mLit (.int 0)) (aCons (mLit (.int 1)) (aCons (mLit (.bl true)) (aCons (mLit (.bl false)) (aCons (mLit (.str "")) (aCons (mLit (.str "a")) (aNil))))))))) (aNil)))))
theorem r_rest {x : T} {ρ : Env} (h0 : MB.rdS ρ 0 = some (.loc 0)) (h1 : MB.rdB ρ 1 = some x) (p : plain7 x = true) : Qm (rNear ρ) 1 (Rt IT) := by
  have t3 : Pm (mTru (mB1 (isiT "int") (mVarB 1)) ρ) (isInt x) := pm_bnd (pm_bnd (pm_opt h1) (pm_opt (isi_int x p))) (pm_opt rfl)
  cases e : isInt x with
  | true =>
    rw [e] at t3
    refine r_ify t3 (r_ret ?_)
    have hx : (∃ i, x = .int i) ∨ ∃ b, x = .bl b := by cases x <;> first | exact .inl ⟨_, rfl⟩ | exact .inr ⟨_, rfl⟩ | (cases e; done)
    have a1 : ∃ i, intW x = some (.int i) := by rcases hx with ⟨i, rfl⟩ | ⟨b, rfl⟩ <;> exact ⟨_, rfl⟩
    have a2 : ∃ b, MB.eqT x (.int 1) = some b := by rcases hx with ⟨i, rfl⟩ | ⟨b, rfl⟩ <;> exact ⟨_, rfl⟩
    have a3 : ∃ i, addT x (.int 1) = some (.int i) := by rcases hx with ⟨i, rfl⟩ | ⟨b, rfl⟩ <;> exact ⟨_, rfl⟩
    obtain ⟨i, e1⟩ := a1
    obtain ⟨b, e2⟩ := a2
    obtain ⟨j, e3⟩ := a3
    refine r_one (xs := [.int i, .bl b, .int j]) (pm_arg (pm_opt h0) (pm_arg (pm_lst (pm_arg (pm_bnd (pm_opt h1) (pm_opt e1)) (pm_arg (pm_eqT (pm_opt h1) pm_lit e2) (pm_arg (pm_bnd (a := x) (pm_opt h1) (pm_bnd (a := (.int 1 : T)) pm_lit (pm_opt e3))) pm_nil))) (by show 3 ≤ 1000; decide)) pm_nil)) (fun h => nomatch h) (by show 3 ≤ 1000; decide) ?_
    simp only [List.forall_mem_cons]
    exact ⟨it_int _, it_bl _, it_int _, fun _ h => nomatch h⟩
  | false =>
    rw [e] at t3
    refine r_ifn t3 (r_ret ?_)
    refine r_one (xs := [.non, .int 0, .int 1, .bl true, .bl false, .str "", .str "a"]) (pm_arg (pm_opt h0) (pm_arg (pm_lst (pm_arg pm_lit (pm_arg pm_lit (pm_arg pm_lit (pm_arg pm_lit (pm_arg pm_lit (pm_arg pm_lit (pm_arg pm_lit pm_nil))))))) (by decide)) pm_nil)) (fun h => nomatch h) (by decide) ?_
    simp only [List.forall_mem_cons]
    exact ⟨it_non, it_int _, it_int _, it_bl _, it_bl _, it_dec (by decide +kernel), it_dec (by decide +kernel), fun _ h => nomatch h⟩
theorem it_dct {x : T} (h : IT x) : isDct x = false := by cases x <;> first | rfl | cases h.2
theorem it_lst {x : T} (h : IT x) : isLst x = false := by cases x <;> first | rfl | cases h.2
theorem pm_andf {A B : Env → M Bool} {ρ : Env} (h : Pm (A ρ) false) : Pm (mAndT A B ρ) false := pm_bnd h (pm_f pm_ret)
theorem q_near_item {l : Nat} {x : T} (h : IT x) : Qm (k_ne (l + 1) [.loc 0, x]) 1 IT := by
  have p := wf_plain h.1
  show Qm (runW 6 (m__law_near mTake d_pick (k_ne l)) _) _ _
  refine r_run ?_
  have t1 : Pm (mTru (mB1 (isiT "dict") (mVarB 1)) (startE 6 [.loc 0, x])) (isDct x) := pm_bnd (pm_bnd (pm_opt rfl) (pm_opt (isi_dct x p))) (pm_opt rfl)
  have t2 : Pm (mTru (mB1 (isiT "list") (mVarB 1)) (startE 6 [.loc 0, x])) (isLst x) := pm_bnd (pm_bnd (pm_opt rfl) (pm_opt (isi_lst x p))) (pm_opt rfl)
  rw [it_dct h] at t1
  rw [it_lst h] at t2
  exact r_ifn (pm_andf t1) (r_ifn (pm_andf t2) (r_rest rfl rfl p))
theorem neE_of {kvs : List (T × T)} (h : (kvs.all fun q => q.1.key.isSome) = true) : neE (.dct kvs) (.dct []) = some (!kvs.isEmpty) := by
  show (if (kvs.all fun q => q.1.key.isSome) = true then some (!kvs.isEmpty) else none) = _
  rw [if_pos h]
theorem dictW_of {kvs : List (T × T)} (h : (kvs.all fun q => q.1.key.isSome) = true) : dictW (.dct kvs) = some (.dct kvs) := by
  show (if (kvs.all fun q => q.1.key.isSome) = true then some (MB.T.dct kvs) else none) = _
  rw [if_pos h]
/-- the look at a dict, with a draw -/
theorem r_ifd {ρ : Env} {x : T} {n : Int} (h0 : MB.rdS ρ 0 = some (.loc 0)) (h1 : MB.rdB ρ 1 = some x) (p : plain7 x = true) (hk : ∀ kvs, x = .dct kvs → (kvs.all fun q => q.1.key.isSome) = true) (n0 : 0 < n) (n1 : n < 1073741824) :
    Qm (mAndT (mTru (mB1 (isiT "dict") (mVarB 1))) (mAndT (mNeE (mVarB 1) mDNew) (mCmpT .gt (mCall mTake (aCons (mVar 0) (aCons (mLit (.int n)) aNil))) (mLit (.int 0)))) ρ) 1 fun c => c = true → ∃ kvs, x = .dct kvs ∧ kvs ≠ [] := by
  refine qm_pb (a := isDct x) (pm_bnd (pm_bnd (pm_opt h1) (pm_opt (isi_dct x p))) (pm_opt rfl)) ?_
  cases e : isDct x with
  | false => exact qm_f (qm_ret fun h => nomatch h)
  | true =>
    obtain ⟨kvs, rfl⟩ := get_dct e
    refine qm_t (qm_pb (a := !kvs.isEmpty) (pm_bnd (a := (.dct kvs : T)) (pm_opt h1) (pm_bnd (a := (.dct [] : T)) pm_ret (pm_opt (neE_of (hk kvs rfl))))) ?_)
    cases kvs with
    | nil => exact qm_f (qm_ret fun h => nomatch h)
    | cons q ks =>
      refine qm_t (qm_bnd (d := 1) (d' := 0) (P := isIx n.toNat) (qm_pb (a := [.loc 0, .int n]) (pm_arg (pm_opt h0) (pm_arg pm_lit pm_nil)) (q_take n n0 n1)) (fun t ⟨k, et, hk⟩ => ?_) (Nat.le_refl _))
      subst et
      exact qm_pb (a := (.int 0 : T)) pm_lit (qm_opt rfl fun _ => ⟨_, rfl, by simp⟩)
theorem r_pick3 {ρ : Env} {A : Env → M T} {base : List T} {i d : Nat} {P : T → Prop} (h0 : MB.rdS ρ 0 = some (.loc 0)) (hb : MB.rdB ρ i = some (.lst base)) (hA : Qm (A ρ) d P) (hP : ∀ t ∈ base, P t) (lb : base.length ≤ 900) : Qm (mCall d_pick (aCons (mVar 0) (aCons (mBin .add (mVarB i) (mRep (mLst (aCons A aNil)) (mLit (.int 3)))) aNil)) ρ) (d + 1) P := by
  refine qm_bnd (d := d) (d' := 1) (P := fun ts => ∃ w, ts = [.loc 0, .lst (base ++ [w, w, w])] ∧ P w) ?_ (fun ts ⟨w, ew, hw⟩ => ?_) (Nat.le_refl _)
  · refine qm_pb (a := (.loc 0 : T)) (pm_opt h0) (qm_bnd (d := d) (d' := 0) (P := fun ts => ∃ w, ts = [.lst (base ++ [w, w, w])] ∧ P w) (qm_bnd (d := d) (d' := 0) (P := fun t => ∃ w, t = .lst (base ++ [w, w, w]) ∧ P w) (qm_pb (a := (.lst base : T)) (pm_opt hb) (qm_bnd (d := d) (d' := 0) (P := fun t => ∃ w, t = .lst [w, w, w] ∧ P w) (qm_bnd (d := d) (d' := 0) (P := fun t => ∃ w, t = .lst [w] ∧ P w) (qm_bnd (d := d) (d' := 0) (P := fun ts => ∃ w, ts = [w] ∧ P w) (qm_bnd (d := d) (d' := 0) (P := P) hA (fun w iw => qm_pb (a := ([] : List T)) pm_nil (qm_ret ⟨w, rfl, iw⟩)) (Nat.le_refl _)) (fun ts ⟨w, e, iw⟩ => ?_) (Nat.le_refl _)) (fun t ⟨w, e, iw⟩ => ?_) (Nat.le_refl _)) (fun t ⟨w, e, iw⟩ => ?_) (Nat.le_refl _))) (fun t ⟨w, e, iw⟩ => ?_) (Nat.le_refl _)) (fun ts ⟨w, e, iw⟩ => ?_) (Nat.le_refl _))
    · subst e; exact qm_opt rfl ⟨w, rfl, iw⟩
    · subst e; exact qm_pb (a := (.int 3 : T)) pm_lit (qm_opt rfl ⟨w, rfl, iw⟩)
    · subst e; exact qm_opt (cat_lst (by show _ + 3 ≤ 2000; omega)) ⟨w, rfl, iw⟩
    · subst e; exact qm_pb (a := ([] : List T)) pm_nil (qm_ret ⟨w, rfl, iw⟩)
    · subst e; exact qm_ret ⟨w, rfl, iw⟩
  · subst ew
    refine qm_mono (q_pick (by simp) (by rw [List.length_append]; show _ + 3 ≤ 1000; omega)) (Nat.le_refl _) fun t ht => ?_
    rcases List.mem_append.mp ht with h | h
    · exact hP t h
    · have : t = w := by simpa using h
      exact this ▸ hw
theorem pm_sl {ρ : Env} {P Q : Env → M (Option Int)} {lo hi : Option Int} {i : Nat} {xs : List T} (h : MB.rdB ρ i = some (.lst xs)) (a : Pm (P ρ) lo) (b : Pm (Q ρ) hi) : Pm (mSl (mVarB i) P Q ρ) (.lst (Wp.cutL xs lo hi)) := pm_bnd (pm_opt h) (pm_bnd a (pm_bnd b (pm_opt rfl)))
theorem pm_vk {ρ : Env} {j : Nat} {k : Int} (h : MB.rdB ρ j = some (.int k)) : Pm (pSome (mVarB j) ρ) (some k) := pm_bnd (a := (.int k : T)) (pm_opt h) (pm_opt rfl)
theorem pm_vk1 {ρ : Env} {j : Nat} {k : Int} (h : MB.rdB ρ j = some (.int k)) : Pm (pSome (mBin .add (mVarB j) (mLit (.int 1))) ρ) (some (k + 1)) := pm_bnd (a := (.int (k + 1) : T)) (pm_int (x := .int k) (y := .int 1) (pm_opt h) pm_lit rfl) (pm_opt rfl)
/-- one item is changed -/
theorem r_swap {ρ : Env} {A : Env → M T} {xs : List T} {j d : Nat} {k : Int} {P : T → Prop} (h1 : MB.rdB ρ 1 = some (.lst xs)) (hj : MB.rdB ρ j = some (.int k)) (hA : Qm (A ρ) d P) (lx : xs.length ≤ 900) : Qm (mBin .add (mBin .add (mSl (mVarB 1) pNone (pSome (mVarB j))) (mLst (aCons A aNil))) (mSl (mVarB 1) (pSome (mBin .add (mVarB j) (mLit (.int 1)))) pNone) ρ) d fun t => ∃ ys, t = .lst ys ∧ ys.length ≤ 2 * xs.length + 1 ∧ ∀ y ∈ ys, y ∈ xs ∨ P y := by
  have l1 := cut_len xs none (some k)
  have l2 := cut_len xs (some (k + 1)) none
  refine qm_bnd (d := d) (d' := 0) (P := fun t => ∃ i, t = .lst (Wp.cutL xs none (some k) ++ [i]) ∧ P i) (qm_pb (pm_sl h1 pm_ret (pm_vk hj)) (qm_bnd (d := d) (d' := 0) (P := fun t => ∃ i, t = .lst [i] ∧ P i) (qm_bnd (d := d) (d' := 0) (P := fun ts => ∃ i, ts = [i] ∧ P i) (qm_bnd (d := d) (d' := 0) (P := P) hA (fun w iw => qm_pb (a := ([] : List T)) pm_nil (qm_ret ⟨w, rfl, iw⟩)) (Nat.le_refl _)) (fun ts ⟨w, e, iw⟩ => ?_) (Nat.le_refl _)) (fun t ⟨w, e, iw⟩ => ?_) (Nat.le_refl _))) (fun t ⟨w, e, iw⟩ => ?_) (Nat.le_refl _)
  · subst e; exact qm_opt rfl ⟨w, rfl, iw⟩
  · subst e
    exact qm_opt (cat_lst (by show _ + 1 ≤ 2000; omega)) ⟨w, rfl, iw⟩
  · subst e
    refine qm_pb (pm_sl h1 (pm_vk1 hj) pm_ret) (qm_opt (cat_lst ?_) ⟨_, rfl, ?_, fun y hy => ?_⟩)
    · rw [List.length_append]; show _ + 1 + _ ≤ 2000; omega
    · rw [List.length_append, List.length_append]; show _ + 1 + _ ≤ _; omega
    · rcases List.mem_append.mp hy with h | h
      · rcases List.mem_append.mp h with h | h
        · exact .inl (cut_mem y h)
        · rw [List.mem_singleton] at h; exact .inr (h ▸ iw)
      · exact .inl (cut_mem y h)
def cne : Nat → Nat
  | 0 => 0
  | f + 1 => 5 + cne f
theorem q_near : ∀ (f l : Nat), f + 1 ≤ l → ∀ x, Th 3 f x → Qm (k_ne l [.loc 0, x]) (cne f) (Th 7 f)
  | 0, _, _, x, h => by obtain ⟨g, e⟩ := h.pos; cases e
  | f + 1, 0, hl, _, _ => by omega
  | f + 1, l + 1, hl, x, h => by
    have p := th_plain h
    show Qm (runW 6 (m__law_near mTake d_pick (k_ne l)) _) (5 + cne f) _
    refine r_run ?_
    refine r_ifr (d := 1) (d' := 4 + cne f) (r_ifd (x := x) rfl rfl p (fun kvs e => ?_) (by decide) (by decide)) (fun hF => ?_) (fun _ => ?_) (by omega)
    · subst e
      obtain ⟨ns, e, _⟩ := th_dct h
      exact ks_some e
    · obtain ⟨kvs, rfl, hne⟩ := hF rfl
      obtain ⟨ns, e, l4, nm, hv⟩ := th_dct h
      have len := ks_len e
      have hn0 : ns ≠ [] := fun z => hne (List.eq_nil_of_length_eq_zero (by rw [len, z]; rfl))
      refine r_seq (d := 1) (d' := 3 + cne f) (I := fun ρ => ∃ y, y ∈ ns ∧ ρ = [some (.sh (.loc 0)), some (.sh (.dct kvs)), none, none, some (.ow (.dct kvs)), some (.sh (.str y))]) ?_ (fun ρ ⟨y, hy, er⟩ => ?_) (by omega)
      · refine qm_pb (a := (.dct kvs : T)) (pm_bnd (a := (.dct kvs : T)) (pm_bnd (a := (.dct kvs : T)) (pm_opt rfl) (pm_opt (dictW_of (ks_some e)))) (pm_opt rfl)) ?_
        refine qm_bnd (d := 1) (d' := 0) (P := fun t => ∃ y, y ∈ ns ∧ t = .str y) (r_one (xs := (MB.sortS ns).map .str) (pm_arg (pm_opt rfl) (pm_arg (pm_bnd (a := (.dct kvs : T)) (pm_opt rfl) (pm_opt (sorted_of e (by omega)))) pm_nil)) (fun z => ?_) (by rw [List.length_map, sort_len]; omega) fun t ht => ?_) (fun t ⟨y, hy, et⟩ => ?_) (by omega)
        · have := congrArg List.length z
          rw [List.length_map, sort_len] at this
          exact hn0 (List.eq_nil_of_length_eq_zero this)
        · obtain ⟨y, hy, rfl⟩ := List.mem_map.mp ht
          exact ⟨y, List.mem_mergeSort.mp hy, rfl⟩
        · subst et
          exact qm_ret ⟨_, rfl, y, hy, rfl⟩
      subst er
      obtain ⟨q, hq, eq, dg, dg2⟩ := ks_get e nm hy
      refine r_seq (d := 1 + cne f) (d' := 0) (I := fun ρ => ∃ us, ρ = [some (.sh (.loc 0)), some (.sh (.dct kvs)), none, none, some (.ow (.dct us)), some (.sh (.str y))] ∧ Th 7 (f + 1) (.dct us)) ?_ (fun ρ ⟨us, er, hu⟩ => ?_) (by omega)
      · refine qm_bnd (d := 1) (d' := cne f) (P := fun _ => True) (qm_bnd (d := 1) (d' := 0) (P := isIx 6) (qm_pb (a := [.loc 0, .int 6]) (pm_arg (pm_opt rfl) (pm_arg pm_lit pm_nil)) (q_take 6 (by decide) (by decide))) (fun t ⟨k, et, hk⟩ => ?_) (Nat.le_refl 1)) (fun c _ => ?_) (by omega)
        · subst et
          exact qm_pb (a := (.int 0 : T)) pm_lit (qm_opt (eqT_int _ _) trivial)
        cases c with
        | true =>
          refine qm_t (qm_pb (a := kvs) (pm_opt rfl) (qm_pb (a := (.str y : T)) (pm_opt rfl) (qm_pb (a := (q.2, MB.ddrop kvs (.str y))) (pm_opt ?_) (qm_ret ⟨_, rfl, MB.ddrop kvs (.str y), rfl, ?_⟩))))
          · unfold popW
            rw [ks_some e, dg2]
            rfl
          · exact .dct (ddrop_ks e y) (by have := len_filter hy; omega) (nms_filter nm _) fun q hq => (hv q (List.mem_filter.mp hq).1).mono (by omega) (Nat.le_refl _)
        | false =>
          refine qm_f (qm_bnd (d := cne f) (d' := 0) (P := Th 7 f) (qm_pb (a := [.loc 0, q.2]) (pm_arg (pm_opt rfl) (pm_arg (pm_bnd (a := (.dct kvs : T)) (pm_opt rfl) (pm_bnd (a := (.str y : T)) (pm_opt rfl) (pm_opt dg))) pm_nil)) (q_near f l (by omega) q.2 (hv q hq))) (fun v hv' => ?_) (Nat.le_refl _))
          have dp := dput_old e hy (v := v)
          refine qm_pb (a := kvs) (pm_opt rfl) (qm_pb (a := (.str y : T)) (pm_opt rfl) (qm_opt (a := Fl.nx [some (.sh (.loc 0)), some (.sh (.dct kvs)), none, none, some (.ow (.dct (MB.dput kvs (.str y) v))), some (.sh (.str y))]) ?_ ⟨_, rfl, _, rfl, .dct dp.1 l4 nm fun p hp => ?_⟩))
          · unfold putW
            rw [ks_some e, decide_eq_true (by rw [sizeLine_eq]; omega : kvs.length < sizeLine)]
            rfl
          · rcases dp.2 p hp with e2 | ⟨p', hp', e2⟩
            · rw [e2]; exact hv'
            · rw [← e2]; exact (hv p' hp').mono (by omega) (Nat.le_refl _)
      · subst er
        exact qm_pm (a := Fl.rt (.dct us)) (pm_opt rfl) ⟨_, rfl, hu⟩
    · have t2 : Pm (mTru (mB1 (isiT "list") (mVarB 1)) (startE 6 [.loc 0, x])) (isLst x) := pm_bnd (pm_bnd (pm_opt rfl) (pm_opt (isi_lst x p))) (pm_opt rfl)
      have fin : Qm (rNear (startE 6 [.loc 0, x])) (4 + cne f) (Rt (Th 7 (f + 1))) := qm_mono (r_rest rfl rfl p) (by omega) fun fl ⟨t, e, h⟩ => ⟨t, e, .item h⟩
      by_cases hl2 : ∃ ts, x = .lst ts
      · obtain ⟨xs, rfl⟩ := hl2
        obtain ⟨lx, hx⟩ := th_lst h
        have t3 : Pm (mAndT (mTru (mB1 (isiT "list") (mVarB 1))) (mCmpT .ne (mVarB 1) (mLst aNil)) (startE 6 [.loc 0, .lst xs])) (!xs.isEmpty) := by
          refine pm_bnd t2 (pm_t (pm_bnd (a := (.lst xs : T)) (pm_opt rfl) (pm_bnd (a := (.lst [] : T)) (pm_lst pm_nil (by decide)) (pm_opt ?_))))
          show Option.map (!·) (MB.eqT _ _) = _
          rw [eq_none (.inl trivial)]
          rfl
        by_cases hne : xs = []
        · rw [hne] at t3 fin ⊢
          exact r_ifn t3 fin
        have e3 : (!xs.isEmpty) = true := by cases xs <;> first | rfl | exact absurd rfl hne
        rw [e3] at t3
        refine r_ify t3 (r_set (d := 1) (d' := 3 + cne f) (r_len (xs := xs) rfl rfl hne (by omega)) (fun t ⟨k, et, hk⟩ => ?_) (by omega))
        subst et
        have ok : ∀ lo hi, (Wp.cutL xs lo hi).length ≤ 3 ∧ ∀ t ∈ Wp.cutL xs lo hi, IT t := fun lo hi => ⟨Nat.le_trans (cut_len xs lo hi) lx, fun t ht => hx t (cut_mem t ht)⟩
        have two : ∀ {xs ys : List T} {m n : Nat}, (xs.length ≤ m ∧ ∀ t ∈ xs, IT t) → (ys.length ≤ n ∧ ∀ t ∈ ys, IT t) → ((xs ++ ys).length ≤ m + n ∧ ∀ t ∈ xs ++ ys, IT t) := fun {xs ys m n} a b => ⟨by rw [List.length_append]; omega, fun t ht => by
          rcases List.mem_append.mp ht with h | h
          · exact a.2 t h
          · exact b.2 t h⟩
        have k1 := two (ok none (some (k : Int))) (ok (some ((k : Int) + 1)) none)
        have k2 := two ⟨lx, hx⟩ (ok (some (k : Int)) (some ((k : Int) + 1)))
        have k3 : (xs.reverse).length ≤ 3 ∧ ∀ t ∈ xs.reverse, IT t := ⟨by rw [List.length_reverse]; exact lx, fun t ht => hx t (List.mem_reverse.mp ht)⟩
        have c1 : (Wp.cutL xs none (some (k : Int))).length + (Wp.cutL xs (some ((k : Int) + 1)) none).length ≤ 2000 := by
          have := (ok none (some (k : Int))).1
          have := (ok (some ((k : Int) + 1)) none).1
          omega
        have c2 : xs.length + (Wp.cutL xs (some (k : Int)) (some ((k : Int) + 1))).length ≤ 2000 := by
          have := (ok (some (k : Int)) (some ((k : Int) + 1))).1
          omega
        obtain ⟨l, rfl⟩ : ∃ l', l = l' + 1 := ⟨l - 1, by omega⟩
        refine r_setp (t := .lst [.lst (Wp.cutL xs none (some (k : Int)) ++ Wp.cutL xs (some ((k : Int) + 1)) none), .lst (xs ++ Wp.cutL xs (some (k : Int)) (some ((k : Int) + 1))), .lst xs.reverse]) (pm_lst (pm_arg (pm_int (pm_sl rfl pm_ret (pm_vk rfl)) (pm_sl rfl (pm_vk1 rfl) pm_ret) (cat_lst c1)) (pm_arg (pm_int (pm_opt rfl) (pm_sl rfl (pm_vk rfl) (pm_vk1 rfl)) (cat_lst c2)) (pm_arg (pm_bnd (a := (.lst xs : T)) (pm_opt rfl) (pm_opt rfl)) pm_nil))) (by show 3 ≤ 1000; decide)) ?_
        have hb : ∀ t ∈ [(.lst (Wp.cutL xs none (some (k : Int)) ++ Wp.cutL xs (some ((k : Int) + 1)) none) : T), .lst (xs ++ Wp.cutL xs (some (k : Int)) (some ((k : Int) + 1))), .lst xs.reverse], Th 7 (f + 1) t := by
          simp only [List.forall_mem_cons]
          exact ⟨.lst (by have := k1.1; omega) k1.2, .lst (by have := k2.1; omega) k2.2, .lst (by have := k3.1; omega) k3.2, fun _ h => nomatch h⟩
        have hl3 : [(.lst (Wp.cutL xs none (some (k : Int)) ++ Wp.cutL xs (some ((k : Int) + 1)) none) : T), .lst (xs ++ Wp.cutL xs (some (k : Int)) (some ((k : Int) + 1))), .lst xs.reverse].length ≤ 900 := by show 3 ≤ 900; decide
        generalize [(.lst (Wp.cutL xs none (some (k : Int)) ++ Wp.cutL xs (some ((k : Int) + 1)) none) : T), .lst (xs ++ Wp.cutL xs (some (k : Int)) (some ((k : Int) + 1))), .lst xs.reverse] = base at hb hl3 ⊢
        refine r_ret ?_
        refine qm_mono (d := 1 + 1) (P := Th 7 (f + 1)) ?_ (by omega) (fun _ h => h)
        refine r_pick3 (d := 1) (i := 3) (base := base) rfl rfl ?_ hb hl3
        refine qm_mono (d := 1) (P := fun t => ∃ ys, t = .lst ys ∧ ys.length ≤ 2 * xs.length + 1 ∧ ∀ y ∈ ys, y ∈ xs ∨ IT y) ?_ (Nat.le_refl _) fun t ⟨ys, ey, ly, hy⟩ => ?_
        · refine r_swap (d := 1) (P := IT) (xs := xs) (k := (k : Int)) (j := 2) rfl rfl ?_ (by omega)
          have ea : atI xs (k : Int) = some xs[k] := atI_nat (List.getElem?_eq_getElem hk)
          have qi : Qm (k_ne (l + 1) [.loc 0, xs[k]]) 1 IT := q_near_item (hx _ (List.getElem_mem hk))
          generalize k_ne (l + 1) = dn at qi ⊢
          refine qm_pb (a := [.loc 0, xs[k]]) ?_ qi
          refine pm_arg (pm_opt rfl) (pm_arg ?_ pm_nil)
          exact pm_bnd (a := (.lst xs : T)) (pm_opt rfl) (pm_bnd (a := (.int k : T)) (pm_opt rfl) (pm_opt ea))
        · subst ey
          exact .lst (by omega) fun y hy' => (hy y hy').elim (hx y) id
      · have e2 : isLst x = false := by cases x <;> first | rfl | exact absurd ⟨_, rfl⟩ hl2
        rw [e2] at t2
        exact r_ifn (pm_andf t2) fin
end Wp

end -- LE
section -- LF
set_option linter.all false
set_option maxRecDepth 100000
set_option maxHeartbeats 1000000
/-! Plain: _law_odd, _law_bent. -/
namespace Wp
open PySem PySem.Spec L2
def d_odd : List T → M T := runW 3 (m__law_odd mWord d_pick)
def oddA (x : Str) : List T := [.non, .bl true, .int 0, .int (-1), .str "", .str x, .str (x ++ "A"), .str "abcdefghi", .str "a b", .str "a-", .str "1", .tup [], .tup [.tup []], .tup [.int 1], .lst [], .lst [.lst []]]
def oddB (x : Str) : List T := [.lst [.tup []], .lst [.str x, .non], .dct [], .dct [(.str x, .tup [])], .dct [(.str "A", .int 1)], .dct [(.int 1, .int 2)], .dct [(.str "", .int 1)], .dct [(.non, .int 1)], .lst [.dct []], .tup [.str x]]
theorem nm_len {x : Str} (h : Nm x) : x.length ≤ 8 := by
  have := (show ((decide ((0 : Int) ≤ x.length) && (decide ((x.length : Int) ≤ 8) && allLet x)) && !decide (x = "")) = true from h.1)
  rw [Bool.and_eq_true, Bool.and_eq_true, Bool.and_eq_true, decide_eq_true_iff, decide_eq_true_iff] at this
  omega
theorem wf_cat {x : Str} (h : Nm x) : WF 2 (.str (x ++ "A")) = true := by
  have l := nm_len h
  have e : (x ++ ("A" : Str)).length = x.length + 1 := by
    show (x.cps ++ (Str.ofString "A").cps).size = x.cps.size + 1
    rw [Array.size_append]
    rfl
  show (decide ((x ++ ("A" : Str)).length ≤ 1000) && (x ++ ("A" : Str)).cps.all (· < 0x110000)) = true
  rw [e, decide_eq_true (by omega), Bool.true_and]
  show (x.cps ++ (Str.ofString "A").cps).all (· < 0x110000) = true
  rw [Array.all_append, h.2.2, Bool.true_and]
  decide +kernel
theorem wf_one {f : Nat} {k v : T} (h1 : WF f k = true) (h2 : WF f v = true) : WF (f + 1) (.dct [(k, v)]) = true := by
  show (([(k, v)].all fun q => WF f q.1 && WF f q.2) && decide (([(k, v)].map fun q => q.1.tk).Nodup ∧ [(k, v)].length ≤ 4)) = true
  rw [Bool.and_eq_true]
  exact ⟨by simp [h1, h2], decide_eq_true ⟨by simp, by show 1 ≤ 4; decide⟩⟩
theorem oddA_wf {x : Str} (h : Nm x) : ∀ t ∈ oddA x, WF 2 t = true := by
  unfold oddA
  simp only [List.forall_mem_cons]
  exact ⟨rfl, rfl, rfl, rfl, by decide +kernel, nm_wf h, wf_cat h, by decide +kernel, by decide +kernel, by decide +kernel, by decide +kernel, rfl, rfl, rfl, rfl, rfl, fun _ h => nomatch h⟩
theorem oddB_wf {x : Str} (h : Nm x) : ∀ t ∈ oddB x, WF 2 t = true := by
  unfold oddB
  simp only [List.forall_mem_cons]
  refine ⟨rfl, ?_, by decide +kernel, wf_one (nm_wf h) rfl, by decide +kernel, by decide +kernel, by decide +kernel, by decide +kernel, by decide +kernel, ?_, fun _ h => nomatch h⟩
  · show (([.str x, .non] : List T).all (WF 1) && decide (2 ≤ 1000)) = true
    have := nm_wf h (n := 0)
    simp only [List.all_cons, List.all_nil, this]
    rfl
  · show (([.str x] : List T).all (WF 1) && ([.str x] : List T).all (MB.T.pl 7)) = true
    have := nm_wf h (n := 0)
    have h2 : MB.T.pl 7 (.str x) = true := by simpa [MB.T.pl] using h.2.2
    simp only [List.all_cons, List.all_nil, this, h2]
    rfl
theorem pm_tup {As : Env → M (List T)} {ρ : Env} {ts : List T} (h : Pm (As ρ) ts) (l : ts.length ≤ 1000) : Pm (mTup As ρ) (.tup ts) := pm_bnd h (pm_opt (if_pos l))
theorem pm_disp {A B : Env → M T} {ρ : Env} {k v : T} (h : Pm (A ρ) k) (h2 : Pm (B ρ) v) (e : k.key.isSome = true) : Pm (mDisp1 A B ρ) (.dct [(k, v)]) := pm_bnd h (pm_bnd h2 (pm_opt (if_pos e)))
theorem pm_dispN {B : Env → M T} {ρ : Env} {v : T} (h2 : Pm (B ρ) v) : Pm (mDispN B ρ) (.dct [(.non, v)]) := pm_bnd h2 pm_ret
theorem pm_dnew {ρ : Env} : Pm (mDNew ρ) (.dct []) := pm_ret
theorem pm_neg {A : Env → M T} {ρ : Env} {i : Int} (h : Pm (A ρ) (.int i)) : Pm (mNeg A ρ) (.int (-i)) := pm_bnd h (pm_opt rfl)
theorem q_odd : Qm (d_odd [.loc 0]) 11 fun t => WF 2 t = true := by
  refine r_run (r_set (d := 10) (d' := 1) (P := fun t => ∃ x, t = .str x ∧ Nm x) (qm_pb (a := [.loc 0]) (pm_arg (pm_opt rfl) pm_nil) (qm_mono q_word (Nat.le_refl _) fun t ⟨x, e, w⟩ => ⟨x, e, nm_wd w⟩)) (fun w ⟨x, ew, nx⟩ => ?_) (by omega))
  subst ew
  refine r_setp (t := .lst (oddA x)) (pm_lst (pm_arg pm_lit (pm_arg pm_lit (pm_arg pm_lit (pm_arg (pm_neg pm_lit) (pm_arg pm_lit (pm_arg (pm_opt rfl) (pm_arg (pm_int (x := .str x) (y := .str "A") (pm_opt rfl) pm_lit (add_str (by have := nm_len nx; show _ + 1 ≤ 2000; omega))) (pm_arg pm_lit (pm_arg pm_lit (pm_arg pm_lit (pm_arg pm_lit (pm_arg (pm_tup pm_nil (by decide)) (pm_arg (pm_tup (pm_arg (pm_tup pm_nil (by decide)) pm_nil) (by decide)) (pm_arg (pm_tup (pm_arg pm_lit pm_nil) (by decide)) (pm_arg (pm_lst pm_nil (by decide)) (pm_arg (pm_lst (pm_arg (pm_lst pm_nil (by decide)) pm_nil) (by decide)) pm_nil)))))))))))))))) (by show 16 ≤ 1000; decide)) ?_
  refine r_setp (t := .lst (oddA x ++ oddB x)) (pm_int (x := .lst (oddA x)) (y := .lst (oddB x)) (pm_opt rfl) (pm_lst (pm_arg (pm_lst (pm_arg (pm_tup pm_nil (by decide)) pm_nil) (by decide)) (pm_arg (pm_lst (pm_arg (pm_opt rfl) (pm_arg pm_lit pm_nil)) (by show 2 ≤ 1000; decide)) (pm_arg pm_dnew (pm_arg (pm_disp (pm_opt rfl) (pm_tup pm_nil (by decide)) rfl) (pm_arg (pm_disp pm_lit pm_lit rfl) (pm_arg (pm_disp pm_lit pm_lit rfl) (pm_arg (pm_disp pm_lit pm_lit rfl) (pm_arg (pm_dispN pm_lit) (pm_arg (pm_lst (pm_arg pm_dnew pm_nil) (by decide)) (pm_arg (pm_tup (pm_arg (pm_opt rfl) pm_nil) (by show 1 ≤ 1000; decide)) pm_nil)))))))))) (by show 10 ≤ 1000; decide)) (cat_lst (by show 16 + 10 ≤ 2000; decide))) ?_
  refine r_ret (r_one (xs := oddA x ++ oddB x) (pm_arg (pm_opt rfl) (pm_arg (pm_opt rfl) pm_nil)) (by intro h; cases h) (by show 26 ≤ 1000; decide) fun t ht => ?_)
  rcases List.mem_append.mp ht with h | h
  · exact oddA_wf nx t h
  · exact oddB_wf nx t h
theorem wf_put {f : Nat} {us : List (T × T)} {k v : T} (h : ∀ q ∈ us, WF f q.1 = true ∧ WF f q.2 = true) (nd : (us.map fun q => q.1.tk).Nodup) (l : us.length ≤ 3) (hk : WF f k = true) (hv : WF f v = true) (new : MB.dhas us k = false) : WF (f + 1) (.dct (us ++ [(k, v)])) = true := by
  show (((us ++ [(k, v)]).all fun q => WF f q.1 && WF f q.2) && decide (((us ++ [(k, v)]).map fun q => q.1.tk).Nodup ∧ (us ++ [(k, v)]).length ≤ 4)) = true
  rw [Bool.and_eq_true]
  refine ⟨List.all_eq_true.mpr fun q hq => ?_, decide_eq_true ⟨?_, by rw [List.length_append]; show _ + 1 ≤ 4; omega⟩⟩
  · rw [Bool.and_eq_true]
    rcases List.mem_append.mp hq with h' | h'
    · exact h q h'
    · rw [List.mem_singleton] at h'; subst h'; exact ⟨hk, hv⟩
  · rw [List.map_append, List.nodup_append]
    refine ⟨nd, by simp, fun a ha b hb => ?_⟩
    obtain ⟨q, hq, rfl⟩ := List.mem_map.mp ha
    have : b = k.tk := by simpa using hb
    subst this
    intro e
    unfold MB.dhas at new
    rw [List.any_eq_false] at new
    exact new q hq (decide_eq_true e)
theorem wf_dput {f : Nat} {us : List (T × T)} {k v : T} (h : ∀ q ∈ us, WF f q.1 = true ∧ WF f q.2 = true) (nd : (us.map fun q => q.1.tk).Nodup) (l : us.length ≤ 3) (hk : WF f k = true) (hv : WF f v = true) : WF (f + 1) (.dct (MB.dput us k v)) = true := by
  unfold MB.dput
  cases e : MB.dhas us k with
  | false =>
    rw [if_neg Bool.false_ne_true]
    exact wf_put h nd l hk hv e
  | true =>
    rw [if_pos rfl]
    have e1 : ((us.map fun p => if p.1.tk = k.tk then (p.1, v) else p).map fun q => q.1.tk) = us.map fun q => q.1.tk := by
      rw [List.map_map]
      refine List.map_congr_left fun p _ => ?_
      show (if p.1.tk = _ then (p.1, v) else p).1.tk = p.1.tk
      split <;> rfl
    show (((us.map fun p => if p.1.tk = k.tk then (p.1, v) else p).all fun q => WF f q.1 && WF f q.2) && decide (((us.map fun p => if p.1.tk = k.tk then (p.1, v) else p).map fun q => q.1.tk).Nodup ∧ (us.map fun p => if p.1.tk = k.tk then (p.1, v) else p).length ≤ 4)) = true
    rw [Bool.and_eq_true]
    refine ⟨List.all_eq_true.mpr fun q hq => ?_, decide_eq_true ⟨e1 ▸ nd, by rw [List.length_map]; omega⟩⟩
    obtain ⟨p, hp, rfl⟩ := List.mem_map.mp hq
    rw [Bool.and_eq_true]
    split
    · exact ⟨(h p hp).1, hv⟩
    · exact h p hp
/-! ### bent -/
def k_be : Nat → List T → M T
  | 0 => fun _ => nev
  | l + 1 => runW 6 (m__law_bent mTake d_pick (k_be l) d_odd)
def cbe : Nat → Nat
  | 0 => 0
  | f + 1 => 30 + cbe f
/-- the look at a list, with a draw -/
theorem r_ifl {ρ : Env} {x : T} {n : Int} (h0 : MB.rdS ρ 0 = some (.loc 0)) (h1 : MB.rdB ρ 1 = some x) (p : plain7 x = true) (n0 : 0 < n) (n1 : n < 1073741824) :
    Qm (mAndT (mTru (mB1 (isiT "list") (mVarB 1))) (mAndT (mCmpT .ne (mVarB 1) (mLst aNil)) (mCmpT .gt (mCall mTake (aCons (mVar 0) (aCons (mLit (.int n)) aNil))) (mLit (.int 0)))) ρ) 1 fun c => c = true → ∃ xs, x = .lst xs ∧ xs ≠ [] := by
  refine qm_pb (a := isLst x) (pm_bnd (pm_bnd (pm_opt h1) (pm_opt (isi_lst x p))) (pm_opt rfl)) ?_
  cases e : isLst x with
  | false => exact qm_f (qm_ret fun h => nomatch h)
  | true =>
    obtain ⟨xs, rfl⟩ := get_lst e
    refine qm_t (qm_pb (a := !xs.isEmpty) (pm_bnd (a := (.lst xs : T)) (pm_opt h1) (pm_bnd (a := (.lst [] : T)) (pm_lst pm_nil (by decide)) (pm_opt ?_))) ?_)
    · show Option.map (!·) (MB.eqT _ _) = _
      rw [eq_none (.inl trivial)]
      rfl
    cases xs with
    | nil => exact qm_f (qm_ret fun h => nomatch h)
    | cons q ks =>
      refine qm_t (qm_bnd (d := 1) (d' := 0) (P := isIx n.toNat) (qm_pb (a := [.loc 0, .int n]) (pm_arg (pm_opt h0) (pm_arg pm_lit pm_nil)) (q_take n n0 n1)) (fun t ⟨k, et, hk⟩ => ?_) (Nat.le_refl _))
      subst et
      exact qm_pb (a := (.int 0 : T)) pm_lit (qm_opt rfl fun _ => ⟨_, rfl, by simp⟩)
abbrev rBent : Env → M Fl := sRet (mIf (mAndT (mTru (mB1 (isiT "list") (mVarB 1))) (mCmpT .eq (mCall mTake (aCons (mVar 0) (aCons (mLit (.int 3)) (aNil)))) (mLit (.int 0)))) (mB1 tupW (mVarB 1)) (mCall d_odd (aCons (mVar 0) (aNil))))
theorem it_pl {t : T} (h : IT t) : MB.T.pl 7 t = true := by
  have hw := h.1
  have hi := h.2
  cases t with
  | str x =>
    have hw := (show (decide (x.length ≤ 1000) && x.cps.all (· < 0x110000)) = true from hw)
    rw [Bool.and_eq_true] at hw
    simpa [MB.T.pl] using hw.2
  | non => rfl
  | bl b => rfl
  | int i => rfl
  | lst ts => cases hi
  | tup ts => cases hi
  | dct ts => cases hi
  | _ => cases hw
theorem r_brest {x : T} {ρ : Env} (h0 : MB.rdS ρ 0 = some (.loc 0)) (h1 : MB.rdB ρ 1 = some x) (p : plain7 x = true) (hx : ∀ ts, x = .lst ts → ∀ t ∈ ts, IT t) : Qm (rBent ρ) 12 (Rt fun t => WF 2 t = true) := by
  refine r_ret (r_mif (d := 1) (d' := 11) (F := fun c => c = true → isLst x = true) ?_ (fun hF => ?_) (fun _ => qm_pb (a := [.loc 0]) (pm_arg (pm_opt h0) pm_nil) q_odd) (by omega))
  · refine qm_pb (a := isLst x) (pm_bnd (pm_bnd (pm_opt h1) (pm_opt (isi_lst x p))) (pm_opt rfl)) ?_
    cases e : isLst x with
    | false => exact qm_f (qm_ret fun h => h)
    | true =>
      refine qm_t (qm_bnd (d := 1) (d' := 0) (P := isIx 3) (qm_pb (a := [.loc 0, .int 3]) (pm_arg (pm_opt h0) (pm_arg pm_lit pm_nil)) (q_take 3 (by decide) (by decide))) (fun t ⟨k, et, hk⟩ => ?_) (Nat.le_refl _))
      subst et
      exact qm_pb (a := (.int 0 : T)) pm_lit (qm_opt (eqT_int _ _) fun _ => rfl)
  · obtain ⟨ts, rfl⟩ := get_lst (hF rfl)
    refine qm_pm (a := (.tup ts : T)) (pm_bnd (a := (.lst ts : T)) (pm_opt h1) (pm_opt rfl)) ?_
    show (ts.all (WF 1) && ts.all (MB.T.pl 7)) = true
    rw [Bool.and_eq_true, List.all_eq_true, List.all_eq_true]
    exact ⟨fun t ht => (hx ts rfl t ht).1, fun t ht => it_pl (hx ts rfl t ht)⟩
theorem q_bent_item {l : Nat} {x : T} (h : IT x) : Qm (k_be (l + 1) [.loc 0, x]) 12 fun t => WF 2 t = true := by
  have p := wf_plain h.1
  show Qm (runW 6 (m__law_bent mTake d_pick (k_be l) d_odd) _) _ _
  refine r_run ?_
  have t1 : Pm (mTru (mB1 (isiT "dict") (mVarB 1)) (startE 6 [.loc 0, x])) (isDct x) := pm_bnd (pm_bnd (pm_opt rfl) (pm_opt (isi_dct x p))) (pm_opt rfl)
  have t2 : Pm (mTru (mB1 (isiT "list") (mVarB 1)) (startE 6 [.loc 0, x])) (isLst x) := pm_bnd (pm_bnd (pm_opt rfl) (pm_opt (isi_lst x p))) (pm_opt rfl)
  rw [it_dct h] at t1
  rw [it_lst h] at t2
  exact r_ifn (pm_andf t1) (r_ifn (pm_andf t2) (r_brest rfl rfl p fun ts e => by subst e; exact Bool.noConfusion (it_lst h)))
end Wp

end -- LF
section -- LG
set_option linter.all false
set_option maxRecDepth 100000
set_option maxHeartbeats 1000000
/-! Plain: _law_bent. -/
namespace Wp
open PySem PySem.Spec L2
def bkeys : List T := [.str "A", .str "", .str "abcdefghi", .int 1, .non, .str "a1", .tup [], .str "zz"]
theorem bkeys_ok : ∀ k ∈ bkeys, WF 1 k = true ∧ (k.key.isSome = true ∨ (oddK k = true ∧ k.tk = none)) := by
  unfold bkeys
  simp only [List.forall_mem_cons]
  exact ⟨⟨by decide +kernel, .inl rfl⟩, ⟨by decide +kernel, .inl rfl⟩, ⟨by decide +kernel, .inl rfl⟩, ⟨rfl, .inl rfl⟩, ⟨rfl, .inr ⟨rfl, rfl⟩⟩, ⟨by decide +kernel, .inl rfl⟩, ⟨rfl, .inr ⟨rfl, rfl⟩⟩, ⟨by decide +kernel, .inl rfl⟩, fun _ h => nomatch h⟩
/-- an odd key is put behind texts, or a key is put -/
theorem putX_ok {f : Nat} {us : List (T × T)} {l : List Str} {k v : T} (e : us.map (·.1) = l.map .str) (h : ∀ q ∈ us, WF f q.1 = true ∧ WF f q.2 = true) (nd : l.Nodup) (l3 : us.length ≤ 3) (wk : WF f k = true) (hk : k.key.isSome = true ∨ (oddK k = true ∧ k.tk = none)) (hv : WF f v = true) : ∃ s x, putX k v us = some s ∧ (s = .ow x ∨ s = .sh x) ∧ WF (f + 1) x = true := by
  have lz : us.length < sizeLine := by rw [sizeLine_eq]; omega
  rcases hk with hk | ⟨ho, ht⟩
  · refine ⟨.ow (.dct (MB.dput us k v)), _, ?_, .inl rfl, wf_dput h (ks_tk e nd) l3 wk hv⟩
    unfold putX
    rw [if_pos lz, if_pos hk]
  · have hn : ¬ k.key.isSome = true := by
      intro z
      cases k <;> first | (cases z; done) | (cases ho; done) | (cases ht; done)
    refine ⟨.sh (.dct (us ++ [(k, v)])), _, ?_, .inr rfl, wf_put h (ks_tk e nd) l3 wk hv ?_⟩
    · unfold putX
      have hs : (us.all fun q => isTxt q.1) = true := by
        rw [List.all_eq_true]
        intro q hq
        have : q.1 ∈ l.map MB.T.str := e ▸ List.mem_map_of_mem hq
        obtain ⟨x, _, ex⟩ := List.mem_map.mp this
        rw [← ex]; rfl
      rw [if_pos lz, if_neg hn, ho, hs]
      rfl
    · unfold MB.dhas
      rw [List.any_eq_false]
      intro q hq z
      have : q.1 ∈ l.map MB.T.str := e ▸ List.mem_map_of_mem hq
      obtain ⟨x, _, ex⟩ := List.mem_map.mp this
      have z := of_decide_eq_true z
      rw [ht, ← ex] at z
      cases z
theorem q_bent : ∀ (f l : Nat), f + 1 ≤ l → ∀ x, Th 3 f x → Qm (k_be l [.loc 0, x]) (cbe f) fun t => WF (f + 2) t = true
  | 0, _, _, x, h => by obtain ⟨g, e⟩ := h.pos; cases e
  | f + 1, 0, hl, _, _ => by omega
  | f + 1, l + 1, hl, x, h => by
    have p := th_plain h
    show Qm (runW 6 (m__law_bent mTake d_pick (k_be l) d_odd) _) (30 + cbe f) _
    refine r_run ?_
    refine r_ifr (d := 1) (d' := 29 + cbe f) (r_ifd (x := x) rfl rfl p (fun kvs e => ?_) (by decide) (by decide)) (fun hF => ?_) (fun _ => ?_) (by omega)
    · subst e
      obtain ⟨ns, e, _⟩ := th_dct h
      exact ks_some e
    · obtain ⟨kvs, rfl, hne⟩ := hF rfl
      obtain ⟨ns, e, l4, nm, hv⟩ := th_dct h
      have len := ks_len e
      have wf : ∀ q ∈ kvs, WF (f + 2) q.1 = true ∧ WF (f + 2) q.2 = true := fun q hq => by
        have := (wf_dct (th_rs (m := 3) (by decide) h (g := f + 3) (n := f + 1) (by omega) (by omega)).wf).1 q hq
        exact this
      refine r_seq (d := 1) (d' := 28 + cbe f) (I := fun ρ => ∃ y, y ∈ ns ∧ ρ = [some (.sh (.loc 0)), some (.sh (.dct kvs)), none, none, some (.ow (.dct kvs)), some (.sh (.str y))]) ?_ (fun ρ ⟨y, hy, er⟩ => ?_) (by omega)
      · refine qm_pb (a := (.dct kvs : T)) (pm_bnd (a := (.dct kvs : T)) (pm_bnd (a := (.dct kvs : T)) (pm_opt rfl) (pm_opt (dictW_of (ks_some e)))) (pm_opt rfl)) ?_
        have ls : listW (.dct kvs) = some (.lst (ns.map .str)) := by
          show (if (kvs.all fun q => q.1.key.isSome) = true then some (MB.T.lst (kvs.map (·.1))) else none) = _
          rw [if_pos (ks_some e), e]
        refine qm_bnd (d := 1) (d' := 0) (P := fun t => ∃ y, y ∈ ns ∧ t = .str y) (r_one (xs := ns.map .str) (pm_arg (pm_opt rfl) (pm_arg (pm_bnd (a := (.dct kvs : T)) (pm_opt rfl) (pm_opt ls)) pm_nil)) (fun z => ?_) (by rw [List.length_map]; omega) fun t ht => ?_) (fun t ⟨y, hy, et⟩ => ?_) (by omega)
        · have := congrArg List.length z
          rw [List.length_map, ← len] at this
          exact hne (List.eq_nil_of_length_eq_zero this)
        · obtain ⟨y, hy, rfl⟩ := List.mem_map.mp ht
          exact ⟨y, hy, rfl⟩
        · subst et
          exact qm_ret ⟨_, rfl, y, hy, rfl⟩
      subst er
      obtain ⟨q, hq, eq, dg, dg2⟩ := ks_get e nm hy
      refine r_set (d := 1) (d' := 27 + cbe f) (P := isIx 6) (qm_pb (a := [.loc 0, .int 6]) (pm_arg (pm_opt rfl) (pm_arg pm_lit pm_nil)) (q_take 6 (by decide) (by decide))) (fun t ⟨k, et, hk⟩ => ?_) (by omega)
      subst et
      refine r_seq (d := 27 + cbe f) (d' := 0) (I := fun ρ => ∃ s x, ρ = [some (.sh (.loc 0)), some (.sh (.dct kvs)), some (.sh (.int k)), none, some s, some (.sh (.str y))] ∧ (s = .ow x ∨ s = .sh x) ∧ WF (f + 3) x = true) ?_ (fun ρ ⟨s, x, er, hs, hw⟩ => ?_) (by omega)
      · have c1 : Pm (mCmpT .eq (mVarB 2) (mLit (.int 0)) [some (.sh (.loc 0)), some (.sh (.dct kvs)), some (.sh (.int k)), none, some (.ow (.dct kvs)), some (.sh (.str y))]) (decide ((k : Int) = 0)) := pm_bnd (a := (.int k : T)) (pm_opt rfl) (pm_bnd (a := (.int 0 : T)) pm_lit (pm_opt (eqT_int _ _)))
        refine qm_pb c1 ?_
        cases decide ((k : Int) = 0) with
        | true =>
          refine qm_t (qm_pb (a := kvs) (pm_opt rfl) (qm_pb (a := (.str y : T)) (pm_opt rfl) (qm_pb (a := (q.2, MB.ddrop kvs (.str y))) (pm_opt ?_) ?_)))
          · unfold popW
            rw [ks_some e, dg2]
            rfl
          · refine qm_bnd (d := 1) (d' := 0) (P := fun k => k ∈ bkeys) (r_one (xs := bkeys) (pm_arg (pm_opt rfl) (pm_arg (pm_lst (pm_arg pm_lit (pm_arg pm_lit (pm_arg pm_lit (pm_arg pm_lit (pm_arg pm_lit (pm_arg pm_lit (pm_arg (pm_tup pm_nil (by decide)) (pm_arg pm_lit pm_nil)))))))) (by decide)) pm_nil)) (fun h => nomatch h) (by decide) fun t h => h) (fun k' hk' => ?_) (by omega)
            obtain ⟨wk, ok⟩ := bkeys_ok k' hk'
            obtain ⟨s, x, es, hs, hw⟩ := putX_ok (f := f + 2) (k := k') (v := q.2) (ddrop_ks e y) (fun p hp => wf p (List.mem_filter.mp hp).1) (nms_filter nm _).nd (by
              have := ks_len (ddrop_ks e y)
              have := len_filter hy
              omega) (wf_mono wk (by omega)) ok (wf q hq).2
            exact qm_opt (a := Fl.nx [some (.sh (.loc 0)), some (.sh (.dct kvs)), some (.sh (.int k)), none, some s, some (.sh (.str y))]) (by rw [es]; rfl) ⟨_, rfl, s, x, rfl, hs, hw⟩
        | false =>
          refine qm_f (qm_bnd (d := cbe f) (d' := 0) (P := fun t => WF (f + 2) t = true) (qm_pb (a := [.loc 0, q.2]) (pm_arg (pm_opt rfl) (pm_arg (pm_bnd (a := (.dct kvs : T)) (pm_opt rfl) (pm_bnd (a := (.str y : T)) (pm_opt rfl) (pm_opt dg))) pm_nil)) (q_bent f l (by omega) q.2 (hv q hq))) (fun v hv' => ?_) (by omega))
          refine qm_pb (a := kvs) (pm_opt rfl) (qm_pb (a := (.str y : T)) (pm_opt rfl) (qm_opt (a := Fl.nx [some (.sh (.loc 0)), some (.sh (.dct kvs)), some (.sh (.int k)), none, some (.ow (.dct (MB.dput kvs (.str y) v))), some (.sh (.str y))]) ?_ ⟨_, rfl, _, _, rfl, .inl rfl, ?_⟩))
          · unfold putW
            rw [ks_some e, decide_eq_true (by rw [sizeLine_eq]; omega : kvs.length < sizeLine)]
            rfl
          · have dp := dput_old e hy (v := v)
            have nmk := dp.1
            show ((((MB.dput kvs (.str y) v)).all fun q => WF (f + 2) q.1 && WF (f + 2) q.2) && decide (((MB.dput kvs (.str y) v).map fun q => q.1.tk).Nodup ∧ (MB.dput kvs (.str y) v).length ≤ 4)) = true
            rw [Bool.and_eq_true]
            refine ⟨List.all_eq_true.mpr fun p hp => ?_, decide_eq_true ⟨ks_tk nmk nm.nd, by rw [ks_len nmk]; exact l4⟩⟩
            rw [Bool.and_eq_true]
            refine ⟨?_, ?_⟩
            · have : p.1 ∈ ns.map MB.T.str := nmk ▸ List.mem_map_of_mem hp
              obtain ⟨z, hz, ez⟩ := List.mem_map.mp this
              rw [← ez]
              exact nm_wf (nm.nm z hz)
            · rcases dp.2 p hp with e2 | ⟨p', hp', e2⟩
              · rw [e2]; exact hv'
              · rw [← e2]; exact (wf p' hp').2
      · subst er
        have er : MB.rdB [some (.sh (.loc 0)), some (.sh (.dct kvs)), some (.sh (.int k)), none, some s, some (.sh (.str y))] 4 = some x := by
          rcases hs with rfl | rfl <;> rfl
        exact qm_pm (a := Fl.rt x) (pm_opt (by rw [er]; rfl)) ⟨_, rfl, hw⟩
    · have items : ∀ ts, x = .lst ts → ts.length ≤ 3 ∧ ∀ t ∈ ts, IT t := fun ts e => by subst e; exact th_lst h
      refine r_ifr (d := 1) (d' := 20) (r_ifl (x := x) rfl rfl p (by decide) (by decide)) (fun hF => ?_) (fun _ => ?_) (by omega)
      · obtain ⟨xs, rfl, hne⟩ := hF rfl
        obtain ⟨lx, hx⟩ := items xs rfl
        refine r_set (d := 1) (d' := 19) (r_len (i := 1) (xs := xs) rfl rfl hne (by omega)) (fun t ⟨k, et, hk⟩ => ?_) (by omega)
        subst et
        obtain ⟨l, rfl⟩ : ∃ l', l = l' + 1 := ⟨l - 1, by omega⟩
        refine r_ret ?_
        refine qm_mono (d := 12) (P := fun t => ∃ ys, t = .lst ys ∧ ys.length ≤ 2 * xs.length + 1 ∧ ∀ y ∈ ys, y ∈ xs ∨ WF 2 y = true) ?_ (by omega) fun t ⟨ys, ey, ly, hy⟩ => ?_
        · refine r_swap (d := 12) (P := fun t => WF 2 t = true) (xs := xs) (k := (k : Int)) (j := 3) rfl rfl ?_ (by omega)
          have ea : atI xs (k : Int) = some xs[k] := atI_nat (List.getElem?_eq_getElem hk)
          have qi : Qm (k_be (l + 1) [.loc 0, xs[k]]) 12 fun t => WF 2 t = true := q_bent_item (hx _ (List.getElem_mem hk))
          generalize k_be (l + 1) = dn at qi ⊢
          refine qm_pb (a := [.loc 0, xs[k]]) ?_ qi
          refine pm_arg (pm_opt rfl) (pm_arg ?_ pm_nil)
          exact pm_bnd (a := (.lst xs : T)) (pm_opt rfl) (pm_bnd (a := (.int k : T)) (pm_opt rfl) (pm_opt ea))
        · subst ey
          show (ys.all (WF (f + 2)) && decide (ys.length ≤ 1000)) = true
          rw [Bool.and_eq_true, List.all_eq_true]
          refine ⟨fun y hy' => (hy y hy').elim (fun h => wf_mono (hx y h).1 (by omega)) fun h => wf_mono h (by omega), decide_eq_true (by omega)⟩
      · exact qm_mono (r_brest (x := x) rfl rfl p fun ts e => (items ts e).2) (by omega) fun fl ⟨t, e, h⟩ => ⟨t, e, wf_mono h (by omega)⟩
end Wp

end -- LG
section -- LH
set_option linter.all false
set_option maxRecDepth 100000
set_option maxHeartbeats 1000000
/-! Plain: the law holds at every turn. -/
namespace Wp
open PySem PySem.Spec L2
/-- the state of the law's own names -/
abbrev envL (o0 o2 o3 o4 o5 o6 o7 o8 : Option MB.Sl) : Env := [o0, some (.sh (.loc 0)), o2, o3, o4, o5, o6, o7, o8]
def InvL (_ : Nat) (ρ : Env) : Prop := ∃ o0 o2 o3 o4 o5 o6 o7 o8, ρ = envL o0 o2 o3 o4 o5 o6 o7 o8
abbrev turnW : Env → M Fl := m_law d_words mTake (k_td 9).1 (k_tu 8) d_odd (k_ne 8) (k_be 8) (d_pair 8) (d_kof 8) d_lkind (k_th 8) (r_kof 8)
def costL : Nat := 1000000
theorem cth_small : cth 4 ≤ 200000 ∧ cth 2 ≤ 200000 ∧ ∀ n, n ≤ 4 → cth n ≤ 200000 := by
  refine ⟨by decide, by decide, fun n h => ?_⟩
  have : n = 0 ∨ n = 1 ∨ n = 2 ∨ n = 3 ∨ n = 4 := by omega
  rcases this with rfl | rfl | rfl | rfl | rfl <;> decide
theorem ctu5 : ctu 5 = 1364 := by decide
theorem cbe5 : cbe 5 = 150 := by decide
theorem any_tr (ts : List T) : ((ts.map fun _ => (.bl true : T)).any fun y => y.eqv (.bl false)) = false := by
  rw [List.any_eq_false]
  intro y hy
  obtain ⟨_, _, rfl⟩ := List.mem_map.mp hy
  decide
theorem no_false (ts : List T) : MB.memT true (.bl false) (ts.map fun _ => (.bl true : T)) = some false := by
  unfold MB.memT
  rw [if_pos, any_tr]
  rw [Bool.or_eq_true]
  refine .inl ?_
  show (true && (ts.map fun _ => (.bl true : T)).all MB.T.atom) = true
  rw [Bool.true_and, List.all_eq_true]
  intro t ht
  obtain ⟨_, _, rfl⟩ := List.mem_map.mp ht
  rfl
theorem pm_kne {f l : Nat} {x : T} {A B : Env → M T} {ρ : Env} (ha : Pm (A ρ) (.str (kindT x))) (hb : Pm (B ρ) (.str (kindT x))) : Pm (mCmpT .ne A B ρ) false := pm_bnd ha (pm_bnd hb (pm_opt (by
  show some (!decide (kindT x = kindT x)) = some false
  rw [decide_eq_true rfl]; rfl)))
theorem q_turn_of {dw dth dtu dod dne dbe dpa dko dlk dis : List T → M T} {rko : List T → M Unit}
    (hw : ∀ k : Int, 1 ≤ k → k ≤ 4 → Qm (dw [.loc 0, .int k]) 40 fun t => ∃ l : List Str, t = .lst (l.map .str) ∧ l.length = k.toNat ∧ Nms l)
    (hth : ∀ (ns : List Str) (k : Nat), Nms ns → ns.length ≤ 4 → k ≤ 4 → Qm (dth [.loc 0, .lst (ns.map .str), .int k, .bl true]) 200000 (Th 3 (k + 1)))
    (htu : ∀ x, Th 3 5 x → Qm (dtu [.loc 0, x]) 2000 (Th 3 5))
    (hod : Qm (dod [.loc 0]) 11 fun t => WF 2 t = true)
    (hne : ∀ x, Th 3 5 x → Qm (dne [.loc 0, x]) 100 (Th 7 5))
    (hbe : ∀ x, Th 3 5 x → Qm (dbe [.loc 0, x]) 200 fun t => WF 7 t = true)
    (hpa : ∀ x y, WF 7 x = true → WF 7 y = true → Pm (dpa [x, y]) (.bl true))
    (hko : ∀ x, Rs 7 60 x → Pm (dko [x]) (.str (kindT x)))
    (hlk : ∀ x, Rs 7 60 x → Pm (dlk [x]) (.str (kindT x)))
    (his : ∀ x, WF 7 x = true → Pm (dis [x, .int 60, .bl true]) (.bl (standsB 7 60 true x)))
    (hrk : ∀ x, WF 7 x = true → standsB 7 60 true x = false → Pm (rko [x]) ())
    (t : T) (j : Nat) (ρ : Env) (hi : InvL j ρ) : Qm (bnd (opt ((gN 2) t ρ)) (m_law dw mTake dth dtu dod dne dbe dpa dko dlk dis rko)) costL (Nx (InvL (j + 1))) := by
  obtain ⟨o0, o2, o3, o4, o5, o6, o7, o8, rfl⟩ := hi
  refine qm_pb (a := envL o0 (some (.sh t)) o3 o4 o5 o6 o7 o8) (pm_opt rfl) ?_
  unfold m_law costL
  -- names
  refine r_set (d := 41) (d' := 999000) (P := fun t => ∃ l : List Str, t = .lst (l.map .str) ∧ l.length ≤ 4 ∧ Nms l) ?_ (fun w ⟨ns, ew, l4, nm⟩ => ?_) (by omega)
  · refine qm_bnd (d := 1) (d' := 40) (P := fun ts => ∃ k : Nat, ts = [.loc 0, .int (1 + (k : Int))] ∧ k < 4) (qm_pb (a := (.loc 0 : T)) (pm_opt rfl) (qm_bnd (d := 1) (d' := 0) (P := fun ts => ∃ k : Nat, ts = [.int (1 + (k : Int))] ∧ k < 4) (qm_bnd (d := 1) (d' := 0) (P := fun t => ∃ k : Nat, t = .int (1 + (k : Int)) ∧ k < 4) (qm_pb (a := (.int 1 : T)) pm_lit (qm_bnd (d := 1) (d' := 0) (P := isIx 4) (qm_pb (a := [.loc 0, .int 4]) (pm_arg (pm_opt rfl) (pm_arg pm_lit pm_nil)) (q_take 4 (by decide) (by decide))) (fun t ⟨k, et, hk⟩ => ?_) (by omega))) (fun t ⟨k, et, hk⟩ => ?_) (by omega)) (fun ts ⟨k, et, hk⟩ => ?_) (by omega))) (fun ts ⟨k, et, hk⟩ => ?_) (by omega)
    · subst et; exact qm_opt rfl ⟨k, rfl, hk⟩
    · subst et; exact qm_pb (a := ([] : List T)) pm_nil (qm_ret ⟨k, rfl, hk⟩)
    · subst et; exact qm_ret ⟨k, rfl, hk⟩
    · subst et
      exact qm_mono (hw (1 + (k : Int)) (by omega) (by omega)) (Nat.le_refl _) fun t ⟨l, e, hl, nm⟩ => ⟨l, e, by omega, nm⟩
  subst ew
  -- the thing
  refine r_set (d := 200001) (d' := 700000) (P := fun t => Th 3 5 t) ?_ (fun x hx => ?_) (by omega)
  · refine qm_bnd (d := 1) (d' := 200000) (P := fun ts => ∃ k : Nat, ts = [.loc 0, .lst (ns.map .str), .int k, .bl true] ∧ k < 5) (qm_pb (a := (.loc 0 : T)) (pm_opt rfl) (qm_bnd (d := 1) (d' := 0) (P := fun ts => ∃ k : Nat, ts = [.lst (ns.map .str), .int k, .bl true] ∧ k < 5) (qm_pb (a := (.lst (ns.map .str) : T)) (pm_opt rfl) (qm_bnd (d := 1) (d' := 0) (P := fun ts => ∃ k : Nat, ts = [.int k, .bl true] ∧ k < 5) (qm_bnd (d := 1) (d' := 0) (P := isIx 5) (qm_pb (a := [.loc 0, .int 5]) (pm_arg (pm_opt rfl) (pm_arg pm_lit pm_nil)) (q_take 5 (by decide) (by decide))) (fun t ⟨k, et, hk⟩ => ?_) (by omega)) (fun ts ⟨k, et, hk⟩ => ?_) (by omega))) (fun ts ⟨k, et, hk⟩ => ?_) (by omega))) (fun ts ⟨k, et, hk⟩ => ?_) (by omega)
    · subst et; exact qm_pb (a := [.bl true]) (pm_arg pm_lit pm_nil) (qm_ret ⟨k, rfl, hk⟩)
    · subst et; exact qm_ret ⟨k, rfl, hk⟩
    · subst et; exact qm_ret ⟨k, rfl, hk⟩
    · subst et
      exact qm_mono (hth ns k nm l4 (by omega)) (Nat.le_refl _) fun t h => h.mono (Nat.le_refl _) (by omega)
  -- turned, odd
  refine r_seq (d := 2011) (d' := 600000) (I := fun ρ => ∃ y z, ρ = envL o0 (some (.sh t)) (some (.sh (.lst (ns.map .str)))) (some (.sh x)) o5 (some (.sh y)) (some (.sh z)) o8 ∧ Th 3 5 y ∧ WF 2 z = true) ?_ (fun ρ ⟨y, z, er, hy, hz⟩ => ?_) (by omega)
  · refine qm_bnd (d := 2000) (d' := 11) (P := Th 3 5) (qm_pb (a := [.loc 0, x]) (pm_arg (pm_opt rfl) (pm_arg (pm_opt rfl) pm_nil)) (htu x hx)) (fun y hy => ?_) (Nat.le_refl _)
    refine qm_bnd (d := 11) (d' := 0) (P := fun t => WF 2 t = true) (qm_pb (a := [.loc 0]) (pm_arg (pm_opt rfl) pm_nil) hod) (fun z hz => ?_) (Nat.le_refl _)
    exact qm_ret ⟨_, rfl, y, z, rfl, hy, hz⟩
  subst er
  -- near, another
  refine r_set (d := 200100) (d' := 300000) (P := fun t => ∃ u v, t = .lst [y, u, v] ∧ Th 7 5 u ∧ Th 3 3 v) ?_ (fun w ⟨u, v, ew, hu, hv⟩ => ?_) (by omega)
  · refine qm_bnd (d := 200100) (d' := 0) (P := fun ts => ∃ u v, ts = [y, u, v] ∧ Th 7 5 u ∧ Th 3 3 v) (qm_pb (a := y) (pm_opt rfl) (qm_bnd (d := 200100) (d' := 0) (P := fun ts => ∃ u v, ts = [u, v] ∧ Th 7 5 u ∧ Th 3 3 v) (qm_bnd (d := 100) (d' := 200000) (P := Th 7 5) (qm_pb (a := [.loc 0, y]) (pm_arg (pm_opt rfl) (pm_arg (pm_opt rfl) pm_nil)) (hne y hy)) (fun u hu => ?_) (Nat.le_refl _)) (fun ts ⟨u, v, et, hu, hv⟩ => ?_) (Nat.le_refl _))) (fun ts ⟨u, v, et, hu, hv⟩ => ?_) (Nat.le_refl _)
    · refine qm_bnd (d := 200000) (d' := 0) (P := fun ts => ∃ v, ts = [v] ∧ Th 3 3 v) (qm_bnd (d := 200000) (d' := 0) (P := Th 3 3) (qm_pb (a := [.loc 0, .lst (ns.map .str), .int (2 : Nat), .bl true]) (pm_arg (pm_opt rfl) (pm_arg (pm_opt rfl) (pm_arg pm_lit (pm_arg pm_lit pm_nil)))) (hth ns 2 nm l4 (by omega))) (fun v hv => qm_pb (a := ([] : List T)) pm_nil (qm_ret ⟨v, rfl, hv⟩)) (Nat.le_refl _)) (fun ts ⟨v, et, hv⟩ => ?_) (Nat.le_refl _)
      subst et
      exact qm_ret ⟨u, v, rfl, hu, hv⟩
    · subst et; exact qm_ret ⟨u, v, rfl, hu, hv⟩
    · subst et; exact qm_opt (if_pos (by show 3 ≤ 1000; decide)) ⟨u, v, rfl, hu, hv⟩
  subst ew
  -- bent
  refine r_set (d := 200) (d' := 100000) (P := fun t => ∃ s, t = .lst [y, u, v, z, s] ∧ WF 7 s = true) ?_ (fun w ⟨s, ew, hs⟩ => ?_) (by omega)
  · refine qm_pb (a := (.lst [y, u, v] : T)) (pm_opt rfl) (qm_bnd (d := 200) (d' := 0) (P := fun t => ∃ s, t = .lst [z, s] ∧ WF 7 s = true) (qm_bnd (d := 200) (d' := 0) (P := fun ts => ∃ s, ts = [z, s] ∧ WF 7 s = true) (qm_pb (a := z) (pm_opt rfl) (qm_bnd (d := 200) (d' := 0) (P := fun ts => ∃ s, ts = [s] ∧ WF 7 s = true) (qm_bnd (d := 200) (d' := 0) (P := fun t => WF 7 t = true) (qm_pb (a := [.loc 0, x]) (pm_arg (pm_opt rfl) (pm_arg (pm_opt rfl) pm_nil)) (hbe x hx)) (fun s hs => qm_pb (a := ([] : List T)) pm_nil (qm_ret ⟨s, rfl, hs⟩)) (Nat.le_refl _)) (fun ts ⟨s, et, hs⟩ => ?_) (Nat.le_refl _))) (fun ts ⟨s, et, hs⟩ => ?_) (Nat.le_refl _)) (fun t ⟨s, et, hs⟩ => ?_) (Nat.le_refl _))
    · subst et; exact qm_ret ⟨s, rfl, hs⟩
    · subst et; exact qm_opt (if_pos (by show 2 ≤ 1000; decide)) ⟨s, rfl, hs⟩
    · subst et; exact qm_opt (cat_lst (by show 3 + 2 ≤ 2000; decide)) ⟨s, rfl, hs⟩
  subst ew
  -- what the turn looks at
  let ρ1 := envL o0 (some (.sh t)) (some (.sh (.lst (ns.map .str)))) (some (.sh x)) (some (.sh (.lst [y, u, v, z, s]))) (some (.sh y)) (some (.sh z)) o8
  have rx : Rs 7 60 x := th_rs (by decide) hx (by omega) (by omega)
  have rv : Rs 7 60 v := th_rs (by decide) hv (by omega) (by omega)
  have ry : Rs 7 60 y := th_rs (by decide) hy (by omega) (by omega)
  have ru : Rs 7 60 u := th_rs (by decide) hu (by omega) (by omega)
  have wz : WF 7 z = true := wf_mono hz (by omega)
  have all : ∀ e ∈ [y, u, v, z, s], WF 7 e = true := by
    simp only [List.forall_mem_cons]
    exact ⟨ry.wf, ru.wf, rv.wf, wz, hs, fun _ h => nomatch h⟩
  have c1 : Pm (mCmpT .inn (mLit (.bl false)) (mLc [8] (iL (mVar 5)) (gN 8) cYes (mCall dpa (aCons (mVar 4) (aCons (mVar 8) aNil)))) ρ1) false := by
    refine pm_bnd (a := (.bl false : T)) pm_lit (pm_bnd (a := (.lst ([y, u, v, z, s].filterMap fun _ => some (.bl true)) : T)) (pm_lc (pm_bnd (a := (.lst [y, u, v, z, s] : T)) (pm_opt rfl) (pm_opt rfl)) fun e he => ?_) (pm_opt ?_))
    · exact pm_bnd (pm_opt rfl) (pm_bnd (a := true) pm_ret (pm_t (pm_bnd (a := (.bl true : T)) (pm_bnd (a := [x, e]) (pm_arg (pm_opt rfl) (pm_arg (pm_opt rfl) pm_nil)) (hpa x e rx.wf (all e he))) pm_ret)))
    · rw [filterMap_some]
      exact no_false [y, u, v, z, s]
  have c2 : Pm (mOrT (mCmpT .ne (mCall dko (aCons (mVar 4) aNil)) (mCall dlk (aCons (mVar 4) aNil))) (mCmpT .ne (mCallP permI dko (aCons (mIx (mVarB 5) (mLit (.int 2))) aNil)) (mCall dlk (aCons (mIx (mVarB 5) (mLit (.int 2))) aNil))) ρ1) (false || false) := by
    have ix : Pm (mIx (mVarB 5) (mLit (.int 2)) ρ1) v := pm_bnd (a := (.lst [y, u, v, z, s] : T)) (pm_opt rfl) (pm_bnd (a := (.int 2 : T)) pm_lit (pm_opt (atI_nat (j := 2) rfl)))
    refine pm_or ?_ fun _ => ?_
    · exact pm_kne (f := 0) (l := 0) (pm_bnd (a := [x]) (pm_arg (pm_opt rfl) pm_nil) (hko x rx)) (pm_bnd (a := [x]) (pm_arg (pm_opt rfl) pm_nil) (hlk x rx))
    · exact pm_kne (f := 0) (l := 0) (pm_bnd (a := [v]) (pm_arg ix pm_nil) (hko v rv)) (pm_bnd (a := [v]) (pm_arg ix pm_nil) (hlk v rv))
  have c3 : Pm (mAndT (mNotT (mTru (mCall dis (aCons (mVar 7) (aCons (mLit (.int 60)) (aCons (mLit (.bl true)) aNil)))))) (mNotT (mTru (mBad rko (aCons (mVar 7) aNil)))) ρ1) false := by
    have h1 : Pm (mNotT (mTru (mCall dis (aCons (mVar 7) (aCons (mLit (.int 60)) (aCons (mLit (.bl true)) aNil))))) ρ1) (!standsB 7 60 true z) :=
      pm_bnd (a := standsB 7 60 true z) (pm_bnd (a := (.bl (standsB 7 60 true z) : T)) (pm_bnd (a := [z, .int 60, .bl true]) (pm_arg (pm_opt rfl) (pm_arg pm_lit (pm_arg pm_lit pm_nil))) (his z wz)) (pm_opt rfl)) pm_ret
    refine pm_bnd h1 ?_
    cases e : standsB 7 60 true z with
    | true => exact pm_f pm_ret
    | false => exact pm_t (pm_bnd (a := true) (pm_bnd (a := (.bl true : T)) (pm_bnd (a := [z]) (pm_arg (pm_opt rfl) pm_nil) (pm_bnd (a := ()) (hrk z wz e) pm_ret)) (pm_opt rfl)) pm_ret)
  refine r_seqp (ρ' := ρ1) (q_iff c1 q_none) (r_seqp (ρ' := ρ1) (q_iff c2 q_none) ?_)
  exact qm_pm (q_iff c3 q_none) ⟨_, rfl, _, _, _, _, _, _, _, _, rfl⟩
theorem q_turn (t : T) (j : Nat) (ρ : Env) (hi : InvL j ρ) : Qm (bnd (opt ((gN 2) t ρ)) turnW) costL (Nx (InvL (j + 1))) := by
  refine q_turn_of q_words (fun ns k nm l4 hk => qm_mono (q_things nm l4 k 9 (by omega)) (cth_small.2.2 k hk) fun _ h => h) (fun x h => qm_mono (q_turned 5 8 (by omega) x h) ?_ fun _ h => h) q_odd (fun x h => qm_mono (q_near 5 8 (by omega) x h) ?_ fun _ h => h) (fun x h => qm_mono (q_bent 5 8 (by omega) x h) ?_ fun _ h => h) (fun x y hx hy => a_pair (f := 7) (by omega) hx hy) (fun x h => a_kof (by omega) h) (fun x h => a_lkind x (wf_plain h.wf) h.ok) (fun x h => a_thing 7 8 (by omega) x 60 true h) (fun x h e => ar_kof (f := 7) (by omega) h e) t j ρ hi
  · rw [ctu5]; decide
  · have : cne 5 = 25 := by decide
    omega
  · rw [cbe5]; decide
theorem law_hm : ∀ j : Nat, 4 ≤ j → j ≤ 14 → forW (fun t r => bnd (opt ((gN 2) t r)) turnW) ((List.range j).map fun (i : Nat) => .int (0 + (i : Int))) (rho0 9) (2 ^ 38) fun fl _ => ∃ ρ', fl = .nx ρ' := fun j _ hj => by
  have h := r_for (d := costL) (I := InvL) (g := fun t r => bnd (opt ((gN 2) t r)) turnW) ((List.range j).map fun (i : Nat) => (.int (0 + (i : Int)) : T)) 0 (fun t _ k ρ _ _ hi => q_turn t k ρ hi) (rho0 9) ⟨none, none, none, none, none, none, none, none, rfl⟩
  refine h (2 ^ 38) _ ?_ fun fl b' ⟨ρ', e, _⟩ _ => ⟨ρ', e⟩
  rw [List.length_map, List.length_range]
  unfold costL
  have : (2 : Nat) ^ 38 = 274877906944 := by decide
  omega
end Wp

end -- LH
section -- HA
set_option Elab.async false
set_option linter.all false
set_option maxRecDepth 100000
set_option maxHeartbeats 0
/-! The head: what the top leaves, read by a Hook. -/
namespace Hd
open PySem PySem.Spec PyProof.Rows L2 He
def excB (K : PySem.W.Frag) (D : Addr) : Bool := eqO (PySem.W.findIn K (.ref D) "__getattribute__") (some (some (.builtin "BaseException.__getattribute__"))) && (eqO (PySem.W.findIn K (.ref D) "__getattr__") (some none) &&
  (decide (PySem.W.subIn K (.ref D) (.type "BaseException") = some true) && (PySem.W.hasDictIn K D && (eqO (PySem.W.findIn K (.ref D) "__class__") (some (some (.builtin "object.__class__"))) &&
  (eqO (PySem.W.specialIn K (.builtin "object.__class__") "__get__") (some (some (.builtin "getset_descriptor.__get__"))) && (decide (PySem.W.takesIn K (.builtin "object.__class__") = some true) && decide (PySem.W.mroIn K D (.type "object") = some true)))))))
theorem excB_ok {K : PySem.W.Frag} {D : Addr} (h : excB K D = true) : ExcC K D := by
  obtain ⟨a1, h⟩ := ba h
  obtain ⟨a2, h⟩ := ba h
  obtain ⟨a3, h⟩ := ba h
  obtain ⟨a4, h⟩ := ba h
  obtain ⟨a5, h⟩ := ba h
  obtain ⟨a6, h⟩ := ba h
  obtain ⟨a7, a8⟩ := ba h
  exact ⟨eqO_ok a1, eqO_ok a2, of_decide_eq_true a3, a4, eqO_ok a5, eqO_ok a6, of_decide_eq_true a7, of_decide_eq_true a8⟩
def sysB (K : PySem.W.Frag) : Bool := match K.lookup sysModules with
  | some o => (match o.data with
    | .dict _ _ => true
    | _ => false)
  | none => false
theorem sysB_ok {K : PySem.W.Frag} (h : sysB K = true) : Gd.HasSys K := by
  unfold sysB at h
  split at h
  · rename_i o e
    split at h
    · rename_i es n e2
      exact ⟨o, es, n, e, e2⟩
    · cases h
  · cases h
/-- the empty tuple of the module -/
def markB (K : PySem.W.Frag) (x : Str) : Bool := match K.lookup (ga K x) with
  | some o => (match o.cls, o.data with
    | .type c, .seq its _ => decide (c = "tuple") && decide (its.size = 0)
    | _, _ => false)
  | none => false
theorem markB_ok {K : PySem.W.Frag} {x : Str} (h : markB K x = true) : ∃ o its n, K.lookup (ga K x) = some o ∧ o.cls = .type "tuple" ∧ o.data = .seq its n ∧ its.size = 0 := by
  unfold markB at h
  split at h
  · rename_i o e
    split at h
    · rename_i c its n e1 e2
      obtain ⟨b1, b2⟩ := ba h
      exact ⟨o, its, n, e, by rw [e1, of_decide_eq_true b1], e2, of_decide_eq_true b2⟩
    · cases h
  · cases h
/-- two defs' code tables stand apart, and not in the written part -/
def tabB (K : PySem.W.Frag) (x y : Str) : Bool := match PySem.W.tabIn K x, PySem.W.tabIn K y with
  | some (_, P), some (_, P') => decide (P ≠ P') && ((K.lookup P).isNone && (K.lookup P').isNone)
  | _, _ => false
theorem tabB_ok {K : PySem.W.Frag} {x y : Str} (h : tabB K x y = true) : ∃ c P c' P', PySem.W.tabIn K x = some (c, P) ∧ PySem.W.tabIn K y = some (c', P') ∧ P ≠ P' ∧ K.lookup P = none ∧ K.lookup P' = none := by
  unfold tabB at h
  split at h
  · rename_i c P c' P' e1 e2
    obtain ⟨b1, h⟩ := ba h
    obtain ⟨b2, b3⟩ := ba h
    exact ⟨c, P, c', P', e1, e2, of_decide_eq_true b1, Option.isNone_iff_eq_none.mp b2, Option.isNone_iff_eq_none.mp b3⟩
  · cases h
/-- a Hook with a further look c at the written part; the code tables stand outside -/
def noTbl (g : Addr → Option Obj) (a : Addr) : Bool := match g a with
  | some o => (match o.cls, o.data with
    | .none, .fields _ => false
    | _, _ => true)
  | none => true
def partG (g : Addr → Option Obj) (n : Nat) : PySem.W.Frag := frG g ((cStatics :: sysModules :: asD g n).filter (noTbl g))
def obsX (n : Nat) (c : PySem.W.Frag → Bool) (fa : List Fa) (fn : List DefD) (g : Addr → Option Obj) : Bool × AlD := (fun K => (c K, obsD fa fn K)) (partG g n)
def hookX (n : Nat) (c : PySem.W.Frag → Bool) (fa : List Fa) (fn : List DefD) : PySem.W.Hook where
  α := Bool × AlD
  obs := fun s => obsX n c fa fn s.heap.get?
  val := fun _ => (true, valD fn)
  says := fun _ h => ∃ K : PySem.W.Frag, K.In h ∧ c K = true ∧ SaysD fa fn K
  of := fun _ _ e => ⟨_, frG_in, congrArg (fun z : Bool × AlD => z.1) e, congrArg (fun z : Bool × AlD => z.2) e⟩
  keeps := fun _ _ _ ⟨K, hK, h1, h2⟩ k => ⟨K, PySem.W.Frag.In.keeps hK k, h1, h2⟩
theorem obsX_eq {n : Nat} {c : PySem.W.Frag → Bool} {fa : List Fa} {fn : List DefD} {g : Addr → Option Obj} {s : Shared} (h : ∀ a, g a = s.heap.get? a) : obsX n c fa fn g = (hookX n c fa fn).obs s := by
  have e : g = s.heap.get? := funext h
  rw [e] <;> rfl
/-! ### this law's -/
def chk (K : PySem.W.Frag) : Bool := sysB K && (markB K "MARK" && (excB K (ga K "BadValue") && (decide (PySem.W.kitOne K (.ref (ga K "BadValue")) (.ref (ga K "BadValue")) = some true) && (decide (PySem.W.kitOne K (.ref (ga K "BadValue")) (.type "ValueError") = some true) && tabB K "law" "_law_pair_right"))))
def dfOf (x : Str) (i : Nat) : DefD := ⟨(x, none), x, x, defArgs (Dr.topS i), defBody (Dr.topS i), defScope (Dr.topS i), [], []⟩
def dkOf (x : Str) (i : Nat) : DefD := ⟨(x, none), x, x, defArgs (Dr.topS i), defBody (Dr.topS i), defScope (Dr.topS i), [], [("with_marks", .bl false)]⟩
def defs : List (Str × Nat) := [("is_letters", 8), ("is_name", 9), ("is_item", 10), ("is_result", 12), ("kind_here", 13), ("kind_of", 14), ("is_same_item", 15), ("is_same", 16), ("same", 17), ("_law_begun", 19), ("_law_mixed", 20), ("_law_take", 21), ("_law_pick", 22), ("_law_word", 23), ("_law_words", 24), ("_law_item", 25), ("_law_thing", 26), ("_law_dict", 27), ("_law_kind", 28), ("_law_same", 29), ("_law_is_word", 32), ("_law_is_item", 33), ("_law_is_thing", 34), ("_law_odd", 35), ("_law_bent", 36), ("_law_caught", 37), ("_law_turned", 38), ("_law_near", 39), ("_law_is_bad", 40), ("_law_pair_right", 41), ("law", 42)]
def fn : List DefD := (defs.map fun p => dfOf p.1 p.2) ++ [dkOf "stands" 11]
def frees : List Str := [("isinstance" : Str), ("str" : Str), ("int" : Str), ("bool" : Str), ("list" : Str), ("tuple" : Str), ("dict" : Str), ("len" : Str), ("all" : Str), ("sorted" : Str), ("range" : Str), ("set" : Str), ("zip" : Str), ("min" : Str), ("max" : Str), ("repr" : Str), ("ValueError" : Str)]
def fa : List Fa := ((defs.map fun p => Fa.glo p.1) ++ (frees.map fun x => Fa.free x)) ++ [Fa.glo "stands", Fa.glo "MergeError", Fa.glo "BadValue", Fa.glo "MARK", Fa.str "LETTERS" "abcdefghijklmnopqrstuvwxyz", Fa.int "MOST_LETTERS" 8, Fa.int "MOST_DICTS" 60, Fa.exc "BadValue", Fa.exm "BadValue" "MergeError" true]
abbrev R : PySem.W.OpenRow := PySem.W.OpenLaw.row PySem.Challenge.rw_mergebooks_k03_kinds_and_sameness
abbrev hk : PySem.W.Hook := hookX 6 chk fa fn
def ob (s : PySem.W.SharedT) : Bool × AlD := obsX 6 chk fa fn (HandSHeadRun.getT s)
theorem ob_eq (s : PySem.W.SharedT) : ob s = hk.obs s.abs := obsX_eq (HandSHeadRun.getT_eq s)
def loose : List Str := [("MergeError" : Str), ("BadValue" : Str), ("MARK" : Str), ("LETTERS" : Str), ("MOST_LETTERS" : Str), ("MOST_DICTS" : Str), ("is_letters" : Str), ("is_name" : Str), ("is_item" : Str), ("stands" : Str), ("is_result" : Str), ("kind_here" : Str), ("kind_of" : Str), ("is_same_item" : Str), ("is_same" : Str), ("same" : Str), ("_law_begun" : Str), ("_law_mixed" : Str), ("_law_take" : Str), ("_law_pick" : Str), ("_law_word" : Str), ("_law_words" : Str), ("_law_item" : Str), ("_law_thing" : Str), ("_law_dict" : Str), ("_law_kind" : Str), ("_law_same" : Str), ("_law_is_told" : Str), ("_law_is_ordered" : Str), ("_law_is_word" : Str), ("_law_is_item" : Str), ("_law_is_thing" : Str), ("_law_odd" : Str), ("_law_bent" : Str), ("_law_caught" : Str), ("_law_turned" : Str), ("_law_near" : Str), ("_law_is_bad" : Str)]
end Hd

end -- HA
section -- HC
set_option Elab.async false
set_option linter.all false
set_option maxRecDepth 100000
set_option maxHeartbeats 1000000
/-! The end, with code tables. -/
namespace Gd
open PySem PySem.Spec PyProof.Rows L2
/-- tables that stand empty at the law's entry -/
structure Tbs (K : PySem.W.Frag) (h : Heap) (cs : List (Addr × Addr)) : Prop where
  at_ : ∀ p ∈ cs, h.get? p.2 = some { cls := .none, data := .fields #[] }
  out : ∀ p ∈ cs, K.lookup p.2 = none
  cd : ∀ p ∈ cs, PySem.W.CodeHd h p.1 p.2
theorem enterH {P : Program} {w : World} {K : PySem.W.Frag} {mg mb : Str → Option Value} {k : Nat} {fa a : Addr} {fd : FuncData} {x : Str} {sp : Sp} {s₁ : Shared} {H : Hp} {xs : List Value} {cs : List (Addr × Addr)}
    (KX : K.In s₁.heap) (g1 : s₁.heap.Ns mainGlobals mg) (g2 : s₁.heap.Ns builtinsNs mb) (g3 : ∀ y : Str, y ≠ "__name__" → mb y = bootBuiltins y) (g4 : s₁.heap.NoLimit) (g5 : s₁.gens = #[]) (T : Tbs K s₁.heap cs)
    (hbm : ∃ (bm : Addr) (ob : Obj), mg "__builtins__" = some (.ref bm) ∧ bm ≠ builtinsNs ∧ s₁.heap.get? bm = some ob ∧ ob.cls = .type "module" ∧ ob.dict = some builtinsNs ∧ ob.data = .plain)
    (ha : s₁.heap.get? a = some { cls := .type "list", data := .seq xs.toArray })
    (hH : ∀ p ∈ cs, H p.2 = some (.tbl #[])) (hO : ∀ b, H b = none ∨ b ∈ cs.map (·.2) ∨ ∃ o ys, H b = some (.frz o (.lst ys))) (hok : HOk P w H s₁.heap) (only : ∀ b, H b ≠ none → b = a ∨ b ∈ cs.map (·.2)) (hK : H a ≠ none → K.lookup a = none) (hr : Room k callerA)
    (F : ∀ base : Heap, K.In base → base.Ns mainGlobals mg → (∀ p ∈ cs, LamX.TabB base mg p.1 p.2) → FnG P w K mg base CX0 k fa fd [x] sp) (bind : ∀ (s : Shared) (u : Value), BindsTo s fd ⟨[u], []⟩ [(x, u)]) (hsp : sp [.ref a] H (fun v _ => v = .bl true) fun _ _ _ => False) :
    codeAny (model P w) callerA (.call (.ref fa) ⟨[.ref a], []⟩) (fun r s' => r = .ok (.ret (.bool true)) ∧ OldK s₁.heap s'.heap ∧ s'.os = s₁.os ∧ AllBare s'.gens) s₁ := by
  have isT : ∀ b : Addr, b ∈ cs.map (·.2) → s₁.heap.get? b = some { cls := .none, data := .fields #[] } := fun b hb => by
    obtain ⟨p, hp, e⟩ := List.mem_map.mp hb
    rw [← e]
    exact T.at_ p hp
  -- what is neither the script nor a table stands in the base
  have clear : ∀ {b : Addr} {o : Obj}, s₁.heap.get? b = some o → (∀ vs n, o.data ≠ .seq vs n) → o.data ≠ .fields #[] → H b = none := fun {b o} e h1 h2 => by
    cases q : H b with
    | none => rfl
    | some u =>
      rcases only b (by rw [q]; exact fun z => nomatch z) with z | z
      · subst z
        rw [ha] at e
        cases e
        exact absurd rfl (h1 _ _)
      · rw [isT b z] at e
        cases e
        exact absurd rfl h2
  have dictNo : ∀ {b : Addr} {o : Obj} {es : Array DictEntry} {ep : Nat}, s₁.heap.get? b = some o → o.data = .dict es ep → H b = none := fun {b o es ep} e d => clear e (fun vs n z => by rw [d] at z; cases z) fun z => by rw [d] at z; cases z
  have ns : ∀ {b : Addr} {m : Str → Option Value}, s₁.heap.Ns b m → (hidT s₁.heap H).Ns b m := fun {b m} z => by
    obtain ⟨o, es, ep, e, d, r⟩ := z
    exact ⟨o, es, ep, hidT_get e (dictNo e d), d, r⟩
  have kin : K.In (hidT s₁.heap H) := fun b o e => hidT_get (KX b o e) (by
    cases q : H b with
    | none => rfl
    | some u =>
      have nn : H b ≠ none := by rw [q]; exact fun z => nomatch z
      rcases only b nn with z | z
      · subst z
        rw [hK nn] at e
        cases e
      · obtain ⟨p, hp, ep⟩ := List.mem_map.mp z
        rw [← ep, T.out p hp] at e
        cases e)
  have lim : (hidT s₁.heap H).NoLimit := by
    obtain ⟨mc, z1, z2⟩ := g4
    exact ⟨mc, ns z1, z2⟩
  have TB : ∀ p ∈ cs, LamX.TabB (hidT s₁.heap H) mg p.1 p.2 := fun p hp => by
    have hp2 := T.at_ p hp
    have gne : mainGlobals ≠ p.2 := fun z => by
      obtain ⟨o, es, ep, e, d, _⟩ := g1
      rw [z, hp2] at e
      cases e
      cases d
    refine ⟨?_, ?_, gne⟩
    · obtain ⟨o, us, file, tf, flags, tg, inF, text, tt, e1, r1, r2, r3, rest⟩ := T.cd p hp
      refine ⟨o, us, file, tf, flags, tg, inF, text, tt, hidT_get e1 (clear e1 (fun vs n z => by rw [r2] at z; cases z) fun z => ?_), r1, r2, r3, rest⟩
      rw [r2] at z
      cases z
      simp at r3
    · obtain ⟨bm, ob, b1, b2, b3, b4, b5, b6⟩ := hbm
      refine ⟨bm, ob, b1, b2, fun q => ?_, fun q => ?_, hidT_get b3 (clear b3 (fun vs n z => by rw [b6] at z; cases z) fun z => by rw [b6] at z; cases z), b4, b5, b6⟩
      · obtain ⟨o, es, ep, e, d, _⟩ := g1
        rw [q, e] at b3
        cases b3
        rw [d] at b6
        cases b6
      · rw [q, hp2] at b3
        cases b3
        cases b6
  have env : Env0 P w K mg (hidT s₁.heap H) callerA [] s₁ H := ⟨rfl, ⟨kin, ns g1, ⟨mb, ns g2, g3⟩, lim⟩, fun _ _ e => of_hidT e, Nat.le_of_eq (hidT_size _ _), trivial, (fun _ hb => nomatch hb), hok, AllBare.of_eq g5⟩
  refine codeAny_mono ((F _ kin (ns g1) TB).go callerA [] s₁ H ⟨[.ref a], []⟩ [.ref a] [.ref a] _ _ rfl hr env (bind s₁ (.ref a)) (.cons rfl .nil) hsp) fun r s' z => ?_
  cases r with
  | error e => exact False.elim z
  | ok fl =>
    cases fl with
    | ret u =>
      obtain ⟨v, H', z1, z2, un, hok', rv, q⟩ := z
      obtain rfl : v = .bl true := q
      obtain rfl : u = Value.bool true := rv
      have key : ∀ b o, b ∉ cs.map (·.2) → s₁.heap.get? b = some o → s'.heap.get? b = some o := fun b o nb e => by
        rcases hO b with n | n | ⟨ob, ys, n⟩
        · exact un.keep b o e n (fun z => nomatch z) (fun z => nomatch z)
        · exact absurd n nb
        · obtain ⟨y1, _⟩ := hok b _ n
          obtain ⟨y2, _⟩ := hok' b _ (un.frzs b ob _ n)
          exact y2.trans (y1.symm.trans e)
      have grown : ∀ p ∈ cs, ∃ more : Array Value, s'.heap.get? p.2 = some { cls := .none, data := .fields more } := fun p hp => by
        obtain ⟨more, z⟩ := un.tbls p.2 #[] (hH p hp)
        exact ⟨_, hok' p.2 _ z⟩
      refine ⟨rfl, ⟨fun b o e => ?_, fun b o e => ?_⟩, z1, z2⟩
      · by_cases hb : b ∈ cs.map (·.2)
        · obtain ⟨p, hp, ep⟩ := List.mem_map.mp hb
          obtain ⟨more, hm⟩ := grown p hp
          rw [← ep] at e ⊢
          rw [T.at_ p hp] at e
          cases e
          exact .inr (.inl ⟨((T.cd p hp).tab (T.at_ p hp)).isCodeTable, rfl, #[], more, rfl, by rw [Array.empty_append]; exact hm⟩)
        · exact .inl (key b o hb e)
      · by_cases hb : b ∈ cs.map (·.2)
        · obtain ⟨p, hp, ep⟩ := List.mem_map.mp hb
          obtain ⟨more, hm⟩ := grown p hp
          rw [← ep]
          exact ⟨_, hm⟩
        · exact ⟨o, key b o hb e⟩
    | next => exact False.elim z
    | brk => exact False.elim z
    | cont => exact False.elim z
theorem enter {P : Program} {w : World} {K : PySem.W.Frag} {mg mb : Str → Option Value} {k : Nat} {fa a : Addr} {fd : FuncData} {x : Str} {sp : Sp} {s₁ : Shared} {xs : List Value} {is : List Int} {cs : List (Addr × Addr)}
    (KX : K.In s₁.heap) (g1 : s₁.heap.Ns mainGlobals mg) (g2 : s₁.heap.Ns builtinsNs mb) (g3 : ∀ y : Str, y ≠ "__name__" → mb y = bootBuiltins y) (g4 : s₁.heap.NoLimit) (g5 : s₁.gens = #[]) (T : Tbs K s₁.heap cs)
    (hbm : ∃ (bm : Addr) (ob : Obj), mg "__builtins__" = some (.ref bm) ∧ bm ≠ builtinsNs ∧ s₁.heap.get? bm = some ob ∧ ob.cls = .type "module" ∧ ob.dict = some builtinsNs ∧ ob.data = .plain)
    (ha : s₁.heap.get? a = some { cls := .type "list", data := .seq xs.toArray })
    (hi : IntsAre xs is) (hl : is.length ≤ sizeLine) (hr : Room k callerA) (F : ∀ base : Heap, K.In base → base.Ns mainGlobals mg → (∀ p ∈ cs, LamX.TabB base mg p.1 p.2) → FnG P w K mg base CX0 k fa fd [x] sp) (bind : ∀ (s : Shared) (u : Value), BindsTo s fd ⟨[u], []⟩ [(x, u)])
    (hsp : ∀ H : Hp, (∀ p ∈ cs, H p.2 = some (.tbl #[])) → SqL K H a (is.map V.int) → sp [.ref a] H (fun v _ => v = .bl true) fun _ _ _ => False) :
    codeAny (model P w) callerA (.call (.ref fa) ⟨[.ref a], []⟩) (fun r s' => r = .ok (.ret (.bool true)) ∧ OldK s₁.heap s'.heap ∧ s'.os = s₁.os ∧ AllBare s'.gens) s₁ := by
  have rv := vals_ints hi
  have isT : ∀ b : Addr, b ∈ cs.map (·.2) → s₁.heap.get? b = some { cls := .none, data := .fields #[] } := fun b hb => by
    obtain ⟨p, hp, e⟩ := List.mem_map.mp hb
    rw [← e]
    exact T.at_ p hp
  have na : a ∉ cs.map (·.2) := fun z => by
    have q := isT a z
    rw [ha] at q
    cases (show Data.seq xs.toArray _ = Data.fields #[] from congrArg Obj.data (Option.some.inj q))
  have memT : ∀ p ∈ cs, p.2 ∈ cs.map (·.2) := fun p hp => List.mem_map.mpr ⟨p, hp, rfl⟩
  cases hk : K.lookup a with
  | some o =>
    have e := KX a o hk
    rw [ha] at e
    cases e
    refine enterH (H := fun b => if b ∈ cs.map (·.2) then some (.tbl #[]) else none) KX g1 g2 g3 g4 g5 T hbm ha (fun p hp => if_pos (memT p hp)) (fun b => ?_) (fun b u z => ?_) (fun b z => ?_) (fun z => absurd (if_neg na) z) hr F bind
      (hsp _ (fun p hp => if_pos (memT p hp)) (.inr ⟨_, xs.toArray, _, hk, rfl, rfl, rfl, by rw [List.size_toArray, hi.length]; exact hl, by simpa using rv⟩))
    · by_cases hb : b ∈ cs.map (·.2)
      · exact .inr (.inl hb)
      · exact .inl (if_neg hb)
    · by_cases hb : b ∈ cs.map (·.2)
      · have z' := (if_pos hb).symm.trans z
        cases z'
        exact isT b hb
      · have z' := (if_neg hb).symm.trans z
        cases z'
    · by_cases hb : b ∈ cs.map (·.2)
      · exact .inr hb
      · exact absurd (if_neg hb) z
  | none =>
    refine enterH (H := fun b => if b = a then some (.frz { cls := .type "list", data := .seq xs.toArray } (.lst (is.map V.int))) else if b ∈ cs.map (·.2) then some (.tbl #[]) else none) KX g1 g2 g3 g4 g5 T hbm ha
      (fun p hp => (if_neg (show ¬ p.2 = a from fun z => na (z ▸ memT p hp))).trans (if_pos (memT p hp))) (fun b => ?_) (fun b u z => ?_) (fun b z => ?_) (fun _ => hk) hr F bind
      (hsp _ (fun p hp => (if_neg (show ¬ p.2 = a from fun z => na (z ▸ memT p hp))).trans (if_pos (memT p hp))) (.inl (.inr ⟨_, if_pos rfl⟩)))
    · by_cases e : b = a
      · exact .inr (.inr ⟨_, _, if_pos e⟩)
      · by_cases hb : b ∈ cs.map (·.2)
        · exact .inr (.inl hb)
        · exact .inl ((if_neg e).trans (if_neg hb))
    · by_cases e : b = a
      · have z2 := (if_pos e).symm.trans z
        cases z2
        subst e
        exact ⟨ha, by rw [List.length_map]; exact hl, xs, _, rv, ha⟩
      · have z1 := (if_neg e).symm.trans z
        by_cases hb : b ∈ cs.map (·.2)
        · have z2 := (if_pos hb).symm.trans z1
          cases z2
          exact isT b hb
        · have z2 := (if_neg hb).symm.trans z1
          cases z2
    · by_cases e : b = a
      · exact .inl e
      · by_cases hb : b ∈ cs.map (·.2)
        · exact .inr hb
        · exact absurd ((if_neg e).trans (if_neg hb)) z
/-- the goal of the head -/
theorem walkT {l : PySem.W.OpenLaw} {k n : Nat} {q : Program} {loose : List Str} {XP : (Str → Option Value) → Heap → Prop} {YP : World → Heap → Prop} {d : DefRec} {x : Str} (hn : l.most = some n) (hn2 : n ≤ sizeLine) (hdf : d.params.defaults = []) (hr : Room k callerA)
    (F : ∀ (w : World) (mg mb : Str → Option Value) (fa : Addr) (h : Heap) (mean : ExcName → Option Value), YP w h → Top q (PySem.W.looseW q loose) mean mg mb h → mg d.name = some (.ref fa) → ∃ (K : PySem.W.Frag) (fd : FuncData) (sp : Sp) (cs : List (Addr × Addr)), K.In h ∧ Tbs K h cs ∧ (∀ (s : Shared) (u : Value), BindsTo s fd ⟨[u], []⟩ [(x, u)]) ∧
      (∀ (H : Hp) (a : Addr) (is : List Int), is.length ≤ n → (∀ p ∈ cs, H p.2 = some (.tbl #[])) → SqL K H a (is.map V.int) → sp [.ref a] H (fun v _ => v = .bl true) fun _ _ _ => False) ∧ ∀ base : Heap, K.In base → base.Ns mainGlobals mg → (∀ p ∈ cs, LamX.TabB base mg p.1 p.2) → FnG l.prog w K mg base CX0 k fa fd [x] sp) :
    PySem.W.WalkO q loose XP YP l.row.toRowW d [] (fun f vs => PySem.call f vs) := by
  refine Att.attach_call hn hdf fun w s₀ s₁ mg mb fa o pm cd doc a vs is G Y ho hd hcd hmg hobj hints hlen hg => ?_
  obtain ⟨K, fd, sp, cs, KX, TT, hb, hsp, hF⟩ := F w mg mb fa _ _ Y G.T hmg
  exact enter KX G.T.g G.T.b G.T.builtins G.T.nolimit hg TT G.T.bmain hobj hints (Nat.le_trans hlen hn2) hr hF hb fun H hT hS => hsp H a is hlen hT hS
end Gd
namespace Hd
open PySem PySem.Spec PyProof.Rows L2 He
set_option maxHeartbeats 0 in
theorem run (w : World) : HandSHeadRun.RunEq R (PySem.W.view R.prog [41, 42]) hk ob 40000 loose w := by
  intro os
  kernel_rfl
end Hd

end -- HC
section -- HD
set_option Elab.async false
set_option linter.all false
set_option maxRecDepth 100000
set_option maxHeartbeats 4000000
/-! All facts brought together. -/
namespace Wp
open PySem PySem.Spec PyProof.Rows L2
theorem FnK.mono {g : MB.Gx} {x : Str} {n : Nat} {ks : List Str} {lv lv' : Nat} {m : List T → M T} (F : FnK g x n ks lv m) (h : lv ≤ lv') : FnK g x n ks lv' m := by
  obtain ⟨f, fd, ps, F, h1, h2, h3⟩ := F.ex
  exact ⟨f, fd, ps, ⟨F.len, fun A outer s H args us vs Q E fr hr => F.go A outer s H args us vs Q E fr (hr.mono h)⟩, h1, h2, h3⟩
theorem FnP.mono {g : MB.Gx} {x : Str} {ks : List Str} {perm : ∀ α : Type, List α → List α} {lv lv' : Nat} {m : List T → M T} (F : FnP g x ks perm lv m) (h : lv ≤ lv') : FnP g x ks perm lv' m := by
  obtain ⟨f, fd, ps, F, h1, h2, h3⟩ := F.ex
  exact ⟨f, fd, ps, ⟨F.len, fun A outer s H args us vs Q E fr hr => F.go A outer s H args us vs Q E fr (hr.mono h)⟩, h1, h2, h3⟩
/-- the reading's frame, two code tables told -/
abbrev gT (P : Program) (w : World) (K : PySem.W.Frag) (mg : Str → Option Value) (base : Heap) (c1 P1 c2 P2 : Addr) : MB.Gx := ⟨P, w, K, mg, base, fun _ => 0, [(P1, (envOfC "law" (defScope (Dr.topS 42)) 0 0 (.ref c1)).qual ++ ("<lambda>" : Str)), (P2, (envOfC "_law_pair_right" (defScope (Dr.topS 41)) 0 0 (.ref c2)).qual ++ ("<lambda>" : Str))]⟩
end Wp
namespace Hd
open PySem PySem.Spec PyProof.Rows L2 He Dr
theorem funOf {K : PySem.W.Frag} {x q q' : Str} {st : Stmt} {f : Addr} {fd : FuncData} (F : FunD K x q (defArgs st) (defBody st) (defScope st) [] [] f fd) (e : q = q') : Fun K x q' st f fd := by
  subst e
  obtain ⟨oc, od, dV, kV, doc, pm, an, cdv, ct, osl, h1, h2, h3, h4, h5⟩ := F.ex
  rcases h4 with ⟨_, e⟩ | ⟨n, _⟩
  · exact ⟨⟨oc, od, kV, doc, pm, an, cdv, ct, osl, by rw [h1, e], h2, h3⟩, F.kp⟩
  · exact absurd rfl n
/-- the code of a def is the one that tabIn tells -/
theorem codeOf {K : PySem.W.Frag} {h : Heap} {mg : Str → Option Value} {x : Str} {st : Stmt} {f : Addr} {fd : FuncData} {c P : Addr} (X : K.In h) (G : h.Ns mainGlobals mg) (F : Fun K x x st f fd) (m : mg x = some (.ref f)) (ht : PySem.W.tabIn K x = some (c, P)) : fd.code = .ref c := by
  obtain ⟨oc, od, kV, doc, pm, an, cdv, ct, osl, e, lk, _⟩ := F.ex
  exact PySem.W.law_code X G ht m (X _ _ lk) rfl
structure Facts (K : PySem.W.Frag) (mg : Str → Option Value) : Prop where
  A8 : ∃ fd, At K mg "is_letters" (Dr.topS 8) ["thing"] (ga K "is_letters") fd
  A9 : ∃ fd, At K mg "is_name" (Dr.topS 9) ["thing"] (ga K "is_name") fd
  A10 : ∃ fd, At K mg "is_item" (Dr.topS 10) ["thing"] (ga K "is_item") fd
  A12 : ∃ fd, At K mg "is_result" (Dr.topS 12) ["value"] (ga K "is_result") fd
  A13 : ∃ fd, At K mg "kind_here" (Dr.topS 13) ["result"] (ga K "kind_here") fd
  A14 : ∃ fd, At K mg "kind_of" (Dr.topS 14) ["result"] (ga K "kind_of") fd
  A15 : ∃ fd, At K mg "is_same_item" (Dr.topS 15) ["one", "other"] (ga K "is_same_item") fd
  A16 : ∃ fd, At K mg "is_same" (Dr.topS 16) ["one", "other"] (ga K "is_same") fd
  A17 : ∃ fd, At K mg "same" (Dr.topS 17) ["one", "other"] (ga K "same") fd
  A19 : ∃ fd, At K mg "_law_begun" (Dr.topS 19) ["_law_script"] (ga K "_law_begun") fd
  A20 : ∃ fd, At K mg "_law_mixed" (Dr.topS 20) ["_law_state"] (ga K "_law_mixed") fd
  A21 : ∃ fd, At K mg "_law_take" (Dr.topS 21) ["_law_state", "_law_size"] (ga K "_law_take") fd
  A22 : ∃ fd, At K mg "_law_pick" (Dr.topS 22) ["_law_state", "_law_some"] (ga K "_law_pick") fd
  A23 : ∃ fd, At K mg "_law_word" (Dr.topS 23) ["_law_state"] (ga K "_law_word") fd
  A24 : ∃ fd, At K mg "_law_words" (Dr.topS 24) ["_law_state", "_law_many"] (ga K "_law_words") fd
  A25 : ∃ fd, At K mg "_law_item" (Dr.topS 25) ["_law_state"] (ga K "_law_item") fd
  A26 : ∃ fd, At K mg "_law_thing" (Dr.topS 26) ["_law_state", "_law_names", "_law_deep", "_law_marks"] (ga K "_law_thing") fd
  A27 : ∃ fd, At K mg "_law_dict" (Dr.topS 27) ["_law_state", "_law_names", "_law_deep", "_law_marks"] (ga K "_law_dict") fd
  A28 : ∃ fd, At K mg "_law_kind" (Dr.topS 28) ["_law_thing_here"] (ga K "_law_kind") fd
  A29 : ∃ fd, At K mg "_law_same" (Dr.topS 29) ["_law_near_here", "_law_far"] (ga K "_law_same") fd
  A32 : ∃ fd, At K mg "_law_is_word" (Dr.topS 32) ["_law_thing_here", "_law_fewest"] (ga K "_law_is_word") fd
  A33 : ∃ fd, At K mg "_law_is_item" (Dr.topS 33) ["_law_thing_here"] (ga K "_law_is_item") fd
  A34 : ∃ fd, At K mg "_law_is_thing" (Dr.topS 34) ["_law_thing_here", "_law_deep", "_law_marks"] (ga K "_law_is_thing") fd
  A35 : ∃ fd, At K mg "_law_odd" (Dr.topS 35) ["_law_state"] (ga K "_law_odd") fd
  A36 : ∃ fd, At K mg "_law_bent" (Dr.topS 36) ["_law_state", "_law_thing_here"] (ga K "_law_bent") fd
  A37 : ∃ fd, At K mg "_law_caught" (Dr.topS 37) ["_law_work"] (ga K "_law_caught") fd
  A38 : ∃ fd, At K mg "_law_turned" (Dr.topS 38) ["_law_state", "_law_thing_here"] (ga K "_law_turned") fd
  A39 : ∃ fd, At K mg "_law_near" (Dr.topS 39) ["_law_state", "_law_thing_here"] (ga K "_law_near") fd
  A40 : ∃ fd, At K mg "_law_is_bad" (Dr.topS 40) ["_law_work"] (ga K "_law_is_bad") fd
  A41 : ∃ fd, At K mg "_law_pair_right" (Dr.topS 41) ["_law_near_here", "_law_far"] (ga K "_law_pair_right") fd
  A42 : ∃ fd, At K mg "law" (Dr.topS 42) ["_law_script"] (ga K "law") fd
  S : ∃ fd, Wp.AtD K mg "stands" (Dr.topS 11) ["thing", "dicts", "with_marks"] [("with_marks", .bl false)] (ga K "stands") fd
  z_isinstance : mg "isinstance" = none
  z_str : mg "str" = none
  z_int : mg "int" = none
  z_bool : mg "bool" = none
  z_list : mg "list" = none
  z_tuple : mg "tuple" = none
  z_dict : mg "dict" = none
  z_len : mg "len" = none
  z_all : mg "all" = none
  z_sorted : mg "sorted" = none
  z_range : mg "range" = none
  z_set : mg "set" = none
  z_zip : mg "zip" = none
  z_min : mg "min" = none
  z_max : mg "max" = none
  z_repr : mg "repr" = none
  z_ValueError : mg "ValueError" = none
  cL : ∃ t, mg "LETTERS" = some (.str "abcdefghijklmnopqrstuvwxyz" t)
  cM : ∃ t, mg "MOST_LETTERS" = some (.int 8 t)
  cD : ∃ t, mg "MOST_DICTS" = some (.int 60 t)
  cK : ∃ a o its n, mg "MARK" = some (.ref a) ∧ K.lookup a = some o ∧ o.cls = .type "tuple" ∧ o.data = .seq its n ∧ its.size = 0
  sys : Gd.HasSys K
  bad : Xk.Bad K mg (ga K "MergeError") (ga K "BadValue")
  tabs : ∃ c P c' P', PySem.W.tabIn K "law" = some (c, P) ∧ PySem.W.tabIn K "_law_pair_right" = some (c', P') ∧ P ≠ P' ∧ K.lookup P = none ∧ K.lookup P' = none
theorem facts {K : PySem.W.Frag} {h : Heap} {mg : Str → Option Value} (X : K.In h) (G : h.Ns mainGlobals mg) (c1 : chk K = true) (c : He.SaysD fa fn K) : Facts K mg := by
  obtain ⟨k1, c2⟩ := ba c1
  obtain ⟨k2, c2⟩ := ba c2
  obtain ⟨k3, c2⟩ := ba c2
  obtain ⟨k4, c2⟩ := ba c2
  obtain ⟨k5, k6⟩ := ba c2
  have a8 : ∃ fd, At K mg "is_letters" (Dr.topS 8) ["thing"] (ga K "is_letters") fd := by
    obtain ⟨fd, D⟩ := c.def_ 0 (d := dfOf "is_letters" 8) rfl
    have F : Fun K "is_letters" "is_letters" (Dr.topS 8) (ga K "is_letters") fd := funOf D rfl
    exact ⟨fd, F, He.glo_ok X G (c.fact 0 (f := .glo "is_letters") rfl), F.binds fun _ _ _ _ _ _ us hl => match us, hl with | [_], _ => rfl⟩
  have a9 : ∃ fd, At K mg "is_name" (Dr.topS 9) ["thing"] (ga K "is_name") fd := by
    obtain ⟨fd, D⟩ := c.def_ 1 (d := dfOf "is_name" 9) rfl
    have F : Fun K "is_name" "is_name" (Dr.topS 9) (ga K "is_name") fd := funOf D rfl
    exact ⟨fd, F, He.glo_ok X G (c.fact 1 (f := .glo "is_name") rfl), F.binds fun _ _ _ _ _ _ us hl => match us, hl with | [_], _ => rfl⟩
  have a10 : ∃ fd, At K mg "is_item" (Dr.topS 10) ["thing"] (ga K "is_item") fd := by
    obtain ⟨fd, D⟩ := c.def_ 2 (d := dfOf "is_item" 10) rfl
    have F : Fun K "is_item" "is_item" (Dr.topS 10) (ga K "is_item") fd := funOf D rfl
    exact ⟨fd, F, He.glo_ok X G (c.fact 2 (f := .glo "is_item") rfl), F.binds fun _ _ _ _ _ _ us hl => match us, hl with | [_], _ => rfl⟩
  have a12 : ∃ fd, At K mg "is_result" (Dr.topS 12) ["value"] (ga K "is_result") fd := by
    obtain ⟨fd, D⟩ := c.def_ 3 (d := dfOf "is_result" 12) rfl
    have F : Fun K "is_result" "is_result" (Dr.topS 12) (ga K "is_result") fd := funOf D rfl
    exact ⟨fd, F, He.glo_ok X G (c.fact 3 (f := .glo "is_result") rfl), F.binds fun _ _ _ _ _ _ us hl => match us, hl with | [_], _ => rfl⟩
  have a13 : ∃ fd, At K mg "kind_here" (Dr.topS 13) ["result"] (ga K "kind_here") fd := by
    obtain ⟨fd, D⟩ := c.def_ 4 (d := dfOf "kind_here" 13) rfl
    have F : Fun K "kind_here" "kind_here" (Dr.topS 13) (ga K "kind_here") fd := funOf D rfl
    exact ⟨fd, F, He.glo_ok X G (c.fact 4 (f := .glo "kind_here") rfl), F.binds fun _ _ _ _ _ _ us hl => match us, hl with | [_], _ => rfl⟩
  have a14 : ∃ fd, At K mg "kind_of" (Dr.topS 14) ["result"] (ga K "kind_of") fd := by
    obtain ⟨fd, D⟩ := c.def_ 5 (d := dfOf "kind_of" 14) rfl
    have F : Fun K "kind_of" "kind_of" (Dr.topS 14) (ga K "kind_of") fd := funOf D rfl
    exact ⟨fd, F, He.glo_ok X G (c.fact 5 (f := .glo "kind_of") rfl), F.binds fun _ _ _ _ _ _ us hl => match us, hl with | [_], _ => rfl⟩
  have a15 : ∃ fd, At K mg "is_same_item" (Dr.topS 15) ["one", "other"] (ga K "is_same_item") fd := by
    obtain ⟨fd, D⟩ := c.def_ 6 (d := dfOf "is_same_item" 15) rfl
    have F : Fun K "is_same_item" "is_same_item" (Dr.topS 15) (ga K "is_same_item") fd := funOf D rfl
    exact ⟨fd, F, He.glo_ok X G (c.fact 6 (f := .glo "is_same_item") rfl), F.binds fun _ _ _ _ _ _ us hl => match us, hl with | [_, _], _ => rfl⟩
  have a16 : ∃ fd, At K mg "is_same" (Dr.topS 16) ["one", "other"] (ga K "is_same") fd := by
    obtain ⟨fd, D⟩ := c.def_ 7 (d := dfOf "is_same" 16) rfl
    have F : Fun K "is_same" "is_same" (Dr.topS 16) (ga K "is_same") fd := funOf D rfl
    exact ⟨fd, F, He.glo_ok X G (c.fact 7 (f := .glo "is_same") rfl), F.binds fun _ _ _ _ _ _ us hl => match us, hl with | [_, _], _ => rfl⟩
  have a17 : ∃ fd, At K mg "same" (Dr.topS 17) ["one", "other"] (ga K "same") fd := by
    obtain ⟨fd, D⟩ := c.def_ 8 (d := dfOf "same" 17) rfl
    have F : Fun K "same" "same" (Dr.topS 17) (ga K "same") fd := funOf D rfl
    exact ⟨fd, F, He.glo_ok X G (c.fact 8 (f := .glo "same") rfl), F.binds fun _ _ _ _ _ _ us hl => match us, hl with | [_, _], _ => rfl⟩
  have a19 : ∃ fd, At K mg "_law_begun" (Dr.topS 19) ["_law_script"] (ga K "_law_begun") fd := by
    obtain ⟨fd, D⟩ := c.def_ 9 (d := dfOf "_law_begun" 19) rfl
    have F : Fun K "_law_begun" "_law_begun" (Dr.topS 19) (ga K "_law_begun") fd := funOf D rfl
    exact ⟨fd, F, He.glo_ok X G (c.fact 9 (f := .glo "_law_begun") rfl), F.binds fun _ _ _ _ _ _ us hl => match us, hl with | [_], _ => rfl⟩
  have a20 : ∃ fd, At K mg "_law_mixed" (Dr.topS 20) ["_law_state"] (ga K "_law_mixed") fd := by
    obtain ⟨fd, D⟩ := c.def_ 10 (d := dfOf "_law_mixed" 20) rfl
    have F : Fun K "_law_mixed" "_law_mixed" (Dr.topS 20) (ga K "_law_mixed") fd := funOf D rfl
    exact ⟨fd, F, He.glo_ok X G (c.fact 10 (f := .glo "_law_mixed") rfl), F.binds fun _ _ _ _ _ _ us hl => match us, hl with | [_], _ => rfl⟩
  have a21 : ∃ fd, At K mg "_law_take" (Dr.topS 21) ["_law_state", "_law_size"] (ga K "_law_take") fd := by
    obtain ⟨fd, D⟩ := c.def_ 11 (d := dfOf "_law_take" 21) rfl
    have F : Fun K "_law_take" "_law_take" (Dr.topS 21) (ga K "_law_take") fd := funOf D rfl
    exact ⟨fd, F, He.glo_ok X G (c.fact 11 (f := .glo "_law_take") rfl), F.binds fun _ _ _ _ _ _ us hl => match us, hl with | [_, _], _ => rfl⟩
  have a22 : ∃ fd, At K mg "_law_pick" (Dr.topS 22) ["_law_state", "_law_some"] (ga K "_law_pick") fd := by
    obtain ⟨fd, D⟩ := c.def_ 12 (d := dfOf "_law_pick" 22) rfl
    have F : Fun K "_law_pick" "_law_pick" (Dr.topS 22) (ga K "_law_pick") fd := funOf D rfl
    exact ⟨fd, F, He.glo_ok X G (c.fact 12 (f := .glo "_law_pick") rfl), F.binds fun _ _ _ _ _ _ us hl => match us, hl with | [_, _], _ => rfl⟩
  have a23 : ∃ fd, At K mg "_law_word" (Dr.topS 23) ["_law_state"] (ga K "_law_word") fd := by
    obtain ⟨fd, D⟩ := c.def_ 13 (d := dfOf "_law_word" 23) rfl
    have F : Fun K "_law_word" "_law_word" (Dr.topS 23) (ga K "_law_word") fd := funOf D rfl
    exact ⟨fd, F, He.glo_ok X G (c.fact 13 (f := .glo "_law_word") rfl), F.binds fun _ _ _ _ _ _ us hl => match us, hl with | [_], _ => rfl⟩
  have a24 : ∃ fd, At K mg "_law_words" (Dr.topS 24) ["_law_state", "_law_many"] (ga K "_law_words") fd := by
    obtain ⟨fd, D⟩ := c.def_ 14 (d := dfOf "_law_words" 24) rfl
    have F : Fun K "_law_words" "_law_words" (Dr.topS 24) (ga K "_law_words") fd := funOf D rfl
    exact ⟨fd, F, He.glo_ok X G (c.fact 14 (f := .glo "_law_words") rfl), F.binds fun _ _ _ _ _ _ us hl => match us, hl with | [_, _], _ => rfl⟩
  have a25 : ∃ fd, At K mg "_law_item" (Dr.topS 25) ["_law_state"] (ga K "_law_item") fd := by
    obtain ⟨fd, D⟩ := c.def_ 15 (d := dfOf "_law_item" 25) rfl
    have F : Fun K "_law_item" "_law_item" (Dr.topS 25) (ga K "_law_item") fd := funOf D rfl
    exact ⟨fd, F, He.glo_ok X G (c.fact 15 (f := .glo "_law_item") rfl), F.binds fun _ _ _ _ _ _ us hl => match us, hl with | [_], _ => rfl⟩
  have a26 : ∃ fd, At K mg "_law_thing" (Dr.topS 26) ["_law_state", "_law_names", "_law_deep", "_law_marks"] (ga K "_law_thing") fd := by
    obtain ⟨fd, D⟩ := c.def_ 16 (d := dfOf "_law_thing" 26) rfl
    have F : Fun K "_law_thing" "_law_thing" (Dr.topS 26) (ga K "_law_thing") fd := funOf D rfl
    exact ⟨fd, F, He.glo_ok X G (c.fact 16 (f := .glo "_law_thing") rfl), F.binds fun _ _ _ _ _ _ us hl => match us, hl with | [_, _, _, _], _ => rfl⟩
  have a27 : ∃ fd, At K mg "_law_dict" (Dr.topS 27) ["_law_state", "_law_names", "_law_deep", "_law_marks"] (ga K "_law_dict") fd := by
    obtain ⟨fd, D⟩ := c.def_ 17 (d := dfOf "_law_dict" 27) rfl
    have F : Fun K "_law_dict" "_law_dict" (Dr.topS 27) (ga K "_law_dict") fd := funOf D rfl
    exact ⟨fd, F, He.glo_ok X G (c.fact 17 (f := .glo "_law_dict") rfl), F.binds fun _ _ _ _ _ _ us hl => match us, hl with | [_, _, _, _], _ => rfl⟩
  have a28 : ∃ fd, At K mg "_law_kind" (Dr.topS 28) ["_law_thing_here"] (ga K "_law_kind") fd := by
    obtain ⟨fd, D⟩ := c.def_ 18 (d := dfOf "_law_kind" 28) rfl
    have F : Fun K "_law_kind" "_law_kind" (Dr.topS 28) (ga K "_law_kind") fd := funOf D rfl
    exact ⟨fd, F, He.glo_ok X G (c.fact 18 (f := .glo "_law_kind") rfl), F.binds fun _ _ _ _ _ _ us hl => match us, hl with | [_], _ => rfl⟩
  have a29 : ∃ fd, At K mg "_law_same" (Dr.topS 29) ["_law_near_here", "_law_far"] (ga K "_law_same") fd := by
    obtain ⟨fd, D⟩ := c.def_ 19 (d := dfOf "_law_same" 29) rfl
    have F : Fun K "_law_same" "_law_same" (Dr.topS 29) (ga K "_law_same") fd := funOf D rfl
    exact ⟨fd, F, He.glo_ok X G (c.fact 19 (f := .glo "_law_same") rfl), F.binds fun _ _ _ _ _ _ us hl => match us, hl with | [_, _], _ => rfl⟩
  have a32 : ∃ fd, At K mg "_law_is_word" (Dr.topS 32) ["_law_thing_here", "_law_fewest"] (ga K "_law_is_word") fd := by
    obtain ⟨fd, D⟩ := c.def_ 20 (d := dfOf "_law_is_word" 32) rfl
    have F : Fun K "_law_is_word" "_law_is_word" (Dr.topS 32) (ga K "_law_is_word") fd := funOf D rfl
    exact ⟨fd, F, He.glo_ok X G (c.fact 20 (f := .glo "_law_is_word") rfl), F.binds fun _ _ _ _ _ _ us hl => match us, hl with | [_, _], _ => rfl⟩
  have a33 : ∃ fd, At K mg "_law_is_item" (Dr.topS 33) ["_law_thing_here"] (ga K "_law_is_item") fd := by
    obtain ⟨fd, D⟩ := c.def_ 21 (d := dfOf "_law_is_item" 33) rfl
    have F : Fun K "_law_is_item" "_law_is_item" (Dr.topS 33) (ga K "_law_is_item") fd := funOf D rfl
    exact ⟨fd, F, He.glo_ok X G (c.fact 21 (f := .glo "_law_is_item") rfl), F.binds fun _ _ _ _ _ _ us hl => match us, hl with | [_], _ => rfl⟩
  have a34 : ∃ fd, At K mg "_law_is_thing" (Dr.topS 34) ["_law_thing_here", "_law_deep", "_law_marks"] (ga K "_law_is_thing") fd := by
    obtain ⟨fd, D⟩ := c.def_ 22 (d := dfOf "_law_is_thing" 34) rfl
    have F : Fun K "_law_is_thing" "_law_is_thing" (Dr.topS 34) (ga K "_law_is_thing") fd := funOf D rfl
    exact ⟨fd, F, He.glo_ok X G (c.fact 22 (f := .glo "_law_is_thing") rfl), F.binds fun _ _ _ _ _ _ us hl => match us, hl with | [_, _, _], _ => rfl⟩
  have a35 : ∃ fd, At K mg "_law_odd" (Dr.topS 35) ["_law_state"] (ga K "_law_odd") fd := by
    obtain ⟨fd, D⟩ := c.def_ 23 (d := dfOf "_law_odd" 35) rfl
    have F : Fun K "_law_odd" "_law_odd" (Dr.topS 35) (ga K "_law_odd") fd := funOf D rfl
    exact ⟨fd, F, He.glo_ok X G (c.fact 23 (f := .glo "_law_odd") rfl), F.binds fun _ _ _ _ _ _ us hl => match us, hl with | [_], _ => rfl⟩
  have a36 : ∃ fd, At K mg "_law_bent" (Dr.topS 36) ["_law_state", "_law_thing_here"] (ga K "_law_bent") fd := by
    obtain ⟨fd, D⟩ := c.def_ 24 (d := dfOf "_law_bent" 36) rfl
    have F : Fun K "_law_bent" "_law_bent" (Dr.topS 36) (ga K "_law_bent") fd := funOf D rfl
    exact ⟨fd, F, He.glo_ok X G (c.fact 24 (f := .glo "_law_bent") rfl), F.binds fun _ _ _ _ _ _ us hl => match us, hl with | [_, _], _ => rfl⟩
  have a37 : ∃ fd, At K mg "_law_caught" (Dr.topS 37) ["_law_work"] (ga K "_law_caught") fd := by
    obtain ⟨fd, D⟩ := c.def_ 25 (d := dfOf "_law_caught" 37) rfl
    have F : Fun K "_law_caught" "_law_caught" (Dr.topS 37) (ga K "_law_caught") fd := funOf D rfl
    exact ⟨fd, F, He.glo_ok X G (c.fact 25 (f := .glo "_law_caught") rfl), F.binds fun _ _ _ _ _ _ us hl => match us, hl with | [_], _ => rfl⟩
  have a38 : ∃ fd, At K mg "_law_turned" (Dr.topS 38) ["_law_state", "_law_thing_here"] (ga K "_law_turned") fd := by
    obtain ⟨fd, D⟩ := c.def_ 26 (d := dfOf "_law_turned" 38) rfl
    have F : Fun K "_law_turned" "_law_turned" (Dr.topS 38) (ga K "_law_turned") fd := funOf D rfl
    exact ⟨fd, F, He.glo_ok X G (c.fact 26 (f := .glo "_law_turned") rfl), F.binds fun _ _ _ _ _ _ us hl => match us, hl with | [_, _], _ => rfl⟩
  have a39 : ∃ fd, At K mg "_law_near" (Dr.topS 39) ["_law_state", "_law_thing_here"] (ga K "_law_near") fd := by
    obtain ⟨fd, D⟩ := c.def_ 27 (d := dfOf "_law_near" 39) rfl
    have F : Fun K "_law_near" "_law_near" (Dr.topS 39) (ga K "_law_near") fd := funOf D rfl
    exact ⟨fd, F, He.glo_ok X G (c.fact 27 (f := .glo "_law_near") rfl), F.binds fun _ _ _ _ _ _ us hl => match us, hl with | [_, _], _ => rfl⟩
  have a40 : ∃ fd, At K mg "_law_is_bad" (Dr.topS 40) ["_law_work"] (ga K "_law_is_bad") fd := by
    obtain ⟨fd, D⟩ := c.def_ 28 (d := dfOf "_law_is_bad" 40) rfl
    have F : Fun K "_law_is_bad" "_law_is_bad" (Dr.topS 40) (ga K "_law_is_bad") fd := funOf D rfl
    exact ⟨fd, F, He.glo_ok X G (c.fact 28 (f := .glo "_law_is_bad") rfl), F.binds fun _ _ _ _ _ _ us hl => match us, hl with | [_], _ => rfl⟩
  have a41 : ∃ fd, At K mg "_law_pair_right" (Dr.topS 41) ["_law_near_here", "_law_far"] (ga K "_law_pair_right") fd := by
    obtain ⟨fd, D⟩ := c.def_ 29 (d := dfOf "_law_pair_right" 41) rfl
    have F : Fun K "_law_pair_right" "_law_pair_right" (Dr.topS 41) (ga K "_law_pair_right") fd := funOf D rfl
    exact ⟨fd, F, He.glo_ok X G (c.fact 29 (f := .glo "_law_pair_right") rfl), F.binds fun _ _ _ _ _ _ us hl => match us, hl with | [_, _], _ => rfl⟩
  have a42 : ∃ fd, At K mg "law" (Dr.topS 42) ["_law_script"] (ga K "law") fd := by
    obtain ⟨fd, D⟩ := c.def_ 30 (d := dfOf "law" 42) rfl
    have F : Fun K "law" "law" (Dr.topS 42) (ga K "law") fd := funOf D rfl
    exact ⟨fd, F, He.glo_ok X G (c.fact 30 (f := .glo "law") rfl), F.binds fun _ _ _ _ _ _ us hl => match us, hl with | [_], _ => rfl⟩
  have sS : ∃ fd, Wp.AtD K mg "stands" (Dr.topS 11) ["thing", "dicts", "with_marks"] [("with_marks", .bl false)] (ga K "stands") fd := by
    obtain ⟨fd, D⟩ := c.def_ 31 (d := dkOf "stands" 11) rfl
    exact ⟨fd, D, He.glo_ok X G (c.fact 48 (f := .glo "stands") rfl)⟩
  have m1 : mg "MergeError" = some (.ref (ga K "MergeError")) := He.glo_ok X G (c.fact 49 (f := .glo "MergeError") rfl)
  have m2 : mg "BadValue" = some (.ref (ga K "BadValue")) := He.glo_ok X G (c.fact 50 (f := .glo "BadValue") rfl)
  have m3 : mg "MARK" = some (.ref (ga K "MARK")) := He.glo_ok X G (c.fact 51 (f := .glo "MARK") rfl)
  have m4 := He.str_ok X G (c.fact 52 (f := .str "LETTERS" "abcdefghijklmnopqrstuvwxyz") rfl)
  have m5 := He.int_ok X G (c.fact 53 (f := .int "MOST_LETTERS" 8) rfl)
  have m6 := He.int_ok X G (c.fact 54 (f := .int "MOST_DICTS" 60) rfl)
  obtain ⟨y1, y2, y3, y4⟩ := He.exc_ok (c.fact 55 (f := .exc "BadValue") rfl)
  have y5 := He.exm_ok (c.fact 56 (f := .exm "BadValue" "MergeError" true) rfl)
  obtain ⟨mo, its, n, q1, q2, q3, q4⟩ := markB_ok k2
  have z0 : mg "isinstance" = none := He.free_ok X G (c.fact 31 (f := .free "isinstance") rfl)
  have z1 : mg "str" = none := He.free_ok X G (c.fact 32 (f := .free "str") rfl)
  have z2 : mg "int" = none := He.free_ok X G (c.fact 33 (f := .free "int") rfl)
  have z3 : mg "bool" = none := He.free_ok X G (c.fact 34 (f := .free "bool") rfl)
  have z4 : mg "list" = none := He.free_ok X G (c.fact 35 (f := .free "list") rfl)
  have z5 : mg "tuple" = none := He.free_ok X G (c.fact 36 (f := .free "tuple") rfl)
  have z6 : mg "dict" = none := He.free_ok X G (c.fact 37 (f := .free "dict") rfl)
  have z7 : mg "len" = none := He.free_ok X G (c.fact 38 (f := .free "len") rfl)
  have z8 : mg "all" = none := He.free_ok X G (c.fact 39 (f := .free "all") rfl)
  have z9 : mg "sorted" = none := He.free_ok X G (c.fact 40 (f := .free "sorted") rfl)
  have z10 : mg "range" = none := He.free_ok X G (c.fact 41 (f := .free "range") rfl)
  have z11 : mg "set" = none := He.free_ok X G (c.fact 42 (f := .free "set") rfl)
  have z12 : mg "zip" = none := He.free_ok X G (c.fact 43 (f := .free "zip") rfl)
  have z13 : mg "min" = none := He.free_ok X G (c.fact 44 (f := .free "min") rfl)
  have z14 : mg "max" = none := He.free_ok X G (c.fact 45 (f := .free "max") rfl)
  have z15 : mg "repr" = none := He.free_ok X G (c.fact 46 (f := .free "repr") rfl)
  have z16 : mg "ValueError" = none := He.free_ok X G (c.fact 47 (f := .free "ValueError") rfl)
  exact ⟨a8, a9, a10, a12, a13, a14, a15, a16, a17, a19, a20, a21, a22, a23, a24, a25, a26, a27, a28, a29, a32, a33, a34, a35, a36, a37, a38, a39, a40, a41, a42, sS, z0, z1, z2, z3, z4, z5, z6, z7, z8, z9, z10, z11, z12, z13, z14, z15, z16, m4, m5, m6, ⟨_, mo, its, n, m3, q1, q2, q3, q4⟩, sysB_ok k1, ⟨m1, m2, z16, z0, y5, excB_ok k3, y1, y2, y3, y4, of_decide_eq_true k4, of_decide_eq_true k5⟩, tabB_ok k6⟩
end Hd

end -- HD
section -- HE
set_option Elab.async false
set_option linter.all false
set_option maxRecDepth 100000
set_option maxHeartbeats 4000000
/-! The law's def, all levels put together. -/
namespace Wp
open PySem PySem.Spec PyProof.Rows L2 Dr He
theorem tabF_of {P : Program} {w : World} {K : PySem.W.Frag} {mg : Str → Option Value} {base : Heap} {x : Str} {fd : FuncData} {c Q : Addr} {tt : List (Addr × Str)} {sc : Scope} (hc : fd.code = .ref c) (TB : LamX.TabB base mg c Q)
    (hm : (Q, (envOfC x sc 0 0 (.ref c)).qual ++ ("<lambda>" : Str)) ∈ tt) (hu : ∀ p ∈ tt, p.1 = Q → p.2 = (envOfC x sc 0 0 (.ref c)).qual ++ ("<lambda>" : Str)) : TabF ⟨P, w, K, mg, base, fun _ => 0, tt⟩ fd x := by
  intro st kV doc pm an cdv ct e
  subst e
  have e2 : cdv = .ref c := hc
  subst e2
  exact ⟨c, Q, TB, rfl, hm, hu⟩
theorem law_fn {P : Program} {w : World} {K : PySem.W.Frag} {h : Heap} {mg : Str → Option Value} (X : K.In h) (G : h.Ns mainGlobals mg) (Q : Hd.Facts K mg) :
    ∃ (fd : FuncData) (c1 P1 c2 P2 : Addr), PySem.W.tabIn K "law" = some (c1, P1) ∧ PySem.W.tabIn K "_law_pair_right" = some (c2, P2) ∧ P1 ≠ P2 ∧ K.lookup P1 = none ∧ K.lookup P2 = none ∧ (∀ (s : Shared) (v : Value), BindsTo s fd ⟨[v], []⟩ [("_law_script", v)]) ∧
    ∀ base : Heap, (∀ p ∈ [(c1, P1), (c2, P2)], LamX.TabB base mg p.1 p.2) → Gd.FnG P w K mg base CX0 17 (ga K "law") fd ["_law_script"] (spLawW (gT P w K mg base c1 P1 c2 P2)) := by
  obtain ⟨c1, P1, c2, P2, t1, t2, ne, n1, n2⟩ := Q.tabs
  obtain ⟨f42, B42⟩ := Q.A42
  obtain ⟨f41, B41⟩ := Q.A41
  have code1 : f42.code = .ref c1 := Hd.codeOf X G B42.fn B42.m t1
  have code2 : f41.code = .ref c2 := Hd.codeOf X G B41.fn B41.m t2
  refine ⟨f42, c1, P1, c2, P2, t1, t2, ne, n1, n2, fun s v => ?_, fun base TB => ?_⟩
  · obtain ⟨oc, od, kV, doc, pm, an, cdv, ct, osl, rfl, _, _⟩ := B42.fn.ex
    exact .of_eq rfl
  have tb1 : LamX.TabB base mg c1 P1 := TB (c1, P1) (by simp)
  have tb2 : LamX.TabB base mg c2 P2 := TB (c2, P2) (by simp)
  generalize hg : gT P w K mg base c1 P1 c2 P2 = g
  have tt1 : TabF g f42 "law" := by
    subst hg
    refine tabF_of (sc := defScope (Dr.topS 42)) code1 tb1 (by simp) fun p hp e => ?_
    rcases List.mem_cons.mp hp with rfl | hp
    · rfl
    · rcases List.mem_cons.mp hp with rfl | hp
      · exact absurd e.symm ne
      · cases hp
  have tt2 : TabF g f41 "_law_pair_right" := by
    subst hg
    refine tabF_of (sc := defScope (Dr.topS 41)) code2 tb2 (by simp) fun p hp e => ?_
    rcases List.mem_cons.mp hp with rfl | hp
    · exact absurd e ne
    · rcases List.mem_cons.mp hp with rfl | hp
      · rfl
      · cases hp
  have eP : g.prog = P := by subst hg; rfl
  have ew : g.w = w := by subst hg; rfl
  have eK : g.K = K := by subst hg; rfl
  have em : g.mg = mg := by subst hg; rfl
  have eb : g.base = base := by subst hg; rfl
  clear hg
  subst eP ew eK em eb
  have TY : Fy g := { f_isinstance := Q.z_isinstance, f_str := Q.z_str, f_int := Q.z_int, f_bool := Q.z_bool, f_list := Q.z_list, f_tuple := Q.z_tuple, f_dict := Q.z_dict, f_len := Q.z_len, f_all := Q.z_all, f_sorted := Q.z_sorted, f_range := Q.z_range, c_LETTERS := Q.cL, c_MOST_LETTERS := Q.cM, c_MOST_DICTS := Q.cD, c_MARK := Q.cK, f_set := Q.z_set, f_zip := Q.z_zip, f_min := Q.z_min, f_max := Q.z_max, f_repr := Q.z_repr, sys := Q.sys }
  have TX : Fx g := TY.toFx
  have TT : Dr.Tx g.mg := ⟨Q.z_int, Q.z_list, Q.z_len, Q.z_range⟩
  obtain ⟨_, B8⟩ := Q.A8
  obtain ⟨_, B9⟩ := Q.A9
  obtain ⟨_, B10⟩ := Q.A10
  obtain ⟨_, B12⟩ := Q.A12
  obtain ⟨_, B13⟩ := Q.A13
  obtain ⟨_, B14⟩ := Q.A14
  obtain ⟨_, B15⟩ := Q.A15
  obtain ⟨_, B16⟩ := Q.A16
  obtain ⟨_, B17⟩ := Q.A17
  obtain ⟨_, B19⟩ := Q.A19
  obtain ⟨_, B20⟩ := Q.A20
  obtain ⟨_, B21⟩ := Q.A21
  obtain ⟨_, B22⟩ := Q.A22
  obtain ⟨_, B23⟩ := Q.A23
  obtain ⟨_, B24⟩ := Q.A24
  obtain ⟨_, B25⟩ := Q.A25
  obtain ⟨_, B26⟩ := Q.A26
  obtain ⟨_, B27⟩ := Q.A27
  obtain ⟨_, B28⟩ := Q.A28
  obtain ⟨_, B29⟩ := Q.A29
  obtain ⟨_, B32⟩ := Q.A32
  obtain ⟨_, B33⟩ := Q.A33
  obtain ⟨_, B34⟩ := Q.A34
  obtain ⟨_, B35⟩ := Q.A35
  obtain ⟨_, B36⟩ := Q.A36
  obtain ⟨_, B37⟩ := Q.A37
  obtain ⟨_, B38⟩ := Q.A38
  obtain ⟨_, B39⟩ := Q.A39
  obtain ⟨_, B40⟩ := Q.A40
  obtain ⟨_, BS⟩ := Q.S
  -- drawing
  have t_take : FnW g "_law_take" 2 2 mTake := fn_take B21 TT B20
  have t_word : FnW g "_law_word" 1 3 mWord := fn_word B23 TT B21 B20
  have t_pick : FnW g "_law_pick" 2 3 d_pick := f__law_pick TX B22 (lv := 2) t_take
  have t_words : FnW g "_law_words" 2 4 d_words := f__law_words TX B24 (lv := 3) t_word
  have t_item : FnW g "_law_item" 1 4 d_ditem := f__law_item TX B25 (lv := 3) (t_take.mono (by omega)) t_pick t_word
  have t_td : ∀ l : Nat, FnW g "_law_thing" 4 (4 + l) (k_td l).1 ∧ FnW g "_law_dict" 4 (4 + l) (k_td l).2 := fun l => by
    induction l with
    | zero => exact ⟨fn_never B26 4, fn_never B27 4⟩
    | succ l ih => exact ⟨f__law_thing TX B26 (lv := 4 + l) (t_take.mono (by omega)) ih.2 (t_item.mono (by omega)), f__law_dict TX B27 (lv := 4 + l) (t_take.mono (by omega)) ih.1⟩
  have t_tu : ∀ l : Nat, FnW g "_law_turned" 2 (2 + l) (k_tu l) := fun l => by
    induction l with
    | zero => exact fn_never B38 2
    | succ l ih => exact f__law_turned TX B38 (lv := 2 + l) (t_take.mono (by omega)) ih
  have t_ne : ∀ l : Nat, FnW g "_law_near" 2 (3 + l) (k_ne l) := fun l => by
    induction l with
    | zero => exact fn_never B39 3
    | succ l ih => exact f__law_near TY B39 (lv := 3 + l) (t_take.mono (by omega)) (t_pick.mono (by omega)) ih
  have t_odd : FnW g "_law_odd" 1 4 d_odd := f__law_odd TY B35 (lv := 3) t_word t_pick
  have t_be : ∀ l : Nat, FnW g "_law_bent" 2 (4 + l) (k_be l) := fun l => by
    induction l with
    | zero => exact fn_never B36 4
    | succ l ih => exact f__law_bent TY B36 (lv := 4 + l) (t_take.mono (by omega)) (t_pick.mono (by omega)) ih (t_odd.mono (by omega))
  -- the package
  have t_letters : FnW g "is_letters" 1 1 d_letters := f_is_letters TX B8 (lv := 0)
  have t_name : FnW g "is_name" 1 2 d_name := f_is_name TX B9 (lv := 1) t_letters
  have t_pitem : FnW g "is_item" 1 2 d_item := f_is_item TX B10 (lv := 1) t_letters
  have t_st : ∀ l : Nat, FnK g "stands" 2 ["with_marks"] (2 + l) (k_st l) := fun l => by
    induction l with
    | zero => exact fnK_never BS rfl b_stands 2
    | succ l ih => exact f_stands TX BS (lv := 2 + l) (t_name.mono (by omega)) (t_pitem.mono (by omega)) ih
  have t_res : FnW g "is_result" 1 11 (d_result 8) := f_is_result TX B12 (lv := 10) (t_st 8)
  have t_kind : FnW g "kind_here" 1 1 d_kind := f_kind_here TX B13 (lv := 0)
  have t_sitem : FnW g "is_same_item" 2 1 d_sitem := f_is_same_item TX B15 (lv := 0)
  have t_sm : ∀ l : Nat, FnW g "is_same" 2 (1 + l) (k_sm l) := fun l => by
    induction l with
    | zero => exact fn_never B16 1
    | succ l ih => exact f_is_same TY B16 (lv := 1 + l) (t_kind.mono (by omega)) ih (t_sitem.mono (by omega))
  have t_same : FnW g "same" 2 12 (d_same 8) := f_same TY B17 (lv := 11) t_res ((t_sm 8).mono (by omega))
  have p_same : FnP g "same" ["other", "one"] perm2 12 (d_same 8) := fp_same TY B17 (lv := 11) t_res ((t_sm 8).mono (by omega))
  have e_same : FnE g (ga g.K "BadValue") "same" 2 12 (r_same 8) := fe_same TY Q.bad B17 (lv := 11) t_res
  have t_kof : FnW g "kind_of" 1 12 (d_kof 8) := f_kind_of TY B14 (lv := 11) t_res (t_kind.mono (by omega))
  have p_kof : FnP g "kind_of" ["result"] permI 12 (d_kof 8) := fp_kind_of TY B14 (lv := 11) t_res (t_kind.mono (by omega))
  have e_kof : FnE g (ga g.K "BadValue") "kind_of" 1 12 (r_kof 8) := fe_kind_of TY Q.bad B14 (lv := 11) t_res
  -- the law's own looks
  have t_lkind : FnW g "_law_kind" 1 1 d_lkind := f__law_kind TX B28 (lv := 0)
  have t_ls : ∀ l : Nat, FnW g "_law_same" 2 (1 + l) (k_ls l) := fun l => by
    induction l with
    | zero => exact fn_never B29 1
    | succ l ih => exact f__law_same TX B29 (lv := 1 + l) (t_lkind.mono (by omega)) ih
  have t_lword : FnW g "_law_is_word" 2 1 d_lword := f__law_is_word TX B32 (lv := 0)
  have t_litem : FnW g "_law_is_item" 1 2 d_litem := f__law_is_item TX B33 (lv := 1) t_lword
  have t_th : ∀ l : Nat, FnW g "_law_is_thing" 3 (2 + l) (k_th l) := fun l => by
    induction l with
    | zero => exact fn_never B34 2
    | succ l ih => exact f__law_is_thing TX B34 (lv := 2 + l) (t_lword.mono (by omega)) ih (t_litem.mono (by omega))
  have t_pair : FnW g "_law_pair_right" 2 16 (d_pair 8) := f__law_pair_right TY B41 (lv := 15) ((t_th 8).mono (by omega)) ((t_ls 8).mono (by omega)) (t_same.mono (by omega)) (p_same.mono (by omega)) B40 B37 Q.bad (lve := 12) (by omega) e_same tt2
  exact f_law TY B42 tt1 (Dr.ok_begun B19.fn TT) B19 (lv := 16) (by omega) (t_words.mono (by omega)) (t_take.mono (by omega)) ((t_td 9).1.mono (by omega)) ((t_tu 8).mono (by omega)) (t_odd.mono (by omega)) ((t_ne 8).mono (by omega)) ((t_be 8).mono (by omega)) t_pair (t_kof.mono (by omega)) (t_lkind.mono (by omega)) ((t_th 8).mono (by omega)) (p_kof.mono (by omega)) B40 B37 Q.bad (lve := 12) (by omega) e_kof law_hm
end Wp

end -- HE
section -- HF
set_option Elab.async false
set_option linter.all false
/-! k03. -/
open PySem PySem.W PySem.Calls PyProof.Rows
set_option maxRecDepth 100000 in
set_option maxHeartbeats 0 in
theorem PySem.Challenge.cw_mergebooks_k03_kinds_and_sameness_holds : PySem.Challenge.rw_mergebooks_k03_kinds_and_sameness.Holds := by
  w_on; o_law
  refine HandSHeadRun.head_any (r := OpenLaw.row PySem.Challenge.rw_mergebooks_k03_kinds_and_sameness) (q := view (OpenLaw.row PySem.Challenge.rw_mergebooks_k03_kinds_and_sameness).prog [41, 42]) (H := Hd.hk) (ob := Hd.ob) (M := 40000) (loose := Hd.loose) (d := HandSHeadRun.topDef (OpenLaw.row PySem.Challenge.rw_mergebooks_k03_kinds_and_sameness).prog 42) (kwd := []) Hd.ob_eq
    (by kernel_rfl) (fun s => by kernel_rfl) Hd.run (by kernel_rfl) (by kernel_rfl) (by kernel_rfl) (by rfl) (by first | assumption | decide +kernel) (by decide +kernel) ⟨rfl, rfl, rfl, rfl, rfl, by decide +kernel⟩ ?hw ?hc
  case hw => w_witness2
  case hc =>
    refine Gd.walkT (l := PySem.Challenge.rw_mergebooks_k03_kinds_and_sameness) (n := 63) (k := 17) (x := "_law_script") rfl (by decide) (by kernel_rfl) ⟨rfl, by decide, by decide⟩ ?F
    intro w mg mb fa h mean Y T hmg0
    obtain ⟨K, KX, c1, c⟩ := Y
    have hmg : mg ("law" : PySem.Str) = some (.ref fa) := by
      have e : (HandSHeadRun.topDef (OpenLaw.row PySem.Challenge.rw_mergebooks_k03_kinds_and_sameness).prog 42).name = ("law" : PySem.Str) := by kernel_rfl
      rw [← e]
      exact hmg0
    have Q := Hd.facts KX T.g c1 c
    obtain ⟨fd, a1, P1, a2, P2, t1, t2, ne, n1, n2, hb, hF⟩ := Wp.law_fn (P := (PySem.Challenge.rw_mergebooks_k03_kinds_and_sameness).prog) (w := w) KX T.g Q
    obtain ⟨f42, B42⟩ := Q.A42
    have e := hmg.symm.trans B42.m
    cases e
    have x1 := PySem.W.tab_of T KX (x := "law") (d := HandSHeadRun.topDef (OpenLaw.row PySem.Challenge.rw_mergebooks_k03_kinds_and_sameness).prog 42) (by kernel_rfl) t1
    have x2 := PySem.W.tab_of T KX (x := "_law_pair_right") (d := HandSHeadRun.topDef (OpenLaw.row PySem.Challenge.rw_mergebooks_k03_kinds_and_sameness).prog 41) (by kernel_rfl) t2
    refine ⟨K, fd, Wp.spLawW (Wp.gT (PySem.Challenge.rw_mergebooks_k03_kinds_and_sameness).prog w K mg h a1 P1 a2 P2), [(a1, P1), (a2, P2)], KX, ⟨?_, ?_, ?_⟩, hb, fun H a is hl hT hS => ⟨a, is, rfl, hS, hl, ?_, fun _ => rfl⟩, fun base _ _ TB => hF base TB⟩
    · intro p hp
      rcases List.mem_cons.mp hp with rfl | hp
      · exact x1.2
      · rcases List.mem_cons.mp hp with rfl | hp
        · exact x2.2
        · cases hp
    · intro p hp
      rcases List.mem_cons.mp hp with rfl | hp
      · exact n1
      · rcases List.mem_cons.mp hp with rfl | hp
        · exact n2
        · cases hp
    · intro p hp
      rcases List.mem_cons.mp hp with rfl | hp
      · exact x1.1
      · rcases List.mem_cons.mp hp with rfl | hp
        · exact x2.1
        · cases hp
    · intro p hp
      rcases List.mem_cons.mp hp with rfl | hp
      · exact LamX.TabS.nil (hT (a1, P1) (by simp))
      · rcases List.mem_cons.mp hp with rfl | hp
        · exact LamX.TabS.nil (hT (a2, P2) (by simp))
        · cases hp

end -- HF
