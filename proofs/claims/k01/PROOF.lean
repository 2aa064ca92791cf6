import PyProof.Rows.All
import Wide.All
import OpenK.AllK
import Wide.FinOn
import PySem.Challenge.RW_mergebooks_k01_errors_apart
import HandS.ForMost
import HandS.Wide
import HandS.IsInst
import HandS.TupAny
import HandS.Star
import HandS.Deep
import HandS.DictComp
import HandS.Property
import HandS.Conv
import HandS.Flow
import HandS.Walk
import HandS.ForExc
import HandS.ExcOwn
import HandS.ExcValue
import HandS.ExcInit
import HandS.ExcField
import KE.KExcIs
import HandS.HeadEnd
import PyProof.ReprRoads
import Lean
import HandS.Head0
import HandS.Head1
import HandS.Head2
import HandS.HeadHook1
import HandS.HeadHook2
import HandS.Words
import HandS.WordsExc
import HandS.Defaults
set_option Elab.async false
set_option linter.all false
set_option maxRecDepth 100000
/-! Core: values as trees, a small language of defs over them, and what it computes. -/
namespace MB
open PySem L2

/-- values as trees; loc: a thing that changes and is shared, by its number in the store; ktup: a tuple that the module holds -/
inductive T where
  | non | bl (b : Bool) | int (i : Int) | str (x : Str)
  | lst (xs : List T) | tup (xs : List T) | dct (kvs : List (T × T))
  | ins (c : Nat) (fs : List (Str × T)) | loc (n : Nat) | ktup (xs : List T)
  deriving Inhabited

abbrev Store := List T

/-- an answer: a value and the store; an exception; or none (nothing is said) -/
inductive R (α : Type) where
  | ok (a : α) (S : Store) | exc (e : T) (S : Store) | bad

abbrev M (α : Type) := Store → R α
namespace R
def bind {α β : Type} (x : R α) (f : α → Store → R β) : R β := match x with
  | .ok a S => f a S
  | .exc e S => .exc e S
  | .bad => .bad
end R
def M.ret {α : Type} (a : α) : M α := fun S => .ok a S
def M.bnd {α β : Type} (x : M α) (f : α → M β) : M β := fun S => (x S).bind f
def M.bad {α : Type} : M α := fun _ => .bad
def M.opt {α : Type} (o : Option α) : M α := fun S => match o with
  | some a => .ok a S
  | none => .bad
instance : Monad M where
  pure := M.ret
  bind := M.bnd

@[simp] theorem pure_eq {α : Type} (a : α) (S : Store) : (pure a : M α) S = .ok a S := rfl
@[simp] theorem ret_eq {α : Type} (a : α) (S : Store) : (M.ret a : M α) S = .ok a S := rfl
theorem bind_eq {α β : Type} (x : M α) (f : α → M β) (S : Store) : (x >>= f) S = (x S).bind f := rfl
@[simp] theorem bnd_eq {α β : Type} (x : M α) (f : α → M β) (S : Store) : (M.bnd x f) S = (x S).bind f := rfl
@[simp] theorem R.bind_ok {α β : Type} (a : α) (S : Store) (f : α → Store → R β) : (R.ok a S).bind f = f a S := rfl
@[simp] theorem R.bind_exc {α β : Type} (e : T) (S : Store) (f : α → Store → R β) : (R.exc e S : R α).bind f = .exc e S := rfl
@[simp] theorem R.bind_bad {α β : Type} (f : α → Store → R β) : (R.bad : R α).bind f = .bad := rfl
@[simp] theorem bad_eq {α : Type} (S : Store) : (M.bad : M α) S = .bad := rfl
@[simp] theorem opt_some {α : Type} (a : α) (S : Store) : M.opt (some a) S = .ok a S := rfl
@[simp] theorem opt_none {α : Type} (S : Store) : (M.opt (none : Option α)) S = .bad := rfl

/-! ### operations on trees -/
def b2 (b : Bool) : Int := if b then 1 else 0
mutual
/-- Python's == of data -/
def T.eqv : T → T → Bool
  | .non, .non => true
  | .bl a, .bl b => a == b
  | .bl a, .int i => b2 a == i
  | .int i, .bl b => i == b2 b
  | .int i, .int j => i == j
  | .str x, .str y => decide (x = y)
  | .lst xs, .lst ys => eqvs xs ys
  | .tup xs, .tup ys => eqvs xs ys
  | _, _ => false
def eqvs : List T → List T → Bool
  | [], [] => true
  | x :: xs, y :: ys => x.eqv y && eqvs xs ys
  | _, _ => false
end
/-- a thing without parts -/
def T.atom : T → Bool
  | .non | .bl _ | .int _ | .str _ => true
  | _ => false
/-- data without dicts and objects, so deep at most -/
def T.pl : Nat → T → Bool
  | _, .non | _, .bl _ | _, .int _ => true
  | _, .str x => x.cps.all (· < 0x110000)
  | n + 1, .lst xs => xs.all (T.pl n)
  | n + 1, .tup xs => xs.all (T.pl n)
  | _, _ => false
/-- the kind of a thing, for == of things of unlike kinds -/
def T.kd : T → Nat
  | .non => 0 | .bl _ => 1 | .int _ => 1 | .str _ => 2 | .lst _ => 3 | .tup _ => 4 | .dct _ => 5 | .ins _ _ => 6 | .loc _ => 7 | .ktup _ => 8
/-- ==, where it is said -/
def eqT (x y : T) : Option Bool :=
  if x.atom && y.atom then some (x.eqv y)
  else match x, y with
  | .lst xs, .lst ys => if xs.length = ys.length then (if x.pl 8 && y.pl 8 then some (x.eqv y) else none) else some false
  | .tup xs, .tup ys => if x.pl 8 && y.pl 8 then some (x.eqv y) else none
  | .dct _, .tup _ => some false
  | .tup _, .dct _ => some false
  | _, _ => if x.kd < 5 && y.kd < 5 && x.kd != y.kd then some false else none

/-- a key -/
def T.key : T → Option Key
  | .int i => some (.inl i)
  | .str x => some (.inr x)
  | _ => none
def keysOf : List T → Option (List Key)
  | [] => some []
  | x :: xs => match x.key, keysOf xs with
    | some k, some ks => some (k :: ks)
    | _, _ => none
inductive TK where
  | k (k : Key) | t (ks : List Key)
  deriving DecidableEq
def T.tk : T → Option TK
  | .int i => some (.k (.inl i))
  | .str x => some (.k (.inr x))
  | .tup (x :: xs) => (keysOf (x :: xs)).map .t
  | _ => none
/-- a key of the form that a dict's keys have -/
def dform (kvs : List (T × T)) (x : T) : Bool := x.tk.isSome && kvs.all fun p => p.1.key.isSome == x.key.isSome
def dget (kvs : List (T × T)) (k : T) : Option T := (kvs.find? fun p => decide (p.1.tk = k.tk)).map (·.2)
def dhas (kvs : List (T × T)) (k : T) : Bool := kvs.any fun p => decide (p.1.tk = k.tk)
def dput (kvs : List (T × T)) (k v : T) : List (T × T) :=
  if dhas kvs k then kvs.map fun p => if p.1.tk = k.tk then (p.1, v) else p else kvs ++ [(k, v)]
def ddrop (kvs : List (T × T)) (k : T) : List (T × T) := kvs.filter fun p => decide (p.1.tk ≠ k.tk)

/-- xs[i] -/
def ixN (n : Nat) (i : Int) : Option Nat := if 0 ≤ i then (if i < n then some i.toNat else none) else if -(n : Int) ≤ i then some (i + n).toNat else none
/-- a bound of a slice -/
def clampB (n : Nat) (i : Int) : Nat := if i < 0 then (i + n).toNat else min i.toNat n
def cutL {α : Type} (xs : List α) (lo hi : Option Int) : List α :=
  let n := xs.length
  let a := match lo with | some i => clampB n i | none => 0
  let b := match hi with | some i => clampB n i | none => n
  (xs.drop a).take (b - a)

inductive BOp where | add | sub | mul | fdiv | mod | pow
  deriving DecidableEq, BEq
inductive COp where | eq | ne | lt | le | gt | ge | inn | nin | is | isnot
  deriving DecidableEq, BEq

def binT : BOp → T → T → Option T
  | .add, .int i, .int j => some (.int (i + j))
  | .add, .str x, .str y => if x.length + y.length ≤ sizeLine then some (.str (x ++ y)) else none
  | .add, .lst xs, .lst ys => if xs.length + ys.length ≤ sizeLine then some (.lst (xs ++ ys)) else none
  | .add, .tup xs, .tup ys => if xs.length + ys.length ≤ sizeLine then some (.tup (xs ++ ys)) else none
  | .sub, .int i, .int j => some (.int (i - j))
  | .mul, .int i, .int j => if (-(2 ^ 64) < i ∧ i < 2 ^ 64) ∨ (-(2 ^ 64) < j ∧ j < 2 ^ 64) then some (.int (i * j)) else none
  | .fdiv, .int i, .int j => if 0 < j ∧ j < 1073741824 then some (.int (i / j)) else none
  | .mod, .int i, .int j => if 0 < j then some (.int (i % j)) else none
  | .pow, .int i, .int j => if 0 ≤ j ∧ j ≤ 1000000 ∧ i.natAbs < 2 ^ 64 then some (.int (i ^ j.toNat)) else none
  | _, _, _ => none

/-- x in ys (isL: a list) -/
def memT (isL : Bool) (x : T) (ys : List T) : Option Bool :=
  if (x.atom && ys.all T.atom) || (isL && x.pl 8 && ys.all (T.pl 8)) then some (ys.any fun y => y.eqv x) else none
/-- one text within another -/
def strIn (x y : Str) : Bool := !(Builtin.Str.occurrences y x 0 y.length 1).isEmpty

def cmpT : COp → T → T → Option Bool
  | .eq, x, y => eqT x y
  | .ne, x, y => (eqT x y).map (!·)
  | .lt, .int i, .int j => some (decide (i < j))
  | .le, .int i, .int j => some (decide (i ≤ j))
  | .gt, .int i, .int j => some (decide (j < i))
  | .ge, .int i, .int j => some (decide (j ≤ i))
  | .lt, .str x, .str y => some (decide (x.cps.toList < y.cps.toList))
  | .le, .str x, .str y => some (!decide (y.cps.toList < x.cps.toList))
  | .ge, .str x, .str y => some (!decide (x.cps.toList < y.cps.toList))
  | .is, x, .non => some (match x with | .non => true | _ => false)
  | .isnot, x, .non => some (match x with | .non => false | _ => true)
  | .inn, .str x, .str y => some (strIn x y)
  | .nin, .str x, .str y => some (!strIn x y)
  | .inn, x, .lst ys => memT true x ys
  | .nin, x, .lst ys => (memT true x ys).map (!·)
  | .inn, x, .tup ys => memT false x ys
  | .nin, x, .tup ys => (memT false x ys).map (!·)
  | .inn, x, .ktup ys => memT false x ys
  | .nin, x, .ktup ys => (memT false x ys).map (!·)
  | .inn, x, .dct kvs => if dform kvs x then some (dhas kvs x) else none
  | .nin, x, .dct kvs => if dform kvs x then some (!dhas kvs x) else none
  | _, _, _ => none

/-! ### the language -/
inductive TG where
  | nm (i : Nat) | tp (is : List Nat)
/-- built-in functions -/
inductive BI where
  | len | list | tuple | dict | sorted | sortedSet | all | int | min2 | max2 | str
  deriving DecidableEq, BEq
/-- methods of built-in types -/
inductive ME where
  | get | index | join | split
  deriving DecidableEq, BEq
/-- what isinstance asks -/
inductive CS where
  | ty (ns : List String) | own (c : Nat)
inductive E where
  | var (i : Nat) | lit (t : T) | glb (x : Str) (t : T)
  | bin (op : BOp) (a b : E) | cmp (op : COp) (a b : E) | chn (o1 o2 : COp) (a b c : E)
  | neg (a : E) | not (a : E) | and (a b : E) | or (a b : E) | ife (c a b : E)
  | lst (es : List E) | rep (es : List E) (k : E) | tup (es : List E) | dct (es : List E) | star (e : E)
  | rng (es : List E) | enu (e : E) | zip (a b : E) | itm (o : E) | vls (o : E)
  | sub (a b : E) | slc (a lo hi : E) | nil
  | call (f : Nat) (es : List E) | bi (b : BI) (e : E) | bi2 (b : BI) (x y : E) | me (m : ME) (o : E) (es : List E)
  | att (o : E) (f : Str) | mcl (c m : Nat) (o : E) (es : List E) | prp (c m : Nat) (o : E) | mk (c : Nat) (es : List E)
  | isi (e : E) (c : CS)
  | mpop (o i : E)
  | lc1 (own : List Nat) (elt : E) (tg : TG) (it cond : E)
  | lc2 (own own2 : List Nat) (elt : E) (tg : TG) (it cond : E) (tg2 : TG) (it2 cond2 : E)
  | dc1 (own : List Nat) (k v : E) (tg : TG) (it cond : E)
  | dc2 (own own2 : List Nat) (k v : E) (tg : TG) (it cond : E) (tg2 : TG) (it2 cond2 : E)
  | sc2 (own own2 : List Nat) (elt : E) (tg : TG) (it cond : E) (tg2 : TG) (it2 cond2 : E)
  deriving Inhabited

/-- a slot: a thing that no longer changes; a container that this name alone holds -/
inductive Sl where
  | sh (t : T) | ow (t : T)
abbrev Env := List (Option Sl)
def rdS (ρ : Env) (i : Nat) : Option T := match ρ[i]? with
  | some (some (.sh t)) => some t
  | _ => none
def rdB (ρ : Env) (i : Nat) : Option T := match ρ[i]? with
  | some (some (.sh t)) => some t
  | some (some (.ow t)) => some t
  | _ => none
def borrow? (ρ : Env) : E → Option T
  | .var i => rdB ρ i
  | _ => none
def wipeE (ρ : Env) : List Nat → Env
  | [] => ρ
  | i :: is => wipeE (ρ.set i none) is
/-- what stands at a loc -/
def viewS (S : Store) : T → T
  | .loc n => S.getD n .non
  | t => t
def truT (S : Store) (t : T) : Option Bool := match viewS S t with
  | .non => some false
  | .bl b => some b
  | .int i => some (i != 0)
  | .str x => if x.length ≤ sizeLine then some (x.length != 0) else none
  | .lst xs => some (!xs.isEmpty)
  | .tup xs => some (!xs.isEmpty)
  | _ => none
def bindTG (ρ : Env) : TG → T → Option Env
  | .nm i, t => if i < ρ.length then some (ρ.set i (some (.sh t))) else none
  | .tp is, .tup ts => if is.length = ts.length ∧ is.all (· < ρ.length) then some ((is.zip ts).foldl (fun r p => r.set p.1 (some (.sh p.2))) ρ) else none
  | _, _ => none

/-- what a for walks: the items of a thing -/
def itemsT : T → Option (List T)
  | .lst xs => some xs
  | .tup xs => some xs
  | .ktup xs => some xs
  | .str x => if x.length ≤ sizeLine then some (x.cps.toList.map fun c => .str ⟨#[c]⟩) else none
  | .dct kvs => some (kvs.map (·.1))
  | _ => none
/-- what a star spreads -/
def starT : T → Option (List T)
  | .lst xs => some xs
  | .tup xs => some xs
  | .dct kvs => if kvs.all (fun p => p.1.key.isSome) then some (kvs.map (·.1)) else none
  | _ => none
def rangeL (lo : Int) (n : Nat) : List T := (List.range n).map fun (i : Nat) => .int (lo + (i : Int))
def inLine (i : Int) : Bool := -(2 ^ 62) ≤ i && i < 2 ^ 62
def rangeT : List T → Option (List T)
  | [.int n] => if inLine n then some (rangeL 0 n.toNat) else none
  | [.int a, .int b] => if inLine a && inLine b then some (rangeL a (b - a).toNat) else none
  | [.int a, .int b, .int c] => if inLine a && inLine b && c == -1 then some ((List.range (a - b).toNat).map fun (i : Nat) => .int (a + (i : Int) * (-1))) else none
  | _ => none

def strsT : List T → Option (List Str)
  | [] => some []
  | .str x :: ts => (strsT ts).map (x :: ·)
  | _ => none
/-- by code points -/
def leS (x y : Str) : Bool := !Spec.ltCps y.cps.toList x.cps.toList
def sortS (xs : List Str) : List Str := xs.mergeSort leS
def boolsT : List T → Option (List Bool)
  | [] => some []
  | .bl b :: ts => (boolsT ts).map (b :: ·)
  | _ => none
def pairsT : List T → Option (List (T × T))
  | [] => some []
  | .tup [a, b] :: ts => (pairsT ts).map ((a, b) :: ·)
  | _ => none
def pairUp : List T → Option (List (T × T))
  | [] => some []
  | a :: b :: ts => (pairUp ts).map ((a, b) :: ·)
  | _ => none
def putAll (kvs : List (T × T)) (ps : List (T × T)) : List (T × T) := ps.foldl (fun d p => dput d p.1 p.2) kvs
def idxT (x : T) : List T → Nat → Option Nat
  | [], _ => none
  | y :: ys, i => match eqT y x with
    | some true => some i
    | some false => idxT x ys (i + 1)
    | none => none

def lenT : T → Option Nat
  | .lst xs => some xs.length
  | .tup xs => some xs.length
  | .dct xs => some xs.length
  | .str x => if x.length ≤ sizeLine then some x.length else none
  | _ => none
/-- built-in functions of values (arguments seen through the store) -/
def biT : BI → T → Option T
  | .len, t => (lenT t).map fun (k : Nat) => T.int (k : Int)
  | .list, .lst xs => some (.lst xs)
  | .list, .tup xs => some (.lst xs)
  | .list, .dct kvs => if kvs.all (fun p => p.1.key.isSome) then some (.lst (kvs.map (·.1))) else none
  | .tuple, .lst xs => some (.tup xs)
  | .tuple, .tup xs => some (.tup xs)
  | .tuple, .dct kvs => if kvs.all (fun p => p.1.key.isSome) then some (.tup (kvs.map (·.1))) else none
  | .dict, .dct kvs => some (.dct kvs)
  | .dict, .lst ps => (pairsT ps).bind fun l => if l.all (fun p => p.1.key.isSome) then some (.dct (putAll [] l)) else none
  | .sorted, .lst ts => (strsT ts).bind fun l => if l.length < 64 then some (.lst ((sortS l).map .str)) else none
  | .sorted, .dct kvs => (strsT (kvs.map (·.1))).bind fun l => if l.length < 64 then some (.lst ((sortS l).map .str)) else none
  | .sortedSet, .lst ts => (strsT ts).bind fun l => if l.length < 64 then some (.lst ((sortS l.eraseDups).map .str)) else none
  | .all, .lst ts => (boolsT ts).map fun l => .bl (l.all id)
  | .int, .int i => some (.int i)
  | .int, .bl b => some (.int (b2 b))
  | _, _ => none
def bi2T : BI → T → T → Option T
  | .min2, .int i, .int j => some (.int (if j < i then j else i))
  | .max2, .int i, .int j => some (.int (if j > i then j else i))
  | _, _, _ => none
def meT : ME → T → List T → Option T
  | .get, .dct kvs, [k, d] => if k.key.isSome && dform kvs k then some ((dget kvs k).getD d) else none
  | .index, .lst xs, [x] => (idxT x xs 0).map fun (k : Nat) => T.int (k : Int)
  | .join, .str z, [.lst ts] => (strsT ts).bind fun l => if (Txt.join z l).length ≤ 16777216 then some (.str (Txt.join z l)) else none
  | .split, .str a, [.str b] => if b.length == 0 then none else if a.length + 2 ≤ sizeLine then some (.lst ((Txt.split a b).map .str)) else none
  | _, _, _ => none
def subT : T → T → Option T
  | .lst xs, .int i => (ixN xs.length i).bind fun j => xs[j]?
  | .tup xs, .int i => (ixN xs.length i).bind fun j => xs[j]?
  | .str x, .int i => if x.length ≤ sizeLine then (ixN x.cps.size i).bind fun j => x.cps[j]?.map fun c => .str ⟨#[c]⟩ else none
  | .dct kvs, k => if dform kvs k then dget kvs k else none
  | _, _ => none
def optInt : T → Option (Option Int)
  | .non => some none
  | .int i => some (some i)
  | _ => none
def slcT : T → T → T → Option T
  | .lst xs, lo, hi => match optInt lo, optInt hi with
    | some a, some b => some (.lst (cutL xs a b))
    | _, _ => none
  | .tup xs, lo, hi => match optInt lo, optInt hi with
    | some a, some b => some (.tup (cutL xs a b))
    | _, _ => none
  | _, _, _ => none
def attT (f : Str) : T → Option T
  | .ins _ fs => fs.lookup f
  | _ => none
def isiT (c : CS) : T → Option Bool := fun t => match c, t with
  | .own c, .ins d _ => some (c == d)
  | .own _, _ => some false
  | .ty ns, .non => some false
  | .ty ns, .bl _ => some (ns.contains "bool" || ns.contains "int")
  | .ty ns, .int _ => some (ns.contains "int")
  | .ty ns, .str _ => some (ns.contains "str")
  | .ty ns, .lst _ => some (ns.contains "list")
  | .ty ns, .tup _ => some (ns.contains "tuple")
  | .ty ns, .dct _ => some (ns.contains "dict")
  | .ty _, .ins _ _ => some false
  | .ty _, .loc _ => none
  | .ty _, .ktup _ => none
/-- what calls give: defs; defs one level below (properties); new instances; __init__ by class -/
structure Calls where
  fn : Nat → List T → M T
  fd : Nat → List T → M T
  nw : Nat → List T → M T
  ini : Nat → List T → M T

/-- a comprehension's loop: f by the item gives none (left out) or what is kept -/
def walkM {α : Type} (f : T → M (Option α)) : List T → M (List α)
  | [] => M.ret []
  | x :: xs => M.bnd (f x) fun r => M.bnd (walkM f xs) fun rs => M.ret (match r with
    | some a => a :: rs
    | none => rs)
def walkM2 {α : Type} (f : T → M (List α)) : List T → M (List α)
  | [] => M.ret []
  | x :: xs => M.bnd (f x) fun r => M.bnd (walkM2 f xs) fun rs => M.ret (r ++ rs)
def M.tru (t : T) : M Bool := fun S => (M.opt (truT S t)) S
def M.view (t : T) : M T := fun S => .ok (viewS S t) S

def orB (o : Option T) (m : M T) : M T := match o with
  | some t => M.ret t
  | none => m
def M.items (t : T) : M (List T) := fun S => (M.opt (itemsT (viewS S t))) S

mutual
def evE (C : Calls) : E → Env → M T
  | .var i, ρ => M.opt (rdS ρ i)
  | .lit t, _ => M.ret t
  | .glb _ t, _ => M.ret t
  | .bin op a b, ρ => M.bnd (orB (borrow? ρ a) (evE C a ρ)) fun x => M.bnd (orB (borrow? ρ b) (evE C b ρ)) fun y => M.opt (binT op x y)
  | .cmp op a b, ρ => M.bnd (orB (borrow? ρ a) (evE C a ρ)) fun x => M.bnd (orB (borrow? ρ b) (evE C b ρ)) fun y => M.bnd (M.view y) fun y => M.bnd (M.view x) fun x => M.opt ((cmpT op x y).map .bl)
  | .chn o1 o2 a b c, ρ => M.bnd (orB (borrow? ρ a) (evE C a ρ)) fun x => M.bnd (orB (borrow? ρ b) (evE C b ρ)) fun y => M.bnd (M.opt (cmpT o1 x y)) fun r =>
      if r then M.bnd (orB (borrow? ρ c) (evE C c ρ)) fun z => M.opt ((cmpT o2 y z).map .bl) else M.ret (.bl false)
  | .neg a, ρ => M.bnd (evE C a ρ) fun x => M.opt (match x with | .int i => some (.int (-i)) | _ => none)
  | .not a, ρ => M.bnd (orB (borrow? ρ a) (evE C a ρ)) fun x => M.bnd (M.tru x) fun b => M.ret (.bl (!b))
  | .and a b, ρ => M.bnd (evE C a ρ) fun x => M.bnd (M.tru x) fun r => if r then evE C b ρ else M.ret x
  | .or a b, ρ => M.bnd (evE C a ρ) fun x => M.bnd (M.tru x) fun r => if r then M.ret x else evE C b ρ
  | .ife c a b, ρ => M.bnd (evE C c ρ) fun x => M.bnd (M.tru x) fun r => if r then evE C a ρ else evE C b ρ
  | .lst es, ρ => M.bnd (evEs C es ρ) fun xs => M.opt (if xs.length ≤ 1000 then some (.lst xs) else none)
  | .rep es k, ρ => M.bnd (evEs C es ρ) fun xs => M.bnd (evE C k ρ) fun y => M.opt (match y with
      | .int j => if xs.length ≤ 1000 ∧ -(2 ^ 63) ≤ j ∧ j < 2 ^ 63 ∧ xs.length * j.toNat ≤ sizeLine then some (.lst (List.replicate j.toNat xs).flatten) else none
      | _ => none)
  | .tup es, ρ => M.bnd (evEs C es ρ) fun xs => M.opt (if xs.length ≤ 1000 then some (.tup xs) else none)
  | .dct es, ρ => M.bnd (evEs C es ρ) fun xs => M.bnd (M.opt (pairUp xs)) fun ps => M.opt (if ps.length ≤ 15 ∧ (ps.all fun p => p.1.key.isSome) then some (.dct (putAll [] ps)) else none)
  | .star _, _ => M.bad
  | .rng es, ρ => M.bnd (evEs C es ρ) fun xs => M.opt ((rangeT xs).map .lst)
  | .enu e, ρ => M.bnd (orB (borrow? ρ e) (evE C e ρ)) fun x => M.bnd (M.view x) fun x => M.opt (match x with
      | .lst ts => some (.lst ((ts.zipIdx).map fun p => .tup [.int p.2, p.1]))
      | _ => none)
  | .zip a b, ρ => M.bnd (orB (borrow? ρ a) (evE C a ρ)) fun x => M.bnd (orB (borrow? ρ b) (evE C b ρ)) fun y => M.opt (match x, y with
      | .lst ts, .lst us => some (.lst ((ts.zip us).map fun p => .tup [p.1, p.2]))
      | _, _ => none)
  | .itm o, ρ => M.bnd (evE C o ρ) fun x => M.opt (match x with
      | .dct kvs => some (.lst (kvs.map fun p => .tup [p.1, p.2]))
      | _ => none)
  | .vls o, ρ => M.bnd (evE C o ρ) fun x => M.opt (match x with
      | .dct kvs => if kvs.all (fun p => p.1.key.isSome) then some (.lst (kvs.map (·.2))) else none
      | _ => none)
  | .sub a b, ρ => M.bnd (orB (borrow? ρ a) (evE C a ρ)) fun x => M.bnd (evE C b ρ) fun y => M.bnd (M.view x) fun x => M.opt (subT x y)
  | .slc a lo hi, ρ => M.bnd (orB (borrow? ρ a) (evE C a ρ)) fun x => M.bnd (evE C lo ρ) fun y => M.bnd (evE C hi ρ) fun z => M.bnd (M.view x) fun x => M.opt (slcT x y z)
  | .nil, _ => M.ret .non
  | .call f es, ρ => M.bnd (evEs C es ρ) fun xs => C.fn f xs
  | .bi b e, ρ => M.bnd (orB (borrow? ρ e) (evE C e ρ)) fun x => M.bnd (M.view x) fun x => M.opt (biT b x)
  | .bi2 b a c, ρ => M.bnd (evE C a ρ) fun x => M.bnd (evE C c ρ) fun y => M.opt (bi2T b x y)
  | .me m o es, ρ => M.bnd (orB (borrow? ρ o) (evE C o ρ)) fun x => M.bnd (evEs C es ρ) fun ys => M.bnd (M.view x) fun x => M.opt (meT m x ys)
  | .att o f, ρ => M.bnd (evE C o ρ) fun x => M.bnd (M.view x) fun x => M.opt (attT f x)
  | .mcl c m o es, ρ => M.bnd (evE C o ρ) fun x => M.bnd (evEs C es ρ) fun ys => M.bnd (M.view x) fun z => match z with
      | .ins d _ => if c = d then C.fn m (x :: ys) else M.bad
      | _ => M.bad
  | .prp c m o, ρ => M.bnd (evE C o ρ) fun x => M.bnd (M.view x) fun z => match z with
      | .ins d _ => if c = d then C.fd m [x] else M.bad
      | _ => M.bad
  | .mk c es, ρ => M.bnd (evEs C es ρ) fun xs => C.nw c xs
  | .isi e c, ρ => M.bnd (orB (borrow? ρ e) (evE C e ρ)) fun x => M.bnd (M.view x) fun x => M.opt ((isiT c x).map .bl)
  | .mpop o i, ρ => M.bnd (evE C o ρ) fun x => M.bnd (evE C i ρ) fun y => match x, y with
      | .loc n, .int i => fun S => match S[n]? with
        | some (.lst xs) => (match ixN xs.length i with
          | some j => (match xs[j]? with
            | some v => .ok v (S.set n (.lst (xs.eraseIdx j)))
            | none => .bad)
          | none => .bad)
        | _ => .bad
      | _, _ => M.bad
  | .lc1 own elt tg it cond, ρ => M.bnd (orB (borrow? ρ it) (evE C it ρ)) fun q => M.bnd (M.items q) fun xs => M.bnd (walkM (fun x => M.bnd (M.opt (bindTG (wipeE ρ own) tg x)) fun r =>
      M.bnd (evE C cond r) fun c => M.bnd (M.tru c) fun k => if k then M.bnd (evE C elt r) fun y => M.ret (some y) else M.ret none) xs) fun ys => M.ret (.lst ys)
  | .lc2 own own2 elt tg it cond tg2 it2 cond2, ρ => M.bnd (orB (borrow? ρ it) (evE C it ρ)) fun q => M.bnd (M.items q) fun xs => M.bnd (walkM2 (fun x => M.bnd (M.opt (bindTG (wipeE ρ own) tg x)) fun r =>
      M.bnd (evE C cond r) fun c => M.bnd (M.tru c) fun k => if k then M.bnd (orB (borrow? r it2) (evE C it2 r)) fun q => M.bnd (M.items q) fun xs2 => walkM (fun x2 => M.bnd (M.opt (bindTG (wipeE r own2) tg2 x2)) fun r2 =>
        M.bnd (evE C cond2 r2) fun c2 => M.bnd (M.tru c2) fun k2 => if k2 then M.bnd (evE C elt r2) fun y => M.ret (some y) else M.ret none) xs2 else M.ret []) xs) fun ys => M.ret (.lst ys)
  | .dc1 own k v tg it cond, ρ => M.bnd (orB (borrow? ρ it) (evE C it ρ)) fun q => M.bnd (M.items q) fun xs => M.bnd (walkM (fun x => M.bnd (M.opt (bindTG (wipeE ρ own) tg x)) fun r =>
      M.bnd (evE C cond r) fun c => M.bnd (M.tru c) fun b => if b then M.bnd (evE C k r) fun y => M.bnd (evE C v r) fun z => M.ret (some (y, z)) else M.ret none) xs) fun ps =>
        M.opt (if ps.all (fun p => p.1.key.isSome) then some (.dct (putAll [] ps)) else none)
  | .dc2 own own2 k v tg it cond tg2 it2 cond2, ρ => M.bnd (orB (borrow? ρ it) (evE C it ρ)) fun q => M.bnd (M.items q) fun xs => M.bnd (walkM2 (fun x => M.bnd (M.opt (bindTG (wipeE ρ own) tg x)) fun r =>
      M.bnd (evE C cond r) fun c => M.bnd (M.tru c) fun b => if b then M.bnd (orB (borrow? r it2) (evE C it2 r)) fun q => M.bnd (M.items q) fun xs2 => walkM (fun x2 => M.bnd (M.opt (bindTG (wipeE r own2) tg2 x2)) fun r2 =>
        M.bnd (evE C cond2 r2) fun c2 => M.bnd (M.tru c2) fun b2 => if b2 then M.bnd (evE C k r2) fun y => M.bnd (evE C v r2) fun z => M.ret (some (y, z)) else M.ret none) xs2 else M.ret []) xs) fun ps =>
        M.opt (if ps.all (fun p => p.1.tk.isSome) then some (.dct (putAll [] ps)) else none)
  | .sc2 own own2 elt tg it cond tg2 it2 cond2, ρ => M.bnd (orB (borrow? ρ it) (evE C it ρ)) fun q => M.bnd (M.items q) fun xs => M.bnd (walkM2 (fun x => M.bnd (M.opt (bindTG (wipeE ρ own) tg x)) fun r =>
      M.bnd (evE C cond r) fun c => M.bnd (M.tru c) fun k => if k then M.bnd (orB (borrow? r it2) (evE C it2 r)) fun q => M.bnd (M.items q) fun xs2 => walkM (fun x2 => M.bnd (M.opt (bindTG (wipeE r own2) tg2 x2)) fun r2 =>
        M.bnd (evE C cond2 r2) fun c2 => M.bnd (M.tru c2) fun k2 => if k2 then M.bnd (evE C elt r2) fun y => M.ret (some y) else M.ret none) xs2 else M.ret []) xs) fun ys =>
        M.opt (biT .sortedSet (.lst ys))
def evEs (C : Calls) : List E → Env → M (List T)
  | [], _ => M.ret []
  | .star e :: es, ρ => M.bnd (evE C e ρ) fun x => M.bnd (M.opt (starT x)) fun xs => M.bnd (evEs C es ρ) fun ys => M.ret (xs ++ ys)
  | e :: es, ρ => M.bnd (evE C e ρ) fun x => M.bnd (evEs C es ρ) fun xs => M.ret (x :: xs)
end

/-! ### statements -/
inductive S where
  | asg (tg : TG) (e : E) | own (i : Nat) (e : E) | par (ts : List (Bool × Nat)) (es : List E) | shr (i : Nat)
  | app (i : Nat) (e : E) | upd (i : Nat) (e : E) | ext (i : Nat) (e : E) | seti (i : Nat) (k v : E) | popi (t i : Nat) (k : E)
  | lset (o k e : E) | fset (f : Str) (e : E) | ex (e : E)
  | ife (c : E) (a b : List S) | for (tg : TG) (it : E) (body : List S) | whl (c : E) (body : List S)
  | ret (e : E) | pas | brk | cnt | dead
  deriving Inhabited
inductive Fl where
  | nx | rt (t : T) | bk | ct
def forL (body : T → Env → M (Fl × Env)) : List T → Env → M (Fl × Env)
  | [], ρ => M.ret (.nx, ρ)
  | x :: xs, ρ => M.bnd (body x ρ) fun p => match p.1 with
    | .nx => forL body xs p.2
    | .ct => forL body xs p.2
    | .bk => M.ret (.nx, p.2)
    | .rt t => M.ret (.rt t, p.2)
def whlL (test : Env → M Bool) (body : Env → M (Fl × Env)) : Nat → Env → M (Fl × Env)
  | 0, _ => M.bad
  | n + 1, ρ => M.bnd (test ρ) fun k => if k then M.bnd (body ρ) fun p => match p.1 with
      | .nx => whlL test body n p.2
      | .ct => whlL test body n p.2
      | .bk => M.ret (.nx, p.2)
      | .rt t => M.ret (.rt t, p.2)
    else M.ret (.nx, ρ)
def owS (ρ : Env) (i : Nat) : Option T := match ρ[i]? with
  | some (some (.ow t)) => some t
  | _ => none
def setSh (ρ : Env) (i : Nat) (t : T) : Env := ρ.set i (some (.sh t))
def setOw (ρ : Env) (i : Nat) (t : T) : Env := ρ.set i (some (.ow t))
/-- an own container may be a list, a dict, or an instance that is being made -/
def ownable : T → Bool
  | .lst _ | .dct _ => true
  | _ => false
def appT : T → T → Option T
  | .lst xs, v => if xs.length < sizeLine then some (.lst (xs ++ [v])) else none
  | _, _ => none
def setiT : T → T → T → Option T
  | .dct kvs, k, v => if dform kvs k ∧ kvs.length < sizeLine then some (.dct (dput kvs k v)) else none
  | .lst xs, .int i, v => (ixN xs.length i).map fun j => .lst (xs.set j v)
  | _, _, _ => none
def updT : T → List (T × T) → Option T
  | .dct kvs, [] => some (.dct kvs)
  | .dct kvs, (k, v) :: ps => (setiT (.dct kvs) k v).bind fun d => updT d ps
  | _, _ => none
def popT : T → T → Option (T × T)
  | .lst xs, .int i => (ixN xs.length i).bind fun j => xs[j]?.map fun v => (v, .lst (xs.eraseIdx j))
  | _, _ => none
def fsetT (f : Str) (v : T) : T → Option T
  | .ins c fs => if fs.length < 1000 then some (.ins c (if fs.any (fun p => decide (p.1 = f)) then fs.map (fun p => if p.1 = f then (f, v) else p) else fs ++ [(f, v)])) else none
  | _ => none
def setPar (ρ : Env) : List (Bool × Nat) → List T → Env
  | (o, i) :: ts, x :: xs => setPar (if o then setOw ρ i x else setSh ρ i x) ts xs
  | _, _ => ρ
mutual
def exS (C : Calls) (n : Nat) : S → Env → M (Fl × Env)
  | .asg tg e, ρ => M.bnd (evE C e ρ) fun x => M.bnd (M.opt (bindTG ρ tg x)) fun r => M.ret (.nx, r)
  | .own i e, ρ => M.bnd (evE C e ρ) fun x => if ownable x && decide (i < ρ.length) then M.ret (.nx, setOw ρ i x) else M.bad
  | .par ts es, ρ => M.bnd (evEs C es ρ) fun xs => if xs.length = ts.length ∧ ts.all (fun p => decide (p.2 < ρ.length)) ∧ ((ts.zip xs).all fun p => !p.1.1 || ownable p.2) then M.ret (.nx, setPar ρ ts xs) else M.bad
  | .shr i, ρ => M.bnd (M.opt (owS ρ i)) fun t => M.ret (.nx, setSh ρ i t)
  | .app i e, ρ => M.bnd (evE C e ρ) fun x => M.bnd (M.opt (owS ρ i)) fun t => M.bnd (M.opt (appT t x)) fun u => M.ret (.nx, setOw ρ i u)
  | .upd i e, ρ => M.bnd (evE C e ρ) fun x => M.bnd (M.opt (owS ρ i)) fun t => M.bnd (M.opt (match x with
      | .lst ps => (pairsT ps).bind fun l => updT t l
      | _ => none)) fun u => M.ret (.nx, setOw ρ i u)
  | .ext i e, ρ => M.bnd (evE C e ρ) fun x => M.bnd (M.opt (owS ρ i)) fun t => M.bnd (M.opt (match t, x with
      | .lst xs, .lst ys => if xs.length + ys.length ≤ sizeLine then some (.lst (xs ++ ys)) else none
      | _, _ => none)) fun u => M.ret (.nx, setOw ρ i u)
  | .seti i k v, ρ => M.bnd (evE C v ρ) fun y => M.bnd (evE C k ρ) fun x => M.bnd (M.opt (owS ρ i)) fun t => M.bnd (M.opt (setiT t x y)) fun u => M.ret (.nx, setOw ρ i u)
  | .popi t i k, ρ => M.bnd (evE C k ρ) fun x => M.bnd (M.opt (owS ρ i)) fun c => M.bnd (M.opt (popT c x)) fun p => if t < ρ.length ∧ t ≠ i then M.ret (.nx, setSh (setOw ρ i p.2) t p.1) else M.bad
  | .lset o k e, ρ => M.bnd (evE C e ρ) fun y => M.bnd (evE C o ρ) fun x => M.bnd (evE C k ρ) fun z => match x with
      | .loc m => fun st => match st[m]? with
        | some c => (match setiT c z y with
          | some d => .ok (.nx, ρ) (st.set m d)
          | none => .bad)
        | none => .bad
      | _ => M.bad
  | .fset f e, ρ => M.bnd (evE C e ρ) fun y => M.bnd (M.opt (owS ρ 0)) fun t => M.bnd (M.opt (fsetT f y t)) fun u => M.ret (.nx, setOw ρ 0 u)
  | .ex e, ρ => M.bnd (evE C e ρ) fun _ => M.ret (.nx, ρ)
  | .ife c a b, ρ => M.bnd (evE C c ρ) fun x => M.bnd (M.tru x) fun k => if k then exSs C n a ρ else exSs C n b ρ
  | .for tg it body, ρ => M.bnd (orB (borrow? ρ it) (evE C it ρ)) fun q => M.bnd (M.items q) fun xs => forL (fun x r => M.bnd (M.opt (bindTG r tg x)) fun r2 => exSs C n body r2) xs ρ
  | .whl c body, ρ => whlL (fun r => M.bnd (evE C c r) fun x => M.tru x) (fun r => exSs C n body r) n ρ
  | .ret e, ρ => M.bnd (evE C e ρ) fun x => M.ret (.rt x, ρ)
  | .pas, ρ => M.ret (.nx, ρ)
  | .brk, ρ => M.ret (.bk, ρ)
  | .cnt, ρ => M.ret (.ct, ρ)
  | .dead, _ => M.bad
def exSs (C : Calls) (n : Nat) : List S → Env → M (Fl × Env)
  | [], ρ => M.ret (.nx, ρ)
  | s :: ss, ρ => M.bnd (exS C n s ρ) fun p => match p.1 with
    | .nx => exSs C n ss p.2
    | f => M.ret (f, p.2)
end
/-- a def: how many parameters, how many names, its body -/
structure Fn where
  np : Nat
  ns : Nat
  body : List S
/-- the text: defs by number; the __init__ of each class -/
structure Text where
  fn : Nat → Option Fn
  ini : Nat → Option Fn
def startE (ns : Nat) (xs : List (Option Sl)) : Env := xs ++ List.replicate (ns - xs.length) none
def runFn (C : Calls) (n : Nat) (d : Fn) (args : List T) : M T :=
  if args.length = d.np ∧ d.np ≤ d.ns then M.bnd (exSs C n d.body (startE d.ns (args.map fun t => some (.sh t)))) fun p => match p.1 with
    | .nx => M.ret .non
    | .rt t => M.ret t
    | _ => M.bad
  else M.bad
def runIni (C : Calls) (n : Nat) (c : Nat) (d : Fn) (args : List T) : M T :=
  if args.length + 1 = d.np ∧ d.np ≤ d.ns then M.bnd (exSs C n d.body (startE d.ns (some (.ow (.ins c [])) :: args.map fun t => some (.sh t)))) fun p => match p.1 with
    | .nx => M.opt (owS p.2 0)
    | _ => M.bad
  else M.bad
def calls (X : Text) : Nat → Calls
  | 0 => ⟨fun _ _ => M.bad, fun _ _ => M.bad, fun _ _ => M.bad, fun _ _ => M.bad⟩
  | n + 1 => ⟨fun f args => match X.fn f with
      | some d => runFn (calls X n) n d args
      | none => M.bad, (calls X n).fn, (calls X n).ini, fun c args => match X.ini c with
      | some d => runIni (calls X n) n c d args
      | none => M.bad⟩
end MB

set_option Elab.async false
set_option linter.all false
set_option maxRecDepth 100000
/-! Trees and the heap. -/
namespace MB
open PySem PySem.Spec L2

/-- where the text stands -/
structure Gx where
  prog : Program
  w : World
  K : PySem.W.Frag
  mg : Str → Option Value
  base : Heap
  ca : Nat → Addr

mutual
/-- the value v is the tree t; containers are shut -/
inductive Rep (G : Gx) (α : List Addr) (H : Hp) : V → T → Prop
  | non : Rep G α H .non .non
  | bl (b : Bool) : Rep G α H (.bl b) (.bl b)
  | int (i : Int) : Rep G α H (.int i) (.int i)
  | str (x : Str) : Rep G α H (.str x) (.str x)
  | tup {a : Addr} {vs : List V} {ts : List T} : H a = some (.tup vs) → RepL G α H vs ts → Rep G α H (.ref a) (.tup ts)
  | tupE {a : Addr} : SqT G.K H a [] → Rep G α H (.ref a) (.tup [])
  | ktup {a : Addr} {vs : List V} {ts : List T} : SqT G.K H a vs → RepL G α H vs ts → Rep G α H (.ref a) (.ktup ts)
  | con {a : Addr} {o : Obj} {u : HO} {t : T} : H a = some (.frz o u) → Con G α H u t → Rep G α H (.ref a) t
  | loc {a : Addr} {n : Nat} : α[n]? = some a → Rep G α H (.ref a) (.loc n)
/-- what a container holds -/
inductive Con (G : Gx) (α : List Addr) (H : Hp) : HO → T → Prop
  | lst {vs : List V} {ts : List T} : vs.length ≤ sizeLine → RepL G α H vs ts → Con G α H (.lst vs) (.lst ts)
  | dK {kvs : List (Key × V)} {ts : List (T × T)} : kvs.length ≤ sizeLine → RepD G α H kvs ts → Con G α H (.dK kvs) (.dct ts)
  | dT {kvs : List (List Key × V)} {ts : List (T × T)} : kvs.length ≤ sizeLine → kvs ≠ [] → RepDT G α H kvs ts → Con G α H (.dT kvs) (.dct ts)
  | ins {c : Nat} {dx : Addr} {fs : List (Str × V)} {ts : List (Str × T)} : RepF G α H fs ts → Con G α H (.ins (G.ca c) dx fs) (.ins c ts)
inductive RepL (G : Gx) (α : List Addr) (H : Hp) : List V → List T → Prop
  | nil : RepL G α H [] []
  | cons {v : V} {t : T} {vs : List V} {ts : List T} : Rep G α H v t → RepL G α H vs ts → RepL G α H (v :: vs) (t :: ts)
inductive RepD (G : Gx) (α : List Addr) (H : Hp) : List (Key × V) → List (T × T) → Prop
  | nil : RepD G α H [] []
  | cons {k : Key} {v : V} {tk t : T} {kvs : List (Key × V)} {ts : List (T × T)} : tk.key = some k → Rep G α H v t → RepD G α H kvs ts → RepD G α H ((k, v) :: kvs) ((tk, t) :: ts)
inductive RepDT (G : Gx) (α : List Addr) (H : Hp) : List (List Key × V) → List (T × T) → Prop
  | nil : RepDT G α H [] []
  | cons {k : List Key} {v : V} {x : T} {xs : List T} {t : T} {kvs : List (List Key × V)} {ts : List (T × T)} : keysOf (x :: xs) = some k → Rep G α H v t → RepDT G α H kvs ts → RepDT G α H ((k, v) :: kvs) ((.tup (x :: xs), t) :: ts)
inductive RepF (G : Gx) (α : List Addr) (H : Hp) : List (Str × V) → List (Str × T) → Prop
  | nil : RepF G α H [] []
  | cons {f : Str} {v : V} {t : T} {fs : List (Str × V)} {ts : List (Str × T)} : Rep G α H v t → RepF G α H fs ts → RepF G α H ((f, v) :: fs) ((f, t) :: ts)
end

/-- what stood and is no loc stands as it stood -/
def Ext (α : List Addr) (H H' : Hp) : Prop := ∀ a o, H a = some o → a ∉ α → H' a = some o
/-- what cannot change stands as it stood -/
structure Stay (H H' : Hp) : Prop where
  frz : ∀ a o u, H a = some (.frz o u) → H' a = some (.frz o u)
  tup : ∀ a xs, H a = some (.tup xs) → H' a = some (.tup xs)
theorem Stay.rfl' {H : Hp} : Stay H H := ⟨fun _ _ _ h => h, fun _ _ h => h⟩
theorem Stay.trans {H H1 H2 : Hp} (a : Stay H H1) (b : Stay H1 H2) : Stay H H2 := ⟨fun c o u h => b.frz c o u (a.frz c o u h), fun c xs h => b.tup c xs (a.tup c xs h)⟩
theorem Stay.sqT {K : PySem.W.Frag} {H H' : Hp} (s : Stay H H') {a : Addr} {xs : List V} (h : SqT K H a xs) : SqT K H' a xs := by
  rcases h with (h | ⟨o, h⟩) | h
  · exact .inl (.inl (s.tup a xs h))
  · exact .inl (.inr ⟨o, s.frz a o _ h⟩)
  · exact .inr h
section
variable {G : Gx} {α α' : List Addr} {H H' : Hp}
mutual
theorem Rep.mono (p : α <+: α') (s : Stay H H') : ∀ {v : V} {t : T}, Rep G α H v t → Rep G α' H' v t
  | _, _, .non => .non
  | _, _, .bl b => .bl b
  | _, _, .int i => .int i
  | _, _, .str x => .str x
  | _, _, .tup h r => .tup (s.tup _ _ h) (RepL.mono p s r)
  | _, _, .tupE h => .tupE (s.sqT h)
  | _, _, .ktup h r => .ktup (s.sqT h) (RepL.mono p s r)
  | _, _, .con h c => .con (s.frz _ _ _ h) (Con.mono p s c)
  | _, _, .loc h => .loc (by
      obtain ⟨l, rfl⟩ := p
      have hn := (List.getElem?_eq_some_iff.mp h).1
      rw [List.getElem?_append_left hn]; exact h)
theorem Con.mono (p : α <+: α') (s : Stay H H') : ∀ {u : HO} {t : T}, Con G α H u t → Con G α' H' u t
  | _, _, .lst z r => .lst z (RepL.mono p s r)
  | _, _, .dK z r => .dK z (RepD.mono p s r)
  | _, _, .dT z h r => .dT z h (RepDT.mono p s r)
  | _, _, .ins r => .ins (RepF.mono p s r)
theorem RepL.mono (p : α <+: α') (s : Stay H H') : ∀ {vs : List V} {ts : List T}, RepL G α H vs ts → RepL G α' H' vs ts
  | _, _, .nil => .nil
  | _, _, .cons a b => .cons (Rep.mono p s a) (RepL.mono p s b)
theorem RepD.mono (p : α <+: α') (s : Stay H H') : ∀ {vs : List (Key × V)} {ts : List (T × T)}, RepD G α H vs ts → RepD G α' H' vs ts
  | _, _, .nil => .nil
  | _, _, .cons k a b => .cons k (Rep.mono p s a) (RepD.mono p s b)
theorem RepDT.mono (p : α <+: α') (s : Stay H H') : ∀ {vs : List (List Key × V)} {ts : List (T × T)}, RepDT G α H vs ts → RepDT G α' H' vs ts
  | _, _, .nil => .nil
  | _, _, .cons k a b => .cons k (Rep.mono p s a) (RepDT.mono p s b)
theorem RepF.mono (p : α <+: α') (s : Stay H H') : ∀ {vs : List (Str × V)} {ts : List (Str × T)}, RepF G α H vs ts → RepF G α' H' vs ts
  | _, _, .nil => .nil
  | _, _, .cons a b => .cons (Rep.mono p s a) (RepF.mono p s b)
end
theorem RepL.length : ∀ {vs : List V} {ts : List T}, RepL G α H vs ts → vs.length = ts.length
  | _, _, .nil => rfl
  | _, _, .cons _ b => congrArg (· + 1) (RepL.length b)
theorem RepL.append : ∀ {vs ws : List V} {ts us : List T}, RepL G α H vs ts → RepL G α H ws us → RepL G α H (vs ++ ws) (ts ++ us)
  | _, _, _, _, .nil, h => h
  | _, _, _, _, .cons a b, h => .cons a (RepL.append b h)
theorem RepL.get : ∀ {vs : List V} {ts : List T} {i : Nat} {t : T}, RepL G α H vs ts → ts[i]? = some t → ∃ v, vs[i]? = some v ∧ Rep G α H v t
  | _, _, _, _, .nil, h => by simp at h
  | _, _, 0, _, .cons a _, h => by simp at h; subst h; exact ⟨_, rfl, a⟩
  | _, _, i + 1, t, .cons _ b, h => by
    obtain ⟨v, h1, h2⟩ := RepL.get (i := i) (t := t) b (by simpa using h)
    exact ⟨v, by simpa using h1, h2⟩
theorem RepL.getV : ∀ {vs : List V} {ts : List T} {i : Nat} {v : V}, RepL G α H vs ts → vs[i]? = some v → ∃ t, ts[i]? = some t ∧ Rep G α H v t
  | _, _, _, _, .nil, h => by simp at h
  | _, _, 0, _, .cons a _, h => by simp at h; subst h; exact ⟨_, rfl, a⟩
  | _, _, i + 1, t, .cons _ b, h => by
    obtain ⟨v, h1, h2⟩ := RepL.getV (i := i) (v := t) b (by simpa using h)
    exact ⟨v, by simpa using h1, h2⟩
theorem RepL.take (n : Nat) : ∀ {vs : List V} {ts : List T}, RepL G α H vs ts → RepL G α H (vs.take n) (ts.take n) := by
  induction n with
  | zero => intro vs ts h; exact .nil
  | succ n ih => intro vs ts h; cases h with
    | nil => exact .nil
    | cons a b => exact .cons a (ih b)
theorem RepL.drop (n : Nat) : ∀ {vs : List V} {ts : List T}, RepL G α H vs ts → RepL G α H (vs.drop n) (ts.drop n) := by
  induction n with
  | zero => intro vs ts h; exact h
  | succ n ih => intro vs ts h; cases h with
    | nil => exact .nil
    | cons a b => exact ih b
theorem RepL.set (n : Nat) {v : V} {t : T} (r : Rep G α H v t) : ∀ {vs : List V} {ts : List T}, RepL G α H vs ts → RepL G α H (vs.set n v) (ts.set n t) := by
  induction n with
  | zero => intro vs ts h; cases h with
    | nil => exact .nil
    | cons a b => exact .cons r b
  | succ n ih => intro vs ts h; cases h with
    | nil => exact .nil
    | cons a b => exact .cons a (ih b)
theorem RepL.erase (n : Nat) : ∀ {vs : List V} {ts : List T}, RepL G α H vs ts → RepL G α H (vs.eraseIdx n) (ts.eraseIdx n) := by
  induction n with
  | zero => intro vs ts h; cases h with
    | nil => exact .nil
    | cons a b => exact b
  | succ n ih => intro vs ts h; cases h with
    | nil => exact .nil
    | cons a b => exact .cons a (ih b)
theorem RepD.length : ∀ {vs : List (Key × V)} {ts : List (T × T)}, RepD G α H vs ts → vs.length = ts.length
  | _, _, .nil => rfl
  | _, _, .cons _ _ b => congrArg (· + 1) (RepD.length b)
theorem RepDT.length : ∀ {vs : List (List Key × V)} {ts : List (T × T)}, RepDT G α H vs ts → vs.length = ts.length
  | _, _, .nil => rfl
  | _, _, .cons _ _ b => congrArg (· + 1) (RepDT.length b)
end
/-- the store: each loc has an address of its own; what stands there is not shut -/
structure SOk (G : Gx) (α : List Addr) (S : Store) (H : Hp) : Prop where
  len : α.length = S.length
  nd : α.Nodup
  cell : ∀ (n : Nat) (a : Addr) (t : T), α[n]? = some a → S[n]? = some t → ∃ u, H a = some u ∧ Mut (some u) ∧ Con G α H u t
/-- a slot's thing -/
def SlOk (G : Gx) (α : List Addr) (H : Hp) (v : Option V) : Sl → Prop
  | .sh t => ∃ x, v = some x ∧ Rep G α H x t
  | .ow t => ∃ a u, v = some (.ref a) ∧ a ∉ α ∧ H a = some u ∧ Mut (some u) ∧ Con G α H u t
structure ERep (G : Gx) (α : List Addr) (H : Hp) (σ : St) (ρ : Env) : Prop where
  len : σ.length = ρ.length
  sl : ∀ (i : Nat) (s : Sl), ρ[i]? = some (some s) → ∃ v, σ[i]? = some v ∧ SlOk G α H v s
  apart : ∀ (i j : Nat) (t u : T), i ≠ j → ρ[i]? = some (some (Sl.ow t)) → ρ[j]? = some (some (Sl.ow u)) → σ[i]? ≠ σ[j]?
/-- a step: locs may come and turn, all else stays -/
structure Step (α : List Addr) (H : Hp) (α' : List Addr) (H' : Hp) : Prop where
  pre : α <+: α'
  new : ∀ a ∈ α', a ∉ α → H a = none
  ext : Ext α H H'
theorem Step.rfl' {α : List Addr} {H : Hp} : Step α H α H := ⟨List.prefix_rfl, fun _ h n => absurd h n, fun _ _ h _ => h⟩
theorem Step.trans {α α1 α2 : List Addr} {H H1 H2 : Hp} (s : Step α H α1 H1) (t : Step α1 H1 α2 H2) : Step α H α2 H2 where
  pre := s.pre.trans t.pre
  new := fun a h n => by
    by_cases e : a ∈ α1
    · exact s.new a e n
    · have z := t.new a h e
      cases q : H a with
      | none => rfl
      | some o => rw [s.ext a o q n] at z; cases z
  ext := fun a o h n => by
    have h1 := s.ext a o h n
    refine t.ext a o h1 fun e => ?_
    have := s.new a e n
    rw [h] at this; cases this
theorem Step.stay {G : Gx} {S : Store} {α α' : List Addr} {H H' : Hp} (s : Step α H α' H') (ok : SOk G α S H) : Stay H H' := by
  have no : ∀ a o, H a = some o → ¬ Mut (some o) → a ∉ α := fun a o h nm hm => by
    obtain ⟨n, hn, e⟩ := List.mem_iff_getElem.mp hm
    have h1 : α[n]? = some a := by rw [List.getElem?_eq_getElem hn, e]
    have h2 : n < S.length := by rw [← ok.len]; exact hn
    obtain ⟨u, hu, mu, _⟩ := ok.cell n a S[n] h1 (List.getElem?_eq_getElem h2)
    rw [h] at hu; cases hu; exact nm mu
  exact ⟨fun a o u h => s.ext a _ h (no a _ h fun z => z), fun a xs h => s.ext a _ h (no a _ h fun z => z)⟩
theorem SlOk.mono {G : Gx} {α α' : List Addr} {H H' : Hp} {S : Store} (s : Step α H α' H') (ok : SOk G α S H) {v : Option V} {x : Sl} (h : SlOk G α H v x) : SlOk G α' H' v x := by
  have st := s.stay ok
  cases x with
  | sh t => obtain ⟨y, e, r⟩ := h; exact ⟨y, e, r.mono s.pre st⟩
  | ow t =>
    obtain ⟨a, u, e, na, hu, mu, c⟩ := h
    refine ⟨a, u, e, fun z => ?_, s.ext a u hu na, mu, c.mono s.pre st⟩
    have := s.new a z na
    rw [hu] at this; cases this
theorem ERep.mono {G : Gx} {α α' : List Addr} {H H' : Hp} {S : Store} {σ : St} {ρ : Env} (e : ERep G α H σ ρ) (s : Step α H α' H') (ok : SOk G α S H) : ERep G α' H' σ ρ where
  len := e.len
  sl := fun i x h => by obtain ⟨v, h1, h2⟩ := e.sl i x h; exact ⟨v, h1, h2.mono s ok⟩
  apart := e.apart
end MB

set_option Elab.async false
set_option linter.all false
set_option maxRecDepth 100000
set_option maxHeartbeats 1000000
/-! What the evaluator says is what the machine does: judgements, names, constants. -/
namespace MB
open PySem PySem.Spec L2

/-- a body (or a comprehension's block) of the text runs -/
structure CtxOk (G : Gx) (N : List Str) (sc : Scope) (n : Nat) (X : Cx) : Prop where
  prog : X.prog = G.prog
  w : X.w = G.w
  K : X.K = G.K
  mg : X.mg = G.mg
  base : X.base = G.base
  calm : X.calm = true
  hN : X.N = N
  hsc : X.env.scope = sc
  nd : N.Nodup
  room : Room n X.A
  hfn : ∀ x, L2.Loc sc x → X.fn x = true ∨ sc.names.lookup x = some .local

theorem bnd_ok {α β : Type} {x : M α} {f : α → M β} {S : Store} {b : β} {S' : Store} : (M.bnd x f) S = .ok b S' ↔ ∃ a S1, x S = .ok a S1 ∧ f a S1 = .ok b S' := by
  show (x S).bind f = _ ↔ _
  cases h : x S with
  | ok a S1 => exact ⟨fun e => ⟨a, S1, rfl, e⟩, fun ⟨a', S1', e, q⟩ => by cases e; exact q⟩
  | exc e S1 => exact ⟨fun e => by simp at e, fun ⟨a', S1', e, q⟩ => by cases e⟩
  | bad => exact ⟨fun e => by simp at e, fun ⟨a', S1', e, q⟩ => by cases e⟩
theorem ret_ok {α : Type} {a b : α} {S S' : Store} : (M.ret a : M α) S = .ok b S' ↔ a = b ∧ S = S' := by
  show R.ok a S = _ ↔ _
  exact ⟨fun e => by cases e; exact ⟨rfl, rfl⟩, fun ⟨e, q⟩ => by rw [e, q]⟩
theorem opt_ok {α : Type} {o : Option α} {b : α} {S S' : Store} : (M.opt o : M α) S = .ok b S' ↔ o = some b ∧ S = S' := by
  cases o with
  | none => exact ⟨fun e => by simp at e, fun ⟨e, _⟩ => by cases e⟩
  | some a => exact ⟨fun e => by simp at e; exact ⟨by rw [e.1], e.2⟩, fun ⟨e, q⟩ => by cases e; rw [q]; rfl⟩
theorem bad_ok {α : Type} {b : α} {S S' : Store} : ¬ (M.bad : M α) S = .ok b S' := by simp

/-- read alone: shut, or one's own container -/
def RepB (G : Gx) (α : List Addr) (H : Hp) (v : V) (t : T) : Prop := Rep G α H v t ∨ ∃ a u, v = .ref a ∧ a ∉ α ∧ H a = some u ∧ Mut (some u) ∧ Con G α H u t
/-- seen through the store -/
def RepV (G : Gx) (α : List Addr) (H : Hp) (v : V) (t : T) : Prop := Rep G α H v t ∨ ∃ a u, v = .ref a ∧ H a = some u ∧ Mut (some u) ∧ Con G α H u t
section
variable {G : Gx} {α α' : List Addr} {S : Store} {H H' : Hp} {v : V} {t : T}
theorem RepB.mono (ok : SOk G α S H) (s : Step α H α' H') (h : RepB G α H v t) : RepB G α' H' v t := by
  rcases h with h | ⟨a, u, e, na, hu, mu, c⟩
  · exact .inl (h.mono s.pre (s.stay ok))
  · refine .inr ⟨a, u, e, fun z => ?_, s.ext a u hu na, mu, c.mono s.pre (s.stay ok)⟩
    have := s.new a z na
    rw [hu] at this; cases this
theorem RepB.view (ok : SOk G α S H) (h : RepB G α H v t) : RepV G α H v (viewS S t) := by
  rcases h with h | ⟨a, u, e, na, hu, mu, c⟩
  · cases t with
    | loc n =>
      cases h with
      | con h c => cases c
      | @loc a n e =>
        have hn : n < S.length := by rw [← ok.len]; exact (List.getElem?_eq_some_iff.mp e).1
        obtain ⟨u, hu, mu, c⟩ := ok.cell n a S[n] e (List.getElem?_eq_getElem hn)
        refine .inr ⟨a, u, rfl, hu, mu, ?_⟩
        show Con G α H u (S.getD n .non)
        rw [List.getD_eq_getElem?_getD, List.getElem?_eq_getElem hn]
        exact c
    | _ => exact .inl h
  · cases t with
    | loc n => cases c
    | _ => exact .inr ⟨a, u, e, hu, mu, c⟩
theorem RepB.of (h : Rep G α H v t) : RepB G α H v t := .inl h
theorem RepV.of (h : Rep G α H v t) : RepV G α H v t := .inl h
/-- a list that is read -/
theorem RepV.lst {ts : List T} (h : RepV G α H v (.lst ts)) : ∃ a vs, v = .ref a ∧ Rd H a (.lst vs) ∧ RepL G α H vs ts ∧ vs.length ≤ sizeLine := by
  rcases h with h | ⟨a, u, e, hu, mu, c⟩
  · cases h with
    | con h c => cases c with
      | lst z r => exact ⟨_, _, rfl, .inr ⟨_, h⟩, r, z⟩
  · cases c with
    | lst z r => exact ⟨a, _, e, .inl hu, r, z⟩
theorem RepV.tup {ts : List T} (h : RepV G α H v (.tup ts)) : ∃ a vs, v = .ref a ∧ SqT G.K H a vs ∧ RepL G α H vs ts := by
  rcases h with h | ⟨a, u, e, hu, mu, c⟩
  · cases h with
    | tup h r => exact ⟨_, _, rfl, SqT.of h, r⟩
    | tupE h => exact ⟨_, [], rfl, h, .nil⟩
    | con h c => cases c
  · cases c
theorem RepV.tupT {t : T} {ts : List T} (h : RepV G α H v (.tup (t :: ts))) : ∃ a vs, v = .ref a ∧ H a = some (.tup vs) ∧ RepL G α H vs (t :: ts) := by
  rcases h with h | ⟨a, u, e, hu, mu, c⟩
  · cases h with
    | tup h r => exact ⟨_, _, rfl, h, r⟩
    | con h c => cases c
  · cases c
theorem RepV.ktup {ts : List T} (h : RepV G α H v (.ktup ts)) : ∃ a vs, v = .ref a ∧ SqT G.K H a vs ∧ RepL G α H vs ts := by
  rcases h with h | ⟨a, u, e, hu, mu, c⟩
  · cases h with
    | ktup h r => exact ⟨_, _, rfl, h, r⟩
    | con h c => cases c
  · cases c
theorem RepV.dct {ts : List (T × T)} (h : RepV G α H v (.dct ts)) : ∃ a, v = .ref a ∧ ((∃ kvs, Rd H a (.dK kvs) ∧ RepD G α H kvs ts ∧ kvs.length ≤ sizeLine) ∨ (∃ kvs, Rd H a (.dT kvs) ∧ RepDT G α H kvs ts ∧ kvs.length ≤ sizeLine ∧ kvs ≠ [])) := by
  rcases h with h | ⟨a, u, e, hu, mu, c⟩
  · cases h with
    | con h c => cases c with
      | dK z r => exact ⟨_, rfl, .inl ⟨_, .inr ⟨_, h⟩, r, z⟩⟩
      | dT z n r => exact ⟨_, rfl, .inr ⟨_, .inr ⟨_, h⟩, r, z, n⟩⟩
  · cases c with
    | dK z r => exact ⟨a, e, .inl ⟨_, .inl hu, r, z⟩⟩
    | dT z n r => exact ⟨a, e, .inr ⟨_, .inl hu, r, z, n⟩⟩
theorem RepV.int {i : Int} (h : RepV G α H v (.int i)) : v = .int i := by
  rcases h with h | ⟨a, u, e, hu, mu, c⟩
  · cases h with
    | int => rfl
    | con h c => cases c
  · cases c
theorem RepV.bl {i : Bool} (h : RepV G α H v (.bl i)) : v = .bl i := by
  rcases h with h | ⟨a, u, e, hu, mu, c⟩
  · cases h with
    | bl => rfl
    | con h c => cases c
  · cases c
theorem RepV.str {i : Str} (h : RepV G α H v (.str i)) : v = .str i := by
  rcases h with h | ⟨a, u, e, hu, mu, c⟩
  · cases h with
    | str => rfl
    | con h c => cases c
  · cases c
theorem RepV.non (h : RepV G α H v .non) : v = .non := by
  rcases h with h | ⟨a, u, e, hu, mu, c⟩
  · cases h with
    | non => rfl
    | con h c => cases c
  · cases c
theorem RepV.ofB (ok : SOk G α S H) (h : RepB G α H v t) (hl : ∀ n, t ≠ .loc n) : RepV G α H v t := by
  have := h.view ok
  cases t with
  | loc n => exact absurd rfl (hl n)
  | _ => exact this
end

/-! ### judgements -/
/-- an expression's reading: what it gives no longer changes -/
def tEv (G : Gx) (m : Env → M T) : TE := fun σ H Q => ∃ α S ρ t S', SOk G α S H ∧ ERep G α H σ ρ ∧ m ρ S = .ok t S' ∧
  ∀ α' H' v, Step α H α' H' → SOk G α' S' H' → Rep G α' H' v t → Q v H'
/-- .. or is an own name's -/
def tEvB (G : Gx) (m : Env → M T) : TE := fun σ H Q => ∃ α S ρ t S', SOk G α S H ∧ ERep G α H σ ρ ∧ m ρ S = .ok t S' ∧
  ∀ α' H' v, Step α H α' H' → SOk G α' S' H' → RepB G α' H' v t → Q v H'
/-- what a new container is; another thing is shut -/
def Out (G : Gx) (α : List Addr) (H : Hp) (α' : List Addr) (H' : Hp) (v : V) (t : T) : Prop :=
  (ownable t = true ∧ ∃ p u, v = .ref p ∧ p ∉ α' ∧ H p = none ∧ H' p = some u ∧ Mut (some u) ∧ Con G α' H' u t) ∨ (ownable t = false ∧ Rep G α' H' v t)
def tEvW (G : Gx) (m : Env → M T) : TE := fun σ H Q => ∃ α S ρ t S', SOk G α S H ∧ ERep G α H σ ρ ∧ m ρ S = .ok t S' ∧
  ∀ α' H' v, Step α H α' H' → SOk G α' S' H' → Out G α H α' H' v t → Q v H'
/-- a test's -/
def tTv (G : Gx) (m : Env → M Bool) : TT := fun σ H Q => ∃ α S ρ k S', SOk G α S H ∧ ERep G α H σ ρ ∧ m ρ S = .ok k S' ∧
  ∀ α' H', Step α H α' H' → SOk G α' S' H' → Q k H'
/-- arguments -/
def tAv (G : Gx) (m : Env → M (List T)) : TA := fun σ H Q => ∃ α S ρ ts S', SOk G α S H ∧ ERep G α H σ ρ ∧ m ρ S = .ok ts S' ∧
  ∀ α' H' vs, Step α H α' H' → SOk G α' S' H' → RepL G α' H' vs ts → Q vs H'
def tAvB (G : Gx) (m : Env → M (List T)) : TA := fun σ H Q => ∃ α S ρ ts S', SOk G α S H ∧ ERep G α H σ ρ ∧ m ρ S = .ok ts S' ∧
  ∀ α' H' vs, Step α H α' H' → SOk G α' S' H' → Paired (RepV G α' H') vs ts → Q vs H'

section
variable {X : Cx} {G : Gx} {N : List Str} {sc : Scope} {n : Nat} {e : Expr} {m : Env → M T}
theorem _root_.L2.PE.imp {t t' : TE} (h : PE X e t) (hi : ∀ σ H Q, t' σ H Q → t σ H Q) : PE X e t' := ⟨fun pins s σ H Q I q => h.run pins s σ H Q I (hi σ H Q q)⟩
/-- a new container is shut -/
theorem shut (h : PE X e (tEvW G m)) : PE X e (tEv G m) := by
  refine ⟨fun pins s σ H Q I q => ?_⟩
  obtain ⟨α, S, ρ, t, S', ok, er, hm, hQ⟩ := q
  refine thn (h.run pins s σ H (fun v H' => (∃ α', Step α H α' H' ∧ SOk G α' S' H' ∧ Out G α H α' H' v t)) I ⟨α, S, ρ, t, S', ok, er, hm, fun α' H' v st ok' o => ⟨α', st, ok', o⟩⟩) fun u s1 ⟨v, H1, I1, r1, α', st, ok', o⟩ => ?_
  rcases o with ⟨_, p, u', rfl, np, hp, hu, mu, c⟩ | ⟨_, r⟩
  · obtain ⟨od, I2⟩ := I1.lock hu mu
    have sy : Stay H1 (upd H1 p (.frz od u')) := ⟨fun a o x e => by
        rw [upd_ne (fun z => by rw [z, hu] at e; cases e; exact mu)]; exact e, fun a xs e => by
        rw [upd_ne (fun z => by rw [z, hu] at e; cases e; exact mu)]; exact e⟩
    have st2 : Step α H α' (upd H1 p (.frz od u')) := ⟨st.pre, st.new, fun a o e na => by
      rw [upd_ne (ne_of_none e hp)]; exact st.ext a o e na⟩
    have ok2 : SOk G α' S' (upd H1 p (.frz od u')) := ⟨ok'.len, ok'.nd, fun k a x e1 e2 => by
      obtain ⟨u2, h1, h2, h3⟩ := ok'.cell k a x e1 e2
      refine ⟨u2, ?_, h2, h3.mono List.prefix_rfl sy⟩
      rw [upd_ne (fun z => np (by rw [← z]; exact List.mem_of_getElem? e1))]; exact h1⟩
    exact ⟨.ref p, _, I2, r1, hQ α' _ _ st2 ok2 (.con upd_same (c.mono List.prefix_rfl sy))⟩
  · exact ⟨v, H1, I1, r1, hQ α' H1 v st ok' r⟩
theorem _root_.L2.PE.toB (h : PE X e (tEv G m)) : PE X e (tEvB G m) := h.imp fun σ H Q ⟨α, S, ρ, t, S', ok, er, hm, hQ⟩ => ⟨α, S, ρ, t, S', ok, er, hm, fun α' H' v st ok' r => hQ α' H' v st ok' (.inl r)⟩
/-- two in a row -/
theorem ev2 {A B : Env → M T} {α : List Addr} {S S1 S2 : Store} {ρ : Env} {σ : L2.St} {H : Hp} {x y : T} {R : V → V → Hp → Prop} (ok : SOk G α S H) (er : ERep G α H σ ρ) (hx : A ρ S = .ok x S1) (hy : B ρ S1 = .ok y S2)
    (k : ∀ α2 H2 v w, Step α H α2 H2 → SOk G α2 S2 H2 → RepB G α2 H2 v x → RepB G α2 H2 w y → R v w H2) : tEvB G A σ H fun v H1 => tEvB G B σ H1 fun w H2 => R v w H2 :=
  ⟨α, S, ρ, x, S1, ok, er, hx, fun α1 H1 v st1 ok1 r1 => ⟨α1, S1, ρ, y, S2, ok1, er.mono st1 ok, hy, fun α2 H2 w st2 ok2 r2 => k α2 H2 v w (st1.trans st2) ok2 (r1.mono ok1 st2) r2⟩⟩
/-! ### names and constants -/
theorem rd_of_er {α : List Addr} {H : Hp} {σ : L2.St} {ρ : Env} {i : Nat} {t : T} (er : ERep G α H σ ρ) (h : rdS ρ i = some t) : ∃ v, σ[i]? = some (some v) ∧ Rep G α H v t := by
  unfold rdS at h
  split at h
  · rename_i t' e
    cases h
    obtain ⟨v, h1, x, h2, h3⟩ := er.sl i _ e
    subst h2
    exact ⟨x, h1, h3⟩
  · cases h
theorem rdB_of_er {α : List Addr} {H : Hp} {σ : L2.St} {ρ : Env} {i : Nat} {t : T} (er : ERep G α H σ ρ) (h : rdB ρ i = some t) : ∃ v, σ[i]? = some (some v) ∧ RepB G α H v t := by
  unfold rdB at h
  split at h
  · rename_i t' e
    cases h
    obtain ⟨v, h1, x, h2, h3⟩ := er.sl i _ e
    subst h2
    exact ⟨x, h1, .inl h3⟩
  · rename_i t' e
    cases h
    obtain ⟨v, h1, a, u, h2, na, hu, mu, c⟩ := er.sl i _ e
    subst h2
    exact ⟨_, h1, .inr ⟨a, u, rfl, na, hu, mu, c⟩⟩
  · cases h
theorem snd_var {i : Nat} {x : Str} {pos : Pos} (c : CtxOk G N sc n X) (hi : N[i]? = some x) (hv : Vis sc x) (hd : (x == ("__debug__" : Str)) = false) (hcd : (x == ("__classdict__" : Str)) = false) {C : Calls} :
    PE X (.Name x pos) (tEv G (evE C (.var i))) := by
  refine PE.imp (pe_var (i := i) (by rw [c.hN]; exact hi) (by rw [c.hsc]; exact hv) hd hcd) fun σ H Q ⟨α, S, ρ, t, S', ok, er, hm, hQ⟩ => ?_
  rw [evE] at hm
  obtain ⟨h1, rfl⟩ := opt_ok.mp hm
  obtain ⟨v, e, r⟩ := rd_of_er er h1
  exact ⟨v, e, hQ α H v .rfl' ok r⟩
/-- a place that only reads -/
theorem snd_B {C : Calls} {e' : E} (c : CtxOk G N sc n X) (h : PE X e (tEv G (evE C e'))) (hv : ∀ i, e' = .var i → ∃ x pos, e = .Name x pos ∧ N[i]? = some x ∧ Vis sc x ∧ (x == ("__debug__" : Str)) = false ∧ (x == ("__classdict__" : Str)) = false) :
    PE X e (tEvB G fun ρ => orB (borrow? ρ e') (evE C e' ρ)) := by
  cases e' with
  | var i =>
    obtain ⟨x, pos, rfl, hi, hv, hd, hcd⟩ := hv i rfl
    refine PE.imp (pe_var (i := i) (by rw [c.hN]; exact hi) (by rw [c.hsc]; exact hv) hd hcd) fun σ H Q ⟨α, S, ρ, t, S', ok, er, hm, hQ⟩ => ?_
    have hm' : orB (rdB ρ i) (evE C (.var i) ρ) S = .ok t S' := hm
    cases q : rdB ρ i with
    | some t' =>
      rw [q] at hm'
      obtain ⟨rfl, rfl⟩ := ret_ok.mp hm'
      obtain ⟨v, e, r⟩ := rdB_of_er er q
      exact ⟨v, e, hQ α H v .rfl' ok r⟩
    | none =>
      rw [q] at hm'
      have hm2 : evE C (.var i) ρ S = .ok t S' := hm'
      rw [evE] at hm2
      obtain ⟨h1, rfl⟩ := opt_ok.mp hm2
      obtain ⟨v, e, r⟩ := rd_of_er er h1
      exact ⟨v, e, hQ α H v .rfl' ok (.inl r)⟩
  | _ => exact h.toB
end
end MB

set_option Elab.async false
set_option linter.all false
set_option maxRecDepth 100000
set_option maxHeartbeats 1000000
/-! Operators. -/
namespace MB
open PySem PySem.Spec L2

section
variable {X : Cx} {G : Gx} {N : List Str} {sc : Scope} {n : Nat}
/-- a loc's address is tracked -/
theorem SOk.at {α : List Addr} {S : Store} {H : Hp} (ok : SOk G α S H) {a : Addr} (h : a ∈ α) : ∃ u, H a = some u ∧ Mut (some u) := by
  obtain ⟨k, hk, e⟩ := List.mem_iff_getElem.mp h
  have h1 : α[k]? = some a := by rw [List.getElem?_eq_getElem hk, e]
  have h2 : k < S.length := by rw [← ok.len]; exact hk
  obtain ⟨u, hu, mu, _⟩ := ok.cell k a S[k] h1 (List.getElem?_eq_getElem h2)
  exact ⟨u, hu, mu⟩
/-- a new thing is laid -/
structure Laid (G : Gx) (α : List Addr) (H : Hp) (α' : List Addr) (S' : Store) (H' : Hp) (p : Addr) (o : HO) : Prop where
  step : Step α H α' (upd H' p o)
  ok : SOk G α' S' (upd H' p o)
  np : p ∉ α'
  h0 : H p = none
  stay : Stay H' (upd H' p o)
theorem stay_new {H : Hp} {p : Addr} {o : HO} (hp : H p = none) : Stay H (upd H p o) :=
  ⟨fun a x u e => by rw [upd_ne (ne_of_none e hp)]; exact e, fun a xs e => by rw [upd_ne (ne_of_none e hp)]; exact e⟩
theorem laid {α α' : List Addr} {S' : Store} {H H' : Hp} {p : Addr} (st : Step α H α' H') (ok : SOk G α' S' H') (hp : H' p = none) (o : HO) : Laid G α H α' S' H' p o := by
  have np : p ∉ α' := fun z => by
    obtain ⟨u, hu, _⟩ := ok.at z
    rw [hp] at hu; cases hu
  have h0 : H p = none := by
    cases q : H p with
    | none => rfl
    | some x =>
      have := st.ext p x q fun z => np (st.pre.subset z)
      rw [hp] at this; cases this
  have sy := stay_new (o := o) hp
  refine ⟨⟨st.pre, st.new, fun a x e na => ?_⟩, ⟨ok.len, ok.nd, fun k a t e1 e2 => ?_⟩, np, h0, sy⟩
  · rw [upd_ne (ne_of_none e h0)]; exact st.ext a x e na
  · obtain ⟨u, h1, h2, h3⟩ := ok.cell k a t e1 e2
    refine ⟨u, ?_, h2, h3.mono List.prefix_rfl sy⟩
    rw [upd_ne fun z => np (by rw [← z]; exact List.mem_of_getElem? e1)]; exact h1
theorem Laid.out {α α' : List Addr} {S' : Store} {H H' : Hp} {p : Addr} {o : HO} {t : T} (l : Laid G α H α' S' H' p o) (ho : ownable t = true) (mu : Mut (some o)) (c : Con G α' (upd H' p o) o t) : Out G α H α' (upd H' p o) (.ref p) t :=
  .inl ⟨ho, p, o, rfl, l.np, l.h0, upd_same, mu, c⟩
/-- a list as it is read -/
theorem lstR {pins : List (Addr × Obj)} {σ : L2.St} {H : Hp} {s : Shared} {a : Addr} {xs : List V} (I : Inv X pins σ H s) (h : Rd H a (.lst xs)) :
    ∃ (its : List Value) (k : Nat), Vals xs its ∧ s.heap.get? a = some { cls := .type "list", data := .seq its.toArray k } := by
  obtain ⟨_, its, k, r, e⟩ := h.ok I.hok
  exact ⟨its, k, r, e⟩
/-- lists are joined: any two that are read -/
def rCatR : R2 := fun x y H Q => ∃ l b xs zs, x = .ref l ∧ y = .ref b ∧ Rd H l (.lst xs) ∧ Rd H b (.lst zs) ∧ xs.length + zs.length ≤ sizeLine ∧ ∀ p, H p = none → Q (.ref p) (upd H p (.lst (xs ++ zs)))
theorem op_catR : OpR X (binaryOp .Add) rCatR := fun pins s σ H x y v u Q I rx ry h => by
  obtain ⟨l, b, xs, zs, ex, ey, h1, h2, hz, q⟩ := h
  subst ex ey
  have ev : v = Value.ref l := rx
  have eu : u = Value.ref b := ry
  subst ev eu
  obtain ⟨its, k, r, e⟩ := lstR I h1
  obtain ⟨jts, k2, r2, e2⟩ := lstR I h2
  have e3 : its.toArray ++ jts.toArray = (its ++ jts).toArray := by simp
  have l1 := r.length
  have l2 := r2.length
  refine PySem.P.add_list e e2 ?_ (by rw [List.size_toArray, List.size_toArray]; omega)
  rw [e3]
  refine ⟨.ref _, _, I.lnew (t' := s.toks) (r.append r2) ?_, rfl, q _ I.fresh⟩
  rw [List.length_append]; exact hz

def opOf : BOp → Operator
  | .add => .Add | .sub => .Sub | .mul => .Mult | .fdiv => .FloorDiv | .mod => .Mod | .pow => .Pow
variable {A B : Env → M T} {a b : Expr} {pos : Pos}
def mBin (op : BOp) (A B : Env → M T) : Env → M T := fun ρ => M.bnd (A ρ) fun x => M.bnd (B ρ) fun y => M.opt (binT op x y)
theorem RepB.noloc {α : List Addr} {S : Store} {H : Hp} {v : V} {t : T} (ok : SOk G α S H) (h : RepB G α H v t) (hl : ∀ k, t ≠ .loc k) : RepV G α H v t := RepV.ofB ok h hl
theorem snd_bin (op : BOp) (ha : PE X a (tEvB G A)) (hb : PE X b (tEvB G B)) (hK : X.K = G.K) : PE X (.BinOp a (opOf op) b pos) (tEvW G (mBin op A B)) := by
  refine ⟨fun pins s σ H Q I q => ?_⟩
  obtain ⟨α, S, ρ, t, S', ok, er, hm, hQ⟩ := q
  obtain ⟨x, S1, hx, hm⟩ := bnd_ok.mp hm
  obtain ⟨y, S2, hy, hm⟩ := bnd_ok.mp hm
  obtain ⟨hz, rfl⟩ := opt_ok.mp hm
  have sca : ∀ (f : Int → Int → Int) (C : Int → Int → Prop) (i j : Int), x = .int i → y = .int j → C i j → t = .int (f i j) →
      tOp (rI C fun i j => .int (f i j)) (tEvB G A) (tEvB G B) σ H Q := fun f C i j ex ey hc et => by
    subst ex ey et
    refine ev2 ok er hx hy fun α2 H2 v w st ok2 r1 r2 => ?_
    have e1 := (r1.noloc ok2 (fun k z => by cases z)).int
    have e2 := (r2.noloc ok2 (fun k z => by cases z)).int
    exact ⟨i, j, e1, e2, hc, hQ α2 H2 _ st ok2 (.inr ⟨rfl, .int _⟩)⟩
  have sca0 : ∀ (f : Int → Int → Int) (i j : Int), x = .int i → y = .int j → t = .int (f i j) →
      tOp (rI0 fun i j => .int (f i j)) (tEvB G A) (tEvB G B) σ H Q := fun f i j ex ey et => by
    subst ex ey et
    refine ev2 ok er hx hy fun α2 H2 v w st ok2 r1 r2 => ?_
    have e1 := (r1.noloc ok2 (fun k z => by cases z)).int
    have e2 := (r2.noloc ok2 (fun k z => by cases z)).int
    exact ⟨i, j, e1, e2, hQ α2 H2 _ st ok2 (.inr ⟨rfl, .int _⟩)⟩
  unfold binT at hz
  split at hz
  · rename_i i j
    cases hz
    exact (pe_op (pos := pos) op_add ha hb).run pins s σ H Q I (sca0 (fun i j => i + j) _ _ rfl rfl rfl)
  · rename_i z1 z2
    split at hz
    · rename_i hl
      cases hz
      refine (pe_op (pos := pos) op_add_str ha hb).run pins s σ H Q I (ev2 ok er hx hy fun α2 H2 v w st ok2 r1 r2 => ?_)
      have e1 := (r1.noloc ok2 (fun k z => by cases z)).str
      have e2 := (r2.noloc ok2 (fun k z => by cases z)).str
      exact ⟨_, _, e1, e2, hl, hQ α2 H2 _ st ok2 (.inr ⟨rfl, .str _⟩)⟩
    · cases hz
  · rename_i xs ys
    split at hz
    · rename_i hl
      cases hz
      refine (pe_op (pos := pos) op_catR ha hb).run pins s σ H Q I (ev2 ok er hx hy fun α2 H2 v w st ok2 r1 r2 => ?_)
      obtain ⟨l, vs, ev, h1, rl, z1⟩ := (r1.noloc ok2 (fun k z => by cases z)).lst
      obtain ⟨b', ws, ew, h2, rl2, z2⟩ := (r2.noloc ok2 (fun k z => by cases z)).lst
      have hl' : vs.length + ws.length ≤ sizeLine := by rw [rl.length, rl2.length]; exact hl
      refine ⟨l, b', vs, ws, ev, ew, h1, h2, hl', fun p hp => ?_⟩
      have L := laid st ok2 hp (.lst (vs ++ ws))
      refine hQ α2 _ _ L.step L.ok (L.out rfl trivial (.lst ?_ ?_))
      · rw [List.length_append]; exact hl'
      · exact (rl.append rl2).mono List.prefix_rfl L.stay
    · cases hz
  · rename_i xs ys
    split at hz
    · rename_i hl
      cases hz
      refine (pe_op (pos := pos) op_catA ha hb).run pins s σ H Q I (ev2 ok er hx hy fun α2 H2 v w st ok2 r1 r2 => ?_)
      have k1 : Rep G α2 H2 v (.tup _) := r1.elim id fun ⟨_, _, _, _, _, _, c⟩ => by cases c
      have k2 : Rep G α2 H2 w (.tup _) := r2.elim id fun ⟨_, _, _, _, _, _, c⟩ => by cases c
      obtain ⟨l, vs, ev, h1, rl⟩ := (r1.noloc ok2 (fun k z => by cases z)).tup
      obtain ⟨b', ws, ew, h2, rl2⟩ := (r2.noloc ok2 (fun k z => by cases z)).tup
      rw [← hK] at h1 h2
      have hl' : vs.length + ws.length ≤ sizeLine := by rw [rl.length, rl2.length]; exact hl
      refine ⟨l, b', vs, ws, ev, ew, h1, h2, hl', fun e => ?_, fun _ e => ?_, fun _ _ p hp => ?_⟩
      · subst e
        cases rl
        exact hQ α2 H2 _ st ok2 (.inr ⟨rfl, by rw [List.nil_append]; rw [← ew]; exact k2⟩)
      · subst e
        cases rl2
        exact hQ α2 H2 _ st ok2 (.inr ⟨rfl, by rw [List.append_nil]; rw [← ev]; exact k1⟩)
      · have L := laid st ok2 hp (.tup (vs ++ ws))
        exact hQ α2 _ _ L.step L.ok (.inr ⟨rfl, .tup upd_same ((rl.append rl2).mono List.prefix_rfl L.stay)⟩)
    · cases hz
  · rename_i i j
    cases hz
    exact (pe_op (pos := pos) op_sub ha hb).run pins s σ H Q I (sca0 (fun i j => i - j) _ _ rfl rfl rfl)
  · rename_i i j
    split at hz
    · rename_i hc
      cases hz
      exact (pe_op (pos := pos) op_mul ha hb).run pins s σ H Q I (sca (fun i j => i * j) CMul _ _ rfl rfl hc rfl)
    · cases hz
  · rename_i i j
    split at hz
    · rename_i hc
      cases hz
      exact (pe_op (pos := pos) op_fdiv ha hb).run pins s σ H Q I (sca (fun i j => i / j) CDiv _ _ rfl rfl hc rfl)
    · cases hz
  · rename_i i j
    split at hz
    · rename_i hc
      cases hz
      exact (pe_op (pos := pos) op_mod ha hb).run pins s σ H Q I (sca (fun i j => i % j) (fun _ j => 0 < j) _ _ rfl rfl hc rfl)
    · cases hz
  · rename_i i j
    split at hz
    · rename_i hc
      cases hz
      exact (pe_op (pos := pos) op_pow ha hb).run pins s σ H Q I (sca (fun i j => i ^ j.toNat) CPow _ _ rfl rfl hc rfl)
    · cases hz
  · cases hz
theorem snd_lit (t : T) (ht : t.atom = true) {c : Expr} (hc : (∃ k p i, t = .int i ∧ c = .Constant (.int i) k p) ∨ (∃ k p b, t = .bl b ∧ c = .Constant (.bool b) k p) ∨ (∃ k p, t = .non ∧ c = .Constant .none k p) ∨ (∃ k p x, t = .str x ∧ c = .Constant (.str x) k p)) : PE X c (tEv G fun _ => M.ret t) := by
  rcases hc with ⟨k, p, i, rfl, rfl⟩ | ⟨k, p, b, rfl, rfl⟩ | ⟨k, p, rfl, rfl⟩ | ⟨k, p, x, rfl, rfl⟩
  · refine pe_int.imp fun σ H Q ⟨α, S, ρ, t, S', ok, er, hm, hQ⟩ => ?_
    obtain ⟨rfl, rfl⟩ := ret_ok.mp hm
    exact hQ α H _ .rfl' ok (.int _)
  · refine pe_bl.imp fun σ H Q ⟨α, S, ρ, t, S', ok, er, hm, hQ⟩ => ?_
    obtain ⟨rfl, rfl⟩ := ret_ok.mp hm
    exact hQ α H _ .rfl' ok (.bl _)
  · refine pe_non.imp fun σ H Q ⟨α, S, ρ, t, S', ok, er, hm, hQ⟩ => ?_
    obtain ⟨rfl, rfl⟩ := ret_ok.mp hm
    exact hQ α H _ .rfl' ok .non
  · refine pe_str.imp fun σ H Q ⟨α, S, ρ, t, S', ok, er, hm, hQ⟩ => ?_
    obtain ⟨rfl, rfl⟩ := ret_ok.mp hm
    exact hQ α H _ .rfl' ok (.str _)
end
end MB

set_option Elab.async false
set_option linter.all false
set_option maxRecDepth 100000
set_option maxHeartbeats 1000000
/-! Comparisons: == and !=. -/
namespace MB
open PySem PySem.Spec L2 PySem.SeqAt

section
variable {prog : Program} {w : World} {A : Around} {E : Value → Shared → Prop} {s : Shared} {a b : Addr} {U : String}
/-- a dict's == of a thing that is no dict -/
theorem dict_declines_eq {Q : Value → Shared → Prop} (ta : s.TypeIs (.ref a) "dict") (tb : s.TypeIs (.ref b) U) (hs : isSubtype (.type U) (.type "dict") = pure false) (h : Q .notImplemented s) :
    wpAny (model prog w) A (call (.builtin "dict.__eq__") [.ref a, .ref b]) Q E s := by
  refine wpAny_call_entry PySem.F.slot_dict_eq ta PySem.F.entry_dict_eq ?_ (PySem.F.args_dict_eq_2 _ _)
  show wpAny _ _ (Builtin.Dict.dictSlotArgs "__eq__" ⟨[.ref a, .ref b], []⟩ >>= _) _ _ s
  refine wpAny_bind ?_
  unfold Builtin.Dict.dictSlotArgs
  refine wpAny_bind (wpAny_notOrdered_dict ta ?_)
  show wpAny _ _ (pure (Value.ref a, Value.ref b)) _ _ s
  refine wpAny_pure ?_
  refine wpAny_bind (wpAny_isInstance (T := U) tb hs ?_)
  simp only [Bool.not_false, if_true]
  exact wpAny_bind (wpAny_rule (wpAny_pure ⟨_, rfl, h⟩))
theorem dict_declines_ne {Q : Value → Shared → Prop} (ta : s.TypeIs (.ref a) "dict") (tb : s.TypeIs (.ref b) U) (hs : isSubtype (.type U) (.type "dict") = pure false) (h : Q .notImplemented s) :
    wpAny (model prog w) A (call (.builtin "dict.__ne__") [.ref a, .ref b]) Q E s := by
  refine wpAny_call_entry PySem.F.slot_dict_ne ta PySem.F.entry_dict_ne ?_ (PySem.F.args_dict_ne_2 _ _)
  show wpAny _ _ (Builtin.Dict.dictSlotArgs "__ne__" ⟨[.ref a, .ref b], []⟩ >>= _) _ _ s
  refine wpAny_bind ?_
  unfold Builtin.Dict.dictSlotArgs
  refine wpAny_bind (wpAny_notOrdered_dict ta ?_)
  show wpAny _ _ (pure (Value.ref a, Value.ref b)) _ _ s
  refine wpAny_pure ?_
  refine wpAny_bind (wpAny_isInstance (T := U) tb hs ?_)
  simp only [Bool.not_false, if_true]
  exact wpAny_bind (wpAny_rule (wpAny_pure ⟨_, rfl, h⟩))
end
theorem tuple_eq_no_dict (l b : Addr) (items : Array Value) (n : Nat) (dd : Option Addr) (sl : Array (Option Value)) (d2 : Option Addr) (data2 : Data) (sl2 : Array (Option Value)) :
    Meets (Builtin.«tuple.__eq__» ⟨[.ref l, .ref b], []⟩) (fun _ R s => s.heap.get? l = some { cls := .type "tuple", dict := dd, data := .seq items n, slots := sl } ∧
      s.heap.get? b = some { cls := .type "dict", dict := d2, data := data2, slots := sl2 } ∧ R (.ok (.ret .notImplemented)) s) :=
  .of_wp fun prog w A R s h => by
    obtain ⟨hp, g, d, tk, os⟩ := s
    obtain ⟨hl, hb, h⟩ := h
    have f1 := F.sub_dict_tuple
    wp_walk using AutoSeq1.wpAny_loadPart' hl, AutoSeq1.wpAny_loadPart' hb
    exact ⟨_, rfl, h⟩
theorem tuple_ne_no_dict (l b : Addr) (items : Array Value) (n : Nat) (dd : Option Addr) (sl : Array (Option Value)) (d2 : Option Addr) (data2 : Data) (sl2 : Array (Option Value)) :
    Meets (Builtin.«tuple.__ne__» ⟨[.ref l, .ref b], []⟩) (fun _ R s => s.heap.get? l = some { cls := .type "tuple", dict := dd, data := .seq items n, slots := sl } ∧
      s.heap.get? b = some { cls := .type "dict", dict := d2, data := data2, slots := sl2 } ∧ R (.ok (.ret .notImplemented)) s) :=
  .of_wp fun prog w A R s h => by
    obtain ⟨hp, g, d, tk, os⟩ := s
    obtain ⟨hl, hb, h⟩ := h
    have f1 := F.sub_dict_tuple
    wp_walk using AutoSeq1.wpAny_loadPart' hl, AutoSeq1.wpAny_loadPart' hb
    exact ⟨_, rfl, h⟩

section
variable {A : Around} {s : Shared} {l b : Addr} {items : Array Value}
theorem ne_dict_tuple (hl : s.TypeIs (.ref b) "dict") (ht : s.heap.IsTuple l items) : l ≠ b := fun e => by
  obtain ⟨o, ho, hc⟩ := hl
  obtain ⟨o2, ho2, hc2, _⟩ := ht
  rw [e, ho] at ho2
  cases ho2
  rw [hc] at hc2
  exact absurd hc2 (by decide)
theorem rc_dict_tuple (hd : s.TypeIs (.ref b) "dict") (ht : s.heap.IsTuple l items) (hu : A.units < cLine) : RcAt A s (.ref b) (.ref l) false := fun prog w E Q h => by
  have hne := (ne_dict_tuple hd ht).symm
  obtain ⟨⟨c1, d1, data1, sl1⟩, ho, hc⟩ := id hd
  obtain ⟨⟨c2, d2, data2, sl2⟩, ho2, hc2, n2, hd2⟩ := id ht
  simp only at hc hc2 hd2
  subst hc hc2 hd2
  have tl : s.TypeIs (.ref l) "tuple" := ⟨_, ho2, rfl⟩
  exact rc_eq_decline_or (k := false) hd tl (by decide) PySem.F.sub_tuple_dict PySem.F.slot_dict_eq PySem.F.slot_tuple_eq_refl
    (fun Q' hq => dict_declines_eq hd tl PySem.F.sub_tuple_dict hq)
    (fun Q' hq => call_meets PySem.F.slot_tuple_eq_refl tl PySem.F.entry_tuple_eq (PySem.F.args_tuple_eq_2 _ _) (tuple_eq_no_dict l b items n2 d2 sl2 d1 data1 sl1) ⟨ho2, ho, hq⟩)
    (fun Q' hq => wpAny_isSame_ref_other hne ho ho2 (by simp) hq) (.inr hu) h
theorem rc_tuple_dict (hd : s.TypeIs (.ref b) "dict") (ht : s.heap.IsTuple l items) (hu : A.units < cLine) : RcAt A s (.ref l) (.ref b) false := fun prog w E Q h => by
  have hne := ne_dict_tuple hd ht
  obtain ⟨⟨c1, d1, data1, sl1⟩, ho, hc⟩ := id hd
  obtain ⟨⟨c2, d2, data2, sl2⟩, ho2, hc2, n2, hd2⟩ := id ht
  simp only at hc hc2 hd2
  subst hc hc2 hd2
  have tl : s.TypeIs (.ref l) "tuple" := ⟨_, ho2, rfl⟩
  exact rc_eq_decline_or (k := false) tl hd (by decide) PySem.F.sub_dict_tuple PySem.F.slot_tuple_eq PySem.F.slot_dict_eq_refl
    (fun Q' hq => call_meets PySem.F.slot_tuple_eq tl PySem.F.entry_tuple_eq (PySem.F.args_tuple_eq_2 _ _) (tuple_eq_no_dict l b items n2 d2 sl2 d1 data1 sl1) ⟨ho2, ho, hq⟩)
    (fun Q' hq => dict_declines_eq hd tl PySem.F.sub_tuple_dict hq)
    (fun Q' hq => wpAny_isSame_ref_other' hne ho2 ho (by simp) hq) (.inr hu) h
theorem rcNe_dict_tuple (hd : s.TypeIs (.ref b) "dict") (ht : s.heap.IsTuple l items) (hu : A.units < cLine) : RcNeAt A s (.ref b) (.ref l) true := fun prog w E Q h => by
  have hne := (ne_dict_tuple hd ht).symm
  obtain ⟨⟨c1, d1, data1, sl1⟩, ho, hc⟩ := id hd
  obtain ⟨⟨c2, d2, data2, sl2⟩, ho2, hc2, n2, hd2⟩ := id ht
  simp only at hc hc2 hd2
  subst hc hc2 hd2
  have tl : s.TypeIs (.ref l) "tuple" := ⟨_, ho2, rfl⟩
  exact rc_ne_decline_or (k := false) hd tl (by decide) PySem.F.sub_tuple_dict PySem.F.slot_dict_ne PySem.F.slot_tuple_ne_refl
    (fun Q' hq => dict_declines_ne hd tl PySem.F.sub_tuple_dict hq)
    (fun Q' hq => call_meets PySem.F.slot_tuple_ne_refl tl PySem.F.entry_tuple_ne (PySem.F.args_tuple_ne_2 _ _) (tuple_ne_no_dict l b items n2 d2 sl2 d1 data1 sl1) ⟨ho2, ho, hq⟩)
    (fun Q' hq => wpAny_isSame_ref_other hne ho ho2 (by simp) hq) (.inr hu) h
theorem rcNe_tuple_dict (hd : s.TypeIs (.ref b) "dict") (ht : s.heap.IsTuple l items) (hu : A.units < cLine) : RcNeAt A s (.ref l) (.ref b) true := fun prog w E Q h => by
  have hne := ne_dict_tuple hd ht
  obtain ⟨⟨c1, d1, data1, sl1⟩, ho, hc⟩ := id hd
  obtain ⟨⟨c2, d2, data2, sl2⟩, ho2, hc2, n2, hd2⟩ := id ht
  simp only at hc hc2 hd2
  subst hc hc2 hd2
  have tl : s.TypeIs (.ref l) "tuple" := ⟨_, ho2, rfl⟩
  exact rc_ne_decline_or (k := false) tl hd (by decide) PySem.F.sub_dict_tuple PySem.F.slot_tuple_ne PySem.F.slot_dict_ne_refl
    (fun Q' hq => call_meets PySem.F.slot_tuple_ne tl PySem.F.entry_tuple_ne (PySem.F.args_tuple_ne_2 _ _) (tuple_ne_no_dict l b items n2 d2 sl2 d1 data1 sl1) ⟨ho2, ho, hq⟩)
    (fun Q' hq => dict_declines_ne hd tl PySem.F.sub_tuple_dict hq)
    (fun Q' hq => wpAny_isSame_ref_other' hne ho2 ho (by simp) hq) (.inr hu) h
end
/-! ### trees as the library's data -/
mutual
def T.toD : T → PyData
  | .non => .none | .bl b => .bool b | .int i => .int i | .str x => .str x
  | .lst xs => .list (toDs xs) | .tup xs => .tuple (toDs xs)
  | _ => .dict []
def toDs : List T → List PyData
  | [] => []
  | x :: xs => x.toD :: toDs xs
end
mutual
theorem eqv_toD : ∀ x y : T, PyData.eqv x.toD y.toD = x.eqv y
  | .non, y => by cases y <;> simp [T.toD, PyData.eqv, T.eqv]
  | .bl a, y => by cases y <;> simp [T.toD, PyData.eqv, T.eqv, b2]
  | .int a, y => by cases y <;> simp [T.toD, PyData.eqv, T.eqv, b2]
  | .str a, y => by cases y <;> simp [T.toD, PyData.eqv, T.eqv, BEq.beq]
  | .lst a, y => by cases y <;> simp [T.toD, PyData.eqv, T.eqv, eqvs_toD a]
  | .tup a, y => by cases y <;> simp [T.toD, PyData.eqv, T.eqv, eqvs_toD a]
  | .dct a, y => by cases y <;> simp [T.toD, PyData.eqv, T.eqv]
  | .ins a b, y => by cases y <;> simp [T.toD, PyData.eqv, T.eqv]
  | .loc a, y => by cases y <;> simp [T.toD, PyData.eqv, T.eqv]
  | .ktup a, y => by cases y <;> simp [T.toD, PyData.eqv, T.eqv]
theorem eqvs_toD : ∀ xs ys : List T, PyData.eqvAll (toDs xs) (toDs ys) = eqvs xs ys
  | [], [] => by simp [toDs, PyData.eqvAll, eqvs]
  | [], _ :: _ => by simp [toDs, PyData.eqvAll, eqvs]
  | _ :: _, [] => by simp [toDs, PyData.eqvAll, eqvs]
  | x :: xs, y :: ys => by simp [toDs, PyData.eqvAll, eqvs, eqv_toD x y, eqvs_toD xs ys]
end
end MB

set_option Elab.async false
set_option linter.all false
set_option maxRecDepth 100000
set_option maxHeartbeats 2000000
/-! Comparisons of what is seen. -/
namespace MB
open PySem PySem.Spec L2 PySem.SeqAt

section
variable {X : Cx} {G : Gx} {α : List Addr} {S : Store} {H : Hp} {pins : List (Addr × Obj)} {σ : L2.St} {s : Shared} {v w : V} {x y : T} {u u' : Value}
/-- trees without dicts as the layer's data -/
theorem dpAll_of {K : PySem.W.Frag} {n : Nat} (ih : ∀ {v : V} {t : T}, Rep G α H v t → t.pl n = true → Dp G.K H v t.toD ∧ t.toD.canLay0 = true ∧ t.toD.depth ≤ n) :
    ∀ {vs : List V} {ts : List T}, RepL G α H vs ts → ts.all (T.pl n) = true → DpAll G.K H vs (toDs ts) ∧ PyData.canLayAll0 (toDs ts) = true ∧ PyData.depthAll (toDs ts) ≤ n
  | _, _, .nil, _ => ⟨.nil, rfl, Nat.zero_le _⟩
  | _, _, .cons a b, h => by
    rw [List.all_cons, Bool.and_eq_true] at h
    obtain ⟨h1, h2, h3⟩ := ih a h.1
    obtain ⟨g1, g2, g3⟩ := dpAll_of (K := K) ih b h.2
    refine ⟨.cons h1 g1, ?_, ?_⟩
    · simp only [toDs, PyData.canLayAll0, h2, g2, Bool.and_self]
    · simp only [toDs, PyData.depthAll]
      exact Nat.max_le.mpr ⟨h3, g3⟩
theorem dp_of : ∀ (n : Nat) {v : V} {t : T}, Rep G α H v t → t.pl n = true → Dp G.K H v t.toD ∧ t.toD.canLay0 = true ∧ t.toD.depth ≤ n
  | _, _, _, .non, _ => ⟨.non, rfl, Nat.zero_le _⟩
  | _, _, _, .bl b, _ => ⟨.bl b, rfl, Nat.zero_le _⟩
  | _, _, _, .int i, _ => ⟨.int i, rfl, Nat.zero_le _⟩
  | n, _, _, .str x, h => ⟨.str x, by cases n <;> exact h, Nat.zero_le _⟩
  | 0, _, _, .tup _ _, h => by simp [T.pl] at h
  | 0, _, _, .tupE _, h => by simp [T.pl] at h
  | n + 1, _, _, .tupE q, h => ⟨.tup q .nil, rfl, Nat.succ_le_succ (Nat.zero_le _)⟩
  | n, _, _, .ktup _ _, h => by cases n <;> simp [T.pl] at h
  | n + 1, _, _, .tup q r, h => by
    obtain ⟨g1, g2, g3⟩ := dpAll_of (K := G.K) (dp_of n) r (by simpa [T.pl] using h)
    exact ⟨.tup (SqT.of q) g1, g2, Nat.succ_le_succ g3⟩
  | 0, _, _, .con _ c, h => by cases c <;> simp [T.pl] at h
  | n + 1, _, _, .con e c, h => by
    cases c with
    | lst z r =>
      obtain ⟨g1, g2, g3⟩ := dpAll_of (K := G.K) (dp_of n) r (by simpa [T.pl] using h)
      exact ⟨.lst (.inl (.inr ⟨_, e⟩)) g1, g2, Nat.succ_le_succ g3⟩
    | dK z r => simp [T.pl] at h
    | dT z _ r => simp [T.pl] at h
    | ins r => simp [T.pl] at h
  | n, _, _, .loc _, h => by cases n <;> simp [T.pl] at h
theorem dpV_of {n : Nat} (r : RepV G α H v x) (h : x.pl n = true) : Dp G.K H v x.toD ∧ x.toD.canLay0 = true ∧ x.toD.depth ≤ n := by
  rcases r with r | ⟨a, u, e, hu, mu, c⟩
  · exact dp_of n r h
  · subst e
    cases c with
    | lst z r =>
      cases n with
      | zero => simp [T.pl] at h
      | succ n =>
        obtain ⟨g1, g2, g3⟩ := dpAll_of (K := G.K) (dp_of n) r (by simpa [T.pl] using h)
        exact ⟨.lst (.inl (.inl hu)) g1, g2, Nat.succ_le_succ g3⟩
    | dK z r => cases n <;> simp [T.pl] at h
    | dT z _ r => cases n <;> simp [T.pl] at h
    | ins r => cases n <;> simp [T.pl] at h
/-- what the machine's == and != say -/
def Says (A : Around) (s : Shared) (u u' : Value) (k : Bool) : Prop := RcAt A s u u' k ∧ RcNeAt A s u u' (!k)
theorem says_pl (I : Inv X pins σ H s) (hK : X.K = G.K) (hu : X.A.units + 64 < cLine) (r1 : RepV G α H v x) (r2 : RepV G α H w y) (rv : RelV v u) (rw' : RelV w u') (h1 : x.pl 8 = true) (h2 : y.pl 8 = true) : Says X.A s u u' (x.eqv y) := by
  obtain ⟨d1, c1, l1⟩ := dpV_of r1 h1
  obtain ⟨d2, c2, l2⟩ := dpV_of r2 h2
  rw [← hK] at d1 d2
  obtain ⟨as, q1⟩ := Dp.reads I _ _ _ d1 rv
  obtain ⟨bs, q2⟩ := Dp.reads I _ _ _ d2 rw'
  have hm : X.A.units + min x.toD.depth y.toD.depth < cLine := by
    have : min x.toD.depth y.toD.depth ≤ x.toD.depth := Nat.min_le_left _ _
    omega
  rw [← eqv_toD x y]
  exact ⟨rcAt_reads q1 q2 c1 c2 hm, rcNeAt_reads q1 q2 c1 c2 hm⟩
theorem says_atom (r1 : RepV G α H v x) (r2 : RepV G α H w y) (rv : RelV v u) (rw' : RelV w u') (h1 : x.atom = true) (h2 : y.atom = true) : Says X.A s u u' (x.eqv y) := by
  cases x with
  | non =>
    rw [r1.non] at rv; cases rv
    cases y with
    | non => rw [r2.non] at rw'; cases rw'; simp only [T.eqv]; exact ⟨RcAt.none_none, RcNeAt.none_none⟩
    | bl b => rw [r2.bl] at rw'; cases rw'; simp only [T.eqv]; exact ⟨RcAt.none_bool _, RcNeAt.none_bool _⟩
    | int b => rw [r2.int] at rw'; obtain ⟨t, rfl⟩ := rw'; simp only [T.eqv]; exact ⟨RcAt.none_int _ _, RcNeAt.none_int _ _⟩
    | str b => rw [r2.str] at rw'; obtain ⟨t, rfl⟩ := rw'; simp only [T.eqv]; exact ⟨RcAt.none_str _ _, RcNeAt.none_str _ _⟩
    | _ => simp [T.atom] at h2
  | bl a =>
    rw [r1.bl] at rv; cases rv
    cases y with
    | non => rw [r2.non] at rw'; cases rw'; simp only [T.eqv]; exact ⟨RcAt.bool_none _, RcNeAt.bool_none _⟩
    | bl b => rw [r2.bl] at rw'; cases rw'; simp only [T.eqv]; exact ⟨RcAt.bool_bool _ _, RcNeAt.bool_bool _ _⟩
    | int b => rw [r2.int] at rw'; obtain ⟨t, rfl⟩ := rw'; simp only [T.eqv]; exact ⟨RcAt.bool_int _ _ _, RcNeAt.bool_int _ _ _⟩
    | str b => rw [r2.str] at rw'; obtain ⟨t, rfl⟩ := rw'; simp only [T.eqv]; exact ⟨RcAt.bool_str _ _ _, RcNeAt.bool_str _ _ _⟩
    | _ => simp [T.atom] at h2
  | int a =>
    rw [r1.int] at rv; obtain ⟨ta, rfl⟩ := rv
    cases y with
    | non => rw [r2.non] at rw'; cases rw'; simp only [T.eqv]; exact ⟨RcAt.int_none _ _, RcNeAt.int_none _ _⟩
    | bl b => rw [r2.bl] at rw'; cases rw'; simp only [T.eqv]; exact ⟨RcAt.int_bool _ _ _, RcNeAt.int_bool _ _ _⟩
    | int b => rw [r2.int] at rw'; obtain ⟨t, rfl⟩ := rw'; simp only [T.eqv]; exact ⟨RcAt.int_int _ _ _ _, RcNeAt.int_int _ _ _ _⟩
    | str b => rw [r2.str] at rw'; obtain ⟨t, rfl⟩ := rw'; simp only [T.eqv]; exact ⟨RcAt.int_str _ _ _ _, RcNeAt.int_str _ _ _ _⟩
    | _ => simp [T.atom] at h2
  | str a =>
    rw [r1.str] at rv; obtain ⟨ta, rfl⟩ := rv
    cases y with
    | non => rw [r2.non] at rw'; cases rw'; simp only [T.eqv]; exact ⟨RcAt.str_none _ _, RcNeAt.str_none _ _⟩
    | bl b => rw [r2.bl] at rw'; cases rw'; simp only [T.eqv]; exact ⟨RcAt.str_bool _ _ _, RcNeAt.str_bool _ _ _⟩
    | int b => rw [r2.int] at rw'; obtain ⟨t, rfl⟩ := rw'; simp only [T.eqv]; exact ⟨RcAt.str_int _ _ _ _, RcNeAt.str_int _ _ _ _⟩
    | str b =>
      rw [r2.str] at rw'; obtain ⟨t, rfl⟩ := rw'
      have e : decide (a = b) = (a == b) := by
        by_cases h : a = b
        · subst h; simp
        · rw [decide_eq_false h]; exact (beq_eq_false_iff_ne.mpr h).symm
      simp only [T.eqv, e]
      exact ⟨RcAt.str_str _ _ _ _, RcNeAt.str_str _ _ _ _⟩
    | _ => simp [T.atom] at h2
  | _ => simp [T.atom] at h1
theorem isL_of (I : Inv X pins σ H s) {a : Addr} {vs : List V} (h : Rd H a (.lst vs)) : ∃ its : List Value, Vals vs its ∧ s.heap.IsList a its.toArray := by
  obtain ⟨its, k, r, e⟩ := lstR I h
  exact ⟨its, r, _, e, rfl, _, rfl⟩
theorem isT_of (I : Inv X pins σ H s) (hK : X.K = G.K) {a : Addr} {vs : List V} (h : SqT G.K H a vs) : ∃ its : List Value, Vals vs its ∧ s.heap.IsTuple a its.toArray := by
  rw [← hK] at h
  obtain ⟨its, r, p, _⟩ := I.tuple h
  exact ⟨its, r, p⟩
theorem isD_of (I : Inv X pins σ H s) {ts : List (T × T)} (r : RepV G α H v (.dct ts)) : ∃ a, v = .ref a ∧ s.TypeIs (.ref a) "dict" := by
  obtain ⟨a, e, h⟩ := r.dct
  refine ⟨a, e, ?_⟩
  rcases h with ⟨kvs, h, _, _⟩ | ⟨kvs, h, _, _, _⟩
  · obtain ⟨_, _, vs, _, dd⟩ := dk_rd I.hok h
    exact dd.typeIs
  · obtain ⟨_, _, vs, _, o, es, ep, h1, h2, _⟩ := dt_rd I.hok h
    exact ⟨o, h1, h2.1⟩
end
end MB

set_option Elab.async false
set_option linter.all false
set_option maxRecDepth 100000
set_option maxHeartbeats 2000000
/-! Comparisons: each operator. -/
namespace MB
open PySem PySem.Spec L2 PySem.SeqAt

section
variable {X : Cx} {G : Gx} {α : List Addr} {S : Store} {H : Hp} {pins : List (Addr × Obj)} {σ : L2.St} {s : Shared} {v w : V} {x y : T} {u u' : Value}
theorem says_eqT (I : Inv X pins σ H s) (hK : X.K = G.K) (hu : X.A.units + 64 < cLine) (r1 : RepV G α H v x) (r2 : RepV G α H w y) (rv : RelV v u) (rw' : RelV w u') {k : Bool} (hk : eqT x y = some k) : Says X.A s u u' k := by
  have hu0 : X.A.units < cLine := by omega
  unfold eqT at hk
  split at hk
  · rename_i h
    rw [Bool.and_eq_true] at h
    cases hk
    exact says_atom r1 r2 rv rw' h.1 h.2
  · split at hk
    · rename_i xs ys
      split at hk
      · split at hk
        · rename_i hl hp
          rw [Bool.and_eq_true] at hp
          cases hk
          exact says_pl I hK hu r1 r2 rv rw' hp.1 hp.2
        · cases hk
      · rename_i hl
        cases hk
        obtain ⟨a, vs, rfl, h1, rl, _⟩ := r1.lst
        obtain ⟨b, ws, rfl, h2, rl2, _⟩ := r2.lst
        cases rv; cases rw'
        obtain ⟨its, p1, q1⟩ := isL_of I h1
        obtain ⟨jts, p2, q2⟩ := isL_of I h2
        have hne : (its.toArray.size != jts.toArray.size) = true := by
          have := p1.length; have := p2.length; have := rl.length; have := rl2.length
          simp only [List.size_toArray, bne_iff_ne, ne_eq]
          omega
        exact ⟨RcAt.lists_lengths q1 q2 hne hu0, RcNeAt.lists_lengths q1 q2 hne hu0⟩
    · split at hk
      · rename_i hp
        rw [Bool.and_eq_true] at hp
        cases hk
        exact says_pl I hK hu r1 r2 rv rw' hp.1 hp.2
      · cases hk
    · cases hk
      obtain ⟨a, rfl, td⟩ := isD_of I r1
      obtain ⟨b, ws, rfl, h2, rl2⟩ := r2.tup
      cases rv; cases rw'
      obtain ⟨jts, p2, q2⟩ := isT_of I hK h2
      exact ⟨rc_dict_tuple td q2 hu0, rcNe_dict_tuple td q2 hu0⟩
    · cases hk
      obtain ⟨a, rfl, td⟩ := isD_of I r2
      obtain ⟨b, ws, rfl, h2, rl2⟩ := r1.tup
      cases rv; cases rw'
      obtain ⟨jts, p2, q2⟩ := isT_of I hK h2
      exact ⟨rc_tuple_dict td q2 hu0, rcNe_tuple_dict td q2 hu0⟩
    · split at hk
      · rename_i hat _ _ _ _ hc
        cases hk
        simp only [Bool.and_eq_true, decide_eq_true_eq, bne_iff_ne, ne_eq] at hc
        obtain ⟨⟨c1, c2⟩, c3⟩ := hc
        cases x with
        | non =>
          rw [r1.non] at rv; cases rv
          cases y with
          | lst ys =>
            obtain ⟨b, ws, rfl, h2, rl2, _⟩ := r2.lst
            cases rw'
            obtain ⟨jts, p2, q2⟩ := isL_of I h2
            exact ⟨RcAt.none_list q2 hu0, RcNeAt.none_list q2 hu0⟩
          | tup ys =>
            obtain ⟨b, ws, rfl, h2, rl2⟩ := r2.tup
            cases rw'
            obtain ⟨jts, p2, q2⟩ := isT_of I hK h2
            exact ⟨RcAt.none_tuple q2 hu0, RcNeAt.none_tuple q2 hu0⟩
          | _ => simp [T.atom, T.kd] at *
        | bl bb =>
          rw [r1.bl] at rv; cases rv
          cases y with
          | lst ys =>
            obtain ⟨b, ws, rfl, h2, rl2, _⟩ := r2.lst
            cases rw'
            obtain ⟨jts, p2, q2⟩ := isL_of I h2
            exact ⟨RcAt.bool_list _ q2 hu0, RcNeAt.bool_list _ q2 hu0⟩
          | tup ys =>
            obtain ⟨b, ws, rfl, h2, rl2⟩ := r2.tup
            cases rw'
            obtain ⟨jts, p2, q2⟩ := isT_of I hK h2
            exact ⟨RcAt.bool_tuple _ q2 hu0, RcNeAt.bool_tuple _ q2 hu0⟩
          | _ => simp [T.atom, T.kd] at *
        | int i =>
          rw [r1.int] at rv; obtain ⟨t, rfl⟩ := rv
          cases y with
          | lst ys =>
            obtain ⟨b, ws, rfl, h2, rl2, _⟩ := r2.lst
            cases rw'
            obtain ⟨jts, p2, q2⟩ := isL_of I h2
            exact ⟨RcAt.int_list _ _ q2 hu0, RcNeAt.int_list _ _ q2 hu0⟩
          | tup ys =>
            obtain ⟨b, ws, rfl, h2, rl2⟩ := r2.tup
            cases rw'
            obtain ⟨jts, p2, q2⟩ := isT_of I hK h2
            exact ⟨RcAt.int_tuple _ _ q2 hu0, RcNeAt.int_tuple _ _ q2 hu0⟩
          | _ => simp [T.atom, T.kd] at *
        | str i =>
          rw [r1.str] at rv; obtain ⟨t, rfl⟩ := rv
          cases y with
          | lst ys =>
            obtain ⟨b, ws, rfl, h2, rl2, _⟩ := r2.lst
            cases rw'
            obtain ⟨jts, p2, q2⟩ := isL_of I h2
            exact ⟨RcAt.str_list _ _ q2 hu0, RcNeAt.str_list _ _ q2 hu0⟩
          | tup ys =>
            obtain ⟨b, ws, rfl, h2, rl2⟩ := r2.tup
            cases rw'
            obtain ⟨jts, p2, q2⟩ := isT_of I hK h2
            exact ⟨RcAt.str_tuple _ _ q2 hu0, RcNeAt.str_tuple _ _ q2 hu0⟩
          | _ => simp [T.atom, T.kd] at *
        | lst xs =>
          obtain ⟨a, vs, rfl, h1, rl, _⟩ := r1.lst
          cases rv
          obtain ⟨its, p1, q1⟩ := isL_of I h1
          cases y with
          | non => rw [r2.non] at rw'; cases rw'; exact ⟨RcAt.list_none q1 hu0, RcNeAt.list_none q1 hu0⟩
          | bl _ => rw [r2.bl] at rw'; cases rw'; exact ⟨RcAt.list_bool _ q1 hu0, RcNeAt.list_bool _ q1 hu0⟩
          | int _ => rw [r2.int] at rw'; obtain ⟨t, rfl⟩ := rw'; exact ⟨RcAt.list_int _ _ q1 hu0, RcNeAt.list_int _ _ q1 hu0⟩
          | str _ => rw [r2.str] at rw'; obtain ⟨t, rfl⟩ := rw'; exact ⟨RcAt.list_str _ _ q1 hu0, RcNeAt.list_str _ _ q1 hu0⟩
          | tup ys =>
            obtain ⟨b, ws, rfl, h2, rl2⟩ := r2.tup
            cases rw'
            obtain ⟨jts, p2, q2⟩ := isT_of I hK h2
            exact ⟨RcAt.list_tuple q1 q2 hu0, RcNeAt.list_tuple q1 q2 hu0⟩
          | _ => simp [T.atom, T.kd] at *
        | tup xs =>
          obtain ⟨a, vs, rfl, h1, rl⟩ := r1.tup
          cases rv
          obtain ⟨its, p1, q1⟩ := isT_of I hK h1
          cases y with
          | non => rw [r2.non] at rw'; cases rw'; exact ⟨RcAt.tuple_none q1 hu0, RcNeAt.tuple_none q1 hu0⟩
          | bl _ => rw [r2.bl] at rw'; cases rw'; exact ⟨RcAt.tuple_bool _ q1 hu0, RcNeAt.tuple_bool _ q1 hu0⟩
          | int _ => rw [r2.int] at rw'; obtain ⟨t, rfl⟩ := rw'; exact ⟨RcAt.tuple_int _ _ q1 hu0, RcNeAt.tuple_int _ _ q1 hu0⟩
          | str _ => rw [r2.str] at rw'; obtain ⟨t, rfl⟩ := rw'; exact ⟨RcAt.tuple_str _ _ q1 hu0, RcNeAt.tuple_str _ _ q1 hu0⟩
          | lst ys =>
            obtain ⟨b, ws, rfl, h2, rl2, _⟩ := r2.lst
            cases rw'
            obtain ⟨jts, p2, q2⟩ := isL_of I h2
            exact ⟨RcAt.tuple_list q1 q2 hu0, RcNeAt.tuple_list q1 q2 hu0⟩
          | _ => simp [T.atom, T.kd] at *
        | _ => simp [T.atom, T.kd] at *
      · cases hk
/-! ### keys -/
theorem key_rep {k : Key} (h : x.key = some k) (r : RepV G α H v x) : v = kV k := by
  cases x with
  | int i => cases h; exact r.int
  | str i => cases h; exact r.str
  | _ => cases h
theorem keys_rep : ∀ {xs : List T} {ks : List Key} {vs : List V}, keysOf xs = some ks → RepL G α H vs xs → vs = ks.map kV
  | [], ks, _, h, .nil => by cases h; rfl
  | x :: xs, ks, _, h, .cons a b => by
    unfold keysOf at h
    split at h
    · rename_i k ks' h1 h2
      cases h
      rw [key_rep h1 (.inl a), keys_rep h2 b]
      rfl
    · cases h
theorem tk_k {k : Key} : x.tk = some (.k k) ↔ x.key = some k := by
  cases x with
  | int i => simp [T.tk, T.key]
  | str i => simp [T.tk, T.key]
  | tup xs => cases xs <;> simp [T.tk, T.key]
  | _ => simp [T.tk, T.key]
theorem tk_t {ks : List Key} : x.tk = some (.t ks) ↔ ∃ y xs, x = .tup (y :: xs) ∧ keysOf (y :: xs) = some ks := by
  cases x with
  | tup xs =>
    cases xs with
    | nil => simp [T.tk]
    | cons y ys =>
      simp only [T.tk, Option.map_eq_some_iff]
      constructor
      · rintro ⟨k, h, e⟩
        cases e
        exact ⟨y, ys, rfl, h⟩
      · rintro ⟨y', ys', e, h⟩
        cases e
        exact ⟨ks, h, rfl⟩
  | _ => simp [T.tk]
theorem dget_k {k : Key} : ∀ {kvs : List (Key × V)} {ts : List (T × T)}, RepD G α H kvs ts → x.key = some k →
    (∀ t, dget ts x = some t → ∃ v, valV kvs k = some v ∧ Rep G α H v t) ∧ (dget ts x = none → valV kvs k = none) ∧ (valV kvs k).isSome = dhas ts x
  | _, _, .nil, _ => ⟨fun t h => by simp [dget] at h, fun _ => rfl, rfl⟩
  | _, _, .cons (k := k') (tk := tk) h a b, hx => by
    have e1 : tk.tk = some (.k k') := tk_k.mpr h
    have e2 : x.tk = some (.k k) := tk_k.mpr hx
    by_cases e : k' = k
    · subst e
      have e3 : tk.tk = x.tk := e1.trans e2.symm
      refine ⟨fun t ht => ?_, fun hn => ?_, ?_⟩
      · simp [dget, e3] at ht
        subst ht
        exact ⟨_, valV_pos rfl, a⟩
      · simp [dget, e3] at hn
      · rw [valV_pos (by rfl)]
        simp [dhas, e3]
    · have e3 : ¬ tk.tk = x.tk := by rw [e1, e2]; intro z; cases z; exact e rfl
      obtain ⟨i1, i2, i3⟩ := dget_k b hx
      refine ⟨fun t ht => ?_, fun hn => ?_, ?_⟩
      · rw [valV_neg e]
        exact i1 t (by simpa [dget, e3] using ht)
      · rw [valV_neg e]
        exact i2 (by simpa [dget, e3] using hn)
      · rw [valV_neg e, i3]
        simp [dhas, e3]
theorem dget_t {k : List Key} : ∀ {kvs : List (List Key × V)} {ts : List (T × T)}, RepDT G α H kvs ts → x.tk = some (.t k) →
    (∀ t, dget ts x = some t → ∃ v, valV kvs k = some v ∧ Rep G α H v t) ∧ (dget ts x = none → valV kvs k = none) ∧ (valV kvs k).isSome = dhas ts x
  | _, _, .nil, _ => ⟨fun t h => by simp [dget] at h, fun _ => rfl, rfl⟩
  | _, _, .cons (k := k') (x := x0) (xs := xs0) h a b, hx => by
    have e1 : (T.tup (x0 :: xs0)).tk = some (.t k') := tk_t.mpr ⟨x0, xs0, rfl, h⟩
    by_cases e : k' = k
    · subst e
      have e3 : (T.tup (x0 :: xs0)).tk = x.tk := e1.trans hx.symm
      refine ⟨fun t ht => ?_, fun hn => ?_, ?_⟩
      · simp [dget, e3] at ht
        subst ht
        exact ⟨_, valV_pos rfl, a⟩
      · simp [dget, e3] at hn
      · rw [valV_pos (by rfl)]
        simp [dhas, e3]
    · have e3 : ¬ (T.tup (x0 :: xs0)).tk = x.tk := by rw [e1, hx]; intro z; cases z; exact e rfl
      obtain ⟨i1, i2, i3⟩ := dget_t b hx
      refine ⟨fun t ht => ?_, fun hn => ?_, ?_⟩
      · rw [valV_neg e]
        exact i1 t (by simpa [dget, e3] using ht)
      · rw [valV_neg e]
        exact i2 (by simpa [dget, e3] using hn)
      · rw [valV_neg e, i3]
        simp [dhas, e3]
/-- a key of the other form is in no such dict -/
theorem dget_kt {k : Key} : ∀ {kvs : List (List Key × V)} {ts : List (T × T)}, RepDT G α H kvs ts → x.key = some k → dget ts x = none ∧ dhas ts x = false
  | _, _, .nil, _ => ⟨rfl, rfl⟩
  | _, _, .cons (k := k') (x := x0) (xs := xs0) h a b, hx => by
    have e1 : (T.tup (x0 :: xs0)).tk = some (.t k') := tk_t.mpr ⟨x0, xs0, rfl, h⟩
    have e2 : x.tk = some (.k k) := tk_k.mpr hx
    have e3 : ¬ (T.tup (x0 :: xs0)).tk = x.tk := by rw [e1, e2]; intro z; cases z
    obtain ⟨i1, i2⟩ := dget_kt b hx
    exact ⟨by simpa [dget, e3] using i1, by simpa [dhas, e3] using i2⟩
theorem dget_tk {k : List Key} : ∀ {kvs : List (Key × V)} {ts : List (T × T)}, RepD G α H kvs ts → x.tk = some (.t k) → dget ts x = none ∧ dhas ts x = false
  | _, _, .nil, _ => ⟨rfl, rfl⟩
  | _, _, .cons (k := k') (tk := tk) h a b, hx => by
    have e1 : tk.tk = some (.k k') := tk_k.mpr h
    have e3 : ¬ tk.tk = x.tk := by rw [e1, hx]; intro z; cases z
    obtain ⟨i1, i2⟩ := dget_tk b hx
    exact ⟨by simpa [dget, e3] using i1, by simpa [dhas, e3] using i2⟩
end
end MB

set_option Elab.async false
set_option linter.all false
set_option maxRecDepth 100000
set_option maxHeartbeats 2000000
/-! Comparisons: the rule for all operators. -/
namespace MB
open PySem PySem.Spec L2 PySem.SeqAt

def copOf : COp → CmpOp
  | .eq => .Eq | .ne => .NotEq | .lt => .Lt | .le => .LtE | .gt => .Gt | .ge => .GtE | .inn => .In | .nin => .NotIn | .is => .Is | .isnot => .IsNot
section
variable {X : Cx} {G : Gx} {N : List Str} {sc : Scope} {n : Nat} {α : List Addr} {S : Store} {H : Hp} {pins : List (Addr × Obj)} {σ : L2.St} {s : Shared} {v w : V} {x y : T} {u u' : Value}
theorem repDT_keys : ∀ {kvs : List (List Key × V)} {ts : List (T × T)}, RepDT G α H kvs ts → ∀ p ∈ ts, p.1.key = none
  | _, _, .nil, p, h => by cases h
  | _, _, .cons _ _ b, p, h => by
    rcases List.mem_cons.mp h with e | h
    · rw [e]; rfl
    · exact repDT_keys b p h
theorem repD_keys : ∀ {kvs : List (Key × V)} {ts : List (T × T)}, RepD G α H kvs ts → ∀ p ∈ ts, p.1.key.isSome = true
  | _, _, .nil, p, h => by cases h
  | _, _, .cons e _ b, p, h => by
    rcases List.mem_cons.mp h with q | h
    · rw [q]; show Option.isSome (T.key _) = true; rw [e]; rfl
    · exact repD_keys b p h
/-- a dict asked by an int or a text -/
theorem RepV.dctK {ts : List (T × T)} {k : Key} (r : RepV G α H w (.dct ts)) (hx : x.key = some k) (hf : dform ts x = true) : ∃ a kvs, w = .ref a ∧ Rd H a (.dK kvs) ∧ RepD G α H kvs ts ∧ kvs.length ≤ sizeLine := by
  obtain ⟨a, e, hd⟩ := r.dct
  rcases hd with ⟨kvs, h, rd, z⟩ | ⟨kvs, h, rd, z, ne⟩
  · exact ⟨a, kvs, e, h, rd, z⟩
  · exfalso
    cases rd with
    | nil => exact ne rfl
    | cons hk a b =>
      unfold dform at hf
      rw [Bool.and_eq_true] at hf
      have := List.all_eq_true.mp hf.2 _ (List.mem_cons_self ..)
      rw [hx] at this
      simp [T.key] at this
/-- a dict asked by a tuple -/
theorem RepV.dctT {ts : List (T × T)} {ks : List Key} (r : RepV G α H w (.dct ts)) (hx : x.tk = some (.t ks)) (hf : dform ts x = true) :
    (∃ a kvs, w = .ref a ∧ Rd H a (.dT kvs) ∧ RepDT G α H kvs ts ∧ kvs.length ≤ sizeLine ∧ kvs ≠ []) ∨ (ts = [] ∧ ∃ a, w = .ref a ∧ Rd H a (.dK [])) := by
  obtain ⟨a, e, hd⟩ := r.dct
  rcases hd with ⟨kvs, h, rd, z⟩ | ⟨kvs, h, rd, z, ne⟩
  · cases rd with
    | nil => exact .inr ⟨rfl, a, e, h⟩
    | cons hk a b =>
      exfalso
      unfold dform at hf
      rw [Bool.and_eq_true] at hf
      have := List.all_eq_true.mp hf.2 _ (List.mem_cons_self ..)
      obtain ⟨y0, ys0, rfl, _⟩ := tk_t.mp hx
      rw [hk] at this
      simp [T.key] at this
  · exact .inl ⟨a, kvs, e, h, rd, z, ne⟩
/-- the empty dict, asked by a tuple -/
theorem dictNone (I : Inv X pins σ H s) {a : Addr} (h : Rd H a (.dK [])) : (a == sysModules) = false ∧ s.heap.DictOfH (tupleKind (mixKind X.prog X.w)) a ([] : List (List Key × Addr × Value)) := by
  obtain ⟨_, hsm, vs, kv, o, es, ep, h1, h2, h3, _, h5, _⟩ := dk_rd I.hok h
  cases kv
  refine ⟨hsm, o, es, ep, h1, h2, h3, ?_, fun _ hx => by simp at hx, by simp⟩
  have : es.toList = [] := by
    cases q : es.toList with
    | nil => rfl
    | cons p ps => rw [q] at h5; cases h5
  rw [this]; rfl
theorem dictIn (I : Inv X pins σ H s) (hu : X.A.units + 1 < cLine) {ts : List (T × T)} (r1 : RepV G α H v x) (r2 : RepV G α H w (.dct ts)) (rv : RelV v u) (rw' : RelV w u') (hf : dform ts x = true)
    {E : Value → Shared → Prop} {Q Q' : Value → Shared → Prop} : ((∀ s', Inv X pins σ H s' → Q (.bool (dhas ts x)) s') → wpAny (model X.prog X.w) X.A (compareOp .In u u') Q E s) ∧
    ((∀ s', Inv X pins σ H s' → Q' (.bool (!dhas ts x)) s') → wpAny (model X.prog X.w) X.A (compareOp .NotIn u u') Q' E s) := by
  have hs : x.tk.isSome = true := by
    unfold dform at hf
    exact (Bool.and_eq_true_iff.mp hf).1
  cases q : x.tk with
  | none => rw [q] at hs; cases hs
  | some tk =>
    cases tk with
    | k k =>
      have hx := tk_k.mp q
      have ev := key_rep hx r1
      subst ev
      obtain ⟨a, kvs, rfl, h, rd, z⟩ := r2.dctK hx hf
      cases rw'
      obtain ⟨_, _, e⟩ := dget_k rd hx
      refine ⟨fun hQ => d_in hu I (o := valV kvs k) (.inl ⟨kvs, k, h, rfl, rfl⟩) rv fun s' I' => ?_, fun hQ => d_notIn hu I (o := valV kvs k) (.inl ⟨kvs, k, h, rfl, rfl⟩) rv fun s' I' => ?_⟩
      · rw [e]; exact hQ s' I'
      · rw [e]; exact hQ s' I'
    | t ks =>
      obtain ⟨y0, ys0, rfl, hks⟩ := tk_t.mp q
      obtain ⟨b, vs, rfl, hb, rl⟩ := r1.tupT
      have ev := keys_rep hks rl
      subst ev
      cases rv
      rcases r2.dctT q hf with ⟨a, kvs, rfl, h, rd, z, ne⟩ | ⟨rfl, a, rfl, h⟩
      · cases rw'
        obtain ⟨_, _, e⟩ := dget_t rd q
        refine ⟨fun hQ => d_in hu I (o := valV kvs ks) (.inr ⟨kvs, ks, b, h, rfl, hb, rfl⟩) rfl fun s' I' => ?_, fun hQ => d_notIn hu I (o := valV kvs ks) (.inr ⟨kvs, ks, b, h, rfl, hb, rfl⟩) rfl fun s' I' => ?_⟩
        · rw [e]; exact hQ s' I'
        · rw [e]; exact hQ s' I'
      · cases rw'
        obtain ⟨hsm, dd⟩ := dictNone I h
        have kk := key_of I.hok hb
        refine ⟨fun hQ => wpAny_in_heap (tupleKind_room_in1 hu) kk hsm dd (hQ _ (I.tok _)), fun hQ => PyProof.Rows.wpAny_notIn_heap (tupleKind_room_in1 hu) kk hsm dd (hQ _ (I.tok _))⟩
/-- what is asked of an operator of comparison -/
def rCmp (G : Gx) (op : COp) : R2 := fun v w H Q => ∃ α x y k, RepV G α H v x ∧ RepV G α H w y ∧ cmpT op x y = some k ∧ Q (.bl k) H
theorem repL_flat : ∀ {vs : List V} {ts : List T}, RepL G α H vs ts → ts.all T.atom = true → vs.all flatV = true
  | _, _, .nil, _ => rfl
  | _, _, .cons a b, h => by
    rw [List.all_cons, Bool.and_eq_true] at h ⊢
    refine ⟨?_, repL_flat b h.2⟩
    cases a <;> first | rfl | (simp [T.atom] at h) | skip
    rename_i c
    cases c <;> simp [T.atom] at h
theorem flat_of (r : RepV G α H v x) (h : x.atom = true) : flatV v = true := by
  cases x with
  | non => rw [r.non]; rfl
  | bl _ => rw [r.bl]; rfl
  | int _ => rw [r.int]; rfl
  | str _ => rw [r.str]; rfl
  | _ => simp [T.atom] at h
theorem eqV_of {v' : V} {x' : T} (r : RepV G α H v x) (r' : RepV G α H v' x') (h : x.atom = true) (h' : x'.atom = true) : eqV v v' = x.eqv x' := by
  have e : ∀ a b : Str, (a == b) = decide (a = b) := fun a b => by
    by_cases h : a = b
    · subst h; simp
    · rw [decide_eq_false h]; exact beq_eq_false_iff_ne.mpr h
  cases x with
  | non => rw [r.non]; cases x' with
    | non => rw [r'.non]; rfl
    | bl _ => rw [r'.bl]; rfl
    | int _ => rw [r'.int]; rfl
    | str _ => rw [r'.str]; rfl
    | _ => simp [T.atom] at h'
  | bl _ => rw [r.bl]; cases x' with
    | non => rw [r'.non]; rfl
    | bl _ => rw [r'.bl]; simp [eqV, T.eqv]
    | int _ => rw [r'.int]; simp [eqV, T.eqv, b2]
    | str _ => rw [r'.str]; rfl
    | _ => simp [T.atom] at h'
  | int _ => rw [r.int]; cases x' with
    | non => rw [r'.non]; rfl
    | bl _ => rw [r'.bl]; simp [eqV, T.eqv, b2]
    | int _ => rw [r'.int]; simp [eqV, T.eqv]
    | str _ => rw [r'.str]; rfl
    | _ => simp [T.atom] at h'
  | str _ => rw [r.str]; cases x' with
    | non => rw [r'.non]; rfl
    | bl _ => rw [r'.bl]; rfl
    | int _ => rw [r'.int]; rfl
    | str _ => rw [r'.str]; simp [eqV, T.eqv, e]
    | _ => simp [T.atom] at h'
  | _ => simp [T.atom] at h
theorem inV_of (r : RepV G α H v x) (h : x.atom = true) : ∀ {vs : List V} {ts : List T}, RepL G α H vs ts → ts.all T.atom = true → inV v vs = ts.any fun y => y.eqv x
  | _, _, .nil, _ => rfl
  | _, _, .cons a b, h' => by
    rw [List.all_cons, Bool.and_eq_true] at h'
    have := inV_of r h b h'.2
    unfold inV at this ⊢
    rw [List.any_cons, List.any_cons, this, eqV_of (.inl a) r h'.1 h]
theorem any_toD (x : T) : ∀ ts : List T, ((toDs ts).any fun z => PyData.eqv z x.toD) = ts.any fun y => y.eqv x
  | [] => rfl
  | t :: ts => by
    simp only [toDs, List.any_cons, any_toD x ts, eqv_toD]
end
end MB

set_option Elab.async false
set_option linter.all false
set_option maxRecDepth 100000
set_option maxHeartbeats 2000000
/-! Comparisons: the operators' rule. -/
namespace MB
open PySem PySem.Spec L2 PySem.SeqAt

section
variable {X : Cx} {G : Gx} {N : List Str} {sc : Scope} {n : Nat}
theorem mem_snd (hu : X.A.units + 65 < cLine) (hK : X.K = G.K) {α : List Addr} {H : Hp} {pins : List (Addr × Obj)} {σ : L2.St} {s : Shared} {v w : V} {x : T} {ys : List T} {u u' : Value} {Q : VK} (I : Inv X pins σ H s) (rv : RelV v u) (rw' : RelV w u')
    {isL : Bool} {k : Bool} (hk : memT isL x ys = some k) (r1 : RepV G α H v x) {a : Addr} {vs : List V} (ew : w = .ref a) (hq : SqL X.K H a vs ∨ SqT X.K H a vs) (hL : isL = true → Rd H a (.lst vs)) (rl : RepL G α H vs ys) :
    (Q (.bl k) H → wpAny (model X.prog X.w) X.A (compareOp .In u u') (EP X pins σ Q) X.xe s) ∧ (Q (.bl (!k)) H → wpAny (model X.prog X.w) X.A (compareOp .NotIn u u') (EP X pins σ Q) X.xe s) := by
  unfold memT at hk
  split at hk
  · rename_i h
    cases hk
    rw [Bool.or_eq_true] at h
    by_cases hf : (x.atom && ys.all T.atom) = true
    · rw [Bool.and_eq_true] at hf
      have fv := flat_of r1 hf.1
      have fs := repL_flat rl hf.2
      have e := inV_of r1 hf.1 rl hf.2
      refine ⟨fun q => op_in_seq pins s σ H v w u u' Q I rv rw' ⟨a, vs, ew, hq, fv, fs, ?_⟩, fun q => op_notIn_seq pins s σ H v w u u' Q I rv rw' ⟨a, vs, ew, hq, fv, fs, ?_⟩⟩
      · rw [e]; exact q
      · rw [e]; exact q
    · rcases h with h | h
      · exact absurd h hf
      · rw [Bool.and_eq_true, Bool.and_eq_true] at h
        obtain ⟨⟨h1, h2⟩, h3⟩ := h
        obtain ⟨d1, c1, l1⟩ := dpV_of r1 h2
        obtain ⟨d2, c2, l2⟩ := dpAll_of (K := G.K) (dp_of 8) rl h3
        rw [← hK] at d1 d2
        have dl : Dp X.K H w (.list (toDs ys)) := by rw [ew]; exact .lst (.inl (hL h1)) d2
        have s1 : SeqAt.shaped x.toD = true := by
          unfold SeqAt.shaped
          rw [c1, Bool.true_and, decide_eq_true_eq]; omega
        have s2 : SeqAt.shaped (.list (toDs ys)) = true := by
          unfold SeqAt.shaped
          have e1 : PyData.canLay0 (.list (toDs ys)) = true := c2
          have e2 : PyData.depth (.list (toDs ys)) ≤ 64 := by
            simp only [PyData.depth]; omega
          rw [e1, Bool.true_and, decide_eq_true_eq]; exact e2
        refine ⟨fun q => op_inD hu pins s σ H v w u u' Q I rv rw' ⟨_, _, d1, dl, s1, s2, ?_⟩, fun q => op_notInD hu pins s σ H v w u u' Q I rv rw' ⟨_, _, d1, dl, s1, s2, ?_⟩⟩
        · rw [any_toD]; exact q
        · rw [any_toD]; exact q
  · cases hk
theorem op_cmp (op : COp) (hu : X.A.units + 65 < cLine) (hK : X.K = G.K) : OpR X (compareOp (copOf op)) (rCmp G op) := fun pins s σ H v w u u' Q I rv rw' q => by
  obtain ⟨α, x, y, k, r1, r2, hk, q⟩ := q
  cases op with
  | eq => exact (says_eqT I hK (by omega) r1 r2 rv rw' hk).1 _ _ _ _ ⟨.bl k, H, I, rfl, q⟩
  | ne =>
    have hk : (eqT x y).map (!·) = some k := hk
    obtain ⟨k', h1, h2⟩ := Option.map_eq_some_iff.mp hk
    subst h2
    exact (says_eqT I hK (by omega) r1 r2 rv rw' h1).2 _ _ _ _ ⟨.bl _, H, I, rfl, q⟩
  | lt =>
    cases x <;> cases y <;> first | cases hk | skip
    · exact op_lt pins s σ H v w u u' Q I rv rw' ⟨_, _, r1.int, r2.int, q⟩
    · exact op_lt_str pins s σ H v w u u' Q I rv rw' ⟨_, _, r1.str, r2.str, q⟩
  | le =>
    cases x <;> cases y <;> first | cases hk | skip
    · exact op_le pins s σ H v w u u' Q I rv rw' ⟨_, _, r1.int, r2.int, q⟩
    · exact op_le_str pins s σ H v w u u' Q I rv rw' ⟨_, _, r1.str, r2.str, q⟩
  | gt =>
    cases x <;> cases y <;> first | cases hk | skip
    · exact op_gt pins s σ H v w u u' Q I rv rw' ⟨_, _, r1.int, r2.int, q⟩
  | ge =>
    cases x <;> cases y <;> first | cases hk | skip
    · exact op_ge pins s σ H v w u u' Q I rv rw' ⟨_, _, r1.int, r2.int, q⟩
    · exact op_ge_str pins s σ H v w u u' Q I rv rw' ⟨_, _, r1.str, r2.str, q⟩
  | is =>
    cases y <;> first | (simp [cmpT] at hk; done) | skip
    refine op_isN pins s σ H v w u u' Q I rv rw' ⟨r2.non, ?_⟩
    have e : decide (v = .non) = k := by
      cases x with
      | non => rw [r1.non]; simp [cmpT] at hk; subst hk; simp
      | bl _ => rw [r1.bl]; simp [cmpT] at hk; subst hk; simp
      | int _ => rw [r1.int]; simp [cmpT] at hk; subst hk; simp
      | str _ => rw [r1.str]; simp [cmpT] at hk; subst hk; simp
      | _ =>
        have hv : ∃ a, v = .ref a := by
          rcases r1 with r | ⟨a, _, e, _⟩
          · cases r <;> exact ⟨_, rfl⟩
          · exact ⟨a, e⟩
        obtain ⟨a, rfl⟩ := hv
        simp [cmpT] at hk; subst hk; simp
    rw [e]; exact q
  | isnot =>
    cases y <;> first | (simp [cmpT] at hk; done) | skip
    refine op_notN pins s σ H v w u u' Q I rv rw' ⟨r2.non, ?_⟩
    have e : (!decide (v = .non)) = k := by
      cases x with
      | non => rw [r1.non]; simp [cmpT] at hk; subst hk; simp
      | bl _ => rw [r1.bl]; simp [cmpT] at hk; subst hk; simp
      | int _ => rw [r1.int]; simp [cmpT] at hk; subst hk; simp
      | str _ => rw [r1.str]; simp [cmpT] at hk; subst hk; simp
      | _ =>
        have hv : ∃ a, v = .ref a := by
          rcases r1 with r | ⟨a, _, e, _⟩
          · cases r <;> exact ⟨_, rfl⟩
          · exact ⟨a, e⟩
        obtain ⟨a, rfl⟩ := hv
        simp [cmpT] at hk; subst hk; simp
    rw [e]; exact q
  | inn =>
    cases y with
    | str b =>
      cases x with
      | str a => simp only [cmpT, Option.some.injEq] at hk; subst hk; exact op_in_str pins s σ H v w u u' Q I rv rw' ⟨_, _, r1.str, r2.str, q⟩
      | _ => simp [cmpT] at hk
    | lst ys =>
      obtain ⟨a, vs, ew, h, rl, z⟩ := r2.lst
      have hk : memT true x ys = some k := by cases x <;> exact hk
      exact (mem_snd hu hK I rv rw' hk r1 ew (.inl (.inl h)) (fun _ => h) rl).1 q
    | tup ys =>
      obtain ⟨a, vs, ew, h, rl⟩ := r2.tup
      have hk : memT false x ys = some k := by cases x <;> exact hk
      rw [← hK] at h
      exact (mem_snd hu hK I rv rw' hk r1 ew (.inr h) (fun z => by cases z) rl).1 q
    | ktup ys =>
      obtain ⟨a, vs, ew, h, rl⟩ := r2.ktup
      have hk : memT false x ys = some k := by cases x <;> exact hk
      rw [← hK] at h
      exact (mem_snd hu hK I rv rw' hk r1 ew (.inr h) (fun z => by cases z) rl).1 q
    | dct ts =>
      have hk : (if dform ts x then some (dhas ts x) else none) = some k := by cases x <;> exact hk
      split at hk
      · rename_i hf
        cases hk
        exact (dictIn (Q := EP X pins σ Q) (Q' := fun _ _ => True) I (by omega) r1 r2 rv rw' hf).1 fun s' I' => ⟨.bl _, H, I', rfl, q⟩
      · cases hk
    | _ => cases x <;> simp [cmpT] at hk
  | nin =>
    cases y with
    | str b =>
      cases x with
      | str a => simp only [cmpT, Option.some.injEq] at hk; subst hk; exact op_notin_str pins s σ H v w u u' Q I rv rw' ⟨_, _, r1.str, r2.str, q⟩
      | _ => simp [cmpT] at hk
    | lst ys =>
      obtain ⟨a, vs, ew, h, rl, z⟩ := r2.lst
      have hk : (memT true x ys).map (!·) = some k := by cases x <;> exact hk
      obtain ⟨k', h1, h2⟩ := Option.map_eq_some_iff.mp hk
      subst h2
      exact (mem_snd hu hK I rv rw' h1 r1 ew (.inl (.inl h)) (fun _ => h) rl).2 q
    | tup ys =>
      obtain ⟨a, vs, ew, h, rl⟩ := r2.tup
      have hk : (memT false x ys).map (!·) = some k := by cases x <;> exact hk
      obtain ⟨k', h1, h2⟩ := Option.map_eq_some_iff.mp hk
      subst h2
      rw [← hK] at h
      exact (mem_snd hu hK I rv rw' h1 r1 ew (.inr h) (fun z => by cases z) rl).2 q
    | ktup ys =>
      obtain ⟨a, vs, ew, h, rl⟩ := r2.ktup
      have hk : (memT false x ys).map (!·) = some k := by cases x <;> exact hk
      obtain ⟨k', h1, h2⟩ := Option.map_eq_some_iff.mp hk
      subst h2
      rw [← hK] at h
      exact (mem_snd hu hK I rv rw' h1 r1 ew (.inr h) (fun z => by cases z) rl).2 q
    | dct ts =>
      have hk : (if dform ts x then some (!dhas ts x) else none) = some k := by cases x <;> exact hk
      split at hk
      · rename_i hf
        cases hk
        exact (dictIn (Q := fun _ _ => True) (Q' := EP X pins σ Q) I (by omega) r1 r2 rv rw' hf).2 fun s' I' => ⟨.bl _, H, I', rfl, q⟩
      · cases hk
    | _ => cases x <;> simp [cmpT] at hk
/-! ### a comparison as a value, as a test -/
variable {A B D : Env → M T} {a b d : Expr} {pos : Pos}
def mCmp (op : COp) (A B : Env → M T) : Env → M T := fun ρ => M.bnd (A ρ) fun x => M.bnd (B ρ) fun y => M.bnd (M.view y) fun y => M.bnd (M.view x) fun x => M.opt ((cmpT op x y).map .bl)
theorem cmp_red (op : COp) {σ : L2.St} {H : Hp} {Q : VK} {α : List Addr} {S S' : Store} {ρ : Env} {t : T} (ok : SOk G α S H) (er : ERep G α H σ ρ) (hm : mCmp op A B ρ S = .ok t S')
    (hQ : ∀ α' H' k, t = .bl k → Step α H α' H' → SOk G α' S' H' → Q (.bl k) H') : tOp (rCmp G op) (tEvB G A) (tEvB G B) σ H Q := by
  obtain ⟨x, S1, hx, hm⟩ := bnd_ok.mp hm
  obtain ⟨y, S2, hy, hm⟩ := bnd_ok.mp hm
  obtain ⟨y', S3, hy', hm⟩ := bnd_ok.mp hm
  obtain ⟨x', S4, hx', hm⟩ := bnd_ok.mp hm
  obtain ⟨hz, rfl⟩ := opt_ok.mp hm
  cases hy'; cases hx'
  obtain ⟨k, hk, rfl⟩ := Option.map_eq_some_iff.mp hz
  exact ev2 ok er hx hy fun α2 H2 v w st ok2 r1 r2 => ⟨α2, _, _, k, r1.view ok2, r2.view ok2, hk, hQ α2 H2 k rfl st ok2⟩
theorem snd_cmp (op : COp) (c : CtxOk G N sc n X) (hu : X.A.units + 65 < cLine) (ha : PE X a (tEvB G A)) (hb : PE X b (tEvB G B)) (hm : behindInMarks (copOf op) b = false) : PE X (.Compare a [copOf op] [b] pos) (tEv G (mCmp op A B)) :=
  (pe_cmpR (op_cmp op hu c.K) ha hb hm).imp fun σ H Q ⟨α, S, ρ, t, S', ok, er, hm, hQ⟩ => cmp_red op ok er hm fun α' H' k e st ok' => by subst e; exact hQ α' H' _ st ok' (.bl k)
/-- what a test of a tree says -/
def mTru (m : Env → M T) : Env → M Bool := fun ρ => M.bnd (m ρ) fun x => M.tru x
theorem snt_cmp (op : COp) (c : CtxOk G N sc n X) (hu : X.A.units + 65 < cLine) (ha : PE X a (tEvB G A)) (hb : PE X b (tEvB G B)) (hm : behindInMarks (copOf op) b = false) : PT X (.Compare a [copOf op] [b] pos) (tTv G (mTru (mCmp op A B))) := by
  have h := pt_cmpR (pos := pos) (op_cmp op hu c.K) ha hb hm
  refine ⟨fun pins s σ H Q I q => h.run pins s σ H Q I ?_⟩
  obtain ⟨α, S, ρ, k, S', ok, er, hm, hQ⟩ := q
  obtain ⟨t, S1, hx, hm⟩ := bnd_ok.mp hm
  refine cmp_red op ok er hx fun α' H' k' e st ok' => ⟨k', rfl, ?_⟩
  subst e
  obtain ⟨e, rfl⟩ := opt_ok.mp (show (M.opt (truT S1 (.bl k'))) S1 = .ok k S' from hm)
  cases e
  exact hQ α' H' st ok'
end
end MB

set_option Elab.async false
set_option linter.all false
set_option maxRecDepth 100000
/-! The drawing defs of the law. -/
namespace Dr
open PySem L2
def topS (i : Nat) : Stmt := PySem.Challenge.pw_mergebooks_k01_errors_apart.main.body.getD i (.Pass ⟨0, 0, 0, 0⟩)
abbrev sBegun : Stmt := topS 16
abbrev sMixed : Stmt := topS 17
abbrev sTake : Stmt := topS 18
abbrev sPick : Stmt := topS 19
abbrev sWord : Stmt := topS 20
theorem scBegun : FnScope ["_law_script", "_law_large", "_law_cell"] ["_law_script"] (defScope sBegun) := ⟨rfl, rfl, rfl, by decide +kernel, rfl, by decide +kernel, by decide +kernel⟩
theorem scMixed : FnScope ["_law_state", "_law_found", "_law_prime", "_law_blend", "_law_cell"] ["_law_state"] (defScope sMixed) := ⟨rfl, rfl, rfl, by decide +kernel, rfl, by decide +kernel, by decide +kernel⟩
theorem scTake : FnScope ["_law_state", "_law_size", "_law_found"] ["_law_state", "_law_size"] (defScope sTake) := ⟨rfl, rfl, rfl, by decide +kernel, rfl, by decide +kernel, by decide +kernel⟩
theorem scPick : FnScope ["_law_state", "_law_some"] ["_law_state", "_law_some"] (defScope sPick) := ⟨rfl, rfl, rfl, by decide +kernel, rfl, by decide +kernel, by decide +kernel⟩
theorem scWord : FnScope ["_law_state", "_law_some", "_law_way", "_law_letters", "_law_k"] ["_law_state"] (defScope sWord) := ⟨rfl, rfl, rfl, by decide +kernel, rfl, by decide +kernel, by decide +kernel⟩

/-! ### the state -/
abbrev kLg : Key := .inr "large"
abbrev kCe : Key := .inr "cells"
abbrev kRe : Key := .inr "rest"
abbrev kTu : Key := .inr "turn"
def stD (L C : Addr) (r t : Int) : List (Key × V) := [(kLg, .ref L), (kCe, .ref C), (kRe, .int r), (kTu, .int t)]
structure StA (H : Hp) (a L C : Addr) (t : Int) : Prop where
  ob : ∃ r, H a = some (.dK (stD L C r t))
  lg : ∃ ns : List Int, H L = some (.lst (ns.map V.int)) ∧ ns.length ≤ 63
  cl : ∃ ns : List Int, H C = some (.lst (ns.map V.int)) ∧ ns.length ≤ 63
  t0 : 0 ≤ t
  ne : L ≠ C
theorem StA.aL {H : Hp} {a L C : Addr} {t : Int} (h : StA H a L C t) : a ≠ L := by
  obtain ⟨r, h1⟩ := h.ob
  obtain ⟨ns, h2, _⟩ := h.lg
  exact ne_of h1 h2 (by intro z; cases z)
theorem StA.aC {H : Hp} {a L C : Addr} {t : Int} (h : StA H a L C t) : a ≠ C := by
  obtain ⟨r, h1⟩ := h.ob
  obtain ⟨ns, h2, _⟩ := h.cl
  exact ne_of h1 h2 (by intro z; cases z)
/-- what else stood stands as it stood -/
def Keep (a L : Addr) (H H' : Hp) : Prop := ∀ b o, H b = some o → b ≠ a → b ≠ L → H' b = some o
theorem Keep.rfl' {a L : Addr} {H : Hp} : Keep a L H H := fun _ _ h _ _ => h
theorem Keep.trans {a L : Addr} {H H1 H2 : Hp} (x : Keep a L H H1) (y : Keep a L H1 H2) : Keep a L H H2 := fun b o h n1 n2 => y b o (x b o h n1 n2) n1 n2
theorem Keep.same {a L : Addr} {H H' : Hp} (x : Same H H') : Keep a L H H' := fun b o h _ _ => x b o h
theorem StA.same {H H' : Hp} {a L C : Addr} {t : Int} (h : StA H a L C t) (x : Same H H') : StA H' a L C t := by
  obtain ⟨⟨r, h1⟩, ⟨ns, h2, h7⟩, ⟨ms, h3, h4⟩, h5, h6⟩ := h
  exact ⟨⟨r, x _ _ h1⟩, ⟨ns, x _ _ h2, h7⟩, ⟨ms, x _ _ h3, h4⟩, h5, h6⟩
theorem same_upd {H : Hp} {p : Addr} {o : HO} (h : H p = none) : Same H (upd H p o) := fun b x e => by
  rw [upd_ne (ne_of_none e h)]
  exact e
theorem vLg {L C : Addr} {r t : Int} : valV (stD L C r t) kLg = some (.ref L) := by simp [stD, valV]
theorem vCe {L C : Addr} {r t : Int} : valV (stD L C r t) kCe = some (.ref C) := by
  simp [stD, valV, kLg, kCe, show ¬ (("large" : Str) = "cells") by decide +kernel]
theorem vRe {L C : Addr} {r t : Int} : valV (stD L C r t) kRe = some (.int r) := by
  simp [stD, valV, kLg, kCe, kRe, show ¬ (("large" : Str) = "rest") by decide +kernel, show ¬ (("cells" : Str) = "rest") by decide +kernel]
theorem vTu {L C : Addr} {r t : Int} : valV (stD L C r t) kTu = some (.int t) := by
  simp [stD, valV, kLg, kCe, kRe, kTu, show ¬ (("large" : Str) = "turn") by decide +kernel, show ¬ (("cells" : Str) = "turn") by decide +kernel, show ¬ (("rest" : Str) = "turn") by decide +kernel]
theorem pRe {L C : Addr} {r t r' : Int} : putK (stD L C r t) kRe (.int r') = stD L C r' t := by
  simp [stD, putK, kLg, kCe, kRe, kTu, show ¬ (("large" : Str) = "rest") by decide +kernel, show ¬ (("cells" : Str) = "rest") by decide +kernel, show ¬ (("turn" : Str) = "rest") by decide +kernel]
theorem pTu {L C : Addr} {r t t' : Int} : putK (stD L C r t) kTu (.int t') = stD L C r t' := by
  simp [stD, putK, kLg, kCe, kRe, kTu, show ¬ (("large" : Str) = "turn") by decide +kernel, show ¬ (("cells" : Str) = "turn") by decide +kernel, show ¬ (("rest" : Str) = "turn") by decide +kernel]

/-! ### the promises -/
def spBegun (K : PySem.W.Frag) : Sp := fun vs H Q _ => ∃ (b : Addr) (ns : List Int), vs = [.ref b] ∧ SqL K H b (ns.map V.int) ∧ ns.length ≤ 63 ∧
  ∀ a L C H', StA H' a L C 0 → Same H H' → H a = none → H L = none → H C = none → Q (.ref a) H'
def spMixed : Sp := fun vs H Q _ => ∃ (a L C : Addr) (t : Int), vs = [.ref a] ∧ StA H a L C t ∧ t < 2 ^ 40 ∧
  ∀ (i : Int) H', StA H' a L C (t + 1) → (∀ b o, H b = some o → b ≠ a → H' b = some o) → Q (.int i) H'
def spTake : Sp := fun vs H Q _ => ∃ (a L C : Addr) (t n : Int), vs = [.ref a, .int n] ∧ StA H a L C t ∧ t < 2 ^ 40 ∧ 0 < n ∧ n < 1073741824 ∧
  ∀ (i : Int) H' t', 0 ≤ i → i < n → StA H' a L C t' → t ≤ t' → t' ≤ t + 1 → Keep a L H H' → Q (.int i) H'
structure Tx (mg : Str → Option Value) : Prop where
  int : mg "int" = none
  list : mg "list" = none
  len : mg "len" = none
  range : mg "range" = none
theorem dgS {H : Hp} {a : Addr} {kvs : List (Key × V)} {k : Key} {v : V} (e : H a = some (.dK kvs)) (h : valV kvs k = some v) : DGet H a (kV k) (some v) := h ▸ DGet.k e
section
variable {P : Program} {w : World} {K : PySem.W.Frag} {mg : Str → Option Value} {base : Heap}
theorem ok_mixed {f : Addr} {fd : FuncData} (F : Fun K "_law_mixed" "_law_mixed" sMixed f fd) (T : Tx mg) : FnOk P w K mg base CX0 1 f fd ["_law_state"] spMixed := by
  refine F.ok scMixed (fun vs H Q E h => ?_) (fun cdv A outer s H vs Q E hr h => ?_)
  · obtain ⟨a, L, C, t, rfl, _⟩ := h
    rfl
  · obtain ⟨a, L, C, t, rfl, S, ht, k⟩ := h
    have hu := hu_of hr
    obtain ⟨⟨r, h1⟩, ⟨lg, h2, h7⟩, ⟨cs, h3, h4⟩, h5, h6⟩ := id S
    refine ⟨_, pss_cons (ps_dput hu (pv 0) pe_str (pe_op op_add (pe_dget hu (pv 0) pe_str (fun _ _ => rfl)) pe_int) rfl)
      (pss_cons (ps_set (i := 1) scMixed.nd rfl (.inl rfl) pe_int)
      (pss_cons (ps_for PassesOwn.never rfl (pi_list (pe_lst (pa_cons pe_int (pa_cons pe_int (pa_cons pe_int (pa_cons pe_int (pa_cons pe_int (pa_cons pe_int pa_nil)))))))) (pg_name (i := 2) scMixed.nd rfl (.inl rfl))
        (pss_cons (ps_set (i := 3) scMixed.nd rfl (.inl rfl) (pe_op op_add (pe_op op_mul pe_int (pe_dget hu (pv 0) pe_str (fun _ _ => rfl))) (pe_op op_fdiv (pv 2) pe_int)))
        (pss_cons (ps_for PassesOwn.never rfl (pi_list (pe_dget hu (pv 0) pe_str (fun _ _ => rfl))) (pg_name (i := 4) scMixed.nd rfl (.inl rfl))
          (pss_one (ps_set (i := 3) scMixed.nd rfl (.inl rfl) (pe_op op_mod (pe_callTy call_int1 rfl T.int (by decide +kernel) (pa_cons (pe_op op_add (pe_op op_mul (pv 3) pe_int) (pv 4)) pa_nil)) (pv 2)))))
        (pss_one (ps_set (i := 1) scMixed.nd rfl (.inl rfl) (pe_op op_add (pe_op op_mul (pv 1) pe_int) (pe_op op_mod (pe_callTy call_int1 rfl T.int (by decide +kernel) (pa_cons (pe_op op_pow (pv 3) pe_int) pa_nil)) (pv 2))))))))
      (pss_one (ps_ret (pv 1))))), ?_⟩
    have n0 : 4 < sizeLine := by decide +kernel
    refine ⟨_, rfl, a, .int t, rfl, dgS (k := kTu) h1 vTu, _, _, rfl, rfl, _, rfl, a, _, rfl, DPut.k (k := kTu) h1 n0, ?_⟩
    rw [pTu]
    have hC1 : ∀ o, (upd H a o) C = some (.lst (cs.map V.int)) := fun o => by rw [upd_ne S.aC.symm]; exact h3
    have hL1 : ∀ o, (upd H a o) L = some (.lst (lg.map V.int)) := fun o => by rw [upd_ne S.aL.symm]; exact h2
    have g1 : (upd H a (.dK (stD L C r (t + 1)))) a = some (.dK (stD L C r (t + 1))) := upd_same
    generalize hH1 : upd H a (.dK (stD L C r (t + 1))) = H1 at *
    have kp1 : ∀ b o, H b = some o → b ≠ a → H1 b = some o := fun b o e n => by rw [← hH1, upd_ne n]; exact e
    have hC2 : H1 C = some (.lst (cs.map V.int)) := by rw [← hH1]; exact hC1 _
    have hL2 : H1 L = some (.lst (lg.map V.int)) := by rw [← hH1]; exact hL1 _
    refine ⟨by decide +kernel, fun p np => ⟨p, rfl, ⟨_, .inl (.inl upd_same)⟩, ?_⟩⟩
    have sm : Same H1 (upd H1 p (.lst [V.int 2147483629, V.int 2147483587, V.int 2147483579, V.int 2147483563, V.int 2147483549, V.int 2147483543])) := same_upd np
    refine for_list (K := K) (a := p) (xs := [V.int 2147483629, V.int 2147483587, V.int 2147483579, V.int 2147483563, V.int 2147483549, V.int 2147483543]) (fun i σ H2 => ∃ (fo : Int) (v2 v3 v4 : Option V), σ = [some (.ref a), some (.int fo), v2, v3, v4] ∧ H2 = upd H1 p (.lst [V.int 2147483629, V.int 2147483587, V.int 2147483579, V.int 2147483563, V.int 2147483549, V.int 2147483543]))
      ⟨0, none, none, none, rfl, rfl⟩ (fun i σ H2 _ ⟨_, _, _, _, _, e⟩ => by rw [e]; exact .inl (.inl upd_same)) ?_ ?_
    · rintro i x σ H2 hi ⟨fo, v2, v3, v4, rfl, rfl⟩
      obtain ⟨p0, rfl, q1, q2⟩ : ∃ p0 : Int, x = .int p0 ∧ 0 < p0 ∧ p0 < 2147483648 := by
        match i, hi with
        | 0, h => cases h; exact ⟨_, rfl, by decide, by decide⟩
        | 1, h => cases h; exact ⟨_, rfl, by decide, by decide⟩
        | 2, h => cases h; exact ⟨_, rfl, by decide, by decide⟩
        | 3, h => cases h; exact ⟨_, rfl, by decide, by decide⟩
        | 4, h => cases h; exact ⟨_, rfl, by decide, by decide⟩
        | 5, h => cases h; exact ⟨_, rfl, by decide, by decide⟩
        | n + 6, h => cases h
      generalize hl : upd H1 p (.lst [V.int 2147483629, V.int 2147483587, V.int 2147483579, V.int 2147483563, V.int 2147483549, V.int 2147483543]) = H2 at *
      have g2 := sm _ _ g1
      refine ⟨_, rfl, a, .int (t + 1), rfl, dgS (k := kTu) g2 vTu, _, _, rfl, rfl, .inl ⟨by decide, by decide⟩, _, rfl, _, _, rfl, rfl, ⟨by decide, by decide⟩, _, _, rfl, rfl, ?_⟩
      refine ⟨_, rfl, a, .ref C, rfl, dgS (k := kCe) g2 vCe, C, rfl, ⟨_, .inl (.inl (sm _ _ hC2))⟩, ?_⟩
      refine for_list (K := K) (a := C) (xs := cs.map V.int) (fun j σ H3 => ∃ (bl : Int) (v4 : Option V), σ = [some (.ref a), some (.int fo), some (.int p0), some (.int bl), v4] ∧ H3 = H2 ∧ bl.natAbs < 2 ^ 64)
        ⟨_, v4, rfl, rfl, ?_⟩ (fun j σ H3 _ ⟨_, _, _, e, _⟩ => by rw [e]; exact .inl (.inl (sm _ _ hC2))) ?_ ?_
      · show (104729 * (t + 1) + p0 / 7).natAbs < 2 ^ 64
        omega
      · rintro j y σ H3 hj ⟨bl, v4, rfl, rfl, hb⟩
        obtain ⟨z, rfl⟩ : ∃ z, y = V.int z := by
          rw [List.getElem?_map] at hj
          cases e : cs[j]? with
          | none => rw [e] at hj; cases hj
          | some z => rw [e] at hj; exact ⟨z, (Option.some.inj hj).symm⟩
        refine ⟨_, rfl, _, _, rfl, rfl, .inr ⟨by decide, by decide⟩, _, rfl, _, _, rfl, rfl, .inl ⟨_, rfl, _, rfl, _, _, rfl, rfl, q1, ?_⟩⟩
        refine ⟨_, _, rfl, rfl, ?_⟩
        have h1 := Int.emod_nonneg (bl * 48271 + z) (show p0 ≠ 0 by omega)
        have h2 := Int.emod_lt_of_pos (bl * 48271 + z) q1
        show ((bl * 48271 + z) % p0).natAbs < 2 ^ 64
        omega
      · rintro σ H3 ⟨bl, v4, rfl, rfl, hb⟩
        refine ⟨_, rfl, _, _, rfl, rfl, .inr ⟨by decide, by decide⟩, _, rfl, _, _, rfl, rfl, ⟨by decide, by decide, hb⟩, .inl ⟨_, rfl, _, rfl, _, _, rfl, rfl, q1, _, _, rfl, rfl, ?_⟩⟩
        exact ⟨_, _, _, _, rfl, rfl⟩
    · rintro σ H2 ⟨fo, v2, v3, v4, rfl, rfl⟩
      refine ⟨_, rfl, k fo _ ⟨⟨r, sm _ _ g1⟩, ⟨lg, sm _ _ hL2, h7⟩, ⟨cs, sm _ _ hC2, h4⟩, by omega, h6⟩ fun b o e n => sm _ _ (kp1 b o e n)⟩
end
end Dr

set_option Elab.async false
set_option linter.all false
set_option maxRecDepth 100000
namespace Dr
open PySem L2
section
variable {P : Program} {w : World} {K : PySem.W.Frag} {mg : Str → Option Value} {base : Heap}
/-- a def that stands at the module's name -/
structure At (K : PySem.W.Frag) (mg : Str → Option Value) (x : Str) (st : Stmt) (ps : List Str) (f : Addr) (fd : FuncData) : Prop where
  fn : Fun K x x st f fd
  m : mg x = some (.ref f)
  b : Binds K fd ps []
def gx (P : Program) (w : World) (K : PySem.W.Frag) (mg : Str → Option Value) (base : Heap) : MB.Gx := ⟨P, w, K, mg, base, fun _ => 0⟩
theorem hu65 {k : Nat} {A : Around} (r : Room k A) : A.units + 65 < cLine := by have := r.un; omega
theorem repInts {G : MB.Gx} {α : List Addr} {H : Hp} : ∀ ns : List Int, MB.RepL G α H (ns.map V.int) (ns.map MB.T.int)
  | [] => .nil
  | i :: r => .cons (.int i) (repInts r)
theorem repVInts {G : MB.Gx} {α : List Addr} {H : Hp} {a : Addr} {ns : List Int} (h : H a = some (.lst (ns.map V.int))) (hl : ns.length ≤ 1000) : MB.RepV G α H (.ref a) (.lst (ns.map MB.T.int)) :=
  .inr ⟨a, _, rfl, h, trivial, .lst (by rw [List.length_map]; exact Nat.le_of_lt (small1000 hl)) (repInts ns)⟩
theorem repVNil {G : MB.Gx} {α : List Addr} {H : Hp} {a : Addr} (h : H a = some (.lst [])) : MB.RepV G α H (.ref a) (.lst []) :=
  repVInts (ns := []) h (by decide)
theorem neNil (xs : List MB.T) : MB.cmpT .ne (.lst xs) (.lst []) = some (!xs.isEmpty) := by
  cases xs with
  | nil => simp [MB.cmpT, MB.eqT, MB.T.atom, MB.T.pl, MB.T.eqv, MB.eqvs]
  | cons x r => simp [MB.cmpT, MB.eqT, MB.T.atom]
theorem eqNil (xs : List MB.T) : MB.cmpT .eq (.lst xs) (.lst []) = some xs.isEmpty := by
  cases xs with
  | nil => simp [MB.cmpT, MB.eqT, MB.T.atom, MB.T.pl, MB.T.eqv, MB.eqvs]
  | cons x r => simp [MB.cmpT, MB.eqT, MB.T.atom]
theorem eraseMap (ns : List Int) (k : Nat) : (ns.map V.int).eraseIdx k = (ns.eraseIdx k).map V.int := by
  induction ns generalizing k with
  | nil => rfl
  | cons x r ih => cases k with
    | zero => rfl
    | succ k => simp [ih]
theorem ok_take {f fm : Addr} {fd fdm : FuncData} (F : Fun K "_law_take" "_law_take" sTake f fd) (T : Tx mg) (M : At K mg "_law_mixed" sMixed ["_law_state"] fm fdm) : FnOk P w K mg base CX0 2 f fd ["_law_state", "_law_size"] spTake := by
  have GM : FnOk P w K mg base CX0 1 fm fdm ["_law_state"] spMixed := ok_mixed M.fn T
  refine F.ok scTake (fun vs H Q E h => ?_) (fun cdv A outer s H vs Q E hr h => ?_)
  · obtain ⟨a, L, C, t, n, rfl, _⟩ := h
    rfl
  · obtain ⟨a, L, C, t, n, rfl, S, ht, hn0, hn1, k⟩ := h
    have hu := hu_of hr
    have hu5 := hu65 hr
    obtain ⟨⟨r, h1⟩, ⟨lg, h2, h7⟩, ⟨cs, h3, h4⟩, h5, h6⟩ := id S
    refine ⟨_, pss_cons (ps_if (pt_cmpR op_eq (pe_dget hu (pv 0) pe_str (fun _ _ => rfl)) pe_int (nomark _))
        (pss_one (ps_dput hu (pv 0) pe_str (pe_ifExp (pt_cmpR (MB.op_cmp (G := gx P w K mg base) .ne hu5 rfl) (pe_dget hu (pv 0) pe_str (fun _ _ => rfl)) (pe_lst pa_nil) (nomark _))
          (pe_bm PySem.F.plainAttrs_list PySem.F.slot_list_pop PySem.F.type_list_pop mt_popAt (pe_dget hu (pv 0) pe_str (fun _ _ => rfl)) (pa_cons pe_int pa_nil))
          (pe_call GM hr rfl M.m M.fn.kp M.b .nil pass0 (pa_cons (pv 0) pa_nil))) rfl)) pss_nil)
      (pss_cons (ps_set (i := 2) scTake.nd rfl (.inl rfl) (pe_op op_mod (pe_callTy call_int1 rfl T.int (by decide +kernel) (pa_cons (pe_dget hu (pv 0) pe_str (fun _ _ => rfl)) pa_nil)) (pv 1)))
      (pss_cons (ps_dput hu (pv 0) pe_str (pe_op op_fdiv (pe_dget hu (pv 0) pe_str (fun _ _ => rfl)) (pv 1)) rfl)
      (pss_one (ps_ret (pv 2))))), ?_⟩
    have n0 : 4 < sizeLine := by decide +kernel
    -- what comes behind the test
    have tail : ∀ (H1 : Hp) (t' : Int), StA H1 a L C t' → t ≤ t' → t' ≤ t + 1 → Keep a L H H1 → ∃ r' : Int, H1 a = some (.dK (stD L C r' t')) ∧ ∀ i, 0 ≤ i → i < n → Q (.int i) (upd H1 a (.dK (stD L C (r' / n) t'))) := by
      intro H1 t' S1 e1 e2 kp
      obtain ⟨⟨r', g1⟩, ⟨lg', g2, g7⟩, ⟨cs', g3, g4⟩, g5, g6⟩ := id S1
      refine ⟨r', g1, fun i i0 i1 => k i _ t' i0 i1 ⟨⟨_, upd_same⟩, ⟨lg', by rw [upd_ne S1.aL.symm]; exact g2, g7⟩, ⟨cs', by rw [upd_ne S1.aC.symm]; exact g3, g4⟩, g5, g6⟩ e1 e2 fun b o e n1 n2 => ?_⟩
      rw [upd_ne n1]
      exact kp b o e n1 n2
    have fin : ∀ (H1 : Hp) (t' : Int), StA H1 a L C t' → t ≤ t' → t' ≤ t + 1 → Keep a L H H1 → (∃ r' : Int, H1 a = some (.dK (stD L C r' t')) ∧ Q (.int (r' % n)) (upd H1 a (.dK (stD L C (r' / n) t')))) := by
      intro H1 t' S1 e1 e2 kp
      obtain ⟨r', g, q⟩ := tail H1 t' S1 e1 e2 kp
      exact ⟨r', g, q _ (Int.emod_nonneg _ (by omega)) (Int.emod_lt_of_pos _ hn0)⟩
    refine ⟨_, rfl, a, .int r, rfl, dgS (k := kRe) h1 vRe, rfl, _, rfl, ite2 (fun _ => ?_) (fun _ => ?_)⟩
    · -- rest == 0
      refine ⟨_, rfl, a, .ref L, rfl, dgS (k := kLg) h1 vLg, Nat.zero_le _, fun p np => ⟨[], .lst (lg.map MB.T.int), .lst [], _, repVInts (by rw [upd_ne (ne_of_none h2 np)]; exact h2) (by omega), repVNil upd_same, neNil _, _, rfl, ite2 (fun hb => ?_) (fun hb => ?_)⟩⟩
      · have sp := same_upd (o := .lst []) np
        obtain ⟨x, lg', rfl⟩ : ∃ x lg', lg = x :: lg' := by
          cases lg with
          | nil => exact absurd hb (by decide)
          | cons x r => exact ⟨x, r, rfl⟩
        have S1 := S.same sp
        refine ⟨_, rfl, a, .ref L, rfl, dgS (k := kLg) (sp _ _ h1) vLg, .inl ⟨rfl, _, .inl (.inl (sp _ _ h2))⟩, L, _, 0, 0, .int x, rfl, rfl, sp _ _ h2, by decide, by decide, by simp [seqIndex?], rfl, ?_⟩
        have n1 : (upd H p (.lst [])) L = some (.lst ((x :: lg').map V.int)) := sp _ _ h2
        have g1 : (upd (upd H p (.lst [])) L (.lst (((x :: lg').map V.int).eraseIdx 0))) a = some (.dK (stD L C r t)) := by rw [upd_ne S.aL]; exact sp _ _ h1
        refine ⟨_, rfl, a, _, rfl, DPut.k (k := kRe) g1 n0, ?_⟩
        rw [pRe]
        obtain ⟨r', g, q⟩ := fin (upd (upd (upd H p (.lst [])) L (.lst (((x :: lg').map V.int).eraseIdx 0))) a (.dK (stD L C x t))) t ⟨⟨_, upd_same⟩, ⟨lg', by rw [upd_ne S.aL.symm, upd_same, eraseMap]; rfl, by simp only [List.length_cons] at h7; omega⟩, ⟨cs, by rw [upd_ne S.aC.symm, upd_ne h6.symm]; exact sp _ _ h3, h4⟩, h5, h6⟩ (by omega) (by omega) (fun b o e m1 m2 => by rw [upd_ne m1, upd_ne m2]; exact sp _ _ e)
        exact ⟨_, rfl, a, .int r', rfl, dgS (k := kRe) g vRe, .inl ⟨_, rfl, _, rfl, _, _, rfl, rfl, hn0, _, rfl, a, .int r', rfl, dgS (k := kRe) g vRe, _, rfl, _, _, rfl, rfl, ⟨hn0, hn1⟩, _, rfl, a, _, rfl, DPut.k (k := kRe) g n0, _, rfl, by rw [pRe]; exact q⟩⟩
      · have sp := same_upd (o := .lst []) np
        refine ⟨_, rfl, a, L, C, t, rfl, S.same sp, ht, fun i H1 S1 kp => ?_⟩
        obtain ⟨⟨r1, g1⟩, ⟨lg1, g2, g7⟩, ⟨cs1, g3, g4⟩, g5, g6⟩ := id S1
        refine ⟨_, rfl, a, _, rfl, DPut.k (k := kRe) g1 n0, ?_⟩
        rw [pRe]
        obtain ⟨r', g, q⟩ := fin (upd H1 a (.dK (stD L C i (t + 1)))) (t + 1) ⟨⟨_, upd_same⟩, ⟨lg1, by rw [upd_ne S.aL.symm]; exact g2, g7⟩, ⟨cs1, by rw [upd_ne S.aC.symm]; exact g3, g4⟩, g5, g6⟩ (by omega) (by omega) (fun b o e m1 m2 => by rw [upd_ne m1]; exact kp _ _ (sp _ _ e) m1)
        exact ⟨_, rfl, a, .int r', rfl, dgS (k := kRe) g vRe, .inl ⟨_, rfl, _, rfl, _, _, rfl, rfl, hn0, _, rfl, a, .int r', rfl, dgS (k := kRe) g vRe, _, rfl, _, _, rfl, rfl, ⟨hn0, hn1⟩, _, rfl, a, _, rfl, DPut.k (k := kRe) g n0, _, rfl, by rw [pRe]; exact q⟩⟩
    · obtain ⟨r', g, q⟩ := fin H t S (by omega) (by omega) .rfl'
      exact ⟨_, rfl, a, .int r', rfl, dgS (k := kRe) g vRe, .inl ⟨_, rfl, _, rfl, _, _, rfl, rfl, hn0, _, rfl, a, .int r', rfl, dgS (k := kRe) g vRe, _, rfl, _, _, rfl, rfl, ⟨hn0, hn1⟩, _, rfl, a, _, rfl, DPut.k (k := kRe) g n0, _, rfl, by rw [pRe]; exact q⟩⟩
end
end Dr

set_option Elab.async false
set_option linter.all false
set_option maxRecDepth 100000
namespace Dr
open PySem L2
section
variable {P : Program} {w : World} {K : PySem.W.Frag} {mg : Str → Option Value} {base : Heap}
def spPick : Sp := fun vs H Q _ => ∃ (a L C b : Addr) (t : Int) (xs : List V), vs = [.ref a, .ref b] ∧ StA H a L C t ∧ t < 2 ^ 40 ∧ Rd H b (.lst xs) ∧ b ≠ L ∧ b ≠ a ∧ 0 < xs.length ∧ xs.length ≤ 1000 ∧
  ∀ x H' t', x ∈ xs → StA H' a L C t' → t ≤ t' → t' ≤ t + 1 → Keep a L H H' → Q x H'
theorem Keep.rd {a L b : Addr} {H H' : Hp} {u : HO} (k : Keep a L H H') (h : Rd H b u) (n1 : b ≠ a) (n2 : b ≠ L) : Rd H' b u := by
  rcases h with h | ⟨o, h⟩
  · exact .inl (k _ _ h n1 n2)
  · exact .inr ⟨o, k _ _ h n1 n2⟩
theorem StA.upd {H : Hp} {a L C D : Addr} {t : Int} {o : HO} (h : StA H a L C t) (n1 : D ≠ a) (n2 : D ≠ L) (n3 : D ≠ C) : StA (upd H D o) a L C t := by
  obtain ⟨⟨r, h1⟩, ⟨ns, h2, h7⟩, ⟨ms, h3, h4⟩, h5, h6⟩ := h
  exact ⟨⟨r, by rw [upd_ne n1.symm]; exact h1⟩, ⟨ns, by rw [upd_ne n2.symm]; exact h2, h7⟩, ⟨ms, by rw [upd_ne n3.symm]; exact h3, h4⟩, h5, h6⟩
theorem ok_pick {f ft fm : Addr} {fd fdt fdm : FuncData} (F : Fun K "_law_pick" "_law_pick" sPick f fd) (T : Tx mg) (TK : At K mg "_law_take" sTake ["_law_state", "_law_size"] ft fdt) (M : At K mg "_law_mixed" sMixed ["_law_state"] fm fdm) :
    FnOk P w K mg base CX0 3 f fd ["_law_state", "_law_some"] spPick := by
  have GT : FnOk P w K mg base CX0 2 ft fdt ["_law_state", "_law_size"] spTake := ok_take TK.fn T M
  refine F.ok scPick (fun vs H Q E h => ?_) (fun cdv A outer s H vs Q E hr h => ?_)
  · obtain ⟨a, L, C, b, t, xs, rfl, _⟩ := h
    rfl
  · obtain ⟨a, L, C, b, t, xs, rfl, S, ht, hb, nL, na, l0, l1, k⟩ := h
    refine ⟨_, pss_one (ps_ret (pe_ix ix_list (pv 1) (pe_call GT hr rfl TK.m TK.fn.kp TK.b .nil pass0 (pa_cons (pv 0) (pa_cons (pe_callB call_len_seq (by rfl) T.len PySem.boot_len (pa_cons (pv 1) pa_nil)) pa_nil))) (fun _ _ => rfl))), ?_⟩
    refine ⟨_, rfl, _, rfl, _, rfl, b, xs, rfl, .inl (.inl hb), a, L, C, t, _, rfl, S, ht, by omega, by omega, fun i H' t' i0 i1 S' e1 e2 kp => ?_⟩
    obtain ⟨j, rfl⟩ := Int.eq_ofNat_of_zero_le i0
    have hj : j < xs.length := by omega
    exact ⟨b, xs, j, xs[j], rfl, rfl, .inl (kp.rd hb na nL), atI_nat (List.getElem?_eq_getElem hj), k _ _ t' (List.getElem_mem hj) S' e1 e2 kp⟩
/-- a word: one to eight letters -/
def wdB (x : Str) : Bool := decide (1 ≤ x.cps.toList.length) && decide (x.cps.toList.length ≤ 8) && x.cps.toList.all fun c => decide (97 ≤ c) && decide (c ≤ 122)
abbrev big1 : Str := "missing null plain list dict mark any left right drop joined ahead within into onto"
abbrev big2 : Str := " frame mode others true false a b c x"
abbrev abc : Str := "abcdefghijklmnopqrstuvwxyz"
def wds : List Str := Txt.split (big1 ++ big2) " "
theorem wds_len : wds.length = 24 := by decide +kernel
theorem wds_all : ∀ x ∈ wds, wdB x = true := by
  have h : wds.all wdB = true := by decide +kernel
  exact List.all_eq_true.mp h
theorem abc_all : ∀ c ∈ abc.cps.toList, 97 ≤ c ∧ c ≤ 122 := by
  have h : abc.cps.toList.all (fun c => decide (97 ≤ c) && decide (c ≤ 122)) = true := by decide +kernel
  intro c hc
  have := List.all_eq_true.mp h c hc
  simpa using this
theorem joinOne (cs : List Nat) : (Txt.join "" (cs.map fun c => (⟨#[c]⟩ : Str))).cps.toList = cs := by
  have h : ∀ cs : List Nat, TL.joinL [] (cs.map fun c => [c]) = cs := by
    intro cs
    induction cs with
    | nil => rfl
    | cons c r ih => cases r with
      | nil => rfl
      | cons d r =>
        show [c] ++ ([] ++ TL.joinL [] (([d] : List Nat) :: r.map fun c => [c])) = c :: d :: r
        have e : TL.joinL [] (([d] : List Nat) :: r.map fun c => [c]) = d :: r := ih
        rw [e]
        rfl
  have e := TL.tl_join "" (cs.map fun c => (⟨#[c]⟩ : Str))
  rw [← TL.join_eq] at e
  have e2 : (cs.map fun c => (⟨#[c]⟩ : Str)).map TL.tl = cs.map fun c => [c] := by rw [List.map_map]; rfl
  rw [e2] at e
  exact e.trans (h cs)
def spWord : Sp := fun vs H Q _ => ∃ (a L C : Addr) (t : Int), vs = [.ref a] ∧ StA H a L C t ∧ t < 2 ^ 39 ∧
  ∀ x H' t', wdB x = true → StA H' a L C t' → t ≤ t' → t' ≤ t + 10 → Keep a L H H' → Q (.str x) H'
theorem ok_word {f ft fm : Addr} {fd fdt fdm : FuncData} (F : Fun K "_law_word" "_law_word" sWord f fd) (T : Tx mg) (TK : At K mg "_law_take" sTake ["_law_state", "_law_size"] ft fdt) (M : At K mg "_law_mixed" sMixed ["_law_state"] fm fdm) :
    FnOk P w K mg base CX0 3 f fd ["_law_state"] spWord := by
  have GT : FnOk P w K mg base CX0 2 ft fdt ["_law_state", "_law_size"] spTake := ok_take TK.fn T M
  refine F.ok scWord (fun vs H Q E h => ?_) (fun cdv A outer s H vs Q E hr h => ?_)
  · obtain ⟨a, L, C, t, rfl, _⟩ := h
    rfl
  · obtain ⟨a, L, C, t, rfl, S, ht, k⟩ := h
    refine ⟨_, pss_cons (ps_set (i := 1) scWord.nd rfl (.inl rfl) pe_str)
      (pss_cons (ps_set (i := 1) scWord.nd rfl (.inl rfl) (pe_split (pe_op op_add_str (pv 1) pe_str) pe_str))
      (pss_cons (ps_set (i := 2) scWord.nd rfl (.inl rfl) (pe_call GT hr rfl TK.m TK.fn.kp TK.b .nil pass0 (pa_cons (pv 0) (pa_cons pe_int pa_nil))))
      (pss_cons (ps_if (pt_cmpR op_lt (pv 2) (pe_callB call_len_seq (by rfl) T.len PySem.boot_len (pa_cons (pv 1) pa_nil)) (nomark _)) (pss_one (ps_ret (pe_ix ix_list (pv 1) (pv 2) (fun _ _ => rfl)))) pss_nil)
      (pss_cons (ps_set (i := 3) scWord.nd rfl (.inr rfl) pe_str)
      (pss_one (ps_ret (pe_join pe_str (pe_lc (own := [("_law_k", 4)]) (g := gName 4) (tt := tYes) rfl scWord.nd
        (pi_range1 rfl T.range (pa_cons (pe_op op_add pe_int (pe_call GT hr rfl TK.m TK.fn.kp TK.b .nil pass0 (pa_cons (pv 0) (pa_cons pe_int pa_nil)))) pa_nil))
        (blkOk_by (N := ["_law_state", "_law_some", "_law_way", "_law_letters", "_law_k"]) (sc := defScope sWord) (by decide +kernel)) (fun _ _ _ _ _ => pg_name (i := 4) scWord.nd rfl (.inl rfl)) (fun _ _ _ _ _ => pts_nil)
        (fun _ _ _ _ _ => pe_ix ix_str (pv 3) (pe_call GT hr rfl TK.m TK.fn.kp TK.b .nil pass0 (pa_cons (pv 0) (pa_cons pe_int pa_nil))) (fun _ _ => rfl)))))))))), ?_⟩
    refine ⟨_, rfl, _, _, rfl, rfl, by decide +kernel, ⟨_, rfl⟩, _, _, rfl, rfl, by decide +kernel, by decide +kernel, fun p np => ?_⟩
    have sp : Same H (upd H p (.lst (wds.map V.str))) := same_upd np
    have hp : (upd H p (.lst (wds.map V.str))) p = some (.lst (wds.map V.str)) := upd_same
    have npa : p ≠ a := by
      obtain ⟨r, h1⟩ := S.ob
      exact (ne_of_none h1 np).symm
    have npL : p ≠ L := by
      obtain ⟨r, h1, _⟩ := S.lg
      exact (ne_of_none h1 np).symm
    have lw : (wds.map V.str).length = 24 := by rw [List.length_map]; exact wds_len
    refine ⟨_, rfl, a, L, C, t, _, rfl, S.same sp, by omega, by decide, by decide, fun w H2 t2 w0 w1 S2 e1 e2 kp2 => ?_⟩
    have hp2 : H2 p = some (.lst (wds.map V.str)) := kp2 _ _ hp npa npL
    have kpA : Keep a L H H2 := (Keep.same sp).trans kp2
    refine ⟨_, rfl, _, rfl, p, _, rfl, .inl (.inl (.inl hp2)), _, _, rfl, rfl, _, rfl, ite2 (fun hb => ?_) (fun hb => ?_)⟩
    · have hb' := of_decide_eq_true hb
      rw [lw] at hb'
      obtain ⟨j, rfl⟩ := Int.eq_ofNat_of_zero_le w0
      have hj : j < wds.length := by rw [wds_len]; omega
      exact ⟨_, rfl, _, rfl, p, _, j, .str wds[j], rfl, rfl, .inl (.inl hp2), atI_nat (by rw [List.getElem?_map, List.getElem?_eq_getElem hj]; rfl), k _ H2 t2 (wds_all _ (List.getElem_mem hj)) S2 e1 (by omega) kpA⟩
    · refine ⟨⟨_, rfl⟩, _, rfl, a, L, C, t2, _, rfl, S2, by omega, by decide, by decide, fun m H3 t3 m0 m1 S3 e3 e4 kp3 => ?_⟩
      refine ⟨_, _, rfl, rfl, _, rfl, by omega, by omega, fun D nD => ?_⟩
      have nDa : D ≠ a := by
        obtain ⟨r, h1⟩ := S3.ob
        exact (ne_of_none h1 nD).symm
      have nDC : D ≠ C := by
        obtain ⟨r, h1, _⟩ := S3.cl
        exact (ne_of_none h1 nD).symm
      have nDL : D ≠ L := by
        obtain ⟨r, h1, _⟩ := S3.lg
        exact (ne_of_none h1 nD).symm
      refine lc_it walk_range (fun i H4 => ∃ (t4 : Int) (cs : List Nat), StA H4 a L C t4 ∧ t3 ≤ t4 ∧ t4 ≤ t3 + i ∧ Keep a L H3 H4 ∧ H4 D = some (.lst (cs.map fun c => V.str ⟨#[c]⟩)) ∧ cs.length = i ∧ ∀ c ∈ cs, 97 ≤ c ∧ c ≤ 122)
        ⟨t3, [], S3.same (same_upd nD), by omega, by omega, Keep.same (same_upd nD), upd_same, rfl, by simp⟩ (fun _ _ _ _ => trivial) ?_ ?_
      · rintro i x H4 H5 hi ⟨t4, cs, S4, e5, e6, kp4, hD, hl, hc⟩ ⟨rfl, rfl⟩
        have hi8 : i < 8 := by omega
        refine ⟨rfl, _, rfl, _, rfl, a, L, C, t4, _, rfl, S4, by omega, by decide, by decide, fun q H6 t6 q0 q1 S6 e7 e8 kp6 => ?_⟩
        obtain ⟨j, rfl⟩ := Int.eq_ofNat_of_zero_le q0
        have hj : j < abc.cps.toList.length := by
          have : abc.cps.toList.length = 26 := by decide +kernel
          omega
        have hD6 := kp6 _ _ hD nDa nDL
        have es : List.map (fun c => V.str ⟨#[c]⟩) cs ++ [V.str ⟨#[abc.cps.toList[j]]⟩] = List.map (fun c => V.str ⟨#[c]⟩) (cs ++ [abc.cps.toList[j]]) := by simp
        refine ⟨_, _, _, rfl, rfl, by decide +kernel, atI_nat (List.getElem?_eq_getElem hj), _, hD6, ?_, ?_⟩
        · rw [List.length_map, hl]
          exact small1000 (by omega)
        · refine ⟨t6, cs ++ [abc.cps.toList[j]], S6.upd nDa nDL nDC, by omega, by omega, fun b o e n1 n2 => ?_, by rw [upd_same, es], by simp [hl], fun c hc' => ?_⟩
          · rw [upd_ne (ne_of_none e nD)]
            exact kp6 _ _ (kp4 _ _ e n1 n2) n1 n2
          · rcases List.mem_append.mp hc' with h | h
            · exact hc c h
            · rw [List.mem_singleton.mp h]
              exact abc_all _ (List.getElem_mem hj)
      · rintro H4 ⟨t4, cs, S4, e5, e6, kp4, hD, hl, hc⟩
        have e8 : cs.length ≤ 8 := by omega
        have e1' : 1 ≤ cs.length := by omega
        have em : List.map (fun c => V.str ⟨#[c]⟩) cs = (cs.map fun c => (⟨#[c]⟩ : Str)).map V.str := by simp
        refine ⟨"", D, cs.map fun c => (⟨#[c]⟩ : Str), rfl, rfl, .inl (.inl (.inl (by rw [hD, em]))), ?_, ?_⟩
        · have : ((cs.map fun c => (⟨#[c]⟩ : Str)).map (·.length)).sum = cs.length := by
            rw [List.map_map]
            clear hD hl hc e8 e1' em
            induction cs with
            | nil => rfl
            | cons c r ih => rw [List.map_cons, List.sum_cons, ih, List.length_cons]; show 1 + r.length = _; omega
          rw [this, List.length_map]
          show cs.length + cs.length * 0 ≤ _
          omega
        · refine k _ H4 t4 ?_ S4 (by omega) (by omega) (kpA.trans (kp3.trans kp4))
          unfold wdB
          rw [joinOne]
          simp only [Bool.and_eq_true, decide_eq_true_eq, List.all_eq_true]
          exact ⟨⟨e1', e8⟩, hc⟩
end
end Dr

set_option Elab.async false
set_option linter.all false
set_option maxRecDepth 100000
namespace Dr
open PySem L2
section
variable {P : Program} {w : World} {K : PySem.W.Frag} {mg : Str → Option Value} {base : Heap}
theorem ok_begun {f : Addr} {fd : FuncData} (F : Fun K "_law_begun" "_law_begun" sBegun f fd) (T : Tx mg) : FnOk P w K mg base CX0 1 f fd ["_law_script"] (spBegun K) := by
  refine F.ok scBegun (fun vs H Q E h => ?_) (fun cdv A outer s H vs Q E hr h => ?_)
  · obtain ⟨b, ns, rfl, _⟩ := h
    rfl
  · obtain ⟨b, ns, rfl, hb, hl, k⟩ := h
    refine ⟨_, pss_cons (ps_setLc (i := 1) (own := [("_law_cell", 2)]) (g := gName 2) rfl scBegun.nd rfl rfl (sw_true rfl rfl rfl (by decide +kernel)) (pi_list (pv 0))
        (blkOk_by (N := ["_law_script", "_law_large", "_law_cell"]) (sc := defScope sBegun) (by decide +kernel)) (fun _ _ _ _ _ => pg_name (i := 2) scBegun.nd rfl (.inl rfl))
        (fun _ _ _ _ _ => pts_one (pt_cmpR op_ge (pv 2) (pe_op op_pow pe_int pe_int) (nomark _))) (fun _ _ _ _ _ => pe_op op_sub (pv 2) (pe_op op_pow pe_int pe_int)))
      (pss_one (ps_ret (pe_disp (pps_cons pe_str (pv 1) (pps_cons pe_str (pe_callTy call_list_of (by rfl) T.list (by decide +kernel) (pa_cons (pv 0) pa_nil)) (pps_cons pe_str pe_int (pps_cons pe_str pe_int pps_nil)))) rfl rfl (by simp) (by decide)))), ?_⟩
    refine ⟨_, rfl, b, rfl, ⟨_, hb⟩, fun D nD => ?_⟩
    have sD : ∀ o, Same H (upd H D o) := fun o => same_upd nD
    refine lc_it (walk_list (K := K) (a := b) (xs := ns.map V.int)) (fun i H4 => ∃ (cs : List Int), Same H H4 ∧ H4 D = some (.lst (cs.map V.int)) ∧ cs.length ≤ i)
        ⟨[], sD _, upd_same, by simp⟩ (fun i H4 _ ⟨_, s4, _⟩ => s4.seq hb) ?_ ?_
    · rintro i x H4 H5 hi ⟨cs, s4, hD, hl4⟩ ⟨rfl, hx⟩
      obtain ⟨z, rfl⟩ : ∃ z, x = V.int z := by
        rw [List.getElem?_map] at hx
        cases e : ns[i]? with
        | none => rw [e] at hx; cases hx
        | some z => rw [e] at hx; exact ⟨z, (Option.some.inj hx).symm⟩
      rw [List.length_map] at hi
      refine ⟨rfl, _, rfl, _, _, rfl, rfl, ⟨by decide, by decide, by decide⟩, _, _, rfl, rfl, _, rfl, ite2 (fun hq => ?_) (fun hq => ?_)⟩
      · refine ⟨_, rfl, _, _, rfl, rfl, ⟨by decide, by decide, by decide⟩, _, _, rfl, rfl, _, hD, ?_, ?_⟩
        · rw [List.length_map]
          exact small1000 (by omega)
        · refine ⟨cs ++ [_], fun c o e => ?_, by rw [upd_same, List.map_append]; rfl, by simp; omega⟩
          rw [upd_ne (ne_of_none e nD)]
          exact s4 _ _ e
      · exact ⟨cs, s4, hD, by omega⟩
    · rintro H4 ⟨cs, s4, hD, hl4⟩
      rw [List.length_map] at hl4
      intro p np
      have s5 := same_upd (o := .dK []) np
      refine ⟨_, rfl, _, rfl, b, _, rfl, .inl (s5.seq (s4.seq hb)), fun l nl => ⟨?_, [(kLg, .ref D), (kCe, .ref l), (kRe, .int 0), (kTu, .int 0)], rfl, (by show 4 ≤ 15; decide), ?_⟩⟩
      · rw [upd_ne (ne_of_none upd_same nl)]
        exact upd_same
      · have npl : p ≠ l := ne_of_none upd_same nl
        have nDp : D ≠ p := ne_of_none hD np
        have nDl : D ≠ l := ne_of_none (s5 _ _ hD) nl
        have e : mergeK [] [(kLg, V.ref D), (kCe, .ref l), (kRe, .int 0), (kTu, .int 0)] = stD D l 0 0 := by
          simp [mergeK, putK, stD, kLg, kCe, kRe, kTu, show ¬ (("large" : Str) = "cells") by decide +kernel, show ¬ (("large" : Str) = "rest") by decide +kernel, show ¬ (("cells" : Str) = "rest") by decide +kernel,
            show ¬ (("large" : Str) = "turn") by decide +kernel, show ¬ (("cells" : Str) = "turn") by decide +kernel, show ¬ (("rest" : Str) = "turn") by decide +kernel]
        rw [e]
        have sA : Same H (upd (upd (upd H4 p (.dK [])) l (.lst (ns.map V.int))) p (.dK (stD D l 0 0))) := fun c o h => by
          have h4 := s4 _ _ h
          rw [upd_ne (ne_of_none h4 np)]
          exact same_upd nl _ _ (s5 _ _ h4)
        have fr : ∀ c, (upd (upd (upd H4 p (.dK [])) l (.lst (ns.map V.int))) p (.dK (stD D l 0 0))) c = none → H c = none := fun c h => sA.free h
        refine k p D l _ ⟨⟨0, upd_same⟩, ⟨cs, ?_, by omega⟩, ⟨ns, ?_, hl⟩, by decide, nDl⟩ sA (s4.free np) nD (s4.free (s5.free nl))
        · rw [upd_ne nDp, upd_ne nDl, upd_ne nDp]
          exact hD
        · rw [upd_ne npl.symm, upd_same]
end
end Dr

set_option Elab.async false
set_option linter.all false
set_option maxRecDepth 100000
set_option maxHeartbeats 1000000
/-! Exceptions of own classes held as values: made (by place, by name), their field read, isinstance. -/
namespace Ex
open PySem PySem.Spec PyProof.Rows L2
abbrev Fg := PySem.W.Frag
/-- what isinstance asks of the class D -/
structure ExcD (K : Fg) (D : Addr) : Prop where
  hcl : (PySem.W.clsIn K D).isSome = true
  ga : PySem.W.findIn K (.ref D) "__getattribute__" = some (some (.builtin "BaseException.__getattribute__"))
  gg : PySem.W.findIn K (.ref D) "__getattr__" = some none
  ex : PySem.W.subIn K (.ref D) (.type "BaseException") = some true
  ca : PySem.W.findIn K (.ref D) "__class__" = some (some (.builtin "object.__class__"))
  cg : PySem.W.specialIn K (.builtin "object.__class__") "__get__" = some (some (.builtin "getset_descriptor.__get__"))
  ct : PySem.W.takesIn K (.builtin "object.__class__") = some true
  cm : PySem.W.mroIn K D (.type "object") = some true
/-- at a: an instance of D -/
def IsExc (H : Hp) (a D : Addr) : Prop := H a = some (ExO (.ref D) a) ∨ ∃ d fs, H a = some (exo a D (some d)) ∧ H d = some (exd d fs)
section
variable {X : Cx}
def rIsV (K : Fg) : List V → Hp → VK → Prop := fun xs H Q => ∃ (a D : Addr) (c : V) (cv : Value) (b : Bool), xs = [.ref a, c] ∧ IsExc H a D ∧ (∀ u, RelV c u → u = cv) ∧ ExcD K D ∧ PySem.W.kitOne K (.ref D) cv = some b ∧ Q (.bl b) H
theorem call_isV : CallR X (.builtin "isinstance") (rIsV X.K) := by
  rintro pins s σ H xs us Q I r ⟨a, D, c, cv, b, rfl, he, hcv, T, e, q⟩
  obtain ⟨u1, u2, rfl, ra, rc⟩ : ∃ u1 u2, us = [u1, u2] ∧ RelV (.ref a) u1 ∧ RelV c u2 := by
    cases r with
    | cons rx rr => cases rr with
      | cons rt rr => cases rr; exact ⟨_, _, rfl, rx, rt⟩
  cases ra
  have ec := hcv _ rc
  subst ec
  obtain ⟨ox, od, J⟩ : ∃ ox od, PySem.W.InstAt s.heap a ox D od := by
    rcases he with he | ⟨d, fs, he, hd⟩
    · obtain ⟨⟨oe, vs, h1, h2, h3, _⟩, _, _⟩ := I.hok a _ he
      obtain ⟨oc, od, oda, osl⟩ := oe
      obtain ⟨e1, e2⟩ := h2
      dsimp only at e1 e2 h3
      subst e1 e2 h3
      exact ⟨_, none, h1, rfl, rfl, trivial⟩
    · obtain ⟨t1, h1⟩ := exo_at I.hok he
      obtain ⟨mA, hn, rel⟩ := exd_at I.hok hd
      obtain ⟨oD, es, ep, h2, _⟩ := hn
      exact ⟨_, some oD, h1, rfl, rfl, h2⟩
  exact PySem.W.kia_one (PySem.W.kitx_exc T.hcl T.ga T.gg T.ex T.ca T.cg T.ct T.cm) I.kIn J e (fun z => nomatch z) fun tk => ⟨.bl b, H, I.kept (t' := tk) fun _ _ z => z, rfl, q⟩
/-- e.n, e such an instance with a dict -/
def tXv (K : Fg) (n : Str) (te : TE) : TE := fun σ H Q => te σ H fun x H1 => ∃ (a C d : Addr) (fs : List (Str × V)) (v : V), x = .ref a ∧ XfC K C ∧ PySem.W.findIn K (.ref C) n = some none ∧ H1 a = some (exo a C (some d)) ∧ H1 d = some (exd d fs) ∧ fs.lookup n = some v ∧ Q v H1
theorem pe_xv {e : Expr} {te : TE} {n : Str} {pos : Pos} (he : PE X e te) (hb : attributeBase e n X.env (eval e X.env) = eval e X.env := by rfl) : PE X (.Attribute e n pos) (tXv X.K n te) := by
  refine ⟨fun pins s σ H Q I h => attr_of hb (thn (he.run pins s σ H _ I h) fun u s1 hh => ?_)⟩
  obtain ⟨x, H1, I1, rx, a, C, d, fs, v, rfl, T, hno, ha, hd, l, q⟩ := hh
  cases rx
  obtain ⟨t1, h1⟩ := exo_at I1.hok ha
  obtain ⟨mA, hns, hr⟩ := exd_at I1.hok hd
  obtain ⟨od, ho, hl⟩ := lookIn_ns hns
  obtain ⟨u, hu, ru⟩ := RelO.some_of (v := v) (o := mA n) (by rw [← l]; exact hr n)
  have J : PySem.W.InstAt s1.heap a _ C (some od) := ⟨h1, rfl, rfl, ho⟩
  exact HandSPX.exc_get I1.kIn J T.ga T.gg T.exC (PySem.W.findObj_own T.hdC hno rfl (by rw [hl, hu])) (handed_of ru) ⟨v, H1, I1.tok _, ru, q⟩
/-- Base.__init__(self, ..), Base an own class whose __init__ is ValueError's -/
structure BaseI (K : Fg) (B : Addr) : Prop where
  rd : PySem.W.readsIn K B (.type "type") = true
  ga : PySem.W.specialIn K (.ref B) "__getattribute__" = some (some (.builtin "type.__getattribute__"))
  at_ : PySem.W.findCls K (.ref B) (.type "type") "__init__" = some (.val (.builtin "ValueError.__init__"))
theorem pe_clsinit {x : Str} {B : Addr} {e : Expr} {es : List Expr} {ta : TA} {p1 p2 pos : Pos} {pl : Sem Bool} (hg : Gl X x) (hm : X.mg x = some (.ref B)) (T : BaseI X.K B) (ha : PA X (e :: es) ta)
    (hc : eval (.Call (.Attribute (.Name x p1) "__init__" p2) (e :: es) [] pos) X.env = (do
      let o ← eval (.Name x p1) X.env
      standAt p2.atName
      let (g, fs) ← holding [o] (getMethod o "__init__" pl)
      callWith pos g fs (backTo pos (starEach (e :: es) X.env)) (backToKw pos (keywordEach [] X.env))) := by rfl)
    (hdb : (x == ("__debug__" : Str)) = false := by decide) (he : starEach (e :: es) X.env = (false, eval e X.env) :: starEach es X.env := by rfl) (hpl : (backTo pos (starEach es X.env)).any (·.1) = false := by rfl) :
    PE X (.Call (.Attribute (.Name x p1) "__init__" p2) (e :: es) [] pos) (tVeI X.K ta) := by
  refine ⟨fun pins s σ H Q I h => PySem.W.methodCall_KW (ld_glob I hg hm ?_ hdb) hc⟩
  refine PySem.W.method_cls I.kIn T.ga (PySem.W.cls_value I.kIn T.rd T.at_ (by decide +kernel) ?_)
  show wpAny _ _ (callWith pos (Value.builtin "ValueError.__init__") [] (backTo pos (starEach (e :: es) X.env)) []) _ _ _
  refine PyProof.Rows.callWith_method1 (thn (ha.run pos pins _ σ H _ (I.tok _) h) fun us s1 hh => ?_) he hpl
  obtain ⟨vs, H1, I1, r1, a, C, ws, rfl, hl, TC, ea, q⟩ := hh
  cases r1 with
  | cons ra rr =>
    cases ra
    exact oinit_ok TC I1 ea (by rw [← Paired.length rr, sizeLine_eq]; omega) fun s' J => ⟨.non, H1, J, rfl, q⟩
/-- C(e, ..), C's own __init__ keeping sp: the new exception as a value -/
def tMkV (C : Addr) (sp : Sp) (ta : TA) : TE := fun σ H Q => ta σ H fun vs H1 => vs.length ≤ 1000 ∧ ∀ a, H1 a = none → sp (.ref a :: vs) (upd H1 a (exo a C none)) (fun v H2 => v = .non ∧ Q (.ref a) H2) (fun _ _ _ => False)
theorem pe_oexV {CX : CXT} {x : Str} {C fI : Addr} {k : Nat} {fd : FuncData} {ps : List Str} {sp : Sp} {e : Expr} {es : List Expr} {ta : TA} {p pos : Pos} (T : OexC X.K C) (iC : PySem.W.findIn X.K (.ref C) "__init__" = some (some (.ref fI)))
    (tI : PySem.W.typeIn X.K (.ref fI) = some (.type "function")) (F1 : FnOk X.prog X.w X.K X.mg X.base CX k fI fd ps sp) (hr : Room (k + 1) X.A) (hb : Binds X.K fd ps []) (hx : Passes CX X (fun _ _ _ => False)) (hg : Gl X x) (hm : X.mg x = some (.ref C))
    (ha : PA X (e :: es) ta) (hdb : (x == ("__debug__" : Str)) = false := by decide) (he : starEach (e :: es) X.env = (false, eval e X.env) :: starEach es X.env := by rfl) (hpl : (backTo pos (starEach es X.env)).any (·.1) = false := by rfl) :
    PE X (.Call (.Name x p) (e :: es) [] pos) (tMkV C sp ta) := by
  refine ⟨fun pins s σ H Q I h => ?_⟩
  obtain ⟨nm, q, N, bs, bm, sn, sub, ab, col, dd, k0, k1, k2, k3, k5, hC, hbm⟩ := T.cls
  refine wpAny_Call_Name_kw (ld_glob I hg hm (PySem.W.callWith_K (h₀ := X.base) I.ok.mod.kin T.kC (thn (ha.run pos pins s σ H _ I h) fun us s1 hh => ?_) he hpl) hdb)
  obtain ⟨vs, H1, I1, r1, hz, q1⟩ := hh
  refine ⟨I1.kIn, ?_⟩
  show wpAny _ _ (call (.ref C) us) _ _ _
  obtain ⟨hp, g, dr, tk, os⟩ := s1
  have hn : H1 (hp.objs.size + 1) = none := I1.hok.fresh (Nat.le_succ _)
  have hq := q1 (hp.objs.size + 1) hn
  have kp : ∀ b o, hp.get? b = some o → ((hp.push (PySem.W.kdv_tup us)).push (PySem.HandSPX.excO C hp.objs.size)).get? b = some o := fun _ _ z => Heap.get?_push_of_some _ (Heap.get?_push_of_some _ z)
  have ho : ((hp.push (PySem.W.kdv_tup us)).push (PySem.HandSPX.excO C hp.objs.size)).get? (hp.objs.size + 1) = some (PySem.HandSPX.excO C hp.objs.size) := by heap_get
  have I2 : Inv X pins σ (upd H1 (hp.objs.size + 1) (exo (hp.objs.size + 1) C none)) ⟨(hp.push (PySem.W.kdv_tup us)).push (PySem.HandSPX.excO C hp.objs.size), g, dr, tk, os⟩ :=
    I1.laid (t' := tk) kp (Nat.le_succ _) (exo_ok ho)
  have r2 : Vals (V.ref (hp.objs.size + 1) :: vs) (Value.ref (hp.objs.size + 1) :: us) := .cons rfl r1
  have hl : (Value.ref (hp.objs.size + 1) :: us ++ []).length = ps.length := by
    rw [List.append_nil, ← r2.length]
    exact F1.len _ _ _ _ hq
  have hus : us.length ≤ sizeLine := by
    rw [← Paired.length r1, sizeLine_eq]
    omega
  refine wpAny_call (PySem.HandSPX.call_own F.excBase_ValueError (fun Y => PySem.HandSPX.refsVE_contains Y bm hbm) (I1.kIn _ _ hC) (PySem.W.looks_findIn I1.kIn iC) (fun self => PySem.W.bind_fn I1.kIn self tI) hus
    (codeAny_mono (F1.run _ X.stack _ _ ⟨Value.ref (hp.objs.size + 1) :: us, []⟩ (Value.ref (hp.objs.size + 1) :: us) _ _ (fun _ _ _ => False) (hr.make C us []) (I2.env0.make C us []) (by simpa using hb _ (Value.ref (hp.objs.size + 1) :: us) I2.kIn hl) r2 hq) fun r s' hq' => ?_))
  cases r with
  | error er => exact hx pins σ _ _ er s' I2 hq'
  | ok fl =>
    cases fl with
    | ret u =>
      obtain ⟨v, H2, I3, rv, ev, q3⟩ := I2.after hq'
      subst ev
      exact ⟨rv, ⟨V.ref (hp.objs.size + 1), H2, I3, rfl, q3⟩⟩
    | next => exact False.elim hq'
    | brk => exact False.elim hq'
    | cont => exact False.elim hq'
end
end Ex

set_option Elab.async false
set_option linter.all false
set_option maxRecDepth 100000
set_option maxHeartbeats 2000000
/-! An own exception class called by name alone. -/
namespace PySem
namespace ExKw
open PySem.W PySem.Calls PyProof.Rows PySem.HandSPX
section
variable {prog : Program} {w : World} {A : Around} {E : Value → Shared → Prop} {R : Result → Shared → Prop} {h : Heap} {g : Array GenState} {d : Drawn} {t : Nat} {os : OsState} {kw : List (Str × Value)}
variable {nm q : Str} {C N fI : Addr} {bs bm bmB : List Value} {hdct : Bool} {sn : List Str} {sub : List Value} {ab : Bool} {col : Option Bool} {dd : Option Addr} {k0 k1 k2 k3 k5 : Option Value} {B newId initId : String}
theorem chk (F : ExcBaseFacts B newId initId bmB) (hT : ∀ Y : String, bm.contains (.type Y) = bmB.contains (.type Y)) {Q : Unit → Shared → Prop}
    (hC : h.get? C = some (excClassObj nm q C N bs bm hdct sn sub ab col dd k0 k1 k2 k3 k5 newId)) (hq : Q () ⟨h, g, d, t, os⟩) : wpAny (model prog w) A (checkBuiltinCall newId ⟨[.ref C], kw⟩) Q E ⟨h, g, d, t, os⟩ := by
  have a1 : (Value.ref C :: bm).contains (.type B) = true := by rw [List.contains_cons, hT, F.hasB, Bool.or_true]
  have a2 := F.noStar
  simp only [checkBuiltinCall, F.newKind, F.newSplit, F.newRow]
  repeat (first | refine wpAny_loadPart_at hC ?_ | (refine wpAny_isSubtype_exc hC ?_; rw [a1]) | refine wpAny_staticBase_exc hC ?_ | refine wpAny_madeBy_exc hC ?_ | simp only [bne_self_eq_false, Bool.false_eq_true, if_false] | wp_step)
  exact hq
theorem mk (F : ExcBaseFacts B newId initId bmB) (hT : ∀ Y : String, bm.contains (.type Y) = bmB.contains (.type Y))
    (hC : h.get? C = some (excClassObj nm q C N bs bm hdct sn sub ab col dd k0 k1 k2 k3 k5 newId))
    (hq : R (.ok (.ret (.ref (h.objs.size + 1)))) ⟨(h.push (W.kdv_tup [])).push (excO C h.objs.size), g, d, t, os⟩) :
    codeAny (model prog w) A (.builtin newId ⟨[.ref C], kw⟩) R ⟨h, g, d, t, os⟩ := by
  have e0 := F.ends
  have e1 : (Value.ref C :: bm).contains (.type B) = true := by rw [List.contains_cons, hT, F.hasB, Bool.or_true]
  have e2 : (Value.ref C :: bm).contains (.type "AttributeError") = false := by rw [List.contains_cons, hT, F.noAttr]; rfl
  have e3 : (Value.ref C :: bm).contains (.type "NameError") = false := by rw [List.contains_cons, hT, F.noName]; rfl
  have e4 : ([] : List Value).length ≤ sizeLine := Nat.zero_le _
  refine codeAny_builtinAt F.entry ?_
  unfold Builtin.«BaseException.__new__»
  refine wpAt_bind ?_
  show wpAt _ _ _ (stack >>= _) _ _ _
  refine wpAt_bind (wpAt_stack fun p below => wpAt_of_wpAny ?_)
  wp_walk
  refine wpAt_of_wpAny ?_
  rw [F.owner]
  repeat (first | with_reducible refine wpAny_madeHere_exc F.canon hC ?_ | with_reducible refine wpAny_loadPart_at hC ?_ | (with_reducible refine wpAny_isSubtype_exc hC ?_; first | rw [e1] | rw [e2] | rw [e3]) | wp_step)
  show R _ _
  rw [Heap.size_push]
  exact hq
theorem tcall (F : ExcBaseFacts B newId initId bmB) (hT : ∀ Y : String, bm.contains (.type Y) = bmB.contains (.type Y)) {Q : Fin → Shared → Prop}
    (hC : h.get? C = some (excClassObj nm q C N bs bm hdct sn sub ab col dd k0 k1 k2 k3 k5 newId))
    (hi : W.Looks (model prog w) h (typeLookup (.ref C) "__init__") (some (.ref fI))) (hb : ∀ z, W.Looks (model prog w) h (bindSpecial (.ref fI) z) (.ref fI, [z]))
    (hq : codeAny (model prog w) A (.call (.ref fI) ⟨[.ref (h.objs.size + 1)], kw⟩)
      (fun r s' => match r with | .ok (.ret v) => v = .none ∧ Q (.done (.ret (.ref (h.objs.size + 1)))) s' | .ok _ => False | .error e => E e s')
      ⟨(h.push (W.kdv_tup [])).push (excO C h.objs.size), g, d, t, os⟩) :
    wpAny (model prog w) A (Builtin.«type.__call__» ⟨[.ref C], kw⟩) Q E ⟨h, g, d, t, os⟩ := by
  repeat (first | with_reducible refine wpAny_loadPart_at hC ?_ | with_reducible refine wpAny_madeBy_exc hC ?_ | wp_step)
  refine codeAny_call_builtin_code (Code.quiet_builtin _ F.quiet) (chk F hT hC ?_)
  refine mk F hT hC ?_
  show wpAny _ _ _ _ _ _
  have k : ∀ b o, h.get? b = some o → ((h.push (W.kdv_tup [])).push (excO C h.objs.size)).get? b = some o := fun _ _ z => Heap.get?_push_of_some _ (Heap.get?_push_of_some _ z)
  have c1 := k _ _ hC
  have c2 : ((h.push (W.kdv_tup [])).push (excO C h.objs.size)).get? (h.objs.size + 1) = some (excO C h.objs.size) := by heap_get
  have c3 : (Value.ref C :: bm).contains (.ref C) = true := by simp
  have i1 := hi.keeps k
  have i2 := (hb (.ref (h.objs.size + 1))).keeps k
  unfold isInstance
  repeat (first | with_reducible refine wpAny_loadPart_at c2 ?_ | (with_reducible refine wpAny_isSubtype_exc c1 ?_; rw [c3]) | wp_step)
  show wpAny _ _ (typeLookup (.ref C) _) _ _ _
  refine i1.at ?_
  refine wpAny_holding (wpAny_bind (i2.at ?_))
  refine wpAny_bind (wpAny_call (codeAny_mono hq fun r s' z => ?_))
  rcases r with e | (v | _ | _ | _) <;> first | exact z | exact z.elim | skip
  obtain ⟨rfl, z⟩ := z
  first
    | exact wpAny_pure (wpAny_pure z)
    | (wp_walk; exact z)
theorem ccall (F : ExcBaseFacts B newId initId bmB) (hT : ∀ Y : String, bm.contains (.type Y) = bmB.contains (.type Y))
    (hC : h.get? C = some (excClassObj nm q C N bs bm hdct sn sub ab col dd k0 k1 k2 k3 k5 newId))
    (hi : W.Looks (model prog w) h (typeLookup (.ref C) "__init__") (some (.ref fI))) (hb : ∀ z, W.Looks (model prog w) h (bindSpecial (.ref fI) z) (.ref fI, [z]))
    (hq : codeAny (model prog w) (A.under (.builtin "type.__call__" ⟨[.ref C], kw⟩)) (.call (.ref fI) ⟨[.ref (h.objs.size + 1)], kw⟩) (W.InitBack (h.objs.size + 1) R)
      ⟨(h.push (W.kdv_tup [])).push (excO C h.objs.size), g, d, t, os⟩) :
    codeAny (model prog w) A (.call (.ref C) ⟨[], kw⟩) R ⟨h, g, d, t, os⟩ := by
  have f1 := tc_lookup
  have f2 := tc_bind (.ref C)
  have f3 : (⟨h, g, d, t, os⟩ : Shared).TypeIs (.ref C) "type" := ⟨_, hC, rfl⟩
  refine codeAny_of_tree ?_
  show wpAny _ _ (callAny (.ref C) _) _ _ _
  repeat (any_goals (first | assumption | with_reducible refine wpAny_loadPart_at hC ?_ | wp_step))
  refine ⟨rfl, ?_⟩
  refine codeAny_call_builtin_at (Code.quiet_builtin _ (by decide +kernel)) entry_typeCall (wpAny_check_type_call_sub hC (tcall F hT hC hi hb ?_))
  refine codeAny_mono hq fun r s' z => ?_
  rcases r with e | (v | _ | _ | _) <;> exact z
end
end ExKw
end PySem

set_option Elab.async false
set_option linter.all false
set_option maxRecDepth 100000
set_option maxHeartbeats 2000000
namespace Ex
open PySem PySem.Spec PyProof.Rows L2
section
variable {X : Cx}
/-- C(n = e), C's own __init__ keeping sp -/
theorem pe_oexK {CX : CXT} {x n : Str} {C fI : Addr} {k : Nat} {fd : FuncData} {ps : List Str} {sp : Sp} {e : Expr} {te : TE} {p kp pos : Pos} (T : OexC X.K C) (iC : PySem.W.findIn X.K (.ref C) "__init__" = some (some (.ref fI)))
    (tI : PySem.W.typeIn X.K (.ref fI) = some (.type "function")) (F1 : FnOk X.prog X.w X.K X.mg X.base CX k fI fd ps sp) (hr : Room (k + 1) X.A) (h2 : ps.length = 2) (hb : ∀ (s : Shared) (a : Addr) (u : Value), X.K.In s.heap → BindsTo s fd ⟨[.ref a], [(n, u)]⟩ (ps.zip [.ref a, u]))
    (hx : Passes CX X (fun _ _ _ => False)) (hg : Gl X x) (hm : X.mg x = some (.ref C)) (he : PE X e te) (hdb : (x == ("__debug__" : Str)) = false := by decide) :
    PE X (.Call (.Name x p) [] [⟨some n, e, kp⟩] pos) (tMkV C sp (tCons te tNil)) := by
  refine ⟨fun pins s σ H Q I h => ?_⟩
  obtain ⟨nm, q, N, bs, bm, sn, sub, ab, col, dd, k0, k1, k2, k3, k5, hC, hbm⟩ := T.cls
  refine wpAny_Call_Name_kw (ld_glob I hg hm (PySem.W.callWith_KW0 (h₀ := X.base) I.ok.mod.kin T.kC rfl (thn ((pk_cons (nm := some n) (kpos := kp) he pk_nil).run pos pins s σ H _ I h) fun us s1 hh => ?_) rfl) hdb)
  obtain ⟨vs, H1, I1, r1, hz, q1⟩ := hh
  refine ⟨I1.kIn, ?_⟩
  obtain ⟨hp, g, dr, tk, os⟩ := s1
  have hn : H1 (hp.objs.size + 1) = none := I1.hok.fresh (Nat.le_succ _)
  have hq := q1 (hp.objs.size + 1) hn
  have lv : (V.ref (hp.objs.size + 1) :: vs).length = ps.length := F1.len _ _ _ _ hq
  have kq : ∀ b o, hp.get? b = some o → ((hp.push (PySem.W.kdv_tup [])).push (PySem.HandSPX.excO C hp.objs.size)).get? b = some o := fun _ _ z => Heap.get?_push_of_some _ (Heap.get?_push_of_some _ z)
  have ho : ((hp.push (PySem.W.kdv_tup [])).push (PySem.HandSPX.excO C hp.objs.size)).get? (hp.objs.size + 1) = some (PySem.HandSPX.excO C hp.objs.size) := by heap_get
  have I2 : Inv X pins σ (upd H1 (hp.objs.size + 1) (exo (hp.objs.size + 1) C none)) ⟨(hp.push (PySem.W.kdv_tup [])).push (PySem.HandSPX.excO C hp.objs.size), g, dr, tk, os⟩ :=
    I1.laid (t' := tk) kq (Nat.le_succ _) (exo_ok ho)
  obtain ⟨v, u, ev, eu, rv⟩ : ∃ v u, vs = [v] ∧ us = [u] ∧ RelV v u := by
    rw [h2] at lv
    cases r1 with
    | nil => cases lv
    | cons ra rr => cases rr with
      | nil => exact ⟨_, _, rfl, rfl, ra⟩
      | cons _ _ => simp at lv
  subst ev eu
  have r2 : Vals [V.ref (hp.objs.size + 1), v] [Value.ref (hp.objs.size + 1), u] := .cons rfl (.cons rv .nil)
  show wpAny _ _ (call (.ref C) ([] ++ []) ([n].zip [u])) _ _ _
  refine wpAny_call (PySem.ExKw.ccall (kw := [(n, u)]) F.excBase_ValueError (fun Y => PySem.HandSPX.refsVE_contains Y bm hbm) (I1.kIn _ _ hC) (PySem.W.looks_findIn I1.kIn iC) (fun self => PySem.W.bind_fn I1.kIn self tI)
    (codeAny_mono (F1.run _ X.stack _ _ ⟨[Value.ref (hp.objs.size + 1)], [(n, u)]⟩ [Value.ref (hp.objs.size + 1), u] _ _ (fun _ _ _ => False) (hr.make C [] [(n, u)]) (I2.env0.make C [] [(n, u)]) (hb _ _ u I2.kIn) r2 hq) fun r s' hq' => ?_))
  cases r with
  | error er => exact hx pins σ _ _ er s' I2 hq'
  | ok fl =>
    cases fl with
    | ret z =>
      obtain ⟨v', H2, I3, rv', ev, q3⟩ := I2.after hq'
      subst ev
      exact ⟨rv', ⟨V.ref (hp.objs.size + 1), H2, I3, rfl, q3⟩⟩
    | next => exact False.elim hq'
    | brk => exact False.elim hq'
    | cont => exact False.elim hq'
end
end Ex

set_option Elab.async false
set_option linter.all false
set_option maxRecDepth 100000
set_option maxHeartbeats 1000000
/-! A def that is entered where no repr is under way. -/
namespace Gd
open PySem PySem.Spec PyProof.Rows L2
abbrev Free (A : Around) : Prop := A.guards = some []
/-- FnOk for such entries alone -/
structure FnG (P : Program) (w : World) (K : PySem.W.Frag) (mg : Str → Option Value) (base : Heap) (CX : CXT) (k : Nat) (f : Addr) (fd : FuncData) (ps : List Str) (sp : Sp) : Prop where
  len : ∀ vs H Q E, sp vs H Q E → vs.length = ps.length
  go : ∀ (A : Around) (outer : List Env) (s : Shared) (H : Hp) (args : Args) (us : List Value) (vs : List V) (Q : VK) (E : XK), Free A → Room k A → Env0 P w K mg base A outer s H → BindsTo s fd args (ps.zip us) → Vals vs us → sp vs H Q E → codeAny (model P w) A (.call (.ref f) args) (CR CX outer P w H s Q E) s
theorem free_deeper {A : Around} {env : Env} (h : Free A) : Free (A.deeper env) := h
section
variable {P : Program} {w : World} {K : PySem.W.Frag} {mg : Str → Option Value} {base : Heap}
theorem FnG.of {CX : CXT} {k : Nat} {f : Addr} {fd : FuncData} {ps : List Str} {sp : Sp} (F : FnOk P w K mg base CX k f fd ps sp) : FnG P w K mg base CX k f fd ps sp := ⟨F.len, fun A outer s H args us vs Q E _ => F.run A outer s H args us vs Q E⟩
/-- the body, as a term of rules with its reading -/
theorem of_body {x qual : Str} {st : Stmt} {f : Addr} {fd : FuncData} {N ps : List Str} {k : Nat} {sp : Sp} (F : Fun K x qual st f fd) (S : FnScope N ps (defScope st)) (len : ∀ vs H Q E, sp vs H Q E → vs.length = ps.length)
    (body : ∀ (cdv : Value) (A : Around) (outer : List Env) (s : Shared) (H : Hp) (vs : List V) (Q : VK) (E : XK), Free A → Room k (A.deeper (envOfC qual (defScope st) s.heap.objs.size f cdv)) → sp vs H Q E →
      ∃ t, PSs (cxOf CX0 P w K mg base N qual (defScope st) f cdv A outer s H E).nox (defBody st) t ∧ t { nx := fun _ H' => Q .non H', rt := Q } (start N vs) H) : FnG P w K mg base CX0 (k + 1) f fd ps sp := by
  obtain ⟨oc, od, kV, doc, pm, an, cdv, ct, osl, rfl, lk, hcd⟩ := F.ex
  refine ⟨len, fun A outer s H args us vs Q E fr hr e0 hb r hsp => ?_⟩
  have n1 := len _ _ _ _ hsp
  have KX : K.In s.heap := e0.mod.kin.keeps fun b o z => (e0.bs b o z).1
  have kinds : ∀ y ∈ ps.zip us, (defScope st).names.lookup y.1 = some .local ∨ ((defScope st).names.lookup y.1 = some .cell ∧ ((cellsFrom (s.heap.objs.size + 1) (defScope st).names []).lookup y.1).isSome = true) := by
    rintro ⟨y, v⟩ hy
    exact (S.par y (List.of_mem_zip hy).1).imp id fun z => ⟨z, PySem.W.cellsFrom_some _ _ _ (.inl z)⟩
  obtain ⟨t, ht, hq⟩ := body cdv A outer s H vs Q E fr (hr.deeper _) hsp
  refine codeAny_call_function hr.depth (KX _ _ lk) rfl S.co S.gen rfl (PySem.W.codeRec_of KX hcd) (hb _ _ _ _ (wpAny_newFunctionEnv_cells S.kind kinds fun env he s1 x => ?_))
  subst he
  refine ⟨(e0.mod.nolimit.keeps fun b o z => (e0.bs b o z).1).keeps x.toInCall.keep, codeAny_func ?_⟩
  have J0 : Inv (cxOf CX0 P w K mg base N qual (defScope st) f cdv A outer s H E) [] (start N vs) H s1 := inv_start S hr.hd e0 n1 r x
  refine wpAny_mono (ht.nox.run [] s1 (start N vs) H _ J0 hq) (fun fl s' hs => ?_) fun _ _ z => z
  cases fl with
  | ret u => obtain ⟨v, σ', H', J, rv, q⟩ := hs; exact ⟨v, H', J.os, J.bare, J.base, J.hok, rv, q⟩
  | next => obtain ⟨σ', H', J, q⟩ := hs; exact ⟨.non, H', J.os, J.bare, J.base, J.hok, rfl, q⟩
  | brk => obtain ⟨_, _, _, q⟩ := hs; exact q.elim
  | cont => obtain ⟨_, _, _, q⟩ := hs; exact q.elim
end
/-! ### data in the heap, and its repr -/
mutual
/-- v is the data d; the changing parts' addresses are ok -/
inductive Td (K : PySem.W.Frag) (ok : Addr → Prop) (H : Hp) : V → PyData → Prop
  | non : Td K ok H .non .none
  | bl (b : Bool) : Td K ok H (.bl b) (.bool b)
  | int (i : Int) : Td K ok H (.int i) (.int i)
  | str (x : Str) : Td K ok H (.str x) (.str x)
  | tup {a : Addr} {vs : List V} {ds : List PyData} : ok a → SqT K H a vs → TdL K ok H vs ds → Td K ok H (.ref a) (.tuple ds)
  | lst {a : Addr} {vs : List V} {ds : List PyData} : ok a → Rd H a (.lst vs) → TdL K ok H vs ds → Td K ok H (.ref a) (.list ds)
  | dct {a : Addr} {kvs : List (Key × V)} {ds : List (PyData × PyData)} : ok a → Rd H a (.dK kvs) → TdD K ok H kvs ds → Td K ok H (.ref a) (.dict ds)
inductive TdL (K : PySem.W.Frag) (ok : Addr → Prop) (H : Hp) : List V → List PyData → Prop
  | nil : TdL K ok H [] []
  | cons {v : V} {vs : List V} {d : PyData} {ds : List PyData} : Td K ok H v d → TdL K ok H vs ds → TdL K ok H (v :: vs) (d :: ds)
inductive TdD (K : PySem.W.Frag) (ok : Addr → Prop) (H : Hp) : List (Key × V) → List (PyData × PyData) → Prop
  | nil : TdD K ok H [] []
  | cons {x : Str} {v : V} {kvs : List (Key × V)} {d : PyData} {ds : List (PyData × PyData)} : Td K ok H v d → TdD K ok H kvs ds → TdD K ok H ((.inr x, v) :: kvs) ((.str x, d) :: ds)
end
section
variable {K : PySem.W.Frag} {ok ok' : Addr → Prop} {H H' : Hp}
theorem rd_mono {a : Addr} {u : HO} (k : ∀ b o, ok b → H b = some o → H' b = some o) (h : ok a) (r : Rd H a u) : Rd H' a u := by
  rcases r with r | ⟨o, r⟩
  · exact .inl (k _ _ h r)
  · exact .inr ⟨o, k _ _ h r⟩
theorem sqT_mono {a : Addr} {vs : List V} (k : ∀ b o, ok b → H b = some o → H' b = some o) (h : ok a) (r : SqT K H a vs) : SqT K H' a vs := r.imp (rd_mono k h) id
mutual
theorem Td.mono (w : ∀ b, ok b → ok' b) (k : ∀ b o, ok b → H b = some o → H' b = some o) : ∀ {v : V} {d : PyData}, Td K ok H v d → Td K ok' H' v d
  | _, _, .non => .non
  | _, _, .bl b => .bl b
  | _, _, .int i => .int i
  | _, _, .str x => .str x
  | _, _, .tup h r l => .tup (w _ h) (sqT_mono k h r) (TdL.mono w k l)
  | _, _, .lst h r l => .lst (w _ h) (rd_mono k h r) (TdL.mono w k l)
  | _, _, .dct h r l => .dct (w _ h) (rd_mono k h r) (TdD.mono w k l)
theorem TdL.mono (w : ∀ b, ok b → ok' b) (k : ∀ b o, ok b → H b = some o → H' b = some o) : ∀ {v : List V} {d : List PyData}, TdL K ok H v d → TdL K ok' H' v d
  | _, _, .nil => .nil
  | _, _, .cons a b => .cons (Td.mono w k a) (TdL.mono w k b)
theorem TdD.mono (w : ∀ b, ok b → ok' b) (k : ∀ b o, ok b → H b = some o → H' b = some o) : ∀ {v : List (Key × V)} {d : List (PyData × PyData)}, TdD K ok H v d → TdD K ok' H' v d
  | _, _, .nil => .nil
  | _, _, .cons a b => .cons (Td.mono w k a) (TdD.mono w k b)
end
end
/-- the written part holds the table of modules -/
def HasSys (K : PySem.W.Frag) : Prop := ∃ o es n, K.lookup sysModules = some o ∧ o.data = .dict es n
section
variable {X : Cx} {pins : List (Addr × Obj)} {σ : L2.St} {H : Hp} {s : Shared} {ok : Addr → Prop}
theorem keyText {P : Program} {w : World} {x : Str} {u : Value} (h : (mixKind P w).is (.inr x) u = true) : ∃ t, u = .str x t := by
  rcases keyIs_shape (show keyIs (.inr x) u = true from h) with ⟨i, t, e, _⟩ | ⟨y, t, e, e2⟩
  · cases e
  · cases e
    exact ⟨t, e2⟩
theorem seqT_at (I : Inv X pins σ H s) {a : Addr} {vs : List V} (h : SqT X.K H a vs) : ∃ o its n, s.heap.get? a = some o ∧ o.cls = .type "tuple" ∧ o.data = .seq its n ∧ Vals vs its.toList := by
  rcases h with h | ⟨o, its, n, h1, h2, h3, _, h4⟩
  · obtain ⟨_, its, r, o, h1, h2, n, h3⟩ := Rd.ok h I.hok
    exact ⟨o, its.toArray, n, h1, h2, h3, by simpa using r⟩
  · exact ⟨o, its, n, I.kIn _ _ h1, h2, h3, h4⟩
mutual
theorem Td.reads (I : Inv X pins σ H s) (hs : HasSys X.K) : ∀ {v : V} {d : PyData} {u : Value}, Td X.K ok H v d → RelV v u → ∃ as, Reads s.heap u d as ∧ sysModules ∉ as
  | _, _, _, .non, r => by cases r; exact ⟨[], .none, by simp⟩
  | _, _, _, .bl b, r => by cases r; exact ⟨[], .bool b, by simp⟩
  | _, _, _, .int i, r => by obtain ⟨t, rfl⟩ := r; exact ⟨[], .int i t, by simp⟩
  | _, _, _, .str x, r => by obtain ⟨t, rfl⟩ := r; exact ⟨[], .str x t, by simp⟩
  | _, _, _, .tup _ h l, r => by
    cases r
    obtain ⟨o, its, n, h1, h2, h3, rv⟩ := seqT_at I h
    obtain ⟨as, q, na⟩ := TdL.reads I hs l rv
    exact ⟨as, .tuple h1 h2 h3 q, na⟩
  | _, _, _, .lst _ h l, r => by
    cases r
    obtain ⟨_, its, n, rv, h1⟩ := Rd.ok h I.hok
    obtain ⟨as, q, na⟩ := TdL.reads I hs l rv
    refine ⟨_, .list (vs := its.toArray) h1 rfl rfl (by simpa using q), ?_⟩
    intro hm
    rcases List.mem_cons.mp hm with e | e
    · obtain ⟨o, es, k, g1, g2⟩ := hs
      have z := I.kIn _ _ g1
      rw [e, h1] at z
      cases z
      cases g2
    · exact na e
  | _, _, _, .dct _ h l, r => by
    cases r
    obtain ⟨_, hm, vs, kv, o, es, ep, h1, h2, h3, h4, h5, _⟩ := dk_rd I.hok h
    obtain ⟨as, bs, q1, q2, n1, n2⟩ := TdD.reads I hs l kv h5
    refine ⟨_, .dict h1 h2.1 h3 q1 q2, ?_⟩
    intro hm'
    simp only [List.cons_append, List.mem_cons, List.mem_append] at hm'
    rcases hm' with e | e | e
    · rw [← e] at hm
      simp at hm
    · exact n1 e
    · exact n2 e
theorem TdL.reads (I : Inv X pins σ H s) (hs : HasSys X.K) : ∀ {v : List V} {d : List PyData} {u : List Value}, TdL X.K ok H v d → Vals v u → ∃ as, ReadsAll s.heap u d as ∧ sysModules ∉ as
  | _, _, _, .nil, r => by cases r; exact ⟨[], .nil, by simp⟩
  | _, _, _, .cons a b, r => by
    cases r with
    | cons ra rb =>
      obtain ⟨as, q1, n1⟩ := Td.reads I hs a ra
      obtain ⟨bs, q2, n2⟩ := TdL.reads I hs b rb
      exact ⟨_, .cons q1 q2, by simp [n1, n2]⟩
theorem TdD.reads (I : Inv X pins σ H s) (hs : HasSys X.K) : ∀ {v : List (Key × V)} {d : List (PyData × PyData)} {vs : List (Key × Value)} {es : List DictEntry}, TdD X.K ok H v d → KV v vs → Pairs (mixKind X.prog X.w) es vs →
    ∃ as bs, ReadsAll s.heap (es.map (·.key)) (d.map (·.1)) as ∧ ReadsAll s.heap (es.map (·.val)) (d.map (·.2)) bs ∧ sysModules ∉ as ∧ sysModules ∉ bs
  | _, _, _, _, .nil, kv, p => by
    cases kv
    cases p
    exact ⟨[], [], .nil, .nil, by simp, by simp⟩
  | _, _, _, _, .cons (x := x) a b, kv, p => by
    cases kv with
    | cons k1 k2 =>
      cases p with
      | cons p1 p2 p3 =>
        obtain ⟨as, bs, q1, q2, n1, n2⟩ := TdD.reads I hs b k2 p3
        obtain ⟨e1, e2⟩ := k1
        rw [← e1] at p1
        obtain ⟨t, hk⟩ := keyText p1
        rw [← p2] at e2
        obtain ⟨cs, q3, n3⟩ := Td.reads I hs a e2
        refine ⟨[] ++ as, cs ++ bs, .cons (by show Reads s.heap (DictEntry.key _) (.str x) []; rw [hk]; exact .str x t) q1, .cons q3 q2, by simpa using n1, by simp [n3, n2]⟩
end
/-- small data -/
structure Sm (d : PyData) : Prop where
  sh : d.showable = true
  lf : d.leavesShort 60 = true
  dp : d.depth < 60
  wt : d.weight ≤ 200000
theorem Sm.len {d : PyData} (h : Sm d) : d.shown.length ≤ sizeLine := by
  have h1 := PyData.shown_le 60 (by decide) d h.lf
  have h2 := h.wt
  rw [sizeLine_eq]
  omega
theorem reprOf (hg : Free X.A) (hu : X.A.units + 64 < cLine) (hs : HasSys X.K) : CallR X (.builtin "repr") (fun xs H Q => ∃ (a : Addr) (d : PyData) (ok : Addr → Prop), xs = [.ref a] ∧ Td X.K ok H (.ref a) d ∧ Sm d ∧ Q (.str d.shown) H) := by
  rintro pins s σ H xs us Q I r ⟨a, d, ok, rfl, hd, hm, q⟩
  obtain ⟨u, rfl, ru⟩ : ∃ u, us = [u] ∧ RelV (.ref a) u := by
    cases r with
    | cons ra rr => cases rr; exact ⟨_, rfl, ra⟩
  obtain ⟨as, rd, na⟩ := hd.reads I hs ru
  cases ru
  have := hm.dp
  exact repr_of_reads' rd hm.sh (fun _ => na) hg (by omega) (fun _ _ z => z) (fun h' u tk k => ⟨.str d.shown, H, I.kept k, ⟨u, rfl⟩, q⟩) hm.len
end
end Gd

set_option Elab.async false
set_option linter.all false
set_option maxRecDepth 100000
/-! The errors that hold a value. -/
namespace Dr
open PySem L2 Ex
/-- self.f = y in a new error of C -/
def spHold (K : PySem.W.Frag) (C : Addr) (f : Str) : Sp := fun vs H Q _ => ∃ (a : Addr) (y : V), vs = [.ref a, y] ∧ H a = some (exo a C none) ∧
  ∀ dx, H dx = none → dx ≠ a → Q .non (upd (upd H dx (exd dx [(f, y)])) a (exo a C (some dx)))
/-- what is asked of such a class -/
structure Held (K : PySem.W.Frag) (C : Addr) (f : Str) : Prop where
  ox : OexC K C
  no : PySem.W.findIn K (.ref C) f = some none
section
variable {P : Program} {w : World} {K : PySem.W.Frag} {mg : Str → Option Value} {base : Heap}
abbrev sUnknownTitle : Stmt := inClass (topS 4) 0
theorem scUnknownTitle : FnScope ["self", "title"] ["self", "title"] (defScope sUnknownTitle) := ⟨rfl, rfl, rfl, by decide +kernel, rfl, by decide +kernel, by decide +kernel⟩
theorem ok_UnknownTitle {f C B : Addr} {fd : FuncData} (F : Fun K "__init__" "UnknownTitle.__init__" sUnknownTitle f fd) (T : Held K C "title") (mB : mg "MergeError" = some (.ref B)) (TB : BaseI K B) : FnOk P w K mg base CX0 1 f fd ["self", "title"] (spHold K C "title") := by
  refine F.ok scUnknownTitle (fun vs H Q E h => ?_) (fun cdv A outer s H vs Q E hr h => ?_)
  · obtain ⟨a, y, rfl, _⟩ := h
    rfl
  · obtain ⟨a, y, rfl, ha, k⟩ := h
    refine ⟨_, pss_cons (ps_expr (pe_clsinit rfl mB TB (pa_cons (pv 0) (pa_cons pe_str pa_nil)))) (pss_one (ps_ost (pv 0) (pv 1))), ?_⟩
    exact ⟨_, rfl, a, C, _, rfl, (by show 1 ≤ 1000; decide), T.ox, ha, _, rfl, _, rfl, a, C, rfl, T.ox, T.no, .inl ⟨ha, k⟩⟩
abbrev sTooMany : Stmt := inClass (topS 7) 0
theorem scTooMany : FnScope ["self", "most"] ["self", "most"] (defScope sTooMany) := ⟨rfl, rfl, rfl, by decide +kernel, rfl, by decide +kernel, by decide +kernel⟩
theorem ok_TooMany {f C B : Addr} {fd : FuncData} (F : Fun K "__init__" "TooMany.__init__" sTooMany f fd) (T : Held K C "most") (mB : mg "MergeError" = some (.ref B)) (TB : BaseI K B) : FnOk P w K mg base CX0 1 f fd ["self", "most"] (spHold K C "most") := by
  refine F.ok scTooMany (fun vs H Q E h => ?_) (fun cdv A outer s H vs Q E hr h => ?_)
  · obtain ⟨a, y, rfl, _⟩ := h
    rfl
  · obtain ⟨a, y, rfl, ha, k⟩ := h
    refine ⟨_, pss_cons (ps_expr (pe_clsinit rfl mB TB (pa_cons (pv 0) (pa_cons pe_str pa_nil)))) (pss_one (ps_ost (pv 0) (pv 1))), ?_⟩
    exact ⟨_, rfl, a, C, _, rfl, (by show 1 ≤ 1000; decide), T.ox, ha, _, rfl, _, rfl, a, C, rfl, T.ox, T.no, .inl ⟨ha, k⟩⟩
abbrev sUnknownName : Stmt := inClass (topS 9) 0
theorem scUnknownName : FnScope ["self", "name"] ["self", "name"] (defScope sUnknownName) := ⟨rfl, rfl, rfl, by decide +kernel, rfl, by decide +kernel, by decide +kernel⟩
theorem ok_UnknownName {f C B : Addr} {fd : FuncData} (F : Fun K "__init__" "UnknownName.__init__" sUnknownName f fd) (T : Held K C "name") (mB : mg "MergeError" = some (.ref B)) (TB : BaseI K B) : FnOk P w K mg base CX0 1 f fd ["self", "name"] (spHold K C "name") := by
  refine F.ok scUnknownName (fun vs H Q E h => ?_) (fun cdv A outer s H vs Q E hr h => ?_)
  · obtain ⟨a, y, rfl, _⟩ := h
    rfl
  · obtain ⟨a, y, rfl, ha, k⟩ := h
    refine ⟨_, pss_cons (ps_expr (pe_clsinit rfl mB TB (pa_cons (pv 0) (pa_cons pe_str pa_nil)))) (pss_one (ps_ost (pv 0) (pv 1))), ?_⟩
    exact ⟨_, rfl, a, C, _, rfl, (by show 1 ≤ 1000; decide), T.ox, ha, _, rfl, _, rfl, a, C, rfl, T.ox, T.no, .inl ⟨ha, k⟩⟩
abbrev sMarked : Stmt := inClass (topS 11) 0
theorem scMarked : FnScope ["self", "path"] ["self", "path"] (defScope sMarked) := ⟨rfl, rfl, rfl, by decide +kernel, rfl, by decide +kernel, by decide +kernel⟩
theorem ok_Marked {f C B : Addr} {fd : FuncData} (F : Fun K "__init__" "Marked.__init__" sMarked f fd) (T : Held K C "path") (mB : mg "MergeError" = some (.ref B)) (TB : BaseI K B) : FnOk P w K mg base CX0 1 f fd ["self", "path"] (spHold K C "path") := by
  refine F.ok scMarked (fun vs H Q E h => ?_) (fun cdv A outer s H vs Q E hr h => ?_)
  · obtain ⟨a, y, rfl, _⟩ := h
    rfl
  · obtain ⟨a, y, rfl, ha, k⟩ := h
    refine ⟨_, pss_cons (ps_expr (pe_clsinit rfl mB TB (pa_cons (pv 0) (pa_cons pe_str pa_nil)))) (pss_one (ps_ost (pv 0) (pv 1))), ?_⟩
    exact ⟨_, rfl, a, C, _, rfl, (by show 1 ≤ 1000; decide), T.ox, ha, _, rfl, _, rfl, a, C, rfl, T.ox, T.no, .inl ⟨ha, k⟩⟩
abbrev sBadText : Stmt := inClass (topS 14) 0
theorem scBadText : FnScope ["self", "line"] ["self", "line"] (defScope sBadText) := ⟨rfl, rfl, rfl, by decide +kernel, rfl, by decide +kernel, by decide +kernel⟩
theorem ok_BadText {f C B : Addr} {fd : FuncData} (F : Fun K "__init__" "BadText.__init__" sBadText f fd) (T : Held K C "line") (mB : mg "MergeError" = some (.ref B)) (TB : BaseI K B) : FnOk P w K mg base CX0 1 f fd ["self", "line"] (spHold K C "line") := by
  refine F.ok scBadText (fun vs H Q E h => ?_) (fun cdv A outer s H vs Q E hr h => ?_)
  · obtain ⟨a, y, rfl, _⟩ := h
    rfl
  · obtain ⟨a, y, rfl, ha, k⟩ := h
    refine ⟨_, pss_cons (ps_expr (pe_clsinit rfl mB TB (pa_cons (pv 0) (pa_cons pe_str pa_nil)))) (pss_one (ps_ost (pv 0) (pv 1))), ?_⟩
    exact ⟨_, rfl, a, C, _, rfl, (by show 1 ≤ 1000; decide), T.ox, ha, _, rfl, _, rfl, a, C, rfl, T.ox, T.no, .inl ⟨ha, k⟩⟩
end
end Dr

set_option Elab.async false
set_option linter.all false
set_option maxRecDepth 100000
set_option maxHeartbeats 1000000
/-! Which of the classes an error is of. -/
namespace Dr
open PySem L2 Ex
abbrev sKinds : Stmt := topS 22
theorem scKinds : FnScope ["_law_error", "_law_found", "_law_word_here", "_law_is_so"] ["_law_error"] (defScope sKinds) := ⟨rfl, rfl, rfl, by decide +kernel, rfl, by decide +kernel, by decide +kernel⟩
theorem isExc_same {H H' : Hp} {a D : Addr} (s : Same H H') (h : IsExc H a D) : IsExc H' a D := by
  rcases h with h | ⟨d, fs, h1, h2⟩
  · exact .inl (s _ _ h)
  · exact .inr ⟨d, fs, s _ _ h1, s _ _ h2⟩
/-- pairs of a name and a truth -/
def PrL (H : Hp) (vs : List V) (l : List (Str × Bool)) : Prop := Paired (fun (v : V) (q : Str × Bool) => ∃ t, v = .ref t ∧ H t = some (.tup [.str q.1, .bl q.2])) vs l
theorem PrL.same {H H' : Hp} {vs : List V} {l : List (Str × Bool)} (s : Same H H') (h : PrL H vs l) : PrL H' vs l := Paired.mapP h fun _ _ ⟨t, e, z⟩ => ⟨t, e, s _ _ z⟩
theorem PrL.append {H : Hp} {vs us : List V} {l m : List (Str × Bool)} (h : PrL H vs l) (g : PrL H us m) : PrL H (vs ++ us) (l ++ m) := by
  induction h with
  | nil => exact g
  | cons a b ih => exact .cons a ih
theorem prL_at {H : Hp} : ∀ {vs : List V} {l : List (Str × Bool)} {i : Nat} {x : V}, PrL H vs l → vs[i]? = some x → ∃ n b, l[i]? = some (n, b) ∧ ∃ t, x = .ref t ∧ H t = some (.tup [.str n, .bl b])
  | _, _, _, _, .nil, h => by simp at h
  | _, _, 0, _, .cons a _, h => by simp at h; subst h; exact ⟨_, _, rfl, a⟩
  | _, _, i + 1, _, .cons _ b, h => prL_at (i := i) b (by simpa using h)
def told (l : List (Str × Bool)) : List Str := (l.filter (·.2)).map (·.1)
def kNames : List Str := ["value", "book", "title", "kind", "expression", "many", "layers", "name", "form", "mark", "index", "nothing", "text"]
structure KdT (mg : Str → Option Value) (CBadValue CBadBook CUnknownTitle CBadKind CBadExpression CTooMany CBadLayers CUnknownName CBadForm CMarked CBadIndex CNothingDone CBadText : Addr) : Prop where
  mBadValue : mg "BadValue" = some (.ref CBadValue)
  mBadBook : mg "BadBook" = some (.ref CBadBook)
  mUnknownTitle : mg "UnknownTitle" = some (.ref CUnknownTitle)
  mBadKind : mg "BadKind" = some (.ref CBadKind)
  mBadExpression : mg "BadExpression" = some (.ref CBadExpression)
  mTooMany : mg "TooMany" = some (.ref CTooMany)
  mBadLayers : mg "BadLayers" = some (.ref CBadLayers)
  mUnknownName : mg "UnknownName" = some (.ref CUnknownName)
  mBadForm : mg "BadForm" = some (.ref CBadForm)
  mMarked : mg "Marked" = some (.ref CMarked)
  mBadIndex : mg "BadIndex" = some (.ref CBadIndex)
  mNothingDone : mg "NothingDone" = some (.ref CNothingDone)
  mBadText : mg "BadText" = some (.ref CBadText)
def spKinds (K : PySem.W.Frag) (Cs : List Addr) : Sp := fun vs H Q _ => ∃ (e D : Addr) (bs : List Bool), vs = [.ref e] ∧ IsExc H e D ∧ ExcD K D ∧ bs.length = 13 ∧ (∀ (i : Nat) (C : Addr) (b : Bool), Cs[i]? = some C → bs[i]? = some b → PySem.W.kitOne K (.ref D) (.ref C) = some b) ∧
  ∀ p H', Same H H' → H p = none → H' p = some (.lst ((told (kNames.zip bs)).map V.str)) → Q (.ref p) H'
section
variable {P : Program} {w : World} {K : PySem.W.Frag} {mg : Str → Option Value} {base : Heap}
theorem ok_kinds {f CBadValue CBadBook CUnknownTitle CBadKind CBadExpression CTooMany CBadLayers CUnknownName CBadForm CMarked CBadIndex CNothingDone CBadText : Addr} {fd : FuncData} (F : Fun K "_law_kinds" "_law_kinds" sKinds f fd) (TI : mg "isinstance" = none) (M : KdT mg CBadValue CBadBook CUnknownTitle CBadKind CBadExpression CTooMany CBadLayers CUnknownName CBadForm CMarked CBadIndex CNothingDone CBadText) : FnOk P w K mg base CX0 1 f fd ["_law_error"] (spKinds K [CBadValue, CBadBook, CUnknownTitle, CBadKind, CBadExpression, CTooMany, CBadLayers, CUnknownName, CBadForm, CMarked, CBadIndex, CNothingDone, CBadText]) := by
  refine F.ok scKinds (fun vs H Q E h => ?_) (fun cdv A outer s H vs Q E hr h => ?_)
  · obtain ⟨e, D, bs, rfl, _⟩ := h
    rfl
  · obtain ⟨e, D, bs, rfl, he, TD, lb, kb, k⟩ := h
    obtain ⟨mBadValue, mBadBook, mUnknownTitle, mBadKind, mBadExpression, mTooMany, mBadLayers, mUnknownName, mBadForm, mMarked, mBadIndex, mNothingDone, mBadText⟩ := M
    have two : 2 ≤ sizeLine := by decide +kernel
    have lst2 : 2 ≤ sizeLine := by decide +kernel
    have lst1 : 1 ≤ sizeLine := by decide +kernel
    have le13 : ∀ n : Nat, n ≤ 13 → n ≤ sizeLine := fun n hn => Nat.le_trans hn (by decide +kernel)
    refine ⟨_, pss_cons (ps_set (i := 1) scKinds.nd rfl (.inl rfl) (pe_lst (pa_cons (pe_tup (pa_cons pe_str (pa_cons (pe_callB call_isV (by rfl) TI PyProof.Rows.boot_isinstance (pa_cons (pv 0) (pa_cons (pe_glob (v := .ref CBadValue) rfl mBadValue rfl) pa_nil))) pa_nil))) (pa_cons (pe_tup (pa_cons pe_str (pa_cons (pe_callB call_isV (by rfl) TI PyProof.Rows.boot_isinstance (pa_cons (pv 0) (pa_cons (pe_glob (v := .ref CBadBook) rfl mBadBook rfl) pa_nil))) pa_nil))) pa_nil))))
      (pss_cons (ps_set (i := 1) scKinds.nd rfl (.inl rfl) (pe_op op_cat (pv 1) (pe_lst (pa_cons (pe_tup (pa_cons pe_str (pa_cons (pe_callB call_isV (by rfl) TI PyProof.Rows.boot_isinstance (pa_cons (pv 0) (pa_cons (pe_glob (v := .ref CUnknownTitle) rfl mUnknownTitle rfl) pa_nil))) pa_nil))) (pa_cons (pe_tup (pa_cons pe_str (pa_cons (pe_callB call_isV (by rfl) TI PyProof.Rows.boot_isinstance (pa_cons (pv 0) (pa_cons (pe_glob (v := .ref CBadKind) rfl mBadKind rfl) pa_nil))) pa_nil))) pa_nil)))))
      (pss_cons (ps_set (i := 1) scKinds.nd rfl (.inl rfl) (pe_op op_cat (pv 1) (pe_lst (pa_cons (pe_tup (pa_cons pe_str (pa_cons (pe_callB call_isV (by rfl) TI PyProof.Rows.boot_isinstance (pa_cons (pv 0) (pa_cons (pe_glob (v := .ref CBadExpression) rfl mBadExpression rfl) pa_nil))) pa_nil))) (pa_cons (pe_tup (pa_cons pe_str (pa_cons (pe_callB call_isV (by rfl) TI PyProof.Rows.boot_isinstance (pa_cons (pv 0) (pa_cons (pe_glob (v := .ref CTooMany) rfl mTooMany rfl) pa_nil))) pa_nil))) pa_nil)))))
      (pss_cons (ps_set (i := 1) scKinds.nd rfl (.inl rfl) (pe_op op_cat (pv 1) (pe_lst (pa_cons (pe_tup (pa_cons pe_str (pa_cons (pe_callB call_isV (by rfl) TI PyProof.Rows.boot_isinstance (pa_cons (pv 0) (pa_cons (pe_glob (v := .ref CBadLayers) rfl mBadLayers rfl) pa_nil))) pa_nil))) (pa_cons (pe_tup (pa_cons pe_str (pa_cons (pe_callB call_isV (by rfl) TI PyProof.Rows.boot_isinstance (pa_cons (pv 0) (pa_cons (pe_glob (v := .ref CUnknownName) rfl mUnknownName rfl) pa_nil))) pa_nil))) pa_nil)))))
      (pss_cons (ps_set (i := 1) scKinds.nd rfl (.inl rfl) (pe_op op_cat (pv 1) (pe_lst (pa_cons (pe_tup (pa_cons pe_str (pa_cons (pe_callB call_isV (by rfl) TI PyProof.Rows.boot_isinstance (pa_cons (pv 0) (pa_cons (pe_glob (v := .ref CBadForm) rfl mBadForm rfl) pa_nil))) pa_nil))) (pa_cons (pe_tup (pa_cons pe_str (pa_cons (pe_callB call_isV (by rfl) TI PyProof.Rows.boot_isinstance (pa_cons (pv 0) (pa_cons (pe_glob (v := .ref CMarked) rfl mMarked rfl) pa_nil))) pa_nil))) pa_nil)))))
      (pss_cons (ps_set (i := 1) scKinds.nd rfl (.inl rfl) (pe_op op_cat (pv 1) (pe_lst (pa_cons (pe_tup (pa_cons pe_str (pa_cons (pe_callB call_isV (by rfl) TI PyProof.Rows.boot_isinstance (pa_cons (pv 0) (pa_cons (pe_glob (v := .ref CBadIndex) rfl mBadIndex rfl) pa_nil))) pa_nil))) (pa_cons (pe_tup (pa_cons pe_str (pa_cons (pe_callB call_isV (by rfl) TI PyProof.Rows.boot_isinstance (pa_cons (pv 0) (pa_cons (pe_glob (v := .ref CNothingDone) rfl mNothingDone rfl) pa_nil))) pa_nil))) pa_nil)))))
      (pss_cons (ps_set (i := 1) scKinds.nd rfl (.inl rfl) (pe_op op_cat (pv 1) (pe_lst (pa_cons (pe_tup (pa_cons pe_str (pa_cons (pe_callB call_isV (by rfl) TI PyProof.Rows.boot_isinstance (pa_cons (pv 0) (pa_cons (pe_glob (v := .ref CBadText) rfl mBadText rfl) pa_nil))) pa_nil))) pa_nil))))
      (pss_one (ps_ret (pe_lc (own := [("_law_word_here", 2), ("_law_is_so", 3)]) (g := gTup K 2 (gCons (gName 2) (gCons (gName 3) gNil))) (tt := fun σ H Q => tVar 3 σ H fun x H1 => ∃ k, TruV K x H1 k ∧ Q k H1) rfl scKinds.nd (pi_list (pv 1)) (blkOk_by (N := ["_law_error", "_law_found", "_law_word_here", "_law_is_so"]) (sc := defScope sKinds) (by decide +kernel))
        (fun _ _ _ _ _ => pg_tup rfl (pgs_cons (pg_name (i := 2) scKinds.nd rfl (.inl rfl)) (pgs_cons (pg_name (i := 3) scKinds.nd rfl (.inl rfl)) pgs_nil))) (fun _ _ _ _ _ => pts_one (pt_truth (pv 3) (fun _ => rfl))) (fun _ _ _ _ _ => pv 2)))))))))), ?_⟩
    obtain ⟨b0, b1, b2, b3, b4, b5, b6, b7, b8, b9, b10, b11, b12, rfl⟩ : ∃ b0 b1 b2 b3 b4 b5 b6 b7 b8 b9 b10 b11 b12, bs = [b0, b1, b2, b3, b4, b5, b6, b7, b8, b9, b10, b11, b12] := by
      match bs, lb with
      | [b0, b1, b2, b3, b4, b5, b6, b7, b8, b9, b10, b11, b12], _ => exact ⟨b0, b1, b2, b3, b4, b5, b6, b7, b8, b9, b10, b11, b12, rfl⟩
    refine ⟨_, rfl, e, D, .ref CBadValue, .ref CBadValue, b0, rfl, ?x0_0, (fun _ z => z), TD, kb 0 CBadValue b0 rfl rfl, two, fun t0 n0 => ⟨_, rfl, e, D, .ref CBadBook, .ref CBadBook, b1, rfl, ?x0_1, (fun _ z => z), TD, kb 1 CBadBook b1 rfl rfl, two, fun t1 n1 => ⟨lst2, fun q0 nq0 => ?y0⟩⟩⟩
    case x0_0 => exact isExc_same (Same.refl H) he
    case x0_1 => exact isExc_same ((Same.refl H).trans (same_upd n0)) he
    have s0 : Same H (upd (upd (upd H t0 (.tup [.str "value", .bl b0])) t1 (.tup [.str "book", .bl b1])) q0 (.lst [V.ref t0, V.ref t1])) := (Same.refl H).trans ((same_upd n0).trans ((same_upd n1).trans (same_upd nq0)))
    have h0 : (upd (upd (upd H t0 (.tup [.str "value", .bl b0])) t1 (.tup [.str "book", .bl b1])) q0 (.lst [V.ref t0, V.ref t1])) q0 = some (.lst [V.ref t0, V.ref t1]) := upd_same
    have P0 : PrL (upd (upd (upd H t0 (.tup [.str "value", .bl b0])) t1 (.tup [.str "book", .bl b1])) q0 (.lst [V.ref t0, V.ref t1])) [V.ref t0, V.ref t1] ([("value", b0), ("book", b1)] : List (Str × Bool)) := .cons ⟨t0, rfl, ((same_upd n1).trans (same_upd nq0)) _ _ upd_same⟩ (.cons ⟨t1, rfl, (same_upd nq0) _ _ upd_same⟩ (.nil))
    generalize (upd (upd (upd H t0 (.tup [.str "value", .bl b0])) t1 (.tup [.str "book", .bl b1])) q0 (.lst [V.ref t0, V.ref t1])) = G0 at s0 h0 P0 ⊢
    refine ⟨_, rfl, _, rfl, e, D, .ref CUnknownTitle, .ref CUnknownTitle, b2, rfl, ?x1_0, (fun _ z => z), TD, kb 2 CUnknownTitle b2 rfl rfl, two, fun t2 n2 => ⟨_, rfl, e, D, .ref CBadKind, .ref CBadKind, b3, rfl, ?x1_1, (fun _ z => z), TD, kb 3 CBadKind b3 rfl rfl, two, fun t3 n3 => ⟨lst2, fun q1 nq1 => ⟨q0, q1, [V.ref t0, V.ref t1], [V.ref t2, V.ref t3], rfl, rfl, ?w1, upd_same, ?l1, fun p1 np1 => ?y1⟩⟩⟩⟩
    case x1_0 => exact isExc_same s0 he
    case x1_1 => exact isExc_same (s0.trans (same_upd n2)) he
    case w1 => exact ((same_upd n2).trans ((same_upd n3).trans (same_upd nq1))) _ _ h0
    case l1 => simp only [List.length_append, List.length_cons, List.length_nil]; exact le13 _ (by decide)
    have s1 : Same H (upd (upd (upd (upd G0 t2 (.tup [.str "title", .bl b2])) t3 (.tup [.str "kind", .bl b3])) q1 (.lst [V.ref t2, V.ref t3])) p1 (.lst ([V.ref t0, V.ref t1] ++ [V.ref t2, V.ref t3]))) := s0.trans ((same_upd n2).trans ((same_upd n3).trans ((same_upd nq1).trans (same_upd np1))))
    have h1 : (upd (upd (upd (upd G0 t2 (.tup [.str "title", .bl b2])) t3 (.tup [.str "kind", .bl b3])) q1 (.lst [V.ref t2, V.ref t3])) p1 (.lst ([V.ref t0, V.ref t1] ++ [V.ref t2, V.ref t3]))) p1 = some (.lst ([V.ref t0, V.ref t1] ++ [V.ref t2, V.ref t3])) := upd_same
    have P1 : PrL (upd (upd (upd (upd G0 t2 (.tup [.str "title", .bl b2])) t3 (.tup [.str "kind", .bl b3])) q1 (.lst [V.ref t2, V.ref t3])) p1 (.lst ([V.ref t0, V.ref t1] ++ [V.ref t2, V.ref t3]))) ([V.ref t0, V.ref t1] ++ [V.ref t2, V.ref t3]) (([("value", b0), ("book", b1)] : List (Str × Bool)) ++ ([("title", b2), ("kind", b3)] : List (Str × Bool))) := (P0.same ((same_upd n2).trans ((same_upd n3).trans ((same_upd nq1).trans (same_upd np1))))).append (.cons ⟨t2, rfl, ((same_upd n3).trans ((same_upd nq1).trans (same_upd np1))) _ _ upd_same⟩ (.cons ⟨t3, rfl, ((same_upd nq1).trans (same_upd np1)) _ _ upd_same⟩ (.nil)))
    generalize (upd (upd (upd (upd G0 t2 (.tup [.str "title", .bl b2])) t3 (.tup [.str "kind", .bl b3])) q1 (.lst [V.ref t2, V.ref t3])) p1 (.lst ([V.ref t0, V.ref t1] ++ [V.ref t2, V.ref t3]))) = G1 at s1 h1 P1 ⊢
    refine ⟨_, rfl, _, rfl, e, D, .ref CBadExpression, .ref CBadExpression, b4, rfl, ?x2_0, (fun _ z => z), TD, kb 4 CBadExpression b4 rfl rfl, two, fun t4 n4 => ⟨_, rfl, e, D, .ref CTooMany, .ref CTooMany, b5, rfl, ?x2_1, (fun _ z => z), TD, kb 5 CTooMany b5 rfl rfl, two, fun t5 n5 => ⟨lst2, fun q2 nq2 => ⟨p1, q2, ([V.ref t0, V.ref t1] ++ [V.ref t2, V.ref t3]), [V.ref t4, V.ref t5], rfl, rfl, ?w2, upd_same, ?l2, fun p2 np2 => ?y2⟩⟩⟩⟩
    case x2_0 => exact isExc_same s1 he
    case x2_1 => exact isExc_same (s1.trans (same_upd n4)) he
    case w2 => exact ((same_upd n4).trans ((same_upd n5).trans (same_upd nq2))) _ _ h1
    case l2 => simp only [List.length_append, List.length_cons, List.length_nil]; exact le13 _ (by decide)
    have s2 : Same H (upd (upd (upd (upd G1 t4 (.tup [.str "expression", .bl b4])) t5 (.tup [.str "many", .bl b5])) q2 (.lst [V.ref t4, V.ref t5])) p2 (.lst (([V.ref t0, V.ref t1] ++ [V.ref t2, V.ref t3]) ++ [V.ref t4, V.ref t5]))) := s1.trans ((same_upd n4).trans ((same_upd n5).trans ((same_upd nq2).trans (same_upd np2))))
    have h2 : (upd (upd (upd (upd G1 t4 (.tup [.str "expression", .bl b4])) t5 (.tup [.str "many", .bl b5])) q2 (.lst [V.ref t4, V.ref t5])) p2 (.lst (([V.ref t0, V.ref t1] ++ [V.ref t2, V.ref t3]) ++ [V.ref t4, V.ref t5]))) p2 = some (.lst (([V.ref t0, V.ref t1] ++ [V.ref t2, V.ref t3]) ++ [V.ref t4, V.ref t5])) := upd_same
    have P2 : PrL (upd (upd (upd (upd G1 t4 (.tup [.str "expression", .bl b4])) t5 (.tup [.str "many", .bl b5])) q2 (.lst [V.ref t4, V.ref t5])) p2 (.lst (([V.ref t0, V.ref t1] ++ [V.ref t2, V.ref t3]) ++ [V.ref t4, V.ref t5]))) (([V.ref t0, V.ref t1] ++ [V.ref t2, V.ref t3]) ++ [V.ref t4, V.ref t5]) ((([("value", b0), ("book", b1)] : List (Str × Bool)) ++ ([("title", b2), ("kind", b3)] : List (Str × Bool))) ++ ([("expression", b4), ("many", b5)] : List (Str × Bool))) := (P1.same ((same_upd n4).trans ((same_upd n5).trans ((same_upd nq2).trans (same_upd np2))))).append (.cons ⟨t4, rfl, ((same_upd n5).trans ((same_upd nq2).trans (same_upd np2))) _ _ upd_same⟩ (.cons ⟨t5, rfl, ((same_upd nq2).trans (same_upd np2)) _ _ upd_same⟩ (.nil)))
    generalize (upd (upd (upd (upd G1 t4 (.tup [.str "expression", .bl b4])) t5 (.tup [.str "many", .bl b5])) q2 (.lst [V.ref t4, V.ref t5])) p2 (.lst (([V.ref t0, V.ref t1] ++ [V.ref t2, V.ref t3]) ++ [V.ref t4, V.ref t5]))) = G2 at s2 h2 P2 ⊢
    refine ⟨_, rfl, _, rfl, e, D, .ref CBadLayers, .ref CBadLayers, b6, rfl, ?x3_0, (fun _ z => z), TD, kb 6 CBadLayers b6 rfl rfl, two, fun t6 n6 => ⟨_, rfl, e, D, .ref CUnknownName, .ref CUnknownName, b7, rfl, ?x3_1, (fun _ z => z), TD, kb 7 CUnknownName b7 rfl rfl, two, fun t7 n7 => ⟨lst2, fun q3 nq3 => ⟨p2, q3, (([V.ref t0, V.ref t1] ++ [V.ref t2, V.ref t3]) ++ [V.ref t4, V.ref t5]), [V.ref t6, V.ref t7], rfl, rfl, ?w3, upd_same, ?l3, fun p3 np3 => ?y3⟩⟩⟩⟩
    case x3_0 => exact isExc_same s2 he
    case x3_1 => exact isExc_same (s2.trans (same_upd n6)) he
    case w3 => exact ((same_upd n6).trans ((same_upd n7).trans (same_upd nq3))) _ _ h2
    case l3 => simp only [List.length_append, List.length_cons, List.length_nil]; exact le13 _ (by decide)
    have s3 : Same H (upd (upd (upd (upd G2 t6 (.tup [.str "layers", .bl b6])) t7 (.tup [.str "name", .bl b7])) q3 (.lst [V.ref t6, V.ref t7])) p3 (.lst ((([V.ref t0, V.ref t1] ++ [V.ref t2, V.ref t3]) ++ [V.ref t4, V.ref t5]) ++ [V.ref t6, V.ref t7]))) := s2.trans ((same_upd n6).trans ((same_upd n7).trans ((same_upd nq3).trans (same_upd np3))))
    have h3 : (upd (upd (upd (upd G2 t6 (.tup [.str "layers", .bl b6])) t7 (.tup [.str "name", .bl b7])) q3 (.lst [V.ref t6, V.ref t7])) p3 (.lst ((([V.ref t0, V.ref t1] ++ [V.ref t2, V.ref t3]) ++ [V.ref t4, V.ref t5]) ++ [V.ref t6, V.ref t7]))) p3 = some (.lst ((([V.ref t0, V.ref t1] ++ [V.ref t2, V.ref t3]) ++ [V.ref t4, V.ref t5]) ++ [V.ref t6, V.ref t7])) := upd_same
    have P3 : PrL (upd (upd (upd (upd G2 t6 (.tup [.str "layers", .bl b6])) t7 (.tup [.str "name", .bl b7])) q3 (.lst [V.ref t6, V.ref t7])) p3 (.lst ((([V.ref t0, V.ref t1] ++ [V.ref t2, V.ref t3]) ++ [V.ref t4, V.ref t5]) ++ [V.ref t6, V.ref t7]))) ((([V.ref t0, V.ref t1] ++ [V.ref t2, V.ref t3]) ++ [V.ref t4, V.ref t5]) ++ [V.ref t6, V.ref t7]) (((([("value", b0), ("book", b1)] : List (Str × Bool)) ++ ([("title", b2), ("kind", b3)] : List (Str × Bool))) ++ ([("expression", b4), ("many", b5)] : List (Str × Bool))) ++ ([("layers", b6), ("name", b7)] : List (Str × Bool))) := (P2.same ((same_upd n6).trans ((same_upd n7).trans ((same_upd nq3).trans (same_upd np3))))).append (.cons ⟨t6, rfl, ((same_upd n7).trans ((same_upd nq3).trans (same_upd np3))) _ _ upd_same⟩ (.cons ⟨t7, rfl, ((same_upd nq3).trans (same_upd np3)) _ _ upd_same⟩ (.nil)))
    generalize (upd (upd (upd (upd G2 t6 (.tup [.str "layers", .bl b6])) t7 (.tup [.str "name", .bl b7])) q3 (.lst [V.ref t6, V.ref t7])) p3 (.lst ((([V.ref t0, V.ref t1] ++ [V.ref t2, V.ref t3]) ++ [V.ref t4, V.ref t5]) ++ [V.ref t6, V.ref t7]))) = G3 at s3 h3 P3 ⊢
    refine ⟨_, rfl, _, rfl, e, D, .ref CBadForm, .ref CBadForm, b8, rfl, ?x4_0, (fun _ z => z), TD, kb 8 CBadForm b8 rfl rfl, two, fun t8 n8 => ⟨_, rfl, e, D, .ref CMarked, .ref CMarked, b9, rfl, ?x4_1, (fun _ z => z), TD, kb 9 CMarked b9 rfl rfl, two, fun t9 n9 => ⟨lst2, fun q4 nq4 => ⟨p3, q4, ((([V.ref t0, V.ref t1] ++ [V.ref t2, V.ref t3]) ++ [V.ref t4, V.ref t5]) ++ [V.ref t6, V.ref t7]), [V.ref t8, V.ref t9], rfl, rfl, ?w4, upd_same, ?l4, fun p4 np4 => ?y4⟩⟩⟩⟩
    case x4_0 => exact isExc_same s3 he
    case x4_1 => exact isExc_same (s3.trans (same_upd n8)) he
    case w4 => exact ((same_upd n8).trans ((same_upd n9).trans (same_upd nq4))) _ _ h3
    case l4 => simp only [List.length_append, List.length_cons, List.length_nil]; exact le13 _ (by decide)
    have s4 : Same H (upd (upd (upd (upd G3 t8 (.tup [.str "form", .bl b8])) t9 (.tup [.str "mark", .bl b9])) q4 (.lst [V.ref t8, V.ref t9])) p4 (.lst (((([V.ref t0, V.ref t1] ++ [V.ref t2, V.ref t3]) ++ [V.ref t4, V.ref t5]) ++ [V.ref t6, V.ref t7]) ++ [V.ref t8, V.ref t9]))) := s3.trans ((same_upd n8).trans ((same_upd n9).trans ((same_upd nq4).trans (same_upd np4))))
    have h4 : (upd (upd (upd (upd G3 t8 (.tup [.str "form", .bl b8])) t9 (.tup [.str "mark", .bl b9])) q4 (.lst [V.ref t8, V.ref t9])) p4 (.lst (((([V.ref t0, V.ref t1] ++ [V.ref t2, V.ref t3]) ++ [V.ref t4, V.ref t5]) ++ [V.ref t6, V.ref t7]) ++ [V.ref t8, V.ref t9]))) p4 = some (.lst (((([V.ref t0, V.ref t1] ++ [V.ref t2, V.ref t3]) ++ [V.ref t4, V.ref t5]) ++ [V.ref t6, V.ref t7]) ++ [V.ref t8, V.ref t9])) := upd_same
    have P4 : PrL (upd (upd (upd (upd G3 t8 (.tup [.str "form", .bl b8])) t9 (.tup [.str "mark", .bl b9])) q4 (.lst [V.ref t8, V.ref t9])) p4 (.lst (((([V.ref t0, V.ref t1] ++ [V.ref t2, V.ref t3]) ++ [V.ref t4, V.ref t5]) ++ [V.ref t6, V.ref t7]) ++ [V.ref t8, V.ref t9]))) (((([V.ref t0, V.ref t1] ++ [V.ref t2, V.ref t3]) ++ [V.ref t4, V.ref t5]) ++ [V.ref t6, V.ref t7]) ++ [V.ref t8, V.ref t9]) ((((([("value", b0), ("book", b1)] : List (Str × Bool)) ++ ([("title", b2), ("kind", b3)] : List (Str × Bool))) ++ ([("expression", b4), ("many", b5)] : List (Str × Bool))) ++ ([("layers", b6), ("name", b7)] : List (Str × Bool))) ++ ([("form", b8), ("mark", b9)] : List (Str × Bool))) := (P3.same ((same_upd n8).trans ((same_upd n9).trans ((same_upd nq4).trans (same_upd np4))))).append (.cons ⟨t8, rfl, ((same_upd n9).trans ((same_upd nq4).trans (same_upd np4))) _ _ upd_same⟩ (.cons ⟨t9, rfl, ((same_upd nq4).trans (same_upd np4)) _ _ upd_same⟩ (.nil)))
    generalize (upd (upd (upd (upd G3 t8 (.tup [.str "form", .bl b8])) t9 (.tup [.str "mark", .bl b9])) q4 (.lst [V.ref t8, V.ref t9])) p4 (.lst (((([V.ref t0, V.ref t1] ++ [V.ref t2, V.ref t3]) ++ [V.ref t4, V.ref t5]) ++ [V.ref t6, V.ref t7]) ++ [V.ref t8, V.ref t9]))) = G4 at s4 h4 P4 ⊢
    refine ⟨_, rfl, _, rfl, e, D, .ref CBadIndex, .ref CBadIndex, b10, rfl, ?x5_0, (fun _ z => z), TD, kb 10 CBadIndex b10 rfl rfl, two, fun t10 n10 => ⟨_, rfl, e, D, .ref CNothingDone, .ref CNothingDone, b11, rfl, ?x5_1, (fun _ z => z), TD, kb 11 CNothingDone b11 rfl rfl, two, fun t11 n11 => ⟨lst2, fun q5 nq5 => ⟨p4, q5, (((([V.ref t0, V.ref t1] ++ [V.ref t2, V.ref t3]) ++ [V.ref t4, V.ref t5]) ++ [V.ref t6, V.ref t7]) ++ [V.ref t8, V.ref t9]), [V.ref t10, V.ref t11], rfl, rfl, ?w5, upd_same, ?l5, fun p5 np5 => ?y5⟩⟩⟩⟩
    case x5_0 => exact isExc_same s4 he
    case x5_1 => exact isExc_same (s4.trans (same_upd n10)) he
    case w5 => exact ((same_upd n10).trans ((same_upd n11).trans (same_upd nq5))) _ _ h4
    case l5 => simp only [List.length_append, List.length_cons, List.length_nil]; exact le13 _ (by decide)
    have s5 : Same H (upd (upd (upd (upd G4 t10 (.tup [.str "index", .bl b10])) t11 (.tup [.str "nothing", .bl b11])) q5 (.lst [V.ref t10, V.ref t11])) p5 (.lst ((((([V.ref t0, V.ref t1] ++ [V.ref t2, V.ref t3]) ++ [V.ref t4, V.ref t5]) ++ [V.ref t6, V.ref t7]) ++ [V.ref t8, V.ref t9]) ++ [V.ref t10, V.ref t11]))) := s4.trans ((same_upd n10).trans ((same_upd n11).trans ((same_upd nq5).trans (same_upd np5))))
    have h5 : (upd (upd (upd (upd G4 t10 (.tup [.str "index", .bl b10])) t11 (.tup [.str "nothing", .bl b11])) q5 (.lst [V.ref t10, V.ref t11])) p5 (.lst ((((([V.ref t0, V.ref t1] ++ [V.ref t2, V.ref t3]) ++ [V.ref t4, V.ref t5]) ++ [V.ref t6, V.ref t7]) ++ [V.ref t8, V.ref t9]) ++ [V.ref t10, V.ref t11]))) p5 = some (.lst ((((([V.ref t0, V.ref t1] ++ [V.ref t2, V.ref t3]) ++ [V.ref t4, V.ref t5]) ++ [V.ref t6, V.ref t7]) ++ [V.ref t8, V.ref t9]) ++ [V.ref t10, V.ref t11])) := upd_same
    have P5 : PrL (upd (upd (upd (upd G4 t10 (.tup [.str "index", .bl b10])) t11 (.tup [.str "nothing", .bl b11])) q5 (.lst [V.ref t10, V.ref t11])) p5 (.lst ((((([V.ref t0, V.ref t1] ++ [V.ref t2, V.ref t3]) ++ [V.ref t4, V.ref t5]) ++ [V.ref t6, V.ref t7]) ++ [V.ref t8, V.ref t9]) ++ [V.ref t10, V.ref t11]))) ((((([V.ref t0, V.ref t1] ++ [V.ref t2, V.ref t3]) ++ [V.ref t4, V.ref t5]) ++ [V.ref t6, V.ref t7]) ++ [V.ref t8, V.ref t9]) ++ [V.ref t10, V.ref t11]) (((((([("value", b0), ("book", b1)] : List (Str × Bool)) ++ ([("title", b2), ("kind", b3)] : List (Str × Bool))) ++ ([("expression", b4), ("many", b5)] : List (Str × Bool))) ++ ([("layers", b6), ("name", b7)] : List (Str × Bool))) ++ ([("form", b8), ("mark", b9)] : List (Str × Bool))) ++ ([("index", b10), ("nothing", b11)] : List (Str × Bool))) := (P4.same ((same_upd n10).trans ((same_upd n11).trans ((same_upd nq5).trans (same_upd np5))))).append (.cons ⟨t10, rfl, ((same_upd n11).trans ((same_upd nq5).trans (same_upd np5))) _ _ upd_same⟩ (.cons ⟨t11, rfl, ((same_upd nq5).trans (same_upd np5)) _ _ upd_same⟩ (.nil)))
    generalize (upd (upd (upd (upd G4 t10 (.tup [.str "index", .bl b10])) t11 (.tup [.str "nothing", .bl b11])) q5 (.lst [V.ref t10, V.ref t11])) p5 (.lst ((((([V.ref t0, V.ref t1] ++ [V.ref t2, V.ref t3]) ++ [V.ref t4, V.ref t5]) ++ [V.ref t6, V.ref t7]) ++ [V.ref t8, V.ref t9]) ++ [V.ref t10, V.ref t11]))) = G5 at s5 h5 P5 ⊢
    refine ⟨_, rfl, _, rfl, e, D, .ref CBadText, .ref CBadText, b12, rfl, ?x6_0, (fun _ z => z), TD, kb 12 CBadText b12 rfl rfl, two, fun t12 n12 => ⟨lst1, fun q6 nq6 => ⟨p5, q6, ((((([V.ref t0, V.ref t1] ++ [V.ref t2, V.ref t3]) ++ [V.ref t4, V.ref t5]) ++ [V.ref t6, V.ref t7]) ++ [V.ref t8, V.ref t9]) ++ [V.ref t10, V.ref t11]), [V.ref t12], rfl, rfl, ?w6, upd_same, ?l6, fun p6 np6 => ?y6⟩⟩⟩
    case x6_0 => exact isExc_same s5 he
    case w6 => exact ((same_upd n12).trans (same_upd nq6)) _ _ h5
    case l6 => simp only [List.length_append, List.length_cons, List.length_nil]; exact le13 _ (by decide)
    have s6 : Same H (upd (upd (upd G5 t12 (.tup [.str "text", .bl b12])) q6 (.lst [V.ref t12])) p6 (.lst (((((([V.ref t0, V.ref t1] ++ [V.ref t2, V.ref t3]) ++ [V.ref t4, V.ref t5]) ++ [V.ref t6, V.ref t7]) ++ [V.ref t8, V.ref t9]) ++ [V.ref t10, V.ref t11]) ++ [V.ref t12]))) := s5.trans ((same_upd n12).trans ((same_upd nq6).trans (same_upd np6)))
    have h6 : (upd (upd (upd G5 t12 (.tup [.str "text", .bl b12])) q6 (.lst [V.ref t12])) p6 (.lst (((((([V.ref t0, V.ref t1] ++ [V.ref t2, V.ref t3]) ++ [V.ref t4, V.ref t5]) ++ [V.ref t6, V.ref t7]) ++ [V.ref t8, V.ref t9]) ++ [V.ref t10, V.ref t11]) ++ [V.ref t12]))) p6 = some (.lst (((((([V.ref t0, V.ref t1] ++ [V.ref t2, V.ref t3]) ++ [V.ref t4, V.ref t5]) ++ [V.ref t6, V.ref t7]) ++ [V.ref t8, V.ref t9]) ++ [V.ref t10, V.ref t11]) ++ [V.ref t12])) := upd_same
    have P6 : PrL (upd (upd (upd G5 t12 (.tup [.str "text", .bl b12])) q6 (.lst [V.ref t12])) p6 (.lst (((((([V.ref t0, V.ref t1] ++ [V.ref t2, V.ref t3]) ++ [V.ref t4, V.ref t5]) ++ [V.ref t6, V.ref t7]) ++ [V.ref t8, V.ref t9]) ++ [V.ref t10, V.ref t11]) ++ [V.ref t12]))) (((((([V.ref t0, V.ref t1] ++ [V.ref t2, V.ref t3]) ++ [V.ref t4, V.ref t5]) ++ [V.ref t6, V.ref t7]) ++ [V.ref t8, V.ref t9]) ++ [V.ref t10, V.ref t11]) ++ [V.ref t12]) ((((((([("value", b0), ("book", b1)] : List (Str × Bool)) ++ ([("title", b2), ("kind", b3)] : List (Str × Bool))) ++ ([("expression", b4), ("many", b5)] : List (Str × Bool))) ++ ([("layers", b6), ("name", b7)] : List (Str × Bool))) ++ ([("form", b8), ("mark", b9)] : List (Str × Bool))) ++ ([("index", b10), ("nothing", b11)] : List (Str × Bool))) ++ ([("text", b12)] : List (Str × Bool))) := (P5.same ((same_upd n12).trans ((same_upd nq6).trans (same_upd np6)))).append (.cons ⟨t12, rfl, ((same_upd nq6).trans (same_upd np6)) _ _ upd_same⟩ (.nil))
    generalize (upd (upd (upd G5 t12 (.tup [.str "text", .bl b12])) q6 (.lst [V.ref t12])) p6 (.lst (((((([V.ref t0, V.ref t1] ++ [V.ref t2, V.ref t3]) ++ [V.ref t4, V.ref t5]) ++ [V.ref t6, V.ref t7]) ++ [V.ref t8, V.ref t9]) ++ [V.ref t10, V.ref t11]) ++ [V.ref t12]))) = G6 at s6 h6 P6 ⊢
    have hz : PrL G6 (((((([V.ref t0, V.ref t1] ++ [V.ref t2, V.ref t3]) ++ [V.ref t4, V.ref t5]) ++ [V.ref t6, V.ref t7]) ++ [V.ref t8, V.ref t9]) ++ [V.ref t10, V.ref t11]) ++ [V.ref t12]) (kNames.zip [b0, b1, b2, b3, b4, b5, b6, b7, b8, b9, b10, b11, b12]) := P6
    generalize (((((([V.ref t0, V.ref t1] ++ [V.ref t2, V.ref t3]) ++ [V.ref t4, V.ref t5]) ++ [V.ref t6, V.ref t7]) ++ [V.ref t8, V.ref t9]) ++ [V.ref t10, V.ref t11]) ++ [V.ref t12]) = vz at h6 hz ⊢
    have hl : (kNames.zip [b0, b1, b2, b3, b4, b5, b6, b7, b8, b9, b10, b11, b12]).length = 13 := rfl
    generalize kNames.zip [b0, b1, b2, b3, b4, b5, b6, b7, b8, b9, b10, b11, b12] = lz at hz k hl
    have lz13 : lz.length ≤ 13 := by
      have := hl
      omega
    refine ⟨_, rfl, p6, rfl, ⟨_, .inl (.inl h6)⟩, fun D' nD => ?_⟩
    have sD : ∀ o, Same G6 (upd G6 D' o) := fun o => same_upd nD
    refine lc_it (g := gTup K 2 (gCons (gName 2) (gCons (gName 3) gNil))) (tt := fun σ H Q => tVar 3 σ H fun x H1 => ∃ k, TruV K x H1 k ∧ Q k H1) (te := tVar 2) (vs := [2, 3]) (Qd := fun H => Q (.ref D') H) (walk_list (K := K) (a := p6) (xs := vz)) (fun i Hc => Same G6 Hc ∧ Hc D' = some (.lst ((told (lz.take i)).map V.str)))
        ⟨sD _, upd_same⟩ (fun i Hc _ ⟨sc, _⟩ => .inl (.inl (sc _ _ h6))) ?_ ?_
    · rintro i x H4 H5 hi ⟨sc, hD⟩ ⟨rfl, hx⟩
      obtain ⟨n, b, hl1, t, rfl, ht⟩ := prL_at hz hx
      have e1 : lz.take (i + 1) = lz.take i ++ [(n, b)] := by
        rw [List.take_succ, hl1]
        rfl
      have le1 : ((told (lz.take i)).map V.str).length < sizeLine := by
        rw [List.length_map]
        unfold told
        rw [List.length_map]
        exact small1000 (Nat.le_trans (List.length_filter_le _ _) (by rw [List.length_take]; omega))
      refine ⟨t, _, rfl, .inl (.inl (sc _ _ ht)), rfl, _, _, rfl, _, _, rfl, rfl, rfl, _, rfl, b, rfl, ite2 (fun hb => ?_) (fun hb => ?_)⟩
      · refine ⟨_, rfl, _, hD, le1, fun c o e => ?_, ?_⟩
        · rw [upd_ne (ne_of_none e nD)]
          exact sc _ _ e
        · rw [upd_same, e1, hb]
          simp [told]
      · refine ⟨sc, ?_⟩
        rw [hD, e1]
        simp [told, Bool.eq_false_iff.mpr hb]
    · rintro Hc ⟨sc, hD⟩
      have e2 : lz.take vz.length = lz := by
        rw [List.take_of_length_le]
        rw [Paired.length hz]
        exact Nat.le_refl _
      rw [e2] at hD
      exact k D' Hc (s6.trans sc) (s6.free nD) hD
end
end Dr

set_option Elab.async false
set_option linter.all false
set_option maxRecDepth 100000
set_option maxHeartbeats 1000000
/-! A value of any kind. -/
namespace Dr
open PySem PySem.Spec PyProof.Rows L2 Gd
abbrev sAny : Stmt := topS 23
theorem scAny : FnScope ["_law_state", "_law_word_here", "_law_number", "_law_some"] ["_law_state"] (defScope sAny) := ⟨rfl, rfl, rfl, by decide +kernel, rfl, by decide +kernel, by decide +kernel⟩
structure Wee (d : PyData) : Prop where
  sh : d.showable = true
  lf : d.leavesShort 60 = true
  dp : d.depth ≤ 3
  wt : d.weight ≤ 1000
theorem wd_str {x : Str} (h : wdB x = true) : x.cps.size ≤ 8 ∧ (x.cps.toList.all fun c => decide (c < 16 ^ 8)) = true := by
  unfold wdB at h
  simp only [Bool.and_eq_true, decide_eq_true_eq, List.all_eq_true] at h
  refine ⟨by simpa using h.1.2, ?_⟩
  rw [List.all_eq_true]
  intro c hc
  have := h.2 c hc
  exact decide_eq_true (Nat.lt_of_le_of_lt this.2 (by decide))
theorem int_wee {i : Int} (h : i.natAbs < 10 ^ 41) : decide (i.natAbs.log2 < 1920) = true ∧ decide ((PyData.shown (.int i)).length ≤ 60) = true ∧ (PyData.int i).weight ≤ 200 := by
  have h1 : i.natAbs.log2 < 137 := by
    by_cases e : i.natAbs = 0
    · rw [e]; decide
    · exact (Nat.log2_lt e).mpr (Nat.lt_trans h (by decide))
  refine ⟨decide_eq_true (by omega), decide_eq_true ?_, ?_⟩
  · have z := int_text_length_le10 (k := 41) (a := i) (by decide) h
    have e : (PyData.shown (.int i)).length ≤ 42 := by
      show (Str.ofString (toString i)).length ≤ 42
      rw [PySem.ofString_length]
      exact z
    omega
  · show (if i == 0 then 0 else i.natAbs.log2 + 1) ≤ 200
    split <;> omega
def spAny (K : PySem.W.Frag) : Sp := fun vs H Q _ => ∃ (a L C : Addr) (t : Int), vs = [.ref a] ∧ StA H a L C t ∧ t < 2 ^ 38 ∧
  ∀ v d H', Td K (fun b => b ≠ a ∧ b ≠ L) H' v d → Wee d → Keep a L H H' → Q v H'
theorem td_at {K : PySem.W.Frag} {ok : Addr → Prop} {H : Hp} {v : V} : ∀ {vs : List V} {ds : List PyData}, TdL K ok H vs ds → v ∈ vs → ∃ d ∈ ds, Td K ok H v d
  | _, _, .nil, h => by cases h
  | _, _, .cons a b, h => by
    rcases List.mem_cons.mp h with e | e
    · rw [e]; exact ⟨_, List.mem_cons_self, a⟩
    · obtain ⟨d, hd, q⟩ := td_at b e
      exact ⟨d, List.mem_cons_of_mem _ hd, q⟩
theorem same_over {H H' : Hp} {d : Addr} {o1 o2 : HO} (n : H d = none) (s : Same (upd H d o1) H') : Same H (upd H' d o2) := fun b o e => by
  have nb := ne_of_none e n
  rw [upd_ne nb]
  exact s b o (by rw [upd_ne nb]; exact e)
theorem wee_any {x : Str} {n : Int} (hx : wdB x = true) (h0 : -20 ≤ n) (h1 : n < 20) : ∀ d ∈ ([.str x, .tuple [.str x], .int n, .int (10 ^ 39 + n), .none, .bool true, .str "", .list [.str x], .dict [], .tuple [], .dict [(.str x, .tuple [.int n])], .tuple [.str x, .str "a"]] : List PyData), Wee d := by
  obtain ⟨s1, s2⟩ := wd_str hx
  obtain ⟨i1, i2, i3⟩ := int_wee (i := n) (Nat.lt_of_le_of_lt (show n.natAbs ≤ 20 by omega) (by decide))
  obtain ⟨j1, j2, j3⟩ := int_wee (i := 10 ^ 39 + n) (by omega)
  have i3' : (if n == 0 then 0 else n.natAbs.log2 + 1) ≤ 200 := i3
  have a1 : (("" : Str).cps.toList.all fun c => decide (c < 16 ^ 8)) = true := by decide +kernel
  have a2 : (("a" : Str).cps.toList.all fun c => decide (c < 16 ^ 8)) = true := by decide +kernel
  have a3 : ("" : Str).cps.size = 0 := by decide +kernel
  have a4 : ("a" : Str).cps.size = 1 := by decide +kernel
  intro d hd
  simp only [List.mem_cons, List.not_mem_nil, or_false] at hd
  rcases hd with rfl | rfl | rfl | rfl | rfl | rfl | rfl | rfl | rfl | rfl | rfl | rfl
  all_goals constructor
  all_goals simp only [PyData.showable, PyData.showableAll, PyData.showableKv, PyData.leavesShort, PyData.leavesShortAll, PyData.leavesShortKv, PyData.depth, PyData.depthAll, PyData.depthKv, PyData.weight, PyData.weightAll, PyData.weightKv, s2, a1, a2, i1, i2, j1, j2, Bool.and_true, Bool.and_self]
  all_goals first | done | omega | exact Nat.le_trans j3 (by decide)
section
variable {P : Program} {w : World} {K : PySem.W.Frag} {mg : Str → Option Value} {base : Heap}
theorem ok_any {f fw fp ft fm : Addr} {fd fdw fdp fdt fdm : FuncData} (F : Fun K "_law_any" "_law_any" sAny f fd) (T : Tx mg) (W : At K mg "_law_word" sWord ["_law_state"] fw fdw) (PK : At K mg "_law_pick" sPick ["_law_state", "_law_some"] fp fdp)
    (TK : At K mg "_law_take" sTake ["_law_state", "_law_size"] ft fdt) (M : At K mg "_law_mixed" sMixed ["_law_state"] fm fdm) : FnOk P w K mg base CX0 4 f fd ["_law_state"] (spAny K) := by
  have GT : FnOk P w K mg base CX0 2 ft fdt ["_law_state", "_law_size"] spTake := ok_take TK.fn T M
  have GW : FnOk P w K mg base CX0 3 fw fdw ["_law_state"] spWord := ok_word W.fn T TK M
  have GP : FnOk P w K mg base CX0 3 fp fdp ["_law_state", "_law_some"] spPick := ok_pick PK.fn T TK M
  refine F.ok scAny (fun vs H Q E h => ?_) (fun cdv A outer s H vs Q E hr h => ?_)
  · obtain ⟨a, L, C, t, rfl, _⟩ := h
    rfl
  · obtain ⟨a, L, C, t, rfl, S, ht, k⟩ := h
    have one : 1 ≤ sizeLine := by decide +kernel
    have two : 2 ≤ sizeLine := by decide +kernel
    have twelve : 12 ≤ sizeLine := by decide +kernel
    have hr2 : Room 2 _ := hr.mono (by decide)
    refine ⟨_, pss_cons (ps_par (i := 1) (j := 2) rfl scAny.nd rfl rfl (by decide) rfl rfl (pa_cons (pe_call GW hr rfl W.m W.fn.kp W.b .nil pass0 (pa_cons (pv 0) pa_nil))
          (pa_cons (pe_op op_sub (pe_call GT hr2 rfl TK.m TK.fn.kp TK.b .nil pass0 (pa_cons (pv 0) (pa_cons pe_int pa_nil))) pe_int) pa_nil)) (by rfl))
      (pss_cons (ps_set (i := 3) scAny.nd rfl (.inl rfl) (pe_lst (pa_cons (pv 1) (pa_cons (pe_tup (pa_cons (pv 1) pa_nil)) (pa_cons (pv 2) (pa_cons (pe_op op_add (pe_op op_pow pe_int pe_int) (pv 2))
          (pa_cons pe_non (pa_cons pe_bl (pa_cons pe_str (pa_cons (pe_lst (pa_cons (pv 1) pa_nil)) (pa_cons pe_dnewK (pa_cons (pe_tup pa_nil)
          (pa_cons (pe_disp (pps_cons (pv 1) (pe_tup (pa_cons (pv 2) pa_nil)) pps_nil) rfl rfl (by simp) (by decide)) (pa_cons (pe_tup (pa_cons (pv 1) (pa_cons pe_str pa_nil))) pa_nil))))))))))))))
      (pss_one (ps_ret (pe_call GP hr rfl PK.m PK.fn.kp PK.b .nil pass0 (pa_cons (pv 0) (pa_cons (pv 3) pa_nil)))))), ?_⟩
    refine ⟨_, rfl, a, L, C, t, rfl, S, by omega, fun x H1 t1 hx S1 e1 e2 k1 => ?_⟩
    refine ⟨_, rfl, a, L, C, t1, _, rfl, S1, by omega, by decide, by decide, fun m H2 t2 m0 m1 S2 e3 e4 k2 => ?_⟩
    refine ⟨_, _, rfl, rfl, _, _, rfl, ?_⟩
    refine ⟨_, rfl, _, rfl, one, fun t1' n1 => ?_⟩
    refine ⟨_, rfl, _, _, rfl, rfl, ⟨by decide, by decide, by decide⟩, _, rfl, _, _, rfl, rfl, _, rfl, one, fun l8 n8 d9 n9 => ?_⟩
    refine ⟨Nat.zero_le _, fun t10 n10 d11 n11 => ?_⟩
    refine ⟨_, rfl, _, rfl, one, fun t11 m11 => ⟨?_, [(.inr x, .ref t11)], rfl, (by show 1 ≤ 15; decide), ?_⟩⟩
    · exact (same_upd m11) _ _ upd_same
    refine ⟨_, rfl, two, fun t12 n12 => ⟨twelve, fun p np => ?_⟩⟩
    have s1 := same_upd (o := .tup [.str x]) n1
    have s2 := same_upd (o := .lst [.str x]) n8
    have s3 := same_upd (o := .dK []) n9
    have s4 := same_upd (o := .tup []) n10
    have s6 := same_upd (o := .tup [.int (m - 20)]) m11
    have s47 := same_over (o2 := .dK (mergeK [] [(.inr x, V.ref t11)])) n11 s6
    have s8 := same_upd (o := .tup [.str x, .str "a"]) n12
    have s9 := same_upd (o := .lst [.str x, .ref t1', .int (m - 20), .int (10 ^ 39 + (m - 20)), .non, .bl true, .str "", .ref l8, .ref d9, .ref t10, .ref d11, .ref t12]) np
    have s24 := s1.trans (s2.trans (s3.trans s4))
    have s49 := s47.trans (s8.trans s9)
    have s29 := s24.trans s49
    have new : ∀ (Hk : Hp) (c : Addr), Same H2 Hk → Hk c = none → c ≠ a ∧ c ≠ L := fun Hk c sk hc => by
      obtain ⟨⟨r, g1⟩, ⟨lg, g2, _⟩, _, _, _⟩ := id S2
      exact ⟨(ne_of_none (sk _ _ g1) hc).symm, (ne_of_none (sk _ _ g2) hc).symm⟩
    have g1 := s49 _ _ (s4 _ _ (s3 _ _ (s2 _ _ (upd_same (H := H2) (a := t1') (o := .tup [.str x])))))
    have n711 : t11 ≠ d11 := (ne_of_none upd_same m11).symm
    have ok1 := new _ _ (Same.refl _) n1
    have ok8 := new _ _ s1 n8
    have ok9 := new _ _ (s1.trans s2) n9
    have ok10 := new _ _ (s1.trans (s2.trans s3)) n10
    have ok11 := new _ _ s24 n11
    have ok11' := new _ _ (s24.trans (same_upd n11)) m11
    have ok12 := new _ _ (s24.trans s47) n12
    have okp := new _ _ (s24.trans (s47.trans s8)) np
    refine ⟨_, rfl, _, rfl, a, L, C, p, t2, _, rfl, S2.same s29, by omega, .inl upd_same, okp.2, okp.1, (by show 0 < 12; decide), ?_, fun v H' t' hv S' _ _ kp => ?_⟩
    · show 12 ≤ 1000
      decide
    · have td : TdL K (fun b => b ≠ a ∧ b ≠ L) _ [.str x, .ref t1', .int (m - 20), .int (10 ^ 39 + (m - 20)), .non, .bl true, .str "", .ref l8, .ref d9, .ref t10, .ref d11, .ref t12]
          [.str x, .tuple [.str x], .int (m - 20), .int (10 ^ 39 + (m - 20)), .none, .bool true, .str "", .list [.str x], .dict [], .tuple [], .dict [(.str x, .tuple [.int (m - 20)])], .tuple [.str x, .str "a"]] :=
        .cons (.str _) (.cons (.tup ok1 (.inl (.inl g1)) (.cons (.str _) .nil)) (.cons (.int _) (.cons (.int _) (.cons .non (.cons (.bl _) (.cons (.str _)
          (.cons (.lst ok8 (.inl (s49 _ _ (s4 _ _ (s3 _ _ upd_same)))) (.cons (.str _) .nil)) (.cons (.dct ok9 (.inl (s49 _ _ (s4 _ _ upd_same))) .nil)
          (.cons (.tup ok10 (.inl (.inl (s49 _ _ upd_same))) .nil) (.cons (.dct (kvs := [(.inr x, V.ref t11)]) ok11 (.inl (s9 _ _ (s8 _ _ upd_same))) (.cons (.tup ok11' (.inl (.inl (s9 _ _ (s8 _ _ (by rw [upd_ne n711]; exact upd_same))))) (.cons (.int _) .nil)) .nil))
          (.cons (.tup ok12 (.inl (.inl (s9 _ _ upd_same))) (.cons (.str _) (.cons (.str _) .nil))) .nil)))))))))))
      obtain ⟨d, hd, tdv⟩ := td_at td hv
      exact k v d H' (tdv.mono (fun _ z => z) fun b o z e => kp b o e z.1 z.2) (wee_any hx (by omega) (by omega) d hd) (k1.trans (k2.trans ((Keep.same s29).trans kp)))
end
end Dr

set_option Elab.async false
set_option linter.all false
set_option maxRecDepth 100000
set_option maxHeartbeats 2000000
/-! The law. -/
namespace Dr
open PySem PySem.Spec PyProof.Rows L2 Gd Ex
abbrev sLaw : Stmt := topS 24
theorem scLaw : FnScope ["_law_script", "_law_k", "_law_state", "_law_said", "_law_thing", "_law_plain", "_law_words_here", "_law_held", "_law_error", "_law_due", "_law_told", "_law_more"] ["_law_script"] (defScope sLaw) := ⟨rfl, rfl, rfl, by decide +kernel, rfl, by decide +kernel, by decide +kernel⟩
structure Tx2 (mg : Str → Option Value) : Prop where
  isi : mg "isinstance" = none
  ve : mg "ValueError" = none
  zip : mg "zip" = none
  repr : mg "repr" = none
  max : mg "max" = none
  min : mg "min" = none
abbrev veB : List Value := [.type "ValueError", .type "Exception", .type "BaseException", .type "object"]
/-- a class without an __init__ of its own -/
structure PlC (K : PySem.W.Frag) (C : Addr) : Prop where
  x : PySem.W.excIn K C veB "ValueError.__new__" = true
  k : PySem.W.keepIn K (.ref C) = true
/-- a class with one: its def at f -/
structure HdC (K : PySem.W.Frag) (C f : Addr) (fd : FuncData) (n : Str) : Prop where
  held : Held K C n
  ini : PySem.W.findIn K (.ref C) "__init__" = some (some (.ref f))
  fn : PySem.W.typeIn K (.ref f) = some (.type "function")
  xf : XfC K C
  b : Binds K fd [("self" : Str), n] []
  kb : ∀ (s : Shared) (a : Addr) (u : Value), K.In s.heap → BindsTo s fd ⟨[.ref a], [(n, u)]⟩ ([("self" : Str), n].zip [.ref a, u])
def dues : List Str := ["value", "book", "kind", "expression", "layers", "form", "index", "nothing", "title", "many", "name", "mark", "text"]
/-- how isinstance tells the classes Ds apart -/
structure Tell (K : PySem.W.Frag) (ME : Addr) (Cs Ds : List Addr) : Prop where
  each : ∀ (i : Nat) (D : Addr) (due : Str), Ds[i]? = some D → dues[i]? = some due → ExcD K D ∧ PySem.W.kitOne K (.ref D) (.ref ME) = some true ∧ PySem.W.kitOne K (.ref D) (.type "ValueError") = some true ∧
    ∃ bs : List Bool, bs.length = 13 ∧ (∀ (i : Nat) (C : Addr) (b : Bool), Cs[i]? = some C → bs[i]? = some b → PySem.W.kitOne K (.ref D) (.ref C) = some b) ∧ told (kNames.zip bs) = [due]
  me : ExcD K ME ∧ PySem.W.kitOne K (.ref ME) (.type "ValueError") = some true ∧
    ∃ bs : List Bool, bs.length = 13 ∧ (∀ (i : Nat) (C : Addr) (b : Bool), Cs[i]? = some C → bs[i]? = some b → PySem.W.kitOne K (.ref ME) (.ref C) = some b) ∧ told (kNames.zip bs) = []
def spLaw (K : PySem.W.Frag) : Sp := fun vs H Q _ => ∃ (a : Addr) (ns : List Int), vs = [.ref a] ∧ SqL K H a (ns.map V.int) ∧ ns.length ≤ 63 ∧ ∀ H', Q (.bl true) H'
theorem repVStr {G : MB.Gx} {α : List Addr} {H : Hp} {a : Addr} {x : Str} (h : H a = some (.lst [V.str x])) : MB.RepV G α H (.ref a) (.lst [.str x]) :=
  .inr ⟨a, _, rfl, h, trivial, .lst (by show 1 ≤ sizeLine; decide +kernel) (.cons (.str x) .nil)⟩
theorem neSame {x : Str} (h : (MB.T.str x).pl 8 = true) : MB.cmpT .ne (.lst [.str x]) (.lst [.str x]) = some false := by
  have h7 : (MB.T.str x).pl 7 = true := h
  have e : MB.T.pl 8 (.lst [.str x]) = true := by
    show ([MB.T.str x].all (MB.T.pl 7)) = true
    simp [h7]
  simp [MB.cmpT, MB.eqT, MB.T.atom, e, MB.T.eqv, MB.eqvs]
theorem paired_at {α β : Type} {R : α → β → Prop} : ∀ {xs : List α} {ys : List β} {i : Nat} {x : α}, Paired R xs ys → xs[i]? = some x → ∃ y, ys[i]? = some y ∧ R x y
  | _, _, _, _, .nil, h => by simp at h
  | _, _, 0, _, .cons a _, h => by simp at h; subst h; exact ⟨_, rfl, a⟩
  | _, _, i + 1, _, .cons _ b, h => by
    obtain ⟨y, h1, h2⟩ := paired_at (i := i) b (by simpa using h)
    exact ⟨y, by simpa using h1, h2⟩
theorem dues_pl (j : Nat) (due : Str) (h : dues[j]? = some due) : (MB.T.str due).pl 8 = true := by
  have e : (dues.all fun x => x.cps.all (· < 0x110000)) = true := by decide +kernel
  exact List.all_eq_true.mp e due (List.mem_of_getElem? h)
theorem look1 (f : Str) (v : V) : ([(f, v)] : List (Str × V)).lookup f = some v := by simp [List.lookup]
theorem five {K : PySem.W.Frag} {ok : Addr → Prop} {H : Hp} {v : V} {d : PyData} (g : Td K ok H v d) : TdL K ok H [v, v, v, v, v] [d, d, d, d, d] := .cons g (.cons g (.cons g (.cons g (.cons g .nil))))
theorem sm5 {d : PyData} (h : Wee d) : Sm (.list [d, d, d, d, d]) := by
  have h3 := h.dp
  have h4 := h.wt
  constructor
  · simp [PyData.showable, PyData.showableAll, h.sh]
  · simp [PyData.leavesShort, PyData.leavesShortAll, h.lf]
  · simp only [PyData.depth, PyData.depthAll]
    omega
  · simp only [PyData.weight, PyData.weightAll]
    omega
theorem six (n i : Nat) : HT.sIx n 0 (some (0 + (i : Int))) = min i n ∧ HT.sIx n n (some (0 + (i : Int))) = min i n := by
  rw [Int.zero_add]
  exact ⟨HT.sIx_nat n 0 i, HT.sIx_nat n n i⟩
theorem cut_len (ns : List Int) (i : Nat) : (cutV (ns.map V.int) (some (0 + (i : Int))) none ++ cutV (ns.map V.int) none (some (0 + (i : Int)))).length = ns.length := by
  unfold cutV
  rw [(six _ _).1, (six _ _).2, HT.sIx_none, HT.sIx_none]
  simp only [List.length_append, List.length_take, List.length_drop, List.length_map]
  omega
theorem cut_ints (ns : List Int) (i : Nat) : ∃ ms : List Int, cutV (ns.map V.int) (some (0 + (i : Int))) none ++ cutV (ns.map V.int) none (some (0 + (i : Int))) = ms.map V.int := by
  unfold cutV
  simp only [← List.map_drop, ← List.map_take, ← List.map_append]
  exact ⟨_, rfl⟩

section
variable {P : Program} {w : World} {K : PySem.W.Frag} {mg : Str → Option Value} {base : Heap}
theorem ok_law {f fb fw fp ft fm fk fA ME CBadValue CBadBook CUnknownTitle CBadKind CBadExpression CTooMany CBadLayers CUnknownName CBadForm CMarked CBadIndex CNothingDone CBadText fUnknownTitle fTooMany fUnknownName fMarked fBadText : Addr} {fd fdb fdw fdp fdt fdm fdk fdA fdUnknownTitle fdTooMany fdUnknownName fdMarked fdBadText : FuncData} (F : Fun K "law" "law" sLaw f fd) (T : Tx mg) (T2 : Tx2 mg) (SY : HasSys K)
    (AB : At K mg "_law_begun" sBegun ["_law_script"] fb fdb) (AW : At K mg "_law_word" sWord ["_law_state"] fw fdw) (AP : At K mg "_law_pick" sPick ["_law_state", "_law_some"] fp fdp) (AT : At K mg "_law_take" sTake ["_law_state", "_law_size"] ft fdt)
    (AM : At K mg "_law_mixed" sMixed ["_law_state"] fm fdm) (AK : At K mg "_law_kinds" sKinds ["_law_error"] fk fdk) (AA : At K mg "_law_any" sAny ["_law_state"] fA fdA) (M : KdT mg CBadValue CBadBook CUnknownTitle CBadKind CBadExpression CTooMany CBadLayers CUnknownName CBadForm CMarked CBadIndex CNothingDone CBadText) (mME : mg "MergeError" = some (.ref ME)) (BI : BaseI K ME)
    (PBadValue : PlC K CBadValue) (PBadBook : PlC K CBadBook) (PBadKind : PlC K CBadKind) (PBadExpression : PlC K CBadExpression) (PBadLayers : PlC K CBadLayers) (PBadForm : PlC K CBadForm) (PBadIndex : PlC K CBadIndex) (PNothingDone : PlC K CNothingDone) (PME : PlC K ME)
    (HUnknownTitle : HdC K CUnknownTitle fUnknownTitle fdUnknownTitle "title") (HTooMany : HdC K CTooMany fTooMany fdTooMany "most") (HUnknownName : HdC K CUnknownName fUnknownName fdUnknownName "name") (HMarked : HdC K CMarked fMarked fdMarked "path") (HBadText : HdC K CBadText fBadText fdBadText "line")
    (IUnknownTitle : Fun K "__init__" "UnknownTitle.__init__" sUnknownTitle fUnknownTitle fdUnknownTitle) (ITooMany : Fun K "__init__" "TooMany.__init__" sTooMany fTooMany fdTooMany) (IUnknownName : Fun K "__init__" "UnknownName.__init__" sUnknownName fUnknownName fdUnknownName) (IMarked : Fun K "__init__" "Marked.__init__" sMarked fMarked fdMarked) (IBadText : Fun K "__init__" "BadText.__init__" sBadText fBadText fdBadText)
    (TL : Tell K ME [CBadValue, CBadBook, CUnknownTitle, CBadKind, CBadExpression, CTooMany, CBadLayers, CUnknownName, CBadForm, CMarked, CBadIndex, CNothingDone, CBadText] [CBadValue, CBadBook, CBadKind, CBadExpression, CBadLayers, CBadForm, CBadIndex, CNothingDone, CUnknownTitle, CTooMany, CUnknownName, CMarked, CBadText]) : FnG P w K mg base CX0 6 f fd ["_law_script"] (spLaw K) := by
  have GB : FnOk P w K mg base CX0 1 fb fdb ["_law_script"] (spBegun K) := ok_begun AB.fn T
  have GW : FnOk P w K mg base CX0 3 fw fdw ["_law_state"] spWord := ok_word AW.fn T AT AM
  have GA : FnOk P w K mg base CX0 4 fA fdA ["_law_state"] (spAny K) := ok_any AA.fn T AW AP AT AM
  have GK : FnOk P w K mg base CX0 1 fk fdk ["_law_error"] (spKinds K [CBadValue, CBadBook, CUnknownTitle, CBadKind, CBadExpression, CTooMany, CBadLayers, CUnknownName, CBadForm, CMarked, CBadIndex, CNothingDone, CBadText]) := ok_kinds AK.fn T2.isi M
  have GUnknownTitle : FnOk P w K mg base CX0 1 fUnknownTitle fdUnknownTitle ["self", "title"] (spHold K CUnknownTitle "title") := ok_UnknownTitle IUnknownTitle HUnknownTitle.held mME BI
  have GTooMany : FnOk P w K mg base CX0 1 fTooMany fdTooMany ["self", "most"] (spHold K CTooMany "most") := ok_TooMany ITooMany HTooMany.held mME BI
  have GUnknownName : FnOk P w K mg base CX0 1 fUnknownName fdUnknownName ["self", "name"] (spHold K CUnknownName "name") := ok_UnknownName IUnknownName HUnknownName.held mME BI
  have GMarked : FnOk P w K mg base CX0 1 fMarked fdMarked ["self", "path"] (spHold K CMarked "path") := ok_Marked IMarked HMarked.held mME BI
  have GBadText : FnOk P w K mg base CX0 1 fBadText fdBadText ["self", "line"] (spHold K CBadText "line") := ok_BadText IBadText HBadText.held mME BI
  refine of_body F scLaw (fun vs H Q E h => ?_) (fun cdv A outer s H vs Q E fr0 hr h => ?_)
  · obtain ⟨a, ns, rfl, _⟩ := h
    rfl
  · obtain ⟨a, ns, rfl, hS, hlen, k⟩ := h
    have fr : Free _ := free_deeper (env := envOfC "law" (defScope sLaw) s.heap.objs.size f cdv) fr0
    have hr1 : Room 1 _ := hr.mono (by decide)
    have hr2 : Room (1 + 1) _ := hr.mono (by decide)
    have hr3 : Room 3 _ := hr.mono (by decide)
    have hr4 : Room 4 _ := hr.mono (by decide)
    have hu5 := hu65 hr
    have hu4 := hr.units
    obtain ⟨mBadValue, mBadBook, mUnknownTitle, mBadKind, mBadExpression, mTooMany, mBadLayers, mUnknownName, mBadForm, mMarked, mBadIndex, mNothingDone, mBadText⟩ := M
    refine ⟨_, pss_cons (ps_for PassesOwn.never rfl (pi_range1 rfl T.range (pa_cons (pe_callB (call_max2 rfl) (by rfl) T2.max PyProof.Rows.boot_max (pa_cons pe_int (pa_cons (pe_callB (call_min2 rfl) (by rfl) T2.min PyProof.Rows.boot_min (pa_cons pe_int (pa_cons (pe_callB call_len_seq (by rfl) T.len PySem.boot_len (pa_cons (pv 0) pa_nil)) pa_nil))) pa_nil))) pa_nil)) (pg_name (i := 1) scLaw.nd rfl (.inl rfl)) (pss_cons (ps_set (i := 2) scLaw.nd rfl (.inl rfl) (pe_call GB hr1 rfl AB.m AB.fn.kp AB.b .nil pass0 (pa_cons (pe_op op_cat (pe_slice sl_list (pv 0) (po_some (pv 1)) po_none) (pe_slice sl_list (pv 0) po_none (po_some (pv 1)))) pa_nil)))
        (pss_cons (ps_par (i := 3) (j := 4) rfl scLaw.nd rfl rfl (by decide) rfl rfl (pa_cons (pe_call GW hr3 rfl AW.m AW.fn.kp AW.b .nil pass0 (pa_cons (pv 2) pa_nil)) (pa_cons (pe_call GA hr4 rfl AA.m AA.fn.kp AA.b .nil pass0 (pa_cons (pv 2) pa_nil)) pa_nil)) (by rfl))
        (pss_cons (ps_set (i := 5) scLaw.nd rfl (.inl rfl) (pe_lst (pa_cons (pe_exc1 PySem.F.excBase_ValueError PBadValue.x mBadValue PBadValue.k rfl (pv 3)) (pa_cons (pe_exc1 PySem.F.excBase_ValueError PBadBook.x mBadBook PBadBook.k rfl (pv 3)) (pa_cons (pe_exc1 PySem.F.excBase_ValueError PBadKind.x mBadKind PBadKind.k rfl (pv 3)) (pa_cons (pe_exc1 PySem.F.excBase_ValueError PBadExpression.x mBadExpression PBadExpression.k rfl (pv 3)) (pa_cons (pe_exc1 PySem.F.excBase_ValueError PBadLayers.x mBadLayers PBadLayers.k rfl (pv 3)) (pa_cons (pe_exc1 PySem.F.excBase_ValueError PBadForm.x mBadForm PBadForm.k rfl (pv 3)) pa_nil))))))))
        (pss_cons (ps_set (i := 5) scLaw.nd rfl (.inl rfl) (pe_op op_cat (pv 5) (pe_lst (pa_cons (pe_exc1 PySem.F.excBase_ValueError PBadIndex.x mBadIndex PBadIndex.k rfl (pv 3)) (pa_cons (pe_exc1 PySem.F.excBase_ValueError PNothingDone.x mNothingDone PNothingDone.k rfl (pv 3)) pa_nil)))))
        (pss_cons (ps_set (i := 6) scLaw.nd rfl (.inl rfl) (pe_lst (pa_cons pe_str (pa_cons pe_str (pa_cons pe_str (pa_cons pe_str (pa_cons pe_str (pa_cons pe_str (pa_cons pe_str (pa_cons pe_str pa_nil))))))))))
        (pss_cons (ps_set (i := 7) scLaw.nd rfl (.inl rfl) (pe_lst (pa_cons (pe_oexV HUnknownTitle.held.ox HUnknownTitle.ini HUnknownTitle.fn GUnknownTitle hr2 HUnknownTitle.b pass0 rfl mUnknownTitle (pa_cons (pv 4) pa_nil)) (pa_cons (pe_oexV HTooMany.held.ox HTooMany.ini HTooMany.fn GTooMany hr2 HTooMany.b pass0 rfl mTooMany (pa_cons (pv 4) pa_nil)) (pa_cons (pe_oexV HUnknownName.held.ox HUnknownName.ini HUnknownName.fn GUnknownName hr2 HUnknownName.b pass0 rfl mUnknownName (pa_cons (pv 4) pa_nil)) (pa_cons (pe_oexV HMarked.held.ox HMarked.ini HMarked.fn GMarked hr2 HMarked.b pass0 rfl mMarked (pa_cons (pv 4) pa_nil)) (pa_cons (pe_oexV HBadText.held.ox HBadText.ini HBadText.fn GBadText hr2 HBadText.b pass0 rfl mBadText (pa_cons (pv 4) pa_nil)) pa_nil)))))))
        (pss_cons (ps_set (i := 6) scLaw.nd rfl (.inl rfl) (pe_op op_cat (pv 6) (pe_lst (pa_cons pe_str (pa_cons pe_str (pa_cons pe_str (pa_cons pe_str (pa_cons pe_str pa_nil))))))))
        (pss_cons (ps_for PassesOwn.never rfl (pi_zip (by rfl) T2.zip (pa_cons (pe_op op_cat (pv 5) (pv 7)) (pa_cons (pv 6) pa_nil)))
          (pg_tup rfl (pgs_cons (pg_name (i := 8) scLaw.nd rfl (.inl rfl)) (pgs_cons (pg_name (i := 9) scLaw.nd rfl (.inl rfl)) pgs_nil)))
          (pss_one (ps_if (PW.pt (pw_or (pt_cmpR (MB.op_cmp (G := gx P w K mg base) .ne hu5 rfl) (pe_call GK hr1 rfl AK.m AK.fn.kp AK.b .nil pass0 (pa_cons (pv 8) pa_nil)) (pe_lst (pa_cons (pv 9) pa_nil)) (nomark _)) (pw_or (pt_not (pt_val (pe_callB call_isV (by rfl) T2.isi PyProof.Rows.boot_isinstance (pa_cons (pv 8) (pa_cons (pe_glob (v := .ref ME) rfl mME rfl) pa_nil))))) (pw_or1 (pt_not (pt_val (pe_callB call_isV (by rfl) T2.isi PyProof.Rows.boot_isinstance (pa_cons (pv 8) (pa_cons (pe_bltn (v := .ty "ValueError") rfl T2.ve PyProof.Rows.Boot.«ValueError» rfl) pa_nil))))))))) (pss_one (ps_ret pe_bl)) pss_nil)))
        (pss_cons (ps_set (i := 10) scLaw.nd rfl (.inl rfl) (pe_lst (pa_cons (pe_xv (pe_ix ix_list (pv 7) pe_int (fun _ _ => rfl))) (pa_cons (pe_xv (pe_ix ix_list (pv 7) pe_int (fun _ _ => rfl))) (pa_cons (pe_xv (pe_ix ix_list (pv 7) pe_int (fun _ _ => rfl))) (pa_cons (pe_xv (pe_ix ix_list (pv 7) pe_int (fun _ _ => rfl))) (pa_cons (pe_xv (pe_ix ix_list (pv 7) pe_int (fun _ _ => rfl))) pa_nil)))))))
        (pss_cons (ps_set (i := 11) scLaw.nd rfl (.inl rfl) (pe_lst (pa_cons (pe_xv (pe_oexK HUnknownTitle.held.ox HUnknownTitle.ini HUnknownTitle.fn GUnknownTitle hr2 rfl HUnknownTitle.kb pass0 rfl mUnknownTitle (pv 4))) (pa_cons (pe_xv (pe_oexK HTooMany.held.ox HTooMany.ini HTooMany.fn GTooMany hr2 rfl HTooMany.kb pass0 rfl mTooMany (pv 4))) (pa_cons (pe_xv (pe_oexK HUnknownName.held.ox HUnknownName.ini HUnknownName.fn GUnknownName hr2 rfl HUnknownName.kb pass0 rfl mUnknownName (pv 4))) pa_nil)))))
        (pss_cons (ps_set (i := 11) scLaw.nd rfl (.inl rfl) (pe_op op_cat (pv 11) (pe_lst (pa_cons (pe_xv (pe_oexK HMarked.held.ox HMarked.ini HMarked.fn GMarked hr2 rfl HMarked.kb pass0 rfl mMarked (pv 4))) (pa_cons (pe_xv (pe_oexK HBadText.held.ox HBadText.ini HBadText.fn GBadText hr2 rfl HBadText.kb pass0 rfl mBadText (pv 4))) pa_nil)))))
        (pss_one (ps_if (PW.pt (pw_or (pt_cmpR op_ne (pe_callB (reprOf fr hu4 SY) (by rfl) T2.repr PyProof.Rows.boot_repr (pa_cons (pv 10) pa_nil)) (pe_callB (reprOf fr hu4 SY) (by rfl) T2.repr PyProof.Rows.boot_repr (pa_cons (pe_op op_rep (pe_lst (pa_cons (pv 4) pa_nil)) pe_int) pa_nil)) (nomark _)) (pw_or1 (pt_cmpR op_ne (pe_callB (reprOf fr hu4 SY) (by rfl) T2.repr PyProof.Rows.boot_repr (pa_cons (pv 11) pa_nil)) (pe_callB (reprOf fr hu4 SY) (by rfl) T2.repr PyProof.Rows.boot_repr (pa_cons (pv 10) pa_nil)) (nomark _))))) (pss_one (ps_ret pe_bl)) pss_nil))))))))))))))
      (pss_one (ps_ret (pe_and (pe_cmpR (MB.op_cmp (G := gx P w K mg base) .eq hu5 rfl) (pe_call GK hr1 rfl AK.m AK.fn.kp AK.b .nil pass0 (pa_cons (pe_exc1 PySem.F.excBase_ValueError PME.x mME PME.k rfl pe_str) pa_nil)) (pe_lst pa_nil) (nomark _)) (pe_one (pe_callB call_isV (by rfl) T2.isi PyProof.Rows.boot_isinstance (pa_cons (pe_exc1 PySem.F.excBase_ValueError PME.x mME PME.k rfl pe_str) (pa_cons (pe_bltn (v := .ty "ValueError") rfl T2.ve PyProof.Rows.Boot.«ValueError» rfl) pa_nil))))))), ?_⟩
    have one : 1 ≤ sizeLine := by decide +kernel
    have lim : ∀ n : Nat, n ≤ 130 → n ≤ sizeLine := fun n hn => Nat.le_trans hn (by decide +kernel)
    refine ⟨_, rfl, a, _, rfl, .inl hS, _, _, rfl, _, _, rfl, _, rfl, ?lo, ?hi, ?_⟩
    case lo => split <;> (try split) <;> omega
    case hi => split <;> (try split) <;> omega
    refine for_it walk_range (fun i σ H1 => ∃ (v1 v2 v3 v4 v5 v6 v7 v8 v9 v10 v11 : Option V), σ = [some (.ref a), v1, v2, v3, v4, v5, v6, v7, v8, v9, v10, v11] ∧ Same H H1)
      ⟨none, none, none, none, none, none, none, none, none, none, none, rfl, Same.refl H⟩ (fun _ _ _ _ _ => trivial) ?_ ?_
    rotate_left
    · -- the last row
      rintro σ H1 ⟨v1, v2, v3, v4, v5, v6, v7, v8, v9, v10, v11, rfl, sm⟩
      obtain ⟨te, tv, bs, lb, kb, tb⟩ := TL.me
      refine fun e n => ⟨e, ME, bs, rfl, .inl upd_same, te, lb, kb, fun p H2 s2 np hp => ?_⟩
      rw [tb] at hp
      refine ⟨Nat.zero_le _, fun q nq => ⟨[], .lst [], .lst [], _, repVNil (by rw [upd_ne (ne_of_none hp nq)]; exact hp), repVNil upd_same, eqNil [], true, rfl, ?_⟩⟩
      refine fun e2 n2 => ⟨e2, ME, .ty "ValueError", .type "ValueError", true, rfl, .inl upd_same, (fun _ z => z), te, tv, k _⟩
    rintro i x σ H1 H1' hi ⟨v1, v2, v3, v4, v5, v6, v7, v8, v9, v10, v11, rfl, sm⟩ ⟨rfl, rfl⟩
    have hS1 := sm.seq hS
    refine ⟨_, rfl, _, rfl, _, rfl, a, ns.map V.int, rfl, hS1, fun c1 nc1 => ?_⟩
    have sc1 := same_upd (o := .lst (cutV (ns.map V.int) (some (0 + (i : Int))) none)) nc1
    refine ⟨_, rfl, _, rfl, _, rfl, a, ns.map V.int, rfl, sc1.seq hS1, fun c2 nc2 => ?_⟩
    have sc2 := same_upd (o := .lst (cutV (ns.map V.int) none (some (0 + (i : Int))))) nc2
    have lc : (cutV (ns.map V.int) (some (0 + (i : Int))) none ++ cutV (ns.map V.int) none (some (0 + (i : Int)))).length = ns.length := cut_len ns i
    refine ⟨c1, c2, _, _, rfl, rfl, sc2 _ _ upd_same, upd_same, (by rw [← List.length_append, lc]; exact lim _ (by omega)), fun c3 nc3 => ?_⟩
    have sc3 := same_upd (o := .lst (cutV (ns.map V.int) (some (0 + (i : Int))) none ++ cutV (ns.map V.int) none (some (0 + (i : Int))))) nc3
    obtain ⟨ns', en⟩ := cut_ints ns i
    refine ⟨c3, ns', rfl, .inl (.inl (by rw [← en]; exact upd_same)), (by rw [← List.length_map (f := V.int), ← en, lc]; exact hlen), fun sa L C H2 SB sm2 na nL nC => ?_⟩
    have sm12 : Same H1' H2 := sc1.trans (sc2.trans (sc3.trans sm2))
    refine ⟨_, rfl, sa, L, C, 0, rfl, SB, by decide, fun x H3 t3 hx S3 _ e3 k3 => ?_⟩
    refine ⟨_, rfl, sa, L, C, t3, rfl, S3, by omega, fun v d H4 tdv wee k4 => ⟨_, _, rfl, ?_⟩⟩

    have sZ : Same H1' H4 := fun b o e => by
      have e1 := (sc1.trans (sc2.trans sc3)) _ _ e
      have m1 := ne_of_none e1 na
      have m2 := ne_of_none e1 nL
      exact k4 _ _ (k3 _ _ (sm2 _ _ e1) m1 m2) m1 m2
    have g0 : Td K (fun _ => True) H4 v d := tdv.mono (fun _ _ => trivial) fun _ _ _ z => z
    clear tdv k3 k4 S3 SB sm2 na nL nC sc1 sc2 sc3 sm12
    generalize hz0 : H4 = Z0 at sZ g0 ⊢
    clear hz0
    refine ⟨_, rfl, fun e1 n1 => ?_⟩
    have s1 := same_upd (o := ExO (.ref CBadValue) e1) n1
    have x1 : IsExc (upd Z0 e1 (ExO (.ref CBadValue) e1)) e1 CBadValue := .inl upd_same
    generalize upd Z0 e1 (ExO (.ref CBadValue) e1) = Z1 at s1 x1 ⊢
    refine ⟨_, rfl, fun e2 n2 => ?_⟩
    have s2 := same_upd (o := ExO (.ref CBadBook) e2) n2
    have x2 : IsExc (upd Z1 e2 (ExO (.ref CBadBook) e2)) e2 CBadBook := .inl upd_same
    generalize upd Z1 e2 (ExO (.ref CBadBook) e2) = Z2 at s2 x2 ⊢
    refine ⟨_, rfl, fun e3 n3 => ?_⟩
    have s3 := same_upd (o := ExO (.ref CBadKind) e3) n3
    have x3 : IsExc (upd Z2 e3 (ExO (.ref CBadKind) e3)) e3 CBadKind := .inl upd_same
    generalize upd Z2 e3 (ExO (.ref CBadKind) e3) = Z3 at s3 x3 ⊢
    refine ⟨_, rfl, fun e4 n4 => ?_⟩
    have s4 := same_upd (o := ExO (.ref CBadExpression) e4) n4
    have x4 : IsExc (upd Z3 e4 (ExO (.ref CBadExpression) e4)) e4 CBadExpression := .inl upd_same
    generalize upd Z3 e4 (ExO (.ref CBadExpression) e4) = Z4 at s4 x4 ⊢
    refine ⟨_, rfl, fun e5 n5 => ?_⟩
    have s5 := same_upd (o := ExO (.ref CBadLayers) e5) n5
    have x5 : IsExc (upd Z4 e5 (ExO (.ref CBadLayers) e5)) e5 CBadLayers := .inl upd_same
    generalize upd Z4 e5 (ExO (.ref CBadLayers) e5) = Z5 at s5 x5 ⊢
    refine ⟨_, rfl, fun e6 n6 => ?_⟩
    have s6 := same_upd (o := ExO (.ref CBadForm) e6) n6
    have x6 : IsExc (upd Z5 e6 (ExO (.ref CBadForm) e6)) e6 CBadForm := .inl upd_same
    generalize upd Z5 e6 (ExO (.ref CBadForm) e6) = Z6 at s6 x6 ⊢
    refine ⟨(lim 6 (by decide)), fun p7 np7 => ?_⟩
    have s7 := same_upd (o := .lst [V.ref e1, V.ref e2, V.ref e3, V.ref e4, V.ref e5, V.ref e6]) np7
    have l7 : (upd Z6 p7 (.lst [V.ref e1, V.ref e2, V.ref e3, V.ref e4, V.ref e5, V.ref e6])) p7 = some (.lst [V.ref e1, V.ref e2, V.ref e3, V.ref e4, V.ref e5, V.ref e6]) := upd_same
    generalize upd Z6 p7 (.lst [V.ref e1, V.ref e2, V.ref e3, V.ref e4, V.ref e5, V.ref e6]) = Z7 at s7 l7 ⊢
    refine ⟨_, rfl, ?_⟩
    refine ⟨_, rfl, fun e8 n8 => ?_⟩
    have s8 := same_upd (o := ExO (.ref CBadIndex) e8) n8
    have x8 : IsExc (upd Z7 e8 (ExO (.ref CBadIndex) e8)) e8 CBadIndex := .inl upd_same
    generalize upd Z7 e8 (ExO (.ref CBadIndex) e8) = Z8 at s8 x8 ⊢
    refine ⟨_, rfl, fun e9 n9 => ?_⟩
    have s9 := same_upd (o := ExO (.ref CNothingDone) e9) n9
    have x9 : IsExc (upd Z8 e9 (ExO (.ref CNothingDone) e9)) e9 CNothingDone := .inl upd_same
    generalize upd Z8 e9 (ExO (.ref CNothingDone) e9) = Z9 at s9 x9 ⊢
    refine ⟨(lim 2 (by decide)), fun p10 np10 => ?_⟩
    have s10 := same_upd (o := .lst [V.ref e8, V.ref e9]) np10
    have l10 : (upd Z9 p10 (.lst [V.ref e8, V.ref e9])) p10 = some (.lst [V.ref e8, V.ref e9]) := upd_same
    generalize upd Z9 p10 (.lst [V.ref e8, V.ref e9]) = Z10 at s10 l10 ⊢
    refine ⟨p7, p10, [V.ref e1, V.ref e2, V.ref e3, V.ref e4, V.ref e5, V.ref e6], [V.ref e8, V.ref e9], rfl, rfl, (s8.trans (s9.trans s10)) _ _ l7, (Same.refl _) _ _ l10, lim 8 (by decide), fun p11 np11 => ?_⟩
    have s11 := same_upd (o := .lst ([V.ref e1, V.ref e2, V.ref e3, V.ref e4, V.ref e5, V.ref e6] ++ [V.ref e8, V.ref e9])) np11
    have l11 : (upd Z10 p11 (.lst ([V.ref e1, V.ref e2, V.ref e3, V.ref e4, V.ref e5, V.ref e6] ++ [V.ref e8, V.ref e9]))) p11 = some (.lst ([V.ref e1, V.ref e2, V.ref e3, V.ref e4, V.ref e5, V.ref e6] ++ [V.ref e8, V.ref e9])) := upd_same
    generalize upd Z10 p11 (.lst ([V.ref e1, V.ref e2, V.ref e3, V.ref e4, V.ref e5, V.ref e6] ++ [V.ref e8, V.ref e9])) = Z11 at s11 l11 ⊢
    refine ⟨(lim 8 (by decide)), fun p12 np12 => ?_⟩
    have s12 := same_upd (o := .lst [V.str "value", V.str "book", V.str "kind", V.str "expression", V.str "layers", V.str "form", V.str "index", V.str "nothing"]) np12
    have l12 : (upd Z11 p12 (.lst [V.str "value", V.str "book", V.str "kind", V.str "expression", V.str "layers", V.str "form", V.str "index", V.str "nothing"])) p12 = some (.lst [V.str "value", V.str "book", V.str "kind", V.str "expression", V.str "layers", V.str "form", V.str "index", V.str "nothing"]) := upd_same
    generalize upd Z11 p12 (.lst [V.str "value", V.str "book", V.str "kind", V.str "expression", V.str "layers", V.str "form", V.str "index", V.str "nothing"]) = Z12 at s12 l12 ⊢
    refine ⟨_, rfl, (by show 1 ≤ 1000; decide), fun e13 n13 => ⟨e13, _, rfl, upd_same, fun d13 nd13 ne13 => ⟨rfl, ?_⟩⟩⟩
    have s13 := same_over (o2 := exo e13 CUnknownTitle (some d13)) n13 (same_upd (o := exd d13 [("title", v)]) nd13)
    have y13 : (upd (upd (upd Z12 e13 (exo e13 CUnknownTitle none)) d13 (exd d13 [("title", v)])) e13 (exo e13 CUnknownTitle (some d13))) e13 = some (exo e13 CUnknownTitle (some d13)) := upd_same
    have w13 : (upd (upd (upd Z12 e13 (exo e13 CUnknownTitle none)) d13 (exd d13 [("title", v)])) e13 (exo e13 CUnknownTitle (some d13))) d13 = some (exd d13 [("title", v)]) := by rw [upd_ne ne13]; exact upd_same
    generalize upd (upd (upd Z12 e13 (exo e13 CUnknownTitle none)) d13 (exd d13 [("title", v)])) e13 (exo e13 CUnknownTitle (some d13)) = Z13 at s13 y13 w13 ⊢
    refine ⟨_, rfl, (by show 1 ≤ 1000; decide), fun e14 n14 => ⟨e14, _, rfl, upd_same, fun d14 nd14 ne14 => ⟨rfl, ?_⟩⟩⟩
    have s14 := same_over (o2 := exo e14 CTooMany (some d14)) n14 (same_upd (o := exd d14 [("most", v)]) nd14)
    have y14 : (upd (upd (upd Z13 e14 (exo e14 CTooMany none)) d14 (exd d14 [("most", v)])) e14 (exo e14 CTooMany (some d14))) e14 = some (exo e14 CTooMany (some d14)) := upd_same
    have w14 : (upd (upd (upd Z13 e14 (exo e14 CTooMany none)) d14 (exd d14 [("most", v)])) e14 (exo e14 CTooMany (some d14))) d14 = some (exd d14 [("most", v)]) := by rw [upd_ne ne14]; exact upd_same
    generalize upd (upd (upd Z13 e14 (exo e14 CTooMany none)) d14 (exd d14 [("most", v)])) e14 (exo e14 CTooMany (some d14)) = Z14 at s14 y14 w14 ⊢
    refine ⟨_, rfl, (by show 1 ≤ 1000; decide), fun e15 n15 => ⟨e15, _, rfl, upd_same, fun d15 nd15 ne15 => ⟨rfl, ?_⟩⟩⟩
    have s15 := same_over (o2 := exo e15 CUnknownName (some d15)) n15 (same_upd (o := exd d15 [("name", v)]) nd15)
    have y15 : (upd (upd (upd Z14 e15 (exo e15 CUnknownName none)) d15 (exd d15 [("name", v)])) e15 (exo e15 CUnknownName (some d15))) e15 = some (exo e15 CUnknownName (some d15)) := upd_same
    have w15 : (upd (upd (upd Z14 e15 (exo e15 CUnknownName none)) d15 (exd d15 [("name", v)])) e15 (exo e15 CUnknownName (some d15))) d15 = some (exd d15 [("name", v)]) := by rw [upd_ne ne15]; exact upd_same
    generalize upd (upd (upd Z14 e15 (exo e15 CUnknownName none)) d15 (exd d15 [("name", v)])) e15 (exo e15 CUnknownName (some d15)) = Z15 at s15 y15 w15 ⊢
    refine ⟨_, rfl, (by show 1 ≤ 1000; decide), fun e16 n16 => ⟨e16, _, rfl, upd_same, fun d16 nd16 ne16 => ⟨rfl, ?_⟩⟩⟩
    have s16 := same_over (o2 := exo e16 CMarked (some d16)) n16 (same_upd (o := exd d16 [("path", v)]) nd16)
    have y16 : (upd (upd (upd Z15 e16 (exo e16 CMarked none)) d16 (exd d16 [("path", v)])) e16 (exo e16 CMarked (some d16))) e16 = some (exo e16 CMarked (some d16)) := upd_same
    have w16 : (upd (upd (upd Z15 e16 (exo e16 CMarked none)) d16 (exd d16 [("path", v)])) e16 (exo e16 CMarked (some d16))) d16 = some (exd d16 [("path", v)]) := by rw [upd_ne ne16]; exact upd_same
    generalize upd (upd (upd Z15 e16 (exo e16 CMarked none)) d16 (exd d16 [("path", v)])) e16 (exo e16 CMarked (some d16)) = Z16 at s16 y16 w16 ⊢
    refine ⟨_, rfl, (by show 1 ≤ 1000; decide), fun e17 n17 => ⟨e17, _, rfl, upd_same, fun d17 nd17 ne17 => ⟨rfl, ?_⟩⟩⟩
    have s17 := same_over (o2 := exo e17 CBadText (some d17)) n17 (same_upd (o := exd d17 [("line", v)]) nd17)
    have y17 : (upd (upd (upd Z16 e17 (exo e17 CBadText none)) d17 (exd d17 [("line", v)])) e17 (exo e17 CBadText (some d17))) e17 = some (exo e17 CBadText (some d17)) := upd_same
    have w17 : (upd (upd (upd Z16 e17 (exo e17 CBadText none)) d17 (exd d17 [("line", v)])) e17 (exo e17 CBadText (some d17))) d17 = some (exd d17 [("line", v)]) := by rw [upd_ne ne17]; exact upd_same
    generalize upd (upd (upd Z16 e17 (exo e17 CBadText none)) d17 (exd d17 [("line", v)])) e17 (exo e17 CBadText (some d17)) = Z17 at s17 y17 w17 ⊢
    refine ⟨(lim 5 (by decide)), fun p18 np18 => ?_⟩
    have s18 := same_upd (o := .lst [V.ref e13, V.ref e14, V.ref e15, V.ref e16, V.ref e17]) np18
    have l18 : (upd Z17 p18 (.lst [V.ref e13, V.ref e14, V.ref e15, V.ref e16, V.ref e17])) p18 = some (.lst [V.ref e13, V.ref e14, V.ref e15, V.ref e16, V.ref e17]) := upd_same
    generalize upd Z17 p18 (.lst [V.ref e13, V.ref e14, V.ref e15, V.ref e16, V.ref e17]) = Z18 at s18 l18 ⊢
    refine ⟨_, rfl, ?_⟩
    refine ⟨(lim 5 (by decide)), fun p19 np19 => ?_⟩
    have s19 := same_upd (o := .lst [V.str "title", V.str "many", V.str "name", V.str "mark", V.str "text"]) np19
    have l19 : (upd Z18 p19 (.lst [V.str "title", V.str "many", V.str "name", V.str "mark", V.str "text"])) p19 = some (.lst [V.str "title", V.str "many", V.str "name", V.str "mark", V.str "text"]) := upd_same
    generalize upd Z18 p19 (.lst [V.str "title", V.str "many", V.str "name", V.str "mark", V.str "text"]) = Z19 at s19 l19 ⊢
    refine ⟨p12, p19, [V.str "value", V.str "book", V.str "kind", V.str "expression", V.str "layers", V.str "form", V.str "index", V.str "nothing"], [V.str "title", V.str "many", V.str "name", V.str "mark", V.str "text"], rfl, rfl, (s13.trans (s14.trans (s15.trans (s16.trans (s17.trans (s18.trans s19)))))) _ _ l12, (Same.refl _) _ _ l19, lim 13 (by decide), fun p20 np20 => ?_⟩
    have s20 := same_upd (o := .lst ([V.str "value", V.str "book", V.str "kind", V.str "expression", V.str "layers", V.str "form", V.str "index", V.str "nothing"] ++ [V.str "title", V.str "many", V.str "name", V.str "mark", V.str "text"])) np20
    have l20 : (upd Z19 p20 (.lst ([V.str "value", V.str "book", V.str "kind", V.str "expression", V.str "layers", V.str "form", V.str "index", V.str "nothing"] ++ [V.str "title", V.str "many", V.str "name", V.str "mark", V.str "text"]))) p20 = some (.lst ([V.str "value", V.str "book", V.str "kind", V.str "expression", V.str "layers", V.str "form", V.str "index", V.str "nothing"] ++ [V.str "title", V.str "many", V.str "name", V.str "mark", V.str "text"])) := upd_same
    generalize upd Z19 p20 (.lst ([V.str "value", V.str "book", V.str "kind", V.str "expression", V.str "layers", V.str "form", V.str "index", V.str "nothing"] ++ [V.str "title", V.str "many", V.str "name", V.str "mark", V.str "text"])) = Z20 at s20 l20 ⊢
    refine ⟨_, rfl, _, rfl, ?_⟩
    refine ⟨p11, p18, ([V.ref e1, V.ref e2, V.ref e3, V.ref e4, V.ref e5, V.ref e6] ++ [V.ref e8, V.ref e9]), [V.ref e13, V.ref e14, V.ref e15, V.ref e16, V.ref e17], rfl, rfl, (s12.trans (s13.trans (s14.trans (s15.trans (s16.trans (s17.trans (s18.trans (s19.trans s20)))))))) _ _ l11, (s19.trans s20) _ _ l18, lim 13 (by decide), fun p21 np21 => ?_⟩
    have s21 := same_upd (o := .lst (([V.ref e1, V.ref e2, V.ref e3, V.ref e4, V.ref e5, V.ref e6] ++ [V.ref e8, V.ref e9]) ++ [V.ref e13, V.ref e14, V.ref e15, V.ref e16, V.ref e17])) np21
    have l21 : (upd Z20 p21 (.lst (([V.ref e1, V.ref e2, V.ref e3, V.ref e4, V.ref e5, V.ref e6] ++ [V.ref e8, V.ref e9]) ++ [V.ref e13, V.ref e14, V.ref e15, V.ref e16, V.ref e17]))) p21 = some (.lst (([V.ref e1, V.ref e2, V.ref e3, V.ref e4, V.ref e5, V.ref e6] ++ [V.ref e8, V.ref e9]) ++ [V.ref e13, V.ref e14, V.ref e15, V.ref e16, V.ref e17])) := upd_same
    generalize upd Z20 p21 (.lst (([V.ref e1, V.ref e2, V.ref e3, V.ref e4, V.ref e5, V.ref e6] ++ [V.ref e8, V.ref e9]) ++ [V.ref e13, V.ref e14, V.ref e15, V.ref e16, V.ref e17])) = Z21 at s21 l21 ⊢
    refine ⟨_, rfl, ?_⟩
    have PE : Paired (fun (u : V) (D : Addr) => ∃ e, u = .ref e ∧ IsExc Z21 e D) (([V.ref e1, V.ref e2, V.ref e3, V.ref e4, V.ref e5, V.ref e6] ++ [V.ref e8, V.ref e9]) ++ [V.ref e13, V.ref e14, V.ref e15, V.ref e16, V.ref e17]) [CBadValue, CBadBook, CBadKind, CBadExpression, CBadLayers, CBadForm, CBadIndex, CNothingDone, CUnknownTitle, CTooMany, CUnknownName, CMarked, CBadText] := .cons ⟨e1, rfl, isExc_same (s2.trans (s3.trans (s4.trans (s5.trans (s6.trans (s7.trans (s8.trans (s9.trans (s10.trans (s11.trans (s12.trans (s13.trans (s14.trans (s15.trans (s16.trans (s17.trans (s18.trans (s19.trans (s20.trans s21))))))))))))))))))) x1⟩ (.cons ⟨e2, rfl, isExc_same (s3.trans (s4.trans (s5.trans (s6.trans (s7.trans (s8.trans (s9.trans (s10.trans (s11.trans (s12.trans (s13.trans (s14.trans (s15.trans (s16.trans (s17.trans (s18.trans (s19.trans (s20.trans s21)))))))))))))))))) x2⟩ (.cons ⟨e3, rfl, isExc_same (s4.trans (s5.trans (s6.trans (s7.trans (s8.trans (s9.trans (s10.trans (s11.trans (s12.trans (s13.trans (s14.trans (s15.trans (s16.trans (s17.trans (s18.trans (s19.trans (s20.trans s21))))))))))))))))) x3⟩ (.cons ⟨e4, rfl, isExc_same (s5.trans (s6.trans (s7.trans (s8.trans (s9.trans (s10.trans (s11.trans (s12.trans (s13.trans (s14.trans (s15.trans (s16.trans (s17.trans (s18.trans (s19.trans (s20.trans s21)))))))))))))))) x4⟩ (.cons ⟨e5, rfl, isExc_same (s6.trans (s7.trans (s8.trans (s9.trans (s10.trans (s11.trans (s12.trans (s13.trans (s14.trans (s15.trans (s16.trans (s17.trans (s18.trans (s19.trans (s20.trans s21))))))))))))))) x5⟩ (.cons ⟨e6, rfl, isExc_same (s7.trans (s8.trans (s9.trans (s10.trans (s11.trans (s12.trans (s13.trans (s14.trans (s15.trans (s16.trans (s17.trans (s18.trans (s19.trans (s20.trans s21)))))))))))))) x6⟩ (.cons ⟨e8, rfl, isExc_same (s9.trans (s10.trans (s11.trans (s12.trans (s13.trans (s14.trans (s15.trans (s16.trans (s17.trans (s18.trans (s19.trans (s20.trans s21)))))))))))) x8⟩ (.cons ⟨e9, rfl, isExc_same (s10.trans (s11.trans (s12.trans (s13.trans (s14.trans (s15.trans (s16.trans (s17.trans (s18.trans (s19.trans (s20.trans s21))))))))))) x9⟩ (.cons ⟨e13, rfl, .inr ⟨d13, [("title", v)], (s14.trans (s15.trans (s16.trans (s17.trans (s18.trans (s19.trans (s20.trans s21))))))) _ _ y13, (s14.trans (s15.trans (s16.trans (s17.trans (s18.trans (s19.trans (s20.trans s21))))))) _ _ w13⟩⟩ (.cons ⟨e14, rfl, .inr ⟨d14, [("most", v)], (s15.trans (s16.trans (s17.trans (s18.trans (s19.trans (s20.trans s21)))))) _ _ y14, (s15.trans (s16.trans (s17.trans (s18.trans (s19.trans (s20.trans s21)))))) _ _ w14⟩⟩ (.cons ⟨e15, rfl, .inr ⟨d15, [("name", v)], (s16.trans (s17.trans (s18.trans (s19.trans (s20.trans s21))))) _ _ y15, (s16.trans (s17.trans (s18.trans (s19.trans (s20.trans s21))))) _ _ w15⟩⟩ (.cons ⟨e16, rfl, .inr ⟨d16, [("path", v)], (s17.trans (s18.trans (s19.trans (s20.trans s21)))) _ _ y16, (s17.trans (s18.trans (s19.trans (s20.trans s21)))) _ _ w16⟩⟩ (.cons ⟨e17, rfl, .inr ⟨d17, [("line", v)], (s18.trans (s19.trans (s20.trans s21))) _ _ y17, (s18.trans (s19.trans (s20.trans s21))) _ _ w17⟩⟩ (.nil)))))))))))))
    have l8z : Z21 p21 = some (.lst (([V.ref e1, V.ref e2, V.ref e3, V.ref e4, V.ref e5, V.ref e6] ++ [V.ref e8, V.ref e9]) ++ [V.ref e13, V.ref e14, V.ref e15, V.ref e16, V.ref e17])) := (Same.refl _) _ _ l21
    have l7z : Z21 p20 = some (.lst (dues.map V.str)) := s21 _ _ l20
    have yz13 : Z21 e13 = some (exo e13 CUnknownTitle (some d13)) := (s14.trans (s15.trans (s16.trans (s17.trans (s18.trans (s19.trans (s20.trans s21))))))) _ _ y13
    have wz13 : Z21 d13 = some (exd d13 [("title", v)]) := (s14.trans (s15.trans (s16.trans (s17.trans (s18.trans (s19.trans (s20.trans s21))))))) _ _ w13
    have yz14 : Z21 e14 = some (exo e14 CTooMany (some d14)) := (s15.trans (s16.trans (s17.trans (s18.trans (s19.trans (s20.trans s21)))))) _ _ y14
    have wz14 : Z21 d14 = some (exd d14 [("most", v)]) := (s15.trans (s16.trans (s17.trans (s18.trans (s19.trans (s20.trans s21)))))) _ _ w14
    have yz15 : Z21 e15 = some (exo e15 CUnknownName (some d15)) := (s16.trans (s17.trans (s18.trans (s19.trans (s20.trans s21))))) _ _ y15
    have wz15 : Z21 d15 = some (exd d15 [("name", v)]) := (s16.trans (s17.trans (s18.trans (s19.trans (s20.trans s21))))) _ _ w15
    have yz16 : Z21 e16 = some (exo e16 CMarked (some d16)) := (s17.trans (s18.trans (s19.trans (s20.trans s21)))) _ _ y16
    have wz16 : Z21 d16 = some (exd d16 [("path", v)]) := (s17.trans (s18.trans (s19.trans (s20.trans s21)))) _ _ w16
    have yz17 : Z21 e17 = some (exo e17 CBadText (some d17)) := (s18.trans (s19.trans (s20.trans s21))) _ _ y17
    have wz17 : Z21 d17 = some (exd d17 [("line", v)]) := (s18.trans (s19.trans (s20.trans s21))) _ _ w17
    have l5z : Z21 p18 = some (.lst [V.ref e13, V.ref e14, V.ref e15, V.ref e16, V.ref e17]) := (s19.trans (s20.trans s21)) _ _ l18
    have gz : Td K (fun _ => True) Z21 v d := g0.mono (fun _ z => z) fun b o _ z => (s1.trans (s2.trans (s3.trans (s4.trans (s5.trans (s6.trans (s7.trans (s8.trans (s9.trans (s10.trans (s11.trans (s12.trans (s13.trans (s14.trans (s15.trans (s16.trans (s17.trans (s18.trans (s19.trans (s20.trans s21)))))))))))))))))))) _ _ z
    have sz : Same H Z21 := sm.trans (sZ.trans (s1.trans (s2.trans (s3.trans (s4.trans (s5.trans (s6.trans (s7.trans (s8.trans (s9.trans (s10.trans (s11.trans (s12.trans (s13.trans (s14.trans (s15.trans (s16.trans (s17.trans (s18.trans (s19.trans (s20.trans s21)))))))))))))))))))))
    have lxs : ((([V.ref e1, V.ref e2, V.ref e3, V.ref e4, V.ref e5, V.ref e6] ++ [V.ref e8, V.ref e9]) ++ [V.ref e13, V.ref e14, V.ref e15, V.ref e16, V.ref e17]) : List V).length = 13 := rfl
    have l3s : ∃ vs5, some (V.ref p11) = vs5 := ⟨_, rfl⟩
    generalize (([V.ref e1, V.ref e2, V.ref e3, V.ref e4, V.ref e5, V.ref e6] ++ [V.ref e8, V.ref e9]) ++ [V.ref e13, V.ref e14, V.ref e15, V.ref e16, V.ref e17]) = xs8 at PE l8z lxs ⊢
    refine ⟨p21, p20, xs8, dues.map V.str, rfl, .inl (.inl l8z), .inl (.inl l7z), ?_⟩
    refine for_it (walk_zip (n := 13) (by rw [lxs]; rfl)) (fun j σ Hc => ∃ (v8 v9 v10 v11 : Option V), σ = [some (.ref a), some (.int (0 + (i : Int))), some (.ref sa), some (.str x), some v, some (.ref p11), some (.ref p20), some (.ref p18), v8, v9, v10, v11] ∧ Same Z21 Hc)
      ⟨v8, v9, v10, v11, rfl, Same.refl _⟩ (fun j σ Hc _ ⟨_, _, _, _, _, sc⟩ => ⟨.inl (.inl (sc _ _ l8z)), .inl (.inl (sc _ _ l7z))⟩) ?_ ?_
    · rintro j u σ Hc Hd hj ⟨v8, v9, v10, v11, rfl, sc⟩ ⟨Tt, er, du, rfl, nT, rfl, hxe, hye⟩
      obtain ⟨D, hD, e, rfl, he⟩ := paired_at PE hxe
      obtain ⟨due, hdue, rfl⟩ : ∃ due, dues[j]? = some due ∧ du = .str due := by
        replace hye : (dues.map V.str)[j]? = some du := hye
        rw [List.getElem?_map] at hye
        cases q : dues[j]? with
        | none => rw [q] at hye; cases hye
        | some z => rw [q] at hye; exact ⟨z, rfl, (Option.some.inj hye).symm⟩
      obtain ⟨te, tm, tv, bs, lb, kb, tb⟩ := TL.each j D due hD hdue
      have sT := same_upd (o := .tup [.ref e, .str due]) nT
      have he2 := isExc_same (sc.trans sT) he
      refine ⟨Tt, _, rfl, .inl (.inl upd_same), rfl, _, _, rfl, _, _, rfl, rfl, ?_⟩
      refine ⟨_, rfl, e, D, bs, rfl, he2, te, lb, kb, fun p He sE np hp => ?_⟩
      rw [tb] at hp
      have dp : (MB.T.str due).pl 8 = true := dues_pl j due hdue
      refine ⟨_, rfl, one, fun q nq => ⟨[], .lst [.str due], .lst [.str due], false, repVStr (by rw [upd_ne (ne_of_none hp nq)]; exact hp), repVStr upd_same, neSame dp, false, rfl, ?_⟩⟩
      have he3 := isExc_same (sE.trans (same_upd (o := .lst [V.str due]) nq)) he2
      refine ⟨_, rfl, e, D, .ref ME, .ref ME, true, rfl, he3, (fun _ z => z), te, tm, true, rfl, ?_⟩
      refine ⟨_, rfl, e, D, .ty "ValueError", .type "ValueError", true, rfl, he3, (fun _ z => z), te, tv, true, rfl, ?_⟩
      exact ⟨_, _, _, _, rfl, sc.trans (sT.trans (sE.trans (same_upd nq)))⟩
    rintro σ Hc ⟨v8, v9, v10, v11, rfl, sc⟩
    refine ⟨_, rfl, p18, [V.ref e13, V.ref e14, V.ref e15, V.ref e16, V.ref e17], 0, .ref e13, rfl, rfl, .inl (.inl (sc _ _ l5z)), rfl, e13, CUnknownTitle, d13, [("title", v)], v, rfl, HUnknownTitle.xf, HUnknownTitle.held.no, sc _ _ yz13, sc _ _ wz13, look1 _ _, ?_⟩
    refine ⟨_, rfl, p18, [V.ref e13, V.ref e14, V.ref e15, V.ref e16, V.ref e17], 1, .ref e14, rfl, rfl, .inl (.inl (sc _ _ l5z)), rfl, e14, CTooMany, d14, [("most", v)], v, rfl, HTooMany.xf, HTooMany.held.no, sc _ _ yz14, sc _ _ wz14, look1 _ _, ?_⟩
    refine ⟨_, rfl, p18, [V.ref e13, V.ref e14, V.ref e15, V.ref e16, V.ref e17], 2, .ref e15, rfl, rfl, .inl (.inl (sc _ _ l5z)), rfl, e15, CUnknownName, d15, [("name", v)], v, rfl, HUnknownName.xf, HUnknownName.held.no, sc _ _ yz15, sc _ _ wz15, look1 _ _, ?_⟩
    refine ⟨_, rfl, p18, [V.ref e13, V.ref e14, V.ref e15, V.ref e16, V.ref e17], 3, .ref e16, rfl, rfl, .inl (.inl (sc _ _ l5z)), rfl, e16, CMarked, d16, [("path", v)], v, rfl, HMarked.xf, HMarked.held.no, sc _ _ yz16, sc _ _ wz16, look1 _ _, ?_⟩
    refine ⟨_, rfl, p18, [V.ref e13, V.ref e14, V.ref e15, V.ref e16, V.ref e17], 4, .ref e17, rfl, rfl, .inl (.inl (sc _ _ l5z)), rfl, e17, CBadText, d17, [("line", v)], v, rfl, HBadText.xf, HBadText.held.no, sc _ _ yz17, sc _ _ wz17, look1 _ _, ?_⟩
    refine ⟨(lim 5 (by decide)), fun p22 np22 => ?_⟩
    have s22 := same_upd (o := .lst [v, v, v, v, v]) np22
    have l22 : (upd Hc p22 (.lst [v, v, v, v, v])) p22 = some (.lst [v, v, v, v, v]) := upd_same
    generalize upd Hc p22 (.lst [v, v, v, v, v]) = Z22 at s22 l22 ⊢
    refine ⟨_, rfl, (by show 1 ≤ 1000; decide), fun e23 n23 => ⟨e23, _, rfl, upd_same, fun d23 nd23 ne23 => ⟨rfl, ?_⟩⟩⟩
    have s23 := same_over (o2 := exo e23 CUnknownTitle (some d23)) n23 (same_upd (o := exd d23 [("title", v)]) nd23)
    have y23 : (upd (upd (upd Z22 e23 (exo e23 CUnknownTitle none)) d23 (exd d23 [("title", v)])) e23 (exo e23 CUnknownTitle (some d23))) e23 = some (exo e23 CUnknownTitle (some d23)) := upd_same
    have w23 : (upd (upd (upd Z22 e23 (exo e23 CUnknownTitle none)) d23 (exd d23 [("title", v)])) e23 (exo e23 CUnknownTitle (some d23))) d23 = some (exd d23 [("title", v)]) := by rw [upd_ne ne23]; exact upd_same
    generalize upd (upd (upd Z22 e23 (exo e23 CUnknownTitle none)) d23 (exd d23 [("title", v)])) e23 (exo e23 CUnknownTitle (some d23)) = Z23 at s23 y23 w23 ⊢
    refine ⟨e23, CUnknownTitle, d23, [("title", v)], v, rfl, HUnknownTitle.xf, HUnknownTitle.held.no, y23, w23, look1 _ _, ?_⟩
    refine ⟨_, rfl, (by show 1 ≤ 1000; decide), fun e24 n24 => ⟨e24, _, rfl, upd_same, fun d24 nd24 ne24 => ⟨rfl, ?_⟩⟩⟩
    have s24 := same_over (o2 := exo e24 CTooMany (some d24)) n24 (same_upd (o := exd d24 [("most", v)]) nd24)
    have y24 : (upd (upd (upd Z23 e24 (exo e24 CTooMany none)) d24 (exd d24 [("most", v)])) e24 (exo e24 CTooMany (some d24))) e24 = some (exo e24 CTooMany (some d24)) := upd_same
    have w24 : (upd (upd (upd Z23 e24 (exo e24 CTooMany none)) d24 (exd d24 [("most", v)])) e24 (exo e24 CTooMany (some d24))) d24 = some (exd d24 [("most", v)]) := by rw [upd_ne ne24]; exact upd_same
    generalize upd (upd (upd Z23 e24 (exo e24 CTooMany none)) d24 (exd d24 [("most", v)])) e24 (exo e24 CTooMany (some d24)) = Z24 at s24 y24 w24 ⊢
    refine ⟨e24, CTooMany, d24, [("most", v)], v, rfl, HTooMany.xf, HTooMany.held.no, y24, w24, look1 _ _, ?_⟩
    refine ⟨_, rfl, (by show 1 ≤ 1000; decide), fun e25 n25 => ⟨e25, _, rfl, upd_same, fun d25 nd25 ne25 => ⟨rfl, ?_⟩⟩⟩
    have s25 := same_over (o2 := exo e25 CUnknownName (some d25)) n25 (same_upd (o := exd d25 [("name", v)]) nd25)
    have y25 : (upd (upd (upd Z24 e25 (exo e25 CUnknownName none)) d25 (exd d25 [("name", v)])) e25 (exo e25 CUnknownName (some d25))) e25 = some (exo e25 CUnknownName (some d25)) := upd_same
    have w25 : (upd (upd (upd Z24 e25 (exo e25 CUnknownName none)) d25 (exd d25 [("name", v)])) e25 (exo e25 CUnknownName (some d25))) d25 = some (exd d25 [("name", v)]) := by rw [upd_ne ne25]; exact upd_same
    generalize upd (upd (upd Z24 e25 (exo e25 CUnknownName none)) d25 (exd d25 [("name", v)])) e25 (exo e25 CUnknownName (some d25)) = Z25 at s25 y25 w25 ⊢
    refine ⟨e25, CUnknownName, d25, [("name", v)], v, rfl, HUnknownName.xf, HUnknownName.held.no, y25, w25, look1 _ _, ?_⟩
    refine ⟨(lim 3 (by decide)), fun p26 np26 => ?_⟩
    have s26 := same_upd (o := .lst [v, v, v]) np26
    have l26 : (upd Z25 p26 (.lst [v, v, v])) p26 = some (.lst [v, v, v]) := upd_same
    generalize upd Z25 p26 (.lst [v, v, v]) = Z26 at s26 l26 ⊢
    refine ⟨_, rfl, ?_⟩
    refine ⟨_, rfl, (by show 1 ≤ 1000; decide), fun e27 n27 => ⟨e27, _, rfl, upd_same, fun d27 nd27 ne27 => ⟨rfl, ?_⟩⟩⟩
    have s27 := same_over (o2 := exo e27 CMarked (some d27)) n27 (same_upd (o := exd d27 [("path", v)]) nd27)
    have y27 : (upd (upd (upd Z26 e27 (exo e27 CMarked none)) d27 (exd d27 [("path", v)])) e27 (exo e27 CMarked (some d27))) e27 = some (exo e27 CMarked (some d27)) := upd_same
    have w27 : (upd (upd (upd Z26 e27 (exo e27 CMarked none)) d27 (exd d27 [("path", v)])) e27 (exo e27 CMarked (some d27))) d27 = some (exd d27 [("path", v)]) := by rw [upd_ne ne27]; exact upd_same
    generalize upd (upd (upd Z26 e27 (exo e27 CMarked none)) d27 (exd d27 [("path", v)])) e27 (exo e27 CMarked (some d27)) = Z27 at s27 y27 w27 ⊢
    refine ⟨e27, CMarked, d27, [("path", v)], v, rfl, HMarked.xf, HMarked.held.no, y27, w27, look1 _ _, ?_⟩
    refine ⟨_, rfl, (by show 1 ≤ 1000; decide), fun e28 n28 => ⟨e28, _, rfl, upd_same, fun d28 nd28 ne28 => ⟨rfl, ?_⟩⟩⟩
    have s28 := same_over (o2 := exo e28 CBadText (some d28)) n28 (same_upd (o := exd d28 [("line", v)]) nd28)
    have y28 : (upd (upd (upd Z27 e28 (exo e28 CBadText none)) d28 (exd d28 [("line", v)])) e28 (exo e28 CBadText (some d28))) e28 = some (exo e28 CBadText (some d28)) := upd_same
    have w28 : (upd (upd (upd Z27 e28 (exo e28 CBadText none)) d28 (exd d28 [("line", v)])) e28 (exo e28 CBadText (some d28))) d28 = some (exd d28 [("line", v)]) := by rw [upd_ne ne28]; exact upd_same
    generalize upd (upd (upd Z27 e28 (exo e28 CBadText none)) d28 (exd d28 [("line", v)])) e28 (exo e28 CBadText (some d28)) = Z28 at s28 y28 w28 ⊢
    refine ⟨e28, CBadText, d28, [("line", v)], v, rfl, HBadText.xf, HBadText.held.no, y28, w28, look1 _ _, ?_⟩
    refine ⟨(lim 2 (by decide)), fun p29 np29 => ?_⟩
    have s29 := same_upd (o := .lst [v, v]) np29
    have l29 : (upd Z28 p29 (.lst [v, v])) p29 = some (.lst [v, v]) := upd_same
    generalize upd Z28 p29 (.lst [v, v]) = Z29 at s29 l29 ⊢
    refine ⟨p26, p29, [v, v, v], [v, v], rfl, rfl, (s27.trans (s28.trans s29)) _ _ l26, (Same.refl _) _ _ l29, lim 5 (by decide), fun p30 np30 => ?_⟩
    have s30 := same_upd (o := .lst ([v, v, v] ++ [v, v])) np30
    have l30 : (upd Z29 p30 (.lst ([v, v, v] ++ [v, v]))) p30 = some (.lst ([v, v, v] ++ [v, v])) := upd_same
    generalize upd Z29 p30 (.lst ([v, v, v] ++ [v, v])) = Z30 at s30 l30 ⊢
    have smz := sm5 wee
    have gH : Td K (fun _ => True) Z30 v d := gz.mono (fun _ z => z) fun b o _ z => (s22.trans (s23.trans (s24.trans (s25.trans (s26.trans (s27.trans (s28.trans (s29.trans s30)))))))) _ _ (sc _ _ z)
    have tt : Td K (fun _ => True) Z30 (.ref p22) (.list [d, d, d, d, d]) := .lst trivial (.inl ((s23.trans (s24.trans (s25.trans (s26.trans (s27.trans (s28.trans (s29.trans s30))))))) _ _ l22)) (five gH)
    have tm : Td K (fun _ => True) Z30 (.ref p30) (.list [d, d, d, d, d]) := .lst trivial (.inl l30) (five gH)
    refine ⟨_, rfl, p22, _, fun _ => True, rfl, tt, smz, ?_⟩
    refine ⟨_, rfl, one, fun q1 nq1 => ⟨q1, 5, [v], rfl, rfl, upd_same, by decide, by decide, lim _ (by show 5 ≤ 130; decide), fun q2 nq2 => ?_⟩⟩
    have sq1 := same_upd (o := .lst [v]) nq1
    have sq2 := same_upd (o := .lst (List.replicate (5 : Int).toNat [v]).flatten) nq2
    have sq := sq1.trans sq2
    have gQ := gH.mono (fun _ z => z) fun b o _ z => sq _ _ z
    refine ⟨q2, _, fun _ => True, rfl, .lst trivial (.inl upd_same) (five gQ), smz, rfl, _, rfl, iteNS rfl ?_⟩
    refine ⟨_, rfl, p30, _, fun _ => True, rfl, tm.mono (fun _ z => z) (fun b o _ z => sq _ _ z), smz, _, rfl, p22, _, fun _ => True, rfl, tt.mono (fun _ z => z) (fun b o _ z => sq _ _ z), smz, rfl, _, rfl, iteNS rfl ?_⟩
    exact ⟨_, _, _, _, _, _, _, _, _, _, _, rfl, sz.trans (sc.trans ((s22.trans (s23.trans (s24.trans (s25.trans (s26.trans (s27.trans (s28.trans (s29.trans s30)))))))).trans sq))⟩
end
end Dr

set_option Elab.async false
set_option linter.all false
set_option maxRecDepth 100000
set_option maxHeartbeats 0
/-! The head: what the top leaves, read by a Hook. -/
namespace Hd
open PySem PySem.Spec PyProof.Rows L2 He
def exB (K : PySem.W.Frag) (D : Addr) : Bool := (PySem.W.clsIn K D).isSome && (eqO (PySem.W.findIn K (.ref D) "__getattribute__") (some (some (.builtin "BaseException.__getattribute__"))) && (eqO (PySem.W.findIn K (.ref D) "__getattr__") (some none) &&
  (decide (PySem.W.subIn K (.ref D) (.type "BaseException") = some true) && (eqO (PySem.W.findIn K (.ref D) "__class__") (some (some (.builtin "object.__class__"))) &&
  (eqO (PySem.W.specialIn K (.builtin "object.__class__") "__get__") (some (some (.builtin "getset_descriptor.__get__"))) && (decide (PySem.W.takesIn K (.builtin "object.__class__") = some true) && decide (PySem.W.mroIn K D (.type "object") = some true)))))))
theorem exB_ok {K : PySem.W.Frag} {D : Addr} (h : exB K D = true) : Ex.ExcD K D := by
  obtain ⟨a1, h⟩ := ba h
  obtain ⟨a2, h⟩ := ba h
  obtain ⟨a3, h⟩ := ba h
  obtain ⟨a4, h⟩ := ba h
  obtain ⟨a5, h⟩ := ba h
  obtain ⟨a6, h⟩ := ba h
  obtain ⟨a7, a8⟩ := ba h
  exact ⟨a1, eqO_ok a2, eqO_ok a3, of_decide_eq_true a4, eqO_ok a5, eqO_ok a6, of_decide_eq_true a7, of_decide_eq_true a8⟩
def shapeB (K : PySem.W.Frag) (C : Addr) : Bool := match K.lookup C with
  | some ⟨.type t, _, .cls cd, sl⟩ => (match cd.mro, sl.toList with
    | .ref C' :: bm, [_, _, _, _, some (.builtin n), _] => decide (t = "type") && (decide (C' = C) && (decide (n = "ValueError.__new__") && (!cd.hasDel && (cd.hasDict && PySem.HandSPX.refsVE bm))))
    | _, _ => false)
  | _ => false
theorem shapeB_ok {K : PySem.W.Frag} {C : Addr} (h : shapeB K C = true) : ∃ nm q N bs bm sn sub ab col dd k0 k1 k2 k3 k5, K.lookup C = some (excClassObj nm q C N bs bm true sn sub ab col dd k0 k1 k2 k3 k5 "ValueError.__new__") ∧ PySem.HandSPX.refsVE bm = true := by
  unfold shapeB at h
  cases e : K.lookup C with
  | none => rw [e] at h; cases h
  | some o =>
    rw [e] at h
    obtain ⟨oc, od, dt, osl⟩ := o
    cases oc with
    | type t =>
      cases dt with
      | cls cd =>
        obtain ⟨nm, bs, mro, ns, qn, hd, sn, sub, ab, col, del⟩ := cd
        obtain ⟨l⟩ := osl
        dsimp only at h
        split at h
        · rename_i C' bm k0 k1 k2 k3 n k5
          obtain ⟨b1, h⟩ := ba h
          obtain ⟨b2, h⟩ := ba h
          obtain ⟨b3, h⟩ := ba h
          obtain ⟨b4, h⟩ := ba h
          obtain ⟨b5, b6⟩ := ba h
          have c1 := of_decide_eq_true b1
          have c2 := of_decide_eq_true b2
          have c3 := of_decide_eq_true b3
          have c4 : del = false := by cases del <;> first | rfl | cases b4
          have c5 : hd = true := b5
          subst c1 c2 c3 c4 c5
          exact ⟨_, _, _, _, _, _, _, _, _, _, _, _, _, _, _, rfl, b6⟩
        · cases h
      | _ => cases h
    | _ => cases dt <;> cases h
def heldB (K : PySem.W.Frag) (C : Addr) (f : Str) : Bool := shapeB K C && (eqO (PySem.W.findIn K (.ref C) "__setattr__") (some (some (.builtin "object.__setattr__"))) && (decide (PySem.W.subIn K (.ref C) (.type "BaseException") = some true) &&
  (decide (PySem.W.typeIn K (.ref C) = some (.type "type")) && (PySem.W.keepIn K (.ref C) && (eqO (PySem.W.findIn K (.ref C) f) (some none) && (eqO (PySem.W.findIn K (.ref C) "__init__") (some (some (.ref (ma K C "__init__")))) &&
  (decide (PySem.W.typeIn K (.ref (ma K C "__init__")) = some (.type "function")) && xfB K C)))))))
structure HeldAll (K : PySem.W.Frag) (C : Addr) (f : Str) : Prop where
  held : Dr.Held K C f
  ini : PySem.W.findIn K (.ref C) "__init__" = some (some (.ref (ma K C "__init__")))
  fn : PySem.W.typeIn K (.ref (ma K C "__init__")) = some (.type "function")
  xf : XfC K C
theorem heldB_ok {K : PySem.W.Frag} {C : Addr} {f : Str} (h : heldB K C f = true) : HeldAll K C f := by
  obtain ⟨a1, h⟩ := ba h
  obtain ⟨a2, h⟩ := ba h
  obtain ⟨a3, h⟩ := ba h
  obtain ⟨a4, h⟩ := ba h
  obtain ⟨a5, h⟩ := ba h
  obtain ⟨a6, h⟩ := ba h
  obtain ⟨a7, h⟩ := ba h
  obtain ⟨a8, a9⟩ := ba h
  exact ⟨⟨⟨shapeB_ok a1, eqO_ok a2, of_decide_eq_true a3, of_decide_eq_true a4, a5⟩, eqO_ok a6⟩, eqO_ok a7, of_decide_eq_true a8, xfB_ok a9⟩
def baseB (K : PySem.W.Frag) (B : Addr) : Bool := PySem.W.readsIn K B (.type "type") && (eqO (PySem.W.specialIn K (.ref B) "__getattribute__") (some (some (.builtin "type.__getattribute__"))) && match PySem.W.findCls K (.ref B) (.type "type") "__init__" with
  | some (.val (.builtin b)) => decide (b = "ValueError.__init__")
  | _ => false)
theorem baseB_ok {K : PySem.W.Frag} {B : Addr} (h : baseB K B = true) : Ex.BaseI K B := by
  obtain ⟨a1, h⟩ := ba h
  obtain ⟨a2, h⟩ := ba h
  refine ⟨a1, eqO_ok a2, ?_⟩
  split at h
  · rename_i b e
    rw [e, of_decide_eq_true h]
  · cases h
def sysB (K : PySem.W.Frag) : Bool := match K.lookup sysModules with
  | some o => (match o.data with
    | .dict _ _ => true
    | _ => false)
  | none => false
theorem sysB_ok {K : PySem.W.Frag} (h : sysB K = true) : Gd.HasSys K := by
  unfold sysB at h
  split at h
  · rename_i o e
    split at h
    · rename_i es n e2
      exact ⟨o, es, n, e, e2⟩
    · cases h
  · cases h
/-- a Hook with a further look c at the written part -/
def obsX (n : Nat) (c : PySem.W.Frag → Bool) (fa : List Fa) (fn : List DefD) (g : Addr → Option Obj) : Bool × AlD := (fun K => (c K, obsD fa fn K)) (frG g (cStatics :: sysModules :: asD g n))
def hookX (n : Nat) (c : PySem.W.Frag → Bool) (fa : List Fa) (fn : List DefD) : PySem.W.Hook where
  α := Bool × AlD
  obs := fun s => obsX n c fa fn s.heap.get?
  val := fun _ => (true, valD fn)
  says := fun _ h => ∃ K : PySem.W.Frag, K.In h ∧ c K = true ∧ SaysD fa fn K
  of := fun _ _ e => ⟨_, frG_in, congrArg (fun z : Bool × AlD => z.1) e, congrArg (fun z : Bool × AlD => z.2) e⟩
  keeps := fun _ _ _ ⟨K, hK, h1, h2⟩ k => ⟨K, PySem.W.Frag.In.keeps hK k, h1, h2⟩
theorem obsX_eq {n : Nat} {c : PySem.W.Frag → Bool} {fa : List Fa} {fn : List DefD} {g : Addr → Option Obj} {s : Shared} (h : ∀ a, g a = s.heap.get? a) : obsX n c fa fn g = (hookX n c fa fn).obs s := by
  have e : g = s.heap.get? := funext h
  rw [e] <;> rfl
/-! ### this law's -/
def targets : List Str := ["BadValue", "BadBook", "UnknownTitle", "BadKind", "BadExpression", "TooMany", "BadLayers", "UnknownName", "BadForm", "Marked", "BadIndex", "NothingDone", "BadText"]
def held : List (Str × Str) := [("UnknownTitle", "title"), ("TooMany", "most"), ("UnknownName", "name"), ("Marked", "path"), ("BadText", "line")]
def plain : List Str := ["BadValue", "BadBook", "BadKind", "BadExpression", "BadLayers", "BadForm", "BadIndex", "NothingDone", "MergeError"]
def chk (K : PySem.W.Frag) : Bool := sysB K && (baseB K (ga K "MergeError") && ((held.all fun p => heldB K (ga K p.1) p.2) && (((("MergeError" : Str)) :: targets).all fun x => exB K (ga K x) && ((targets.all fun y => decide (PySem.W.kitOne K (.ref (ga K x)) (.ref (ga K y)) = some (decide (x = y)))) &&
  (decide (PySem.W.kitOne K (.ref (ga K x)) (.ref (ga K "MergeError")) = some true) && decide (PySem.W.kitOne K (.ref (ga K x)) (.type "ValueError") = some true))))))
def dfOf (x : Str) (i : Nat) : DefD := ⟨(x, none), x, x, defArgs (Dr.topS i), defBody (Dr.topS i), defScope (Dr.topS i), [], []⟩
def diOf (x : Str) (i : Nat) : DefD := ⟨(x, some "__init__"), "__init__", x ++ ".__init__", defArgs (inClass (Dr.topS i) 0), defBody (inClass (Dr.topS i) 0), defScope (inClass (Dr.topS i) 0), [], []⟩
def fn : List DefD := [dfOf "_law_begun" 16, dfOf "_law_mixed" 17, dfOf "_law_take" 18, dfOf "_law_pick" 19, dfOf "_law_word" 20, dfOf "_law_kinds" 22, dfOf "_law_any" 23, dfOf "law" 24, diOf "UnknownTitle" 4, diOf "TooMany" 7, diOf "UnknownName" 9, diOf "Marked" 11, diOf "BadText" 14]
def frees : List Str := ["list", "int", "len", "range", "isinstance", "max", "min", "zip", "repr", "ValueError"]
def fa : List Fa := (([("_law_begun" : Str), "_law_mixed", "_law_take", "_law_pick", "_law_word", "_law_kinds", "_law_any", "law"] : List Str).map fun x => Fa.glo x) ++ (frees.map fun x => Fa.free x) ++ (((("MergeError" : Str)) :: targets).map fun x => Fa.glo x) ++ (plain.map fun x => Fa.exc x)
abbrev R : PySem.W.OpenRow := PySem.W.OpenLaw.row PySem.Challenge.rw_mergebooks_k01_errors_apart
abbrev hk : PySem.W.Hook := hookX 6 chk fa fn
def ob (s : PySem.W.SharedT) : Bool × AlD := obsX 6 chk fa fn (HandSHeadRun.getT s)
theorem ob_eq (s : PySem.W.SharedT) : ob s = hk.obs s.abs := obsX_eq (HandSHeadRun.getT_eq s)
def loose : List Str := ["MergeError", "BadValue", "BadBook", "UnknownTitle", "BadKind", "BadExpression", "TooMany", "BadLayers", "UnknownName", "BadForm", "Marked", "BadIndex", "NothingDone", "BadText", "_law_begun", "_law_mixed", "_law_take", "_law_pick", "_law_word", "_law_words", "_law_kinds", "_law_any"]
theorem run (w : World) : HandSHeadRun.RunEq R (PySem.W.view R.prog [24]) hk ob 40000 loose w := by
  intro os
  kernel_rfl
end Hd

set_option Elab.async false
set_option linter.all false
set_option maxRecDepth 100000
set_option maxHeartbeats 1000000
/-! The end. -/
namespace Gd
open PySem PySem.Spec PyProof.Rows L2
/-- the law's def, entered by the claim's caller, the script read at H -/
theorem enterH {P : Program} {w : World} {K : PySem.W.Frag} {mg mb : Str → Option Value} {k : Nat} {fa a : Addr} {fd : FuncData} {x : Str} {sp : Sp} {s₁ : Shared} {H : Hp} {xs : List Value}
    (KX : K.In s₁.heap) (g1 : s₁.heap.Ns mainGlobals mg) (g2 : s₁.heap.Ns builtinsNs mb) (g3 : ∀ y : Str, y ≠ "__name__" → mb y = bootBuiltins y) (g4 : s₁.heap.NoLimit) (g5 : s₁.gens = #[]) (ha : s₁.heap.get? a = some { cls := .type "list", data := .seq xs.toArray })
    (hO : Only H) (hok : HOk P w H s₁.heap) (only : ∀ b, H b ≠ none → b = a) (hK : H a ≠ none → K.lookup a = none) (hr : Room k callerA)
    (F : ∀ base : Heap, K.In base → base.Ns mainGlobals mg → FnG P w K mg base CX0 k fa fd [x] sp) (bind : ∀ (s : Shared) (u : Value), BindsTo s fd ⟨[u], []⟩ [(x, u)]) (hsp : sp [.ref a] H (fun v _ => v = .bl true) fun _ _ _ => False) :
    codeAny (model P w) callerA (.call (.ref fa) ⟨[.ref a], []⟩) (fun r s' => r = .ok (.ret (.bool true)) ∧ OldK s₁.heap s'.heap ∧ s'.os = s₁.os ∧ AllBare s'.gens) s₁ := by
  -- what is not the script stands in the base
  have free : ∀ b : Addr, b ≠ a → H b = none := fun b n => by
    cases q : H b with
    | none => rfl
    | some u => exact absurd (only b (by rw [q]; exact fun z => nomatch z)) n
  have dictNo : ∀ {b : Addr} {o : Obj} {es : Array DictEntry} {ep : Nat}, s₁.heap.get? b = some o → o.data = .dict es ep → H b = none := fun {b o es ep} e d => free b fun z => by
    subst z
    rw [ha] at e
    cases e
    cases d
  have ns : ∀ {b : Addr} {m : Str → Option Value}, s₁.heap.Ns b m → (hidT s₁.heap H).Ns b m := fun {b m} z => by
    obtain ⟨o, es, ep, e, d, r⟩ := z
    exact ⟨o, es, ep, hidT_get e (dictNo e d), d, r⟩
  have kin : K.In (hidT s₁.heap H) := fun b o e => hidT_get (KX b o e) (by
    by_cases z : b = a
    · subst z
      cases q : H b with
      | none => rfl
      | some u => rw [hK (by rw [q]; exact fun z => nomatch z)] at e; cases e
    · exact free b z)
  have lim : (hidT s₁.heap H).NoLimit := by
    obtain ⟨mc, z1, z2⟩ := g4
    exact ⟨mc, ns z1, z2⟩
  have env : Env0 P w K mg (hidT s₁.heap H) callerA [] s₁ H := ⟨rfl, ⟨kin, ns g1, ⟨mb, ns g2, g3⟩, lim⟩, fun _ _ e => of_hidT e, Nat.le_of_eq (hidT_size _ _), trivial, (fun _ hb => nomatch hb), hok, AllBare.of_eq g5⟩
  refine codeAny_mono ((F _ kin (ns g1)).go callerA [] s₁ H ⟨[.ref a], []⟩ [.ref a] [.ref a] _ _ rfl hr env (bind s₁ (.ref a)) (.cons rfl .nil) hsp) fun r s' z => ?_
  cases r with
  | error e => exact False.elim z
  | ok fl =>
    cases fl with
    | ret u =>
      obtain ⟨v, H', z1, z2, un, hok', rv, q⟩ := z
      obtain rfl : v = .bl true := q
      obtain rfl : u = Value.bool true := rv
      refine ⟨rfl, OldK.of_keep fun b o e => ?_, z1, z2⟩
      rcases hO b with n | ⟨ob, ys, n⟩
      · exact un.keep b o e n (fun z => nomatch z) (fun z => nomatch z)
      · obtain ⟨y1, _⟩ := hok b _ n
        obtain ⟨y2, _⟩ := hok' b _ (un.frzs b ob _ n)
        exact y2.trans (y1.symm.trans e)
    | next => exact False.elim z
    | brk => exact False.elim z
    | cont => exact False.elim z
theorem enter {P : Program} {w : World} {K : PySem.W.Frag} {mg mb : Str → Option Value} {k : Nat} {fa a : Addr} {fd : FuncData} {x : Str} {sp : Sp} {s₁ : Shared} {xs : List Value} {is : List Int}
    (KX : K.In s₁.heap) (g1 : s₁.heap.Ns mainGlobals mg) (g2 : s₁.heap.Ns builtinsNs mb) (g3 : ∀ y : Str, y ≠ "__name__" → mb y = bootBuiltins y) (g4 : s₁.heap.NoLimit) (g5 : s₁.gens = #[]) (ha : s₁.heap.get? a = some { cls := .type "list", data := .seq xs.toArray })
    (hi : IntsAre xs is) (hl : is.length ≤ sizeLine) (hr : Room k callerA) (F : ∀ base : Heap, K.In base → base.Ns mainGlobals mg → FnG P w K mg base CX0 k fa fd [x] sp) (bind : ∀ (s : Shared) (u : Value), BindsTo s fd ⟨[u], []⟩ [(x, u)])
    (hsp : ∀ H : Hp, SqL K H a (is.map V.int) → sp [.ref a] H (fun v _ => v = .bl true) fun _ _ _ => False) :
    codeAny (model P w) callerA (.call (.ref fa) ⟨[.ref a], []⟩) (fun r s' => r = .ok (.ret (.bool true)) ∧ OldK s₁.heap s'.heap ∧ s'.os = s₁.os ∧ AllBare s'.gens) s₁ := by
  have rv := vals_ints hi
  cases hk : K.lookup a with
  | some o =>
    have e := KX a o hk
    rw [ha] at e
    cases e
    exact enterH (H := fun _ => none) KX g1 g2 g3 g4 g5 ha (fun _ => .inl rfl) (fun b u z => nomatch (show (none : Option HO) = some u from z)) (fun b z => absurd rfl z) (fun z => absurd rfl z) hr F bind
      (hsp _ (.inr ⟨_, xs.toArray, _, hk, rfl, rfl, rfl, by rw [List.size_toArray, hi.length]; exact hl, by simpa using rv⟩))
  | none =>
    have at_ : ∀ b : Addr, b ≠ a → (fun b => if b = a then some (HO.frz { cls := .type "list", data := .seq xs.toArray } (.lst (is.map V.int))) else none) b = none := fun b n => if_neg n
    refine enterH (H := fun b => if b = a then some (.frz { cls := .type "list", data := .seq xs.toArray } (.lst (is.map V.int))) else none) KX g1 g2 g3 g4 g5 ha (fun b => ?_) (fun b u z => ?_) (fun b z => ?_) (fun _ => hk) hr F bind (hsp _ (.inl (.inr ⟨_, if_pos rfl⟩)))
    · by_cases e : b = a
      · exact .inr ⟨_, _, if_pos e⟩
      · exact .inl (at_ b e)
    · by_cases e : b = a
      · have z2 := (if_pos e).symm.trans z
        cases z2
        subst e
        exact ⟨ha, by rw [List.length_map]; exact hl, xs, _, rv, ha⟩
      · have z2 := (at_ b e).symm.trans z
        cases z2
    · exact Decidable.byContradiction fun e => z (at_ b e)
/-- the goal of the head -/
theorem walkG {l : PySem.W.OpenLaw} {k n : Nat} {q : Program} {loose : List Str} {XP : (Str → Option Value) → Heap → Prop} {YP : World → Heap → Prop} {d : DefRec} {x : Str} (hn : l.most = some n) (hn2 : n ≤ sizeLine) (hdf : d.params.defaults = []) (hr : Room k callerA)
    (F : ∀ (w : World) (mg : Str → Option Value) (fa : Addr) (h : Heap), YP w h → h.Ns mainGlobals mg → mg d.name = some (.ref fa) → ∃ (K : PySem.W.Frag) (fd : FuncData) (sp : Sp), K.In h ∧ (∀ (s : Shared) (u : Value), BindsTo s fd ⟨[u], []⟩ [(x, u)]) ∧
      (∀ (H : Hp) (a : Addr) (is : List Int), is.length ≤ n → SqL K H a (is.map V.int) → sp [.ref a] H (fun v _ => v = .bl true) fun _ _ _ => False) ∧ ∀ base : Heap, K.In base → base.Ns mainGlobals mg → FnG l.prog w K mg base CX0 k fa fd [x] sp) :
    PySem.W.WalkO q loose XP YP l.row.toRowW d [] (fun f vs => PySem.call f vs) := by
  refine Att.attach_call hn hdf fun w s₀ s₁ mg mb fa o pm cd doc a vs is G Y ho hd hcd hmg hobj hints hlen hg => ?_
  obtain ⟨K, fd, sp, KX, hb, hsp, hF⟩ := F w mg fa _ Y G.T.g hmg
  exact enter KX G.T.g G.T.b G.T.builtins G.T.nolimit hg hobj hints (Nat.le_trans hlen hn2) hr hF hb fun H hS => hsp H a is hlen hS
end Gd

set_option Elab.async false
set_option linter.all false
set_option maxRecDepth 100000
set_option maxHeartbeats 2000000
/-! All facts brought together. -/
namespace Hd
open PySem PySem.Spec PyProof.Rows L2 He Dr
theorem funOf {K : PySem.W.Frag} {x q q' : Str} {st : Stmt} {f : Addr} {fd : FuncData} (F : FunD K x q (defArgs st) (defBody st) (defScope st) [] [] f fd) (e : q = q') : Fun K x q' st f fd := by
  subst e
  obtain ⟨oc, od, dV, kV, doc, pm, an, cdv, ct, osl, h1, h2, h3, h4, h5⟩ := F.ex
  rcases h4 with ⟨_, e⟩ | ⟨n, _⟩
  · exact ⟨⟨oc, od, kV, doc, pm, an, cdv, ct, osl, by rw [h1, e], h2, h3⟩, F.kp⟩
  · exact absurd rfl n
theorem kwOf {K : PySem.W.Frag} {q : Str} {st : Stmt} {f : Addr} {fd : FuncData} {n : Str} (F : Fun K "__init__" q st f fd)
    (h : ∀ (kV doc pm cdv ct : Value) (an : Option Addr) (a : Addr) (u : Value), bindArgs (PySem.W.fnOf "__init__" q (defArgs st) (defBody st) (defScope st) .none kV doc pm an cdv ct) ⟨[.ref a], [(n, u)]⟩ = pure ([("self" : Str), n].zip [.ref a, u])) (s : Shared) (a : Addr) (u : Value) (_ : K.In s.heap) : BindsTo s fd ⟨[.ref a], [(n, u)]⟩ ([("self" : Str), n].zip [.ref a, u]) := by
  obtain ⟨oc, od, kV, doc, pm, an, cdv, ct, osl, rfl, _, _⟩ := F.ex
  exact .of_eq (h kV doc pm cdv ct an a u)
theorem tell1 {K : PySem.W.Frag} {x : Str} (h : (exB K (ga K x) && ((targets.all fun y => decide (PySem.W.kitOne K (.ref (ga K x)) (.ref (ga K y)) = some (decide (x = y)))) && (decide (PySem.W.kitOne K (.ref (ga K x)) (.ref (ga K "MergeError")) = some true) && decide (PySem.W.kitOne K (.ref (ga K x)) (.type "ValueError") = some true)))) = true)
    {due : List Str} (hd : told (kNames.zip (targets.map fun y => decide (x = y))) = due) : Ex.ExcD K (ga K x) ∧ PySem.W.kitOne K (.ref (ga K x)) (.ref (ga K "MergeError")) = some true ∧ PySem.W.kitOne K (.ref (ga K x)) (.type "ValueError") = some true ∧
    ∃ bs : List Bool, bs.length = 13 ∧ (∀ (i : Nat) (C : Addr) (b : Bool), (targets.map (ga K))[i]? = some C → bs[i]? = some b → PySem.W.kitOne K (.ref (ga K x)) (.ref C) = some b) ∧ told (kNames.zip bs) = due := by
  obtain ⟨a1, h⟩ := ba h
  obtain ⟨a2, h⟩ := ba h
  obtain ⟨a3, a4⟩ := ba h
  refine ⟨exB_ok a1, of_decide_eq_true a3, of_decide_eq_true a4, targets.map fun y => decide (x = y), rfl, fun i C b h1 h2 => ?_, hd⟩
  rw [List.getElem?_map] at h1 h2
  cases e : targets[i]? with
  | none => rw [e] at h1; cases h1
  | some y =>
    rw [e] at h1 h2
    cases h1
    cases h2
    exact of_decide_eq_true (List.all_eq_true.mp a2 y (List.mem_of_getElem? e))
theorem all {P : Program} {w : World} {K : PySem.W.Frag} {h : Heap} {mg : Str → Option Value} {f : Addr} (X : K.In h) (G : h.Ns mainGlobals mg) (hfa : mg ("law" : Str) = some (.ref f)) (c1 : chk K = true) (c : He.SaysD fa fn K) :
    ∃ fd : FuncData, (∀ (s : Shared) (v : Value), BindsTo s fd ⟨[v], []⟩ [("_law_script", v)]) ∧ ∀ base : Heap, K.In base → base.Ns mainGlobals mg → Gd.FnG P w K mg base CX0 6 f fd ["_law_script"] (spLaw K) := by
  obtain ⟨k1, c2⟩ := ba c1
  obtain ⟨k2, c2⟩ := ba c2
  obtain ⟨k3, k4⟩ := ba c2
  have SY := sysB_ok k1
  have BI := baseB_ok k2
  obtain ⟨fd0, D0⟩ := c.def_ 0 (d := dfOf "_law_begun" 16) rfl
  have F0 : Fun K "_law_begun" "_law_begun" sBegun (ga K "_law_begun") fd0 := funOf D0 rfl
  have m0 : mg "_law_begun" = some (.ref (ga K "_law_begun")) := He.glo_ok X G (c.fact 0 (f := .glo "_law_begun") rfl)
  have b0 : Binds K fd0 ["_law_script"] [] := F0.binds fun _ _ _ _ _ _ us hl => match us, hl with | [_], _ => rfl
  have A0 : At K mg "_law_begun" sBegun ["_law_script"] (ga K "_law_begun") fd0 := ⟨F0, m0, b0⟩
  obtain ⟨fd1, D1⟩ := c.def_ 1 (d := dfOf "_law_mixed" 17) rfl
  have F1 : Fun K "_law_mixed" "_law_mixed" sMixed (ga K "_law_mixed") fd1 := funOf D1 rfl
  have m1 : mg "_law_mixed" = some (.ref (ga K "_law_mixed")) := He.glo_ok X G (c.fact 1 (f := .glo "_law_mixed") rfl)
  have b1 : Binds K fd1 ["_law_state"] [] := F1.binds fun _ _ _ _ _ _ us hl => match us, hl with | [_], _ => rfl
  have A1 : At K mg "_law_mixed" sMixed ["_law_state"] (ga K "_law_mixed") fd1 := ⟨F1, m1, b1⟩
  obtain ⟨fd2, D2⟩ := c.def_ 2 (d := dfOf "_law_take" 18) rfl
  have F2 : Fun K "_law_take" "_law_take" sTake (ga K "_law_take") fd2 := funOf D2 rfl
  have m2 : mg "_law_take" = some (.ref (ga K "_law_take")) := He.glo_ok X G (c.fact 2 (f := .glo "_law_take") rfl)
  have b2 : Binds K fd2 ["_law_state", "_law_size"] [] := F2.binds fun _ _ _ _ _ _ us hl => match us, hl with | [_, _], _ => rfl
  have A2 : At K mg "_law_take" sTake ["_law_state", "_law_size"] (ga K "_law_take") fd2 := ⟨F2, m2, b2⟩
  obtain ⟨fd3, D3⟩ := c.def_ 3 (d := dfOf "_law_pick" 19) rfl
  have F3 : Fun K "_law_pick" "_law_pick" sPick (ga K "_law_pick") fd3 := funOf D3 rfl
  have m3 : mg "_law_pick" = some (.ref (ga K "_law_pick")) := He.glo_ok X G (c.fact 3 (f := .glo "_law_pick") rfl)
  have b3 : Binds K fd3 ["_law_state", "_law_some"] [] := F3.binds fun _ _ _ _ _ _ us hl => match us, hl with | [_, _], _ => rfl
  have A3 : At K mg "_law_pick" sPick ["_law_state", "_law_some"] (ga K "_law_pick") fd3 := ⟨F3, m3, b3⟩
  obtain ⟨fd4, D4⟩ := c.def_ 4 (d := dfOf "_law_word" 20) rfl
  have F4 : Fun K "_law_word" "_law_word" sWord (ga K "_law_word") fd4 := funOf D4 rfl
  have m4 : mg "_law_word" = some (.ref (ga K "_law_word")) := He.glo_ok X G (c.fact 4 (f := .glo "_law_word") rfl)
  have b4 : Binds K fd4 ["_law_state"] [] := F4.binds fun _ _ _ _ _ _ us hl => match us, hl with | [_], _ => rfl
  have A4 : At K mg "_law_word" sWord ["_law_state"] (ga K "_law_word") fd4 := ⟨F4, m4, b4⟩
  obtain ⟨fd5, D5⟩ := c.def_ 5 (d := dfOf "_law_kinds" 22) rfl
  have F5 : Fun K "_law_kinds" "_law_kinds" sKinds (ga K "_law_kinds") fd5 := funOf D5 rfl
  have m5 : mg "_law_kinds" = some (.ref (ga K "_law_kinds")) := He.glo_ok X G (c.fact 5 (f := .glo "_law_kinds") rfl)
  have b5 : Binds K fd5 ["_law_error"] [] := F5.binds fun _ _ _ _ _ _ us hl => match us, hl with | [_], _ => rfl
  have A5 : At K mg "_law_kinds" sKinds ["_law_error"] (ga K "_law_kinds") fd5 := ⟨F5, m5, b5⟩
  obtain ⟨fd6, D6⟩ := c.def_ 6 (d := dfOf "_law_any" 23) rfl
  have F6 : Fun K "_law_any" "_law_any" sAny (ga K "_law_any") fd6 := funOf D6 rfl
  have m6 : mg "_law_any" = some (.ref (ga K "_law_any")) := He.glo_ok X G (c.fact 6 (f := .glo "_law_any") rfl)
  have b6 : Binds K fd6 ["_law_state"] [] := F6.binds fun _ _ _ _ _ _ us hl => match us, hl with | [_], _ => rfl
  have A6 : At K mg "_law_any" sAny ["_law_state"] (ga K "_law_any") fd6 := ⟨F6, m6, b6⟩
  obtain ⟨fd7, D7⟩ := c.def_ 7 (d := dfOf "law" 24) rfl
  have F7 : Fun K "law" "law" sLaw (ga K "law") fd7 := funOf D7 rfl
  have m7 : mg "law" = some (.ref (ga K "law")) := He.glo_ok X G (c.fact 7 (f := .glo "law") rfl)
  have b7 : Binds K fd7 ["_law_script"] [] := F7.binds fun _ _ _ _ _ _ us hl => match us, hl with | [_], _ => rfl
  obtain ⟨fd8, D8⟩ := c.def_ 8 (d := diOf "UnknownTitle" 4) rfl
  have F8 : Fun K "__init__" "UnknownTitle.__init__" sUnknownTitle (ma K (ga K "UnknownTitle") "__init__") fd8 := funOf D8 (by decide +kernel)
  have H8 : HeldAll K (ga K "UnknownTitle") "title" := heldB_ok (List.all_eq_true.mp k3 ("UnknownTitle", "title") (by decide +kernel))
  have h8 : HdC K (ga K "UnknownTitle") (ma K (ga K "UnknownTitle") "__init__") fd8 "title" := ⟨H8.held, H8.ini, H8.fn, H8.xf, F8.binds fun _ _ _ _ _ _ us hl => match us, hl with | [_, _], _ => rfl, kwOf F8 fun _ _ _ _ _ _ _ _ => rfl⟩
  obtain ⟨fd9, D9⟩ := c.def_ 9 (d := diOf "TooMany" 7) rfl
  have F9 : Fun K "__init__" "TooMany.__init__" sTooMany (ma K (ga K "TooMany") "__init__") fd9 := funOf D9 (by decide +kernel)
  have H9 : HeldAll K (ga K "TooMany") "most" := heldB_ok (List.all_eq_true.mp k3 ("TooMany", "most") (by decide +kernel))
  have h9 : HdC K (ga K "TooMany") (ma K (ga K "TooMany") "__init__") fd9 "most" := ⟨H9.held, H9.ini, H9.fn, H9.xf, F9.binds fun _ _ _ _ _ _ us hl => match us, hl with | [_, _], _ => rfl, kwOf F9 fun _ _ _ _ _ _ _ _ => rfl⟩
  obtain ⟨fd10, D10⟩ := c.def_ 10 (d := diOf "UnknownName" 9) rfl
  have F10 : Fun K "__init__" "UnknownName.__init__" sUnknownName (ma K (ga K "UnknownName") "__init__") fd10 := funOf D10 (by decide +kernel)
  have H10 : HeldAll K (ga K "UnknownName") "name" := heldB_ok (List.all_eq_true.mp k3 ("UnknownName", "name") (by decide +kernel))
  have h10 : HdC K (ga K "UnknownName") (ma K (ga K "UnknownName") "__init__") fd10 "name" := ⟨H10.held, H10.ini, H10.fn, H10.xf, F10.binds fun _ _ _ _ _ _ us hl => match us, hl with | [_, _], _ => rfl, kwOf F10 fun _ _ _ _ _ _ _ _ => rfl⟩
  obtain ⟨fd11, D11⟩ := c.def_ 11 (d := diOf "Marked" 11) rfl
  have F11 : Fun K "__init__" "Marked.__init__" sMarked (ma K (ga K "Marked") "__init__") fd11 := funOf D11 (by decide +kernel)
  have H11 : HeldAll K (ga K "Marked") "path" := heldB_ok (List.all_eq_true.mp k3 ("Marked", "path") (by decide +kernel))
  have h11 : HdC K (ga K "Marked") (ma K (ga K "Marked") "__init__") fd11 "path" := ⟨H11.held, H11.ini, H11.fn, H11.xf, F11.binds fun _ _ _ _ _ _ us hl => match us, hl with | [_, _], _ => rfl, kwOf F11 fun _ _ _ _ _ _ _ _ => rfl⟩
  obtain ⟨fd12, D12⟩ := c.def_ 12 (d := diOf "BadText" 14) rfl
  have F12 : Fun K "__init__" "BadText.__init__" sBadText (ma K (ga K "BadText") "__init__") fd12 := funOf D12 (by decide +kernel)
  have H12 : HeldAll K (ga K "BadText") "line" := heldB_ok (List.all_eq_true.mp k3 ("BadText", "line") (by decide +kernel))
  have h12 : HdC K (ga K "BadText") (ma K (ga K "BadText") "__init__") fd12 "line" := ⟨H12.held, H12.ini, H12.fn, H12.xf, F12.binds fun _ _ _ _ _ _ us hl => match us, hl with | [_, _], _ => rfl, kwOf F12 fun _ _ _ _ _ _ _ _ => rfl⟩
  have z0 : mg "list" = none := He.free_ok X G (c.fact 8 (f := .free "list") rfl)
  have z1 : mg "int" = none := He.free_ok X G (c.fact 9 (f := .free "int") rfl)
  have z2 : mg "len" = none := He.free_ok X G (c.fact 10 (f := .free "len") rfl)
  have z3 : mg "range" = none := He.free_ok X G (c.fact 11 (f := .free "range") rfl)
  have z4 : mg "isinstance" = none := He.free_ok X G (c.fact 12 (f := .free "isinstance") rfl)
  have z5 : mg "max" = none := He.free_ok X G (c.fact 13 (f := .free "max") rfl)
  have z6 : mg "min" = none := He.free_ok X G (c.fact 14 (f := .free "min") rfl)
  have z7 : mg "zip" = none := He.free_ok X G (c.fact 15 (f := .free "zip") rfl)
  have z8 : mg "repr" = none := He.free_ok X G (c.fact 16 (f := .free "repr") rfl)
  have z9 : mg "ValueError" = none := He.free_ok X G (c.fact 17 (f := .free "ValueError") rfl)
  have g0 : mg "MergeError" = some (.ref (ga K "MergeError")) := He.glo_ok X G (c.fact 18 (f := .glo "MergeError") rfl)
  have g1 : mg "BadValue" = some (.ref (ga K "BadValue")) := He.glo_ok X G (c.fact 19 (f := .glo "BadValue") rfl)
  have g2 : mg "BadBook" = some (.ref (ga K "BadBook")) := He.glo_ok X G (c.fact 20 (f := .glo "BadBook") rfl)
  have g3 : mg "UnknownTitle" = some (.ref (ga K "UnknownTitle")) := He.glo_ok X G (c.fact 21 (f := .glo "UnknownTitle") rfl)
  have g4 : mg "BadKind" = some (.ref (ga K "BadKind")) := He.glo_ok X G (c.fact 22 (f := .glo "BadKind") rfl)
  have g5 : mg "BadExpression" = some (.ref (ga K "BadExpression")) := He.glo_ok X G (c.fact 23 (f := .glo "BadExpression") rfl)
  have g6 : mg "TooMany" = some (.ref (ga K "TooMany")) := He.glo_ok X G (c.fact 24 (f := .glo "TooMany") rfl)
  have g7 : mg "BadLayers" = some (.ref (ga K "BadLayers")) := He.glo_ok X G (c.fact 25 (f := .glo "BadLayers") rfl)
  have g8 : mg "UnknownName" = some (.ref (ga K "UnknownName")) := He.glo_ok X G (c.fact 26 (f := .glo "UnknownName") rfl)
  have g9 : mg "BadForm" = some (.ref (ga K "BadForm")) := He.glo_ok X G (c.fact 27 (f := .glo "BadForm") rfl)
  have g10 : mg "Marked" = some (.ref (ga K "Marked")) := He.glo_ok X G (c.fact 28 (f := .glo "Marked") rfl)
  have g11 : mg "BadIndex" = some (.ref (ga K "BadIndex")) := He.glo_ok X G (c.fact 29 (f := .glo "BadIndex") rfl)
  have g12 : mg "NothingDone" = some (.ref (ga K "NothingDone")) := He.glo_ok X G (c.fact 30 (f := .glo "NothingDone") rfl)
  have g13 : mg "BadText" = some (.ref (ga K "BadText")) := He.glo_ok X G (c.fact 31 (f := .glo "BadText") rfl)
  have e0 : PlC K (ga K "BadValue") := by
    obtain ⟨y1, y2, _⟩ := He.exc_ok (c.fact 32 (f := .exc "BadValue") rfl)
    exact ⟨y1, y2⟩
  have e1 : PlC K (ga K "BadBook") := by
    obtain ⟨y1, y2, _⟩ := He.exc_ok (c.fact 33 (f := .exc "BadBook") rfl)
    exact ⟨y1, y2⟩
  have e2 : PlC K (ga K "BadKind") := by
    obtain ⟨y1, y2, _⟩ := He.exc_ok (c.fact 34 (f := .exc "BadKind") rfl)
    exact ⟨y1, y2⟩
  have e3 : PlC K (ga K "BadExpression") := by
    obtain ⟨y1, y2, _⟩ := He.exc_ok (c.fact 35 (f := .exc "BadExpression") rfl)
    exact ⟨y1, y2⟩
  have e4 : PlC K (ga K "BadLayers") := by
    obtain ⟨y1, y2, _⟩ := He.exc_ok (c.fact 36 (f := .exc "BadLayers") rfl)
    exact ⟨y1, y2⟩
  have e5 : PlC K (ga K "BadForm") := by
    obtain ⟨y1, y2, _⟩ := He.exc_ok (c.fact 37 (f := .exc "BadForm") rfl)
    exact ⟨y1, y2⟩
  have e6 : PlC K (ga K "BadIndex") := by
    obtain ⟨y1, y2, _⟩ := He.exc_ok (c.fact 38 (f := .exc "BadIndex") rfl)
    exact ⟨y1, y2⟩
  have e7 : PlC K (ga K "NothingDone") := by
    obtain ⟨y1, y2, _⟩ := He.exc_ok (c.fact 39 (f := .exc "NothingDone") rfl)
    exact ⟨y1, y2⟩
  have e8 : PlC K (ga K "MergeError") := by
    obtain ⟨y1, y2, _⟩ := He.exc_ok (c.fact 40 (f := .exc "MergeError") rfl)
    exact ⟨y1, y2⟩
  have at_ : ∀ x : Str, x ∈ (("MergeError" : Str) :: targets) → _ := fun x hx => List.all_eq_true.mp k4 x hx
  have TL : Tell K (ga K "MergeError") [ga K "BadValue", ga K "BadBook", ga K "UnknownTitle", ga K "BadKind", ga K "BadExpression", ga K "TooMany", ga K "BadLayers", ga K "UnknownName", ga K "BadForm", ga K "Marked", ga K "BadIndex", ga K "NothingDone", ga K "BadText"] [ga K "BadValue", ga K "BadBook", ga K "BadKind", ga K "BadExpression", ga K "BadLayers", ga K "BadForm", ga K "BadIndex", ga K "NothingDone", ga K "UnknownTitle", ga K "TooMany", ga K "UnknownName", ga K "Marked", ga K "BadText"] := by
    refine ⟨fun i D due h1 h2 => ?_, ?_⟩
    · match i, h1, h2 with
      | 0, h1, h2 => cases h1; cases h2; exact tell1 (at_ "BadValue" (by decide +kernel)) (by decide +kernel)
      | 1, h1, h2 => cases h1; cases h2; exact tell1 (at_ "BadBook" (by decide +kernel)) (by decide +kernel)
      | 2, h1, h2 => cases h1; cases h2; exact tell1 (at_ "BadKind" (by decide +kernel)) (by decide +kernel)
      | 3, h1, h2 => cases h1; cases h2; exact tell1 (at_ "BadExpression" (by decide +kernel)) (by decide +kernel)
      | 4, h1, h2 => cases h1; cases h2; exact tell1 (at_ "BadLayers" (by decide +kernel)) (by decide +kernel)
      | 5, h1, h2 => cases h1; cases h2; exact tell1 (at_ "BadForm" (by decide +kernel)) (by decide +kernel)
      | 6, h1, h2 => cases h1; cases h2; exact tell1 (at_ "BadIndex" (by decide +kernel)) (by decide +kernel)
      | 7, h1, h2 => cases h1; cases h2; exact tell1 (at_ "NothingDone" (by decide +kernel)) (by decide +kernel)
      | 8, h1, h2 => cases h1; cases h2; exact tell1 (at_ "UnknownTitle" (by decide +kernel)) (by decide +kernel)
      | 9, h1, h2 => cases h1; cases h2; exact tell1 (at_ "TooMany" (by decide +kernel)) (by decide +kernel)
      | 10, h1, h2 => cases h1; cases h2; exact tell1 (at_ "UnknownName" (by decide +kernel)) (by decide +kernel)
      | 11, h1, h2 => cases h1; cases h2; exact tell1 (at_ "Marked" (by decide +kernel)) (by decide +kernel)
      | 12, h1, h2 => cases h1; cases h2; exact tell1 (at_ "BadText" (by decide +kernel)) (by decide +kernel)
      | n + 13, h1, h2 => cases h1
    · obtain ⟨y1, _, y3, y4⟩ := tell1 (due := []) (at_ "MergeError" (by decide +kernel)) (by decide +kernel)
      exact ⟨y1, y3, y4⟩
  have e := hfa.symm.trans m7
  cases e
  refine ⟨fd7, fun s v => ?_, fun base _ _ => ok_law F7 ⟨z1, z0, z2, z3⟩ ⟨z4, z9, z7, z8, z5, z6⟩ SY A0 A4 A3 A2 A1 A5 A6 ⟨g1, g2, g3, g4, g5, g6, g7, g8, g9, g10, g11, g12, g13⟩ g0 BI e0 e1 e2 e3 e4 e5 e6 e7 e8 h8 h9 h10 h11 h12 F8 F9 F10 F11 F12 TL⟩
  obtain ⟨oc, od, kV, doc, pm, an, cdv, ct, osl, rfl, _, _⟩ := F7.ex
  exact .of_eq rfl
end Hd
open PySem PySem.W PySem.Calls PyProof.Rows
set_option maxRecDepth 100000 in
set_option maxHeartbeats 0 in
theorem PySem.Challenge.cw_mergebooks_k01_errors_apart_holds : PySem.Challenge.rw_mergebooks_k01_errors_apart.Holds := by
  w_on; o_law
  refine HandSHeadRun.head_any (r := OpenLaw.row PySem.Challenge.rw_mergebooks_k01_errors_apart) (q := view (OpenLaw.row PySem.Challenge.rw_mergebooks_k01_errors_apart).prog [24]) (H := Hd.hk) (ob := Hd.ob) (M := 40000) (loose := Hd.loose) (d := HandSHeadRun.topDef (OpenLaw.row PySem.Challenge.rw_mergebooks_k01_errors_apart).prog 24) (kwd := []) Hd.ob_eq
    (by kernel_rfl) (fun s => by kernel_rfl) Hd.run (by kernel_rfl) (by kernel_rfl) (by kernel_rfl) (by rfl) (by first | assumption | decide +kernel) (by decide +kernel) ⟨rfl, rfl, rfl, rfl, rfl, by decide +kernel⟩ ?hw ?hc
  case hw => w_witness2
  case hc =>
    refine Gd.walkG (l := PySem.Challenge.rw_mergebooks_k01_errors_apart) (n := 63) (k := 6) (x := "_law_script") rfl (by decide) (by kernel_rfl) ⟨rfl, by decide, by decide⟩ ?F
    intro w mg fa h Y G hmg0
    obtain ⟨K, KX, c1, c⟩ := Y
    have hmg : mg ("law" : PySem.Str) = some (.ref fa) := by
      have e : (HandSHeadRun.topDef (OpenLaw.row PySem.Challenge.rw_mergebooks_k01_errors_apart).prog 24).name = ("law" : PySem.Str) := by kernel_rfl
      rw [← e]
      exact hmg0
    obtain ⟨fd, hb, hF⟩ := Hd.all (P := (PySem.Challenge.rw_mergebooks_k01_errors_apart).prog) (w := w) KX G hmg c1 c
    exact ⟨K, fd, Dr.spLaw K, KX, hb, fun H a is hl hS => ⟨a, is, rfl, hS, hl, fun _ => rfl⟩, hF⟩

