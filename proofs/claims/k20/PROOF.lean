import PyProof.Rows.All
import HandS.ForMost
import HandS.Exc
import HandS.ExcInit
import HandS.ExcOwn
import HandS.WordsExc
import HandS.CallSlots
import HandS.TryOnly
import HandS.TryMany
import HandS.Zip
import HandS.TupAny
import HandS.TupMul
import HandS.Small
import HandS.Conv
import HandS.IsInst
import KE.DataCmp
import KE.DataEq
import KE.DataMinMax
import KE.SortData
import KE.DatumIndex
import HandS.Style
import HandS.TupLen
import HandS.More
import KE.KDictPairs
import HandS.Iter
import KE.KDictKeyed
import KE.SortCalls
import KE.KDictSum
import KE.GoesMore
import KE.GoesEnum
import HandS.RaiseMore
import PyProof.ReprRoads
import PyProof.CallFns
import KE.KRevSl
import HandS.Ends
import HandS.HeadEnd
import HandS.Head0
import HandS.Head1
import HandS.Head2
import HandS.HeadHook1
import HandS.HeadHook2
import HandS.Defaults
import HandS.HeadHook4
import KE.OsSortAny
import PyProof.FitsInt
import PyProof.ReprLen
import PySem.Challenge.RW_cutorall_k20_sums_added
set_option Elab.async false
section
set_option Elab.async false
set_option linter.all false
set_option maxRecDepth 100000
/-! Vi: a small functional reading of Python over plain data, shown sound over the hand layer. -/
namespace Vi
open PySem PySem.Spec PyProof.Rows L2

inductive D where
  | non | bl (b : Bool) | int (i : Int) | str (x : Str)
  | tup (xs : List D) | lst (xs : List D)
  | dK (kvs : List (Key × D)) | dT (kvs : List (List Key × D))
  | ins (c : Str) (fs : List (Str × D))
  | hand | scr (ns : List Int) | ktup (xs : List D) | ptup (xs : List D)

inductive Cell where
  | fz (d : D) | lst (xs : List D) | lsto (cs : List Cell)
  | dK (kvs : List (Key × D)) | dT (kvs : List (List Key × D))
  | ins (c : Str) (fs : List (Str × Cell))

inductive Slot where
  | un | fz (d : D) | own (c : Cell) | ro (c : Cell) | exn (c : Str) (fs : List (Str × D))

inductive RV where
  | fz (d : D) | own (c : Cell) | ro (c : Cell)

def Cell.view : Cell → Option D
  | .fz d => some d
  | .lst xs => some (.lst xs)
  | .dK kvs => some (.dK kvs)
  | .dT kvs => some (.dT kvs)
  | _ => none
mutual
def Cell.frz : Cell → D
  | .fz d => d
  | .lst xs => .lst xs
  | .lsto cs => .lst (frzs cs)
  | .dK kvs => .dK kvs
  | .dT kvs => .dT kvs
  | .ins c fs => .ins c (frzf fs)
def frzs : List Cell → List D
  | [] => []
  | c :: cs => c.frz :: frzs cs
def frzf : List (Str × Cell) → List (Str × D)
  | [] => []
  | (f, c) :: fs => (f, c.frz) :: frzf fs
end
def RV.d : RV → Option D
  | .fz d => some d
  | .own c => c.view
  | .ro c => c.view
/-- what is kept of a value in a tuple, a list, a dict, an error -/
def RV.keep : RV → Option D
  | .fz d => some d
  | .own c => some c.frz
  | .ro _ => none
def RV.slot : RV → Slot
  | .fz d => .fz d
  | .own c => .own c
  | .ro c => .ro c
abbrev Env := List Slot

inductive R (α : Type) where
  | ok (a : α) (τ : List D)
  | exc (c : Str) (fs : List (Str × D)) (τ : List D)
  | stuck
def R.bind {α β : Type} (r : R α) (f : α → List D → R β) : R β := match r with
  | .ok a τ => f a τ
  | .exc c fs τ => .exc c fs τ
  | .stuck => .stuck
def R.of {α : Type} (o : Option α) (τ : List D) : R α := match o with
  | some a => .ok a τ
  | none => .stuck
/-- a value that is looked at -/
def R.look {β : Type} (r : R RV) (f : D → List D → R β) : R β := r.bind fun v τ => match v.d with
  | some d => f d τ
  | none => .stuck
/-- a value that is kept -/
def R.kept {β : Type} (r : R RV) (f : D → List D → R β) : R β := r.bind fun v τ => match v.keep with
  | some d => f d τ
  | none => .stuck

inductive SOut where
  | ok (r : RV) (outs : List Slot) (τ : List D)
  | exc (c : Str) (fs : List (Str × D)) (outs : List Slot) (τ : List D)
  | stuck
abbrev Sem := List Slot → List D → SOut
structure Phi where
  fn : Str → Option Sem
  mt : Str → Str → Option Sem
  nw : Str → Option Sem
  gl : Str → Option D
  kw : Str → Nat → List Str → Option (List D)
  ex : Str → Option (List Str)
  sub : Str → Str → Bool

inductive Bop where | add | sub | mul | fdiv | mod | pow | shl | shr | band | bor
inductive Cop where | eq | ne | lt | le | gt | ge | isin | notin | is | isnot
inductive Bi where | len | tuple | ptuple | list | sum | all | min | max | sorted | abs | int | dictK | dictT | repr | str
mutual
inductive Tg where | name (i : Nat) | tup (ts : Tgs)
inductive Tgs where | nil | cons (t : Tg) (r : Tgs)
end

mutual
inductive E where
  | var (i : Nat) | glb (x : Str)
  | non | bl (b : Bool) | int (i : Int) | str (x : Str)
  | tup (es : Es) | lst (es : Es) | pick (es : Es) (i : E)
  | bin (o : Bop) (a b : E) | neg (a : E)
  | cmp (o : Cop) (a b : E) | chain (o p : Cop) (a b c : E)
  | not (a : E) | and (a b : E) | or (a b : E)
  | ife (c a b : E)
  | fld (a : E) (f : Str)
  | ix (a i : E) | sl (a : E) (lo hi : Oe) | rev (a : E)
  | call (f : Str) (es : Es) | callk (f : Str) (np : Nat) (ks : List Str) (es : Es)
  | meth (a : E) (c m : Str) (es : Es)
  | new (c : Str) (es : Es)
  | bi (b : Bi) (es : Es)
  | isin (a : E) (ts : List Str)
  | dget (a k x : E)
  | comp (el : E) (tg : Tg) (it : It) (co : Oe) (own : List Nat)
  | comp2 (el : E) (tg : Tg) (it : It) (tg2 : Tg) (it2 : It) (own own2 : List Nat)
  | dnewK | dnewT
  | fzn (a : E)
  | exf (i : Nat) (f : Str) | exis (i : Nat) (ts : List Str)
inductive Es where | nil | cons (e : E) (es : Es)
inductive Oe where | no | yes (e : E)
inductive It where | over (e : E) | rng1 (e : E) | rng2 (a b : E) | enum (e : E) | zip (a b : E)
end
end Vi
end
section
set_option Elab.async false
set_option linter.all false
set_option maxRecDepth 100000
namespace Vi
open PySem PySem.Spec PyProof.Rows L2

mutual
def D.py : D → PyData
  | .non => .none
  | .bl b => .bool b
  | .int i => .int i
  | .str x => .str x
  | .tup xs => .tuple (pys xs)
  | .lst xs => .list (pys xs)
  | .dK _ => .none
  | .dT _ => .none
  | .ins _ _ => .none
  | .hand => .none
  | .scr _ => .none
  | .ktup xs => .tuple (pys xs)
  | .ptup xs => .tuple (pys xs)
def pys : List D → List PyData
  | [] => []
  | x :: xs => x.py :: pys xs
end
mutual
def D.pl : Nat → D → Bool
  | _, .non => true
  | _, .bl _ => true
  | _, .int _ => true
  | _, .str _ => true
  | 0, .tup _ => false
  | n + 1, .tup xs => pls n xs
  | 0, .lst _ => false
  | n + 1, .lst xs => pls n xs
  | _, .dK _ => false
  | _, .dT _ => false
  | _, .ins _ _ => false
  | _, .hand => false
  | _, .scr _ => false
  | 0, .ktup _ => false
  | n + 1, .ktup xs => pls n xs
  | 0, .ptup _ => false
  | n + 1, .ptup xs => pls n xs
def pls : Nat → List D → Bool
  | _, [] => true
  | n, x :: xs => D.pl n x && pls n xs
end
def D.plain (d : D) : Bool := d.pl 60
def plains (ds : List D) : Bool := pls 59 ds
def LIM : Nat := 1000000

def keyOf : D → Option Key
  | .int i => some (.inl i)
  | .str x => some (.inr x)
  | _ => none
def keysOf : List D → Option (List Key)
  | [] => some []
  | x :: xs => match keyOf x, keysOf xs with
    | some k, some ks => some (k :: ks)
    | _, _ => none
def kD : Key → D
  | .inl i => .int i
  | .inr x => .str x
def ksD (k : List Key) : D := .tup (k.map kD)
def look {κ : Type} [DecidableEq κ] (kvs : List (κ × D)) (k : κ) : Option D := (kvs.find? fun kv => decide (kv.1 = k)).map (·.2)
def put {κ : Type} [DecidableEq κ] (kvs : List (κ × D)) (k : κ) (v : D) : List (κ × D) :=
  if kvs.any (fun kv => decide (kv.1 = k)) then kvs.map fun kv => if kv.1 = k then (kv.1, v) else kv else kvs ++ [(k, v)]

def cut {α : Type} (xs : List α) (lo hi : Option Int) : List α := (xs.drop (HT.sIx xs.length 0 lo)).take (HT.sIx xs.length xs.length hi - HT.sIx xs.length 0 lo)
def rep {α : Type} (xs : List α) (k : Int) : List α := (List.replicate k.toNat xs).flatten

def binop : Bop → D → D → Option RV
  | .add, .int a, .int b => some (.fz (.int (a + b)))
  | .add, .tup a, .tup b => if a.length + b.length ≤ LIM then some (.fz (.tup (a ++ b))) else none
  | .add, .lst a, .lst b => if a.length + b.length ≤ LIM then some (.own (.lst (a ++ b))) else none
  | .add, .str a, .str b => if a.length + b.length ≤ LIM then some (.fz (.str (a ++ b))) else none
  | .add, .ptup a, .tup b => if a.length + b.length ≤ LIM then some (.fz (if a.isEmpty then .tup b else if b.isEmpty then .ptup a else .tup (a ++ b))) else none
  | .add, .tup a, .ptup b => if a.length + b.length ≤ LIM then some (.fz (if a.isEmpty then .ptup b else .tup (a ++ b))) else none
  | .add, .ptup a, .ptup b => if a.length + b.length ≤ LIM then some (.fz (if a.isEmpty then .ptup b else if b.isEmpty then .ptup a else .tup (a ++ b))) else none
  | .sub, .int a, .int b => some (.fz (.int (a - b)))
  | .mul, .int a, .int b => if ((-(2 ^ 64) < a ∧ a < 2 ^ 64) ∨ (-(2 ^ 64) < b ∧ b < 2 ^ 64)) then some (.fz (.int (a * b))) else none
  | .mul, .tup a, .int k => if a.length ≠ 0 ∧ a.length ≤ 1000 ∧ 2 ≤ k ∧ k ≤ 1000 then some (.fz (.tup (rep a k))) else none
  | .mul, .lst a, .int k => if a.length * k.toNat ≤ LIM ∧ k.natAbs ≤ LIM then some (.own (.lst (rep a k))) else none
  | .fdiv, .int a, .int b => if b ≠ 0 ∧ b.natAbs < 1073741824 then some (.fz (.int (a.fdiv b))) else none
  | .mod, .int a, .int b => if b ≠ 0 then some (.fz (.int (a.fmod b))) else none
  | .pow, .int a, .int b => if 0 ≤ b ∧ b ≤ 1000000 ∧ a.natAbs < 2 ^ 64 then some (.fz (.int (a ^ b.toNat))) else none
  | .shl, .int a, .int b => if 0 ≤ b ∧ b ≤ 1000000 ∧ a.natAbs < 2 ^ 64 then some (.fz (.int (a * 2 ^ b.toNat))) else none
  | .shr, .int a, .int b => if 0 ≤ b then some (.fz (.int (a / 2 ^ b.toNat))) else none
  | .band, .int a, .int b => some (.fz (.int (Builtin.bitAnd a b)))
  | .bor, .int a, .int b => some (.fz (.int (Builtin.bitOr a b)))
  | _, _, _ => none
/-- in place, on ints and texts -/
def augop : Bop → D → D → Option D
  | .add, .int a, .int b => some (.int (a + b))
  | .sub, .int a, .int b => some (.int (a - b))
  | .add, .str a, .str b => if a.length + b.length ≤ LIM then some (.str (a ++ b)) else none
  | _, _, _ => none
def deq (a b : D) : Option Bool := if a.plain && b.plain then some (PyData.eqv a.py b.py) else none
def D.some' : D → Bool
  | .non => false
  | _ => true
def dlt (a b : D) : Option Bool := if (a.plain && b.plain) && (PySem.W.alike a.py b.py && a.some') then some (PySem.W.dataLt a.py b.py) else none
def dgt (a b : D) : Option Bool := if (a.plain && b.plain) && (PySem.W.alike a.py b.py && a.some') then some (PySem.W.dataLt b.py a.py) else none
def din (a b : D) : Option Bool := match b with
  | .tup xs => if a.plain && plains xs then some (xs.any fun y => PyData.eqv y.py a.py) else none
  | .lst xs => if a.plain && plains xs then some (xs.any fun y => PyData.eqv y.py a.py) else none
  | .ktup xs => if a.plain && plains xs then some (xs.any fun y => PyData.eqv y.py a.py) else none
  | .ptup xs => if a.plain && plains xs then some (xs.any fun y => PyData.eqv y.py a.py) else none
  | .dK kvs => (keyOf a).map fun k => (look kvs k).isSome
  | .dT kvs => match a with
    | .tup ks => (keysOf ks).map fun k => (look kvs k).isSome
    | _ => none
  | _ => none
def cmpop : Cop → D → D → Option Bool
  | .eq, a, b => deq a b
  | .ne, a, b => (deq a b).map (!·)
  | .lt, .int a, .int b => some (decide (a < b))
  | .le, .int a, .int b => some (decide (a ≤ b))
  | .gt, .int a, .int b => some (decide (b < a))
  | .ge, .int a, .int b => some (decide (b ≤ a))
  | .lt, a, b => dlt a b
  | .le, a, b => (dgt a b).map (!·)
  | .gt, a, b => dgt a b
  | .ge, a, b => (dlt a b).map (!·)
  | .isin, a, b => din a b
  | .notin, a, b => (din a b).map (!·)
  | .is, a, .non => some (!a.some')
  | .isnot, a, .non => some a.some'
  | .is, .bl a, .bl b => some (a == b)
  | .isnot, .bl a, .bl b => some (!(a == b))
  | _, _, _ => none
def ixop : D → D → Option D
  | .tup xs, .int i => atI xs i
  | .lst xs, .int i => atI xs i
  | .scr ns, .int i => (atI ns i).map .int
  | .ktup xs, .int i => atI xs i
  | .ptup xs, .int i => atI xs i
  | .dK kvs, k => (keyOf k).bind (look kvs)
  | .dT kvs, .tup ks => (keysOf ks).bind (look kvs)
  | _, _ => none
def D.isDict : D → Bool
  | .dK _ => true
  | .dT _ => true
  | _ => false
/-- d.get(y, z) -/
def dgetop : D → D → D → Option D
  | .dK kvs, y, z => (keyOf y).map fun k => (look kvs k).getD z
  | .dT kvs, .tup ks, z => (keysOf ks).map fun k => (look kvs k).getD z
  | _, _, _ => none
def slop : D → Option Int → Option Int → Option RV
  | .tup xs, lo, hi => some (.fz (.tup (cut xs lo hi)))
  | .lst xs, lo, hi => some (.own (.lst (cut xs lo hi)))
  | .ptup xs, lo, hi => some (.fz (if HT.sIx xs.length 0 lo = 0 ∧ HT.sIx xs.length xs.length hi = xs.length then .ptup xs else .tup (cut xs lo hi)))
  | _, _, _ => none

def intsOf : List D → Option (List Int)
  | [] => some []
  | .int i :: xs => (intsOf xs).map (i :: ·)
  | _ => none
def blsOf : List D → Option (List Bool)
  | [] => some []
  | .bl i :: xs => (blsOf xs).map (i :: ·)
  | _ => none
def leastI : List Int → Int
  | [] => 0
  | x :: xs => xs.foldl min x
def greatestI : List Int → Int
  | [] => 0
  | x :: xs => xs.foldl max x
def seqOf : D → Option (List D)
  | .tup xs => some xs
  | .ktup xs => some xs
  | .ptup xs => some xs
  | .lst xs => some xs
  | _ => none
def alikes (xs : List D) : Bool := plains xs && (xs.all fun a => a.some' && xs.all fun b => PySem.W.alike a.py b.py)
def sortable (xs : List D) : Bool := (xs.all fun d => match d with
  | .tup (_ :: _) => true
  | .ktup (_ :: _) => true
  | .ptup (_ :: _) => true
  | _ => false) || (xs.all fun d => match d with
  | .tup _ => false
  | .ktup _ => false
  | .ptup _ => false
  | .non => false
  | _ => true) || (xs.all fun d => match d with
  | .tup _ => true
  | .ktup _ => true
  | .ptup _ => true
  | _ => false)
/-- pairs as a dict's entries -/
def pairsK : List D → Option (List (Key × D))
  | [] => some []
  | .tup [k, v] :: xs => match keyOf k, pairsK xs with
    | some k, some r => some ((k, v) :: r)
    | _, _ => none
  | _ => none
def pairsT : List D → Option (List (List Key × D))
  | [] => some []
  | .tup [.tup k, v] :: xs => match keysOf k, pairsT xs with
    | some k, some r => some ((k, v) :: r)
    | _, _ => none
  | _ => none
def putAll {κ : Type} [DecidableEq κ] (acc : List (κ × D)) : List (κ × D) → List (κ × D)
  | [] => acc
  | (k, v) :: r => putAll (put acc k v) r
def sortD (xs : List D) : List D := xs.mergeSort fun a b => !PySem.W.dataLt b.py a.py
/-- a value whose text is served -/
def showD (d : D) : Bool := d.plain && (d.py.showable && decide (d.py.shown.length ≤ LIM))
/-- items turned round -/
def revop : D → Option RV
  | .tup xs => some (.fz (.tup xs.reverse))
  | .ptup xs => some (.fz (.tup xs.reverse))
  | .lst xs => some (.own (.lst xs.reverse))
  | _ => none
def tupLike : D → Option (List D)
  | .tup xs => some xs
  | .ktup xs => some xs
  | .ptup xs => some xs
  | _ => none
def biop : Bi → List D → Option RV
  | .len, [.tup xs] => some (.fz (.int xs.length))
  | .len, [.lst xs] => some (.fz (.int xs.length))
  | .len, [.ktup xs] => some (.fz (.int xs.length))
  | .len, [.ptup xs] => some (.fz (.int xs.length))
  | .len, [.scr ns] => some (.fz (.int ns.length))
  | .len, [.dK kvs] => some (.fz (.int kvs.length))
  | .len, [.dT kvs] => some (.fz (.int kvs.length))
  | .len, [.str x] => if x.length ≤ LIM then some (.fz (.int x.length)) else none
  | .tuple, [.tup xs] => some (.fz (.tup xs))
  | .tuple, [.ktup xs] => some (.fz (.ktup xs))
  | .tuple, [.lst xs] => some (.fz (.tup xs))
  | .tuple, [.ptup xs] => some (.fz (.ptup xs))
  | .ptuple, [.lst xs] => some (.fz (.ptup xs))
  | .ptuple, [.ptup xs] => some (.fz (.ptup xs))
  | .list, [.dT kvs] => some (.own (.lst (kvs.map fun kv => ksD kv.1)))
  | .list, [.dK kvs] => some (.own (.lst (kvs.map fun kv => kD kv.1)))
  | .list, [d] => (seqOf d).map fun xs => .own (.lst xs)
  | .sum, [d] => (seqOf d).bind fun xs => (intsOf xs).map fun ns => .fz (.int ns.sum)
  | .all, [.lst xs] => (blsOf xs).map fun bs => .fz (.bl (bs.all id))
  | .min, [.int a, .int b] => some (.fz (.int (min a b)))
  | .max, [.int a, .int b] => some (.fz (.int (max a b)))
  | .min, [d] => (seqOf d).bind fun xs => (intsOf xs).bind fun ns => if ns = [] then none else some (.fz (.int (leastI ns)))
  | .max, [d] => (seqOf d).bind fun xs => (intsOf xs).bind fun ns => if ns = [] then none else some (.fz (.int (greatestI ns)))
  | .sorted, [.lst xs] => if alikes xs && sortable xs then some (.own (.lst (sortD xs))) else none
  | .sorted, [.dT kvs] => if alikes (kvs.map fun kv => ksD kv.1) && sortable (kvs.map fun kv => ksD kv.1) then some (.own (.lst (sortD (kvs.map fun kv => ksD kv.1)))) else none
  | .repr, [d] => if showD d then some (.fz (.str d.py.shown)) else none
  | .dictK, [.ptup xs] => (pairsK xs).map fun ps => .own (.dK (putAll [] ps))
  | .dictK, [.lst xs] => (pairsK xs).map fun ps => .own (.dK (putAll [] ps))
  | .dictK, [.dK kvs] => some (.own (.dK kvs))
  | .dictT, [.ptup xs] => (pairsT xs).map fun ps => .own (.dT (putAll [] ps))
  | .dictT, [.lst xs] => (pairsT xs).map fun ps => .own (.dT (putAll [] ps))
  | .abs, [.int a] => some (.fz (.int (if a < 0 then -a else a)))
  | .int, [.int a] => some (.fz (.int a))
  | .int, [.bl b] => some (.fz (.int (if b then 1 else 0)))
  | _, _ => none

/-- a built-in class by its name -/
def tyS (t : Str) : Option String := if t = "int" then some "int" else if t = "bool" then some "bool" else if t = "str" then some "str" else if t = "tuple" then some "tuple" else if t = "list" then some "list" else if t = "dict" then some "dict" else none
/-- the built-in type of a value -/
def RV.ty : RV → Option String
  | .fz .non => some "NoneType"
  | .fz (.bl _) => some "bool"
  | .fz (.int _) => some "int"
  | .fz (.str _) => some "str"
  | .fz (.tup _) => some "tuple"
  | .fz (.ktup _) => some "tuple"
  | .fz (.ptup _) => some "tuple"
  | .fz (.lst _) => some "list"
  | .own (.lst _) => some "list"
  | .ro (.lst _) => some "list"
  | _ => none
/-- one built-in class -/
def isB (T : String) (t : Str) : Option Bool := (tyS t).map fun u => T == u || (T == "bool" && u == "int")
def isTys (v : RV) : List Str → Option Bool
  | [] => some false
  | t :: ts => match v.ty.bind fun T => isB T t, isTys v ts with
    | some a, some b => some (a || b)
    | _, _ => none

def tupOf : D → Option (List D)
  | .tup xs => some xs
  | .ptup xs => some xs
  | _ => none
mutual
def bindT : Tg → D → Env → Option Env
  | .name i, x, env => some (env.set i (.fz x))
  | .tup ts, d, env => (tupOf d).bind fun xs => bindTs ts xs env
def bindTs : Tgs → List D → Env → Option Env
  | .nil, [], env => some env
  | .cons t r, x :: xs, env => (bindT t x env).bind fun env => bindTs r xs env
  | _, _, _ => none
end
def wipeE : Env → List Nat → Env
  | env, [] => env
  | env, v :: vs => (wipeE env vs).set v .un

def enumD (k : Int) : List D → List D
  | [] => []
  | x :: xs => .tup [.int k, x] :: enumD (k + 1) xs
def zipD : List D → List D → List D
  | x :: xs, y :: ys => .tup [x, y] :: zipD xs ys
  | _, _ => []
/-- two lists or two tuples, side by side -/
def zipOf : D → D → Option (List D)
  | .lst xs, .lst ys => some (zipD xs ys)
  | a, b => match tupLike a, tupLike b with
    | some xs, some ys => some (zipD xs ys)
    | _, _ => none
def zipV (v w : RV) : Option (List D) := v.d.bind fun x => w.d.bind fun y => zipOf x y
def rangeD (lo : Int) : Nat → List D
  | 0 => []
  | n + 1 => .int lo :: rangeD (lo + 1) n
def itemsOf : D → Option (List D)
  | .tup xs => some xs
  | .lst xs => some xs
  | .scr ns => some (ns.map .int)
  | .ktup xs => some xs
  | .ptup xs => some xs
  | .dK kvs => some (kvs.map fun kv => kD kv.1)
  | .dT kvs => some (kvs.map fun kv => ksD kv.1)
  | _ => none
def rngOk (i : Int) : Bool := decide (-(2 ^ 62) ≤ i ∧ i < 2 ^ 62)

/-- what is walked: a dict only where it is frozen -/
def iterV (v : RV) : Option (List D) := match v with
  | .fz (.dK kvs) => some (kvs.map fun kv => kD kv.1)
  | .fz (.dT kvs) => some (kvs.map fun kv => ksD kv.1)
  | v => match v.d with
    | some (.tup xs) => some xs
    | some (.lst xs) => some xs
    | some (.scr ns) => some (ns.map .int)
    | some (.ktup xs) => some xs
    | some (.ptup xs) => some xs
    | _ => none
/-- a comprehension's turns -/
def compL (f : D → List D → R (Option D)) : List D → List D → List D → R (List D)
  | [], acc, τ => .ok acc τ
  | x :: xs, acc, τ => match f x τ with
    | .ok (some y) τ' => if acc.length < LIM then compL f xs (acc ++ [y]) τ' else .stuck
    | .ok none τ' => compL f xs acc τ'
    | _ => .stuck
/-- .. of two clauses: the inner one goes on with the list so far -/
def compL2 (f : D → List D → List D → R (List D)) : List D → List D → List D → R (List D)
  | [], acc, τ => .ok acc τ
  | x :: xs, acc, τ => match f x acc τ with
    | .ok acc' τ' => compL2 f xs acc' τ'
    | _ => .stuck

def keepsOf : List RV → Option (List D)
  | [] => some []
  | v :: vs => match v.keep, keepsOf vs with
    | some d, some ds => some (d :: ds)
    | _, _ => none
def dsOf : List RV → Option (List D)
  | [] => some []
  | v :: vs => match v.d, dsOf vs with
    | some d, some ds => some (d :: ds)
    | _, _ => none
/-- an instance of this class, without an attribute of this name -/
def RV.isIns (v : RV) (c m : Str) : Bool := match v with
  | .fz (.ins c' fs) => decide (c' = c) && (fs.lookup m).isNone
  | .own (.ins c' fs) => decide (c' = c) && (fs.lookup m).isNone
  | .ro (.ins c' fs) => decide (c' = c) && (fs.lookup m).isNone
  | _ => false

mutual
def evalE (Φ : Phi) : E → Env → List D → R RV
  | .var i, env, τ => match env[i]? with
    | some (.fz d) => .ok (.fz d) τ
    | some (.own c) => .ok (.ro c) τ
    | some (.ro c) => .ok (.ro c) τ
    | _ => .stuck
  | .glb x, _, τ => R.of ((Φ.gl x).map RV.fz) τ
  | .non, _, τ => .ok (.fz .non) τ
  | .bl b, _, τ => .ok (.fz (.bl b)) τ
  | .int i, _, τ => .ok (.fz (.int i)) τ
  | .str x, _, τ => .ok (.fz (.str x)) τ
  | .tup es, env, τ => (evalEs Φ es env τ).bind fun vs τ => match keepsOf vs with
    | some ds => if ds.length ≤ LIM then .ok (.fz (.tup ds)) τ else .stuck
    | none => .stuck
  | .lst es, env, τ => (evalEs Φ es env τ).bind fun vs τ => match keepsOf vs with
    | some ds => if ds.length ≤ LIM then .ok (.own (.lst ds)) τ else .stuck
    | none => .stuck
  | .pick es i, env, τ => (evalEs Φ es env τ).bind fun vs τ => (evalE Φ i env τ).look fun d τ => match d with
    | .int k => R.of (atI vs k) τ
    | _ => .stuck
  | .bin o a b, env, τ => (evalE Φ a env τ).look fun x τ => (evalE Φ b env τ).look fun y τ => R.of (binop o x y) τ
  | .neg a, env, τ => (evalE Φ a env τ).look fun x τ => match x with
    | .int i => .ok (.fz (.int (-i))) τ
    | _ => .stuck
  | .cmp o a b, env, τ => (evalE Φ a env τ).look fun x τ => (evalE Φ b env τ).look fun y τ => R.of ((cmpop o x y).map fun k => RV.fz (.bl k)) τ
  | .chain o p a b c, env, τ => (evalE Φ a env τ).look fun x τ => (evalE Φ b env τ).look fun y τ => match cmpop o x y with
    | some true => (evalE Φ c env τ).look fun z τ => R.of ((cmpop p y z).map fun k => RV.fz (.bl k)) τ
    | some false => .ok (.fz (.bl false)) τ
    | none => .stuck
  | .not a, env, τ => (evalE Φ a env τ).look fun x τ => match x with
    | .bl k => .ok (.fz (.bl (!k))) τ
    | _ => .stuck
  | .and a b, env, τ => (evalE Φ a env τ).look fun x τ => match x with
    | .bl true => evalE Φ b env τ
    | .bl false => .ok (.fz (.bl false)) τ
    | _ => .stuck
  | .or a b, env, τ => (evalE Φ a env τ).look fun x τ => match x with
    | .bl false => evalE Φ b env τ
    | .bl true => .ok (.fz (.bl true)) τ
    | _ => .stuck
  | .ife c a b, env, τ => (evalE Φ c env τ).look fun x τ => match x with
    | .bl true => evalE Φ a env τ
    | .bl false => evalE Φ b env τ
    | _ => .stuck
  | .fld a f, env, τ => (evalE Φ a env τ).bind fun v τ => match v with
    | .fz (.ins _ fs) => R.of ((fs.lookup f).map RV.fz) τ
    | .ro (.ins _ fs) => R.of ((fs.lookup f).map fun c => match c with | .fz d => RV.fz d | c => RV.ro c) τ
    | _ => .stuck
  | .ix a i, env, τ => (evalE Φ a env τ).bind fun v τ => (evalE Φ i env τ).look fun y τ => match v with
    | .ro (.lsto cs) => match y with
      | .int k => R.of ((atI cs k).map fun c => match c with | .fz d => RV.fz d | c => RV.ro c) τ
      | _ => .stuck
    | v => match v.d with
      | some .hand => match y with
        | .int k => R.of ((atI τ k).map RV.fz) τ
        | _ => .stuck
      | some x => R.of ((ixop x y).map RV.fz) τ
      | none => .stuck
  | .sl a lo hi, env, τ => (evalE Φ a env τ).look fun x τ => (evalO Φ lo env τ).bind fun l τ => (evalO Φ hi env τ).bind fun h τ => R.of (slop x l h) τ
  | .rev a, env, τ => (evalE Φ a env τ).look fun x τ => R.of (revop x) τ
  | .call f es, env, τ => match Φ.fn f with
    | none => .stuck
    | some m => (evalEs Φ es env τ).bind fun vs τ => match m (vs.map RV.slot) τ with
      | .ok r _ τ => .ok r τ
      | .exc c fs _ τ => .exc c fs τ
      | .stuck => .stuck
  | .callk f np ks es, env, τ => match Φ.fn f with
    | none => .stuck
    | some m => match Φ.kw f np ks with
      | none => .stuck
      | some ds => (evalEs Φ es env τ).bind fun vs τ => match m (vs.map RV.slot ++ ds.map Slot.fz) τ with
        | .ok r _ τ => .ok r τ
        | .exc c fs _ τ => .exc c fs τ
        | .stuck => .stuck
  | .meth a c m es, env, τ => match Φ.mt c m with
    | none => .stuck
    | some f => (evalE Φ a env τ).bind fun v τ => if v.isIns c m then (evalEs Φ es env τ).bind fun vs τ => match f (v.slot :: vs.map RV.slot) τ with
      | .ok r _ τ => .ok r τ
      | .exc c fs _ τ => .exc c fs τ
      | .stuck => .stuck else .stuck
  | .new c es, env, τ => match Φ.nw c with
    | none => .stuck
    | some m => (evalEs Φ es env τ).bind fun vs τ => match m (.own (.ins c []) :: vs.map RV.slot) τ with
      | .ok (.fz .non) (.own o :: _) τ => .ok (.own o) τ
      | .exc c fs _ τ => .exc c fs τ
      | _ => .stuck
  | .bi b es, env, τ => (evalEs Φ es env τ).bind fun vs τ => match dsOf vs with
    | some ds => R.of (biop b ds) τ
    | none => .stuck
  | .isin a ts, env, τ => (evalE Φ a env τ).bind fun v τ => R.of ((isTys v ts).map fun k => RV.fz (.bl k)) τ
  | .dget a k x, env, τ => (evalE Φ a env τ).look fun d τ => if d.isDict then (evalE Φ k env τ).look fun y τ => (evalE Φ x env τ).kept fun z τ => R.of ((dgetop d y z).map RV.fz) τ else .stuck
  | .comp el tg it co own, env, τ => (evalI Φ it env τ).bind fun xs τ => (compL (fun x τ => match bindT tg x (wipeE env own) with
      | some env' => (evalC Φ co env' τ).bind fun b τ => if b then (evalE Φ el env' τ).kept fun d τ => .ok (some d) τ else .ok none τ
      | none => .stuck) xs [] τ).bind fun ys τ => .ok (.own (.lst ys)) τ
  | .comp2 el tg it tg2 it2 own own2, env, τ => (evalI Φ it env τ).bind fun xs τ => (compL2 (fun x acc τ => match bindT tg x (wipeE env own) with
      | some env' => (evalI Φ it2 env' τ).bind fun ys τ => compL (fun y τ => match bindT tg2 y (wipeE env' own2) with
          | some env2 => (evalE Φ el env2 τ).kept fun d τ => .ok (some d) τ
          | none => .stuck) ys acc τ
      | none => .stuck) xs [] τ).bind fun ys τ => .ok (.own (.lst ys)) τ
  | .dnewK, _, τ => .ok (.own (.dK [])) τ
  | .dnewT, _, τ => .ok (.own (.dT [])) τ
  | .fzn a, env, τ => (evalE Φ a env τ).kept fun d τ => .ok (.fz d) τ
  | .exf i f, env, τ => match env[i]? with
    | some (.exn _ fs) => R.of ((fs.lookup f).map RV.fz) τ
    | _ => .stuck
  | .exis i ts, env, τ => match env[i]? with
    | some (.exn c _) => .ok (.fz (.bl (ts.any fun t => Φ.sub c t))) τ
    | _ => .stuck
/-- arguments as they come -/
def evalEs (Φ : Phi) : Es → Env → List D → R (List RV)
  | .nil, _, τ => .ok [] τ
  | .cons e es, env, τ => (evalE Φ e env τ).bind fun v τ => (evalEs Φ es env τ).bind fun vs τ => .ok (v :: vs) τ
def evalO (Φ : Phi) : Oe → Env → List D → R (Option Int)
  | .no, _, τ => .ok none τ
  | .yes e, env, τ => (evalE Φ e env τ).look fun x τ => match x with
    | .int i => .ok (some i) τ
    | _ => .stuck
def evalC (Φ : Phi) : Oe → Env → List D → R Bool
  | .no, _, τ => .ok true τ
  | .yes e, env, τ => (evalE Φ e env τ).look fun x τ => match x with
    | .bl b => .ok b τ
    | _ => .stuck
def evalI (Φ : Phi) : It → Env → List D → R (List D)
  | .over e, env, τ => (evalE Φ e env τ).bind fun v τ => R.of (iterV v) τ
  | .rng1 e, env, τ => (evalE Φ e env τ).look fun x τ => match x with
    | .int j => if rngOk j then .ok (rangeD 0 j.toNat) τ else .stuck
    | _ => .stuck
  | .rng2 a b, env, τ => (evalE Φ a env τ).look fun x τ => (evalE Φ b env τ).look fun y τ => match x, y with
    | .int i, .int j => if rngOk i && rngOk j then .ok (rangeD i (j - i).toNat) τ else .stuck
    | _, _ => .stuck
  | .enum e, env, τ => (evalE Φ e env τ).bind fun v τ => R.of ((v.d.bind seqOf).map (enumD 0)) τ
  | .zip a b, env, τ => (evalE Φ a env τ).bind fun v τ => (evalE Φ b env τ).bind fun w τ => R.of (zipV v w) τ
end

/-- what a for walks: nothing that its body could change -/
def evalJV (Φ : Phi) (e : E) (env : Env) (τ : List D) : R RV := match e with
  | .var i => match env[i]? with
    | some (.ro c) => .ok (.ro c) τ
    | some (.fz d) => .ok (.fz d) τ
    | _ => .stuck
  | e => (evalE Φ e env τ).bind fun v τ => match v with
    | .ro _ => .stuck
    | v => .ok v τ
def evalJ (Φ : Phi) : It → Env → List D → R (List D)
  | .over e, env, τ => (evalJV Φ e env τ).bind fun v τ => R.of (iterV v) τ
  | .enum e, env, τ => (evalJV Φ e env τ).bind fun v τ => R.of ((v.d.bind seqOf).map (enumD 0)) τ
  | .zip a b, env, τ => (evalJV Φ a env τ).bind fun v τ => (evalJV Φ b env τ).bind fun w τ => R.of (zipV v w) τ
  | it, env, τ => evalI Φ it env τ
inductive Pl where | var (i : Nat) | fld (i : Nat) (f : Str)
mutual
inductive S where
  | asg (tg : Tg) (e : E) | aug (i : Nat) (o : Bop) (e : E)
  | mkhand (i : Nat) (e : E)
  | put (p : Pl) (k e : E) | augp (p : Pl) (k : E) (o : Bop) (e : E)
  | putf (i : Nat) (f : Str) (e : E) | augf (i : Nat) (f : Str) (o : Bop) (e : E)
  | app (p : Pl) (e : E) | ext (p : Pl) (e : E)
  | iff (c : E) (a b : Ss) | whil (c : E) (b : Ss) | for_ (tg : Tg) (it : It) (b : Ss)
  | ret (e : E) | retN | brk | cnt | pass | rais (c : Str) (es : Es) | drop (e : E)
  | frz (i : Nat) | kill (is : List Nat)
  | tryy (b : Ss) (h : Hs)
inductive Ss where | nil | cons (s : S) (r : Ss)
inductive Hs where | nil | cons (c : Str) (i : Option Nat) (b : Ss) (r : Hs)
end

inductive Out where
  | next (env : Env) (τ : List D) | ret (r : RV) (env : Env) (τ : List D)
  | brk (env : Env) (τ : List D) | cnt (env : Env) (τ : List D)
  | exc (c : Str) (fs : List (Str × D)) (env : Env) (τ : List D) | stuck
def Out.of {α : Type} (r : R α) (env : Env) (f : α → List D → Out) : Out := match r with
  | .ok a τ => f a τ
  | .exc c fs τ => .exc c fs env τ
  | .stuck => .stuck
def Out.then (o : Out) (f : Env → List D → Out) : Out := match o with
  | .next env τ => f env τ
  | o => o
def getP (env : Env) : Pl → Option Cell
  | .var i => match env[i]? with
    | some (.own c) => some c
    | _ => none
  | .fld i f => match env[i]? with
    | some (.own (.ins _ fs)) => fs.lookup f
    | _ => none
def putC (f : Str) (c : Cell) : List (Str × Cell) → List (Str × Cell)
  | [] => [(f, c)]
  | (g, x) :: r => if g = f then (g, c) :: r else (g, x) :: putC f c r
def setP (env : Env) (p : Pl) (c : Cell) : Env := match p with
  | .var i => env.set i (.own c)
  | .fld i f => match env[i]? with
    | some (.own (.ins k fs)) => env.set i (.own (.ins k (putC f c fs)))
    | _ => env
/-- a place is frozen where it is walked -/
def frzS (env : Env) (i : Nat) : Option Env := match env[i]? with
  | some (.own c) => some (env.set i (.fz c.frz))
  | some (.fz _) => some env
  | _ => none
def RV.cell : RV → Option Cell
  | .fz d => some (.fz d)
  | .own c => some c
  | .ro _ => none
def putop (c : Cell) (k v : D) : Option Cell := match c with
  | .lst xs => match k with
    | .int i => (ixN xs.length i).map fun j => .lst (xs.set j v)
    | _ => none
  | .dK kvs => if kvs.length < LIM then (keyOf k).map fun k => .dK (put kvs k v) else none
  | .dT kvs => match k with
    | .tup ks => if kvs.length < LIM then (keysOf ks).map fun k => .dT (put kvs k v) else none
    | _ => none
  | _ => none
def whileN (t : Env → List D → Out ⊕ (Bool × List D)) (b : Env → List D → Out) : Nat → Env → List D → Out
  | 0, _, _ => .stuck
  | n + 1, env, τ => match t env τ with
    | .inl o => o
    | .inr (false, τ) => .next env τ
    | .inr (true, τ) => match b env τ with
      | .next env τ => whileN t b n env τ
      | .cnt env τ => whileN t b n env τ
      | .brk env τ => .next env τ
      | o => o
def forL (b : D → Env → List D → Out) : List D → Env → List D → Out
  | [], env, τ => .next env τ
  | x :: xs, env, τ => match b x env τ with
    | .next env τ => forL b xs env τ
    | .cnt env τ => forL b xs env τ
    | .brk env τ => .next env τ
    | o => o
def Pl.ix : Pl → Nat
  | .var i => i
  | .fld i _ => i
/-- a slot that holds something -/
def hasS (env : Env) (i : Nat) : Bool := match env[i]? with
  | some (.own _) => true
  | some (.fz _) => true
  | _ => false
/-- a store at a place -/
def putOut (env : Env) (p : Pl) (k x : D) (τ : List D) : Out := match p with
  | .var i => (match env[i]? with
    | some (.fz .hand) => (match k with
      | .int j => match ixN τ.length j with
        | some j => .next env (τ.set j x)
        | none => .stuck
      | _ => .stuck)
    | _ => match (getP env (.var i)).bind fun c => putop c k x with
      | some c => .next (setP env (.var i) c) τ
      | none => .stuck)
  | p => match (getP env p).bind fun c => putop c k x with
    | some c => .next (setP env p c) τ
    | none => .stuck
end Vi
end
section
set_option Elab.async false
set_option linter.all false
set_option maxRecDepth 100000
namespace Vi
open PySem PySem.Spec PyProof.Rows L2

/-- the root of what is walked is frozen ahead of a for -/
def frzRoot (env : Env) : E → Option Env
  | .var i => match env[i]? with
    | some (.own c) => some (env.set i (.fz c.frz))
    | _ => some env
  | _ => some env
def frzIt (env : Env) : It → Option Env
  | .over e => frzRoot env e
  | .enum e => frzRoot env e
  | .zip a b => (frzRoot env a).bind fun env => frzRoot env b
  | _ => some env
mutual
def exec (Φ : Phi) (n : Nat) : S → Env → List D → Out
  | .asg tg e, env, τ => Out.of (evalE Φ e env τ) env fun v τ => match tg with
    | .name i => match v with
      | .fz d => .next (env.set i (.fz d)) τ
      | .own c => .next (env.set i (.own c)) τ
      | .ro _ => .stuck
    | tg => match v with
      | .fz d => match bindT tg d env with
        | some env' => .next env' τ
        | none => .stuck
      | _ => .stuck
  | .aug i o e, env, τ => match env[i]? with
    | some (.fz x) => Out.of (evalE Φ e env τ) env fun v τ => match v.d with
      | some y => match augop o x y with
        | some z => .next (env.set i (.fz z)) τ
        | _ => .stuck
      | none => .stuck
    | _ => .stuck
  | .mkhand i e, env, τ => if τ.isEmpty then Out.of (evalE Φ e env τ) env fun v τ => (match v with
      | .own (.lst (x :: xs)) => if τ.isEmpty then .next (env.set i (.fz .hand)) (x :: xs) else .stuck
      | _ => .stuck) else .stuck
  | .put p k e, env, τ => Out.of (evalE Φ e env τ) env fun v τ => match v.keep with
    | none => .stuck
    | some x => if hasS env p.ix then Out.of (evalE Φ k env τ) env fun kv τ => match kv.d with
      | none => .stuck
      | some k => putOut env p k x τ else .stuck
  | .augp p k o e, env, τ => if hasS env p.ix then Out.of (evalE Φ k env τ) env fun kv τ => match kv.d with
    | none => .stuck
    | some k => match getP env p with
      | none => .stuck
      | some c => match c.view.bind fun d => ixop d k with
        | none => .stuck
        | some old => Out.of (evalE Φ e env τ) env fun v τ => match v.d with
          | none => .stuck
          | some y => match augop o old y with
            | some z => putOut env p k z τ
            | _ => .stuck
    else .stuck
  | .putf i f e, env, τ => Out.of (evalE Φ e env τ) env fun v τ => match v.cell with
    | none => .stuck
    | some c => match env[i]? with
      | some (.own (.ins k fs)) => if fs.length < 900 then .next (env.set i (.own (.ins k (putC f c fs)))) τ else .stuck
      | _ => .stuck
  | .augf i f o e, env, τ => match env[i]? with
    | some (.own (.ins k fs)) => match fs.lookup f with
      | some (.fz x) => Out.of (evalE Φ e env τ) env fun v τ => match v.d with
        | none => .stuck
        | some y => match augop o x y with
          | some z => if fs.length < 900 then .next (env.set i (.own (.ins k (putC f (.fz z) fs)))) τ else .stuck
          | _ => .stuck
      | _ => .stuck
    | _ => .stuck
  | .app p e, env, τ => match getP env p with
    | some (.lst xs) => Out.of (evalE Φ e env τ) env fun v τ => match v.keep with
      | none => .stuck
      | some x => if xs.length < LIM then .next (setP env p (.lst (xs ++ [x]))) τ else .stuck
    | _ => .stuck
  | .ext p e, env, τ => match getP env p with
    | some (.lst xs) => Out.of (evalE Φ e env τ) env fun v τ => match v.d with
      | some (.lst ys) => if xs.length + ys.length ≤ LIM then .next (setP env p (.lst (xs ++ ys))) τ else .stuck
      | _ => .stuck
    | _ => .stuck
  | .iff c a b, env, τ => Out.of (evalE Φ c env τ) env fun v τ => match v.d with
    | some (.bl true) => execs Φ n a env τ
    | some (.bl false) => execs Φ n b env τ
    | _ => .stuck
  | .whil c b, env, τ => whileN (fun env τ => match evalE Φ c env τ with
      | .ok v τ => match v.d with
        | some (.bl k) => .inr (k, τ)
        | _ => .inl .stuck
      | .exc c fs τ => .inl (.exc c fs env τ)
      | .stuck => .inl .stuck) (fun env τ => execs Φ n b env τ) n env τ
  | .for_ tg it b, env, τ => match frzIt env it with
    | none => .stuck
    | some env => Out.of (evalJ Φ it env τ) env fun xs τ => forL (fun x env τ => match bindT tg x env with
        | some env => execs Φ n b env τ
        | none => .stuck) xs env τ
  | .ret e, env, τ => match e with
    | .var i => match env[i]? with
      | some (.own c) => .ret (.own c) (env.set i .un) τ
      | some (.fz d) => .ret (.fz d) env τ
      | _ => .stuck
    | e => Out.of (evalE Φ e env τ) env fun v τ => match v with
      | .ro _ => .stuck
      | v => .ret v env τ
  | .retN, env, τ => .ret (.fz .non) env τ
  | .brk, env, τ => .brk env τ
  | .cnt, env, τ => .cnt env τ
  | .pass, env, τ => .next env τ
  | .rais c es, env, τ => Out.of (evalEs Φ es env τ) env fun vs τ => match keepsOf vs, Φ.ex c with
    | some ds, some ns => if ns.length = ds.length then .exc c (ns.zip ds).reverse env τ else .stuck
    | _, _ => .stuck
  | .drop e, env, τ => Out.of (evalE Φ e env τ) env fun _ τ => .next env τ
  | .frz i, env, τ => match frzS env i with
    | some env => .next env τ
    | none => .stuck
  | .kill is, env, τ => .next (wipeE env is) τ
  | .tryy b h, env, τ => match execs Φ n b env τ with
    | .exc c fs env τ => execH Φ n c fs env τ h
    | o => o
def execs (Φ : Phi) (n : Nat) : Ss → Env → List D → Out
  | .nil, env, τ => .next env τ
  | .cons s r, env, τ => (exec Φ n s env τ).then fun env τ => execs Φ n r env τ
def execH (Φ : Phi) (n : Nat) (c : Str) (fs : List (Str × D)) (env : Env) (τ : List D) : Hs → Out
  | .nil => .exc c fs env τ
  | .cons t i b r => if Φ.sub c t then (match i with
      | some i => match execs Φ n b (env.set i (.exn c fs)) τ with
        | .next env τ => .next (env.set i .un) τ
        | .ret v env τ => .ret v (env.set i .un) τ
        | .brk env τ => .brk (env.set i .un) τ
        | .cnt env τ => .cnt (env.set i .un) τ
        | _ => .stuck
      | none => match execs Φ n b env τ with
        | .exc _ _ _ _ => .stuck
        | o => o) else execH Φ n c fs env τ r
end
/-- a def's meaning: m its slots beyond the parameters -/
def semDef (Φ : Phi) (n np m : Nat) (body : Ss) : Sem := fun args τ => if args.length = np then match execs Φ n body (args ++ List.replicate m .un) τ with
  | .next _ τ' => if τ.isEmpty = τ'.isEmpty then .ok (.fz .non) (List.replicate np .un) τ' else .stuck
  | .ret r _ τ' => if τ.isEmpty = τ'.isEmpty then .ok r (List.replicate np .un) τ' else .stuck
  | .exc c fs _ τ' => if τ.isEmpty = τ'.isEmpty then .exc c fs (List.replicate np .un) τ' else .stuck
  | _ => .stuck else .stuck
end Vi
end
section
set_option Elab.async false
set_option linter.all false
set_option maxRecDepth 100000
/-! Vi3: how data lies in the hand layer's heap. -/
namespace Vi
open PySem PySem.Spec PyProof.Rows L2

/-- the frozen part of the heap, and where the one hand lies -/
structure Gs where
  fr : Hp
  hd : Option Addr
def GLe (G G' : Gs) : Prop := (∀ a o, G.fr a = some o → G'.fr a = some o) ∧ ∀ h, G.hd = some h → G'.hd = some h
theorem GLe.refl (G : Gs) : GLe G G := ⟨fun _ _ h => h, fun _ h => h⟩
theorem GLe.trans {G G1 G2 : Gs} (a : GLe G G1) (b : GLe G1 G2) : GLe G G2 := ⟨fun x o h => b.1 x o (a.1 x o h), fun h e => b.2 h (a.2 h e)⟩
def isDictO : HO → Bool
  | .dK _ => true
  | .dT _ => true
  | _ => false
def Sub (G H : Hp) : Prop := ∀ a o, G a = some o → H a = some o ∨ (isDictO o = true ∧ ∃ ob, H a = some (.frz ob o))

section
variable (K : PySem.W.Frag) (mg : Str → Option Value) (G : Gs)
mutual
def RF : D → V → Prop
  | .non, v => v = .non
  | .bl b, v => v = .bl b
  | .int i, v => v = .int i
  | .str x, v => v = .str x
  | .tup xs, v => ∃ a vs, v = .ref a ∧ G.fr a = some (.tup vs) ∧ RFs xs vs
  | .lst xs, v => ∃ a vs, v = .ref a ∧ G.fr a = some (.lst vs) ∧ RFs xs vs
  | .dK kvs, v => ∃ a ws, v = .ref a ∧ G.fr a = some (.dK ws) ∧ RFk kvs ws
  | .dT kvs, v => ∃ a ws, v = .ref a ∧ G.fr a = some (.dT ws) ∧ RFt kvs ws
  | .ins c fs, v => ∃ a C dx ws, v = .ref a ∧ mg c = some (.ref C) ∧ G.fr a = some (.ins C dx ws) ∧ RFf fs ws
  | .hand, v => ∃ a, v = .ref a ∧ G.hd = some a
  | .scr ns, v => ∃ a, v = .ref a ∧ SqL K G.fr a (ns.map V.int)
  | .ktup xs, v => ∃ a vs, v = .ref a ∧ SqT K (fun _ => none) a vs ∧ RFs xs vs
  | .ptup xs, v => ∃ a vs, v = .ref a ∧ (∃ ob : Obj, ob.dict = none ∧ G.fr a = some (.frz ob (.tup vs))) ∧ RFs xs vs
def RFs : List D → List V → Prop
  | [], vs => vs = []
  | x :: xs, vs => ∃ v r, vs = v :: r ∧ RF x v ∧ RFs xs r
def RFk : List (Key × D) → List (Key × V) → Prop
  | [], ws => ws = []
  | (k, x) :: xs, ws => ∃ v r, ws = (k, v) :: r ∧ RF x v ∧ RFk xs r
def RFt : List (List Key × D) → List (List Key × V) → Prop
  | [], ws => ws = []
  | (k, x) :: xs, ws => ∃ v r, ws = (k, v) :: r ∧ RF x v ∧ RFt xs r
def RFf : List (Str × D) → List (Str × V) → Prop
  | [], ws => ws = []
  | (k, x) :: xs, ws => ∃ v r, ws = (k, v) :: r ∧ RF x v ∧ RFf xs r
end
mutual
/-- an owned thing (m: it may be written) with the places of its changeable parts -/
def RC (m : Bool) (H : Hp) : Cell → List Addr → V → Prop
  | .fz d, fp, v => fp = [] ∧ RF K mg G d v
  | .lst xs, fp, v => ∃ a vs, v = .ref a ∧ fp = [a] ∧ H a = some (.lst vs) ∧ RFs K mg G xs vs
  | .lsto cs, fp, v => ∃ a vs fps, v = .ref a ∧ fp = a :: fps ∧ H a = some (.lst vs) ∧ RCs m H cs fps vs
  | .dK kvs, fp, v => ∃ a ws, v = .ref a ∧ fp = [a] ∧ (if m = true then H a = some (.dK ws) else Rd H a (.dK ws)) ∧ RFk K mg G kvs ws
  | .dT kvs, fp, v => ∃ a ws, v = .ref a ∧ fp = [a] ∧ (if m = true then H a = some (.dT ws) else Rd H a (.dT ws)) ∧ RFt K mg G kvs ws
  | .ins c fs, fp, v => ∃ a C dx ws fps, v = .ref a ∧ fp = a :: fps ∧ mg c = some (.ref C) ∧ H a = some (.ins C dx ws) ∧ RCf m H fs fps ws
def RCs (m : Bool) (H : Hp) : List Cell → List Addr → List V → Prop
  | [], fp, vs => fp = [] ∧ vs = []
  | c :: cs, fp, vs => ∃ f1 f2 v r, fp = f1 ++ f2 ∧ vs = v :: r ∧ RC m H c f1 v ∧ RCs m H cs f2 r
def RCf (m : Bool) (H : Hp) : List (Str × Cell) → List Addr → List (Str × V) → Prop
  | [], fp, ws => fp = [] ∧ ws = []
  | (k, c) :: cs, fp, ws => ∃ f1 f2 v r, fp = f1 ++ f2 ∧ ws = (k, v) :: r ∧ RC m H c f1 v ∧ RCf m H cs f2 r
end
end

section
variable {K : PySem.W.Frag} {mg : Str → Option Value} {G G' : Gs}
theorem SqT.gle {a : Addr} {vs : List V} (g : GLe G G') (h : SqT K G.fr a vs) : SqT K G'.fr a vs := by
  rcases h with (h | ⟨o, h⟩) | h
  · exact .inl (.inl (g.1 _ _ h))
  · exact .inl (.inr ⟨o, g.1 _ _ h⟩)
  · exact .inr h
theorem SqL.gle {a : Addr} {vs : List V} (g : GLe G G') (h : SqL K G.fr a vs) : SqL K G'.fr a vs := by
  rcases h with (h | ⟨o, h⟩) | h
  · exact .inl (.inl (g.1 _ _ h))
  · exact .inl (.inr ⟨o, g.1 _ _ h⟩)
  · exact .inr h
mutual
theorem RF.mono (g : GLe G G') : ∀ {d : D} {v : V}, RF K mg G d v → RF K mg G' d v
  | .non, _, h => h
  | .bl _, _, h => h
  | .int _, _, h => h
  | .str _, _, h => h
  | .tup xs, _, ⟨a, vs, e, q, r⟩ => ⟨a, vs, e, g.1 _ _ q, RFs.mono g r⟩
  | .lst xs, _, ⟨a, vs, e, q, r⟩ => ⟨a, vs, e, g.1 _ _ q, RFs.mono g r⟩
  | .dK kvs, _, ⟨a, ws, e, q, r⟩ => ⟨a, ws, e, g.1 _ _ q, RFk.mono g r⟩
  | .dT kvs, _, ⟨a, ws, e, q, r⟩ => ⟨a, ws, e, g.1 _ _ q, RFt.mono g r⟩
  | .ins c fs, _, ⟨a, C, dx, ws, e, c1, q, r⟩ => ⟨a, C, dx, ws, e, c1, g.1 _ _ q, RFf.mono g r⟩
  | .hand, _, ⟨a, e, h⟩ => ⟨a, e, g.2 _ h⟩
  | .scr _, _, ⟨a, e, h⟩ => ⟨a, e, SqL.gle g h⟩
  | .ktup xs, _, ⟨a, vs, e, q, r⟩ => ⟨a, vs, e, q, RFs.mono g r⟩
  | .ptup xs, _, ⟨a, vs, e, ⟨ob, hd, q⟩, r⟩ => ⟨a, vs, e, ⟨ob, hd, g.1 _ _ q⟩, RFs.mono g r⟩
theorem RFs.mono (g : GLe G G') : ∀ {ds : List D} {vs : List V}, RFs K mg G ds vs → RFs K mg G' ds vs
  | [], _, h => h
  | _ :: _, _, ⟨v, r, e, q, s⟩ => ⟨v, r, e, RF.mono g q, RFs.mono g s⟩
theorem RFk.mono (g : GLe G G') : ∀ {ds : List (Key × D)} {vs : List (Key × V)}, RFk K mg G ds vs → RFk K mg G' ds vs
  | [], _, h => h
  | (_, _) :: _, _, ⟨v, r, e, q, s⟩ => ⟨v, r, e, RF.mono g q, RFk.mono g s⟩
theorem RFt.mono (g : GLe G G') : ∀ {ds : List (List Key × D)} {vs : List (List Key × V)}, RFt K mg G ds vs → RFt K mg G' ds vs
  | [], _, h => h
  | (_, _) :: _, _, ⟨v, r, e, q, s⟩ => ⟨v, r, e, RF.mono g q, RFt.mono g s⟩
theorem RFf.mono (g : GLe G G') : ∀ {ds : List (Str × D)} {vs : List (Str × V)}, RFf K mg G ds vs → RFf K mg G' ds vs
  | [], _, h => h
  | (_, _) :: _, _, ⟨v, r, e, q, s⟩ => ⟨v, r, e, RF.mono g q, RFf.mono g s⟩
end
/-- what stood stands -/
def Stays (H H' : Hp) (fp : List Addr) : Prop := ∀ a ∈ fp, ∀ o, H a = some o → H' a = some o
theorem Stays.left {H H' : Hp} {f g : List Addr} (s : Stays H H' (f ++ g)) : Stays H H' f := fun a h => s a (List.mem_append_left _ h)
theorem Stays.right {H H' : Hp} {f g : List Addr} (s : Stays H H' (f ++ g)) : Stays H H' g := fun a h => s a (List.mem_append_right _ h)
theorem Stays.tail {H H' : Hp} {a : Addr} {g : List Addr} (s : Stays H H' (a :: g)) : Stays H H' g := fun b h => s b (List.mem_cons_of_mem _ h)
theorem Stays.head {H H' : Hp} {a : Addr} {g : List Addr} (s : Stays H H' (a :: g)) {o : HO} (h : H a = some o) : H' a = some o := s a List.mem_cons_self o h
theorem rd_stays {H H' : Hp} {a : Addr} {g : List Addr} (s : Stays H H' (a :: g)) {o : HO} (h : Rd H a o) : Rd H' a o := by
  rcases h with h | ⟨ob, h⟩
  · exact .inl (s.head h)
  · exact .inr ⟨ob, s.head h⟩
mutual
theorem RC.mono {m : Bool} {H H' : Hp} (g : GLe G G') : ∀ {c : Cell} {fp : List Addr} {v : V}, RC K mg G m H c fp v → Stays H H' fp → RC K mg G' m H' c fp v
  | .fz _, _, _, ⟨e, h⟩, _ => ⟨e, RF.mono g h⟩
  | .lst _, _, _, ⟨a, vs, e, ef, h, r⟩, s => ⟨a, vs, e, ef, by subst ef; exact s.head h, RFs.mono g r⟩
  | .lsto _, _, _, ⟨a, vs, fps, e, ef, h, r⟩, s => ⟨a, vs, fps, e, ef, by subst ef; exact s.head h, RCs.mono g r (by subst ef; exact s.tail)⟩
  | .dK _, _, _, ⟨a, vs, e, ef, h, r⟩, s => ⟨a, vs, e, ef, by
      subst ef
      cases m with
      | true => exact s.head h
      | false => exact rd_stays s h, RFk.mono g r⟩
  | .dT _, _, _, ⟨a, vs, e, ef, h, r⟩, s => ⟨a, vs, e, ef, by
      subst ef
      cases m with
      | true => exact s.head h
      | false => exact rd_stays s h, RFt.mono g r⟩
  | .ins _ _, _, _, ⟨a, C, dx, ws, fps, e, ef, c1, h, r⟩, s => ⟨a, C, dx, ws, fps, e, ef, c1, by subst ef; exact s.head h, RCf.mono g r (by subst ef; exact s.tail)⟩
theorem RCs.mono {m : Bool} {H H' : Hp} (g : GLe G G') : ∀ {c : List Cell} {fp : List Addr} {v : List V}, RCs K mg G m H c fp v → Stays H H' fp → RCs K mg G' m H' c fp v
  | [], _, _, h, _ => h
  | _ :: _, _, _, ⟨f1, f2, v, r, ef, e, h, t⟩, s => ⟨f1, f2, v, r, ef, e, RC.mono g h (by subst ef; exact s.left), RCs.mono g t (by subst ef; exact s.right)⟩
theorem RCf.mono {m : Bool} {H H' : Hp} (g : GLe G G') : ∀ {c : List (Str × Cell)} {fp : List Addr} {v : List (Str × V)}, RCf K mg G m H c fp v → Stays H H' fp → RCf K mg G' m H' c fp v
  | [], _, _, h, _ => h
  | (_, _) :: _, _, _, ⟨f1, f2, v, r, ef, e, h, t⟩, s => ⟨f1, f2, v, r, ef, e, RC.mono g h (by subst ef; exact s.left), RCf.mono g t (by subst ef; exact s.right)⟩
end
def isTupO : HO → Bool
  | .tup _ => true
  | _ => false
/-! every place of an owned thing holds something, no tuple -/
mutual
theorem RC.there' {m : Bool} {H : Hp} : ∀ {c : Cell} {fp : List Addr} {v : V}, RC K mg G m H c fp v → ∀ a ∈ fp, ∃ o, H a = some o ∧ isTupO o = false
  | .fz _, _, _, ⟨e, _⟩, b, hb => by subst e; cases hb
  | .lst _, _, _, ⟨a, vs, e, ef, h, r⟩, b, hb => by subst ef; rcases List.mem_cons.mp hb with rfl | z; exact ⟨_, h, rfl⟩; cases z
  | .lsto _, _, _, ⟨a, vs, fps, e, ef, h, r⟩, b, hb => by subst ef; rcases List.mem_cons.mp hb with rfl | z; exact ⟨_, h, rfl⟩; exact RCs.there' r b z
  | .dK _, _, _, ⟨a, vs, e, ef, h, r⟩, b, hb => by
      subst ef
      rcases List.mem_cons.mp hb with rfl | z
      · cases m with
        | true => exact ⟨_, h, rfl⟩
        | false => rcases h with h | ⟨_, h⟩ <;> exact ⟨_, h, rfl⟩
      · cases z
  | .dT _, _, _, ⟨a, vs, e, ef, h, r⟩, b, hb => by
      subst ef
      rcases List.mem_cons.mp hb with rfl | z
      · cases m with
        | true => exact ⟨_, h, rfl⟩
        | false => rcases h with h | ⟨_, h⟩ <;> exact ⟨_, h, rfl⟩
      · cases z
  | .ins _ _, _, _, ⟨a, C, dx, ws, fps, e, ef, c1, h, r⟩, b, hb => by subst ef; rcases List.mem_cons.mp hb with rfl | z; exact ⟨_, h, rfl⟩; exact RCf.there' r b z
theorem RCs.there' {m : Bool} {H : Hp} : ∀ {c : List Cell} {fp : List Addr} {v : List V}, RCs K mg G m H c fp v → ∀ a ∈ fp, ∃ o, H a = some o ∧ isTupO o = false
  | [], _, _, ⟨e, _⟩, b, hb => by subst e; cases hb
  | _ :: _, _, _, ⟨f1, f2, v, r, ef, e, h, t⟩, b, hb => by subst ef; rcases List.mem_append.mp hb with z | z; exact RC.there' h b z; exact RCs.there' t b z
theorem RCf.there' {m : Bool} {H : Hp} : ∀ {c : List (Str × Cell)} {fp : List Addr} {v : List (Str × V)}, RCf K mg G m H c fp v → ∀ a ∈ fp, ∃ o, H a = some o ∧ isTupO o = false
  | [], _, _, ⟨e, _⟩, b, hb => by subst e; cases hb
  | (_, _) :: _, _, _, ⟨f1, f2, v, r, ef, e, h, t⟩, b, hb => by subst ef; rcases List.mem_append.mp hb with z | z; exact RC.there' h b z; exact RCf.there' t b z
end
theorem RC.there {m : Bool} {H : Hp} {c : Cell} {fp : List Addr} {v : V} (h : RC K mg G m H c fp v) : ∀ a ∈ fp, ∃ o, H a = some o := fun a ha => let ⟨o, e, _⟩ := h.there' a ha; ⟨o, e⟩
/-! what may be written may be read -/
mutual
theorem RC.weak {H : Hp} : ∀ {c : Cell} {fp : List Addr} {v : V}, RC K mg G true H c fp v → RC K mg G false H c fp v
  | .fz _, _, _, h => h
  | .lst _, _, _, h => h
  | .lsto _, _, _, ⟨a, vs, fps, e, ef, h, r⟩ => ⟨a, vs, fps, e, ef, h, RCs.weak r⟩
  | .dK _, _, _, ⟨a, vs, e, ef, h, r⟩ => ⟨a, vs, e, ef, .inl h, r⟩
  | .dT _, _, _, ⟨a, vs, e, ef, h, r⟩ => ⟨a, vs, e, ef, .inl h, r⟩
  | .ins _ _, _, _, ⟨a, C, dx, ws, fps, e, ef, c1, h, r⟩ => ⟨a, C, dx, ws, fps, e, ef, c1, h, RCf.weak r⟩
theorem RCs.weak {H : Hp} : ∀ {c : List Cell} {fp : List Addr} {v : List V}, RCs K mg G true H c fp v → RCs K mg G false H c fp v
  | [], _, _, h => h
  | _ :: _, _, _, ⟨f1, f2, v, r, ef, e, h, t⟩ => ⟨f1, f2, v, r, ef, e, RC.weak h, RCs.weak t⟩
theorem RCf.weak {H : Hp} : ∀ {c : List (Str × Cell)} {fp : List Addr} {v : List (Str × V)}, RCf K mg G true H c fp v → RCf K mg G false H c fp v
  | [], _, _, h => h
  | (_, _) :: _, _, _, ⟨f1, f2, v, r, ef, e, h, t⟩ => ⟨f1, f2, v, r, ef, e, RC.weak h, RCf.weak t⟩
end
/-- all the places at fp are frozen as they stand -/
def Gs.add (G : Gs) (H : Hp) (fp : List Addr) : Gs := ⟨fun a => if a ∈ fp then H a else G.fr a, G.hd⟩
theorem Gs.add_in {H : Hp} {fp : List Addr} {a : Addr} (h : a ∈ fp) : (G.add H fp).fr a = H a := if_pos h
theorem Gs.add_out {H : Hp} {fp : List Addr} {a : Addr} (h : a ∉ fp) : (G.add H fp).fr a = G.fr a := if_neg h
theorem Gs.le_add {H : Hp} {fp : List Addr} (h : ∀ a ∈ fp, G.fr a = none) : GLe G (G.add H fp) := ⟨fun a o e => by
  rw [Gs.add_out fun z => by rw [h a z] at e; cases e]
  exact e, fun _ h => h⟩
/-- G' knows what H has at fp -/
def Knows (G' : Gs) (H : Hp) (fp : List Addr) : Prop := ∀ a ∈ fp, ∀ o, H a = some o → G'.fr a = some o
theorem Knows.left {H : Hp} {f g : List Addr} (s : Knows G' H (f ++ g)) : Knows G' H f := fun a h => s a (List.mem_append_left _ h)
theorem Knows.right {H : Hp} {f g : List Addr} (s : Knows G' H (f ++ g)) : Knows G' H g := fun a h => s a (List.mem_append_right _ h)
mutual
theorem RC.frz {H : Hp} (g : GLe G G') : ∀ {c : Cell} {fp : List Addr} {v : V}, RC K mg G true H c fp v → Knows G' H fp → RF K mg G' c.frz v
  | .fz _, _, _, ⟨_, h⟩, _ => RF.mono g h
  | .lst _, _, _, ⟨a, vs, e, ef, h, r⟩, k => ⟨a, vs, e, k a (by rw [ef]; exact List.mem_cons_self) _ h, RFs.mono g r⟩
  | .lsto _, _, _, ⟨a, vs, fps, e, ef, h, r⟩, k => ⟨a, vs, e, k a (by rw [ef]; exact List.mem_cons_self) _ h, RCs.frz g r fun b hb => k b (by rw [ef]; exact List.mem_cons_of_mem _ hb)⟩
  | .dK _, _, _, ⟨a, vs, e, ef, h, r⟩, k => ⟨a, vs, e, k a (by rw [ef]; exact List.mem_cons_self) _ h, RFk.mono g r⟩
  | .dT _, _, _, ⟨a, vs, e, ef, h, r⟩, k => ⟨a, vs, e, k a (by rw [ef]; exact List.mem_cons_self) _ h, RFt.mono g r⟩
  | .ins _ _, _, _, ⟨a, C, dx, ws, fps, e, ef, c1, h, r⟩, k => ⟨a, C, dx, ws, e, c1, k a (by rw [ef]; exact List.mem_cons_self) _ h, RCf.frz g r fun b hb => k b (by rw [ef]; exact List.mem_cons_of_mem _ hb)⟩
theorem RCs.frz {H : Hp} (g : GLe G G') : ∀ {c : List Cell} {fp : List Addr} {v : List V}, RCs K mg G true H c fp v → Knows G' H fp → RFs K mg G' (frzs c) v
  | [], _, _, ⟨_, e⟩, _ => e
  | _ :: _, _, _, ⟨f1, f2, v, r, ef, e, h, t⟩, k => ⟨v, r, e, RC.frz g h (by subst ef; exact k.left), RCs.frz g t (by subst ef; exact k.right)⟩
theorem RCf.frz {H : Hp} (g : GLe G G') : ∀ {c : List (Str × Cell)} {fp : List Addr} {v : List (Str × V)}, RCf K mg G true H c fp v → Knows G' H fp → RFf K mg G' (frzf c) v
  | [], _, _, ⟨_, e⟩, _ => e
  | (_, _) :: _, _, _, ⟨f1, f2, v, r, ef, e, h, t⟩, k => ⟨v, r, e, RC.frz g h (by subst ef; exact k.left), RCf.frz g t (by subst ef; exact k.right)⟩
end
end
end Vi
end
section
set_option Elab.async false
set_option linter.all false
set_option maxRecDepth 100000
/-! Vi4: states, steps, what a value is read as. -/
namespace Vi
open PySem PySem.Spec PyProof.Rows L2

abbrev Hx := Option (Addr × Addr × Addr)
section
variable (K : PySem.W.Frag) (mg : Str → Option Value) (hx : Hx)
def RSlot (G : Gs) (rs : List Addr) (H : Hp) : Slot → List Addr → Option V → Prop
  | .un, fp, _ => fp = []
  | .fz d, fp, o => fp = [] ∧ ∃ v, o = some v ∧ RF K mg G d v
  | .own c, fp, o => ∃ v, o = some v ∧ RC K mg G true H c fp v
  | .ro c, fp, o => fp = [] ∧ ∃ v f, o = some v ∧ RC K mg G false H c f v ∧ ∀ a ∈ f, a ∈ rs
  | .exn c fs, fp, o => fp = [] ∧ ∃ a C d ws, hx = some (a, C, d) ∧ o = some (.ref a) ∧ mg c = some (.ref C) ∧ H d = some (.xd ws) ∧ RFf K mg G fs ws ∧ d ∈ rs
def RE (G : Gs) (rs : List Addr) (H : Hp) : Env → List Addr → L2.St → Prop
  | [], fp, σ => fp = [] ∧ σ = []
  | s :: env, fp, σ => ∃ o r f1 f2, σ = o :: r ∧ fp = f1 ++ f2 ∧ RSlot K mg hx G rs H s f1 o ∧ RE G rs H env f2 r
/-- where the hand lies -/
def HandAt (H : Hp) (G : Gs) (τ : List D) : Prop :=
  (τ = [] ∧ G.hd = none) ∨ (τ ≠ [] ∧ ∃ h vs, G.hd = some h ∧ H h = some (.lst vs) ∧ RFs K mg G τ vs ∧ G.fr h = none)
structure SR (H : Hp) (G : Gs) (fp rs : List Addr) (σ : L2.St) (env : Env) (τ : List D) : Prop where
  sub : Sub G.fr H
  nd : fp.Nodup
  nf : ∀ a ∈ fp, G.fr a = none
  hand : HandAt K mg H G τ
  out : ∀ h, G.hd = some h → h ∉ fp
  rok : ∀ a ∈ rs, a ∉ fp ∧ G.hd ≠ some a ∧ G.fr a = none ∧ ∃ o, H a = some o ∧ isTupO o = false
  env : RE K mg hx G rs H env fp σ
end
/-- a thing stands; what is frozen and is a dict may be locked -/
def Kept (G : Gs) (H' : Hp) (a : Addr) (o : HO) : Prop := H' a = some o ∨ (isDictO o = true ∧ G.fr a = some o ∧ ∃ ob, H' a = some (.frz ob o))
theorem Kept.none {G : Gs} {H' : Hp} {a : Addr} {o : HO} (h : Kept G H' a o) (e : G.fr a = none) : H' a = some o := by
  rcases h with h | ⟨_, z, _⟩
  · exact h
  · rw [e] at z; cases z
theorem Kept.nd {G : Gs} {H' : Hp} {a : Addr} {o : HO} (h : Kept G H' a o) (e : isDictO o = false) : H' a = some o := by
  rcases h with h | ⟨z, _⟩
  · exact h
  · rw [e] at z; cases z
theorem Kept.there {G : Gs} {H' : Hp} {a : Addr} {o : HO} (h : Kept G H' a o) : ∃ u, H' a = some u := by
  rcases h with h | ⟨_, _, _, h⟩ <;> exact ⟨_, h⟩
theorem Kept.rd {G : Gs} {H' : Hp} {a : Addr} {o : HO} (h : Kept G H' a o) : Rd H' a o := by
  rcases h with h | ⟨_, _, ob, h⟩
  · exact .inl h
  · exact .inr ⟨ob, h⟩
theorem dict_tup {o : HO} (h : isDictO o = true) : isTupO o = false := by cases o <;> first | rfl | cases h
theorem Kept.trans {G G1 G2 : Gs} {H1 H2 : Hp} {a : Addr} {o : HO} (h : Kept G H1 a o) (g : isTupO o = false → G1.fr a = G.fr a) (k : ∀ o', H1 a = some o' → Kept G1 H2 a o' ∧ (isTupO o' = false → G2.fr a = G1.fr a)) :
    Kept G H2 a o ∧ (isTupO o = false → G2.fr a = G.fr a) := by
  rcases h with h | ⟨d, e, ob, h⟩
  · obtain ⟨h2, g2⟩ := k _ h
    refine ⟨?_, fun t => (g2 t).trans (g t)⟩
    rcases h2 with h2 | ⟨d, e, ob, h2⟩
    · exact .inl h2
    · exact .inr ⟨d, by rw [← g (dict_tup d)]; exact e, ob, h2⟩
  · obtain ⟨h2, g2⟩ := k _ h
    exact ⟨.inr ⟨d, e, ob, h2.nd rfl⟩, fun t => (g2 rfl).trans (g t)⟩
/-- a step: what stood stands, but the hand; only tuples may be frozen -/
structure FrameE (H : Hp) (G : Gs) (H' : Hp) (G' : Gs) : Prop where
  keep : ∀ a o, H a = some o → G.hd ≠ some a → Kept G H' a o ∧ (isTupO o = false → G'.fr a = G.fr a)
  le : ∀ a o, G.fr a = some o → G'.fr a = some o
  hd : G'.hd = G.hd
/-- .. and the hand -/
structure StepP (H : Hp) (G : Gs) (H' : Hp) (G' : Gs) : Prop where
  keep : ∀ a o, H a = some o → Kept G H' a o ∧ (isTupO o = false → G'.fr a = G.fr a)
  le : ∀ a o, G.fr a = some o → G'.fr a = some o
  hd : G'.hd = G.hd
  sub : Sub G'.fr H'
section
variable {K : PySem.W.Frag} {mg : Str → Option Value} {hx : Hx} {H H' H1 H2 : Hp} {G G' G1 G2 : Gs} {fp rs lv : List Addr} {σ : L2.St} {env : Env} {τ τ' : List D}
theorem StepP.frame (s : StepP H G H' G') : FrameE H G H' G' := ⟨fun a o h _ => s.keep a o h, s.le, s.hd⟩
theorem StepP.refl (h : Sub G.fr H) : StepP H G H G := ⟨fun _ _ h => ⟨.inl h, fun _ => rfl⟩, fun _ _ h => h, rfl, h⟩
theorem StepP.trans (a : StepP H G H1 G1) (b : StepP H1 G1 H2 G2) : StepP H G H2 G2 := ⟨fun x o h => by
  obtain ⟨h1, g1⟩ := a.keep x o h
  exact h1.trans g1 fun o' e => b.keep x o' e, fun x o h => b.le x o (a.le x o h), b.hd.trans a.hd, b.sub⟩
theorem FrameE.refl : FrameE H G H G := ⟨fun _ _ h _ => ⟨.inl h, fun _ => rfl⟩, fun _ _ h => h, rfl⟩
theorem FrameE.trans (a : FrameE H G H1 G1) (b : FrameE H1 G1 H2 G2) : FrameE H G H2 G2 := ⟨fun x o h n => by
  obtain ⟨h1, g1⟩ := a.keep x o h n
  exact h1.trans g1 fun o' e => b.keep x o' e (by rw [a.hd]; exact n), fun x o h => b.le x o (a.le x o h), b.hd.trans a.hd⟩
theorem FrameE.gle (f : FrameE H G H' G') : GLe G G' := ⟨f.le, fun h e => f.hd.trans e⟩
theorem Sub.at {G H : Hp} (s : Sub G H) {a : Addr} {o : HO} (h : G a = some o) : ∃ u, H a = some u := by
  rcases s a o h with z | ⟨_, ob, z⟩ <;> exact ⟨_, z⟩
theorem HandAt.there (h : HandAt K mg H G τ) {a : Addr} (e : G.hd = some a) : (∃ vs, H a = some (.lst vs)) ∧ G.fr a = none := by
  rcases h with ⟨_, z⟩ | ⟨_, b, vs, eb, hb, _, nf⟩
  · rw [z] at e; cases e
  · rw [eb] at e; cases e; exact ⟨⟨vs, hb⟩, nf⟩
/-- what is frozen is not the hand -/
theorem HandAt.ne (h : HandAt K mg H G τ) {a : Addr} {o : HO} (e : G.fr a = some o) : G.hd ≠ some a := fun z => by
  rw [(h.there z).2] at e; cases e
theorem SR.gle (s : SR K mg hx H G fp rs σ env τ) (f : FrameE H G H' G') : GLe G G' := f.gle
theorem HandAt.gle (s : HandAt K mg H G τ) (b : Sub G.fr H) (f : FrameE H G H' G') : GLe G G' := f.gle
theorem RE.there' : ∀ {env : Env} {f : List Addr} {σ : L2.St}, RE K mg hx G rs H env f σ → ∀ a ∈ f, ∃ o, H a = some o ∧ isTupO o = false
  | [], _, _, ⟨e, _⟩, a, ha => by subst e; cases ha
  | sl :: _, _, _, ⟨o, r, f1, f2, e1, e2, hs, ht⟩, a, ha => by
    subst e2
    rcases List.mem_append.mp ha with z | z
    · cases sl with
      | un => rw [show f1 = [] from hs] at z; cases z
      | fz d => rw [hs.1] at z; cases z
      | own c =>
        obtain ⟨v, _, h⟩ := hs
        exact RC.there' h a z
      | ro c => rw [hs.1] at z; cases z
      | exn c fs => rw [hs.1] at z; cases z
    · exact RE.there' ht a z
theorem RE.there {env : Env} {f : List Addr} {σ : L2.St} (h : RE K mg hx G rs H env f σ) : ∀ a ∈ f, ∃ o, H a = some o := fun a ha => let ⟨o, e, _⟩ := h.there' a ha; ⟨o, e⟩
theorem RSlot.stay (g : GLe G G') {f : List Addr} {o : Option V} (hf : Stays H H' f) (hr : Stays H H' rs) : ∀ {s : Slot}, RSlot K mg hx G rs H s f o → RSlot K mg hx G' rs H' s f o
  | .un, h => h
  | .fz _, ⟨e, v, ev, h⟩ => ⟨e, v, ev, RF.mono g h⟩
  | .own _, ⟨v, ev, h⟩ => ⟨v, ev, RC.mono g h hf⟩
  | .ro _, ⟨e, v, f', ev, h, n⟩ => ⟨e, v, f', ev, RC.mono g h fun a ha => hr a (n a ha), n⟩
  | .exn _ _, ⟨e, a, C, d, ws, e1, e2, e3, h, r, n⟩ => ⟨e, a, C, d, ws, e1, e2, e3, hr d n _ h, RFf.mono g r, n⟩
theorem RE.stay (g : GLe G G') (hr : Stays H H' rs) : ∀ {env : Env} {f : List Addr} {σ : L2.St}, Stays H H' f → RE K mg hx G rs H env f σ → RE K mg hx G' rs H' env f σ
  | [], _, _, _, h => h
  | _ :: _, _, _, hf, ⟨o, r, f1, f2, e1, e2, hs, ht⟩ => ⟨o, r, f1, f2, e1, e2, RSlot.stay g (fun a ha => hf a (by rw [e2]; exact List.mem_append_left _ ha)) hr hs, RE.stay g hr (fun a ha => hf a (by rw [e2]; exact List.mem_append_right _ ha)) ht⟩
/-- behind a step -/
theorem SR.next (s : SR K mg hx H G fp rs σ env τ) (f : FrameE H G H' G') (b : Sub G'.fr H') (h : HandAt K mg H' G' τ') : SR K mg hx H' G' fp rs σ env τ' := by
  have g := s.gle f
  have ho : ∀ a, a ∈ fp → G.hd ≠ some a := fun a ha z => s.out a z ha
  have sf : Stays H H' fp := fun a ha o e => (f.keep a o e (ho a ha)).1.none (s.nf a ha)
  have sr : Stays H H' rs := fun a ha o e => (f.keep a o e (s.rok a ha).2.1).1.none (s.rok a ha).2.2.1
  refine ⟨b, s.nd, fun a ha => ?_, h, fun x hx => s.out x (f.hd ▸ hx), fun a ha => ?_, RE.stay g sr sf s.env⟩
  · obtain ⟨o, e, t⟩ := RE.there' s.env a ha
    rw [(f.keep a o e (ho a ha)).2 t]
    exact s.nf a ha
  · obtain ⟨h1, h2, h4, o, h3, t⟩ := s.rok a ha
    exact ⟨h1, by rw [f.hd]; exact h2, by rw [(f.keep a o h3 h2).2 t]; exact h4, o, sr a ha o h3, t⟩
theorem HandAt.step (h : HandAt K mg H G τ) (b : Sub G.fr H) (p : StepP H G H' G') : HandAt K mg H' G' τ := by
  have g := h.gle b p.frame
  rcases h with ⟨e, z⟩ | ⟨e, a, vs, ea, ha, r, nf⟩
  · exact .inl ⟨e, p.hd.trans z⟩
  · exact .inr ⟨e, a, vs, p.hd.trans ea, (p.keep a _ ha).1.nd rfl, RFs.mono g r, ((p.keep a _ ha).2 rfl).trans nf⟩
theorem SR.step (s : SR K mg hx H G fp rs σ env τ) (p : StepP H G H' G') : SR K mg hx H' G' fp rs σ env τ := s.next p.frame p.sub (s.hand.step s.sub p)
/-- a new thing that is owned -/
theorem StepP.new {p : Addr} {o : HO} (b : Sub G.fr H) (hp : H p = none) : StepP H G (upd H p o) G :=
  ⟨fun a u h => ⟨.inl (by rw [upd_ne (ne_of_none h hp)]; exact h), fun _ => rfl⟩, fun _ _ h => h, rfl, fun a u h => by
    rcases b a u h with z | ⟨z, ob, y⟩
    · exact .inl (by rw [upd_ne (ne_of_none z hp)]; exact z)
    · exact .inr ⟨z, ob, by rw [upd_ne (ne_of_none y hp)]; exact y⟩⟩
/-- places that nothing knew are frozen -/
theorem StepP.freeze {f : List Addr} (p : StepP H G H' G') (sb : Sub G.fr H) (hf : ∀ a ∈ f, H a = none) : StepP H G H' (G'.add H' f) :=
  ⟨fun a u h => ⟨(p.keep a u h).1, fun t => by
    rw [Gs.add_out fun z => by rw [hf a z] at h; cases h]
    exact (p.keep a u h).2 t⟩, fun a o h => by
      rw [Gs.add_out fun z => by
        obtain ⟨u, e⟩ := sb.at h
        rw [hf a z] at e; cases e]
      exact p.le a o h, p.hd, fun a u h => by
    by_cases ha : a ∈ f
    · rw [Gs.add_in ha] at h
      exact .inl h
    · rw [Gs.add_out ha] at h
      exact p.sub a u h⟩
theorem StepP.newF {p : Addr} {o : HO} (b : Sub G.fr H) (hp : H p = none) : StepP H G (upd H p o) (G.add (upd H p o) [p]) :=
  (StepP.new b hp).freeze b fun a ha => by rw [List.mem_singleton.mp ha]; exact hp
theorem add_new {p : Addr} {o : HO} : (G.add (upd H p o) [p]).fr p = some o := by rw [Gs.add_in List.mem_cons_self, upd_same]

/-! ### values -/
/-- places new since H -/
structure Fresh (H : Hp) (G' : Gs) (f : List Addr) : Prop where
  nd : f.Nodup
  new : ∀ a ∈ f, H a = none
  nf : ∀ a ∈ f, G'.fr a = none
  ne : ∀ a ∈ f, G'.hd ≠ some a
def RVr (K : PySem.W.Frag) (mg : Str → Option Value) (lv : List Addr) (H : Hp) (G : Gs) (f : List Addr) : RV → V → Prop
  | .fz d, v => f = [] ∧ RF K mg G d v
  | .own c, v => RC K mg G true H c f v
  | .ro c, v => f = [] ∧ ∃ g, RC K mg G false H c g v ∧ ∀ a ∈ g, a ∈ lv
theorem Fresh.nil : Fresh H G' [] := ⟨List.nodup_nil, fun _ h => (nomatch h), fun _ h => (nomatch h), fun _ h => (nomatch h)⟩
def HdOk (G : Gs) (H : Hp) : Prop := ∀ h, G.hd = some h → (∃ o, H h = some o ∧ isTupO o = false) ∧ G.fr h = none
theorem HandAt.ok (h : HandAt K mg H G τ) : HdOk G H := fun a e => ⟨let ⟨⟨_, z⟩, _⟩ := h.there e; ⟨_, z, rfl⟩, (h.there e).2⟩
theorem Fresh.one {p : Addr} (b : Sub G.fr H) (k : HdOk G H) (hp : H p = none) : Fresh H G [p] := by
  refine ⟨by simp, fun a ha => ?_, fun a ha => ?_, fun a ha => ?_⟩
  all_goals (rw [List.mem_singleton.mp ha])
  · exact hp
  · cases e : G.fr p with
    | none => rfl
    | some o =>
      obtain ⟨u, z⟩ := b.at e
      rw [z] at hp; cases hp
  · intro e
    obtain ⟨⟨o, z, _⟩, _⟩ := k p e
    rw [z] at hp; cases hp
/-- a sequence that is read: in the heap (but the hand), or of the module -/
def TQ (K : PySem.W.Frag) (H : Hp) (G : Gs) (a : Addr) (vs : List V) : Prop := (Rd H a (.tup vs) ∧ G.hd ≠ some a) ∨ SqT K (fun _ => none) a vs
def LQ (K : PySem.W.Frag) (H : Hp) (G : Gs) (a : Addr) (vs : List V) : Prop := (Rd H a (.lst vs) ∧ G.hd ≠ some a) ∨ SqL K (fun _ => none) a vs
theorem TQ.sq {a : Addr} {vs : List V} (h : TQ K H G a vs) : SqT K H a vs := by
  rcases h with h | (h | ⟨o, h⟩) | h
  · exact .inl h.1
  · cases h
  · cases h
  · exact .inr h
theorem LQ.sq {a : Addr} {vs : List V} (h : LQ K H G a vs) : SqL K H a vs := by
  rcases h with h | (h | ⟨o, h⟩) | h
  · exact .inl h.1
  · cases h
  · cases h
  · exact .inr h
theorem rd_frame {a : Addr} {o : HO} (h : Rd H a o) (n : G.hd ≠ some a) (f : FrameE H G H' G') : Rd H' a o := by
  rcases h with h | ⟨ob, h⟩
  · exact (f.keep a _ h n).1.rd
  · exact .inr ⟨ob, (f.keep a _ h n).1.nd rfl⟩
theorem TQ.frame {a : Addr} {vs : List V} (h : TQ K H G a vs) (f : FrameE H G H' G') : TQ K H' G' a vs := by
  rcases h with ⟨h, n⟩ | h
  · exact .inl ⟨rd_frame h n f, by rw [f.hd]; exact n⟩
  · exact .inr h
theorem LQ.frame {a : Addr} {vs : List V} (h : LQ K H G a vs) (f : FrameE H G H' G') : LQ K H' G' a vs := by
  rcases h with ⟨h, n⟩ | h
  · exact .inl ⟨rd_frame h n f, by rw [f.hd]; exact n⟩
  · exact .inr h
/-- a value that is looked at: its outside in the heap, its inside frozen -/
def RT (K : PySem.W.Frag) (mg : Str → Option Value) (H : Hp) (G : Gs) : D → V → Prop
  | .lst xs, v => ∃ a vs, v = .ref a ∧ (H a = some (.lst vs) ∧ G.hd ≠ some a) ∧ RFs K mg G xs vs
  | .scr ns, v => ∃ a, v = .ref a ∧ LQ K H G a (ns.map V.int)
  | .dK kvs, v => ∃ a ws, v = .ref a ∧ (Rd H a (.dK ws) ∧ G.hd ≠ some a) ∧ RFk K mg G kvs ws
  | .dT kvs, v => ∃ a ws, v = .ref a ∧ (Rd H a (.dT ws) ∧ G.hd ≠ some a) ∧ RFt K mg G kvs ws
  | d, v => RF K mg G d v
theorem Sub.rd {G H : Hp} (s : Sub G H) {a : Addr} {o : HO} (h : G a = some o) : Rd H a o := by
  rcases s a o h with z | ⟨_, ob, z⟩
  · exact .inl z
  · exact .inr ⟨ob, z⟩
theorem Sub.rd2 {G H : Hp} (s : Sub G H) {a : Addr} {o : HO} (hd : isDictO o = false) (h : Rd G a o) : Rd H a o := by
  rcases h with h | ⟨ob, h⟩
  · exact s.rd h
  · rcases s a _ h with z | ⟨z, _⟩
    · exact .inr ⟨ob, z⟩
    · cases z
theorem rd_ne {a : Addr} {o : HO} (k : HdOk G H) (h : Rd G.fr a o) : G.hd ≠ some a := fun e => by
  have z := (k a e).2
  rcases h with h | ⟨ob, h⟩ <;> rw [z] at h <;> cases h
theorem RF.rt (b : Sub G.fr H) (k : HdOk G H) : ∀ {d : D} {v : V}, RF K mg G d v → RT K mg H G d v
  | .non, _, h => h
  | .bl _, _, h => h
  | .int _, _, h => h
  | .str _, _, h => h
  | .tup _, _, h => h
  | .lst _, _, ⟨a, vs, e, q, r⟩ => ⟨a, vs, e, ⟨(by
      rcases b _ _ q with z | ⟨z, _⟩
      · exact z
      · cases z), rd_ne k (.inl q)⟩, r⟩
  | .scr _, _, ⟨a, e, q⟩ => ⟨a, e, by
      rcases q with q | q
      · exact .inl ⟨b.rd2 rfl q, rd_ne k q⟩
      · exact .inr (.inr q)⟩
  | .dK _, _, ⟨a, ws, e, q, r⟩ => ⟨a, ws, e, ⟨b.rd q, rd_ne k (.inl q)⟩, r⟩
  | .dT _, _, ⟨a, ws, e, q, r⟩ => ⟨a, ws, e, ⟨b.rd q, rd_ne k (.inl q)⟩, r⟩
  | .ins _ _, _, h => h
  | .hand, _, h => h
  | .ktup _, _, h => h
  | .ptup _, _, h => h
theorem RC.rt {m : Bool} (b : Sub G.fr H) (k : HdOk G H) : ∀ {c : Cell} {f : List Addr} {v : V} {d : D}, c.view = some d → RC K mg G m H c f v → (∀ a ∈ f, G.hd ≠ some a) → RT K mg H G d v
  | .fz _, _, _, _, e, ⟨_, h⟩, _ => by cases e; exact h.rt b k
  | .lst _, _, _, _, e, ⟨a, vs, ev, ef, h, r⟩, n => by cases e; exact ⟨a, vs, ev, ⟨h, n a (by rw [ef]; exact List.mem_cons_self)⟩, r⟩
  | .dK _, _, _, _, e, ⟨a, vs, ev, ef, h, r⟩, n => by
      cases e
      refine ⟨a, vs, ev, ⟨?_, n a (by rw [ef]; exact List.mem_cons_self)⟩, r⟩
      cases m with
      | true => exact .inl h
      | false => exact h
  | .dT _, _, _, _, e, ⟨a, vs, ev, ef, h, r⟩, n => by
      cases e
      refine ⟨a, vs, ev, ⟨?_, n a (by rw [ef]; exact List.mem_cons_self)⟩, r⟩
      cases m with
      | true => exact .inl h
      | false => exact h
theorem RVr.rt {f : List Addr} {rv : RV} {v : V} {d : D} (b : Sub G.fr H) (k : HdOk G H) (e : rv.d = some d) (h : RVr K mg lv H G f rv v) (n : ∀ a ∈ f, G.hd ≠ some a) (hl : ∀ a ∈ lv, G.hd ≠ some a) : RT K mg H G d v := by
  cases rv with
  | fz x =>
    cases e
    exact h.2.rt b k
  | own c => exact RC.rt b k e h n
  | ro c =>
    obtain ⟨_, g, h, z⟩ := h
    exact RC.rt b k e h fun a ha => hl a (z a ha)
theorem RT.frame (f : FrameE H G H' G') (g : GLe G G') : ∀ {d : D} {v : V}, RT K mg H G d v → RT K mg H' G' d v
  | .non, _, h => h
  | .bl _, _, h => h
  | .int _, _, h => h
  | .str _, _, h => h
  | .tup xs, v, h => @RF.mono K mg G G' g (.tup xs) v h
  | .ktup xs, v, h => @RF.mono K mg G G' g (.ktup xs) v h
  | .ptup xs, v, h => @RF.mono K mg G G' g (.ptup xs) v h
  | .lst _, _, ⟨a, vs, e, q, r⟩ => ⟨a, vs, e, ⟨(f.keep a _ q.1 q.2).1.nd rfl, by rw [f.hd]; exact q.2⟩, RFs.mono g r⟩
  | .scr _, _, ⟨a, e, q⟩ => ⟨a, e, q.frame f⟩
  | .dK _, _, ⟨a, ws, e, q, r⟩ => ⟨a, ws, e, ⟨rd_frame q.1 q.2 f, by rw [f.hd]; exact q.2⟩, RFk.mono g r⟩
  | .dT _, _, ⟨a, ws, e, q, r⟩ => ⟨a, ws, e, ⟨rd_frame q.1 q.2 f, by rw [f.hd]; exact q.2⟩, RFt.mono g r⟩
  | .ins c fs, v, h => @RF.mono K mg G G' g (.ins c fs) v h
  | .hand, v, h => @RF.mono K mg G G' g .hand v h
/-- .. of any value, that does not lie in the way -/
theorem RVr.frame {f : List Addr} {rv : RV} {v : V} (fr : FrameE H G H' G') (g : GLe G G') (n : ∀ a ∈ f, G.hd ≠ some a ∧ G.fr a = none) (hl : ∀ a ∈ lv, G.hd ≠ some a ∧ G.fr a = none) (h : RVr K mg lv H G f rv v) : RVr K mg lv H' G' f rv v := by
  cases rv with
  | fz d => exact ⟨h.1, RF.mono g h.2⟩
  | own c => exact RC.mono g h fun a ha ob e => (fr.keep a ob e (n a ha).1).1.none (n a ha).2
  | ro c =>
    obtain ⟨e, q, h, z⟩ := h
    exact ⟨e, q, RC.mono g h fun a ha ob e => (fr.keep a ob e (hl a (z a ha)).1).1.none (hl a (z a ha)).2, z⟩
/-- a value is kept -/
theorem RVr.keep {f : List Addr} {rv : RV} {v : V} {d : D} (h : RVr K mg lv H G f rv v) (e : rv.keep = some d) (hf : ∀ a ∈ f, G.fr a = none) : RF K mg (G.add H f) d v := by
  cases rv with
  | fz x =>
    cases e
    exact RF.mono (Gs.le_add hf) h.2
  | own c =>
    cases e
    exact RC.frz (Gs.le_add hf) h fun a ha o e => by rw [Gs.add_in ha]; exact e
  | ro c => cases e
end
end Vi
end
section
set_option Elab.async false
set_option linter.all false
set_option maxRecDepth 100000
set_option maxHeartbeats 1000000
/-! Vi5: operations by values. -/
namespace Vi
open PySem PySem.Spec PyProof.Rows L2

theorem lim_line {n : Nat} (h : n ≤ LIM) : n ≤ sizeLine := Nat.le_trans h (by unfold LIM; rw [sizeLine_eq]; decide)
theorem lim_lt {n : Nat} (h : n < LIM) : n < sizeLine := Nat.lt_of_lt_of_le h (by unfold LIM; rw [sizeLine_eq]; decide)
section
variable {K : PySem.W.Frag} {mg : Str → Option Value} {H H' : Hp} {G G' : Gs}
theorem RFs.length : ∀ {ds : List D} {vs : List V}, RFs K mg G ds vs → vs.length = ds.length
  | [], _, h => by rw [show _ = [] from h]; rfl
  | _ :: _, _, ⟨v, r, e, _, t⟩ => by rw [e, List.length_cons, List.length_cons, RFs.length t]
theorem RFs.append : ∀ {ds es : List D} {vs ws : List V}, RFs K mg G ds vs → RFs K mg G es ws → RFs K mg G (ds ++ es) (vs ++ ws)
  | [], _, _, _, h, t => by rw [show _ = [] from h]; exact t
  | _ :: _, _, _, _, ⟨v, r, e, q, s⟩, t => ⟨v, r ++ _, by rw [e]; rfl, q, RFs.append s t⟩
theorem RFs.get : ∀ {ds : List D} {vs : List V} {i : Nat} {d : D}, RFs K mg G ds vs → ds[i]? = some d → ∃ v, vs[i]? = some v ∧ RF K mg G d v
  | [], _, _, _, _, e => by simp at e
  | x :: _, _, 0, d, ⟨v, r, e, q, _⟩, h => by
    rw [List.getElem?_cons_zero] at h
    cases h
    exact ⟨v, by rw [e]; rfl, q⟩
  | x :: xs, _, i + 1, d, ⟨v, r, e, _, t⟩, h => by
    obtain ⟨w, e1, q⟩ := RFs.get (i := i) t (by simpa using h)
    exact ⟨w, by rw [e]; simpa using e1, q⟩
theorem RFs.get' : ∀ {ds : List D} {vs : List V} {i : Nat} {v : V}, RFs K mg G ds vs → vs[i]? = some v → ∃ d, ds[i]? = some d ∧ RF K mg G d v
  | [], _, _, _, h, e => by rw [show _ = [] from h] at e; simp at e
  | x :: _, _, 0, w, ⟨v, r, e, q, _⟩, h => by
    rw [e, List.getElem?_cons_zero] at h
    cases h
    exact ⟨x, rfl, q⟩
  | x :: xs, _, i + 1, w, ⟨v, r, e, _, t⟩, h => by
    obtain ⟨d, e1, q⟩ := RFs.get' (i := i) t (by rw [e] at h; simpa using h)
    exact ⟨d, by simpa using e1, q⟩
theorem RFs.drop : ∀ {ds : List D} {vs : List V} (n : Nat), RFs K mg G ds vs → RFs K mg G (ds.drop n) (vs.drop n)
  | _, _, 0, h => h
  | [], _, n + 1, h => by rw [show _ = [] from h]; exact rfl
  | _ :: _, _, n + 1, ⟨v, r, e, _, t⟩ => by rw [e]; exact RFs.drop n t
theorem RFs.take : ∀ {ds : List D} {vs : List V} (n : Nat), RFs K mg G ds vs → RFs K mg G (ds.take n) (vs.take n)
  | _, _, 0, h => rfl
  | [], _, n + 1, h => by rw [show _ = [] from h]; exact rfl
  | _ :: _, _, n + 1, ⟨v, r, e, q, t⟩ => by rw [e]; exact ⟨v, r.take n, rfl, q, RFs.take n t⟩
theorem RFs.set {d : D} {v : V} (q : RF K mg G d v) : ∀ {ds : List D} {vs : List V} (n : Nat), RFs K mg G ds vs → RFs K mg G (ds.set n d) (vs.set n v)
  | [], _, _, h => by rw [show _ = [] from h]; exact rfl
  | _ :: _, _, 0, ⟨w, r, e, _, t⟩ => by rw [e]; exact ⟨v, r, rfl, q, t⟩
  | _ :: _, _, n + 1, ⟨w, r, e, q', t⟩ => by rw [e]; exact ⟨w, r.set n v, rfl, q', RFs.set q n t⟩
theorem RFs.flat {ds : List D} {vs : List V} (h : RFs K mg G ds vs) : ∀ n : Nat, RFs K mg G (List.replicate n ds).flatten (List.replicate n vs).flatten
  | 0 => rfl
  | n + 1 => by
    rw [List.replicate_succ, List.replicate_succ, List.flatten_cons, List.flatten_cons]
    exact h.append (RFs.flat h n)
theorem RFs.cut {ds : List D} {vs : List V} (h : RFs K mg G ds vs) (lo hi : Option Int) : RFs K mg G (cut ds lo hi) (cutV vs lo hi) := by
  unfold Vi.cut cutV
  rw [h.length]
  exact (h.drop _).take _
theorem RFs.atI {ds : List D} {vs : List V} (h : RFs K mg G ds vs) {i : Int} {d : D} (e : L2.atI ds i = some d) : ∃ v, L2.atI vs i = some v ∧ RF K mg G d v := by
  unfold L2.atI at e ⊢
  rw [h.length]
  cases q : ixN ds.length i with
  | none => rw [q] at e; cases e
  | some j =>
    rw [q] at e
    exact h.get e
theorem RFs.of_ints : ∀ {ns : List Int}, RFs K mg G (ns.map D.int) (ns.map V.int)
  | [] => rfl
  | n :: ns => ⟨.int n, ns.map V.int, rfl, rfl, RFs.of_ints⟩

structure Now (H : Hp) (G : Gs) : Prop where
  sub : Sub G.fr H
  hd : HdOk G H
def Yld (K : PySem.W.Frag) (mg : Str → Option Value) (H : Hp) (G : Gs) (rv : RV) (Q : VK) : Prop := ∀ v H' G' f, StepP H G H' G' → RVr K mg [] H' G' f rv v → Fresh H G' f → Q v H'
variable {Q : VK}
theorem Yld.fz {d : D} {v : V} (q : Yld K mg H G (.fz d) Q) (n : Now H G) (r : RF K mg G d v) : Q v H := q v H G [] (StepP.refl n.sub) ⟨rfl, r⟩ Fresh.nil
theorem Yld.newT {ds : List D} {vs : List V} (q : Yld K mg H G (.fz (.tup ds)) Q) (n : Now H G) (r : RFs K mg G ds vs) (p : Addr) (hp : H p = none) : Q (.ref p) (upd H p (.tup vs)) :=
  have g : GLe G (G.add (upd H p (.tup vs)) [p]) := Gs.le_add fun a ha => (Fresh.one n.sub n.hd hp).nf a ha
  q _ _ _ [] (StepP.newF n.sub hp) ⟨rfl, p, vs, rfl, add_new, RFs.mono g r⟩ Fresh.nil
theorem Yld.newL {ds : List D} {vs : List V} (q : Yld K mg H G (.own (.lst ds)) Q) (n : Now H G) (r : RFs K mg G ds vs) (p : Addr) (hp : H p = none) : Q (.ref p) (upd H p (.lst vs)) :=
  q _ _ G [p] (StepP.new n.sub hp) ⟨p, vs, rfl, rfl, upd_same, r⟩ (Fresh.one n.sub n.hd hp)

/-- a two-place operation -/
def rBin (K : PySem.W.Frag) (mg : Str → Option Value) (g : D → D → Option RV) : R2 := fun x y H Q => ∃ G a b rv, Now H G ∧ RT K mg H G a x ∧ RT K mg H G b y ∧ g a b = some rv ∧ Yld K mg H G rv Q
def Bop.op : Bop → Operator
  | .add => .Add | .sub => .Sub | .mul => .Mult | .fdiv => .FloorDiv | .mod => .Mod | .pow => .Pow | .shl => .LShift | .shr => .RShift | .band => .BitAnd | .bor => .BitOr
/-- which operations are served -/
def Bop.ok : Bop → Bool
  | _ => true
end
section
variable {X : Cx}
theorem op_bin (o : Bop) : OpR X (binaryOp o.op) (rBin X.K X.mg (binop o)) := by
  intro pins s σ H x y v u Q I rx ry h
  obtain ⟨G, a, b, rv, n, ra, rb, e, q⟩ := h
  unfold binop at e
  split at e
  · cases e; cases (show x = _ from ra); cases (show y = _ from rb)
    exact op_add pins s σ H _ _ v u Q I rx ry ⟨_, _, rfl, rfl, q.fz n rfl⟩
  · split at e
    · rename_i as bs hl
      cases e
      have ra0 := ra
      have rb0 := rb
      obtain ⟨p1, vs1, rfl, h1, r1⟩ := ra
      obtain ⟨p2, vs2, rfl, h2, r2⟩ := rb
      refine op_catA pins s σ H _ _ v u Q I rx ry ⟨p1, p2, vs1, vs2, rfl, rfl, .inl (n.sub.rd h1), .inl (n.sub.rd h2), lim_line (by rw [r1.length, r2.length]; exact hl), fun z => ?_, fun _ z => ?_, fun _ _ p hp => q.newT n (r1.append r2) p hp⟩
      · have z3 : as = [] := List.eq_nil_of_length_eq_zero (by rw [← r1.length, z]; rfl)
        subst z3
        exact q.fz n rb0
      · have z3 : bs = [] := List.eq_nil_of_length_eq_zero (by rw [← r2.length, z]; rfl)
        subst z3
        rw [List.append_nil] at q
        exact q.fz n ra0
    · cases e
  · split at e
    · rename_i as bs hl
      cases e
      obtain ⟨p1, vs1, rfl, h1, r1⟩ := ra
      obtain ⟨p2, vs2, rfl, h2, r2⟩ := rb
      exact op_cat pins s σ H _ _ v u Q I rx ry ⟨p1, p2, vs1, vs2, rfl, rfl, h1.1, h2.1, lim_line (by rw [r1.length, r2.length]; exact hl), fun p hp => q.newL n (r1.append r2) p hp⟩
    · cases e
  · split at e
    · rename_i hl
      cases e; cases (show x = _ from ra); cases (show y = _ from rb)
      exact op_add_str pins s σ H _ _ v u Q I rx ry ⟨_, _, rfl, rfl, lim_line hl, q.fz n rfl⟩
    · cases e
  · split at e
    · rename_i as bs hl
      cases e
      have ra0 := ra
      have rb0 := rb
      obtain ⟨p1, vs1, rfl, ⟨ob1, _, h1⟩, r1⟩ := ra
      obtain ⟨p2, vs2, rfl, h2, r2⟩ := rb
      refine op_catA pins s σ H _ _ v u Q I rx ry ⟨p1, p2, vs1, vs2, rfl, rfl, .inl (n.sub.rd2 rfl (.inr ⟨_, h1⟩)), .inl (n.sub.rd h2), lim_line (by rw [r1.length, r2.length]; exact hl), fun z => ?_, fun z1 z => ?_, fun z1 z2 p hp => ?_⟩
      · have z3 : as = [] := List.eq_nil_of_length_eq_zero (by rw [← r1.length, z]; rfl)
        subst z3
        exact q.fz n rb0
      · have z3 : bs = [] := List.eq_nil_of_length_eq_zero (by rw [← r2.length, z]; rfl)
        have z4 : as.isEmpty = false := by
          cases as with
          | nil => exact absurd (List.eq_nil_of_length_eq_zero r1.length) z1
          | cons _ _ => rfl
        subst z3
        rw [z4] at q
        simp only [Bool.false_eq_true, if_false, List.isEmpty_nil, if_true] at q
        exact q.fz n ra0
      · have z4 : as.isEmpty = false := by
          cases as with
          | nil => exact absurd (List.eq_nil_of_length_eq_zero r1.length) z1
          | cons _ _ => rfl
        have z5 : bs.isEmpty = false := by
          cases bs with
          | nil => exact absurd (List.eq_nil_of_length_eq_zero r2.length) z2
          | cons _ _ => rfl
        rw [z4] at q
        rw [z5] at q
        simp only [Bool.false_eq_true, if_false] at q
        exact q.newT n (r1.append r2) p hp
    · cases e
  · split at e
    · rename_i as bs hl
      cases e
      have ra0 := ra
      have rb0 := rb
      obtain ⟨p1, vs1, rfl, h1, r1⟩ := ra
      obtain ⟨p2, vs2, rfl, ⟨ob2, _, h2⟩, r2⟩ := rb
      refine op_catA pins s σ H _ _ v u Q I rx ry ⟨p1, p2, vs1, vs2, rfl, rfl, .inl (n.sub.rd h1), .inl (n.sub.rd2 rfl (.inr ⟨_, h2⟩)), lim_line (by rw [r1.length, r2.length]; exact hl), fun z => ?_, fun z1 z => ?_, fun z1 z2 p hp => ?_⟩
      · have z3 : as = [] := List.eq_nil_of_length_eq_zero (by rw [← r1.length, z]; rfl)
        subst z3
        exact q.fz n rb0
      · have z3 : bs = [] := List.eq_nil_of_length_eq_zero (by rw [← r2.length, z]; rfl)
        have z4 : as.isEmpty = false := by
          cases as with
          | nil => exact absurd (List.eq_nil_of_length_eq_zero r1.length) z1
          | cons _ _ => rfl
        subst z3
        rw [z4] at q
        simp only [Bool.false_eq_true, if_false, List.append_nil] at q
        exact q.fz n ra0
      · have z4 : as.isEmpty = false := by
          cases as with
          | nil => exact absurd (List.eq_nil_of_length_eq_zero r1.length) z1
          | cons _ _ => rfl
        have z5 : bs.isEmpty = false := by
          cases bs with
          | nil => exact absurd (List.eq_nil_of_length_eq_zero r2.length) z2
          | cons _ _ => rfl
        rw [z4] at q
        simp only [Bool.false_eq_true, if_false] at q
        exact q.newT n (r1.append r2) p hp
    · cases e
  · split at e
    · rename_i as bs hl
      cases e
      have ra0 := ra
      have rb0 := rb
      obtain ⟨p1, vs1, rfl, ⟨ob1, _, h1⟩, r1⟩ := ra
      obtain ⟨p2, vs2, rfl, ⟨ob2, _, h2⟩, r2⟩ := rb
      refine op_catA pins s σ H _ _ v u Q I rx ry ⟨p1, p2, vs1, vs2, rfl, rfl, .inl (n.sub.rd2 rfl (.inr ⟨_, h1⟩)), .inl (n.sub.rd2 rfl (.inr ⟨_, h2⟩)), lim_line (by rw [r1.length, r2.length]; exact hl), fun z => ?_, fun z1 z => ?_, fun z1 z2 p hp => ?_⟩
      · have z3 : as = [] := List.eq_nil_of_length_eq_zero (by rw [← r1.length, z]; rfl)
        subst z3
        exact q.fz n rb0
      · have z3 : bs = [] := List.eq_nil_of_length_eq_zero (by rw [← r2.length, z]; rfl)
        have z4 : as.isEmpty = false := by
          cases as with
          | nil => exact absurd (List.eq_nil_of_length_eq_zero r1.length) z1
          | cons _ _ => rfl
        subst z3
        rw [z4] at q
        simp only [Bool.false_eq_true, if_false, List.isEmpty_nil, if_true] at q
        exact q.fz n ra0
      · have z4 : as.isEmpty = false := by
          cases as with
          | nil => exact absurd (List.eq_nil_of_length_eq_zero r1.length) z1
          | cons _ _ => rfl
        have z5 : bs.isEmpty = false := by
          cases bs with
          | nil => exact absurd (List.eq_nil_of_length_eq_zero r2.length) z2
          | cons _ _ => rfl
        rw [z4] at q
        rw [z5] at q
        simp only [Bool.false_eq_true, if_false] at q
        exact q.newT n (r1.append r2) p hp
    · cases e
  · cases e; cases (show x = _ from ra); cases (show y = _ from rb)
    exact op_sub pins s σ H _ _ v u Q I rx ry ⟨_, _, rfl, rfl, q.fz n rfl⟩
  · split at e
    · rename_i hl
      cases e; cases (show x = _ from ra); cases (show y = _ from rb)
      exact op_mul pins s σ H _ _ v u Q I rx ry ⟨_, _, rfl, rfl, hl, q.fz n rfl⟩
    · cases e
  · split at e
    · rename_i hl
      cases e; cases (show y = _ from rb)
      obtain ⟨p1, vs1, rfl, h1, r1⟩ := ra
      exact op_repT pins s σ H _ _ v u Q I rx ry ⟨p1, _, vs1, rfl, rfl, .inl (n.sub.rd h1), (fun z => hl.1 (by rw [← r1.length, z]; rfl)), hl.2.2.1, hl.2.2.2, (by rw [r1.length]; exact hl.2.1), fun p hp => q.newT n (r1.flat _) p hp⟩
    · cases e
  · split at e
    · rename_i k hl
      cases e; cases (show y = _ from rb)
      obtain ⟨p1, vs1, rfl, h1, r1⟩ := ra
      refine op_rep pins s σ H _ _ v u Q I rx ry ⟨p1, _, vs1, rfl, rfl, h1.1, ?_, ?_, lim_line (by rw [r1.length]; exact hl.1), fun p hp => q.newL n (r1.flat _) p hp⟩
      · have := hl.2
        unfold LIM at this
        omega
      · have := hl.2
        unfold LIM at this
        omega
    · cases e
  · split at e
    · rename_i hl
      cases e; cases (show x = _ from ra); cases (show y = _ from rb)
      exact op_fdivN pins s σ H _ _ v u Q I rx ry ⟨_, _, rfl, rfl, hl, q.fz n rfl⟩
    · cases e
  · split at e
    · rename_i hl
      cases e; cases (show x = _ from ra); cases (show y = _ from rb)
      exact op_modN pins s σ H _ _ v u Q I rx ry ⟨_, _, rfl, rfl, hl, q.fz n rfl⟩
    · cases e
  · split at e
    · rename_i hl
      cases e; cases (show x = _ from ra); cases (show y = _ from rb)
      exact op_pow pins s σ H _ _ v u Q I rx ry ⟨_, _, rfl, rfl, hl, q.fz n rfl⟩
    · cases e
  · split at e
    · rename_i hl
      cases e; cases (show x = _ from ra); cases (show y = _ from rb)
      exact op_shl pins s σ H _ _ v u Q I rx ry ⟨_, _, rfl, rfl, hl, q.fz n rfl⟩
    · cases e
  · split at e
    · rename_i hl
      cases e; cases (show x = _ from ra); cases (show y = _ from rb)
      exact op_shr pins s σ H _ _ v u Q I rx ry ⟨_, _, rfl, rfl, hl, q.fz n rfl⟩
    · cases e
  · cases e; cases (show x = _ from ra); cases (show y = _ from rb)
    exact op_and pins s σ H _ _ v u Q I rx ry ⟨_, _, rfl, rfl, q.fz n rfl⟩
  · cases e; cases (show x = _ from ra); cases (show y = _ from rb)
    exact op_or pins s σ H _ _ v u Q I rx ry ⟨_, _, rfl, rfl, q.fz n rfl⟩
  · cases e
def Bop.augs : Bop → Bool
  | .add => true
  | .sub => true
  | _ => false
def rAug (K : PySem.W.Frag) (mg : Str → Option Value) (g : D → D → Option D) : R2 := fun x y H Q => ∃ G a b d, Now H G ∧ RT K mg H G a x ∧ RT K mg H G b y ∧ g a b = some d ∧ Yld K mg H G (.fz d) Q
theorem op_aug (o : Bop) : OpR X (inplaceOp o.op) (rAug X.K X.mg (augop o)) := by
  intro pins s σ H x y v u Q I rx ry h
  obtain ⟨G, a, b, rv, n, ra, rb, e, q⟩ := h
  unfold augop at e
  split at e
  · cases e; cases (show x = _ from ra); cases (show y = _ from rb)
    exact iop_add pins s σ H _ _ v u Q I rx ry ⟨_, _, rfl, rfl, q.fz n rfl⟩
  · cases e; cases (show x = _ from ra); cases (show y = _ from rb)
    exact iop_sub pins s σ H _ _ v u Q I rx ry ⟨_, _, rfl, rfl, q.fz n rfl⟩
  · split at e
    · rename_i hl
      cases e; cases (show x = _ from ra); cases (show y = _ from rb)
      exact iop_add_str pins s σ H _ _ v u Q I rx ry ⟨_, _, rfl, rfl, lim_line hl, q.fz n rfl⟩
    · cases e
  · cases e
end
end Vi
end
section
set_option Elab.async false
set_option linter.all false
set_option maxRecDepth 100000
set_option maxHeartbeats 1000000
/-! Vi6: data read off the heap; comparisons. -/
namespace Vi
open PySem PySem.Spec PyProof.Rows L2

mutual
theorem pl_plain : ∀ {n : Nat} {d : D}, d.pl n = true → d.py.plain = true ∧ d.py.depth ≤ n
  | _, .non, _ => ⟨rfl, Nat.zero_le _⟩
  | _, .bl _, _ => ⟨rfl, Nat.zero_le _⟩
  | _, .int _, _ => ⟨rfl, Nat.zero_le _⟩
  | _, .str _, _ => ⟨rfl, Nat.zero_le _⟩
  | 0, .tup _, h => by simp [D.pl] at h
  | 0, .lst _, h => by simp [D.pl] at h
  | 0, .ktup _, h => by simp [D.pl] at h
  | 0, .ptup _, h => by simp [D.pl] at h
  | n + 1, .tup xs, h => ⟨(pls_plain (by simpa [D.pl] using h)).1, Nat.succ_le_succ (pls_plain (n := n) (by simpa [D.pl] using h)).2⟩
  | n + 1, .lst xs, h => ⟨(pls_plain (by simpa [D.pl] using h)).1, Nat.succ_le_succ (pls_plain (n := n) (by simpa [D.pl] using h)).2⟩
  | n + 1, .ktup xs, h => ⟨(pls_plain (by simpa [D.pl] using h)).1, Nat.succ_le_succ (pls_plain (n := n) (by simpa [D.pl] using h)).2⟩
  | n + 1, .ptup xs, h => ⟨(pls_plain (by simpa [D.pl] using h)).1, Nat.succ_le_succ (pls_plain (n := n) (by simpa [D.pl] using h)).2⟩
  | _, .dK _, h => by simp [D.pl] at h
  | _, .dT _, h => by simp [D.pl] at h
  | _, .ins _ _, h => by simp [D.pl] at h
  | _, .hand, h => by simp [D.pl] at h
  | _, .scr _, h => by simp [D.pl] at h
theorem pls_plain : ∀ {n : Nat} {ds : List D}, pls n ds = true → PyData.plainAll (pys ds) = true ∧ PyData.depthAll (pys ds) ≤ n
  | _, [], _ => ⟨rfl, Nat.zero_le _⟩
  | n, d :: ds, h => by
    simp only [pls, Bool.and_eq_true] at h
    obtain ⟨h1, h2⟩ := h
    have a := pl_plain h1
    have b := pls_plain h2
    exact ⟨by simp only [pys, PyData.plainAll, a.1, b.1, Bool.and_self], by simp only [pys, PyData.depthAll]; exact Nat.max_le.mpr ⟨a.2, b.2⟩⟩
end
section
variable {X : Cx} {pins : List (Addr × Obj)} {σ : L2.St} {H : Hp} {s : Shared} {G : Gs}
mutual
theorem RF.reads (I : Inv X pins σ H s) (b : Sub G.fr H) : ∀ {d : D} {n : Nat} {v : V} {u : Value}, RF X.K X.mg G d v → d.pl n = true → RelV v u → ∃ as, Reads s.heap u d.py as
  | .non, _, _, _, h, _, r => by cases (show _ = V.non from h); cases (show _ = Value.none from r); exact ⟨_, .none⟩
  | .bl k, _, _, _, h, _, r => by cases (show _ = V.bl k from h); cases (show _ = Value.bool k from r); exact ⟨_, .bool k⟩
  | .int k, _, _, _, h, _, r => by cases (show _ = V.int k from h); obtain ⟨t, rfl⟩ := (show ∃ t, _ = Value.int k t from r); exact ⟨_, .int k t⟩
  | .str k, _, _, _, h, _, r => by cases (show _ = V.str k from h); obtain ⟨t, rfl⟩ := (show ∃ t, _ = Value.str k t from r); exact ⟨_, .str k t⟩
  | .tup xs, 0, _, _, _, p, _ => by simp [D.pl] at p
  | .lst xs, 0, _, _, _, p, _ => by simp [D.pl] at p
  | .ktup xs, 0, _, _, _, p, _ => by simp [D.pl] at p
  | .ptup xs, 0, _, _, _, p, _ => by simp [D.pl] at p
  | .tup xs, n + 1, _, _, ⟨a, vs, e, h, q⟩, p, r => by
    subst e
    cases (show _ = Value.ref a from r)
    obtain ⟨its, rv, ⟨o, ho, hc, m, hd⟩, _⟩ := I.tuple (.inl (b.rd h))
    obtain ⟨as, ra⟩ := RFs.reads (n := n) I b q (by simpa [D.pl] using p) rv
    exact ⟨_, .tuple ho hc hd ra⟩
  | .ktup xs, n + 1, _, _, ⟨a, vs, e, h, q⟩, p, r => by
    subst e
    cases (show _ = Value.ref a from r)
    obtain ⟨its, rv, ⟨o, ho, hc, m, hd⟩, _⟩ := I.tuple (by
      rcases h with (h | ⟨_, h⟩) | h
      · cases h
      · cases h
      · exact .inr h)
    obtain ⟨as, ra⟩ := RFs.reads (n := n) I b q (by simpa [D.pl] using p) rv
    exact ⟨_, .tuple ho hc hd ra⟩
  | .ptup xs, n + 1, _, _, ⟨a, vs, e, ⟨ob, _, h⟩, q⟩, p, r => by
    subst e
    cases (show _ = Value.ref a from r)
    obtain ⟨its, rv, ⟨o, ho, hc, m, hd⟩, _⟩ := I.tuple (.inl (b.rd2 rfl (.inr ⟨ob, h⟩)))
    obtain ⟨as, ra⟩ := RFs.reads (n := n) I b q (by simpa [D.pl] using p) rv
    exact ⟨_, .tuple ho hc hd ra⟩
  | .lst xs, n + 1, _, _, ⟨a, vs, e, h, q⟩, p, r => by
    subst e
    cases (show _ = Value.ref a from r)
    obtain ⟨its, rv, ⟨o, m, ho, hc, _, hd⟩, _⟩ := I.list (.inl (b.rd h))
    obtain ⟨as, ra⟩ := RFs.reads (n := n) I b q (by simpa [D.pl] using p) rv
    exact ⟨_, .list ho hc hd ra⟩
  | .dK _, _, _, _, _, h, _ => by simp [D.pl] at h
  | .dT _, _, _, _, _, h, _ => by simp [D.pl] at h
  | .ins _ _, _, _, _, _, h, _ => by simp [D.pl] at h
  | .hand, _, _, _, _, h, _ => by simp [D.pl] at h
  | .scr _, _, _, _, _, h, _ => by simp [D.pl] at h
theorem RFs.reads (I : Inv X pins σ H s) (b : Sub G.fr H) : ∀ {ds : List D} {n : Nat} {vs : List V} {us : List Value}, RFs X.K X.mg G ds vs → pls n ds = true → Vals vs us → ∃ as, ReadsAll s.heap us (pys ds) as
  | [], _, _, _, h, _, r => by
    cases (show _ = [] from h)
    cases r
    exact ⟨_, .nil⟩
  | d :: ds, n, _, _, ⟨v, r, e, q, t⟩, p, rv => by
    subst e
    simp only [pls, Bool.and_eq_true] at p
    cases rv with
    | cons h1 h2 =>
      obtain ⟨as, r1⟩ := RF.reads I b q p.1 h1
      obtain ⟨bs, r2⟩ := RFs.reads I b t p.2 h2
      exact ⟨_, .cons r1 r2⟩
end
/-- a list that may be one's own -/
theorem RT.reads (I : Inv X pins σ H s) (n : Now H G) {d : D} {v : V} {u : Value} (h : RT X.K X.mg H G d v) {m : Nat} (p : d.pl m = true) (r : RelV v u) : ∃ as, Reads s.heap u d.py as := by
  cases d with
  | lst xs =>
    cases m with
    | zero => simp [D.pl] at p
    | succ m =>
      obtain ⟨a, vs, e, h, q⟩ := h
      subst e
      cases (show _ = Value.ref a from r)
      obtain ⟨its, rv, ⟨o, k, ho, hc, _, hd⟩, _⟩ := I.list (.inl (.inl h.1))
      obtain ⟨as, ra⟩ := RFs.reads (n := m) I n.sub q (by simpa [D.pl] using p) rv
      exact ⟨_, .list ho hc hd ra⟩
  | scr _ => simp [D.pl] at p
  | dK _ => simp [D.pl] at p
  | dT _ => simp [D.pl] at p
  | non => exact RF.reads (d := .non) (n := m) I n.sub h p r
  | bl b => exact RF.reads (d := .bl b) (n := m) I n.sub h p r
  | int b => exact RF.reads (d := .int b) (n := m) I n.sub h p r
  | str b => exact RF.reads (d := .str b) (n := m) I n.sub h p r
  | tup xs => exact RF.reads (d := .tup xs) (n := m) I n.sub h p r
  | ktup xs => exact RF.reads (d := .ktup xs) (n := m) I n.sub h p r
  | ptup xs => exact RF.reads (d := .ptup xs) (n := m) I n.sub h p r
  | ins c fs => exact RF.reads (d := .ins c fs) (n := m) I n.sub h p r
  | hand => simp [D.pl] at p
end
def Cop.op : Cop → CmpOp
  | .eq => .Eq | .ne => .NotEq | .lt => .Lt | .le => .LtE | .gt => .Gt | .ge => .GtE | .isin => .In | .notin => .NotIn | .is => .Is | .isnot => .IsNot
def rCmp (K : PySem.W.Frag) (mg : Str → Option Value) (g : D → D → Option Bool) : R2 := fun x y H Q => ∃ G a b k, Now H G ∧ RT K mg H G a x ∧ RT K mg H G b y ∧ g a b = some k ∧ Q (.bl k) H
section
variable {X : Cx}
theorem room_min {u a b : Nat} (hu : u + 200 < cLine) (h : a ≤ 60) : u + min a b < cLine := by omega
theorem op_deq (hu : X.A.units + 200 < cLine) : OpR X (compareOp .Eq) (rCmp X.K X.mg deq) := by
  intro pins s σ H x y v u Q I rx ry h
  obtain ⟨G, a, b, k, n, ra, rb, e, q⟩ := h
  unfold deq at e
  split at e
  · rename_i hp
    rw [Bool.and_eq_true] at hp
    cases e
    obtain ⟨as, r1⟩ := RT.reads I n ra hp.1 rx
    obtain ⟨bs, r2⟩ := RT.reads I n rb hp.2 ry
    have p1 := pl_plain hp.1
    have p2 := pl_plain hp.2
    exact PySem.SeqAt.eq_plain r1 r2 p1.1 p2.1 (room_min hu p1.2) ⟨.bl _, H, I, rfl, q⟩
  · cases e
theorem deq_of {a b : D} {k : Bool} (e : deq a b = some k) : a.plain = true ∧ b.plain = true ∧ PyData.eqv a.py b.py = k := by
  unfold deq at e
  split at e
  · rename_i hp
    rw [Bool.and_eq_true] at hp
    exact ⟨hp.1, hp.2, Option.some.inj e⟩
  · cases e
theorem op_dne (hu : X.A.units + 200 < cLine) : OpR X (compareOp .NotEq) (rCmp X.K X.mg fun a b => (deq a b).map (!·)) := by
  intro pins s σ H x y v u Q I rx ry h
  obtain ⟨G, a, b, k, n, ra, rb, e, q⟩ := h
  cases z : deq a b with
  | none => simp only [z] at e; cases e
  | some k' =>
    simp only [z] at e
    cases e
    obtain ⟨h1, h2, rfl⟩ := deq_of z
    obtain ⟨as, r1⟩ := RT.reads I n ra h1 rx
    obtain ⟨bs, r2⟩ := RT.reads I n rb h2 ry
    have p1 := pl_plain h1
    have p2 := pl_plain h2
    exact PySem.SeqAt.ne_plain r1 r2 p1.1 p2.1 (room_min hu p1.2) ⟨.bl _, H, I, rfl, q⟩
theorem py_ne_none {d : D} {n : Nat} (p : d.pl n = true) (h : d.some' = true) : d.py ≠ .none := by
  cases d <;> first | (intro z; cases z; done) | (simp [D.some'] at h; done) | (simp [D.pl] at p; done)
theorem ord_of {a b : D} {k r : Bool} (e : (if ((a.plain && b.plain) && (PySem.W.alike a.py b.py && a.some')) = true then some r else none) = some k) :
    a.plain = true ∧ b.plain = true ∧ PySem.W.alike a.py b.py = true ∧ a.py ≠ .none ∧ r = k := by
  by_cases hp : ((a.plain && b.plain) && (PySem.W.alike a.py b.py && a.some')) = true
  · rw [if_pos hp] at e
    rw [Bool.and_eq_true, Bool.and_eq_true, Bool.and_eq_true] at hp
    exact ⟨hp.1.1, hp.1.2, hp.2.1, py_ne_none hp.1.1 hp.2.2, Option.some.inj e⟩
  · rw [if_neg hp] at e
    cases e
theorem op_dlt (hu : X.A.units + 200 < cLine) : OpR X (compareOp .Lt) (rCmp X.K X.mg dlt) := by
  intro pins s σ H x y v u Q I rx ry h
  obtain ⟨G, a, b, k, n, ra, rb, e, q⟩ := h
  obtain ⟨h1, h2, h3, h4, rfl⟩ := ord_of e
  obtain ⟨as, r1⟩ := RT.reads I n ra h1 rx
  obtain ⟨bs, r2⟩ := RT.reads I n rb h2 ry
  exact PySem.W.lt_data r1 r2 h3 h4 (room_min hu (pl_plain h1).2) ⟨.bl _, H, I, rfl, q⟩
theorem op_dgt (hu : X.A.units + 200 < cLine) : OpR X (compareOp .Gt) (rCmp X.K X.mg dgt) := by
  intro pins s σ H x y v u Q I rx ry h
  obtain ⟨G, a, b, k, n, ra, rb, e, q⟩ := h
  obtain ⟨h1, h2, h3, h4, rfl⟩ := ord_of e
  obtain ⟨as, r1⟩ := RT.reads I n ra h1 rx
  obtain ⟨bs, r2⟩ := RT.reads I n rb h2 ry
  exact PySem.W.gt_data r1 r2 h3 h4 (room_min hu (pl_plain h1).2) ⟨.bl _, H, I, rfl, q⟩
theorem op_dle (hu : X.A.units + 200 < cLine) : OpR X (compareOp .LtE) (rCmp X.K X.mg fun a b => (dgt a b).map (!·)) := by
  intro pins s σ H x y v u Q I rx ry h
  obtain ⟨G, a, b, k, n, ra, rb, e, q⟩ := h
  cases z : dgt a b with
  | none => simp only [z] at e; cases e
  | some k' =>
    simp only [z] at e
    cases e
    obtain ⟨h1, h2, h3, h4, rfl⟩ := ord_of z
    obtain ⟨as, r1⟩ := RT.reads I n ra h1 rx
    obtain ⟨bs, r2⟩ := RT.reads I n rb h2 ry
    exact PySem.W.le_data r1 r2 h3 h4 (room_min hu (pl_plain h1).2) ⟨.bl _, H, I, rfl, q⟩
theorem op_dge (hu : X.A.units + 200 < cLine) : OpR X (compareOp .GtE) (rCmp X.K X.mg fun a b => (dlt a b).map (!·)) := by
  intro pins s σ H x y v u Q I rx ry h
  obtain ⟨G, a, b, k, n, ra, rb, e, q⟩ := h
  cases z : dlt a b with
  | none => simp only [z] at e; cases e
  | some k' =>
    simp only [z] at e
    cases e
    obtain ⟨h1, h2, h3, h4, rfl⟩ := ord_of z
    obtain ⟨as, r1⟩ := RT.reads I n ra h1 rx
    obtain ⟨bs, r2⟩ := RT.reads I n rb h2 ry
    exact PySem.W.ge_data r1 r2 h3 h4 (room_min hu (pl_plain h1).2) ⟨.bl _, H, I, rfl, q⟩
theorem keyOf_kV {K : PySem.W.Frag} {mg : Str → Option Value} {H : Hp} {G : Gs} {d : D} {k : Key} {v : V} (e : keyOf d = some k) (h : RT K mg H G d v) : v = kV k := by
  cases d <;> simp only [keyOf] at e <;> first | cases e | skip
  · exact h
  · exact h
theorem keysOf_kV {K : PySem.W.Frag} {mg : Str → Option Value} {G : Gs} : ∀ {ds : List D} {ks : List Key} {vs : List V}, keysOf ds = some ks → RFs K mg G ds vs → vs = ks.map kV
  | [], _, _, e, h => by cases e; exact h
  | d :: ds, ks, _, e, ⟨v, r, ev, q, t⟩ => by
    simp only [keysOf] at e
    cases h1 : keyOf d with
    | none => rw [h1] at e; cases e
    | some k =>
      cases h2 : keysOf ds with
      | none => rw [h1, h2] at e; cases e
      | some ks' =>
        rw [h1, h2] at e
        cases e
        rw [ev, keysOf_kV h2 t]
        cases d <;> simp only [keyOf] at h1 <;> first | cases h1 | skip
        · rw [show v = _ from q]; rfl
        · rw [show v = _ from q]; rfl
theorem RFk.val {K : PySem.W.Frag} {mg : Str → Option Value} {G : Gs} (k : Key) : ∀ {kvs : List (Key × D)} {ws : List (Key × V)}, RFk K mg G kvs ws → (∀ d, look kvs k = some d → ∃ v, valV ws k = some v ∧ RF K mg G d v) ∧ (look kvs k = none → valV ws k = none)
  | [], _, h => by cases (show _ = [] from h); exact ⟨fun _ e => (nomatch e), fun _ => rfl⟩
  | (j, x) :: r, _, ⟨v, t, e, q, s⟩ => by
    subst e
    have ih := RFk.val k s
    by_cases hj : j = k
    · subst hj
      refine ⟨fun d e => ?_, fun e => ?_⟩
      · simp [look] at e
        subst e
        exact ⟨v, by simp [valV], q⟩
      · simp [look] at e
    · have e1 : look ((j, x) :: r) k = look r k := by simp [look, List.find?_cons, hj]
      have e2 : valV ((j, v) :: t) k = valV t k := by simp [valV, List.find?_cons, hj]
      rw [e1, e2]
      exact ih
theorem RFt.val {K : PySem.W.Frag} {mg : Str → Option Value} {G : Gs} (k : List Key) : ∀ {kvs : List (List Key × D)} {ws : List (List Key × V)}, RFt K mg G kvs ws → (∀ d, look kvs k = some d → ∃ v, valV ws k = some v ∧ RF K mg G d v) ∧ (look kvs k = none → valV ws k = none)
  | [], _, h => by cases (show _ = [] from h); exact ⟨fun _ e => (nomatch e), fun _ => rfl⟩
  | (j, x) :: r, _, ⟨v, t, e, q, s⟩ => by
    subst e
    have ih := RFt.val k s
    by_cases hj : j = k
    · subst hj
      refine ⟨fun d e => ?_, fun e => ?_⟩
      · simp [look] at e
        subst e
        exact ⟨v, by simp [valV], q⟩
      · simp [look] at e
    · have e1 : look ((j, x) :: r) k = look r k := by simp [look, List.find?_cons, hj]
      have e2 : valV ((j, v) :: t) k = valV t k := by simp [valV, List.find?_cons, hj]
      rw [e1, e2]
      exact ih
/-- what a dict gives -/
theorem dget_of {K : PySem.W.Frag} {mg : Str → Option Value} {H : Hp} {G : Gs} (n : Now H G) {a b : D} {x y : V} (ra : RT K mg H G a x) (rb : RT K mg H G b y) :
    (∀ kvs, a = .dK kvs → ∀ k, keyOf b = some k → ∃ p o, x = .ref p ∧ DGet H p y o ∧ (∀ d, look kvs k = some d → ∃ v, o = some v ∧ RF K mg G d v) ∧ (look kvs k = none → o = none)) ∧
    (∀ kvs, a = .dT kvs → ∀ ds, b = .tup ds → ∀ k, keysOf ds = some k → ∃ p o, x = .ref p ∧ DGet H p y o ∧ (∀ d, look kvs k = some d → ∃ v, o = some v ∧ RF K mg G d v) ∧ (look kvs k = none → o = none)) := by
  refine ⟨fun kvs e k ek => ?_, fun kvs e ds eb k ek => ?_⟩
  · subst e
    obtain ⟨p, ws, rfl, ⟨h, _⟩, r⟩ := ra
    have ey := keyOf_kV ek rb
    exact ⟨p, _, rfl, .inl ⟨ws, k, h, ey, rfl⟩, (RFk.val k r).1, (RFk.val k r).2⟩
  · subst e eb
    obtain ⟨p, ws, rfl, ⟨h, _⟩, r⟩ := ra
    obtain ⟨q, vs, rfl, hq, rq⟩ := rb
    have ev := keysOf_kV ek rq
    subst ev
    have hq' : H q = some (.tup (k.map kV)) := by
      rcases n.sub _ _ hq with z | ⟨z, _⟩
      · exact z
      · cases z
    exact ⟨p, _, rfl, .inr ⟨ws, k, q, h, rfl, hq', rfl⟩, (RFt.val k r).1, (RFt.val k r).2⟩
end
end Vi
end
section
set_option Elab.async false
set_option linter.all false
set_option maxRecDepth 100000
set_option maxHeartbeats 1000000
/-! Vi7: comparisons, subscripts, slices, get. -/
namespace Vi
open PySem PySem.Spec PyProof.Rows L2
section
variable {X : Cx}
theorem pls_tup {xs : List D} (h : plains xs = true) : D.plain (.tup xs) = true := by simpa [D.plain, D.pl, plains] using h
theorem pls_lst {xs : List D} (h : plains xs = true) : D.plain (.lst xs) = true := by simpa [D.plain, D.pl, plains] using h
theorem pls_ktup {xs : List D} (h : plains xs = true) : D.plain (.ktup xs) = true := by simpa [D.plain, D.pl, plains] using h
theorem pls_ptup {xs : List D} (h : plains xs = true) : D.plain (.ptup xs) = true := by simpa [D.plain, D.pl, plains] using h
theorem any_py (xs : List D) (p : PyData) : (pys xs).any (fun y => PyData.eqv y p) = xs.any fun y => PyData.eqv y.py p := by
  induction xs with
  | nil => rfl
  | cons x xs ih => simp only [pys, List.any_cons, ih]
theorem room_in {u a b : Nat} (hu : u + 200 < cLine) (h : a ≤ 60) : u + 1 + min a b < cLine := by omega
/-- in and not in, by the answer -/
theorem din_run (hu : X.A.units + 200 < cLine) (neg : Bool) : OpR X (compareOp (if neg then .NotIn else .In)) (rCmp X.K X.mg fun a b => (din a b).map fun k => if neg then !k else k) := by
  intro pins s σ H x y v u Q I rx ry h
  obtain ⟨G, a, b, k, n, ra, rb, e, q⟩ := h
  have e : (din a b).map (fun k => if neg then !k else k) = some k := e
  have fin : ∀ {k' : Bool}, (if neg then !k' else k') = k → EP X pins σ Q (.bool (if neg then !k' else k')) s := fun {k'} z => by rw [z]; exact ⟨.bl k, H, I, rfl, q⟩
  have dict : ∀ (p : Addr) (o : Option V) (hx : y = .ref p) (g : DGet H p x o) (k' : Bool), o.isSome = k' → (if neg then !k' else k') = k → wpAny (model X.prog X.w) X.A (compareOp (if neg then .NotIn else .In) v u) (EP X pins σ Q) X.xe s := by
    intro p o hy g k' ho hk
    subst hy
    cases (show u = Value.ref p from ry)
    cases neg with
    | false =>
      have hk : k' = k := by simpa using hk
      exact d_in (by omega) I g rx fun s' J => ⟨.bl k, H, J, by rw [ho, hk]; rfl, q⟩
    | true =>
      have hk : (!k') = k := by simpa using hk
      exact d_notIn (by omega) I g rx fun s' J => ⟨.bl k, H, J, by rw [ho, hk]; rfl, q⟩
  cases z : din a b with
  | none => rw [z] at e; cases e
  | some k' =>
    rw [z] at e
    have hk : (if neg then !k' else k') = k := Option.some.inj e
    unfold din at z
    split at z
    · split at z
      · rename_i xs hp
        rw [Bool.and_eq_true] at hp
        have zk : (xs.any fun y => PyData.eqv y.py a.py) = k' := Option.some.inj z
        obtain ⟨as, r1⟩ := RT.reads I n ra hp.1 rx
        obtain ⟨bs, r2⟩ := RT.reads I n rb (pls_tup hp.2) ry
        have p1 := pl_plain hp.1
        have p2 := pls_plain (n := 59) hp.2
        cases neg with
        | false => exact PySem.SeqAt.in_tuple_data r2 r1 p2.1 p1.1 (room_in hu (by omega)) (by rw [any_py, zk]; exact fin hk)
        | true => exact PySem.SeqAt.notIn_tuple_data r2 r1 p2.1 p1.1 (room_in hu (by omega)) (by rw [any_py, zk]; exact fin hk)
      · cases z
    · split at z
      · rename_i xs hp
        rw [Bool.and_eq_true] at hp
        have zk : (xs.any fun y => PyData.eqv y.py a.py) = k' := Option.some.inj z
        obtain ⟨as, r1⟩ := RT.reads I n ra hp.1 rx
        obtain ⟨bs, r2⟩ := RT.reads I n rb (pls_lst hp.2) ry
        have p1 := pl_plain hp.1
        have p2 := pls_plain (n := 59) hp.2
        cases neg with
        | false => exact PySem.SeqAt.in_list_data r2 r1 p2.1 p1.1 (room_in hu (by omega)) (by rw [any_py, zk]; exact fin hk)
        | true => exact PySem.SeqAt.notIn_list_data r2 r1 p2.1 p1.1 (room_in hu (by omega)) (by rw [any_py, zk]; exact fin hk)
      · cases z
    · split at z
      · rename_i xs hp
        rw [Bool.and_eq_true] at hp
        have zk : (xs.any fun y => PyData.eqv y.py a.py) = k' := Option.some.inj z
        obtain ⟨as, r1⟩ := RT.reads I n ra hp.1 rx
        obtain ⟨bs, r2⟩ := RT.reads I n rb (pls_ktup hp.2) ry
        have p1 := pl_plain hp.1
        have p2 := pls_plain (n := 59) hp.2
        cases neg with
        | false => exact PySem.SeqAt.in_tuple_data r2 r1 p2.1 p1.1 (room_in hu (by omega)) (by rw [any_py, zk]; exact fin hk)
        | true => exact PySem.SeqAt.notIn_tuple_data r2 r1 p2.1 p1.1 (room_in hu (by omega)) (by rw [any_py, zk]; exact fin hk)
      · cases z
    · split at z
      · rename_i xs hp
        rw [Bool.and_eq_true] at hp
        have zk : (xs.any fun y => PyData.eqv y.py a.py) = k' := Option.some.inj z
        obtain ⟨as, r1⟩ := RT.reads I n ra hp.1 rx
        obtain ⟨bs, r2⟩ := RT.reads I n rb (pls_ptup hp.2) ry
        have p1 := pl_plain hp.1
        have p2 := pls_plain (n := 59) hp.2
        cases neg with
        | false => exact PySem.SeqAt.in_tuple_data r2 r1 p2.1 p1.1 (room_in hu (by omega)) (by rw [any_py, zk]; exact fin hk)
        | true => exact PySem.SeqAt.notIn_tuple_data r2 r1 p2.1 p1.1 (room_in hu (by omega)) (by rw [any_py, zk]; exact fin hk)
      · cases z
    · rename_i kvs
      cases ek : keyOf a with
      | none => rw [ek] at z; cases z
      | some key =>
        rw [ek] at z
        have z : (look kvs key).isSome = k' := Option.some.inj z
        obtain ⟨p, o, hy, g, g1, g2⟩ := (dget_of n rb ra).1 kvs rfl key ek
        refine dict p o hy g k' ?_ hk
        rw [← z]
        cases l : look kvs key with
        | none => rw [g2 l]; rfl
        | some d => obtain ⟨w, e, _⟩ := g1 d l; rw [e]; rfl
    · rename_i kvs
      split at z
      · rename_i ks
        cases ek : keysOf ks with
        | none => rw [ek] at z; cases z
        | some key =>
          rw [ek] at z
          have z : (look kvs key).isSome = k' := Option.some.inj z
          obtain ⟨p, o, hy, g, g1, g2⟩ := (dget_of n rb ra).2 kvs rfl ks rfl key ek
          refine dict p o hy g k' ?_ hk
          rw [← z]
          cases l : look kvs key with
          | none => rw [g2 l]; rfl
          | some d => obtain ⟨w, e, _⟩ := g1 d l; rw [e]; rfl
      · cases z
    · cases z
theorem non_iff {K : PySem.W.Frag} {mg : Str → Option Value} {H : Hp} {G : Gs} {d : D} {v : V} (h : RT K mg H G d v) : decide (v = V.non) = !d.some' := by
  have ref : ∀ {a : Addr}, v = .ref a → decide (v = V.non) = false := fun {a} e => by rw [e]; rfl
  cases d with
  | non => rw [show v = _ from h]; rfl
  | bl b => rw [show v = _ from h]; rfl
  | int b => rw [show v = _ from h]; rfl
  | str b => rw [show v = _ from h]; rfl
  | tup _ => obtain ⟨a, _, e, _⟩ := h; exact ref e
  | lst _ => obtain ⟨a, _, e, _⟩ := h; exact ref e
  | dK _ => obtain ⟨a, _, e, _⟩ := h; exact ref e
  | dT _ => obtain ⟨a, _, e, _⟩ := h; exact ref e
  | ins _ _ => obtain ⟨a, _, _, _, e, _⟩ := h; exact ref e
  | hand => obtain ⟨a, e, _⟩ := h; exact ref e
  | scr _ => obtain ⟨a, e, _⟩ := h; exact ref e
  | ktup _ => obtain ⟨a, _, e, _⟩ := h; exact ref e
  | ptup _ => obtain ⟨a, _, e, _⟩ := h; exact ref e
theorem op_cmp (hu : X.A.units + 200 < cLine) (o : Cop) : OpR X (compareOp o.op) (rCmp X.K X.mg (cmpop o)) := by
  intro pins s σ H x y v u Q I rx ry h
  obtain ⟨G, a, b, k, n, ra, rb, e, q⟩ := h
  unfold cmpop at e
  split at e
  · exact op_deq hu pins s σ H x y v u Q I rx ry ⟨G, _, _, k, n, ra, rb, e, q⟩
  · exact op_dne hu pins s σ H x y v u Q I rx ry ⟨G, _, _, k, n, ra, rb, e, q⟩
  · cases e; cases (show x = _ from ra); cases (show y = _ from rb)
    exact op_lt pins s σ H _ _ v u Q I rx ry ⟨_, _, rfl, rfl, q⟩
  · cases e; cases (show x = _ from ra); cases (show y = _ from rb)
    exact op_le pins s σ H _ _ v u Q I rx ry ⟨_, _, rfl, rfl, q⟩
  · cases e; cases (show x = _ from ra); cases (show y = _ from rb)
    exact op_gt pins s σ H _ _ v u Q I rx ry ⟨_, _, rfl, rfl, q⟩
  · cases e; cases (show x = _ from ra); cases (show y = _ from rb)
    exact op_ge pins s σ H _ _ v u Q I rx ry ⟨_, _, rfl, rfl, q⟩
  · exact op_dlt hu pins s σ H x y v u Q I rx ry ⟨G, _, _, k, n, ra, rb, e, q⟩
  · exact op_dle hu pins s σ H x y v u Q I rx ry ⟨G, _, _, k, n, ra, rb, e, q⟩
  · exact op_dgt hu pins s σ H x y v u Q I rx ry ⟨G, _, _, k, n, ra, rb, e, q⟩
  · exact op_dge hu pins s σ H x y v u Q I rx ry ⟨G, _, _, k, n, ra, rb, e, q⟩
  · exact din_run hu false pins s σ H x y v u Q I rx ry ⟨G, _, _, k, n, ra, rb, (by show (din _ _).map _ = _; rw [e]; rfl), q⟩
  · exact din_run hu true pins s σ H x y v u Q I rx ry ⟨G, _, _, k, n, ra, rb, e, q⟩
  · cases e; cases (show y = _ from rb)
    exact op_isN pins s σ H _ _ v u Q I rx ry ⟨rfl, by rw [non_iff ra]; exact q⟩
  · cases e; cases (show y = _ from rb)
    exact op_notN pins s σ H _ _ v u Q I rx ry ⟨rfl, by rw [non_iff ra, Bool.not_not]; exact q⟩
  · cases e; cases (show x = _ from ra); cases (show y = _ from rb)
    exact op_isBl pins s σ H _ _ v u Q I rx ry ⟨_, _, rfl, rfl, by rw [← Bool.beq_eq_decide_eq]; exact q⟩
  · cases e; cases (show x = _ from ra); cases (show y = _ from rb)
    exact op_notBl pins s σ H _ _ v u Q I rx ry ⟨_, _, rfl, rfl, by rw [← Bool.beq_eq_decide_eq]; exact q⟩
  · cases e

/-! ### subscripts -/
def rIxD (K : PySem.W.Frag) (mg : Str → Option Value) (g : D → D → Option D) : R2 := fun x y H Q => ∃ G a b d, Now H G ∧ RT K mg H G a x ∧ RT K mg H G b y ∧ g a b = some d ∧ ∀ v, RF K mg G d v → Q v H
theorem ix_dict (hu : X.A.units + 1 < cLine) : IxR X (fun x y H Q => ∃ a v, x = .ref a ∧ DGet H a y (some v) ∧ Q v H) := by
  intro value slice pins s σ H x y v u Q I rx ry h hs
  obtain ⟨a, w, rfl, g, q⟩ := h
  cases (show v = Value.ref a from rx)
  have hT : s.TypeIs (.ref a) "dict" := dict_typeIs I g
  unfold subscriptTail
  refine wpAny_bind ?_
  rw [getitemInPython_of_ne hT.not_modules]
  refine wpAny_bind (wpAny_specialOf hT PySem.F.slot_dict_getitem.lookup ?_)
  have fin : wpAny (model X.prog X.w) X.A (subscripted slice false (.ref a) u) (fun r s₃ => wpAny (model X.prog X.w) X.A (letTemporaryGo value (.ref a) r >>= fun _ => pure r) (EP X pins σ Q) X.xe s₃) X.xe s := by
    rw [hs]
    exact wpAny_operating (d_getItem hu I g ry fun w' s' J r => wpAny_bind (wpAny_letTemporaryGo (wpAny_pure ⟨w, H, J, r, q⟩)))
  first
    | exact wpAny_pure (wpAny_bind fin)
    | exact wpAny_bind (wpAny_pure (wpAny_bind fin))
    | exact wpAny_bind fin
theorem ix_all (hu : X.A.units + 200 < cLine) : IxR X (rIxD X.K X.mg ixop) := by
  intro value slice pins s σ H x y v u Q I rx ry h hs
  obtain ⟨G, a, b, d, n, ra, rb, e, q⟩ := h
  unfold ixop at e
  split at e
  · cases (show y = _ from rb)
    obtain ⟨p, vs, rfl, h, r⟩ := ra
    obtain ⟨w, ew, rw'⟩ := r.atI e
    exact ix_tup value slice pins s σ H _ _ v u Q I rx ry ⟨p, vs, _, w, rfl, rfl, .inl (n.sub.rd h), ew, q w rw'⟩ hs
  · cases (show y = _ from rb)
    obtain ⟨p, vs, rfl, h, r⟩ := ra
    obtain ⟨w, ew, rw'⟩ := r.atI e
    exact ix_list value slice pins s σ H _ _ v u Q I rx ry ⟨p, vs, _, w, rfl, rfl, .inl (.inl h.1), ew, q w rw'⟩ hs
  · cases (show y = _ from rb)
    obtain ⟨p, rfl, h⟩ := ra
    rename_i ns i
    cases z : atI ns i with
    | none => rw [z] at e; cases e
    | some m =>
      rw [z] at e
      cases e
      have ew : atI (ns.map V.int) i = some (.int m) := by
        unfold atI at z ⊢
        rw [List.length_map]
        cases zz : ixN ns.length i with
        | none => rw [zz] at z; cases z
        | some j =>
          rw [zz] at z
          show (ns.map V.int)[j]? = _
          rw [List.getElem?_map, show ns[j]? = some m from z]
          rfl
      exact ix_list value slice pins s σ H _ _ v u Q I rx ry ⟨p, _, _, .int m, rfl, rfl, h.sq, ew, q _ rfl⟩ hs
  · cases (show y = _ from rb)
    obtain ⟨p, vs, rfl, h, r⟩ := ra
    obtain ⟨w, ew, rw'⟩ := r.atI e
    exact ix_tup value slice pins s σ H _ _ v u Q I rx ry ⟨p, vs, _, w, rfl, rfl, TQ.sq (G := G) (.inr h), ew, q w rw'⟩ hs
  · cases (show y = _ from rb)
    obtain ⟨p, vs, rfl, ⟨ob, _, h⟩, r⟩ := ra
    obtain ⟨w, ew, rw'⟩ := r.atI e
    exact ix_tup value slice pins s σ H _ _ v u Q I rx ry ⟨p, vs, _, w, rfl, rfl, .inl (n.sub.rd2 rfl (.inr ⟨ob, h⟩)), ew, q w rw'⟩ hs
  · rename_i kvs
    cases ek : keyOf b with
    | none => rw [ek] at e; cases e
    | some key =>
      rw [ek] at e
      obtain ⟨p, o, hy, g, g1, g2⟩ := (dget_of n ra rb).1 kvs rfl key ek
      obtain ⟨w, rfl, rw'⟩ := g1 d e
      exact ix_dict (by omega) value slice pins s σ H _ _ v u Q I rx ry ⟨p, w, hy, g, q w rw'⟩ hs
  · rename_i kvs ks
    cases ek : keysOf ks with
    | none => rw [ek] at e; cases e
    | some key =>
      rw [ek] at e
      obtain ⟨p, o, hy, g, g1, g2⟩ := (dget_of n ra rb).2 kvs rfl ks rfl key ek
      obtain ⟨w, rfl, rw'⟩ := g1 d e
      exact ix_dict (by omega) value slice pins s σ H _ _ v u Q I rx ry ⟨p, w, hy, g, q w rw'⟩ hs
  · cases e
/-! ### slices -/
def rSlD (K : PySem.W.Frag) (mg : Str → Option Value) : V → Option Int → Option Int → Hp → VK → Prop := fun x lo hi H Q => ∃ G a rv, Now H G ∧ RT K mg H G a x ∧ slop a lo hi = some rv ∧ Yld K mg H G rv Q
theorem sl_all : SlR X (rSlD X.K X.mg) := by
  intro pins s σ H x v vl vu lo hi sl Q I rx hs pl pu h
  obtain ⟨G, a, rv, n, ra, e, q⟩ := h
  unfold slop at e
  split at e
  · cases e
    have ra0 := ra
    obtain ⟨p, vs, rfl, h, r⟩ := ra
    refine sl_tupA pins s σ H _ v vl vu lo hi sl Q I rx hs pl pu ⟨p, vs, rfl, .inl (n.sub.rd h), fun w => ?_, fun _ p hp => q.newT n (r.cut lo hi) p hp⟩
    rename_i xs
    rw [r.length] at w
    have ec : cut xs lo hi = xs := by
      unfold Vi.cut
      rw [w.1, w.2, List.drop_zero, Nat.sub_zero, List.take_length]
    rw [ec] at q
    exact q.fz n ra0
  · cases e
    obtain ⟨p, vs, rfl, h, r⟩ := ra
    exact sl_list pins s σ H _ v vl vu lo hi sl Q I rx hs pl pu ⟨p, vs, rfl, .inl (.inl h.1), fun p hp => q.newL n (r.cut lo hi) p hp⟩
  · cases e
    have ra0 := ra
    obtain ⟨p, vs, rfl, ⟨ob, _, h⟩, r⟩ := ra
    rename_i xs
    refine sl_tupA pins s σ H _ v vl vu lo hi sl Q I rx hs pl pu ⟨p, vs, rfl, .inl (n.sub.rd2 rfl (.inr ⟨ob, h⟩)), fun w => ?_, fun w p hp => ?_⟩
    · rw [r.length] at w
      rw [if_pos w] at q
      exact q.fz n ra0
    · rw [r.length] at w
      rw [if_neg w] at q
      exact q.newT n (r.cut lo hi) p hp
  · cases e
end
end Vi
end
section
set_option Elab.async false
set_option linter.all false
set_option maxRecDepth 100000
set_option maxHeartbeats 1000000
/-! Vi8: contracts, contexts, readings; calls. -/
namespace Vi
open PySem PySem.Spec PyProof.Rows L2

structure RoomG (k : Nat) (A : Around) : Prop where
  room : Room k A
  gd : A.guards = some []
theorem RoomG.mono {j k : Nat} {A : Around} (r : RoomG k A) (h : j ≤ k) : RoomG j A := ⟨r.room.mono h, r.gd⟩
theorem RoomG.deeper {k : Nat} {A : Around} (r : RoomG (k + 1) A) (env : PySem.Env) : RoomG k (A.deeper env) := ⟨r.room.deeper env, r.gd⟩
theorem RoomG.make {k : Nat} {A : Around} (r : RoomG (k + 1) A) (C : Addr) (us : List Value) (kw : List (Str × Value)) : RoomG k (A.under (.builtin "type.__call__" ⟨.ref C :: us, kw⟩)) :=
  ⟨r.room.make C us kw, by
    show pushGuards (Code.builtin "type.__call__" ⟨.ref C :: us, kw⟩).guards A.guards = some []
    rw [r.gd]
    rfl⟩
structure FnG (P : Program) (w : World) (K : PySem.W.Frag) (mg : Str → Option Value) (base : Heap) (k : Nat) (f : Addr) (fd : FuncData) (ps : List Str) (sp : Sp) : Prop where
  len : ∀ vs H Q E, sp vs H Q E → vs.length = ps.length
  run : ∀ (A : Around) (outer : List PySem.Env) (s : Shared) (H : Hp) (args : Args) (us : List Value) (vs : List V) (Q : VK) (E : XK), RoomG k A → Env0 P w K mg base A outer s H → BindsTo s fd args (ps.zip us) → Vals vs us → sp vs H Q E →
    codeAny (model P w) A (.call (.ref f) args) (CR (L2.CX P w) outer P w H s Q E) s
theorem FnG.mono {P : Program} {w : World} {K : PySem.W.Frag} {mg : Str → Option Value} {base : Heap} {j k : Nat} {f : Addr} {fd : FuncData} {ps : List Str} {sp : Sp} (F : FnG P w K mg base j f fd ps sp) (h : j ≤ k) : FnG P w K mg base k f fd ps sp :=
  ⟨F.len, fun A outer s H args us vs Q E hr => F.run A outer s H args us vs Q E (hr.mono h)⟩
theorem FnG.imp {P : Program} {w : World} {K : PySem.W.Frag} {mg : Str → Option Value} {base : Heap} {k : Nat} {f : Addr} {fd : FuncData} {ps : List Str} {sp sp' : Sp} (F : FnG P w K mg base k f fd ps sp)
    (h : ∀ vs H Q E, sp' vs H Q E → sp vs H Q E) : FnG P w K mg base k f fd ps sp' :=
  ⟨fun vs H Q E q => F.len vs H Q E (h _ _ _ _ q), fun A outer s H args us vs Q E hr he hb hv hs => F.run A outer s H args us vs Q E hr he hb hv (h _ _ _ _ hs)⟩
/-- THE RULE for a def, as L2.fn_of with the room that is known here -/
theorem fnG_of {P : Program} {w : World} {K : PySem.W.Frag} {mg : Str → Option Value} {base : Heap} {k : Nat} {f : Addr} {name qual : Str} {params : Arguments} {body : List Stmt} {scope : Scope} {dV kV doc pm cdv ct oc : Value} {an od : Option Addr}
    {osl : Array (Option Value)} {N ps : List Str} {sp : Sp} (lk : K.lookup f = some ⟨oc, od, .func (PySem.W.fnOf name qual params body scope dV kV doc pm an cdv ct), osl⟩) (hcd : PySem.W.codeIn K cdv qual = true) (S : FnScope N ps scope)
    (len : ∀ vs H Q E, sp vs H Q E → vs.length = ps.length)
    (hbody : ∀ (A : Around) (outer : List PySem.Env) (s : Shared) (H : Hp) (vs : List V) (Q : VK) (E : XK), RoomG k (A.deeper (envOfC qual scope s.heap.objs.size f cdv)) → sp vs H Q E →
      ∃ t, PSs (cxOf (L2.CX P w) P w K mg base N qual scope f cdv A outer s H E) body t ∧ t { nx := fun _ H' => Q .non H', rt := Q } (start N vs) H) :
    FnG P w K mg base (k + 1) f (PySem.W.fnOf name qual params body scope dV kV doc pm an cdv ct) ps sp := by
  refine ⟨len, fun A outer s H args us vs Q E hr e0 hb r hsp => ?_⟩
  have hl := len _ _ _ _ hsp
  have KX : K.In s.heap := e0.mod.kin.keeps fun b o e => (e0.bs b o e).1
  have lim : s.heap.NoLimit := e0.mod.nolimit.keeps fun b o e => (e0.bs b o e).1
  have hkind : ∀ y ∈ ps.zip us, scope.names.lookup y.1 = some .local ∨ (scope.names.lookup y.1 = some .cell ∧ ((cellsFrom (s.heap.objs.size + 1) scope.names []).lookup y.1).isSome = true) := fun ⟨n, v⟩ hy => by
    rcases S.par n (List.of_mem_zip hy).1 with q | q
    · exact .inl q
    · exact .inr ⟨q, PySem.W.cellsFrom_some _ _ _ (.inl q)⟩
  refine codeAny_call_function hr.room.depth (KX _ _ lk) rfl S.co S.gen rfl (PySem.W.codeRec_of KX hcd) (hb _ _ _ _ ?_)
  refine wpAny_newFunctionEnv_cells S.kind hkind fun env he s1 x => ?_
  subst he
  refine ⟨lim.keeps x.toInCall.keep, codeAny_func ?_⟩
  obtain ⟨t, ht, hq⟩ := hbody A outer s H vs Q E (hr.deeper _) hsp
  have I : L2.Inv (cxOf (L2.CX P w) P w K mg base N qual scope f cdv A outer s H E) [] (start N vs) H s1 := inv_start S hr.room.hd e0 hl r x
  refine wpAny_mono (ht.run [] s1 (start N vs) H _ I hq) (fun fl s' hs => ?_) fun e s' hs => hs
  have fin : ∀ {σ' : L2.St} {H' : Hp} {v : V} {u : Value}, L2.Inv (cxOf (L2.CX P w) P w K mg base N qual scope f cdv A outer s H E) [] σ' H' s' → RelV v u → Q v H' → CE outer P w H s Q u s' :=
    fun {σ' H' v u} J rv q => ⟨v, H', J.os, J.bare, J.base, J.hok, rv, q⟩
  cases fl with
  | ret u =>
    obtain ⟨v, σ', H', J, rv, q⟩ := hs
    exact fin J rv q
  | next =>
    obtain ⟨σ', H', J, q⟩ := hs
    exact fin (v := V.non) (u := Value.none) J rfl q
  | brk =>
    obtain ⟨_, _, _, q⟩ := hs
    exact False.elim q
  | cont =>
    obtain ⟨_, _, _, q⟩ := hs
    exact False.elim q

/-! ### what a meaning promises -/
/-- a step of a def that may change what lies at fp -/
structure FrameS (fp : List Addr) (H : Hp) (G : Gs) (H' : Hp) (G' : Gs) : Prop where
  keep : ∀ a o, H a = some o → a ∉ fp → G.hd ≠ some a → Kept G H' a o ∧ (isTupO o = false → G'.fr a = G.fr a)
  le : ∀ a o, G.fr a = some o → G'.fr a = some o
  hd : G'.hd = G.hd
section
variable (K : PySem.W.Frag) (mg : Str → Option Value)
/-- the places of what comes back: new, or handed over by the arguments -/
structure FreshT (fp : List Addr) (H : Hp) (G' : Gs) (f fp' : List Addr) : Prop where
  nd : f.Nodup
  new : ∀ a ∈ f, a ∈ fp ∨ H a = none
  nf : ∀ a ∈ f, G'.fr a = none
  ne : ∀ a ∈ f, G'.hd ≠ some a
  off : ∀ a ∈ f, a ∉ fp'
def SatF (H : Hp) (G : Gs) (fp rs : List Addr) (σ : L2.St) (r : SOut) (Q : VK) (E : XK) : Prop := match r with
  | .ok rv outs τ' => ∀ v H' G' fp' f, SR K mg none H' G' fp' rs σ outs τ' → FrameS fp H G H' G' → (∀ a ∈ fp', a ∈ fp ∨ H a = none) → RVr K mg [] H' G' f rv v → FreshT fp H G' f fp' → Q v H'
  | .exc c fs outs τ' => ∀ C d ws H' G' fp', SR K mg none H' G' fp' rs σ outs τ' → FrameS fp H G H' G' → (∀ a ∈ fp', a ∈ fp ∨ H a = none) → mg c = some (.ref C) → H d = none → H' d = some (.xd ws) → RFf K mg G' fs ws → E (.ref C) (some d) H'
  | .stuck => False
def spOf (m : Sem) : Sp := fun vs H Q E => ∃ G fp rs args τ, SR K mg none H G fp rs (vs.map some) args τ ∧ SatF K mg H G fp rs (vs.map some) (m args τ) Q E
end
def bnames : List Str := ["len", "tuple", "list", "sum", "all", "any", "min", "max", "sorted", "abs", "int", "dict", "repr", "str", "range", "enumerate", "zip", "isinstance", "bool", "set"]
structure PhiOk (Φ : Phi) (k : Nat) (P : Program) (w : World) (K : PySem.W.Frag) (mg : Str → Option Value) (base : Heap) : Prop where
  fn : ∀ x m, Φ.fn x = some m → ∃ f fd ps, mg x = some (.ref f) ∧ PySem.W.keepIn K (.ref f) = true ∧ FnG P w K mg base k f fd ps (spOf K mg m) ∧ Binds K fd ps []
  kw : ∀ x np ks ds m, Φ.fn x = some m → Φ.kw x np ks = some ds → ∃ f fd ps dv dvs, mg x = some (.ref f) ∧ PySem.W.keepIn K (.ref f) = true ∧ FnG P w K mg base k f fd ps (spOf K mg m) ∧ Vals dvs dv ∧ (∀ G, RFs K mg G ds dvs) ∧
    ∀ (s : Shared) (us ws : List Value), K.In s.heap → us.length = np → ws.length = ks.length → (us ++ ws ++ dv).length = ps.length → BindsTo s fd ⟨us, ks.zip ws⟩ (ps.zip (us ++ ws ++ dv))
  gl : ∀ x d, Φ.gl x = some d → ∃ u v, mg x = some u ∧ RelV v u ∧ ∀ G, RF K mg G d v
  bn : ∀ x ∈ bnames, mg x = none
theorem PhiOk.mono {Φ : Phi} {j k : Nat} {P : Program} {w : World} {K : PySem.W.Frag} {mg : Str → Option Value} {base : Heap} (h : PhiOk Φ j P w K mg base) (le : j ≤ k) : PhiOk Φ k P w K mg base :=
  ⟨fun x m e => let ⟨f, fd, ps, h1, h2, h3, h4⟩ := h.fn x m e; ⟨f, fd, ps, h1, h2, h3.mono le, h4⟩, fun x np ks ds m e1 e2 => let ⟨f, fd, ps, dv, dvs, h1, h2, h3, h4⟩ := h.kw x np ks ds m e1 e2; ⟨f, fd, ps, dv, dvs, h1, h2, h3.mono le, h4⟩, h.gl, h.bn⟩
/-- a context in which code is read -/
structure Ctx (Φ : Phi) (k : Nat) (X : Cx) (W : WX) : Prop where
  nd : X.N.Nodup
  calm : X.calm = true
  room : RoomG k X.A
  tk : Takes X W
  phi : PhiOk Φ k X.prog X.w X.K X.mg X.base
theorem Ctx.hu {Φ : Phi} {k : Nat} {X : Cx} {W : WX} (c : Ctx Φ k X W) : X.A.units + 200 < cLine := by have := c.room.room.un; omega

section
variable (K : PySem.W.Frag) (mg : Str → Option Value) (hx : Hx) (W : WX)
def ExcP (H : Hp) (G : Gs) (fp rs : List Addr) (σ : L2.St) (env : Env) (c : Str) (fs : List (Str × D)) (τ' : List D) : Prop :=
  ∀ C d ws H' G', SR K mg hx H' G' fp rs σ env τ' → FrameE H G H' G' → mg c = some (.ref C) → H d = none → H' d = some (.xd ws) → RFf K mg G' fs ws → W (.ref C) (some d) σ H'
def SatR {α : Type} (H : Hp) (G : Gs) (fp rs : List Addr) (σ : L2.St) (env : Env) (r : R α) (Q : α → List D → Prop) : Prop := match r with
  | .ok a τ' => Q a τ'
  | .exc c fs τ' => ExcP K mg hx W H G fp rs σ env c fs τ'
  | .stuck => False
/-- a value comes -/
def OkE (H : Hp) (G : Gs) (fp rs : List Addr) (σ : L2.St) (env : Env) (Q : VK) (rv : RV) (τ' : List D) : Prop :=
  ∀ v H' G' f, SR K mg hx H' G' fp rs σ env τ' → FrameE H G H' G' → RVr K mg (fp ++ rs) H' G' f rv v → Fresh H G' f → Q v H'
def tE (Φ : Phi) (c : E) : TE := fun σ H Q => ∃ G fp rs env τ, SR K mg hx H G fp rs σ env τ ∧ SatR K mg hx W H G fp rs σ env (evalE Φ c env τ) (OkE K mg hx H G fp rs σ env Q)
/-- several -/
def RVs (lv : List Addr) (H : Hp) (G : Gs) : List Addr → List RV → List V → Prop
  | f, [], vs => f = [] ∧ vs = []
  | f, r :: rs, vs => ∃ f1 f2 v t, f = f1 ++ f2 ∧ vs = v :: t ∧ RVr K mg lv H G f1 r v ∧ RVs lv H G f2 rs t
def OkA (H : Hp) (G : Gs) (fp rs : List Addr) (σ : L2.St) (env : Env) (Q : List V → Hp → Prop) (rvs : List RV) (τ' : List D) : Prop :=
  ∀ vs H' G' f, SR K mg hx H' G' fp rs σ env τ' → FrameE H G H' G' → RVs K mg (fp ++ rs) H' G' f rvs vs → Fresh H G' f → Q vs H'
def tA (Φ : Phi) (c : Es) : TA := fun σ H Q => ∃ G fp rs env τ, SR K mg hx H G fp rs σ env τ ∧ SatR K mg hx W H G fp rs σ env (evalEs Φ c env τ) (OkA K mg hx H G fp rs σ env Q)
end
section
variable {K : PySem.W.Frag} {mg : Str → Option Value} {hx : Hx} {W : WX} {H H' : Hp} {G G' : Gs} {fp rs : List Addr} {σ : L2.St} {env : Env} {τ τ' : List D} {α : Type}
theorem ExcP.back {c : Str} {fs : List (Str × D)} (f : FrameE H G H' G') (there : ∀ d, H' d = none → H d = none) (h : ExcP K mg hx W H G fp rs σ env c fs τ') : ExcP K mg hx W H' G' fp rs σ env c fs τ' :=
  fun C d ws H2 G2 s f2 m n e r => h C d ws H2 G2 s (f.trans f2) m (there d n) e r
theorem FrameE.fresh (f : FrameE H G H' G') (hh : ∀ h, G.hd = some h → ∃ o, H' h = some o) {d : Addr} (n : H' d = none) : H d = none := by
  cases e : H d with
  | none => rfl
  | some o =>
    by_cases q : G.hd = some d
    · obtain ⟨u, hu⟩ := hh d q
      rw [hu] at n; cases n
    · obtain ⟨u, z⟩ := (f.keep d o e q).1.there
      rw [z] at n; cases n
theorem SR.hdThere (s : SR K mg hx H' G' fp rs σ env τ) (e : G'.hd = G.hd) : ∀ h, G.hd = some h → ∃ o, H' h = some o := fun h q => let ⟨⟨_, z⟩, _⟩ := s.hand.there (e.trans q); ⟨_, z⟩
theorem SatR.bind {β : Type} {r : R α} {g : α → List D → R β} {Q : β → List D → Prop} (h : SatR K mg hx W H G fp rs σ env (r.bind g) Q) : SatR K mg hx W H G fp rs σ env r fun a τ => SatR K mg hx W H G fp rs σ env (g a τ) Q := by
  cases r with
  | ok a τ => exact h
  | exc c fs τ => exact h
  | stuck => exact h
theorem SatR.mono {r : R α} {Q Q' : α → List D → Prop} (h : SatR K mg hx W H G fp rs σ env r Q) (k : ∀ a τ, Q a τ → Q' a τ) : SatR K mg hx W H G fp rs σ env r Q' := by
  cases r with
  | ok a τ => exact k _ _ h
  | exc c fs τ => exact h
  | stuck => exact h
theorem SatR.back {r : R α} {Q Q' : α → List D → Prop} (f : FrameE H G H' G') (there : ∀ d, H' d = none → H d = none) (h : SatR K mg hx W H G fp rs σ env r Q) (k : ∀ a τ, Q a τ → Q' a τ) : SatR K mg hx W H' G' fp rs σ env r Q' := by
  cases r with
  | ok a τ => exact k _ _ h
  | exc c fs τ => exact ExcP.back f there h
  | stuck => exact h
theorem SR.now (s : SR K mg hx H G fp rs σ env τ) : Now H G := ⟨s.sub, s.hand.ok⟩
theorem SR.live (s : SR K mg hx H G fp rs σ env τ) : ∀ a ∈ fp ++ rs, G.hd ≠ some a := fun a h => by
  rcases List.mem_append.mp h with h | h
  · exact fun z => s.out a z h
  · exact (s.rok a h).2.1
theorem SR.liveN (s : SR K mg hx H G fp rs σ env τ) : ∀ a ∈ fp ++ rs, G.hd ≠ some a ∧ G.fr a = none := fun a h => ⟨s.live a h, by
  rcases List.mem_append.mp h with h | h
  · exact s.nf a h
  · exact (s.rok a h).2.2.1⟩
theorem SR.liveAt' (s : SR K mg hx H G fp rs σ env τ) : ∀ a ∈ fp ++ rs, ∃ o, H a = some o ∧ isTupO o = false := fun a h => by
  rcases List.mem_append.mp h with h | h
  · exact RE.there' s.env a h
  · exact (s.rok a h).2.2.2
theorem SR.liveAt (s : SR K mg hx H G fp rs σ env τ) : ∀ a ∈ fp ++ rs, ∃ o, H a = some o := fun a h => let ⟨o, e, _⟩ := s.liveAt' a h; ⟨o, e⟩
theorem Fresh.neN {f : List Addr} (n : Fresh H G f) : ∀ a ∈ f, G.hd ≠ some a ∧ G.fr a = none := fun a h => ⟨n.ne a h, n.nf a h⟩
/-- what is wanted of the value of e, with what the value is looked at as -/
theorem OkE.of_look {Q : VK} {rv : RV} {d : D} (e : rv.d = some d) (k : ∀ v H' G', SR K mg hx H' G' fp rs σ env τ' → FrameE H G H' G' → RT K mg H' G' d v → Q v H') : OkE K mg hx H G fp rs σ env Q rv τ' :=
  fun v H' G' f s fr r n => k v H' G' s fr (RVr.rt s.sub s.hand.ok e r n.ne s.live)
end
end Vi
end
section
set_option Elab.async false
set_option linter.all false
set_option maxRecDepth 100000
set_option maxHeartbeats 1000000
/-! Vi9: slots; how readings are composed; the rules of plain expressions. -/
namespace Vi
open PySem PySem.Spec PyProof.Rows L2

section
variable {K : PySem.W.Frag} {mg : Str → Option Value} {hx : Hx} {W : WX} {H H' H1 H2 : Hp} {G G' G1 G2 : Gs} {fp rs lv f : List Addr} {σ : L2.St} {env : Env} {τ τ' : List D} {α β : Type} {o : Option V} {Φ : Phi}
theorem RE.len : ∀ {env : Env} {f : List Addr} {σ : L2.St}, RE K mg hx G rs H env f σ → σ.length = env.length
  | [], _, _, h => by rw [h.2]; rfl
  | _ :: _, _, _, ⟨o, r, f1, f2, e1, e2, hs, ht⟩ => by rw [e1, List.length_cons, List.length_cons, RE.len ht]
/-- one slot, and how it is set anew -/
theorem RE.at : ∀ {env : Env} {fp : List Addr} {σ : L2.St} {i : Nat} {s : Slot}, RE K mg hx G rs H env fp σ → env[i]? = some s →
    ∃ A f B o, fp = A ++ f ++ B ∧ σ[i]? = some o ∧ RSlot K mg hx G rs H s f o ∧
      ∀ H' G' s' f' o', GLe G G' → Stays H H' (A ++ B) → Stays H H' rs → RSlot K mg hx G' rs H' s' f' o' → RE K mg hx G' rs H' (env.set i s') (A ++ f' ++ B) (σ.set i o')
  | [], _, _, _, _, _, e => by simp at e
  | sl :: env, _, _, 0, s, ⟨o, r, f1, f2, e1, e2, hs, ht⟩, e => by
    rw [List.getElem?_cons_zero] at e
    cases e
    refine ⟨[], f1, f2, o, by rw [e2]; rfl, by rw [e1]; rfl, hs, fun H' G' s' f' o' g st sr h => ⟨o', r, f', f2, by rw [e1]; rfl, rfl, h, RE.stay g sr (by simpa using st) ht⟩⟩
  | sl :: env, _, _, i + 1, s, ⟨o, r, f1, f2, e1, e2, hs, ht⟩, e => by
    obtain ⟨A, f, B, o2, q1, q2, q3, q4⟩ := RE.at (i := i) ht (by simpa using e)
    refine ⟨f1 ++ A, f, B, o2, by rw [e2, q1]; simp [List.append_assoc], by rw [e1]; simpa using q2, q3, fun H' G' s' f' o' g st sr h => ?_⟩
    refine ⟨o, r.set i o', f1, A ++ f' ++ B, by rw [e1]; rfl, by simp [List.append_assoc], RSlot.stay g (fun a ha => st a (by simp [ha])) sr hs, ?_⟩
    exact q4 H' G' s' f' o' g (fun a ha => st a (by rcases List.mem_append.mp ha with z | z <;> simp [z])) sr h
theorem Stays.refl {f : List Addr} : Stays H H f := fun _ _ _ h => h
theorem SR.subl {fp' : List Addr} {σ' : L2.St} {env' : Env} (s : SR K mg hx H G fp rs σ env τ) (h : fp'.Sublist fp) (r : RE K mg hx G rs H env' fp' σ') : SR K mg hx H G fp' rs σ' env' τ :=
  ⟨s.sub, s.nd.sublist h, fun a ha => s.nf a (h.subset ha), s.hand, fun a e z => s.out a e (h.subset z), fun a ha => ⟨fun z => (s.rok a ha).1 (h.subset z), (s.rok a ha).2⟩, r⟩
theorem RE.setOut {env : Env} {fp : List Addr} {σ : L2.St} {i : Nat} {s' : Slot} {o' : Option V} (h : RE K mg hx G rs H env fp σ) (e : env[i]? = none) : RE K mg hx G rs H (env.set i s') fp (σ.set i o') := by
  have hi : env.length ≤ i := List.getElem?_eq_none_iff.mp e
  rw [List.set_eq_of_length_le hi, List.set_eq_of_length_le (by rw [h.len]; exact hi)]
  exact h
theorem subl_mid {A f f' B : List Addr} (h : f'.Sublist f) : (A ++ f' ++ B).Sublist (A ++ f ++ B) := ((List.Sublist.refl A).append h).append (List.Sublist.refl B)
/-- a slot is set to something frozen -/
theorem SR.setF {d : D} {v : V} (s : SR K mg hx H G fp rs σ env τ) (r : RF K mg G d v) (i : Nat) : ∃ fp', fp'.Sublist fp ∧ SR K mg hx H G fp' rs (σ.set i (some v)) (env.set i (.fz d)) τ := by
  cases e : env[i]? with
  | none => exact ⟨fp, .refl _, s.subl (.refl _) (s.env.setOut e)⟩
  | some sl =>
    obtain ⟨A, f, B, o, e1, e2, h, k⟩ := s.env.at e
    have sb : (A ++ [] ++ B).Sublist fp := by rw [e1]; exact subl_mid (List.nil_sublist _)
    exact ⟨A ++ [] ++ B, sb, s.subl sb (k H G (.fz d) [] (some v) (GLe.refl _) Stays.refl Stays.refl ⟨rfl, v, rfl, r⟩)⟩
theorem SR.setU {o' : Option V} (s : SR K mg hx H G fp rs σ env τ) (i : Nat) : ∃ fp', fp'.Sublist fp ∧ SR K mg hx H G fp' rs (σ.set i o') (env.set i .un) τ := by
  cases e : env[i]? with
  | none => exact ⟨fp, .refl _, s.subl (.refl _) (s.env.setOut e)⟩
  | some sl =>
    obtain ⟨A, f, B, o, e1, e2, h, k⟩ := s.env.at e
    have sb : (A ++ [] ++ B).Sublist fp := by rw [e1]; exact subl_mid (List.nil_sublist _)
    exact ⟨A ++ [] ++ B, sb, s.subl sb (k H G .un [] o' (GLe.refl _) Stays.refl Stays.refl rfl)⟩
theorem SR.wipe (s : SR K mg hx H G fp rs σ env τ) : ∀ vs : List Nat, ∃ fp', fp'.Sublist fp ∧ SR K mg hx H G fp' rs (L2.wipe σ vs) (wipeE env vs) τ
  | [] => ⟨fp, .refl _, s⟩
  | v :: vs => by
    obtain ⟨f1, h1, s1⟩ := s.wipe vs
    obtain ⟨f2, h2, s2⟩ := s1.setU (o' := none) v
    exact ⟨f2, h2.trans h1, s2⟩
/-! ### going on -/
theorem Fresh.back (there : ∀ d, H' d = none → H d = none) (n : Fresh H' G f) : Fresh H G f := ⟨n.nd, fun a ha => there a (n.new a ha), n.nf, n.ne⟩
theorem OkE.back {Q : VK} {rv : RV} (fr : FrameE H G H' G') (there : ∀ d, H' d = none → H d = none) (h : OkE K mg hx H G fp rs σ env Q rv τ') : OkE K mg hx H' G' fp rs σ env Q rv τ' :=
  fun v H2 G2 f s f2 r n => h v H2 G2 f s (fr.trans f2) r (n.back there)
theorem OkA.back {Q : List V → Hp → Prop} {rvs : List RV} (fr : FrameE H G H' G') (there : ∀ d, H' d = none → H d = none) (h : OkA K mg hx H G fp rs σ env Q rvs τ') : OkA K mg hx H' G' fp rs σ env Q rvs τ' :=
  fun v H2 G2 f s f2 r n => h v H2 G2 f s (fr.trans f2) r (n.back there)
/-- what may be wanted behind a reading -/
structure Post (P : Hp → Gs → α → List D → Prop) : Prop where
  back : ∀ {H G H' G' a τ}, FrameE H G H' G' → (∀ d, H' d = none → H d = none) → P H G a τ → P H' G' a τ
theorem post_e {Q : VK} : Post (fun H G => OkE K mg hx H G fp rs σ env Q) := ⟨fun f t h => h.back f t⟩
theorem post_a {Q : List V → Hp → Prop} : Post (fun H G => OkA K mg hx H G fp rs σ env Q) := ⟨fun f t h => h.back f t⟩
theorem SatR.go {P : Hp → Gs → α → List D → Prop} (p : Post P) {r : R α} (s : SR K mg hx H' G' fp rs σ env τ) (f : FrameE H G H' G') (h : SatR K mg hx W H G fp rs σ env r (P H G)) : SatR K mg hx W H' G' fp rs σ env r (P H' G') :=
  SatR.back f (fun d e => f.fresh (s.hdThere f.hd) e) h fun a τ q => p.back f (fun d e => f.fresh (s.hdThere f.hd) e) q
theorem SR.there' (s : SR K mg hx H' G' fp rs σ env τ) (f : FrameE H G H' G') : ∀ d, H' d = none → H d = none := fun d e => f.fresh (s.hdThere f.hd) e
theorem RVr.weak {rv : RV} {v : V} (h : RVr K mg [] H G f rv v) : RVr K mg lv H G f rv v := by
  cases rv with
  | fz d => exact h
  | own c => exact h
  | ro c =>
    obtain ⟨e, g, h, z⟩ := h
    exact ⟨e, g, h, fun a ha => nomatch (z a ha)⟩
theorem OkE.yld {Q : VK} {rv : RV} (s : SR K mg hx H G fp rs σ env τ) (h : OkE K mg hx H G fp rs σ env Q rv τ) : Yld K mg H G rv Q := fun v H' G' f p r n => h v H' G' f (s.step p) p.frame r.weak n
theorem OkE.fz {Q : VK} {d : D} {v : V} (s : SR K mg hx H G fp rs σ env τ) (h : OkE K mg hx H G fp rs σ env Q (.fz d) τ) (r : RF K mg G d v) : Q v H := h v H G [] s FrameE.refl ⟨rfl, r⟩ Fresh.nil
/-- one value is made, then .. -/
theorem tE_bind {a : E} {g : RV → List D → R α} {Q' : VK} {P : Hp → Gs → α → List D → Prop} (p : Post P) (s : SR K mg hx H G fp rs σ env τ) (h : SatR K mg hx W H G fp rs σ env ((evalE Φ a env τ).bind g) (P H G))
    (k : ∀ rv v τ' H' G' f, SR K mg hx H' G' fp rs σ env τ' → FrameE H G H' G' → RVr K mg (fp ++ rs) H' G' f rv v → Fresh H G' f → SatR K mg hx W H' G' fp rs σ env (g rv τ') (P H' G') → Q' v H') : tE K mg hx W Φ a σ H Q' := by
  refine ⟨G, fp, rs, env, τ, s, SatR.mono (SatR.bind h) fun rv τ' q => ?_⟩
  intro v H' G' f s' fr r n
  exact k rv v τ' H' G' f s' fr r n (SatR.go p s' fr q)
/-- .. looked at .. -/
theorem tE_look {a : E} {g : D → List D → R α} {Q' : VK} {P : Hp → Gs → α → List D → Prop} (p : Post P) (s : SR K mg hx H G fp rs σ env τ) (h : SatR K mg hx W H G fp rs σ env ((evalE Φ a env τ).look g) (P H G))
    (k : ∀ d v τ' H' G', SR K mg hx H' G' fp rs σ env τ' → FrameE H G H' G' → RT K mg H' G' d v → SatR K mg hx W H' G' fp rs σ env (g d τ') (P H' G') → Q' v H') : tE K mg hx W Φ a σ H Q' := by
  refine tE_bind p s h fun rv v τ' H' G' f s' fr r n q => ?_
  cases e : rv.d with
  | none => rw [e] at q; exact q.elim
  | some d =>
    rw [e] at q
    exact k d v τ' H' G' s' fr (RVr.rt s'.sub s'.hand.ok e r n.ne s'.live) q
theorem tE_look2 {a b : E} {g : D → D → List D → R α} {r : V → V → Hp → Prop} {P : Hp → Gs → α → List D → Prop} (p : Post P) (s : SR K mg hx H G fp rs σ env τ)
    (h : SatR K mg hx W H G fp rs σ env ((evalE Φ a env τ).look fun x τ => (evalE Φ b env τ).look fun y τ => g x y τ) (P H G))
    (k : ∀ dx dy x y τ' H' G', SR K mg hx H' G' fp rs σ env τ' → FrameE H G H' G' → RT K mg H' G' dx x → RT K mg H' G' dy y → SatR K mg hx W H' G' fp rs σ env (g dx dy τ') (P H' G') → r x y H') :
    tE K mg hx W Φ a σ H fun x H1 => tE K mg hx W Φ b σ H1 fun y H2 => r x y H2 :=
  tE_look p s h fun dx x τ1 H1 G1 s1 f1 r1 q1 => tE_look p s1 q1 fun dy y τ2 H2 G2 s2 f2 r2 q2 => k dx dy x y τ2 H2 G2 s2 (f1.trans f2) (r1.frame f2 (s1.gle f2)) r2 q2
theorem SatR.of {o : Option α} {Q : α → List D → Prop} (h : SatR K mg hx W H G fp rs σ env (R.of o τ) Q) : ∃ a, o = some a ∧ Q a τ := by
  cases o with
  | none => exact h.elim
  | some a => exact ⟨a, rfl, h⟩
end
theorem PE.imp {X : Cx} {e : Expr} {t t' : TE} (h : PE X e t) (i : ∀ σ H Q, t' σ H Q → t σ H Q) : PE X e t' := ⟨fun pins s σ H Q I q => h.run pins s σ H Q I (i σ H Q q)⟩
theorem PT.imp {X : Cx} {e : Expr} {t t' : TT} (h : PT X e t) (i : ∀ σ H Q, t' σ H Q → t σ H Q) : PT X e t' := ⟨fun pins s σ H Q I q => h.run pins s σ H Q I (i σ H Q q)⟩
theorem PA.imp {X : Cx} {e : List Expr} {t t' : TA} (h : PA X e t) (i : ∀ σ H Q, t' σ H Q → t σ H Q) : PA X e t' := ⟨fun pos pins s σ H Q I q => h.run pos pins s σ H Q I (i σ H Q q)⟩

/-- a test -/
def tT (K : PySem.W.Frag) (mg : Str → Option Value) (hx : Hx) (W : WX) (Φ : Phi) (c : E) : TT := fun σ H Q => ∃ G fp rs env τ, SR K mg hx H G fp rs σ env τ ∧
  SatR K mg hx W H G fp rs σ env (evalE Φ c env τ) fun rv τ' => ∃ b, rv.d = some (.bl b) ∧ ∀ H' G', SR K mg hx H' G' fp rs σ env τ' → FrameE H G H' G' → Q b H'
abbrev eT (X : Cx) (hx : Hx) (W : WX) (Φ : Phi) (c : E) : TE := tE X.K X.mg hx W Φ c
abbrev cT (X : Cx) (hx : Hx) (W : WX) (Φ : Phi) (c : E) : TT := tT X.K X.mg hx W Φ c
section
variable {X : Cx} {W : WX} {hx : Hx} {Φ : Phi} {k : Nat} {a b c : E} {x y z : Expr} {pos : Pos}
theorem RT.bl {K : PySem.W.Frag} {mg : Str → Option Value} {H : Hp} {G : Gs} {k : Bool} {v : V} (h : RT K mg H G (.bl k) v) : v = .bl k := h
theorem RT.int {K : PySem.W.Frag} {mg : Str → Option Value} {H : Hp} {G : Gs} {k : Int} {v : V} (h : RT K mg H G (.int k) v) : v = .int k := h
/-- a value that is a bool, as a test -/
theorem s_test (h : PE X x (eT X hx W Φ a)) (he : ∀ whole, isTrue x X.env whole = (do let v ← whole; standAt x.pos; holding [v] (truthy v))) : PT X x (cT X hx W Φ a) := by
  refine PT.imp (pt_val h he) fun σ H Q ⟨G, fp, rs, env, τ, s, q⟩ => ⟨G, fp, rs, env, τ, s, SatR.mono q fun rv τ' ⟨b, e, q⟩ => ?_⟩
  intro v H' G' f s' fr r n
  have rt := RVr.rt s'.sub s'.hand.ok e r n.ne s'.live
  exact ⟨b, rt, q H' G' s' fr⟩
theorem post_t {Q : Bool → Hp → Prop} {fp rs : List Addr} {σ : L2.St} {env : Env} {K : PySem.W.Frag} {mg : Str → Option Value} : Post (fun H G (rv : RV) τ' => ∃ b, rv.d = some (.bl b) ∧ ∀ H' G', SR K mg hx H' G' fp rs σ env τ' → FrameE H G H' G' → Q b H') :=
  ⟨fun f t ⟨b, e, q⟩ => ⟨b, e, fun H2 G2 s f2 => q H2 G2 s (f.trans f2)⟩⟩

theorem s_var (c : Ctx Φ k X W) {i : Nat} {n : Str} (hN : X.N[i]? = some n) (hv : Vis X.env.scope n) (hd : (n == ("__debug__" : Str)) = false) (hcd : (n == ("__classdict__" : Str)) = false) : PE X (.Name n pos) (eT X hx W Φ (.var i)) := by
  refine PE.imp (pe_var hN hv hd hcd) fun σ H Q ⟨G, fp, rs, env, τ, s, q⟩ => ?_
  cases e : env[i]? with
  | none => rw [evalE, e] at q; exact q.elim
  | some sl =>
    obtain ⟨A, f, B, o, e1, e2, h, kk⟩ := s.env.at e
    cases sl with
    | un => rw [evalE, e] at q; exact q.elim
    | exn _ _ => rw [evalE, e] at q; exact q.elim
    | fz d =>
      rw [evalE, e] at q
      obtain ⟨_, v, ev, r⟩ := h
      exact ⟨v, by rw [e2, ev], q v H G [] s FrameE.refl ⟨rfl, r⟩ Fresh.nil⟩
    | own cl =>
      rw [evalE, e] at q
      obtain ⟨v, ev, r⟩ := h
      exact ⟨v, by rw [e2, ev], q v H G [] s FrameE.refl ⟨rfl, f, r.weak, fun a ha => List.mem_append_left _ (by rw [e1]; simp [ha])⟩ Fresh.nil⟩
    | ro cl =>
      rw [evalE, e] at q
      obtain ⟨_, v, g, ev, r, n⟩ := h
      exact ⟨v, by rw [e2, ev], q v H G [] s FrameE.refl ⟨rfl, g, r, fun a ha => List.mem_append_right _ (n a ha)⟩ Fresh.nil⟩
theorem s_const {d : D} {v : V} (h : PE X x (tC v)) (e : ∀ env τ, evalE Φ a env τ = .ok (.fz d) τ) (r : ∀ G, RF X.K X.mg G d v) : PE X x (eT X hx W Φ a) :=
  PE.imp h fun σ H Q ⟨G, fp, rs, env, τ, s, q⟩ => by
    rw [e] at q
    exact OkE.fz s q (r G)
theorem s_glb (c : Ctx Φ k X W) {n : Str} (hg : Gl X n) (hd : (n == ("__debug__" : Str)) = false) : PE X (.Name n pos) (eT X hx W Φ (.glb n)) := by
  cases e : Φ.gl n with
  | none => exact ⟨fun pins s σ H Q I ⟨G, fp, rs, env, τ, s, q⟩ => by rw [evalE, e] at q; exact q.elim⟩
  | some d =>
    obtain ⟨u, v, e1, r, rf⟩ := c.phi.gl n d e
    exact s_const (pe_glob hg e1 r hd) (fun env τ => by rw [evalE, e]; rfl) rf
theorem s_bin (c : Ctx Φ k X W) (o : Bop) (ha : PE X x (eT X hx W Φ a)) (hb : PE X y (eT X hx W Φ b)) : PE X (.BinOp x o.op y pos) (eT X hx W Φ (.bin o a b)) := by
  refine PE.imp (pe_op (op_bin o) ha hb) fun σ H Q ⟨G, fp, rs, env, τ, s, q⟩ => ?_
  refine tE_look2 post_e s q fun dx dy v w τ' H' G' s' fr r1 r2 q' => ?_
  obtain ⟨rv, e, q'⟩ := q'.of
  exact ⟨G', dx, dy, rv, s'.now, r1, r2, e, OkE.yld s' q'⟩
theorem op_neg : UnR X (unaryOp .USub) (fun x H Q => ∃ i, x = .int i ∧ Q (.int (-i)) H) := by
  intro pins s σ H x v Q I r h
  obtain ⟨i, rfl, q⟩ := h
  obtain ⟨t, rfl⟩ := r
  exact neg_int ⟨.int (-i), H, I.tok _, ⟨_, rfl⟩, q⟩
theorem s_neg (ha : PE X x (eT X hx W Φ a)) : PE X (.UnaryOp .USub x pos) (eT X hx W Φ (.neg a)) := by
  refine PE.imp (pe_un op_neg ha) fun σ H Q ⟨G, fp, rs, env, τ, s, q⟩ => ?_
  refine tE_look post_e s q fun d v τ' H' G' s' fr r q' => ?_
  cases d <;> first | exact q'.elim | skip
  exact ⟨_, r, OkE.fz s' q' rfl⟩
theorem s_cmp (c : Ctx Φ k X W) (o : Cop) (ha : PE X x (eT X hx W Φ a)) (hb : PE X y (eT X hx W Φ b)) (hm : behindInMarks o.op y = false) : PE X (.Compare x [o.op] [y] pos) (eT X hx W Φ (.cmp o a b)) := by
  refine PE.imp (pe_cmpR (op_cmp c.hu o) ha hb hm) fun σ H Q ⟨G, fp, rs, env, τ, s, q⟩ => ?_
  refine tE_look2 post_e s q fun dx dy v w τ' H' G' s' fr r1 r2 q' => ?_
  obtain ⟨rv, e, q'⟩ := q'.of
  cases e2 : cmpop o dx dy with
  | none => rw [e2] at e; cases e
  | some kk =>
    rw [e2] at e
    cases e
    exact ⟨G', dx, dy, kk, s'.now, r1, r2, e2, OkE.fz s' q' rfl⟩
theorem s_cmpT (c : Ctx Φ k X W) (o : Cop) (ha : PE X x (eT X hx W Φ a)) (hb : PE X y (eT X hx W Φ b)) (hm : behindInMarks o.op y = false) : PT X (.Compare x [o.op] [y] pos) (cT X hx W Φ (.cmp o a b)) := by
  refine PT.imp (pt_cmpR (op_cmp c.hu o) ha hb hm) fun σ H Q ⟨G, fp, rs, env, τ, s, q⟩ => ?_
  refine tE_look2 post_t s q fun dx dy v w τ' H' G' s' fr r1 r2 q' => ?_
  obtain ⟨rv, e, bb, ed, q'⟩ := q'.of
  cases e2 : cmpop o dx dy with
  | none => rw [e2] at e; cases e
  | some kk =>
    rw [e2] at e
    cases e
    cases ed
    exact ⟨G', dx, dy, _, s'.now, r1, r2, e2, _, rfl, q' H' G' s' FrameE.refl⟩
theorem s_chain (cx : Ctx Φ k X W) (o p : Cop) (ha : PE X x (eT X hx W Φ a)) (hb : PE X y (eT X hx W Φ b)) (hc : PE X z (eT X hx W Φ c)) (hm : lastMarks [o.op, p.op] [y, z] = false) : PE X (.Compare x [o.op, p.op] [y, z] pos) (eT X hx W Φ (.chain o p a b c)) := by
  refine PE.imp (pe_chain (op_cmp cx.hu o) (op_cmp cx.hu p) ha hb hc hm) fun σ H Q ⟨G, fp, rs, env, τ, s, q⟩ => ?_
  refine tE_look2 post_e s q fun dx dy v w τ' H' G' s' fr r1 r2 q' => ?_
  cases e2 : cmpop o dx dy with
  | none => rw [e2] at q'; exact q'.elim
  | some kk =>
    rw [e2] at q'
    refine ⟨G', dx, dy, kk, s'.now, r1, r2, e2, kk, rfl, ?_⟩
    cases kk with
    | false => exact OkE.fz s' q' rfl
    | true =>
      refine tE_look post_e s' q' fun dz u τ2 H2 G2 s2 f2 r3 q2 => ?_
      obtain ⟨rv, e, q2⟩ := q2.of
      cases e3 : cmpop p dy dz with
      | none => rw [e3] at e; cases e
      | some kk =>
        rw [e3] at e
        cases e
        exact ⟨G2, dy, dz, kk, s2.now, r2.frame f2 (s'.gle f2), r3, e3, OkE.fz s2 q2 rfl⟩
theorem s_chainT (cx : Ctx Φ k X W) (o p : Cop) (ha : PE X x (eT X hx W Φ a)) (hb : PE X y (eT X hx W Φ b)) (hc : PE X z (eT X hx W Φ c)) (hm : lastMarks [o.op, p.op] [y, z] = false) : PT X (.Compare x [o.op, p.op] [y, z] pos) (cT X hx W Φ (.chain o p a b c)) := by
  refine PT.imp (pt_chain (op_cmp cx.hu o) (op_cmp cx.hu p) ha hb hc hm) fun σ H Q ⟨G, fp, rs, env, τ, s, q⟩ => ?_
  refine tE_look2 post_t s q fun dx dy v w τ' H' G' s' fr r1 r2 q' => ?_
  cases e2 : cmpop o dx dy with
  | none => rw [e2] at q'; exact q'.elim
  | some kk =>
    rw [e2] at q'
    refine ⟨G', dx, dy, kk, s'.now, r1, r2, e2, kk, rfl, ?_⟩
    cases kk with
    | false =>
      obtain ⟨bb, ed, q'⟩ := q'
      cases ed
      exact ⟨_, rfl, q' H' G' s' FrameE.refl⟩
    | true =>
      refine tE_look post_t s' q' fun dz u τ2 H2 G2 s2 f2 r3 q2 => ?_
      obtain ⟨rv, e, bb, ed, q2⟩ := q2.of
      cases e3 : cmpop p dy dz with
      | none => rw [e3] at e; cases e
      | some kk =>
        rw [e3] at e
        cases e
        cases ed
        exact ⟨G2, dy, dz, _, s2.now, r2.frame f2 (s'.gle f2), r3, e3, _, rfl, q2 H2 G2 s2 FrameE.refl⟩
theorem s_not (ha : PE X x (eT X hx W Φ a)) : PE X (.UnaryOp .Not x pos) (eT X hx W Φ (.not a)) := by
  refine PE.imp (pe_not ha) fun σ H Q ⟨G, fp, rs, env, τ, s, q⟩ => ?_
  refine tE_look post_e s q fun d v τ' H' G' s' fr r q' => ?_
  cases d <;> first | exact q'.elim | skip
  exact ⟨_, r, OkE.fz s' q' rfl⟩
theorem tT_look {α : Type} {P : Hp → Gs → α → List D → Prop} {K : PySem.W.Frag} {mg : Str → Option Value} {H : Hp} {G : Gs} {fp rs : List Addr} {σ : L2.St} {env : Env} {τ : List D} {g : D → List D → R α} {Q' : Bool → Hp → Prop} (p : Post P) (s : SR K mg hx H G fp rs σ env τ) (h : SatR K mg hx W H G fp rs σ env ((evalE Φ a env τ).look g) (P H G))
    (hb : ∀ d τ' H' G', SatR K mg hx W H' G' fp rs σ env (g d τ') (P H' G') → ∃ b, d = .bl b)
    (k : ∀ b τ' H' G', SR K mg hx H' G' fp rs σ env τ' → FrameE H G H' G' → SatR K mg hx W H' G' fp rs σ env (g (.bl b) τ') (P H' G') → Q' b H') : tT K mg hx W Φ a σ H Q' := by
  refine ⟨G, fp, rs, env, τ, s, SatR.mono (SatR.bind h) fun rv τ' q => ?_⟩
  cases e : rv.d with
  | none => rw [e] at q; exact q.elim
  | some d =>
    rw [e] at q
    obtain ⟨b, rfl⟩ := hb d τ' H G q
    exact ⟨b, rfl, fun H' G' s' fr => k b τ' H' G' s' fr (SatR.go p s' fr q)⟩
theorem s_notT (ha : PT X x (cT X hx W Φ a)) : PT X (.UnaryOp .Not x pos) (cT X hx W Φ (.not a)) := by
  refine PT.imp (pt_not ha) fun σ H Q ⟨G, fp, rs, env, τ, s, q⟩ => ?_
  refine tT_look post_t s q (fun d τ' H' G' h => ?_) fun b τ' H' G' s' fr q' => ?_
  · cases d <;> first | exact h.elim | exact ⟨_, rfl⟩
  · obtain ⟨bb, ed, q'⟩ := q'
    cases ed
    exact q' H' G' s' FrameE.refl
theorem s_and {vs : List Expr} (ha : PE X x (eT X hx W Φ a)) (hb : PE X (.BoolOp .And (y :: vs) pos) (eT X hx W Φ b)) : PE X (.BoolOp .And (x :: y :: vs) pos) (eT X hx W Φ (.and a b)) := by
  refine PE.imp (pe_and ha hb) fun σ H Q ⟨G, fp, rs, env, τ, s, q⟩ => ?_
  refine tE_look post_e s q fun d v τ' H' G' s' fr r q' => ?_
  cases d with
  | bl b =>
    refine ⟨b, r, ?_⟩
    cases b with
    | true => exact ⟨G', fp, rs, env, τ', s', q'⟩
    | false => exact OkE.fz s' q' rfl
  | _ => exact q'.elim
theorem s_or {vs : List Expr} (ha : PE X x (eT X hx W Φ a)) (hb : PE X (.BoolOp .Or (y :: vs) pos) (eT X hx W Φ b)) : PE X (.BoolOp .Or (x :: y :: vs) pos) (eT X hx W Φ (.or a b)) := by
  refine PE.imp (pe_or ha hb) fun σ H Q ⟨G, fp, rs, env, τ, s, q⟩ => ?_
  refine tE_look post_e s q fun d v τ' H' G' s' fr r q' => ?_
  cases d with
  | bl b =>
    refine ⟨b, r, ?_⟩
    cases b with
    | false => exact ⟨G', fp, rs, env, τ', s', q'⟩
    | true => exact OkE.fz s' q' rfl
  | _ => exact q'.elim
theorem s_andT {vs : List Expr} (ha : PT X x (cT X hx W Φ a)) (hb : PW X (.BoolOp .And (y :: vs) pos) (cT X hx W Φ b)) : PW X (.BoolOp .And (x :: y :: vs) pos) (cT X hx W Φ (.and a b)) := by
  refine ⟨fun wh pins s0 σ H Q I ⟨G, fp, rs, env, τ, s, q⟩ => (pw_and ha hb).run wh pins s0 σ H Q I ?_⟩
  refine tT_look post_t s q (fun d τ' H' G' h => ?_) fun b τ' H' G' s' fr q' => ?_
  · cases d <;> first | exact h.elim | exact ⟨_, rfl⟩
  · cases b with
    | true => exact ⟨G', fp, rs, env, τ', s', q'⟩
    | false =>
      obtain ⟨bb, ed, q'⟩ := q'
      cases ed
      exact q' H' G' s' FrameE.refl
theorem s_orT {vs : List Expr} (ha : PT X x (cT X hx W Φ a)) (hb : PW X (.BoolOp .Or (y :: vs) pos) (cT X hx W Φ b)) : PW X (.BoolOp .Or (x :: y :: vs) pos) (cT X hx W Φ (.or a b)) := by
  refine ⟨fun wh pins s0 σ H Q I ⟨G, fp, rs, env, τ, s, q⟩ => (pw_or ha hb).run wh pins s0 σ H Q I ?_⟩
  refine tT_look post_t s q (fun d τ' H' G' h => ?_) fun b τ' H' G' s' fr q' => ?_
  · cases d <;> first | exact h.elim | exact ⟨_, rfl⟩
  · cases b with
    | false => exact ⟨G', fp, rs, env, τ', s', q'⟩
    | true =>
      obtain ⟨bb, ed, q'⟩ := q'
      cases ed
      exact q' H' G' s' FrameE.refl
theorem s_ife (hc : PT X z (cT X hx W Φ c)) (ha : PE X x (eT X hx W Φ a)) (hb : PE X y (eT X hx W Φ b)) : PE X (.IfExp z x y pos) (eT X hx W Φ (.ife c a b)) := by
  refine PE.imp (pe_ifExp hc ha hb) fun σ H Q ⟨G, fp, rs, env, τ, s, q⟩ => ?_
  refine tT_look post_e s q (fun d τ' H' G' h => ?_) fun b τ' H' G' s' fr q' => ?_
  · cases d <;> first | exact h.elim | exact ⟨_, rfl⟩
  · cases b <;> exact ⟨G', fp, rs, env, τ', s', q'⟩
/-- fresh places are frozen -/
theorem SR.add {K : PySem.W.Frag} {mg : Str → Option Value} {H H' : Hp} {G G' : Gs} {fp rs f : List Addr} {σ : L2.St} {env : Env} {τ τ' : List D} (s : SR K mg hx H G fp rs σ env τ) (s' : SR K mg hx H' G' fp rs σ env τ') (n : Fresh H G' f) : SR K mg hx H' (G'.add H' f) fp rs σ env τ' := by
  have nf : ∀ a ∈ f, a ∉ fp := fun a ha h => by
    obtain ⟨o, e⟩ := s.liveAt a (List.mem_append_left _ h)
    rw [n.new a ha] at e; cases e
  have g : GLe G' (G'.add H' f) := Gs.le_add n.nf
  refine ⟨fun a o e => ?_, s'.nd, fun a ha => ?_, ?_, s'.out, fun a ha => ?_, RE.stay g Stays.refl Stays.refl s'.env⟩
  · by_cases ha : a ∈ f
    · rw [Gs.add_in ha] at e
      exact .inl e
    · rw [Gs.add_out ha] at e
      exact s'.sub a o e
  · rw [Gs.add_out fun z => nf a z ha]
    exact s'.nf a ha
  · rcases s'.hand with h | ⟨h, a, vs, e1, e2, r, z⟩
    · exact .inl h
    · exact .inr ⟨h, a, vs, e1, e2, RFs.mono g r, by rw [Gs.add_out fun y => n.ne a y e1]; exact z⟩
  · obtain ⟨h1, h2, h3, o, h4, t⟩ := s'.rok a ha
    refine ⟨h1, h2, ?_, o, h4, t⟩
    rw [Gs.add_out fun y => by
      obtain ⟨u, e⟩ := s.liveAt a (List.mem_append_right _ ha)
      rw [n.new a y] at e; cases e]
    exact h3
theorem FrameE.add {H H' : Hp} {G G' : Gs} {f : List Addr} (fr : FrameE H G H' G') (n : Fresh H G' f) : FrameE H G H' (G'.add H' f) :=
  ⟨fun a o e h => ⟨(fr.keep a o e h).1, fun t => by
    rw [Gs.add_out fun z => by rw [n.new a z] at e; cases e]
    exact (fr.keep a o e h).2 t⟩, fun a o h => (Gs.le_add n.nf).1 a o (fr.le a o h), fr.hd⟩
theorem fzn_imp {K : PySem.W.Frag} {mg : Str → Option Value} {σ : L2.St} {H : Hp} {Q : VK} (q : tE K mg hx W Φ (.fzn a) σ H Q) : tE K mg hx W Φ a σ H Q := by
  obtain ⟨G, fp, rs, env, τ, s, q⟩ := q
  refine ⟨G, fp, rs, env, τ, s, SatR.mono (SatR.bind q) fun rv τ' q => ?_⟩
  intro v H' G' f s' fr r n
  cases e : rv.keep with
  | none => rw [e] at q; exact q.elim
  | some d =>
    rw [e] at q
    exact q v H' (G'.add H' f) [] (s.add s' n) (fr.add n) ⟨rfl, RVr.keep r e n.nf⟩ Fresh.nil
theorem s_fzn (ha : PE X x (eT X hx W Φ a)) : PE X x (eT X hx W Φ (.fzn a)) := PE.imp ha fun σ H Q q => fzn_imp q
/-- a value that is kept -/
theorem tE_kept {α : Type} {K : PySem.W.Frag} {mg : Str → Option Value} {H : Hp} {G : Gs} {fp rs : List Addr} {σ : L2.St} {env : Env} {τ : List D} {P : Hp → Gs → α → List D → Prop} {g : D → List D → R α} {Q' : VK} (p : Post P) (s : SR K mg hx H G fp rs σ env τ)
    (h : SatR K mg hx W H G fp rs σ env ((evalE Φ a env τ).kept g) (P H G))
    (k : ∀ d v τ' H' G', SR K mg hx H' G' fp rs σ env τ' → FrameE H G H' G' → RF K mg G' d v → SatR K mg hx W H' G' fp rs σ env (g d τ') (P H' G') → Q' v H') : tE K mg hx W Φ a σ H Q' := by
  refine ⟨G, fp, rs, env, τ, s, SatR.mono (SatR.bind h) fun rv τ' q => ?_⟩
  intro v H' G' f s' fr r n
  cases e : rv.keep with
  | none => rw [e] at q; exact q.elim
  | some d =>
    rw [e] at q
    have s2 := s.add s' n
    have f2 := fr.add n
    exact k d v τ' H' _ s2 f2 (RVr.keep r e n.nf) (SatR.go p s2 f2 q)
theorem RVr.there' {K : PySem.W.Frag} {mg : Str → Option Value} {lv : List Addr} {H : Hp} {G : Gs} {f : List Addr} {rv : RV} {v : V} (h : RVr K mg lv H G f rv v) : ∀ a ∈ f, ∃ o, H a = some o ∧ isTupO o = false := by
  cases rv with
  | fz d => intro a ha; rw [h.1] at ha; cases ha
  | own c => exact RC.there' h
  | ro c => intro a ha; rw [h.1] at ha; cases ha
theorem RVr.there {K : PySem.W.Frag} {mg : Str → Option Value} {lv : List Addr} {H : Hp} {G : Gs} {f : List Addr} {rv : RV} {v : V} (h : RVr K mg lv H G f rv v) : ∀ a ∈ f, ∃ o, H a = some o := fun a ha => let ⟨o, e, _⟩ := h.there' a ha; ⟨o, e⟩
/-! ### arguments -/
abbrev aT (X : Cx) (hx : Hx) (W : WX) (Φ : Phi) (c : Es) : TA := tA X.K X.mg hx W Φ c
theorem s_nil : PA X [] (aT X hx W Φ .nil) := PA.imp pa_nil fun σ H Q ⟨G, fp, rs, env, τ, s, q⟩ => q [] H G [] s FrameE.refl ⟨rfl, rfl⟩ Fresh.nil
theorem Fresh.append {H H' : Hp} {G' G2 : Gs} {f g : List Addr} (n : Fresh H G' f) (ht : ∀ a ∈ f, ∃ o, H' a = some o) (hn : ∀ d, H' d = none → H d = none) (m : Fresh H' G2 g) (nf : ∀ a ∈ f, G2.fr a = none) (hd : G2.hd = G'.hd) : Fresh H G2 (f ++ g) := by
  refine ⟨List.nodup_append.mpr ⟨n.nd, m.nd, fun a ha b hb e => ?_⟩, fun a ha => ?_, fun a ha => ?_, fun a ha => ?_⟩
  · subst e
    obtain ⟨o, z⟩ := ht a ha
    rw [m.new a hb] at z; cases z
  all_goals rcases List.mem_append.mp ha with z | z
  · exact n.new a z
  · exact hn a (m.new a z)
  · exact nf a z
  · exact m.nf a z
  · rw [hd]; exact n.ne a z
  · exact m.ne a z
theorem cons_imp {K : PySem.W.Frag} {mg : Str → Option Value} {a : E} {es : Es} {σ : L2.St} {H : Hp} {Q : List V → Hp → Prop} (q : tA K mg hx W Φ (.cons a es) σ H Q) : tCons (tE K mg hx W Φ a) (tA K mg hx W Φ es) σ H Q := by
  obtain ⟨G, fp, rs, env, τ, s, q⟩ := q
  rw [evalEs] at q
  refine ⟨G, fp, rs, env, τ, s, SatR.mono (SatR.bind q) fun rv τ' q => ?_⟩
  intro v H' G' f s' fr r n
  have th := s'.there' fr
  refine ⟨G', fp, rs, env, τ', s', SatR.back fr th (SatR.bind q) fun rvs τ2 q => ?_⟩
  intro vs H2 G2 g s2 f2 rs2 n2
  have r' := RVr.frame f2 (s'.gle f2) n.neN s'.liveN r
  refine q (v :: vs) H2 G2 (f ++ g) s2 (fr.trans f2) ⟨f, g, v, vs, rfl, rfl, r', rs2⟩ (n.append r.there th n2 (fun a ha => ?_) f2.hd)
  obtain ⟨o, e, t⟩ := r.there' a ha
  rw [(f2.keep a o e (n.ne a ha)).2 t]
  exact n.nf a ha
theorem s_cons {es : Es} {xs : List Expr} (ha : PE X x (eT X hx W Φ a)) (hb : PA X xs (aT X hx W Φ es)) (hs : starEach (x :: xs) X.env = (false, eval x X.env) :: starEach xs X.env) : PA X (x :: xs) (aT X hx W Φ (.cons a es)) := by
  exact PA.imp (pa_cons ha hb hs) fun σ H Q q => cons_imp q
theorem RVs.keeps {K : PySem.W.Frag} {mg : Str → Option Value} {lv : List Addr} {H : Hp} {G : Gs} : ∀ {f : List Addr} {rvs : List RV} {vs : List V} {ds : List D}, RVs K mg lv H G f rvs vs → keepsOf rvs = some ds → (∀ a ∈ f, G.fr a = none) → RFs K mg (G.add H f) ds vs
  | _, [], _, _, ⟨_, e⟩, h, _ => by cases h; exact e
  | f, rv :: rvs, _, ds, ⟨f1, f2, v, t, ef, ev, r, rr⟩, h, hf => by
    simp only [keepsOf] at h
    cases h1 : rv.keep with
    | none => rw [h1] at h; cases h
    | some d =>
      cases h2 : keepsOf rvs with
      | none => rw [h1, h2] at h; cases h
      | some ds' =>
        rw [h1, h2] at h
        cases h
        have g1 : GLe (G.add H f1) (G.add H f) := ⟨fun a o e => by
          by_cases ha : a ∈ f
          · rw [Gs.add_in ha]
            by_cases hb : a ∈ f1
            · rw [Gs.add_in hb] at e; exact e
            · rw [Gs.add_out hb, hf a ha] at e; cases e
          · rw [Gs.add_out ha]
            rw [Gs.add_out fun z => ha (by rw [ef]; exact List.mem_append_left _ z)] at e
            exact e, fun _ h => h⟩
        have g2 : GLe (G.add H f2) (G.add H f) := ⟨fun a o e => by
          by_cases ha : a ∈ f
          · rw [Gs.add_in ha]
            by_cases hb : a ∈ f2
            · rw [Gs.add_in hb] at e; exact e
            · rw [Gs.add_out hb, hf a ha] at e; cases e
          · rw [Gs.add_out ha]
            rw [Gs.add_out fun z => ha (by rw [ef]; exact List.mem_append_right _ z)] at e
            exact e, fun _ h => h⟩
        exact ⟨v, t, ev, RF.mono g1 (RVr.keep r h1 fun a ha => hf a (by rw [ef]; exact List.mem_append_left _ ha)), RFs.mono g2 (RVs.keeps rr h2 fun a ha => hf a (by rw [ef]; exact List.mem_append_right _ ha))⟩
theorem RVs.length {K : PySem.W.Frag} {mg : Str → Option Value} {lv : List Addr} {H : Hp} {G : Gs} : ∀ {f : List Addr} {rvs : List RV} {vs : List V}, RVs K mg lv H G f rvs vs → vs.length = rvs.length
  | _, [], _, ⟨_, e⟩ => by rw [e]; rfl
  | _, _ :: _, _, ⟨_, _, v, t, _, e, _, r⟩ => by rw [e, List.length_cons, List.length_cons, r.length]
theorem keepsOf_len : ∀ {rvs : List RV} {ds : List D}, keepsOf rvs = some ds → ds.length = rvs.length
  | [], _, h => by cases h; rfl
  | rv :: rvs, ds, h => by
    simp only [keepsOf] at h
    cases h1 : rv.keep with
    | none => rw [h1] at h; cases h
    | some d =>
      cases h2 : keepsOf rvs with
      | none => rw [h1, h2] at h; cases h
      | some ds' =>
        rw [h1, h2] at h
        cases h
        rw [List.length_cons, List.length_cons, keepsOf_len h2]
/-- values are kept together -/
theorem tA_keep {α : Type} {K : PySem.W.Frag} {mg : Str → Option Value} {H : Hp} {G : Gs} {fp rs : List Addr} {σ : L2.St} {env : Env} {τ : List D} {P : Hp → Gs → α → List D → Prop} {g : List RV → List D → R α} {Q' : List V → Hp → Prop} {es : Es} (p : Post P) (s : SR K mg hx H G fp rs σ env τ)
    (h : SatR K mg hx W H G fp rs σ env ((evalEs Φ es env τ).bind g) (P H G))
    (hk : ∀ rvs τ H G, SatR K mg hx W H G fp rs σ env (g rvs τ) (P H G) → ∃ ds, keepsOf rvs = some ds)
    (k : ∀ rvs ds vs τ' H' G', keepsOf rvs = some ds → SR K mg hx H' G' fp rs σ env τ' → FrameE H G H' G' → RFs K mg G' ds vs → SatR K mg hx W H' G' fp rs σ env (g rvs τ') (P H' G') → Q' vs H') : tA K mg hx W Φ es σ H Q' := by
  refine ⟨G, fp, rs, env, τ, s, SatR.mono (SatR.bind h) fun rvs τ' q => ?_⟩
  intro vs H' G' f s' fr r n
  obtain ⟨ds, e⟩ := hk rvs τ' H G q
  have s2 := s.add s' n
  have f2 := fr.add n
  exact k rvs ds vs τ' H' _ e s2 f2 (RVs.keeps r e n.nf) (SatR.go p s2 f2 q)
theorem s_tup {es : Es} {xs : List Expr} {x1 : Nat} (ha : PA X xs (aT X hx W Φ es)) : PE X (.Tuple xs x1 pos) (eT X hx W Φ (.tup es)) := by
  refine PE.imp (pe_tup ha) fun σ H Q ⟨G, fp, rs, env, τ, s, q⟩ => ?_
  refine tA_keep post_e s q (fun rvs τ H G h => ?_) fun rvs ds vs τ' H' G' e s' fr r q' => ?_
  · cases e : keepsOf rvs with
    | none => simp only [e] at h; exact h.elim
    | some ds => exact ⟨ds, rfl⟩
  · simp only [e] at q'
    split at q'
    · rename_i hl
      exact ⟨lim_line (by rw [r.length]; exact hl), fun p hp => (OkE.yld s' q').newT s'.now r p hp⟩
    · exact q'.elim
theorem s_lst {es : Es} {xs : List Expr} (ha : PA X xs (aT X hx W Φ es)) : PE X (.List xs pos) (eT X hx W Φ (.lst es)) := by
  refine PE.imp (pe_lst ha) fun σ H Q ⟨G, fp, rs, env, τ, s, q⟩ => ?_
  refine tA_keep post_e s q (fun rvs τ H G h => ?_) fun rvs ds vs τ' H' G' e s' fr r q' => ?_
  · cases e : keepsOf rvs with
    | none => simp only [e] at h; exact h.elim
    | some ds => exact ⟨ds, rfl⟩
  · simp only [e] at q'
    split at q'
    · rename_i hl
      exact ⟨lim_line (by rw [r.length]; exact hl), fun p hp => (OkE.yld s' q').newL s'.now r p hp⟩
    · exact q'.elim
/-! ### subscripts, slices -/
theorem ix_hand (X : Cx) : IxR X (fun x y H Q => ∃ G τ i d, HandAt X.K X.mg H G τ ∧ (∃ h, x = .ref h ∧ G.hd = some h) ∧ y = .int i ∧ atI τ i = some d ∧ ∀ v, RF X.K X.mg G d v → Q v H) := by
  intro value slice pins s σ H x y v u Q I rx ry h hs
  obtain ⟨G, τ, i, d, ha, ⟨h, rfl, e⟩, rfl, ed, q⟩ := h
  rcases ha with ⟨_, z⟩ | ⟨_, a, vs, ea, hH, r, _⟩
  · rw [z] at e; cases e
  · rw [e] at ea; cases ea
    obtain ⟨w, ew, rw'⟩ := r.atI ed
    exact ix_list value slice pins s σ H _ _ v u Q I rx ry ⟨_, vs, i, w, rfl, rfl, .inl (.inl hH), ew, q w rw'⟩ hs
theorem RCs.get {K : PySem.W.Frag} {mg : Str → Option Value} {m : Bool} {H : Hp} {G : Gs} : ∀ {cs : List Cell} {f : List Addr} {vs : List V} {i : Nat} {c : Cell}, RCs K mg G m H cs f vs → cs[i]? = some c → ∃ v g, vs[i]? = some v ∧ RC K mg G m H c g v ∧ ∀ a ∈ g, a ∈ f
  | [], _, _, _, _, _, e => by simp at e
  | c0 :: cs, _, _, 0, c, ⟨f1, f2, v, r, ef, ev, h, t⟩, e => by
    rw [List.getElem?_cons_zero] at e
    cases e
    exact ⟨v, f1, by rw [ev]; rfl, h, fun a ha => by rw [ef]; exact List.mem_append_left _ ha⟩
  | c0 :: cs, _, _, i + 1, c, ⟨f1, f2, v, r, ef, ev, h, t⟩, e => by
    obtain ⟨w, g, e1, h1, h2⟩ := RCs.get (i := i) t (by simpa using e)
    exact ⟨w, g, by rw [ev]; simpa using e1, h1, fun a ha => by rw [ef]; exact List.mem_append_right _ (h2 a ha)⟩
theorem RCs.length {K : PySem.W.Frag} {mg : Str → Option Value} {m : Bool} {H : Hp} {G : Gs} : ∀ {cs : List Cell} {f : List Addr} {vs : List V}, RCs K mg G m H cs f vs → vs.length = cs.length
  | [], _, _, ⟨_, e⟩ => by rw [e]; rfl
  | _ :: _, _, _, ⟨_, _, v, t, _, e, _, r⟩ => by rw [e, List.length_cons, List.length_cons, r.length]
def rIxAll (K : PySem.W.Frag) (mg : Str → Option Value) : R2 := fun x y H Q => rIxD K mg ixop x y H Q ∨ (∃ G τ i d, HandAt K mg H G τ ∧ (∃ h, x = .ref h ∧ G.hd = some h) ∧ y = .int i ∧ atI τ i = some d ∧ ∀ v, RF K mg G d v → Q v H) ∨ rIxL K x y H Q
theorem ix_every (hu : X.A.units + 200 < cLine) : IxR X (rIxAll X.K X.mg) := (ix_all hu).or ((ix_hand X).or ix_list)
theorem s_ix (c : Ctx Φ k X W) (ha : PE X x (eT X hx W Φ a)) (hb : PE X y (eT X hx W Φ b)) (hs : PlainIx y) : PE X (.Subscript x y pos) (eT X hx W Φ (.ix a b)) := by
  refine PE.imp (pe_ix (ix_every c.hu) ha hb hs) fun σ H Q ⟨G, fp, rs, env, τ, s, q⟩ => ?_
  rw [evalE] at q
  refine tE_bind post_e s q fun rv v τ' H' G' f s' fr r n q' => ?_
  refine tE_look post_e s' q' fun dy w τ2 H2 G2 s2 f2 r2 q2 => ?_
  have r' := RVr.frame f2 (s'.gle f2) n.neN s'.liveN r
  have ne2 : ∀ a ∈ f, G2.hd ≠ some a := fun a ha => by rw [f2.hd]; exact n.ne a ha
  split at q2
  · -- an item of one's own list of lists
    rename_i cs
    split at q2
    · rename_i i
      obtain ⟨rv2, e, q2⟩ := q2.of
      cases e3 : atI cs i with
      | none => rw [e3] at e; cases e
      | some cl =>
        rw [e3] at e
        obtain ⟨_, g, ⟨p, vs, fps, rfl, eg, hp, hcs⟩, hg⟩ := r'
        unfold L2.atI at e3
        cases e4 : ixN cs.length i with
        | none => rw [e4] at e3; cases e3
        | some j =>
          rw [e4] at e3
          obtain ⟨u, g2, e5, h5, h6⟩ := RCs.get hcs (show cs[j]? = some cl from e3)
          refine .inr (.inr ⟨p, vs, i, u, rfl, r2, .inl (.inl hp), ?_, ?_⟩)
          · unfold L2.atI
            rw [hcs.length, e4]
            exact e5
          · have lvm : ∀ a ∈ g2, a ∈ fp ++ rs := fun a ha => hg a (by rw [eg]; exact List.mem_cons_of_mem _ (h6 a ha))
            cases cl with
            | fz d =>
              cases e
              exact q2 u H2 G2 [] s2 FrameE.refl ⟨rfl, h5.2⟩ Fresh.nil
            | _ =>
              cases e
              exact q2 u H2 G2 [] s2 FrameE.refl ⟨rfl, g2, h5, lvm⟩ Fresh.nil
    · exact q2.elim
  · rename_i rv0 _
    split at q2
    · rename_i ed
      split at q2
      · rename_i i
        obtain ⟨rv2, e, q2⟩ := q2.of
        cases e3 : atI τ2 i with
        | none => rw [e3] at e; cases e
        | some d =>
          rw [e3] at e
          cases e
          obtain ⟨p, ep, hp⟩ := RVr.rt s2.sub s2.hand.ok ed r' ne2 s2.live
          exact .inr (.inl ⟨G2, τ2, i, d, s2.hand, ⟨p, ep, hp⟩, r2, e3, fun v rv => OkE.fz s2 q2 rv⟩)
      · exact q2.elim
    · rename_i d nd ed
      obtain ⟨rv2, e, q2⟩ := q2.of
      cases e3 : ixop d dy with
      | none => rw [e3] at e; cases e
      | some d3 =>
        rw [e3] at e
        cases e
        exact .inl ⟨G2, d, dy, d3, s2.now, RVr.rt s2.sub s2.hand.ok ed r' ne2 s2.live, r2, e3, fun v rv => OkE.fz s2 q2 rv⟩
    · exact q2.elim
def tO (K : PySem.W.Frag) (mg : Str → Option Value) (hx : Hx) (W : WX) (Φ : Phi) (c : Oe) : TO := fun σ H Q => ∃ G fp rs env τ, SR K mg hx H G fp rs σ env τ ∧ SatR K mg hx W H G fp rs σ env (evalO Φ c env τ) fun l τ' => ∀ H' G', SR K mg hx H' G' fp rs σ env τ' → FrameE H G H' G' → Q l H'
theorem PO.imp {e : Option Expr} {t t' : TO} (h : PO X e t) (i : ∀ σ H Q, t' σ H Q → t σ H Q) : PO X e t' := ⟨fun pins s σ H Q I q => h.run pins s σ H Q I (i σ H Q q)⟩
theorem s_ono : PO X none (tO X.K X.mg hx W Φ .no) := PO.imp po_none fun σ H Q ⟨G, fp, rs, env, τ, s, q⟩ => q H G s FrameE.refl
theorem post_o {Q : Option Int → Hp → Prop} {fp rs : List Addr} {σ : L2.St} {env : Env} {K : PySem.W.Frag} {mg : Str → Option Value} : Post (fun H G (l : Option Int) τ' => ∀ H' G', SR K mg hx H' G' fp rs σ env τ' → FrameE H G H' G' → Q l H') :=
  ⟨fun f t q H2 G2 s f2 => q H2 G2 s (f.trans f2)⟩
theorem s_oyes (ha : PE X x (eT X hx W Φ a)) : PO X (some x) (tO X.K X.mg hx W Φ (.yes a)) := by
  refine PO.imp (po_some ha) fun σ H Q ⟨G, fp, rs, env, τ, s, q⟩ => ?_
  refine tE_look post_o s q fun d v τ' H' G' s' fr r q' => ?_
  cases d <;> first | exact q'.elim | skip
  exact ⟨_, r, q' H' G' s' FrameE.refl⟩
theorem tO_bind {α : Type} {K : PySem.W.Frag} {mg : Str → Option Value} {H : Hp} {G : Gs} {fp rs : List Addr} {σ : L2.St} {env : Env} {τ : List D} {P : Hp → Gs → α → List D → Prop} {g : Option Int → List D → R α} {Q' : Option Int → Hp → Prop} {o : Oe} (p : Post P) (s : SR K mg hx H G fp rs σ env τ)
    (h : SatR K mg hx W H G fp rs σ env ((evalO Φ o env τ).bind g) (P H G))
    (k : ∀ l τ' H' G', SR K mg hx H' G' fp rs σ env τ' → FrameE H G H' G' → SatR K mg hx W H' G' fp rs σ env (g l τ') (P H' G') → Q' l H') : tO K mg hx W Φ o σ H Q' :=
  ⟨G, fp, rs, env, τ, s, SatR.mono (SatR.bind h) fun l τ' q H' G' s' fr => k l τ' H' G' s' fr (SatR.go p s' fr q)⟩
theorem s_sl {lo hi : Option Expr} {l h : Oe} {p2 : Pos} (ha : PE X x (eT X hx W Φ a)) (hl : PO X lo (tO X.K X.mg hx W Φ l)) (hh : PO X hi (tO X.K X.mg hx W Φ h)) : PE X (.Subscript x (.Slice lo hi none p2) pos) (eT X hx W Φ (.sl a l h)) := by
  refine PE.imp (pe_slice sl_all ha hl hh) fun σ H Q ⟨G, fp, rs, env, τ, s, q⟩ => ?_
  refine tE_look post_e s q fun d v τ' H' G' s' fr r q' => ?_
  refine tO_bind post_e s' q' fun l τ2 H2 G2 s2 f2 q2 => ?_
  refine tO_bind post_e s2 q2 fun h τ3 H3 G3 s3 f3 q3 => ?_
  obtain ⟨rv, e, q3⟩ := q3.of
  have g2 := s'.gle f2
  have g3 := s2.gle f3
  exact ⟨G3, d, rv, s3.now, (r.frame f2 g2).frame f3 g3, e, OkE.yld s3 q3⟩
end
end Vi
end
section
set_option Elab.async false
set_option linter.all false
set_option maxRecDepth 100000
set_option maxHeartbeats 1000000
/-! Vi10: calls of defs. -/
namespace Vi
open PySem PySem.Spec PyProof.Rows L2

def Es.take : Nat → Es → Es
  | 0, _ => .nil
  | _, .nil => .nil
  | n + 1, .cons e es => .cons e (es.take n)
def Es.drop : Nat → Es → Es
  | 0, es => es
  | _, .nil => .nil
  | n + 1, .cons _ es => es.drop n
theorem R.bind_assoc {α β γ : Type} (r : R α) (f : α → List D → R β) (g : β → List D → R γ) : (r.bind f).bind g = r.bind fun a τ => (f a τ).bind g := by cases r <;> rfl
theorem evalEs_split (Φ : Phi) : ∀ (n : Nat) (es : Es) (env : Env) (τ : List D), evalEs Φ es env τ = (evalEs Φ (es.take n) env τ).bind fun vs τ => (evalEs Φ (es.drop n) env τ).bind fun ws τ => .ok (vs ++ ws) τ
  | 0, es, env, τ => by
    have : ∀ r : R (List RV), r = r.bind fun ws τ => .ok ([] ++ ws) τ := fun r => by cases r <;> rfl
    show _ = (evalEs Φ .nil env τ).bind _
    rw [evalEs]
    exact this _
  | n + 1, .nil, env, τ => by
    show _ = (evalEs Φ .nil env τ).bind fun vs τ => (evalEs Φ .nil env τ).bind fun ws τ => .ok (vs ++ ws) τ
    simp only [evalEs]
    all_goals rfl
  | n + 1, .cons e es, env, τ => by
    show _ = (evalEs Φ (.cons e (es.take n)) env τ).bind fun vs τ => (evalEs Φ (es.drop n) env τ).bind fun ws τ => .ok (vs ++ ws) τ
    rw [evalEs, evalEs]
    rw [R.bind_assoc]
    congr 1
    funext v τ
    rw [evalEs_split Φ n es env τ]
    rw [R.bind_assoc, R.bind_assoc]
    congr 1
    funext vs τ
    rw [R.bind_assoc]
    show _ = (evalEs Φ (es.drop n) env τ).bind fun ws τ => .ok (v :: vs ++ ws) τ
    all_goals rfl
section
variable {X : Cx} {W : WX} {hx : Hx} {Φ : Phi} {k : Nat} {a b c : E} {x y z : Expr} {pos p : Pos} {n : Str}
theorem run_fnG {f : Addr} {fd : FuncData} {ps : List Str} {sp : Sp} {pins : List (Addr × Obj)} {σ : L2.St} {H : Hp} {s : Shared} {Q : VK} {us us2 : List Value} {kw : List (Str × Value)} {vs : List V} (c : Ctx Φ k X W) (F : FnG X.prog X.w X.K X.mg X.base k f fd ps sp) (hb : us2.length = ps.length → BindsTo s fd ⟨us, kw⟩ (ps.zip us2))
    (I : Inv X pins σ H s) (r : Vals vs us2) (h : sp vs H Q (WE W σ)) : wpAny (model X.prog X.w) X.A (call (.ref f) us kw) (EP X pins σ Q) X.xe s := by
  have hl : us2.length = ps.length := by rw [← r.length]; exact F.len _ _ _ _ h
  refine wpAny_call (codeAny_mono (F.run X.A X.stack s H ⟨us, kw⟩ us2 vs Q (WE W σ) c.room I.env0 (hb hl) r h) fun r s' hq => ?_)
  cases r with
  | error e => exact passAt c.tk σ pins H s e s' I hq
  | ok fl =>
    cases fl with
    | ret u => exact I.after hq
    | next => exact False.elim hq
    | brk => exact False.elim hq
    | cont => exact False.elim hq
/-- arguments as a callee's slots -/
theorem RVs.env {K : PySem.W.Frag} {mg : Str → Option Value} {lv : List Addr} {H : Hp} {G : Gs} : ∀ {f : List Addr} {rvs : List RV} {vs : List V}, RVs K mg lv H G f rvs vs → RE K mg none G lv H (rvs.map RV.slot) f (vs.map some)
  | _, [], _, ⟨e1, e2⟩ => ⟨e1, by rw [e2]; rfl⟩
  | _, rv :: rvs, _, ⟨f1, f2, v, t, ef, ev, r, rr⟩ => ⟨some v, t.map some, f1, f2, by rw [ev]; rfl, ef, by
    cases rv with
    | fz d => exact ⟨r.1, v, rfl, r.2⟩
    | own c => exact ⟨v, rfl, r⟩
    | ro c =>
      obtain ⟨e, g, h, m⟩ := r
      exact ⟨e, v, g, rfl, h, m⟩, rr.env⟩
theorem RFs.slots {K : PySem.W.Frag} {mg : Str → Option Value} {hx : Hx} {rs : List Addr} {H : Hp} {G : Gs} : ∀ {ds : List D} {vs : List V}, RFs K mg G ds vs → RE K mg hx G rs H (ds.map Slot.fz) [] (vs.map some)
  | [], _, h => ⟨rfl, by rw [show _ = [] from h]; rfl⟩
  | d :: ds, _, ⟨v, t, ev, r, rr⟩ => ⟨some v, t.map some, [], [], by rw [ev]; rfl, rfl, ⟨rfl, v, rfl, r⟩, rr.slots⟩
theorem RE.append {K : PySem.W.Frag} {mg : Str → Option Value} {hx : Hx} {rs : List Addr} {H : Hp} {G : Gs} : ∀ {e1 e2 : Env} {f1 f2 : List Addr} {σ1 σ2 : L2.St}, RE K mg hx G rs H e1 f1 σ1 → RE K mg hx G rs H e2 f2 σ2 → RE K mg hx G rs H (e1 ++ e2) (f1 ++ f2) (σ1 ++ σ2)
  | [], _, _, _, _, _, ⟨e1, e2⟩, h => by rw [e1, e2]; exact h
  | s :: env, _, _, _, _, _, ⟨o, r, f1, f2, es, ef, h, t⟩, h2 => ⟨o, r ++ _, f1, f2 ++ _, by rw [es]; rfl, by rw [ef, List.append_assoc], h, t.append h2⟩
/-- what a callee promises is what the caller wants -/
theorem call_sat {m : Sem} {K : PySem.W.Frag} {mg : Str → Option Value} {σ : L2.St} {H H' : Hp} {G G' : Gs} {fp rs f : List Addr} {env args : Env} {τ τ' : List D} {vs : List V} {Q : VK} {g : RV → List Slot → List D → R RV}
    (s : SR K mg hx H G fp rs σ env τ) (s' : SR K mg hx H' G' fp rs σ env τ') (fr : FrameE H G H' G') (n : Fresh H G' f) (re : RE K mg none G' (fp ++ rs) H' args f (vs.map some))
    (q : SatR K mg hx W H G fp rs σ env (match m args τ' with
      | .ok r o τ => g r o τ
      | .exc c fs _ τ => .exc c fs τ
      | .stuck => .stuck) (OkE K mg hx H G fp rs σ env Q))
    (hg : ∀ r o τ2 H2 G2 fp' f2 v, SR K mg hx H2 G2 fp rs σ env τ2 → FrameE H G H2 G2 → (∀ a ∈ fp', a ∈ f ∨ H' a = none) → SR K mg none H2 G2 fp' (fp ++ rs) (vs.map some) o τ2 → RVr K mg [] H2 G2 f2 r v → Fresh H G2 f2 → (∀ a ∈ f2, a ∉ fp') → SatR K mg hx W H G fp rs σ env (g r o τ2) (OkE K mg hx H G fp rs σ env Q) → Q v H2) :
    spOf K mg m vs H' Q (WE W σ) := by
  have out : ∀ a ∈ fp ++ rs, a ∉ f := fun a ha hf => by
    obtain ⟨o, e⟩ := s.liveAt a ha
    rw [n.new a hf] at e; cases e
  have frame : ∀ {H2 : Hp} {G2 : Gs}, FrameS f H' G' H2 G2 → ∀ a o, H a = some o → G.hd ≠ some a → Kept G H2 a o ∧ (isTupO o = false → G2.fr a = G.fr a) := fun {H2 G2} fs a o e hd => by
    obtain ⟨e1, g1⟩ := fr.keep a o e hd
    exact e1.trans g1 fun o' e' => fs.keep a o' e' (fun z => by rw [n.new a z] at e; cases e) (by rw [fr.hd]; exact hd)
  have frE : ∀ {H2 : Hp} {G2 : Gs}, FrameS f H' G' H2 G2 → FrameE H G H2 G2 := fun {H2 G2} fs => ⟨frame fs, fun a o e => fs.le a o (fr.le a o e), fs.hd.trans fr.hd⟩
  have th := s'.there' fr
  refine ⟨G', f, fp ++ rs, args, τ', ⟨s'.sub, n.nd, n.nf, s'.hand, fun h e z => n.ne h z e, fun a ha => ⟨out a ha, s'.live a ha, (s'.liveN a ha).2, s'.liveAt' a ha⟩, re⟩, ?_⟩
  unfold SatF
  cases e : m args τ' with
  | stuck => rw [e] at q; exact q
  | ok r o τ2 =>
    rw [e] at q
    intro v H2 G2 fp' f2 sr fs hsub rv nf
    exact hg r o τ2 H2 G2 fp' f2 v (s.next (frE fs) sr.sub sr.hand) (frE fs) hsub sr rv ⟨nf.nd, fun a ha => (nf.new a ha).elim (n.new a) (th a), nf.nf, nf.ne⟩ nf.off q
  | exc c fs o τ2 =>
    rw [e] at q
    intro C d ws H2 G2 fp' sr fS hsub em hd hw hr
    exact q C d ws H2 G2 (s.next (frE fS) sr.sub sr.hand) (frE fS) em (th d hd) hw hr
theorem s_call {xs : List Expr} {es : Es} (c : Ctx Φ k X W) (hg : Gl X n) (hdb : (n == ("__debug__" : Str)) = false) (ha : PA X (x :: xs) (aT X hx W Φ es)) (he : starEach (x :: xs) X.env = (false, eval x X.env) :: starEach xs X.env) (hpl : (backTo pos (starEach xs X.env)).any (·.1) = false) :
    PE X (.Call (.Name n p) (x :: xs) [] pos) (eT X hx W Φ (.call n es)) := by
  refine ⟨fun pins s0 σ H Q I ⟨G, fp, rs, env, τ, s, q⟩ => ?_⟩
  rw [evalE] at q
  cases e : Φ.fn n with
  | none => rw [e] at q; exact q.elim
  | some m =>
    rw [e] at q
    obtain ⟨f, fd, ps, hm, hk, F, hb⟩ := c.phi.fn n m e
    refine wpAny_Call_Name_kw (ld_glob I hg hm ?_ hdb)
    have h : aT X hx W Φ es σ H fun vs H1 => spOf X.K X.mg m vs H1 Q (WE W σ) := ⟨G, fp, rs, env, τ, s, SatR.mono (SatR.bind q) fun rvs τ' q vs H' G' f s' fr r n =>
      call_sat s s' fr n r.env (g := fun r _ τ => .ok r τ) q fun r o τ2 H2 G2 fp' f2 v s2 fr2 _ _ rv nf _ q => q v H2 G2 f2 s2 fr2 rv.weak nf⟩
    refine PySem.W.callWith_K (h₀ := X.base) I.ok.mod.kin hk (thn (ha.run pos pins s0 σ H _ I h) fun us s1 ⟨vs, H1, I1, r, q⟩ => ⟨I1.kIn, ?_⟩) he hpl
    refine run_fnG c F (fun hl => ?_) I1 r q
    have b := hb s1 us I1.kIn (by rw [List.append_nil]; exact hl)
    rw [List.append_nil] at b
    exact b
theorem s_call0 (c : Ctx Φ k X W) (hg : Gl X n) (hdb : (n == ("__debug__" : Str)) = false) : PE X (.Call (.Name n p) [] [] pos) (eT X hx W Φ (.call n .nil)) := by
  refine ⟨fun pins s0 σ H Q I ⟨G, fp, rs, env, τ, s, q⟩ => ?_⟩
  rw [evalE] at q
  cases e : Φ.fn n with
  | none => rw [e] at q; exact q.elim
  | some m =>
    rw [e] at q
    obtain ⟨f, fd, ps, hm, hk, F, hb⟩ := c.phi.fn n m e
    refine wpAny_Call_Name_kw (ld_glob I hg hm ?_ hdb)
    have h : spOf X.K X.mg m [] H Q (WE W σ) := call_sat (vs := []) (args := []) s s FrameE.refl Fresh.nil ⟨rfl, rfl⟩ (g := fun r _ τ => .ok r τ) q fun r o τ2 H2 G2 fp' f2 v s2 fr2 _ _ rv nf _ q => q v H2 G2 f2 s2 fr2 rv.weak nf
    refine PySem.W.callWith_K0 I.kIn hk ?_
    refine run_fnG (us := []) (us2 := []) c F (fun hl => ?_) I .nil h
    have b := hb s0 [] I.kIn (by rw [List.append_nil]; exact hl)
    rw [List.append_nil] at b
    exact b
abbrev PKs (X : Cx) (hx : Hx) (W : WX) (Φ : Phi) (kws : List Keyword) (es : Es) : Prop := PK X kws (aT X hx W Φ es)
theorem s_knil : PK X [] (aT X hx W Φ .nil) := ⟨fun pos pins s0 σ H Q I ⟨G, fp, rs, env, τ, s, q⟩ => pk_nil.run pos pins s0 σ H Q I (q [] H G [] s FrameE.refl ⟨rfl, rfl⟩ Fresh.nil)⟩
theorem s_kcons {kws : List Keyword} {es : Es} {nm : Option Str} {kpos : Pos} (ha : PE X x (eT X hx W Φ a)) (hr : PK X kws (aT X hx W Φ es)) : PK X (⟨nm, x, kpos⟩ :: kws) (aT X hx W Φ (.cons a es)) :=
  ⟨fun pos pins s0 σ H Q I q => (pk_cons ha hr).run pos pins s0 σ H Q I (cons_imp q)⟩
theorem RVs.frame {K : PySem.W.Frag} {mg : Str → Option Value} {lv : List Addr} {H H' : Hp} {G G' : Gs} (fr : FrameE H G H' G') (hl : ∀ a ∈ lv, G.hd ≠ some a ∧ G.fr a = none) : ∀ {f : List Addr} {rvs : List RV} {vs : List V}, (∀ a ∈ f, G.hd ≠ some a ∧ G.fr a = none) → RVs K mg lv H G f rvs vs → RVs K mg lv H' G' f rvs vs
  | _, [], _, _, h => h
  | _, rv :: rvs, _, n, ⟨f1, f2, v, t, ef, ev, r, rr⟩ => ⟨f1, f2, v, t, ef, ev, RVr.frame fr fr.gle (fun a ha => n a (by rw [ef]; exact List.mem_append_left _ ha)) hl r, RVs.frame fr hl (fun a ha => n a (by rw [ef]; exact List.mem_append_right _ ha)) rr⟩
theorem RVs.append {K : PySem.W.Frag} {mg : Str → Option Value} {lv : List Addr} {H : Hp} {G : Gs} : ∀ {f g : List Addr} {r1 r2 : List RV} {v1 v2 : List V}, RVs K mg lv H G f r1 v1 → RVs K mg lv H G g r2 v2 → RVs K mg lv H G (f ++ g) (r1 ++ r2) (v1 ++ v2)
  | _, _, [], _, _, _, ⟨e1, e2⟩, h => by rw [e1, e2]; exact h
  | _, _, rv :: rvs, _, _, _, ⟨f1, f2, v, t, ef, ev, r, rr⟩, h => ⟨f1, f2 ++ _, v, t ++ _, by rw [ef, List.append_assoc], by rw [ev]; rfl, r, rr.append h⟩
theorem RVs.there' {K : PySem.W.Frag} {mg : Str → Option Value} {lv : List Addr} {H : Hp} {G : Gs} : ∀ {f : List Addr} {rvs : List RV} {vs : List V}, RVs K mg lv H G f rvs vs → ∀ a ∈ f, ∃ o, H a = some o ∧ isTupO o = false
  | _, [], _, ⟨e, _⟩, a, ha => by rw [e] at ha; cases ha
  | _, rv :: rvs, _, ⟨f1, f2, v, t, ef, ev, r, rr⟩, a, ha => by
    rw [ef] at ha
    rcases List.mem_append.mp ha with z | z
    · exact r.there' a z
    · exact rr.there' a z
theorem callk_ta {K : PySem.W.Frag} {mg : Str → Option Value} {m : Sem} {es : Es} {np : Nat} {ds : List D} {dvs : List V} {σ : L2.St} {H : Hp} {G : Gs} {fp rs : List Addr} {env : Env} {τ : List D} {Q : VK} (s : SR K mg hx H G fp rs σ env τ) (hd : ∀ G, RFs K mg G ds dvs)
    (q : SatR K mg hx W H G fp rs σ env ((evalEs Φ es env τ).bind fun vs τ => match m (vs.map RV.slot ++ ds.map Slot.fz) τ with
        | .ok r _ τ => .ok r τ
        | .exc c fs _ τ => .exc c fs τ
        | .stuck => .stuck) (OkE K mg hx H G fp rs σ env Q)) :
    tA K mg hx W Φ (es.take np) σ H fun vs H1 => tA K mg hx W Φ (es.drop np) σ H1 fun ws H2 => spOf K mg m (vs ++ ws ++ dvs) H2 Q (WE W σ) := by
  rw [evalEs_split Φ np es env τ, R.bind_assoc] at q
  refine ⟨G, fp, rs, env, τ, s, SatR.mono (SatR.bind q) fun r1 τ1 q v1 H1 G1 f1 s1 fr1 rv1 n1 => ?_⟩
  rw [R.bind_assoc] at q
  have th1 := s1.there' fr1
  refine ⟨G1, fp, rs, env, τ1, s1, SatR.back fr1 th1 (SatR.bind q) fun r2 τ2 q v2 H2 G2 f2 s2 fr2 rv2 n2 => ?_⟩
  have rv1' := rv1.frame fr2 s1.liveN n1.neN
  have n : Fresh H G2 (f1 ++ f2) := n1.append (fun a ha => let ⟨o, e, _⟩ := rv1.there' a ha; ⟨o, e⟩) th1 n2 (fun a ha => by
    obtain ⟨o, e, t⟩ := rv1.there' a ha
    rw [(fr2.keep a o e (n1.ne a ha)).2 t]
    exact n1.nf a ha) fr2.hd
  have re : RE K mg none G2 (fp ++ rs) H2 ((r1 ++ r2).map RV.slot ++ ds.map Slot.fz) ((f1 ++ f2) ++ []) ((v1 ++ v2).map some ++ dvs.map some) := (rv1'.append rv2).env.append (hd G2).slots
  rw [List.append_nil, ← List.map_append] at re
  exact call_sat s s2 (fr1.trans fr2) n re (g := fun r _ τ => .ok r τ) q fun r o τ2 H2 G2 fp' f2 v s2 fr2 _ _ rv nf _ q => q v H2 G2 f2 s2 fr2 rv.weak nf
theorem vals_len {vs : List V} {us : List Value} (h : Vals vs us) : vs.length = us.length := h.length
/-- positional arguments, then keywords, then defaults -/
theorem s_callk {xs : List Expr} {kws : List Keyword} {es : Es} {np : Nat} {ks : List Str} (c : Ctx Φ k X W) (hg : Gl X n) (hdb : (n == ("__debug__" : Str)) = false) (ha : PA X (x :: xs) (aT X hx W Φ (es.take np))) (hk : PK X kws (aT X hx W Φ (es.drop np)))
    (hl1 : ∀ σ H Q, aT X hx W Φ (es.take np) σ H Q → aT X hx W Φ (es.take np) σ H fun vs H1 => vs.length = np ∧ Q vs H1) (hl2 : ∀ σ H Q, aT X hx W Φ (es.drop np) σ H Q → aT X hx W Φ (es.drop np) σ H fun vs H1 => vs.length = ks.length ∧ Q vs H1)
    (hall : (backToKw pos (keywordEach kws X.env)).all (·.1.isSome) = true) (hks : (backToKw pos (keywordEach kws X.env)).filterMap (·.1) = ks) (he : starEach (x :: xs) X.env = (false, eval x X.env) :: starEach xs X.env)
    (hpl : ((backTo pos (starEach (x :: xs) X.env)).any (·.1) || (backToKw pos (keywordEach kws X.env)).any (·.1.isNone)) = false) :
    PE X (.Call (.Name n p) (x :: xs) kws pos) (eT X hx W Φ (.callk n np ks es)) := by
  refine ⟨fun pins s0 σ H Q I ⟨G, fp, rs, env, τ, s, q⟩ => ?_⟩
  rw [evalE] at q
  cases e : Φ.fn n with
  | none => rw [e] at q; exact q.elim
  | some m =>
    rw [e] at q
    cases e2 : Φ.kw n np ks with
    | none => simp only [e2] at q; exact q.elim
    | some ds =>
      simp only [e2] at q
      obtain ⟨f, fd, ps, dv, dvs, hm, hkp, F, hv, hd, hb⟩ := c.phi.kw n np ks ds m e e2
      refine wpAny_Call_Name_kw (ld_glob I hg hm ?_ hdb)
      refine PySem.W.callWith_KW (h₀ := X.base) I.ok.mod.kin hkp hall (thn (ha.run pos pins s0 σ H _ I (hl1 _ _ _ (callk_ta s hd q))) fun us s1 ⟨vs, H1, I1, r, l1, q⟩ => ?_) hpl he
      refine thn (hk.run pos pins s1 σ H1 _ I1 (hl2 _ _ _ q)) fun ws s2 ⟨zs, H2, I2, rz, l2, q2⟩ => ⟨I2.kIn, ?_⟩
      rw [hks]
      refine run_fnG c F (fun hl => hb s2 us ws I2.kIn (by rw [← l1, r.length]) (by rw [← l2, rz.length]) hl) I2 ((r.append rz).append hv) q2
theorem s_callk0 {kws : List Keyword} {es : Es} {ks : List Str} (c : Ctx Φ k X W) (hg : Gl X n) (hdb : (n == ("__debug__" : Str)) = false) (hk : PK X kws (aT X hx W Φ es))
    (hl2 : ∀ σ H Q, aT X hx W Φ es σ H Q → aT X hx W Φ es σ H fun vs H1 => vs.length = ks.length ∧ Q vs H1)
    (hall : (backToKw pos (keywordEach kws X.env)).all (·.1.isSome) = true) (hks : (backToKw pos (keywordEach kws X.env)).filterMap (·.1) = ks)
    (hpl : ((backTo pos (starEach [] X.env)).any (·.1) || (backToKw pos (keywordEach kws X.env)).any (·.1.isNone)) = false) :
    PE X (.Call (.Name n p) [] kws pos) (eT X hx W Φ (.callk n 0 ks es)) := by
  refine ⟨fun pins s0 σ H Q I ⟨G, fp, rs, env, τ, s, q⟩ => ?_⟩
  rw [evalE] at q
  cases e : Φ.fn n with
  | none => rw [e] at q; exact q.elim
  | some m =>
    rw [e] at q
    cases e2 : Φ.kw n 0 ks with
    | none => simp only [e2] at q; exact q.elim
    | some ds =>
      simp only [e2] at q
      obtain ⟨f, fd, ps, dv, dvs, hm, hkp, F, hv, hd, hb⟩ := c.phi.kw n 0 ks ds m e e2
      refine wpAny_Call_Name_kw (ld_glob I hg hm ?_ hdb)
      have h1 : aT X hx W Φ es σ H fun ws H2 => spOf X.K X.mg m (ws ++ dvs) H2 Q (WE W σ) := by
        refine ⟨G, fp, rs, env, τ, s, SatR.mono (SatR.bind q) fun r1 τ1 q v1 H1 G1 f1 s1 fr1 rv1 n1 => ?_⟩
        have re : RE X.K X.mg none G1 (fp ++ rs) H1 (r1.map RV.slot ++ ds.map Slot.fz) (f1 ++ []) (v1.map some ++ dvs.map some) := rv1.env.append (hd G1).slots
        rw [List.append_nil, ← List.map_append] at re
        exact call_sat s s1 fr1 n1 re (g := fun r _ τ => .ok r τ) q fun r o τ2 H2 G2 fp' f2 v s2 fr2 _ _ rv nf _ q => q v H2 G2 f2 s2 fr2 rv.weak nf
      refine PySem.W.callWith_KW0 (h₀ := X.base) I.ok.mod.kin hkp hall ?_ hpl
      refine thn (hk.run pos pins s0 σ H _ I (hl2 _ _ _ h1)) fun ws s2 ⟨zs, H2, I2, rz, l2, q2⟩ => ⟨I2.kIn, ?_⟩
      rw [hks]
      refine run_fnG c F (fun hl => hb s2 [] ws I2.kIn rfl (by rw [← l2, rz.length]) hl) I2 (rz.append hv) q2
end
end Vi
end
section
set_option Elab.async false
set_option linter.all false
set_option maxRecDepth 100000
set_option maxHeartbeats 1000000
/-! Vi11: builtins by values. -/
namespace Vi
open PySem PySem.Spec PyProof.Rows L2

def RTs (K : PySem.W.Frag) (mg : Str → Option Value) (H : Hp) (G : Gs) : List D → List V → Prop
  | [], vs => vs = []
  | d :: ds, vs => ∃ v r, vs = v :: r ∧ RT K mg H G d v ∧ RTs K mg H G ds r
def rBi (K : PySem.W.Frag) (mg : Str → Option Value) (b : Bi) : List V → Hp → VK → Prop := fun xs H Q => ∃ G ds rv, Now H G ∧ RTs K mg H G ds xs ∧ biop b ds = some rv ∧ Yld K mg H G rv Q
section
variable {K : PySem.W.Frag} {mg : Str → Option Value} {H H' : Hp} {G G' : Gs}
theorem RVs.rts {lv : List Addr} (b : Sub G.fr H) (k : HdOk G H) (hl : ∀ a ∈ lv, G.hd ≠ some a) : ∀ {f : List Addr} {rvs : List RV} {vs : List V} {ds : List D}, RVs K mg lv H G f rvs vs → dsOf rvs = some ds → (∀ a ∈ f, G.hd ≠ some a) → RTs K mg H G ds vs
  | _, [], _, _, ⟨_, e⟩, h, _ => by cases h; exact e
  | f, rv :: rvs, _, ds, ⟨f1, f2, v, t, ef, ev, r, rr⟩, h, hf => by
    simp only [dsOf] at h
    cases h1 : rv.d with
    | none => rw [h1] at h; cases h
    | some d =>
      cases h2 : dsOf rvs with
      | none => rw [h1, h2] at h; cases h
      | some ds' =>
        rw [h1, h2] at h
        cases h
        exact ⟨v, t, ev, RVr.rt b k h1 r (fun a ha => hf a (by rw [ef]; exact List.mem_append_left _ ha)) hl, RVs.rts b k hl rr h2 fun a ha => hf a (by rw [ef]; exact List.mem_append_right _ ha)⟩
theorem StepP.tups {bs : List Addr} (b : Sub G.fr H) (h : ∀ a ∈ bs, ∃ vs, H a = some (.tup vs)) : StepP H G H (G.add H bs) :=
  ⟨fun a o e => ⟨.inl e, fun t => Gs.add_out fun z => by
    obtain ⟨vs, q⟩ := h a z
    rw [e] at q
    cases q
    cases t⟩, fun a o e => by
      by_cases ha : a ∈ bs
      · rw [Gs.add_in ha]
        obtain ⟨vs, q⟩ := h a ha
        rcases b a o e with z | ⟨_, ob, z⟩
        · exact z
        · rw [q] at z; cases z
      · rw [Gs.add_out ha]; exact e, rfl, fun a o e => by
      by_cases ha : a ∈ bs
      · rw [Gs.add_in ha] at e; exact .inl e
      · rw [Gs.add_out ha] at e; exact b a o e⟩
theorem Now.step (n : Now H G) (p : StepP H G H' G') : Now H' G' := ⟨p.sub, fun h e => by
  rw [p.hd] at e
  obtain ⟨⟨o, z, t⟩, f⟩ := n.hd h e
  exact ⟨⟨o, (p.keep h o z).1.none f, t⟩, by rw [(p.keep h o z).2 t]; exact f⟩⟩
theorem Yld.next {rv : RV} {Q : VK} (q : Yld K mg H G rv Q) (n : Now H G) (p : StepP H G H' G') (hn : ∀ d, H' d = none → H d = none) : Yld K mg H' G' rv Q := fun v H2 G2 f p2 r fr => q v H2 G2 f (p.trans p2) r (fr.back hn)
theorem seqInts : ∀ {xs : List D} {ns : List Int} {vs : List V}, intsOf xs = some ns → RFs K mg G xs vs → vs = ns.map V.int
  | [], _, _, e, h => by cases e; exact h
  | .int i :: xs, ns, _, e, ⟨v, t, ev, r, rr⟩ => by
    simp only [intsOf] at e
    cases h : intsOf xs with
    | none => rw [h] at e; cases e
    | some ms =>
      rw [h] at e
      cases e
      rw [ev, seqInts h rr, show v = _ from r]
      rfl
  | .non :: _, _, _, e, _ => by cases e
  | .bl _ :: _, _, _, e, _ => by cases e
  | .str _ :: _, _, _, e, _ => by cases e
  | .tup _ :: _, _, _, e, _ => by cases e
  | .lst _ :: _, _, _, e, _ => by cases e
  | .dK _ :: _, _, _, e, _ => by cases e
  | .dT _ :: _, _, _, e, _ => by cases e
  | .ins _ _ :: _, _, _, e, _ => by cases e
  | .hand :: _, _, _, e, _ => by cases e
  | .scr _ :: _, _, _, e, _ => by cases e
  | .ktup _ :: _, _, _, e, _ => by cases e
  | .ptup _ :: _, _, _, e, _ => by cases e
theorem seqBls : ∀ {xs : List D} {ns : List Bool} {vs : List V}, blsOf xs = some ns → RFs K mg G xs vs → vs = ns.map V.bl
  | [], _, _, e, h => by cases e; exact h
  | .bl i :: xs, ns, _, e, ⟨v, t, ev, r, rr⟩ => by
    simp only [blsOf] at e
    cases h : blsOf xs with
    | none => rw [h] at e; cases e
    | some ms =>
      rw [h] at e
      cases e
      rw [ev, seqBls h rr, show v = _ from r]
      rfl
  | .non :: _, _, _, e, _ => by cases e
  | .int _ :: _, _, _, e, _ => by cases e
  | .str _ :: _, _, _, e, _ => by cases e
  | .tup _ :: _, _, _, e, _ => by cases e
  | .lst _ :: _, _, _, e, _ => by cases e
  | .dK _ :: _, _, _, e, _ => by cases e
  | .dT _ :: _, _, _, e, _ => by cases e
  | .ins _ _ :: _, _, _, e, _ => by cases e
  | .hand :: _, _, _, e, _ => by cases e
  | .scr _ :: _, _, _, e, _ => by cases e
  | .ktup _ :: _, _, _, e, _ => by cases e
  | .ptup _ :: _, _, _, e, _ => by cases e
/-- a sequence that is looked at -/
theorem RT.seq (n : Now H G) {d : D} {v : V} {xs : List D} (h : RT K mg H G d v) (e : seqOf d = some xs) : ∃ a vs, v = .ref a ∧ RFs K mg G xs vs ∧ ((SqL K H a vs ∧ d = .lst xs) ∨ SqT K H a vs) := by
  cases d <;> first | (cases e; done) | skip
  · cases e
    obtain ⟨a, vs, ev, h, r⟩ := h
    exact ⟨a, vs, ev, r, .inr (.inl (n.sub.rd h))⟩
  · cases e
    obtain ⟨a, vs, ev, h, r⟩ := h
    exact ⟨a, vs, ev, r, .inl ⟨.inl (.inl h.1), rfl⟩⟩
  · cases e
    obtain ⟨a, vs, ev, h, r⟩ := h
    exact ⟨a, vs, ev, r, .inr (TQ.sq (G := G) (.inr h))⟩
  · cases e
    obtain ⟨a, vs, ev, ⟨ob, _, h⟩, r⟩ := h
    exact ⟨a, vs, ev, r, .inr (.inl (n.sub.rd2 rfl (.inr ⟨ob, h⟩)))⟩
end
section
variable {X : Cx}
/-- len -/
theorem len_dT {pins : List (Addr × Obj)} {σ : L2.St} {H : Hp} {s : Shared} {p : Addr} {kvs : List (List Key × V)} {Q : Value → Shared → Prop} {E : Value → Shared → Prop} (I : Inv X pins σ H s) (hp : Rd H p (.dT kvs)) (h : ∀ t s', Inv X pins σ H s' → Q (.int kvs.length t) s') : wpAny (model X.prog X.w) X.A (call (.builtin "len") [.ref p]) Q E s := by
  obtain ⟨z, hd, ys, rel, dd⟩ := dt_rd I.hok hp
  have hl : kvs.length = ys.length := Paired.length rel
  refine PySem.call_len_dictH hd dd (by rw [← hl]; rw [sizeLine_eq] at z; omega) ?_
  rw [← hl]
  exact h _ _ (I.tok _)
theorem RFk.length {K : PySem.W.Frag} {mg : Str → Option Value} {G : Gs} : ∀ {kvs : List (Key × D)} {ws : List (Key × V)}, RFk K mg G kvs ws → ws.length = kvs.length
  | [], _, h => by rw [show _ = [] from h]; rfl
  | (_, _) :: _, _, ⟨v, r, e, _, t⟩ => by rw [e, List.length_cons, List.length_cons, RFk.length t]
theorem RFt.length {K : PySem.W.Frag} {mg : Str → Option Value} {G : Gs} : ∀ {kvs : List (List Key × D)} {ws : List (List Key × V)}, RFt K mg G kvs ws → ws.length = kvs.length
  | [], _, h => by rw [show _ = [] from h]; rfl
  | (_, _) :: _, _, ⟨v, r, e, _, t⟩ => by rw [e, List.length_cons, List.length_cons, RFt.length t]
theorem bi_len : CallR X (.builtin "len") (rBi X.K X.mg .len) := by
  intro pins s σ H xs us Q I r h
  obtain ⟨G, ds, rv, n, rt, e, q⟩ := h
  match ds, rt, e with
  | [], _, e => cases e
  | d :: e1 :: es, _, e => cases d <;> cases e
  | [d], ⟨v, t, ev, rt1, et⟩, e =>
    subst ev
    rw [show t = [] from et] at r
    have rt : RT X.K X.mg H G d v := rt1
    have seq : ∀ ds, seqOf d = some ds → rv = .fz (.int ds.length) → wpAny (model X.prog X.w) X.A (call (.builtin "len") us) (EP X pins σ Q) X.xe s := fun ds e1 e2 => by
      subst e2
      obtain ⟨a, vs, rfl, rs, h⟩ := rt.seq n e1
      have hh : SqL X.K H a vs ∨ SqT X.K H a vs := h.elim (fun z => .inl z.1) fun z => .inr z
      exact call_len_seq pins s σ H _ us Q I r ⟨a, vs, rfl, hh, by rw [rs.length]; exact q.fz n rfl⟩
    cases d with
    | tup ys => cases e; exact seq ys rfl rfl
    | lst ys => cases e; exact seq ys rfl rfl
    | ktup ys => cases e; exact seq ys rfl rfl
    | ptup ys => cases e; exact seq ys rfl rfl
    | scr ns =>
      cases e
      obtain ⟨a, rfl, h⟩ := rt
      exact call_len_seq pins s σ H _ us Q I r ⟨a, _, rfl, .inl h.sq, by rw [List.length_map]; exact q.fz n rfl⟩
    | dK kvs =>
      cases e
      obtain ⟨a, ws, rfl, ⟨h, _⟩, rr⟩ := rt
      obtain ⟨u, rfl, ru⟩ := vals1 r
      cases ru
      exact d_len I h fun t s' I' => ⟨.int ws.length, H, I', ⟨t, rfl⟩, by rw [rr.length]; exact q.fz n rfl⟩
    | dT kvs =>
      cases e
      obtain ⟨a, ws, rfl, ⟨h, _⟩, rr⟩ := rt
      obtain ⟨u, rfl, ru⟩ := vals1 r
      cases ru
      exact len_dT I h fun t s' I' => ⟨.int ws.length, H, I', ⟨t, rfl⟩, by rw [rr.length]; exact q.fz n rfl⟩
    | str y =>
      simp only [biop] at e
      split at e
      · rename_i hl
        cases e
        cases (show v = _ from rt)
        exact call_len_str pins s σ H _ us Q I r ⟨y, rfl, lim_line hl, q.fz n rfl⟩
      · cases e
    | non => cases e
    | bl b => cases e
    | int i => cases e
    | ins c fs => cases e
    | hand => cases e
theorem bi_tuple : CallR X (.type "tuple") (rBi X.K X.mg .tuple) := by
  intro pins s σ H xs us Q I r h
  obtain ⟨G, ds, rv, n, rt, e, q⟩ := h
  match ds, rt, e with
  | [], _, e => cases e
  | d :: e1 :: es, _, e => cases d <;> cases e
  | [d], ⟨v, t, ev, rt1, et⟩, e =>
    subst ev
    rw [show t = [] from et] at r
    have rt : RT X.K X.mg H G d v := rt1
    cases d with
    | tup ys =>
      cases e
      have rt0 := rt
      obtain ⟨a, vs, rfl, h, rr⟩ := rt
      exact call_tuple_of pins s σ H _ us Q I r ⟨a, vs, rfl, .inr ⟨.inl (n.sub.rd h), q.fz n rt0⟩⟩
    | ktup ys =>
      cases e
      have rt0 := rt
      obtain ⟨a, vs, rfl, h, rr⟩ := rt
      exact call_tuple_of pins s σ H _ us Q I r ⟨a, vs, rfl, .inr ⟨TQ.sq (G := G) (.inr h), q.fz n rt0⟩⟩
    | ptup ys =>
      cases e
      have rt0 := rt
      obtain ⟨a, vs, rfl, ⟨ob, _, h⟩, rr⟩ := rt
      exact call_tuple_of pins s σ H _ us Q I r ⟨a, vs, rfl, .inr ⟨.inl (n.sub.rd2 rfl (.inr ⟨ob, h⟩)), q.fz n rt0⟩⟩
    | lst ys =>
      cases e
      obtain ⟨a, vs, rfl, h, rr⟩ := rt
      exact call_tuple_of pins s σ H _ us Q I r ⟨a, vs, rfl, .inl ⟨.inl (.inl h.1), fun p hp => q.newT n rr p hp⟩⟩
    | non => cases e
    | bl b => cases e
    | int i => cases e
    | str y => cases e
    | ins c fs => cases e
    | hand => cases e
    | scr _ => cases e
    | dK _ => cases e
    | dT _ => cases e
theorem RFk.keys {K : PySem.W.Frag} {mg : Str → Option Value} {G : Gs} : ∀ {kvs : List (Key × D)} {ws : List (Key × V)}, RFk K mg G kvs ws → RFs K mg G (kvs.map fun kv => kD kv.1) (ws.map fun kv => kV kv.1)
  | [], _, h => by rw [show _ = [] from h]; rfl
  | (k, _) :: _, _, ⟨v, r, e, _, t⟩ => by
    rw [e]
    refine ⟨kV k, _, rfl, ?_, RFk.keys t⟩
    cases k <;> rfl
theorem RFs.ks {K : PySem.W.Frag} {mg : Str → Option Value} {G : Gs} : ∀ ks : List Key, RFs K mg G (ks.map kD) (ks.map kV)
  | [] => rfl
  | k :: ks => ⟨kV k, _, rfl, by cases k <;> rfl, RFs.ks ks⟩
theorem isKeys_at {H : Hp} : ∀ {ws : List (List Key × V)} {bs : List Addr}, IsKeys H ws bs → ∀ a ∈ bs, ∃ vs, H a = some (.tup vs)
  | _, _, .nil, a, ha => by cases ha
  | _, _, .cons h t, a, ha => by
    rcases List.mem_cons.mp ha with rfl | z
    · exact ⟨_, h⟩
    · exact isKeys_at t a z
theorem RFt.keys {K : PySem.W.Frag} {mg : Str → Option Value} {G G' : Gs} {H : Hp} : ∀ {kvs : List (List Key × D)} {ws : List (List Key × V)} {bs : List Addr}, RFt K mg G kvs ws → IsKeys H ws bs → (∀ a ∈ bs, G'.fr a = H a) → RFs K mg G' (kvs.map fun kv => ksD kv.1) (bs.map V.ref)
  | [], _, _, h, hk, _ => by
    rw [show _ = [] from h] at hk
    cases hk
    rfl
  | (k, _) :: _, _, _, ⟨v, r, e, _, t⟩, hk, hg => by
    rw [e] at hk
    cases hk with
    | cons h1 h2 =>
      exact ⟨_, _, rfl, ⟨_, _, rfl, (hg _ List.mem_cons_self).trans h1, RFs.ks k⟩, RFt.keys t h2 fun a ha => hg a (List.mem_cons_of_mem _ ha)⟩
theorem bi_list (hc : X.calm = true) : CallR X (.type "list") (rBi X.K X.mg .list) := by
  intro pins s σ H xs us Q I r h
  obtain ⟨G, ds, rv, n, rt, e, q⟩ := h
  match ds, rt, e with
  | [], _, e => cases e
  | d :: e1 :: es, _, e => cases d <;> cases e
  | [d], ⟨v, t, ev, rt1, et⟩, e =>
    subst ev
    rw [show t = [] from et] at r
    have rt : RT X.K X.mg H G d v := rt1
    have seq : ∀ ds, seqOf d = some ds → rv = .own (.lst ds) → wpAny (model X.prog X.w) X.A (call (.type "list") us) (EP X pins σ Q) X.xe s := fun ds e1 e2 => by
      subst e2
      obtain ⟨a, vs, rfl, rs, h⟩ := rt.seq n e1
      have hh : SqL X.K H a vs ∨ SqT X.K H a vs := h.elim (fun z => .inl z.1) fun z => .inr z
      exact call_list_of pins s σ H _ us Q I r ⟨a, vs, rfl, hh, fun p hp => q.newL n rs p hp⟩
    cases d with
    | tup ys => cases e; exact seq ys rfl rfl
    | lst ys => cases e; exact seq ys rfl rfl
    | ktup ys => cases e; exact seq ys rfl rfl
    | ptup ys => cases e; exact seq ys rfl rfl
    | dK kvs =>
      cases e
      obtain ⟨a, ws, rfl, ⟨h, _⟩, rr⟩ := rt
      exact call_listD hc pins s σ H _ us Q I r ⟨a, ws, rfl, h, fun p hp => q.newL n rr.keys p hp⟩
    | dT kvs =>
      cases e
      obtain ⟨a, ws, rfl, ⟨h, _⟩, rr⟩ := rt
      refine call_list_dT hc pins s σ H _ us Q I r ⟨a, ws, rfl, h, fun p bs hp hk => ?_⟩
      have st := StepP.tups n.sub (isKeys_at hk)
      exact (q.next n st fun d e => e).newL (n.step st) (RFt.keys rr hk fun a ha => Gs.add_in ha) p hp
    | non => cases e
    | bl b => cases e
    | int i => cases e
    | str y => cases e
    | ins c fs => cases e
    | hand => cases e
    | scr _ => cases e
section
variable {prog : Program} {w : World} {A : Around} {E : Value → Shared → Prop} {s : Shared} {l : Addr} {its : List Value} {ns : List Int} {Q : Value → Shared → Prop}
theorem sum_rawT (hh : A.handled = none) (hl : s.heap.IsTuple l its.toArray) (hi : IntsAre its ns)
    (h : ∀ h' tk t', (∀ b o, s.heap.get? b = some o → h'.get? b = some o) → Q (.int ns.sum t') { s with heap := h', toks := tk }) : wpAny (model prog w) A (call (.builtin "sum") [.ref l]) Q E s := by
  obtain ⟨xs, e⟩ := hi.allInts.items
  have hn : numsOf (intItems xs).toList = ns := by rw [← e]; exact hi.numsOf
  rw [PySem.nums_intItems] at hn
  rw [e] at hl
  have hlt : l < s.heap.objs.size := by obtain ⟨_, e, _⟩ := hl; exact Heap.lt_size e
  refine PySem.call_sum_walkG (wpAny_pyIter_tuple hl ?_)
  refine ⟨_, _, _, _, _, _, numAt xs, rfl, Walks.tuple (A := A.in1) hh _ l (Nat.ne_of_lt hlt) (intItems xs), ⟨⟨_, Heap.get?_push_size _ rfl, rfl, rfl⟩, hl.push _⟩, fun b hb => ?_, (fun _ _ => intItems_at), fun h' tk t' hk => ?_⟩
  · show b < (s.heap.push _).objs.size
    rw [Heap.size_push]
    rcases List.mem_cons.mp hb with rfl | hb
    · exact Nat.lt_succ_self _
    · rcases List.mem_cons.mp hb with rfl | hb
      · exact Nat.lt_succ_of_lt hlt
      · cases hb
  · have := h h' tk t' fun b o e => hk b o (fun hm => by
      rcases List.mem_cons.mp hm with e1 | hm
      · exact absurd (e1 ▸ Heap.lt_size e) (Nat.lt_irrefl _)
      · cases hm) (Heap.get?_push_of_some _ e)
    rw [show (intItems xs).size = xs.size by simp [intItems], preSum_eq, List.take_of_length_le (by simp), hn]
    exact this
end
theorem bi_sum (hc : X.calm = true) : CallR X (.builtin "sum") (rBi X.K X.mg .sum) := by
  intro pins s σ H xs us Q I r h
  obtain ⟨G, ds, rv, n, rt, e, q⟩ := h
  match ds, rt, e with
  | [], _, e => cases e
  | d :: e1 :: es, _, e => cases d <;> cases e
  | [d], ⟨v, t, ev, rt1, et⟩, e =>
    subst ev
    rw [show t = [] from et] at r
    have rt : RT X.K X.mg H G d v := rt1
    have e : (seqOf d).bind (fun xs => (intsOf xs).map fun ns => RV.fz (.int ns.sum)) = some rv := by cases d <;> exact e
    cases e1 : seqOf d with
    | none => rw [e1] at e; cases e
    | some xs =>
      cases e2 : intsOf xs with
      | none => rw [e1] at e; simp [e2] at e
      | some ns =>
        rw [e1] at e
        simp [e2] at e
        subst e
        obtain ⟨a, vs, rfl, rs, h⟩ := rt.seq n e1
        have ev := seqInts e2 rs
        subst ev
        rcases h with ⟨h, _⟩ | h
        · exact cr_sum hc pins s σ H _ us Q I r ⟨a, ns, rfl, h, q.fz n rfl⟩
        · obtain ⟨its, rv, hl, _⟩ := I.tuple h
          rw [Vals.ref1 r]
          exact sum_rawT (I.ok.hd hc) hl rv.ints fun h' tk t' hk => ⟨.int _, H, I.kept hk, ⟨_, rfl⟩, q.fz n rfl⟩
theorem bi_all (hc : X.calm = true) : CallR X (.builtin "all") (rBi X.K X.mg .all) := by
  intro pins s σ H xs us Q I r h
  obtain ⟨G, ds, rv, n, rt, e, q⟩ := h
  match ds, rt, e with
  | [], _, e => cases e
  | d :: e1 :: es, _, e => cases d <;> cases e
  | [d], ⟨v, t, ev, rt1, et⟩, e =>
    subst ev
    rw [show t = [] from et] at r
    cases d <;> first | (cases e; done) | skip
    rename_i ys
    obtain ⟨a, vs, rfl, h, rr⟩ := rt1
    cases e2 : blsOf ys with
    | none => simp [biop, e2] at e
    | some bs =>
      simp only [biop, e2, Option.map_some] at e
      cases e
      have ev := seqBls e2 rr
      subst ev
      exact cr_all hc pins s σ H _ us Q I r ⟨a, bs, rfl, .inl (.inl h.1), q.fz n rfl⟩
theorem reads_int {h : Heap} {v : Value} {k : Int} {bs : List Addr} (r : Reads h v (.int k) bs) : RelV (.int k) v := by cases r; exact ⟨_, rfl⟩
theorem readsAll_ints {h : Heap} : ∀ {its : List Value} {ns : List Int}, IntsAre its ns → ∃ as, ReadsAll h its (ns.map PyData.int) as
  | _, _, .nil => ⟨_, .nil⟩
  | _, _, .cons n t r => let ⟨as, q⟩ := readsAll_ints r; ⟨_, .cons (.int n t) q⟩
theorem alike_ints' (ns : List Int) : PySem.W.AlikeAll (ns.map PyData.int) := by
  refine ⟨fun a ha b hb => ?_, fun a ha => ?_⟩
  · obtain ⟨i, _, rfl⟩ := List.mem_map.mp ha
    obtain ⟨j, _, rfl⟩ := List.mem_map.mp hb
    rfl
  · obtain ⟨i, _, rfl⟩ := List.mem_map.mp ha
    exact fun e => nomatch e
theorem best_seq (hc : X.calm = true) {pins : List (Addr × Obj)} {σ : L2.St} {H : Hp} {s : Shared} {G : Gs} {d : D} {v : V} {us : List Value} {Q : VK} {xs : List D} {ns : List Int} {m : Int} (hi : X.A.units + 200 < cLine) (I : Inv X pins σ H s) (r : Vals [v] us) (n : Now H G) (rt : RT X.K X.mg H G d v) (e1 : seqOf d = some xs) (e2 : intsOf xs = some ns) (ne : ns ≠ []) :
    (m = leastI ns → Q (.int m) H → wpAny (model X.prog X.w) X.A (call (.builtin "min") us) (EP X pins σ Q) X.xe s) ∧ (m = greatestI ns → Q (.int m) H → wpAny (model X.prog X.w) X.A (call (.builtin "max") us) (EP X pins σ Q) X.xe s) := by
  obtain ⟨a, vs, rfl, rs, h⟩ := rt.seq n e1
  have ev := seqInts e2 rs
  subst ev
  rw [Vals.ref1 r]
  have dep := PySem.W.depth_ints ns
  cases ns with
  | nil => exact absurd rfl ne
  | cons x rest =>
    have mk : ∀ {l : List Value}, IntsAre l (x :: rest) → ∃ as, ReadsAll s.heap l.toArray.toList (.int x :: rest.map PyData.int) as := fun hi => by
      obtain ⟨as, ra⟩ := readsAll_ints (h := s.heap) hi
      exact ⟨as, by simpa using ra⟩
    have hd : X.A.units + 1 + PyData.depthAll (.int x :: rest.map PyData.int) < cLine := by
      have : PyData.depthAll (.int x :: rest.map PyData.int) = 0 := dep
      rw [this]; omega
    have al : PySem.W.AlikeAll (.int x :: rest.map PyData.int) := alike_ints' (x :: rest)
    have fin : ∀ {k : Int} {v : Value} {h' : Heap} {tk : Nat} {bs : List Addr}, Reads h' v (.int k) bs → (∀ b o, s.heap.get? b = some o → h'.get? b = some o) → Q (.int k) H → EP X pins σ Q v { s with heap := h', toks := tk } := fun {k v h' tk bs} rd kp q => ⟨.int k, H, I.kept kp, reads_int rd, q⟩
    rcases h with ⟨h, _⟩ | h
    · obtain ⟨its, rv, hl, _⟩ := I.list h
      obtain ⟨as, ra⟩ := mk rv.ints
      refine ⟨fun e q => ?_, fun e q => ?_⟩
      · refine PySem.W.min_list_data (I.ok.hd hc) hl.isList ra al hd fun i v h' tk bs _ rd kp => ?_
        rw [PySem.W.minD_ints] at rd
        exact fin rd kp (by rw [e] at q; exact q)
      · refine PySem.W.max_list_data (I.ok.hd hc) hl.isList ra al hd fun i v h' tk bs _ rd kp => ?_
        rw [PySem.W.maxD_ints] at rd
        exact fin rd kp (by rw [e] at q; exact q)
    · obtain ⟨its, rv, hl, _⟩ := I.tuple h
      obtain ⟨as, ra⟩ := mk rv.ints
      refine ⟨fun e q => ?_, fun e q => ?_⟩
      · refine PySem.W.min_tuple_data (I.ok.hd hc) hl ra al hd fun i v h' tk bs _ rd kp => ?_
        rw [PySem.W.minD_ints] at rd
        exact fin rd kp (by rw [e] at q; exact q)
      · refine PySem.W.max_tuple_data (I.ok.hd hc) hl ra al hd fun i v h' tk bs _ rd kp => ?_
        rw [PySem.W.maxD_ints] at rd
        exact fin rd kp (by rw [e] at q; exact q)
theorem two_int {K : PySem.W.Frag} {mg : Str → Option Value} {H : Hp} {G : Gs} {a b : Int} {xs : List V} (h : RTs K mg H G [.int a, .int b] xs) : xs = [.int a, .int b] := by
  obtain ⟨v, r, e, h1, v2, r2, e2, h2, e3⟩ := h
  rw [e, e2, e3, show v = _ from h1, show v2 = _ from h2]
theorem bi_minmax (hc : X.calm = true) (hu : X.A.units + 200 < cLine) : CallR X (.builtin "min") (rBi X.K X.mg .min) ∧ CallR X (.builtin "max") (rBi X.K X.mg .max) := by
  have one : ∀ (f : List Int → Int) {d : D} {rv : RV}, ((seqOf d).bind fun xs => (intsOf xs).bind fun ns => if ns = [] then none else some (RV.fz (.int (f ns)))) = some rv → ∃ xs ns, seqOf d = some xs ∧ intsOf xs = some ns ∧ ns ≠ [] ∧ rv = .fz (.int (f ns)) := fun f {d rv} e => by
    cases e1 : seqOf d with
    | none => rw [e1] at e; cases e
    | some xs =>
      rw [e1] at e
      cases e2 : intsOf xs with
      | none => simp [e2] at e
      | some ns =>
        simp only [Option.bind_some, e2] at e
        split at e
        · cases e
        · rename_i hne
          cases e
          exact ⟨xs, ns, rfl, e2, hne, rfl⟩
  refine ⟨?_, ?_⟩
  · intro pins s σ H xs us Q I r h
    obtain ⟨G, ds, rv, n, rt, e, q⟩ := h
    match ds, rt, e with
    | [], _, e => cases e
    | [d], ⟨v, t, ev, rt1, et⟩, e =>
      subst ev
      rw [show t = [] from et] at r
      have e : ((seqOf d).bind fun xs => (intsOf xs).bind fun ns => if ns = [] then none else some (RV.fz (.int (leastI ns)))) = some rv := by cases d <;> exact e
      obtain ⟨xs, ns, e1, e2, hne, rfl⟩ := one leastI e
      exact (best_seq (m := leastI ns) hc hu I r n rt1 e1 e2 hne).1 rfl (q.fz n rfl)
    | [a, b], rt, e =>
      cases a <;> cases b <;> first | (cases e; done) | skip
      rename_i i j
      cases e
      rw [two_int rt] at r
      refine call_min2 hc pins s σ H _ us Q I r ⟨i, j, rfl, ?_⟩
      have : (if j < i then j else i) = min i j := by omega
      rw [this]
      exact q.fz n rfl
    | a :: b :: c :: r, _, e => cases a <;> cases b <;> cases e
  · intro pins s σ H xs us Q I r h
    obtain ⟨G, ds, rv, n, rt, e, q⟩ := h
    match ds, rt, e with
    | [], _, e => cases e
    | [d], ⟨v, t, ev, rt1, et⟩, e =>
      subst ev
      rw [show t = [] from et] at r
      have e : ((seqOf d).bind fun xs => (intsOf xs).bind fun ns => if ns = [] then none else some (RV.fz (.int (greatestI ns)))) = some rv := by cases d <;> exact e
      obtain ⟨xs, ns, e1, e2, hne, rfl⟩ := one greatestI e
      exact (best_seq (m := greatestI ns) hc hu I r n rt1 e1 e2 hne).2 rfl (q.fz n rfl)
    | [a, b], rt, e =>
      cases a <;> cases b <;> first | (cases e; done) | skip
      rename_i i j
      cases e
      rw [two_int rt] at r
      refine call_max2 hc pins s σ H _ us Q I r ⟨i, j, rfl, ?_⟩
      have : (if j > i then j else i) = max i j := by omega
      rw [this]
      exact q.fz n rfl
    | a :: b :: c :: r, _, e => cases a <;> cases b <;> cases e
theorem bi_abs : CallR X (.builtin "abs") (rBi X.K X.mg .abs) := by
  intro pins s σ H xs us Q I r h
  obtain ⟨G, ds, rv, n, rt, e, q⟩ := h
  match ds, rt, e with
  | [], _, e => cases e
  | d :: e1 :: es, _, e => cases d <;> cases e
  | [d], ⟨v, t, ev, rt1, et⟩, e =>
    subst ev
    rw [show t = [] from et] at r
    cases d <;> first | (cases e; done) | skip
    rename_i i
    cases e
    cases (show v = _ from rt1)
    exact call_abs pins s σ H _ us Q I r ⟨i, rfl, q.fz n rfl⟩
theorem bi_int : CallR X (.type "int") (rBi X.K X.mg .int) := by
  intro pins s σ H xs us Q I r h
  obtain ⟨G, ds, rv, n, rt, e, q⟩ := h
  match ds, rt, e with
  | [], _, e => cases e
  | d :: e1 :: es, _, e => cases d <;> cases e
  | [d], ⟨v, t, ev, rt1, et⟩, e =>
    subst ev
    rw [show t = [] from et] at r
    cases d <;> first | (cases e; done) | skip
    · rename_i b
      cases e
      cases (show v = _ from rt1)
      exact call_int1 pins s σ H _ us Q I r (.inr ⟨b, rfl, q.fz n rfl⟩)
    · rename_i i
      cases e
      cases (show v = _ from rt1)
      exact call_int1 pins s σ H _ us Q I r (.inl ⟨i, rfl, q.fz n rfl⟩)
theorem RFs.up {K : PySem.W.Frag} {mg : Str → Option Value} {G : Gs} {H : Hp} {p : Addr} {o : HO} {ds : List D} {vs : List V} (n : Now H G) (hp : H p = none) (r : RFs K mg G ds vs) : RFs K mg (G.add (upd H p o) [p]) ds vs :=
  RFs.mono (Gs.le_add fun a ha => (Fresh.one n.sub n.hd hp).nf a ha) r
theorem bi_ptuple : CallR X (.type "tuple") (rBi X.K X.mg .ptuple) := by
  intro pins s σ H xs us Q I r h
  obtain ⟨G, ds, rv, n, rt, e, q⟩ := h
  match ds, rt, e with
  | [], _, e => cases e
  | d :: e1 :: es, _, e => cases d <;> cases e
  | [d], ⟨v, t, ev, rt1, et⟩, e =>
    subst ev
    rw [show t = [] from et] at r
    have rt : RT X.K X.mg H G d v := rt1
    cases d <;> first | (cases e; done) | skip
    · rename_i ys
      cases e
      obtain ⟨a, vs, rfl, h, rr⟩ := rt
      obtain ⟨u, rfl, rx⟩ := vals1 r
      cases rx
      obtain ⟨its, r', pl, hz⟩ := I.list (.inl (.inl h.1))
      have hlen := r'.length
      refine call_tuple_list pl.isList (fun h' kp => ?_) (by simp only [List.size_toArray]; omega)
      have I1 : Inv X pins σ H { s with heap := h' } := I.kept (t' := s.toks) kp
      have hp : H h'.objs.size = none := I1.hok.fresh (Nat.le_refl _)
      have I2 : Inv X pins σ (upd H h'.objs.size (.frz { cls := .type "tuple", data := .seq its.toArray } (.tup vs))) { s with heap := h'.push { cls := .type "tuple", data := .seq its.toArray } } :=
        I1.laid (t' := s.toks) (fun b o e => Heap.get?_push_of_some _ e) (Nat.le_refl _) ⟨Heap.get?_push_size _ rfl, hz, its, r', IsTup.new _ _⟩
      exact ⟨.ref h'.objs.size, _, I2, rfl, q _ _ _ [] (StepP.newF n.sub hp) ⟨rfl, _, vs, rfl, ⟨_, rfl, add_new⟩, rr.up n hp⟩ Fresh.nil⟩
    · cases e
      have rt0 := rt
      obtain ⟨a, vs, rfl, ⟨ob, _, h⟩, rr⟩ := rt
      exact call_tuple_of pins s σ H _ us Q I r ⟨a, vs, rfl, .inr ⟨.inl (n.sub.rd2 rfl (.inr ⟨ob, h⟩)), q.fz n rt0⟩⟩
end
end Vi
end
section
set_option Elab.async false
set_option linter.all false
set_option maxRecDepth 100000
set_option maxHeartbeats 1000000
/-! Vi12: what is walked. -/
namespace Vi
open PySem PySem.Spec PyProof.Rows L2

/-- a step that may write at av -/
structure FrameT (av : Addr → Prop) (H : Hp) (G : Gs) (H' : Hp) (G' : Gs) : Prop where
  keep : ∀ a o, H a = some o → ¬ av a → G.hd ≠ some a → Kept G H' a o ∧ (isTupO o = false → G'.fr a = G.fr a)
  le : ∀ a o, G.fr a = some o → G'.fr a = some o
  hd : ∀ h, G.hd = some h → G'.hd = some h
  nw : ∀ h, G'.hd = some h → G.hd = some h ∨ H h = none
  there : ∀ a, H' a = none → H a = none
section
variable {K : PySem.W.Frag} {mg : Str → Option Value} {hx : Hx} {H H' H1 H2 : Hp} {G G' G1 G2 : Gs} {fp rs lv : List Addr} {av : Addr → Prop} {σ : L2.St} {env : Env} {τ τ' : List D} {f : List Addr}
theorem FrameT.gle (f : FrameT av H G H' G') : GLe G G' := ⟨f.le, f.hd⟩
theorem FrameT.refl : FrameT av H G H G := ⟨fun _ _ h _ _ => ⟨.inl h, fun _ => rfl⟩, fun _ _ h => h, fun _ h => h, fun _ h => .inl h, fun _ h => h⟩
theorem FrameE.toT (f : FrameE H G H' G') (there : ∀ a, H' a = none → H a = none) : FrameT av H G H' G' := ⟨fun a o e _ n => f.keep a o e n, f.le, fun h e => f.hd.trans e, fun h e => .inl (f.hd.symm.trans e), there⟩
theorem StepP.there (p : StepP H G H' G') : ∀ a, H' a = none → H a = none := fun a e => by
  cases h : H a with
  | none => rfl
  | some o =>
    obtain ⟨u, z⟩ := (p.keep a o h).1.there
    rw [z] at e; cases e
theorem StepP.toT (p : StepP H G H' G') : FrameT av H G H' G' := p.frame.toT p.there
theorem FrameT.trans {av1 : Addr → Prop} (a : FrameT av H G H1 G1) (b : FrameT av1 H1 G1 H2 G2) (h : ∀ x, av1 x → av x ∨ H x = none) : FrameT av H G H2 G2 := by
  refine ⟨fun x o e n hd => ?_, fun x o e => b.le x o (a.le x o e), fun x e => b.hd x (a.hd x e), fun x e => ?_, fun x e => a.there x (b.there x e)⟩
  · obtain ⟨k, g⟩ := a.keep x o e n hd
    refine k.trans g fun o' e' => b.keep x o' e' (fun z => ?_) fun z => ?_
    · rcases h x z with q | q
      · exact n q
      · rw [e] at q; cases q
    · rcases a.nw x z with q | q
      · exact hd q
      · rw [e] at q; cases q
  · rcases b.nw x e with q | q
    · exact a.nw x q
    · exact .inr (a.there x q)
/-- J yields these, one after another, as long as nothing at av is leant on -/
structure Yields (K : PySem.W.Frag) (mg : Str → Option Value) (av : Addr → Prop) (J : L2.It) (ds : List D) (H0 : Hp) (G0 : Gs) : Prop where
  go : ∀ i d H G, FrameT av H0 G0 H G → Now H G → ds[i]? = some d → J.go i H ∧ ∀ x H', J.yld i H x H' → ∃ G', StepP H G H' G' ∧ RF K mg G' d x
  stop : ∀ i H G, FrameT av H0 G0 H G → Now H G → ds.length ≤ i → J.stop i H
theorem FrameT.rfs (f : FrameT av H G H' G') {ds : List D} {vs : List V} (r : RFs K mg G ds vs) : RFs K mg G' ds vs := RFs.mono f.gle r
theorem FrameT.imp {av' : Addr → Prop} (f : FrameT av H G H' G') (h : ∀ x, av x → av' x) : FrameT av' H G H' G' := ⟨fun a o e n => f.keep a o e fun z => n (h a z), f.le, f.hd, f.nw, f.there⟩
theorem Yields.imp {av' : Addr → Prop} {J : L2.It} {ds : List D} (y : Yields K mg av' J ds H G) (h : ∀ x, av x → av' x) : Yields K mg av J ds H G := ⟨fun i d H1 G1 f => y.go i d H1 G1 (f.imp h), fun i H1 G1 f => y.stop i H1 G1 (f.imp h)⟩
/-! ### a value that is walked: its outside does not lie at av -/
def Off (av : Addr → Prop) (H : Hp) (G : Gs) (a : Addr) (o : HO) : Prop := Rd H a o ∧ ¬ av a ∧ G.hd ≠ some a
theorem Off.at {a : Addr} {o : HO} (h : Off av H G a o) (f : FrameT av H G H' G') : Rd H' a o := by
  obtain ⟨h, n, hd⟩ := h
  rcases h with h | ⟨ob, h⟩
  · exact (f.keep a _ h n hd).1.rd
  · exact .inr ⟨ob, (f.keep a _ h n hd).1.nd rfl⟩
def WkL (K : PySem.W.Frag) (av : Addr → Prop) (H : Hp) (G : Gs) (a : Addr) (vs : List V) : Prop := Off av H G a (.lst vs) ∨ SqL K (fun _ => none) a vs
def WkT (K : PySem.W.Frag) (av : Addr → Prop) (H : Hp) (G : Gs) (a : Addr) (vs : List V) : Prop := Off av H G a (.tup vs) ∨ SqT K (fun _ => none) a vs
theorem WkL.at {a : Addr} {vs : List V} (h : WkL K av H G a vs) (f : FrameT av H G H' G') : SqL K H' a vs := by
  rcases h with h | (h | ⟨_, h⟩) | h
  · exact .inl (h.at f)
  · cases h
  · cases h
  · exact .inr h
theorem WkT.at {a : Addr} {vs : List V} (h : WkT K av H G a vs) (f : FrameT av H G H' G') : SqT K H' a vs := by
  rcases h with h | (h | ⟨_, h⟩) | h
  · exact .inl (h.at f)
  · cases h
  · cases h
  · exact .inr h
/-- what is frozen lies elsewhere -/
theorem off_fr {a : Addr} {o : HO} (b : Sub G.fr H) (k : HdOk G H) (nf : ∀ x, av x → G.fr x = none) (h : G.fr a = some o) : Off av H G a o := ⟨b.rd h, (fun z => by rw [nf a z] at h; cases h), rd_ne k (.inl h)⟩
theorem off_fr2 {a : Addr} {o : HO} (b : Sub G.fr H) (k : HdOk G H) (nf : ∀ x, av x → G.fr x = none) (hd : isDictO o = false) (h : Rd G.fr a o) : Off av H G a o := ⟨b.rd2 hd h, (fun z => by
  rcases h with h | ⟨_, h⟩ <;> (rw [nf a z] at h; cases h)), rd_ne k h⟩
/-- a sequence that is walked -/
def WkS (K : PySem.W.Frag) (mg : Str → Option Value) (av : Addr → Prop) (H : Hp) (G : Gs) (xs : List D) (v : V) : Prop :=
  (∃ a vs, v = .ref a ∧ WkL K av H G a vs ∧ RFs K mg G xs vs) ∨ (∃ a vs, v = .ref a ∧ WkT K av H G a vs ∧ RFs K mg G xs vs)
theorem RVr.wks {rv : RV} {v : V} {d : D} {xs : List D} (b : Sub G.fr H) (k : HdOk G H) (nf : ∀ x, av x → G.fr x = none) (hl : ∀ x ∈ lv, ¬ av x ∧ G.hd ≠ some x) (hf : ∀ x ∈ f, ¬ av x ∧ G.hd ≠ some x) (r : RVr K mg lv H G f rv v) (e : rv.d = some d)
    (es : seqOf d = some xs) : WkS K mg av H G xs v := by
  have fz : ∀ {d : D}, RF K mg G d v → seqOf d = some xs → WkS K mg av H G xs v := fun {d} r e => by
    cases d <;> first | (cases e; done) | skip
    · cases e
      obtain ⟨a, vs, ev, h, r⟩ := r
      exact .inr ⟨a, vs, ev, .inl (off_fr b k nf h), r⟩
    · cases e
      obtain ⟨a, vs, ev, h, r⟩ := r
      exact .inl ⟨a, vs, ev, .inl (off_fr b k nf h), r⟩
    · cases e
      obtain ⟨a, vs, ev, h, r⟩ := r
      rcases h with (h | ⟨_, h⟩) | h
      · cases h
      · cases h
      · exact .inr ⟨a, vs, ev, .inr (.inr h), r⟩
    · cases e
      obtain ⟨a, vs, ev, ⟨ob, _, h⟩, r⟩ := r
      exact .inr ⟨a, vs, ev, .inl (off_fr2 b k nf rfl (.inr ⟨ob, h⟩)), r⟩
  have cl : ∀ {m : Bool} {c : Cell} {g : List Addr}, c.view = some d → RC K mg G m H c g v → (∀ x ∈ g, ¬ av x ∧ G.hd ≠ some x) → WkS K mg av H G xs v := fun {m c g} ev r hg => by
    cases c with
    | fz x => cases ev; exact fz r.2 es
    | lst ys =>
      cases ev
      cases es
      obtain ⟨a, vs, ea, eg, h, r⟩ := r
      exact .inl ⟨a, vs, ea, .inl ⟨.inl h, hg a (by rw [eg]; exact List.mem_cons_self)⟩, r⟩
    | lsto _ => cases ev
    | dK _ => cases ev; cases es
    | dT _ => cases ev; cases es
    | ins _ _ => cases ev
  cases rv with
  | fz x => cases e; exact fz r.2 es
  | own c => exact cl e r hf
  | ro c =>
    obtain ⟨_, g, h, z⟩ := r
    exact cl e h fun x hx => hl x (z x hx)
theorem yl_list {a : Addr} {vs : List V} {xs : List D} (h : WkL K av H G a vs) (r : RFs K mg G xs vs) : Yields K mg av (Itl K a) xs H G := by
  refine ⟨fun i d H1 G1 f n e => ?_, fun i H1 G1 f n hl => ?_⟩
  · have q := h.at f
    obtain ⟨x, ex, rx⟩ := (f.rfs r).get e
    refine ⟨⟨vs, x, q, ex⟩, fun y H2 ⟨eH, hy⟩ => ?_⟩
    subst eH
    have := hy vs q
    rw [ex] at this
    cases this
    exact ⟨G1, StepP.refl n.sub, rx⟩
  · exact ⟨vs, h.at f, by rw [r.length]; exact hl⟩
theorem yl_tup {a : Addr} {vs : List V} {xs : List D} (h : WkT K av H G a vs) (r : RFs K mg G xs vs) : Yields K mg av (Itt K a) xs H G := by
  refine ⟨fun i d H1 G1 f n e => ?_, fun i H1 G1 f n hl => ?_⟩
  · have q := h.at f
    obtain ⟨x, ex, rx⟩ := (f.rfs r).get e
    refine ⟨⟨vs, x, q, ex⟩, fun y H2 ⟨eH, hy⟩ => ?_⟩
    subst eH
    have := hy vs q
    rw [ex] at this
    cases this
    exact ⟨G1, StepP.refl n.sub, rx⟩
  · exact ⟨vs, h.at f, by rw [r.length]; exact hl⟩
theorem rangeD_get (lo : Int) : ∀ (n i : Nat), (rangeD lo n)[i]? = if i < n then some (.int (lo + i)) else none
  | 0, i => by simp [rangeD]
  | n + 1, 0 => by simp [rangeD]
  | n + 1, i + 1 => by
    simp only [rangeD, List.getElem?_cons_succ, rangeD_get (lo + 1) n i]
    by_cases h : i < n
    · rw [if_pos h, if_pos (by omega)]
      congr 2
      omega
    · rw [if_neg h, if_neg (by omega)]
theorem rangeD_len (lo : Int) : ∀ n : Nat, (rangeD lo n).length = n
  | 0 => rfl
  | n + 1 => by rw [rangeD, List.length_cons, rangeD_len]
theorem yl_range {lo : Int} {n : Nat} : Yields K mg av (Itr lo n) (rangeD lo n) H G := by
  refine ⟨fun i d H1 G1 f nw e => ?_, fun i H1 G1 f _ hl => ?_⟩
  · rw [rangeD_get] at e
    split at e
    · rename_i hi
      cases e
      refine ⟨hi, fun x H2 ⟨eH, ex⟩ => ?_⟩
      subst eH ex
      exact ⟨G1, StepP.refl nw.sub, rfl⟩
    · cases e
  · rw [rangeD_len] at hl
    exact hl
theorem RFk.at {i : Nat} : ∀ {i : Nat} {kvs : List (Key × D)} {ws : List (Key × V)} {k : Key} {v : V}, RFk K mg G kvs ws → ws[i]? = some (k, v) → ∃ d, kvs[i]? = some (k, d)
  | _, [], _, _, _, h, e => by rw [show _ = [] from h] at e; simp at e
  | 0, (j, d) :: _, _, k, v, ⟨w, r, ew, _, _⟩, e => by
    rw [ew, List.getElem?_cons_zero] at e
    cases e
    exact ⟨d, rfl⟩
  | i + 1, (j, d) :: kvs, _, k, v, ⟨w, r, ew, _, t⟩, e => by
    rw [ew, List.getElem?_cons_succ] at e
    obtain ⟨d2, e2⟩ := RFk.at (i := i) t e
    exact ⟨d2, by simpa using e2⟩
theorem RFt.at {i : Nat} : ∀ {i : Nat} {kvs : List (List Key × D)} {ws : List (List Key × V)} {k : List Key} {v : V}, RFt K mg G kvs ws → ws[i]? = some (k, v) → ∃ d, kvs[i]? = some (k, d)
  | _, [], _, _, _, h, e => by rw [show _ = [] from h] at e; simp at e
  | 0, (j, d) :: _, _, k, v, ⟨w, r, ew, _, _⟩, e => by
    rw [ew, List.getElem?_cons_zero] at e
    cases e
    exact ⟨d, rfl⟩
  | i + 1, (j, d) :: kvs, _, k, v, ⟨w, r, ew, _, t⟩, e => by
    rw [ew, List.getElem?_cons_succ] at e
    obtain ⟨d2, e2⟩ := RFt.at (i := i) t e
    exact ⟨d2, by simpa using e2⟩
/-- a locked dict -/
theorem yl_dK {a : Addr} {ob : Obj} {ws : List (Key × V)} {kvs : List (Key × D)} (h : H a = some (.frz ob (.dK ws))) (n1 : ¬ av a) (n2 : G.hd ≠ some a) (r : RFk K mg G kvs ws) : Yields K mg av (Itk a ob ws) (kvs.map fun kv => kD kv.1) H G := by
  refine ⟨fun i d H1 G1 f n e => ?_, fun i H1 G1 f _ hl => ?_⟩
  · have q := (f.keep a _ h n1 n2).1.nd rfl
    have hi : i < ws.length := by
      rw [r.length]
      have := (List.getElem?_eq_some_iff.mp e).1
      simpa using this
    refine ⟨⟨q, hi⟩, fun x H2 ⟨eH, k, v, ek, ex⟩ => ?_⟩
    subst eH ex
    obtain ⟨d2, e2⟩ := RFk.at (i := i) r ek
    rw [List.getElem?_map, e2] at e
    cases e
    exact ⟨G1, StepP.refl n.sub, by cases k <;> rfl⟩
  · exact ⟨(f.keep a _ h n1 n2).1.nd rfl, by rw [r.length]; simpa using hl⟩
theorem yl_dT {a : Addr} {ob : Obj} {ws : List (List Key × V)} {kvs : List (List Key × D)} (h : H a = some (.frz ob (.dT ws))) (n1 : ¬ av a) (n2 : G.hd ≠ some a) (r : RFt K mg G kvs ws) : Yields K mg av (Itkt a ob ws) (kvs.map fun kv => ksD kv.1) H G := by
  refine ⟨fun i d H1 G1 f n e => ?_, fun i H1 G1 f _ hl => ?_⟩
  · have q := (f.keep a _ h n1 n2).1.nd rfl
    have hi : i < ws.length := by
      rw [r.length]
      have := (List.getElem?_eq_some_iff.mp e).1
      simpa using this
    refine ⟨⟨q, hi⟩, fun x H2 ⟨eH, k, v, p, ek, ex, ep⟩ => ?_⟩
    subst eH ex
    obtain ⟨d2, e2⟩ := RFt.at (i := i) r ek
    rw [List.getElem?_map, e2] at e
    cases e
    have st : StepP H2 G1 H2 (G1.add H2 [p]) := StepP.tups n.sub fun b hb => by rw [List.mem_singleton.mp hb]; exact ⟨_, ep⟩
    exact ⟨_, st, p, _, rfl, (Gs.add_in List.mem_cons_self).trans ep, RFs.ks k⟩
  · exact ⟨(f.keep a _ h n1 n2).1.nd rfl, by rw [r.length]; simpa using hl⟩
end
end Vi
end
section
set_option Elab.async false
set_option linter.all false
set_option maxRecDepth 100000
set_option maxHeartbeats 1000000
/-! Vi13: the rules of what is walked. b: in a for (its body may write), else in a comprehension. -/
namespace Vi
open PySem PySem.Spec PyProof.Rows L2

def evV (Φ : Phi) (b : Bool) (e : E) (env : Env) (τ : List D) : R RV := if b = true then evalJV Φ e env τ else evalE Φ e env τ
def evI (Φ : Phi) (b : Bool) (it : It) (env : Env) (τ : List D) : R (List D) := if b = true then evalJ Φ it env τ else evalI Φ it env τ
/-- things that no reading of this frame leans on -/
def Apart (H : Hp) (G : Gs) (fp rs : List Addr) (x : Addr) : Prop := x ∉ fp ++ rs ∧ G.hd ≠ some x ∧ G.fr x = none ∧ ∃ o, H x = some o ∧ isTupO o = false
def avOf (b : Bool) (H : Hp) (G : Gs) (fp rs : List Addr) (x : Addr) : Prop := (b = true ∧ x ∈ fp) ∨ Apart H G fp rs x
def lvOf (b : Bool) (fp rs : List Addr) : List Addr := if b = true then rs else fp ++ rs
section
variable (K : PySem.W.Frag) (mg : Str → Option Value) (hx : Hx) (W : WX) (Φ : Phi)
def OkV (lv : List Addr) (H : Hp) (G : Gs) (fp rs : List Addr) (σ : L2.St) (env : Env) (Q : VK) (rv : RV) (τ' : List D) : Prop :=
  ∀ v H' G' f, SR K mg hx H' G' fp rs σ env τ' → FrameE H G H' G' → RVr K mg lv H' G' f rv v → Fresh H G' f → Q v H'
def tV (b : Bool) (e : E) : TE := fun σ H Q => ∃ G fp rs env τ, SR K mg hx H G fp rs σ env τ ∧ SatR K mg hx W H G fp rs σ env (evV Φ b e env τ) (OkV K mg hx (lvOf b fp rs) H G fp rs σ env Q)
def OkY (b : Bool) (H : Hp) (G : Gs) (fp rs : List Addr) (σ : L2.St) (env : Env) (R : L2.It → Hp → Prop) (ds : List D) (τ' : List D) : Prop :=
  ∀ J H' G', SR K mg hx H' G' fp rs σ env τ' → FrameE H G H' G' → Yields K mg (avOf b H G fp rs) J ds H' G' → R J H'
def tY (b : Bool) (it : It) : TI := fun σ H R => ∃ G fp rs env τ, SR K mg hx H G fp rs σ env τ ∧ SatR K mg hx W H G fp rs σ env (evI Φ b it env τ) (OkY K mg hx b H G fp rs σ env R)
end
/-- any thing that is walked; a frozen dict is locked -/
def IterV (K : PySem.W.Frag) (v : V) (H : Hp) (R : L2.It → Hp → Prop) : Prop :=
  (∃ a, v = .ref a ∧ (∃ xs, SqL K H a xs) ∧ R (Itl K a) H) ∨ (∃ a, v = .ref a ∧ (∃ xs, SqT K H a xs) ∧ R (Itt K a) H) ∨
  (∃ a ws, v = .ref a ∧ H a = some (.dK ws) ∧ ∀ od, R (Itk a od ws) (upd H a (.frz od (.dK ws)))) ∨ (∃ a od ws, v = .ref a ∧ H a = some (.frz od (.dK ws)) ∧ R (Itk a od ws) H) ∨
  (∃ a ws, v = .ref a ∧ H a = some (.dT ws) ∧ ∀ od, R (Itkt a od ws) (upd H a (.frz od (.dT ws)))) ∨ (∃ a od ws, v = .ref a ∧ H a = some (.frz od (.dT ws)) ∧ R (Itkt a od ws) H)
section
variable {X : Cx} {tg e : Expr} {te : TE}
theorem pi_any (he : PE X e te) : PI X tg e (fun σ H R => te σ H fun v H1 => IterV X.K v H1 R) := by
  refine ⟨fun pins s σ H R I h => ?_⟩
  refine thn (he.run pins s σ H _ I h) fun u s1 ⟨x, H1, I1, rx, q⟩ => ?_
  have dk : ∀ {a : Addr} {od : Obj} {ws : List (Key × V)} {H2 : Hp}, u = .ref a → Inv X pins σ H2 s1 → H2 a = some (.frz od (.dK ws)) → R (Itk a od ws) H2 → wpAny (model X.prog X.w) X.A (pyIter u) (PIE X pins σ tg R) X.xe s1 := fun {a od ws H2} eu I2 hd q => by
    subst eu
    obtain ⟨hs, hgd, hx, es, ep, vs, hdt, hsz, kv, hm⟩ := I2.frzK hd
    refine iter_keys hs hgd hx hdt (pi_one (tk := s1.toks) I2 _ (turn_keys _ hdt) ⟨_, Heap.get?_push_size _ rfl, rfl, ?_⟩ q)
    rw [hsz] <;> rfl
  have dt : ∀ {a : Addr} {od : Obj} {ws : List (List Key × V)} {H2 : Hp}, u = .ref a → Inv X pins σ H2 s1 → H2 a = some (.frz od (.dT ws)) → R (Itkt a od ws) H2 → wpAny (model X.prog X.w) X.A (pyIter u) (PIE X pins σ tg R) X.xe s1 := fun {a od ws H2} eu I2 hd q => by
    subst eu
    obtain ⟨hs, hgd, hx, es, ep, hdt, hsz, ent⟩ := I2.frzT hd
    refine iter_keys hs hgd hx hdt (pi_one (tk := s1.toks) I2 _ (turn_keysT _ hdt) ⟨_, Heap.get?_push_size _ rfl, rfl, ?_⟩ q)
    rw [hsz] <;> rfl
  rcases q with ⟨a, ev, ⟨xs, hq⟩, q⟩ | ⟨a, ev, ⟨xs, hq⟩, q⟩ | ⟨a, ws, ev, hd, q⟩ | ⟨a, od, ws, ev, hd, q⟩ | ⟨a, ws, ev, hd, q⟩ | ⟨a, od, ws, ev, hd, q⟩
  all_goals subst ev; obtain rfl : u = Value.ref a := rx
  · obtain ⟨its, rv, p, hz⟩ := I1.list hq
    refine wpAny_pyIter_list p.isList ?_
    refine ⟨s1.heap.objs.size, [s1.heap.objs.size], _, _, H1, rfl, I1.kept (t' := s1.toks) fun b o e => Heap.get?_push_of_some _ e, turn_list a _, ⟨_, Heap.get?_push_size _ rfl, rfl, rfl⟩, fun b hb => ?_, q⟩
    have e : b = s1.heap.objs.size := by simpa using hb
    subst e
    exact I1.fpOk (Nat.le_refl _) (I1.hok.fresh (Nat.le_refl _))
  · obtain ⟨its, rv, p, hz⟩ := I1.tuple hq
    refine wpAny_pyIter_tuple (show s1.heap.IsTuple a its.toArray from p) ?_
    refine ⟨s1.heap.objs.size, [s1.heap.objs.size], _, _, H1, rfl, I1.kept (t' := s1.toks) fun b o e => Heap.get?_push_of_some _ e, turn_tuple a _, ⟨_, Heap.get?_push_size _ rfl, rfl, rfl⟩, fun b hb => ?_, q⟩
    have e : b = s1.heap.objs.size := by simpa using hb
    subst e
    exact I1.fpOk (Nat.le_refl _) (I1.hok.fresh (Nat.le_refl _))
  · obtain ⟨od, I2⟩ := I1.lock hd trivial
    exact dk rfl I2 upd_same (q od)
  · exact dk rfl I1 hd q
  · obtain ⟨od, I2⟩ := I1.lock hd trivial
    exact dt rfl I2 upd_same (q od)
  · exact dt rfl I1 hd q
theorem PI.imp {x : Expr} {t t' : TI} (h : PI X tg x t) (i : ∀ σ H R, t' σ H R → t σ H R) : PI X tg x t' := ⟨fun pins s σ H R I q => h.run pins s σ H R I (i σ H R q)⟩
end
section
variable {K : PySem.W.Frag} {mg : Str → Option Value} {hx : Hx} {W : WX} {H H' : Hp} {G G' : Gs} {fp rs lv f : List Addr} {σ : L2.St} {env : Env} {τ τ' : List D} {Φ : Phi}
theorem Apart.next {x : Addr} (h : Apart H G fp rs x) (f : FrameE H G H' G') : Apart H' G' fp rs x := by
  obtain ⟨h1, h2, h3, o, h4, t⟩ := h
  obtain ⟨k1, k2⟩ := f.keep x o h4 h2
  exact ⟨h1, by rw [f.hd]; exact h2, by rw [k2 t]; exact h3, o, k1.none h3, t⟩
theorem post_y {b : Bool} {R : L2.It → Hp → Prop} : Post (fun H G => OkY K mg hx b H G fp rs σ env R) := ⟨fun f t h J H2 G2 s f2 y => h J H2 G2 s (f.trans f2) (y.imp fun x hx => hx.elim .inl fun z => .inr (z.next f))⟩
theorem SR.avN (s0 : SR K mg hx H G fp rs σ env τ) (s : SR K mg hx H' G' fp rs σ env τ') (f : FrameE H G H' G') (b : Bool) : ∀ x, avOf b H G fp rs x → G'.fr x = none := fun x hx => by
  rcases hx with ⟨_, hx⟩ | hx
  · exact s.nf x hx
  · exact (hx.next f).2.2.1
theorem SR.lvA (s0 : SR K mg hx H G fp rs σ env τ) (s : SR K mg hx H' G' fp rs σ env τ') (b : Bool) : ∀ x ∈ lvOf b fp rs, ¬ avOf b H G fp rs x ∧ G'.hd ≠ some x := fun x hx => by
  cases b with
  | true =>
    refine ⟨fun z => ?_, (s.rok x hx).2.1⟩
    rcases z with ⟨_, z⟩ | z
    · exact (s.rok x hx).1 z
    · exact z.1 (List.mem_append_right _ hx)
  | false =>
    refine ⟨fun z => ?_, s.live x hx⟩
    rcases z with ⟨z, _⟩ | z
    · cases z
    · exact z.1 hx
theorem Fresh.offA (s : SR K mg hx H G fp rs σ env τ) (n : Fresh H G' f) (b : Bool) : ∀ x ∈ f, ¬ avOf b H G fp rs x ∧ G'.hd ≠ some x := fun x hx => ⟨(fun z => by
  rcases z with ⟨_, z⟩ | ⟨_, _, _, o, z, _⟩
  · obtain ⟨o, e⟩ := s.liveAt x (List.mem_append_left _ z)
    rw [n.new x hx] at e; cases e
  · rw [n.new x hx] at z; cases z), n.ne x hx⟩
/-- a frozen dict is locked -/
theorem StepP.lock {a : Addr} {o : HO} {od : Obj} (b : Sub G.fr H) (hd : isDictO o = true) (h : H a = some o) (g : G.fr a = some o) : StepP H G (upd H a (.frz od o)) G := by
  refine ⟨fun x u e => ⟨?_, fun _ => rfl⟩, fun _ _ e => e, rfl, fun x u e => ?_⟩
  · by_cases hxa : x = a
    · subst hxa
      rw [h] at e; cases e
      exact .inr ⟨hd, g, od, upd_same⟩
    · exact .inl (by rw [upd_ne hxa]; exact e)
  · by_cases hxa : x = a
    · subst hxa
      rw [g] at e; cases e
      exact .inr ⟨hd, od, upd_same⟩
    · rw [upd_ne hxa]; exact b x u e
theorem iter_of (b : Bool) (s0 : SR K mg hx H G fp rs σ env τ) (s : SR K mg hx H' G' fp rs σ env τ') (fr : FrameE H G H' G') (n : Fresh H G' f) {rv : RV} {v : V} {ds : List D} {R : L2.It → Hp → Prop} (r : RVr K mg (lvOf b fp rs) H' G' f rv v) (e : iterV rv = some ds)
    (q : OkY K mg hx b H G fp rs σ env R ds τ') : IterV K v H' R := by
  have nf := s0.avN s fr b
  have hl := s0.lvA s b
  have hf := n.offA s0 b
  have k := s.hand.ok
  have seq : ∀ {xs : List D}, WkS K mg (avOf b H G fp rs) H' G' xs v → xs = ds → IterV K v H' R := fun {xs} h e => by
    subst e
    rcases h with ⟨a, vs, ev, h, r⟩ | ⟨a, vs, ev, h, r⟩
    · exact .inl ⟨a, ev, ⟨vs, h.at FrameT.refl⟩, q _ H' G' s fr (yl_list h r)⟩
    · exact .inr (.inl ⟨a, ev, ⟨vs, h.at FrameT.refl⟩, q _ H' G' s fr (yl_tup h r)⟩)
  have scr : ∀ {ns : List Int}, rv.d = some (.scr ns) → ds = ns.map D.int → IterV K v H' R := fun {ns} ed e => by
    have rf : RF K mg G' (.scr ns) v := by
      cases rv with
      | fz d => cases ed; exact r.2
      | own c => cases c <;> cases ed; exact RC.rt (c := .fz (.scr ns)) (m := true) s.sub k rfl r (fun a ha => (hf a ha).2) |> fun _ => (show RC K mg G' true H' (.fz (.scr ns)) f v from r).2
      | ro c =>
        obtain ⟨_, g, h, _⟩ := r
        cases c <;> cases ed
        exact (show RC K mg G' false H' (.fz (.scr ns)) g v from h).2
    obtain ⟨a, ev, h⟩ := rf
    subst e
    refine seq (xs := ns.map D.int) (.inl ⟨a, ns.map V.int, ev, ?_, RFs.of_ints⟩) rfl
    rcases h with h | h
    · exact .inl (off_fr2 s.sub k nf rfl h)
    · exact .inr (.inr h)
  unfold iterV at e
  split at e
  · rename_i kvs
    cases e
    obtain ⟨_, a, ws, ev, g, rr⟩ := r
    have o := off_fr s.sub k nf g
    rcases s.sub a _ g with h | ⟨_, ob, h⟩
    · refine .inr (.inr (.inl ⟨a, ws, ev, h, fun od => ?_⟩))
      have st : StepP H' G' (upd H' a (.frz od (.dK ws))) G' := StepP.lock s.sub rfl h g
      exact q _ _ G' (s.step st) (fr.trans st.frame) (yl_dK upd_same o.2.1 o.2.2 rr)
    · exact .inr (.inr (.inr (.inl ⟨a, ob, ws, ev, h, q _ _ G' s fr (yl_dK h o.2.1 o.2.2 rr)⟩)))
  · rename_i kvs
    cases e
    obtain ⟨_, a, ws, ev, g, rr⟩ := r
    have o := off_fr s.sub k nf g
    rcases s.sub a _ g with h | ⟨_, ob, h⟩
    · refine .inr (.inr (.inr (.inr (.inl ⟨a, ws, ev, h, fun od => ?_⟩))))
      have st : StepP H' G' (upd H' a (.frz od (.dT ws))) G' := StepP.lock s.sub rfl h g
      exact q _ _ G' (s.step st) (fr.trans st.frame) (yl_dT upd_same o.2.1 o.2.2 rr)
    · exact .inr (.inr (.inr (.inr (.inr ⟨a, ob, ws, ev, h, q _ _ G' s fr (yl_dT h o.2.1 o.2.2 rr)⟩))))
  · split at e
    · rename_i xs ed
      cases e
      exact seq (RVr.wks s.sub k nf hl hf r ed rfl) rfl
    · rename_i xs ed
      cases e
      exact seq (RVr.wks s.sub k nf hl hf r ed rfl) rfl
    · rename_i ns ed
      cases e
      exact scr ed rfl
    · rename_i xs ed
      cases e
      exact seq (RVr.wks s.sub k nf hl hf r ed rfl) rfl
    · rename_i xs ed
      cases e
      exact seq (RVr.wks s.sub k nf hl hf r ed rfl) rfl
    · cases e
end
section
variable {X : Cx} {W : WX} {hx : Hx} {Φ : Phi} {k : Nat} {a b c : E} {x y z tg : Expr} {pos p : Pos}
abbrev vT (X : Cx) (hx : Hx) (W : WX) (Φ : Phi) (b : Bool) (c : E) : TE := tV X.K X.mg hx W Φ b c
abbrev yT (X : Cx) (hx : Hx) (W : WX) (Φ : Phi) (b : Bool) (c : It) : TI := tY X.K X.mg hx W Φ b c
theorem s_ev (h : PE X x (eT X hx W Φ a)) : PE X x (vT X hx W Φ false a) := h
/-- what a for walks -/
theorem s_jv (h : PE X x (eT X hx W Φ a)) (hv : ∀ i, a = .var i → PE X x (tVar i)) : PE X x (vT X hx W Φ true a) := by
  by_cases ha : ∃ i, a = .var i
  · obtain ⟨i, rfl⟩ := ha
    refine PE.imp (hv i rfl) fun σ H Q ⟨G, fp, rs, env, τ, s, q⟩ => ?_
    have q : SatR X.K X.mg hx W H G fp rs σ env (evalJV Φ (.var i) env τ) (OkV X.K X.mg hx rs H G fp rs σ env Q) := q
    unfold evalJV at q
    simp only at q
    cases e : env[i]? with
    | none => rw [e] at q; exact q.elim
    | some sl =>
      obtain ⟨A, f, B, o, e1, e2, h, kk⟩ := s.env.at e
      cases sl with
      | un => rw [e] at q; exact q.elim
      | exn _ _ => rw [e] at q; exact q.elim
      | own _ => rw [e] at q; exact q.elim
      | fz d =>
        rw [e] at q
        obtain ⟨_, v, ev, r⟩ := h
        exact ⟨v, by rw [e2, ev], q v H G [] s FrameE.refl ⟨rfl, r⟩ Fresh.nil⟩
      | ro cl =>
        rw [e] at q
        obtain ⟨_, v, g, ev, r, n⟩ := h
        exact ⟨v, by rw [e2, ev], q v H G [] s FrameE.refl ⟨rfl, g, r, n⟩ Fresh.nil⟩
  · refine PE.imp h fun σ H Q ⟨G, fp, rs, env, τ, s, q⟩ => ⟨G, fp, rs, env, τ, s, ?_⟩
    have q : SatR X.K X.mg hx W H G fp rs σ env (evalJV Φ a env τ) (OkV X.K X.mg hx rs H G fp rs σ env Q) := q
    have e : evalJV Φ a env τ = (evalE Φ a env τ).bind fun v τ => match v with
      | .ro _ => .stuck
      | v => .ok v τ := by
      unfold evalJV
      split
      · exact absurd ⟨_, rfl⟩ ha
      · rfl
    rw [e] at q
    refine SatR.mono (SatR.bind q) fun rv τ' q v H' G' f s' fr r n => ?_
    cases rv with
    | ro c => exact q.elim
    | fz d => exact q v H' G' f s' fr r n
    | own c => exact q v H' G' f s' fr r n
theorem s_over (m : Bool) (h : PE X x (vT X hx W Φ m a)) : PI X tg x (yT X hx W Φ m (.over a)) := by
  refine PI.imp (pi_any h) fun σ H R ⟨G, fp, rs, env, τ, s, q⟩ => ⟨G, fp, rs, env, τ, s, ?_⟩
  have q : SatR X.K X.mg hx W H G fp rs σ env ((evV Φ m a env τ).bind fun v τ => Vi.R.of (iterV v) τ) (OkY X.K X.mg hx m H G fp rs σ env R) := by
    cases m with
    | true => exact q
    | false => rw [evI, if_neg (by decide), evalI] at q; exact q
  refine SatR.mono (SatR.bind q) fun rv τ' q v H' G' f s' fr r n => ?_
  obtain ⟨ds, e, q⟩ := q.of
  exact iter_of m s s' fr n r e q
theorem s_rng1 (m : Bool) (c : Ctx Φ k X W) (hg : Gl X "range") (h : PE X x (eT X hx W Φ a)) (hs : starEach [x] X.env = [(false, eval x X.env)]) : PI X tg (.Call (.Name "range" p) [x] [] pos) (yT X hx W Φ m (.rng1 a)) := by
  refine PI.imp (pi_range1 hg (c.phi.bn _ (by decide)) (pa_cons h pa_nil (by rw [hs]; rfl)) hs) fun σ H R ⟨G, fp, rs, env, τ, s, q⟩ => ?_
  have q : SatR X.K X.mg hx W H G fp rs σ env (evalI Φ (.rng1 a) env τ) (OkY X.K X.mg hx m H G fp rs σ env R) := by
    cases m <;> exact q
  rw [evalI] at q
  refine tE_look post_y s q fun d v τ' H' G' s' fr r q' => ?_
  cases d <;> first | exact q'.elim | skip
  rename_i j
  simp only at q'
  split at q'
  · rename_i hj
    have hj : -(2 ^ 62) ≤ j ∧ j < 2 ^ 62 := by simpa [rngOk] using hj
    exact ⟨j, by rw [show v = _ from r], hj.1, hj.2, q' _ H' G' s' FrameE.refl yl_range⟩
  · exact q'.elim
theorem s_rng2 (m : Bool) (c : Ctx Φ k X W) (hg : Gl X "range") (h : PE X x (eT X hx W Φ a)) (h2 : PE X y (eT X hx W Φ b)) (hs : starEach [x, y] X.env = [(false, eval x X.env), (false, eval y X.env)]) (hs2 : starEach [y] X.env = [(false, eval y X.env)]) :
    PI X tg (.Call (.Name "range" p) [x, y] [] pos) (yT X hx W Φ m (.rng2 a b)) := by
  refine PI.imp (pi_range2 hg (c.phi.bn _ (by decide)) (pa_cons h (pa_cons h2 pa_nil (by rw [hs2]; rfl)) (by rw [hs, hs2])) hs hs2) fun σ H R ⟨G, fp, rs, env, τ, s, q⟩ => ?_
  have q : SatR X.K X.mg hx W H G fp rs σ env (evalI Φ (.rng2 a b) env τ) (OkY X.K X.mg hx m H G fp rs σ env R) := by
    cases m <;> exact q
  rw [evalI] at q
  refine tE_look post_y s q fun d v τ' H' G' s' fr r q' => ?_
  refine tE_look post_y s' q' fun d2 v2 τ2 H2 G2 s2 fr2 r2 q2 => ?_
  cases d <;> first | exact q2.elim | skip
  rename_i i
  cases d2 <;> first | exact q2.elim | skip
  rename_i j
  simp only at q2
  split at q2
  · rename_i hj
    have hj : (-(2 ^ 62) ≤ i ∧ i < 2 ^ 62) ∧ -(2 ^ 62) ≤ j ∧ j < 2 ^ 62 := by simpa [rngOk] using hj
    exact ⟨i, j, by rw [show v = _ from r, show v2 = _ from r2], ⟨hj.1.1, hj.1.2, hj.2.1, hj.2.2⟩, q2 _ H2 G2 s2 FrameE.refl yl_range⟩
  · exact q2.elim
end
end Vi
end
section
set_option Elab.async false
set_option linter.all false
set_option maxRecDepth 100000
set_option maxHeartbeats 1000000
/-! Vi14: targets; comprehensions. -/
namespace Vi
open PySem PySem.Spec PyProof.Rows L2

mutual
def Tg.len : Tg → Nat
  | .name _ => 1
  | .tup ts => ts.len
def Tgs.len : Tgs → Nat
  | .nil => 0
  | .cons _ r => r.len + 1
end
mutual
def Tg.ixs : Tg → List Nat
  | .name i => [i]
  | .tup ts => ts.ixs
def Tgs.ixs : Tgs → List Nat
  | .nil => []
  | .cons t r => t.ixs ++ r.ixs
end
mutual
def tgG (K : PySem.W.Frag) : Tg → TG
  | .name i => gName i
  | .tup ts => gTup K ts.len (tgGs K ts)
def tgGs (K : PySem.W.Frag) : Tgs → TGs
  | .nil => gNil
  | .cons t r => gCons (tgG K t) (tgGs K r)
end
section
variable {K : PySem.W.Frag} {mg : Str → Option Value} {hx : Hx} {W : WX} {H H' : Hp} {G G' : Gs} {rs f : List Addr} {τ τ' : List D} {Φ : Phi}
theorem RF.tupOf {d : D} {v : V} {xs : List D} (b : Sub G.fr H) (r : RF K mg G d v) (e : tupOf d = some xs) : ∃ a vs, v = .ref a ∧ SqT K H a vs ∧ RFs K mg G xs vs := by
  cases d <;> first | (cases e; done) | skip
  · cases e
    obtain ⟨a, vs, ev, h, r⟩ := r
    exact ⟨a, vs, ev, .inl (b.rd h), r⟩
  · cases e
    obtain ⟨a, vs, ev, ⟨ob, _, h⟩, r⟩ := r
    exact ⟨a, vs, ev, .inl (b.rd2 rfl (.inr ⟨ob, h⟩)), r⟩
theorem bindTs_len : ∀ {ts : Tgs} {xs : List D} {env env' : Env}, bindTs ts xs env = some env' → xs.length = ts.len
  | .nil, [], _, _, _ => rfl
  | .nil, _ :: _, _, _, e => by cases e
  | .cons t r, [], _, _, e => by cases e
  | .cons t r, x :: xs, env, env', e => by
    simp only [bindTs] at e
    cases h : bindT t x env with
    | none => rw [h] at e; cases e
    | some e2 =>
      rw [h] at e
      rw [List.length_cons, Tgs.len, bindTs_len e]
/-- slots agree but at is -/
def Agree (is : List Nat) (σ σ' : L2.St) : Prop := σ'.length = σ.length ∧ ∀ j, j ∉ is → σ'[j]? = σ[j]?
theorem Agree.refl {is : List Nat} {σ : L2.St} : Agree is σ σ := ⟨rfl, fun _ _ => rfl⟩
theorem Agree.trans {is js : List Nat} {a b c : L2.St} (h : Agree is a b) (k : Agree js b c) : Agree (is ++ js) a c :=
  ⟨k.1.trans h.1, fun j hj => (k.2 j fun z => hj (List.mem_append_right _ z)).trans (h.2 j fun z => hj (List.mem_append_left _ z))⟩
theorem Agree.set {σ : L2.St} {i : Nat} {o : Option V} : Agree [i] σ (σ.set i o) := ⟨by simp, fun j hj => List.getElem?_set_ne fun z => hj (by simp [z])⟩
mutual
theorem tg_bind : ∀ {tg : Tg} {d : D} {v : V} {fp : List Addr} {σ : L2.St} {env env' : Env} {Q : L2.St → Hp → Prop}, SR K mg hx H G fp rs σ env τ → RF K mg G d v → bindT tg d env = some env' →
    (∀ σ' fp', fp'.Sublist fp → Agree tg.ixs σ σ' → SR K mg hx H G fp' rs σ' env' τ → Q σ' H) → tgG K tg v σ H Q
  | .name i, d, v, fp, σ, env, env', Q, s, r, e, k => by
    cases e
    obtain ⟨fp', sb, s'⟩ := s.setF r i
    exact k _ fp' sb Agree.set s'
  | .tup ts, d, v, fp, σ, env, env', Q, s, r, e, k => by
    simp only [bindT] at e
    cases h : tupOf d with
    | none => rw [h] at e; cases e
    | some xs =>
      rw [h] at e
      obtain ⟨a, vs, ev, hs, rr⟩ := r.tupOf s.sub h
      exact ⟨a, vs, ev, hs, by rw [rr.length, bindTs_len e], tgs_bind s rr e k⟩
theorem tgs_bind : ∀ {ts : Tgs} {ds : List D} {vs : List V} {fp : List Addr} {σ : L2.St} {env env' : Env} {Q : L2.St → Hp → Prop}, SR K mg hx H G fp rs σ env τ → RFs K mg G ds vs → bindTs ts ds env = some env' →
    (∀ σ' fp', fp'.Sublist fp → Agree ts.ixs σ σ' → SR K mg hx H G fp' rs σ' env' τ → Q σ' H) → tgGs K ts vs σ H Q
  | .nil, [], vs, fp, σ, env, env', Q, s, r, e, k => by
    cases e
    exact ⟨r, k σ fp (.refl _) Agree.refl s⟩
  | .nil, _ :: _, _, _, _, _, _, _, _, _, e, _ => by cases e
  | .cons t r, [], _, _, _, _, _, _, _, _, e, _ => by cases e
  | .cons t r, d :: ds, vs, fp, σ, env, env', Q, s, ⟨v, rest, ev, q, rr⟩, e, k => by
    simp only [bindTs] at e
    cases h : bindT t d env with
    | none => rw [h] at e; cases e
    | some e2 =>
      rw [h] at e
      exact ⟨v, rest, ev, tg_bind s q h fun σ1 fp1 sb1 ag1 s1 => tgs_bind s1 rr e fun σ2 fp2 sb2 ag2 s2 => k σ2 fp2 (sb2.trans sb1) (ag1.trans ag2) s2⟩
end
theorem wipe_get {σ : L2.St} {j : Nat} : ∀ {vs : List Nat}, (L2.wipe σ vs)[j]? = if j ∈ vs then σ[j]?.map (fun _ => none) else σ[j]?
  | [] => by simp [L2.wipe]
  | v :: vs => by
    unfold L2.wipe
    by_cases hj : v = j
    · subst hj
      rw [if_pos List.mem_cons_self]
      by_cases hl : v < (L2.wipe σ vs).length
      · rw [List.getElem?_set_self hl]
        rw [wipe_length] at hl
        rw [List.getElem?_eq_getElem hl]
        rfl
      · rw [List.getElem?_eq_none (by simpa using hl)]
        rw [wipe_length] at hl
        rw [List.getElem?_eq_none (by simpa using hl)]
        rfl
    · rw [List.getElem?_set_ne hj, wipe_get]
      by_cases hm : j ∈ vs
      · rw [if_pos hm, if_pos (List.mem_cons_of_mem _ hm)]
      · rw [if_neg hm, if_neg (by simp [hm, Ne.symm hj])]
theorem wipe_agree {σ σ2 : L2.St} {is vs : List Nat} (h : Agree is (L2.wipe σ vs) σ2) (sb : ∀ i ∈ is, i ∈ vs) : L2.wipe σ2 vs = L2.wipe σ vs := by
  apply List.ext_getElem?
  intro j
  rw [wipe_get, wipe_get]
  by_cases hj : j ∈ vs
  · rw [if_pos hj, if_pos hj]
    have l : σ2.length = σ.length := by rw [h.1, wipe_length]
    by_cases hl : j < σ.length
    · rw [List.getElem?_eq_getElem hl, List.getElem?_eq_getElem (by rw [l]; exact hl)]
      rfl
    · rw [List.getElem?_eq_none (by omega), List.getElem?_eq_none (by omega)]
  · rw [if_neg hj, if_neg hj, h.2 j fun z => hj (sb j z), wipe_get, if_neg hj]
end
end Vi
end
section
set_option Elab.async false
set_option linter.all false
set_option maxRecDepth 100000
set_option maxHeartbeats 1000000
/-! Vi15: list comprehensions. -/
namespace Vi
open PySem PySem.Spec PyProof.Rows L2

/-- no exception is wished for -/
abbrev W0 : WX := fun _ _ _ _ => False
def tC (K : PySem.W.Frag) (mg : Str → Option Value) (hx : Hx) (Φ : Phi) (c : Oe) : TT := fun σ H Q => ∃ G fp rs env τ, SR K mg hx H G fp rs σ env τ ∧ ∃ b τ', evalC Φ c env τ = .ok b τ' ∧ ∀ H' G', SR K mg hx H' G' fp rs σ env τ' → FrameE H G H' G' → Q b H'
section
variable {K : PySem.W.Frag} {mg : Str → Option Value} {hx : Hx} {W : WX} {H H' H1 : Hp} {G G' G1 : Gs} {fp rs f : List Addr} {σ : L2.St} {env : Env} {τ τ' : List D} {Φ : Phi}
/-- a thing apart is written -/
theorem SR.updOut {D : Addr} {o : HO} (s : SR K mg hx H G fp rs σ env τ) (h1 : D ∉ fp ++ rs) (h2 : G.fr D = none) (h3 : G.hd ≠ some D) : SR K mg hx (upd H D o) G fp rs σ env τ := by
  have ne1 : ∀ a ∈ fp, a ≠ D := fun a ha e => h1 (List.mem_append_left _ (e ▸ ha))
  have ne2 : ∀ a ∈ rs, a ≠ D := fun a ha e => h1 (List.mem_append_right _ (e ▸ ha))
  refine ⟨fun a u e => ?_, s.nd, s.nf, ?_, s.out, fun a ha => ?_, RE.stay (GLe.refl _) (fun a ha u e => by rw [upd_ne (ne2 a ha)]; exact e) (fun a ha u e => by rw [upd_ne (ne1 a ha)]; exact e) s.env⟩
  · have : a ≠ D := fun z => by rw [z, h2] at e; cases e
    rw [upd_ne this]
    exact s.sub a u e
  · rcases s.hand with h | ⟨h, a, vs, e1, e2, r, z⟩
    · exact .inl h
    · exact .inr ⟨h, a, vs, e1, by rw [upd_ne (fun y => h3 (by rw [← y]; exact e1))]; exact e2, r, z⟩
  · obtain ⟨a1, a2, a3, u, a4, t⟩ := s.rok a ha
    exact ⟨a1, a2, a3, u, by rw [upd_ne (ne2 a ha)]; exact a4, t⟩
/-- one turn of a comprehension -/
def turnF (Φ : Phi) (el : E) (tg : Tg) (co : Oe) (env : Env) (x : D) (τ : List D) : R (Option D) := match bindT tg x env with
  | some env' => (evalC Φ co env' τ).bind fun b τ => if b then (evalE Φ el env' τ).kept fun d τ => .ok (some d) τ else .ok none τ
  | none => .stuck
theorem turn_ok {el : E} {tg : Tg} {co : Oe} {x : D} {r : Option D} (h : turnF Φ el tg co env x τ = .ok r τ') : ∃ env' b τ1, bindT tg x env = some env' ∧ evalC Φ co env' τ = .ok b τ1 ∧
    ((b = false ∧ r = none ∧ τ' = τ1) ∨ (b = true ∧ ∃ rv d, evalE Φ el env' τ1 = .ok rv τ' ∧ rv.keep = some d ∧ r = some d)) := by
  unfold turnF at h
  cases e : bindT tg x env with
  | none => rw [e] at h; cases h
  | some env' =>
    rw [e] at h
    simp only at h
    cases e2 : evalC Φ co env' τ with
    | stuck => rw [e2] at h; cases h
    | exc _ _ _ => rw [e2] at h; cases h
    | ok b τ1 =>
      rw [e2] at h
      refine ⟨env', b, τ1, rfl, e2, ?_⟩
      cases b with
      | false => cases h; exact .inl ⟨rfl, rfl, rfl⟩
      | true =>
        have h : (evalE Φ el env' τ1).kept (fun d τ => .ok (some d) τ) = .ok r τ' := h
        cases e3 : evalE Φ el env' τ1 with
        | stuck => rw [e3] at h; cases h
        | exc _ _ _ => rw [e3] at h; cases h
        | ok rv τ2 =>
          rw [e3] at h
          have h : (match rv.keep with
            | some d => R.ok (some d) τ2
            | none => .stuck) = .ok r τ' := h
          cases e4 : rv.keep with
          | none => rw [e4] at h; cases h
          | some d =>
            rw [e4] at h
            cases h
            exact .inr ⟨rfl, rv, d, by first | rfl | exact e3, e4, rfl⟩
/-- what a comprehension has come to: the new list at Dl -/
structure LcW (K : PySem.W.Frag) (mg : Str → Option Value) (hx : Hx) (H1 : Hp) (G1 : Gs) (fp rs : List Addr) (σ : L2.St) (env : Env) (Dl : Addr) (acc : List D) (τ : List D) (H : Hp) (G : Gs) : Prop where
  sr : SR K mg hx H G fp rs σ env τ
  fr : FrameE H1 G1 H G
  at_ : ∃ vs, H Dl = some (.lst vs) ∧ RFs K mg G acc vs
  nf : G.fr Dl = none
  ne : G.hd ≠ some Dl
theorem LcW.out {Dl : Addr} {acc : List D} (s1 : SR K mg hx H1 G1 fp rs σ env τ') (hD : H1 Dl = none) : Dl ∉ fp ++ rs := fun h => by
  obtain ⟨o, e⟩ := s1.liveAt Dl h
  rw [hD] at e; cases e
theorem Sub.none {G H : Hp} (b : Sub G H) {a : Addr} (h : H a = none) : G a = none := by
  cases e : G a with
  | none => rfl
  | some o =>
    obtain ⟨u, z⟩ := b.at e
    rw [z] at h; cases h
/-- a step keeps it -/
theorem LcW.step {Dl : Addr} {acc : List D} (w : LcW K mg hx H1 G1 fp rs σ env Dl acc τ H G) (p : FrameE H G H' G') (b : Sub G'.fr H') (h : HandAt K mg H' G' τ') : LcW K mg hx H1 G1 fp rs σ env Dl acc τ' H' G' := by
  obtain ⟨vs, e, r⟩ := w.at_
  have k := p.keep Dl _ e w.ne
  exact ⟨w.sr.next p b h, w.fr.trans p, ⟨vs, k.1.nd rfl, RFs.mono p.gle r⟩, by rw [k.2 rfl]; exact w.nf, by rw [p.hd]; exact w.ne⟩
/-- an item is appended -/
theorem LcW.push {Dl : Addr} {acc : List D} {d : D} {v : V} {f : List Addr} {rv : RV} {lv : List Addr} {Hs : Hp} (hout : Dl ∉ fp ++ rs) (hD : H1 Dl = none) (w : LcW K mg hx H1 G1 fp rs σ env Dl acc τ H G) (r : RVr K mg lv H G f rv v) (e : rv.keep = some d) (n : Fresh Hs G f)
    (hs : ∀ a ∈ fp ++ rs, ∃ o, Hs a = some o) (hs2 : ∃ o, Hs Dl = some o) (h1 : ∀ a o, H1 a = some o → ∃ u, Hs a = some u) : ∃ acc' , H Dl = some (.lst acc') ∧ acc'.length = acc.length ∧ LcW K mg hx H1 G1 fp rs σ env Dl (acc ++ [d]) τ (upd H Dl (.lst (acc' ++ [v]))) (G.add H f) := by
  obtain ⟨vs, eD, rr⟩ := w.at_
  have off : ∀ a ∈ f, a ∉ fp ++ rs := fun a ha z => by
    obtain ⟨o, e⟩ := hs a z
    rw [n.new a ha] at e; cases e
  have offD : Dl ∉ f := fun z => by
    obtain ⟨o, e⟩ := hs2
    rw [n.new Dl z] at e; cases e
  have g : GLe G (G.add H f) := Gs.le_add n.nf
  have sr2 : SR K mg hx H (G.add H f) fp rs σ env τ := by
    refine ⟨fun a o e => ?_, w.sr.nd, fun a ha => ?_, ?_, w.sr.out, fun a ha => ?_, RE.stay g Stays.refl Stays.refl w.sr.env⟩
    · by_cases ha : a ∈ f
      · rw [Gs.add_in ha] at e; exact .inl e
      · rw [Gs.add_out ha] at e; exact w.sr.sub a o e
    · rw [Gs.add_out fun z => off a z (List.mem_append_left _ ha)]; exact w.sr.nf a ha
    · rcases w.sr.hand with h | ⟨h, a, vs, e1, e2, r, z⟩
      · exact .inl h
      · exact .inr ⟨h, a, vs, e1, e2, RFs.mono g r, by rw [Gs.add_out fun y => n.ne a y e1]; exact z⟩
    · obtain ⟨h1, h2, h3, o, h4, t⟩ := w.sr.rok a ha
      exact ⟨h1, h2, by rw [Gs.add_out fun y => off a y (List.mem_append_right _ ha)]; exact h3, o, h4, t⟩
  have nD : (G.add H f).fr Dl = none := by rw [Gs.add_out offD]; exact w.nf
  refine ⟨vs, eD, rr.length, sr2.updOut hout nD w.ne, ⟨fun a o e hd => ?_, fun a o e => g.1 a o (w.fr.le a o e), w.fr.hd⟩, ⟨vs ++ [v], upd_same, (RFs.mono g rr).append ⟨v, [], rfl, RVr.keep r e n.nf, rfl⟩⟩, nD, w.ne⟩
  obtain ⟨k1, k2⟩ := w.fr.keep a o e hd
  have hne : a ≠ Dl := fun z => by rw [z, hD] at e; cases e
  have hnf : a ∉ f := fun z => by
    obtain ⟨u, q⟩ := h1 a o e
    rw [n.new a z] at q; cases q
  refine ⟨?_, fun t => by rw [Gs.add_out hnf]; exact k2 t⟩
  rcases k1 with k1 | ⟨d1, d2, ob, k1⟩
  · exact .inl (by rw [upd_ne hne]; exact k1)
  · exact .inr ⟨d1, d2, ob, by rw [upd_ne hne]; exact k1⟩
end
section
variable {X : Cx} {W : WX} {hx : Hx} {Φ : Phi} {k : Nat} {a b c : E} {x y z tg elt iter : Expr} {pos p : Pos}
theorem compL_sat {α : Type} {K : PySem.W.Frag} {mg : Str → Option Value} {H : Hp} {G : Gs} {fp rs : List Addr} {σ : L2.St} {env : Env} {P : α → List D → Prop} {f : D → List D → R (Option D)} {g : List D → List D → R α} : ∀ {xs acc : List D} {τ : List D}, SatR K mg hx W H G fp rs σ env ((compL f xs acc τ).bind g) P →
    ∃ ys τe, compL f xs acc τ = .ok ys τe ∧ SatR K mg hx W H G fp rs σ env (g ys τe) P
  | [], acc, τ, h => ⟨acc, τ, rfl, h⟩
  | x :: xs, acc, τ, h => by
    have e : compL f (x :: xs) acc τ = match f x τ with
      | .ok (some y) τ' => if acc.length < LIM then compL f xs (acc ++ [y]) τ' else .stuck
      | .ok none τ' => compL f xs acc τ'
      | _ => .stuck := rfl
    cases h1 : f x τ with
    | stuck => rw [e, h1] at h; exact h.elim
    | exc _ _ _ => rw [e, h1] at h; exact h.elim
    | ok r τ' =>
      cases r with
      | none =>
        rw [e, h1] at h ⊢
        exact compL_sat h
      | some y =>
        rw [e, h1] at h ⊢
        simp only at h ⊢
        by_cases hl : acc.length < LIM
        · rw [if_pos hl] at h ⊢
          exact compL_sat h
        · rw [if_neg hl] at h
          exact h.elim
theorem compL_cons {f : D → List D → R (Option D)} {x : D} {xs acc ys : List D} {τ τe : List D} (h : compL f (x :: xs) acc τ = .ok ys τe) : ∃ r τ', f x τ = .ok r τ' ∧ ((r = none ∧ compL f xs acc τ' = .ok ys τe) ∨ ∃ y, r = some y ∧ acc.length < LIM ∧ compL f xs (acc ++ [y]) τ' = .ok ys τe) := by
  have e : compL f (x :: xs) acc τ = match f x τ with
    | .ok (some y) τ' => if acc.length < LIM then compL f xs (acc ++ [y]) τ' else .stuck
    | .ok none τ' => compL f xs acc τ'
    | _ => .stuck := rfl
  rw [e] at h
  cases h1 : f x τ with
  | stuck => rw [h1] at h; cases h
  | exc _ _ _ => rw [h1] at h; cases h
  | ok r τ' =>
    rw [h1] at h
    refine ⟨r, τ', rfl, ?_⟩
    cases r with
    | none => exact .inl ⟨rfl, h⟩
    | some y =>
      simp only at h
      by_cases hl : acc.length < LIM
      · rw [if_pos hl] at h
        exact .inr ⟨y, rfl, hl, h⟩
      · rw [if_neg hl] at h
        cases h
abbrev cC (X : Cx) (hx : Hx) (Φ : Phi) (c : Oe) : TT := tC X.K X.mg hx Φ c
theorem lc_turn {K : PySem.W.Frag} {mg : Str → Option Value} {H1 H : Hp} {G1 G : Gs} {fp rs : List Addr} {σ : L2.St} {env : Env} {τ : List D} {Dl : Addr} {el : E} {tgI : Tg} {co : Oe} {vs : List Nat} {acc : List D} {r : Option D} {τ2 : List D} {xd : D} {xv : V} {Nx : Hp → Prop}
    (hout : Dl ∉ fp ++ rs) (hD : H1 Dl = none) (hsub : ∀ i ∈ tgI.ixs, i ∈ vs) (w : LcW K mg hx H1 G1 fp rs σ env Dl acc τ H G) (rx : RF K mg G xd xv) (ht : turnF Φ el tgI co (wipeE env vs) xd τ = .ok r τ2)
    (hl : ∀ y, r = some y → acc.length < LIM) (hN : ∀ H' G', r = none → FrameT (fun x => x = Dl) H G H' G' → LcW K mg hx H1 G1 fp rs σ env Dl acc τ2 H' G' → Nx H') (hS : ∀ y H' G', r = some y → FrameT (fun x => x = Dl) H G H' G' → LcW K mg hx H1 G1 fp rs σ env Dl (acc ++ [y]) τ2 H' G' → Nx H') :
    tgG K tgI xv (L2.wipe σ vs) H fun σ2 H3 => L2.wipe σ2 vs = L2.wipe σ vs ∧ tC K mg hx Φ co σ2 H3 fun b H4 =>
      if b = true then tE K mg hx W0 Φ el σ2 H4 fun y H5 => ∃ acc, H5 Dl = some (.lst acc) ∧ acc.length < sizeLine ∧ Nx (upd H5 Dl (.lst (acc ++ [y]))) else Nx H4 := by
  obtain ⟨env', b, τ3, eb, ec, q⟩ := turn_ok ht
  obtain ⟨fpw, sbw, sw⟩ := w.sr.wipe vs
  refine tg_bind sw rx eb fun σ2 fp2 sb2 ag s2 => ⟨wipe_agree ag hsub, G, fp2, rs, env', τ, s2, b, τ3, ec, fun H4 G4 s4 fr4 => ?_⟩
  have w4 := w.step fr4 s4.sub s4.hand
  rcases q with ⟨rfl, er, e2⟩ | ⟨rfl, rv, d, ee, ek, er⟩
  · exact hN H4 G4 er (fr4.toT (s4.there' fr4)) (by rw [e2]; exact w4)
  · show tE K mg hx W0 Φ el σ2 H4 fun y H5 => ∃ acc, H5 Dl = some (.lst acc) ∧ acc.length < sizeLine ∧ Nx (upd H5 Dl (.lst (acc ++ [y])))
    refine ⟨G4, fp2, rs, env', τ3, s4, ?_⟩
    rw [ee]
    intro v H5 G5 f5 s5 fr5 r5 n5
    have w5 := w4.step fr5 s5.sub s5.hand
    obtain ⟨vs4, eD, _⟩ := w4.at_
    obtain ⟨acc', e1, l, w6⟩ := LcW.push hout hD w5 r5 ek n5 w4.sr.liveAt ⟨_, eD⟩ fun a o e => by
      cases q : H4 a with
      | none => rw [w4.sr.there' w4.fr a q] at e; cases e
      | some u => exact ⟨u, rfl⟩
    have f45 := fr4.trans fr5
    have th := s5.there' f45
    have g5 : GLe G5 (G5.add H5 f5) := Gs.le_add n5.nf
    refine ⟨acc', e1, lim_lt (by rw [l]; exact hl d er), hS d _ _ er ⟨fun a o e hne hd => ?_, fun a o e => g5.1 a o (f45.le a o e), fun h e => f45.hd.trans e, fun h e => .inl (f45.hd.symm.trans e), fun a e => ?_⟩ w6⟩
    · obtain ⟨k1, k2⟩ := f45.keep a o e hd
      have hnf : a ∉ f5 := fun z => by
        have : H a = none := (s4.there' fr4) a (n5.new a z)
        rw [e] at this; cases this
      refine ⟨?_, fun t => by rw [Gs.add_out hnf]; exact k2 t⟩
      rcases k1 with k1 | ⟨d1, d2, ob, k1⟩
      · exact .inl (by rw [upd_ne hne]; exact k1)
      · exact .inr ⟨d1, d2, ob, by rw [upd_ne hne]; exact k1⟩
    · by_cases hne : a = Dl
      · rw [hne, upd_same] at e; cases e
      · rw [upd_ne hne] at e
        exact th a e
theorem s_comp {own : List (Str × Nat)} {scope : Scope} {ifs : List Expr} {it : It} {tgI : Tg} {co : Oe} {el : E} {vs : List Nat} (c : Ctx Φ k X W) (hi : PI X tg iter (yT X hx W Φ false it)) (ok : BlkOk X.N X.env.scope scope own) (hown : own.map (·.2) = vs) (hsub : ∀ i ∈ tgI.ixs, i ∈ vs)
    (hg : ∀ (s : Shared) (H : Hp) (C : Addr) (cl : List (Str × Addr)) (fp : List Addr), PG (X.blk s H scope (compEnvC scope cl C X.env) fp) tg (tgG X.K tgI)) (ht : ∀ (s : Shared) (H : Hp) (C : Addr) (cl : List (Str × Addr)) (fp : List Addr), PTs (X.blk s H scope (compEnvC scope cl C X.env) fp) ifs (cC X hx Φ co))
    (he : ∀ (s : Shared) (H : Hp) (C : Addr) (cl : List (Str × Addr)) (fp : List Addr), PE (X.blk s H scope (compEnvC scope cl C X.env) fp) elt (eT X hx W0 Φ el)) (hs : ∀ x, foldedSetIterable iter X.env x = pure x) :
    (∀ σ H Q, eT X hx W Φ (.comp el tgI it co vs) σ H Q → tLc (yT X hx W Φ false it) (tgG X.K tgI) (cC X hx Φ co) (eT X hx W0 Φ el) (own.map (·.2)) σ H Q) := by
  intro σ H Q ⟨G, fp, rs, env, τ, s, q⟩
  rw [hown]
  rw [evalE] at q
  refine ⟨G, fp, rs, env, τ, s, SatR.mono (SatR.bind q) fun xs τ1 q J H1 G1 s1 fr1 y1 Dl hD => ?_⟩
  obtain ⟨ys, τe, ec, q⟩ := compL_sat q
  have q : OkE X.K X.mg hx H G fp rs σ env Q (.own (.lst ys)) τe := q
  have q := q.back fr1 (s1.there' fr1)
  refine ⟨fun i m H' => m = xs.length - i ∧ i ≤ xs.length ∧ ∃ acc τ' G', LcW X.K X.mg hx H1 G1 fp rs σ env Dl acc τ' H' G' ∧ compL (turnF Φ el tgI co (wipeE env vs)) (xs.drop i) acc τ' = .ok ys τe, ⟨xs.length, by simp, Nat.zero_le _, [], τ1, G1, ?_, ec⟩, ?_⟩
  · have st : StepP H1 G1 (upd H1 Dl (.lst [])) G1 := StepP.new s1.sub hD
    exact ⟨s1.step st, st.frame, ⟨[], upd_same, rfl⟩, s1.sub.none hD, fun e => by
      obtain ⟨⟨vs, z⟩, _⟩ := s1.hand.there e
      rw [hD] at z; cases z⟩
  · rintro i m H' ⟨rfl, hi, acc, τ', G', w, ec⟩
    have ft : FrameT (avOf false H G fp rs) H1 G1 H' G' := w.fr.toT fun a e => w.sr.there' w.fr a e
    by_cases hlt : i < xs.length
    · refine .inr ?_
      rw [List.drop_eq_getElem_cons hlt] at ec
      obtain ⟨r, τ2, et, qq⟩ := compL_cons ec
      obtain ⟨go, yl⟩ := y1.go i xs[i] H' G' ft w.sr.now (List.getElem?_eq_getElem hlt)
      refine ⟨go, fun H2 => ∃ acc τ' G', LcW X.K X.mg hx H1 G1 fp rs σ env Dl acc τ' H2 G' ∧ compL (turnF Φ el tgI co (wipeE env vs)) (xs.drop (i + 1)) acc τ' = .ok ys τe, fun H2 n => ⟨xs.length - (i + 1), by omega, rfl, hlt, n⟩, fun xv H2 hy => ?_⟩
      obtain ⟨G2, st, rx⟩ := yl xv H2 hy
      have w2 := w.step st.frame st.sub (w.sr.hand.step w.sr.sub st)
      refine lc_turn (LcW.out (acc := acc) s1 hD) hD hsub w2 rx et (fun y e => ?_) (fun H3 G3 e _ w3 => ?_) fun y H3 G3 e _ w3 => ?_
      · rcases qq with ⟨e2, _⟩ | ⟨y', e2, l, _⟩
        · rw [e] at e2; cases e2
        · exact l
      · rcases qq with ⟨_, ec⟩ | ⟨y', e2, _⟩
        · exact ⟨acc, τ2, G3, w3, ec⟩
        · rw [e] at e2; cases e2
      · rcases qq with ⟨e2, _⟩ | ⟨y', e2, _, ec⟩
        · rw [e] at e2; cases e2
        · rw [e] at e2; cases e2
          exact ⟨_, τ2, G3, w3, ec⟩
    · have e : i = xs.length := by omega
      subst e
      rw [List.drop_length] at ec
      cases ec
      obtain ⟨us, eD, rr⟩ := w.at_
      refine .inl ⟨y1.stop _ H' G' ft w.sr.now (Nat.le_refl _), q (.ref Dl) H' G' [Dl] w.sr w.fr ⟨Dl, us, rfl, rfl, eD, rr⟩ ⟨by simp, fun a ha => ?_, fun a ha => ?_, fun a ha => ?_⟩⟩
      all_goals rw [List.mem_singleton.mp ha]
      · exact hD
      · exact w.nf
      · exact w.ne
theorem compL2_sat {α : Type} {K : PySem.W.Frag} {mg : Str → Option Value} {H : Hp} {G : Gs} {fp rs : List Addr} {σ : L2.St} {env : Env} {P : α → List D → Prop} {f : D → List D → List D → R (List D)} {g : List D → List D → R α} : ∀ {xs acc : List D} {τ : List D}, SatR K mg hx W H G fp rs σ env ((compL2 f xs acc τ).bind g) P →
    ∃ ys τe, compL2 f xs acc τ = .ok ys τe ∧ SatR K mg hx W H G fp rs σ env (g ys τe) P
  | [], acc, τ, h => ⟨acc, τ, rfl, h⟩
  | x :: xs, acc, τ, h => by
    have e : compL2 f (x :: xs) acc τ = match f x acc τ with
      | .ok acc' τ' => compL2 f xs acc' τ'
      | _ => .stuck := rfl
    cases h1 : f x acc τ with
    | stuck => rw [e, h1] at h; exact h.elim
    | exc _ _ _ => rw [e, h1] at h; exact h.elim
    | ok r τ' =>
      rw [e, h1] at h ⊢
      exact compL2_sat h
theorem compL2_cons {f : D → List D → List D → R (List D)} {x : D} {xs acc ys : List D} {τ τe : List D} (h : compL2 f (x :: xs) acc τ = .ok ys τe) : ∃ r τ', f x acc τ = .ok r τ' ∧ compL2 f xs r τ' = .ok ys τe := by
  have e : compL2 f (x :: xs) acc τ = match f x acc τ with
    | .ok acc' τ' => compL2 f xs acc' τ'
    | _ => .stuck := rfl
  rw [e] at h
  cases h1 : f x acc τ with
  | stuck => rw [h1] at h; cases h
  | exc _ _ _ => rw [h1] at h; cases h
  | ok r τ' => rw [h1] at h; exact ⟨r, τ', rfl, h⟩
/-- one turn of the outer clause -/
def turn2F (Φ : Phi) (el : E) (tg : Tg) (it2 : It) (tg2 : Tg) (env : Env) (own2 : List Nat) (x : D) (acc : List D) (τ : List D) : R (List D) := match bindT tg x env with
  | some env' => (evalI Φ it2 env' τ).bind fun ys τ => compL (fun y τ => match bindT tg2 y (wipeE env' own2) with
      | some env2 => (evalE Φ el env2 τ).kept fun d τ => .ok (some d) τ
      | none => .stuck) ys acc τ
  | none => .stuck
theorem in_turn (Φ : Phi) (el : E) (tg2 : Tg) (env : Env) : (fun y τ => match bindT tg2 y env with
      | some env2 => (evalE Φ el env2 τ).kept fun d τ => .ok (some d) τ
      | none => .stuck) = turnF Φ el tg2 .no env := by
  funext y τ
  unfold turnF
  cases bindT tg2 y env with
  | none => rfl
  | some e =>
    simp only [evalC]
    rfl
theorem tC_no {K : PySem.W.Frag} {mg : Str → Option Value} {σ : L2.St} {H : Hp} {Q : Bool → Hp → Prop} (h : tC K mg hx Φ .no σ H Q) : tYes σ H Q := by
  obtain ⟨G, fp, rs, env, τ, s, b, τ', e, q⟩ := h
  rw [evalC] at e
  cases e
  exact q H G s FrameE.refl
theorem tgG_mono {K : PySem.W.Frag} {Q Q' : L2.St → Hp → Prop} (h : ∀ σ H, Q σ H → Q' σ H) : (∀ (tg : Tg) (v : V) (σ : L2.St) (H : Hp), tgG K tg v σ H Q → tgG K tg v σ H Q') := by
  have key : ∀ (tg : Tg), (∀ (Q Q' : L2.St → Hp → Prop), (∀ σ H, Q σ H → Q' σ H) → ∀ v σ H, tgG K tg v σ H Q → tgG K tg v σ H Q') := by
    intro tg
    refine Tg.rec (motive_1 := fun tg => ∀ (Q Q' : L2.St → Hp → Prop), (∀ σ H, Q σ H → Q' σ H) → ∀ v σ H, tgG K tg v σ H Q → tgG K tg v σ H Q') (motive_2 := fun ts => ∀ (Q Q' : L2.St → Hp → Prop), (∀ σ H, Q σ H → Q' σ H) → ∀ vs σ H, tgGs K ts vs σ H Q → tgGs K ts vs σ H Q') ?_ ?_ ?_ ?_ tg
    · intro i Q Q' h v σ H q
      exact h _ _ q
    · intro ts ih Q Q' h v σ H ⟨a, xs, e, hs, l, q⟩
      exact ⟨a, xs, e, hs, l, ih Q Q' h xs σ H q⟩
    · intro Q Q' h vs σ H ⟨e, q⟩
      exact ⟨e, h _ _ q⟩
    · intro t r ih1 ih2 Q Q' h vs σ H ⟨v, rest, e, q⟩
      exact ⟨v, rest, e, ih1 _ _ (fun σ1 H1 q1 => ih2 Q Q' h rest σ1 H1 q1) v σ H q⟩
  exact fun tg v σ H q => key tg Q Q' h v σ H q
theorem s_comp2 {own : List (Str × Nat)} {it it2 : It} {tgI tgJ : Tg} {el : E} {vs vs1 : List Nat} (hown : own.map (·.2) = vs) (hsub : ∀ i ∈ tgI.ixs, i ∈ vs) (hsub1 : ∀ i ∈ tgJ.ixs, i ∈ vs1) (hv : ∀ i ∈ vs1, i ∈ vs) :
    (∀ σ H Q, eT X hx W Φ (.comp2 el tgI it tgJ it2 vs vs1) σ H Q → tLc2 (yT X hx W Φ false it) (tgG X.K tgI) tYes (yT X hx W0 Φ false it2) (tgG X.K tgJ) tYes (eT X hx W0 Φ el) (own.map (·.2)) vs1 σ H Q) := by
  intro σ H Q ⟨G, fp, rs, env, τ, s, q⟩
  rw [hown]
  rw [evalE] at q
  refine ⟨G, fp, rs, env, τ, s, SatR.mono (SatR.bind q) fun xs τ1 q J H1 G1 s1 fr1 y1 Dl hD => ?_⟩
  obtain ⟨ys, τe, ec, q⟩ := compL2_sat q
  have q : OkE X.K X.mg hx H G fp rs σ env Q (.own (.lst ys)) τe := q
  have q := q.back fr1 (s1.there' fr1)
  have out := LcW.out (acc := []) s1 hD
  refine ⟨fun i m H' => m = xs.length - i ∧ i ≤ xs.length ∧ ∃ acc τ' G', LcW X.K X.mg hx H1 G1 fp rs σ env Dl acc τ' H' G' ∧ compL2 (turn2F Φ el tgI it2 tgJ (wipeE env vs) vs1) (xs.drop i) acc τ' = .ok ys τe, ⟨xs.length, by simp, Nat.zero_le _, [], τ1, G1, ?_, ec⟩, ?_⟩
  · have st : StepP H1 G1 (upd H1 Dl (.lst [])) G1 := StepP.new s1.sub hD
    exact ⟨s1.step st, st.frame, ⟨[], upd_same, rfl⟩, s1.sub.none hD, fun e => by
      obtain ⟨⟨vs, z⟩, _⟩ := s1.hand.there e
      rw [hD] at z; cases z⟩
  · rintro i m H' ⟨rfl, hi, acc, τ', G', w, ec⟩
    have ft : FrameT (avOf false H G fp rs) H1 G1 H' G' := w.fr.toT fun a e => w.sr.there' w.fr a e
    by_cases hlt : i < xs.length
    · refine .inr ?_
      rw [List.drop_eq_getElem_cons hlt] at ec
      obtain ⟨r, τ2, et, ec2⟩ := compL2_cons ec
      obtain ⟨go, yl⟩ := y1.go i xs[i] H' G' ft w.sr.now (List.getElem?_eq_getElem hlt)
      refine ⟨go, fun H2 => ∃ acc τ' G', LcW X.K X.mg hx H1 G1 fp rs σ env Dl acc τ' H2 G' ∧ compL2 (turn2F Φ el tgI it2 tgJ (wipeE env vs) vs1) (xs.drop (i + 1)) acc τ' = .ok ys τe, fun H2 n => ⟨xs.length - (i + 1), by omega, rfl, hlt, n⟩, fun xv H2 hy => ?_⟩
      obtain ⟨G2, st, rx⟩ := yl xv H2 hy
      have w2 := w.step st.frame st.sub (w.sr.hand.step w.sr.sub st)
      unfold turn2F at et
      cases eb : bindT tgI xs[i] (wipeE env vs) with
      | none => rw [eb] at et; cases et
      | some env' =>
        rw [eb] at et
        simp only at et
        cases ei : evalI Φ it2 env' τ' with
        | stuck => rw [ei] at et; cases et
        | exc _ _ _ => rw [ei] at et; cases et
        | ok zs τ3 =>
          rw [ei] at et
          have et : compL (fun y τ => match bindT tgJ y (wipeE env' vs1) with
            | some env2 => (evalE Φ el env2 τ).kept fun d τ => .ok (some d) τ
            | none => .stuck) zs acc τ3 = .ok r τ2 := et
          rw [in_turn] at et
          obtain ⟨fpw, sbw, sw⟩ := w2.sr.wipe vs
          refine tg_bind sw rx eb fun σ2 fp2 sb2 ag s2 => ⟨wipe_agree ag hsub, ?_⟩
          show yT X hx W0 Φ false it2 σ2 H2 _
          refine ⟨G2, fp2, rs, env', τ', s2, ?_⟩
          have eI : evI Φ false it2 env' τ' = .ok zs τ3 := ei
          rw [eI]
          intro J1 H4 G4 s4 fr4 y4
          have out2 : Dl ∉ fp2 ++ rs := fun h => out (by
            rcases List.mem_append.mp h with z | z
            · exact List.mem_append_left _ ((sb2.trans sbw).subset z)
            · exact List.mem_append_right _ z)
          have w4o := w2.step fr4 s4.sub s4.hand
          have w4 : LcW X.K X.mg hx H1 G1 fp2 rs σ2 env' Dl acc τ3 H4 G4 := ⟨s4, w4o.fr, w4o.at_, w4o.nf, w4o.ne⟩
          obtain ⟨vsD, eD2, _⟩ := w2.at_
          have ap : Apart H2 G2 fp2 rs Dl := ⟨out2, w2.ne, w2.nf, _, eD2, rfl⟩
          have dlA : ∀ x, x = Dl → avOf false H2 G2 fp2 rs x := fun x e => .inr (by rw [e]; exact ap)
          refine ⟨fun j m H5 => m = zs.length - j ∧ j ≤ zs.length ∧ ∃ acc τ' G5, FrameT (avOf false H2 G2 fp2 rs) H4 G4 H5 G5 ∧ LcW X.K X.mg hx H1 G1 fp2 rs σ2 env' Dl acc τ' H5 G5 ∧ compL (turnF Φ el tgJ .no (wipeE env' vs1)) (zs.drop j) acc τ' = .ok r τ2, ⟨zs.length, by simp, Nat.zero_le _, acc, τ3, G4, FrameT.refl, w4, et⟩, ?_⟩
          rintro j m H5 ⟨rfl, hj, acc5, τ5, G5, ft5, w5, et5⟩
          by_cases hlt2 : j < zs.length
          · refine .inr ?_
            rw [List.drop_eq_getElem_cons hlt2] at et5
            obtain ⟨r6, τ6, et6, qq⟩ := compL_cons et5
            obtain ⟨go2, yl2⟩ := y4.go j zs[j] H5 G5 ft5 w5.sr.now (List.getElem?_eq_getElem hlt2)
            refine ⟨go2, fun H6 => ∃ acc τ' G5, FrameT (avOf false H2 G2 fp2 rs) H4 G4 H6 G5 ∧ LcW X.K X.mg hx H1 G1 fp2 rs σ2 env' Dl acc τ' H6 G5 ∧ compL (turnF Φ el tgJ .no (wipeE env' vs1)) (zs.drop (j + 1)) acc τ' = .ok r τ2, fun H6 n => ⟨zs.length - (j + 1), by omega, rfl, hlt2, n⟩, fun yv H6 hy6 => ?_⟩
            obtain ⟨G6, st6, ry⟩ := yl2 yv H6 hy6
            have w6 := w5.step st6.frame st6.sub (w5.sr.hand.step w5.sr.sub st6)
            have f6 : FrameT (avOf false H2 G2 fp2 rs) H4 G4 H6 G6 := ft5.trans (st6.toT (av := avOf false H2 G2 fp2 rs)) fun x hx => .inl hx
            refine tgG_mono (fun σ3 H7 ⟨hw, h⟩ => ⟨hw, tC_no h⟩) tgJ yv _ _ (lc_turn (el := el) (co := .no) out2 hD hsub1 w6 ry et6 (fun y e => ?_) (fun H7 G7 e ft7 w7 => ?_) fun y H7 G7 e ft7 w7 => ?_)
            · rcases qq with ⟨e2, _⟩ | ⟨y', e2, l, _⟩
              · rw [e] at e2; cases e2
              · exact l
            · rcases qq with ⟨_, ec⟩ | ⟨y', e2, _⟩
              · exact ⟨acc5, τ6, G7, f6.trans (ft7.imp dlA) fun x hx => .inl hx, w7, ec⟩
              · rw [e] at e2; cases e2
            · rcases qq with ⟨e2, _⟩ | ⟨y', e2, _, ec⟩
              · rw [e] at e2; cases e2
              · rw [e] at e2; cases e2
                exact ⟨_, τ6, G7, f6.trans (ft7.imp dlA) fun x hx => .inl hx, w7, ec⟩
          · have e : j = zs.length := by omega
            subst e
            rw [List.drop_length] at et5
            cases et5
            refine .inl ⟨y4.stop _ H5 G5 ft5 w5.sr.now (Nat.le_refl _), r, τ2, G5, ?_, ec2⟩
            exact ⟨s1.next w5.fr w5.sr.sub w5.sr.hand, w5.fr, w5.at_, w5.nf, w5.ne⟩
    · have e : i = xs.length := by omega
      subst e
      rw [List.drop_length] at ec
      cases ec
      obtain ⟨us, eD, rr⟩ := w.at_
      refine .inl ⟨y1.stop _ H' G' ft w.sr.now (Nat.le_refl _), q (.ref Dl) H' G' [Dl] w.sr w.fr ⟨Dl, us, rfl, rfl, eD, rr⟩ ⟨by simp, fun a ha => ?_, fun a ha => ?_, fun a ha => ?_⟩⟩
      all_goals rw [List.mem_singleton.mp ha]
      · exact hD
      · exact w.nf
      · exact w.ne
end
end Vi
end
section
set_option Elab.async false
set_option linter.all false
set_option maxRecDepth 100000
set_option maxHeartbeats 1000000
/-! Vi16: statements, their readings; the plain ones. -/
namespace Vi
open PySem PySem.Spec PyProof.Rows L2

section
variable (K : PySem.W.Frag) (mg : Str → Option Value) (hx : Hx)
/-- behind a statement -/
structure Aft (H : Hp) (G : Gs) (fp rs : List Addr) (σ' : L2.St) (env' : Env) (τ' : List D) (H' : Hp) (G' : Gs) (fp' : List Addr) : Prop where
  sr : SR K mg hx H' G' fp' rs σ' env' τ'
  fr : FrameT (· ∈ fp) H G H' G'
  sb : ∀ a ∈ fp', a ∈ fp ∨ H a = none
def SatO (W : WX) (H : Hp) (G : Gs) (fp rs : List Addr) (o : Out) (D : Ends) : Prop := match o with
  | .next env' τ' => ∀ σ' H' G' fp', Aft K mg hx H G fp rs σ' env' τ' H' G' fp' → D.nx σ' H'
  | .brk env' τ' => ∀ σ' H' G' fp', Aft K mg hx H G fp rs σ' env' τ' H' G' fp' → D.bk σ' H'
  | .cnt env' τ' => ∀ σ' H' G' fp', Aft K mg hx H G fp rs σ' env' τ' H' G' fp' → D.ct σ' H'
  | .ret rv env' τ' => ∀ v σ' H' G' fp' f, Aft K mg hx H G fp rs σ' env' τ' H' G' fp' → RVr K mg [] H' G' f rv v → FreshT fp H G' f fp' → D.rt v H'
  | .exc c fs env' τ' => ∀ C d ws σ' H' G' fp', Aft K mg hx H G fp rs σ' env' τ' H' G' fp' → mg c = some (.ref C) → H d = none → H' d = some (.xd ws) → RFf K mg G' fs ws → W (.ref C) (some d) σ' H'
  | .stuck => False
def tS (W : WX) (Φ : Phi) (n : Nat) (s : S) : TS := fun D σ H => ∃ G fp rs env τ, SR K mg hx H G fp rs σ env τ ∧ SatO K mg hx W H G fp rs (exec Φ n s env τ) D
def tSs (W : WX) (Φ : Phi) (n : Nat) (s : Ss) : TS := fun D σ H => ∃ G fp rs env τ, SR K mg hx H G fp rs σ env τ ∧ SatO K mg hx W H G fp rs (execs Φ n s env τ) D
end
section
variable {K : PySem.W.Frag} {mg : Str → Option Value} {hx : Hx} {W : WX} {H H' H2 : Hp} {G G' G2 : Gs} {fp fp' fp2 rs lv f : List Addr} {σ σ' σ2 : L2.St} {env env' env2 : Env} {τ τ' τ2 : List D} {Φ : Phi} {n : Nat}
theorem Aft.trans (a : Aft K mg hx H G fp rs σ' env' τ' H' G' fp') (b : Aft K mg hx H' G' fp' rs σ2 env2 τ2 H2 G2 fp2) : Aft K mg hx H G fp rs σ2 env2 τ2 H2 G2 fp2 :=
  ⟨b.sr, a.fr.trans b.fr a.sb, fun x hx => (b.sb x hx).elim (a.sb x) fun z => .inr (a.fr.there x z)⟩
theorem Aft.refl (s : SR K mg hx H G fp rs σ env τ) : Aft K mg hx H G fp rs σ env τ H G fp := ⟨s, FrameT.refl, fun _ h => .inl h⟩
theorem Aft.step (s : SR K mg hx H' G' fp rs σ env τ) (f : FrameE H G H' G') : Aft K mg hx H G fp rs σ env τ H' G' fp := ⟨s, f.toT (s.there' f), fun _ h => .inl h⟩
theorem Aft.sub (s : SR K mg hx H G fp' rs σ env τ) (h : fp'.Sublist fp) : Aft K mg hx H G fp rs σ env τ H G fp' := ⟨s, FrameT.refl, fun _ z => .inl (h.subset z)⟩
theorem SatO.back {o : Out} {D : Ends} (h : SatO K mg hx W H G fp rs o D) (a : Aft K mg hx H G fp rs σ' env' τ' H' G' fp') : SatO K mg hx W H' G' fp' rs o D := by
  cases o with
  | next env2 τ2 => exact fun σ2 H2 G2 fp2 b => h σ2 H2 G2 fp2 (a.trans b)
  | brk env2 τ2 => exact fun σ2 H2 G2 fp2 b => h σ2 H2 G2 fp2 (a.trans b)
  | cnt env2 τ2 => exact fun σ2 H2 G2 fp2 b => h σ2 H2 G2 fp2 (a.trans b)
  | ret rv env2 τ2 => exact fun v σ2 H2 G2 fp2 f b r n => h v σ2 H2 G2 fp2 f (a.trans b) r ⟨n.nd, fun x hx => (n.new x hx).elim (a.sb x) fun z => .inr (a.fr.there x z), n.nf, n.ne, n.off⟩
  | exc c fs env2 τ2 => exact fun C d ws σ2 H2 G2 fp2 b m nd e r => h C d ws σ2 H2 G2 fp2 (a.trans b) m (a.fr.there d nd) e r
  | stuck => exact h
theorem SatO.mono {o : Out} {D D' : Ends} (h : SatO K mg hx W H G fp rs o D) (h1 : ∀ σ H, D.nx σ H → D'.nx σ H) (h2 : ∀ σ H, D.bk σ H → D'.bk σ H) (h3 : ∀ σ H, D.ct σ H → D'.ct σ H) (h4 : ∀ v H, D.rt v H → D'.rt v H) : SatO K mg hx W H G fp rs o D' := by
  cases o with
  | next env2 τ2 => exact fun σ2 H2 G2 fp2 b => h1 _ _ (h σ2 H2 G2 fp2 b)
  | brk env2 τ2 => exact fun σ2 H2 G2 fp2 b => h2 _ _ (h σ2 H2 G2 fp2 b)
  | cnt env2 τ2 => exact fun σ2 H2 G2 fp2 b => h3 _ _ (h σ2 H2 G2 fp2 b)
  | ret rv env2 τ2 => exact fun v σ2 H2 G2 fp2 f b r n => h4 _ _ (h v σ2 H2 G2 fp2 f b r n)
  | exc c fs env2 τ2 => exact h
  | stuck => exact h
/-- .. of a value that is made first -/
theorem SatO.of {α : Type} {r : R α} {g : α → List D → Out} {D : Ends} (h : SatO K mg hx W H G fp rs (Out.of r env g) D) : SatR K mg hx W H G fp rs σ env r fun a τ => SatO K mg hx W H G fp rs (g a τ) D := by
  cases r with
  | ok a τ => exact h
  | exc c fs τ => exact fun C d ws H' G' s f m nd e r => h C d ws σ H' G' fp (Aft.step s f) m nd e r
  | stuck => exact h
theorem SatO.then {o : Out} {g : Env → List D → Out} {D : Ends} (h : SatO K mg hx W H G fp rs (o.then g) D) : SatO K mg hx W H G fp rs o { D with nx := fun σ' H' => ∃ G' fp' env' τ', SR K mg hx H' G' fp' rs σ' env' τ' ∧ SatO K mg hx W H' G' fp' rs (g env' τ') D } := by
  cases o with
  | next env2 τ2 => exact fun σ2 H2 G2 fp2 b => ⟨G2, fp2, env2, τ2, b.sr, SatO.back (show SatO K mg hx W H G fp rs (g env2 τ2) D from h) b⟩
  | brk env2 τ2 => exact h
  | cnt env2 τ2 => exact h
  | ret rv env2 τ2 => exact h
  | exc c fs env2 τ2 => exact h
  | stuck => exact h
end
theorem PS.imp {X : Cx} {s : Stmt} {t t' : TS} (h : PS X s t) (i : ∀ D σ H, t' D σ H → t D σ H) : PS X s t' := ⟨fun pins s0 σ H D I q => h.run pins s0 σ H D I (i D σ H q)⟩
theorem PSs.imp {X : Cx} {s : List Stmt} {t t' : TS} (h : PSs X s t) (i : ∀ D σ H, t' D σ H → t D σ H) : PSs X s t' := ⟨fun pins s0 σ H D I q => h.run pins s0 σ H D I (i D σ H q)⟩
abbrev sT (X : Cx) (hx : Hx) (W : WX) (Φ : Phi) (n : Nat) (s : S) : TS := tS X.K X.mg hx W Φ n s
abbrev ssT (X : Cx) (hx : Hx) (W : WX) (Φ : Phi) (n : Nat) (s : Ss) : TS := tSs X.K X.mg hx W Φ n s
section
variable {X : Cx} {W : WX} {hx : Hx} {Φ : Phi} {k n : Nat} {a b c : E} {x y z tg e : Expr} {pos pos' p : Pos} {st : Stmt} {rest : List Stmt} {s : S} {ss : Ss} {D : Ends} {σ : L2.St} {H : Hp}
theorem ss_nil : PSs X [] (ssT X hx W Φ n .nil) := PSs.imp pss_nil fun D σ H ⟨G, fp, rs, env, τ, s, q⟩ => by
  rw [execs] at q
  exact q σ H G fp (Aft.refl s)
theorem ss_cons (h1 : PS X st (sT X hx W Φ n s)) (h2 : PSs X rest (ssT X hx W Φ n ss)) : PSs X (st :: rest) (ssT X hx W Φ n (.cons s ss)) := PSs.imp (pss_cons h1 h2) fun D σ H ⟨G, fp, rs, env, τ, s, q⟩ => by
  rw [execs] at q
  exact ⟨G, fp, rs, env, τ, s, SatO.mono q.then (fun σ' H' ⟨G', fp', env', τ', s', q'⟩ => ⟨G', fp', rs, env', τ', s', q'⟩) (fun _ _ h => h) (fun _ _ h => h) fun _ _ h => h⟩
/-- a step of the reading alone -/
theorem ss_ghost (h2 : PSs X rest (ssT X hx W Φ n ss)) (hs : ∀ {G fp rs env τ} {D : Ends} {σ : L2.St} {H : Hp}, SR X.K X.mg hx H G fp rs σ env τ → SatO X.K X.mg hx W H G fp rs (exec Φ n s env τ) D → ∃ G' fp' env', Aft X.K X.mg hx H G fp rs σ env' τ H G' fp' ∧ exec Φ n s env τ = .next env' τ) :
    PSs X rest (ssT X hx W Φ n (.cons s ss)) := PSs.imp h2 fun D σ H ⟨G, fp, rs, env, τ, s, q⟩ => by
  rw [execs] at q
  obtain ⟨G', fp', env', a, e⟩ := hs s q.then
  rw [e] at q
  exact ⟨G', fp', rs, env', τ, a.sr, SatO.back (show SatO X.K X.mg hx W H G fp rs (execs Φ n ss env' τ) D from q) a⟩
theorem s_pass : PS X (.Pass pos) (sT X hx W Φ n .pass) := PS.imp ps_pass fun D σ H ⟨G, fp, rs, env, τ, s, q⟩ => by
  rw [exec] at q
  exact q σ H G fp (Aft.refl s)
theorem s_brk : PS X (.Break pos) (sT X hx W Φ n .brk) := PS.imp ps_break fun D σ H ⟨G, fp, rs, env, τ, s, q⟩ => by
  rw [exec] at q
  exact q σ H G fp (Aft.refl s)
theorem s_cnt : PS X (.Continue pos) (sT X hx W Φ n .cnt) := PS.imp ps_continue fun D σ H ⟨G, fp, rs, env, τ, s, q⟩ => by
  rw [exec] at q
  exact q σ H G fp (Aft.refl s)
theorem s_retN : PS X (.Return none pos) (sT X hx W Φ n .retN) := PS.imp ps_retN fun D σ H ⟨G, fp, rs, env, τ, s, q⟩ => by
  rw [exec] at q
  exact q .non σ H G fp [] (Aft.refl s) ⟨rfl, rfl⟩ ⟨List.nodup_nil, (fun _ h => nomatch h), (fun _ h => nomatch h), (fun _ h => nomatch h), (fun _ h => nomatch h)⟩
theorem FreshT.nil {fp fp' : List Addr} {H : Hp} {G : Gs} : FreshT fp H G [] fp' := ⟨List.nodup_nil, (fun _ h => nomatch h), (fun _ h => nomatch h), (fun _ h => nomatch h), (fun _ h => nomatch h)⟩
theorem s_drop (he : PE X x (eT X hx W Φ a)) (hs : swapsWith x none pos.line X.env = pure false) : PS X (.Expr x pos) (sT X hx W Φ n (.drop a)) := PS.imp (ps_expr he hs) fun D σ H ⟨G, fp, rs, env, τ, s, q⟩ => by
  rw [exec] at q
  refine ⟨G, fp, rs, env, τ, s, SatR.mono q.of fun rv τ' q v H' G' f s' fr r nw => ?_⟩
  exact q σ H' G' fp (Aft.step s' fr)
/-- a value's slot -/
theorem SR.setOwn {K : PySem.W.Frag} {mg : Str → Option Value} {H H' : Hp} {G G' : Gs} {fp rs f : List Addr} {σ : L2.St} {env : Env} {τ τ' : List Vi.D} {cl : Cell} {v : V} (s0 : SR K mg hx H G fp rs σ env τ) (s : SR K mg hx H' G' fp rs σ env τ') (nw : Fresh H G' f) (r : RC K mg G' true H' cl f v) (i : Nat) :
    ∃ fp', (∀ a ∈ fp', a ∈ fp ∨ H a = none) ∧ SR K mg hx H' G' fp' rs (σ.set i (some v)) (env.set i (.own cl)) τ' := by
  have off : ∀ a ∈ f, a ∉ fp ++ rs := fun a ha z => by
    obtain ⟨o, e⟩ := s0.liveAt a z
    rw [nw.new a ha] at e; cases e
  cases e : env[i]? with
  | none => exact ⟨fp, fun a h => .inl h, s.subl (.refl _) (s.env.setOut e)⟩
  | some sl =>
    obtain ⟨A, g, B, o, e1, e2, h, kk⟩ := s.env.at e
    have sb : (A ++ [] ++ B).Sublist fp := by rw [e1]; exact subl_mid (List.nil_sublist _)
    have sAB : ∀ a, a ∈ A ++ B → a ∈ fp := fun a ha => sb.subset (by simpa using ha)
    have nAB : (A ++ B).Nodup := by simpa using s.nd.sublist sb
    have mem : ∀ a, a ∈ A ++ f ++ B → a ∈ A ++ B ∨ a ∈ f := fun a ha => by
      simp only [List.mem_append] at ha ⊢
      rcases ha with (ha | ha) | ha
      · exact .inl (.inl ha)
      · exact .inr ha
      · exact .inl (.inr ha)
    refine ⟨A ++ f ++ B, fun a ha => (mem a ha).elim (fun z => .inl (sAB a z)) fun z => .inr (nw.new a z), ⟨s.sub, ?_, fun a ha => (mem a ha).elim (fun z => s.nf a (sAB a z)) (nw.nf a), s.hand, fun a e z => (mem a z).elim (fun y => s.out a e (sAB a y)) fun y => nw.ne a y e, fun a ha => ⟨fun z => ?_, (s.rok a ha).2⟩, ?_⟩⟩
    · rw [List.nodup_append] at nAB
      obtain ⟨nA, nB, nab⟩ := nAB
      rw [List.nodup_append, List.nodup_append]
      refine ⟨⟨nA, nw.nd, fun a ha b hb e => ?_⟩, nB, fun a ha b hb e => ?_⟩
      · subst e
        exact off a hb (List.mem_append_left _ (sAB a (List.mem_append_left _ ha)))
      · subst e
        rcases List.mem_append.mp ha with z | z
        · exact nab a z a hb rfl
        · exact off a z (List.mem_append_left _ (sAB a (List.mem_append_right _ hb)))
    · rcases mem a z with y | y
      · exact (s.rok a ha).1 (sAB a y)
      · exact off a y (List.mem_append_right _ ha)
    · exact kk H' G' (.own cl) f (some v) (GLe.refl _) Stays.refl Stays.refl ⟨v, rfl, r⟩
theorem asg_imp {K : PySem.W.Frag} {mg : Str → Option Value} {tgI : Tg} (q : tS K mg hx W Φ n (.asg tgI a) D σ H) : tE K mg hx W Φ a σ H fun x H1 => tgG K tgI x σ H1 D.nx := by
  obtain ⟨G, fp, rs, env, τ, s, q⟩ := q
  rw [exec] at q
  refine ⟨G, fp, rs, env, τ, s, SatR.mono q.of fun rv τ' q v H' G' f s' fr r nw => ?_⟩
  have ft : FrameT (· ∈ fp) H G H' G' := fr.toT (s'.there' fr)
  have fz : ∀ {d : Vi.D} {env' : Env}, rv = .fz d → bindT tgI d env = some env' → SatO K mg hx W H G fp rs (.next env' τ') D → tgG K tgI v σ H' D.nx := fun {d env'} e eb q2 => by
    subst e
    exact tg_bind s' r.2 eb fun σ2 fp2 sb _ s2 => q2 σ2 H' G' fp2 ⟨s2, ft, fun a ha => .inl (sb.subset ha)⟩
  cases tgI with
  | name i =>
    cases rv with
    | ro _ => exact q.elim
    | fz d => exact fz rfl rfl q
    | own cl =>
      obtain ⟨fp', sb, s2⟩ := s.setOwn s' nw r i
      exact q _ H' G' fp' ⟨s2, ft, sb⟩
  | tup ts =>
    cases rv with
    | ro _ => exact q.elim
    | own cl => exact q.elim
    | fz d =>
      simp only at q
      cases eb : bindT (.tup ts) d env with
      | none => rw [eb] at q; exact q.elim
      | some env' => rw [eb] at q; exact fz rfl eb q
theorem s_asg {tgI : Tg} (he : PE X e (eT X hx W Φ a)) (hg : PG X tg (tgG X.K tgI)) (hs : swapsWithSole [tg] e pos.line X.env = pure false) (hw : swappedStores [tg] e X.env = pure none) (h1 : (assignEach [tg] X.env).map (·.2) = [assign tg X.env]) : PS X (.Assign [tg] e pos) (sT X hx W Φ n (.asg tgI a)) :=
  PS.imp (ps_asg he hg hs hw h1) fun D σ H q => asg_imp q
/-- name = [..] -/
theorem s_asgC {i : Nat} {te : TE} (h : PS X st (tAsg te (gName i))) (hi : ∀ σ H Q, eT X hx W Φ a σ H Q → te σ H Q) : PS X st (sT X hx W Φ n (.asg (.name i) a)) := PS.imp h fun D σ H q => hi _ _ _ (asg_imp q)
theorem s_if {a' b' : List Stmt} {sa sb : Ss} (hc : PT X x (cT X hx W Φ c)) (ha : PSs X a' (ssT X hx W Φ n sa)) (hb : PSs X b' (ssT X hx W Φ n sb)) : PS X (.If x a' b' pos) (sT X hx W Φ n (.iff c sa sb)) := PS.imp (ps_if hc ha hb) fun D σ H ⟨G, fp, rs, env, τ, s, q⟩ => by
  rw [exec] at q
  refine ⟨G, fp, rs, env, τ, s, SatR.mono q.of fun rv τ' q => ?_⟩
  cases e : rv.d with
  | none => rw [e] at q; exact q.elim
  | some d =>
    rw [e] at q
    cases d <;> first | exact q.elim | skip
    rename_i bb
    refine ⟨bb, rfl, fun H' G' s' fr => ?_⟩
    cases bb with
    | true => exact ⟨G', fp, rs, env, τ', s', SatO.back (show SatO X.K X.mg hx W H G fp rs (execs Φ n sa env τ') D from q) (Aft.step s' fr)⟩
    | false => exact ⟨G', fp, rs, env, τ', s', SatO.back (show SatO X.K X.mg hx W H G fp rs (execs Φ n sb env τ') D from q) (Aft.step s' fr)⟩
theorem s_ret (he : PE X x (eT X hx W Φ a)) (hv : ∀ i, a = .var i → PE X x (tVar i)) : PS X (.Return (some x) pos) (sT X hx W Φ n (.ret a)) := by
  by_cases ha : ∃ i, a = .var i
  · obtain ⟨i, rfl⟩ := ha
    refine PS.imp (ps_ret (hv i rfl)) fun D σ H ⟨G, fp, rs, env, τ, s, q⟩ => ?_
    rw [exec] at q
    cases e : env[i]? with
    | none => simp only [e] at q; exact q.elim
    | some sl =>
      obtain ⟨A, f, B, o, e1, e2, h, kk⟩ := s.env.at e
      cases sl with
      | un => simp only [e] at q; exact q.elim
      | ro _ => simp only [e] at q; exact q.elim
      | exn _ _ => simp only [e] at q; exact q.elim
      | fz d =>
        simp only [e] at q
        obtain ⟨_, v, ev, r⟩ := h
        exact ⟨v, by rw [e2, ev], q v σ H G fp [] (Aft.refl s) ⟨rfl, r⟩ FreshT.nil⟩
      | own cl =>
        simp only [e] at q
        obtain ⟨v, ev, r⟩ := h
        have sb : (A ++ [] ++ B).Sublist fp := by rw [e1]; exact subl_mid (List.nil_sublist _)
        have re : RE X.K X.mg hx G rs H (env.set i .un) (A ++ [] ++ B) σ := by
          have := kk H G .un [] o (GLe.refl _) Stays.refl Stays.refl rfl
          have es : σ.set i o = σ := by
            apply List.ext_getElem?
            intro j
            by_cases hj : i = j
            · subst hj
              rw [List.getElem?_set_self (List.getElem?_eq_some_iff.mp e2).1, e2]
            · rw [List.getElem?_set_ne hj]
          rw [es] at this
          exact this
        have nd := s.nd
        rw [e1] at nd
        have memf : ∀ x ∈ f, x ∈ fp := fun x hx => by rw [e1]; simp [hx]
        refine ⟨v, by rw [e2, ev], q v σ H G _ f (Aft.sub (s.subl sb re) sb) r ⟨?_, fun x hx => .inl (memf x hx), fun x hx => s.nf x (memf x hx), fun x hx z => s.out x z (memf x hx), fun x hx z => ?_⟩⟩
        · rw [List.nodup_append, List.nodup_append] at nd
          exact nd.1.2.1
        · rw [List.nodup_append, List.nodup_append] at nd
          obtain ⟨⟨n1, n2, n3⟩, n4, n5⟩ := nd
          have z : x ∈ A ∨ x ∈ B := by simpa using z
          rcases z with z | z
          · exact n3 x z x hx rfl
          · exact n5 x (List.mem_append_right _ hx) x z rfl
  · refine PS.imp (ps_ret he) fun D σ H ⟨G, fp, rs, env, τ, s, q⟩ => ?_
    have e : exec Φ n (.ret a) env τ = Out.of (evalE Φ a env τ) env fun v τ => match v with
      | .ro _ => .stuck
      | v => .ret v env τ := by
      rw [exec]
      all_goals first | rfl | (intro i hi; exact absurd ⟨i, hi⟩ ha)
    rw [e] at q
    refine ⟨G, fp, rs, env, τ, s, SatR.mono q.of fun rv τ' q v H' G' f s' fr r nw => ?_⟩
    have ft : FrameT (· ∈ fp) H G H' G' := fr.toT (s'.there' fr)
    have off : ∀ x ∈ f, x ∉ fp := fun x hx z => by
      obtain ⟨o, e⟩ := s.liveAt x (List.mem_append_left _ z)
      rw [nw.new x hx] at e; cases e
    have fin : SatO X.K X.mg hx W H G fp rs (.ret rv env τ') D → RVr X.K X.mg [] H' G' f rv v → D.rt v H' := fun q r => q v σ H' G' fp f ⟨s', ft, fun _ h => .inl h⟩ r ⟨nw.nd, fun x hx => .inr (nw.new x hx), nw.nf, nw.ne, off⟩
    cases rv with
    | ro _ => exact q.elim
    | fz d => exact fin q r
    | own cl => exact fin q r
end
end Vi
end
section
set_option Elab.async false
set_option linter.all false
set_option maxRecDepth 100000
set_option maxHeartbeats 1000000
/-! Vi17: loops; what is frozen by word. -/
namespace Vi
open PySem PySem.Spec PyProof.Rows L2

section
variable {K : PySem.W.Frag} {mg : Str → Option Value} {hx : Hx} {W : WX} {H H' H2 : Hp} {G G' G2 : Gs} {fp fp' fp2 rs lv f : List Addr} {σ σ' σ2 : L2.St} {env env' env2 : Env} {τ τ' τ2 : List D} {Φ : Phi} {n : Nat}
theorem set_same {α : Type} {l : List α} {i : Nat} {o : α} (h : l[i]? = some o) : l.set i o = l := by
  apply List.ext_getElem?
  intro j
  by_cases hj : i = j
  · subst hj
    rw [List.getElem?_set_self (List.getElem?_eq_some_iff.mp h).1, h]
  · rw [List.getElem?_set_ne hj]
/-- a slot is forgotten -/
theorem SR.kill1 (s : SR K mg hx H G fp rs σ env τ) (i : Nat) : ∃ fp', fp'.Sublist fp ∧ SR K mg hx H G fp' rs σ (env.set i .un) τ := by
  cases e : env[i]? with
  | none =>
    refine ⟨fp, .refl _, s.subl (.refl _) ?_⟩
    have := s.env.setOut (s' := .un) (o' := none) e
    have hl : env.length ≤ i := List.getElem?_eq_none_iff.mp e
    rw [List.set_eq_of_length_le (show σ.length ≤ i by rw [s.env.len]; exact hl)] at this
    exact this
  | some sl =>
    obtain ⟨A, f, B, o, e1, e2, h, kk⟩ := s.env.at e
    have sb : (A ++ [] ++ B).Sublist fp := by rw [e1]; exact subl_mid (List.nil_sublist _)
    have re := kk H G .un [] o (GLe.refl _) Stays.refl Stays.refl rfl
    rw [set_same e2] at re
    exact ⟨A ++ [] ++ B, sb, s.subl sb re⟩
theorem SR.kill (s : SR K mg hx H G fp rs σ env τ) : ∀ vs : List Nat, ∃ fp', fp'.Sublist fp ∧ SR K mg hx H G fp' rs σ (wipeE env vs) τ
  | [] => ⟨fp, .refl _, s⟩
  | v :: vs => by
    obtain ⟨f1, h1, s1⟩ := s.kill vs
    obtain ⟨f2, h2, s2⟩ := s1.kill1 v
    exact ⟨f2, h2.trans h1, s2⟩
/-- one's own thing is frozen -/
theorem SR.frz1 {i : Nat} {c : Cell} (s : SR K mg hx H G fp rs σ env τ) (e : env[i]? = some (.own c)) : ∃ G' fp', Aft K mg hx H G fp rs σ (env.set i (.fz c.frz)) τ H G' fp' ∧ fp'.Sublist fp := by
  obtain ⟨A, f, B, o, e1, e2, h, kk⟩ := s.env.at e
  have sb : (A ++ [] ++ B).Sublist fp := by rw [e1]; exact subl_mid (List.nil_sublist _)
  have memf : ∀ x ∈ f, x ∈ fp := fun x hx => by rw [e1]; simp [hx]
  have nd := s.nd
  rw [e1, List.nodup_append, List.nodup_append] at nd
  obtain ⟨⟨n1, n2, n3⟩, n4, n5⟩ := nd
  have off : ∀ x ∈ A ++ [] ++ B, x ∉ f := fun x hx hf => by
    have z : x ∈ A ∨ x ∈ B := by simpa using hx
    rcases z with z | z
    · exact n3 x z x hf rfl
    · exact n5 x (List.mem_append_right _ hf) x z rfl
  have g : GLe G (G.add H f) := Gs.le_add fun x hx => s.nf x (memf x hx)
  obtain ⟨v, ev, r⟩ := h
  have re := kk H (G.add H f) (.fz c.frz) [] (some v) g Stays.refl Stays.refl ⟨rfl, v, rfl, RC.frz g r fun a ha o e => by rw [Gs.add_in ha]; exact e⟩
  rw [ev] at e2
  rw [set_same e2] at re
  refine ⟨G.add H f, A ++ [] ++ B, ⟨⟨fun a o e => ?_, s.nd.sublist sb, fun a ha => ?_, ?_, fun x e z => s.out x e (sb.subset z), fun a ha => ?_, re⟩, ⟨fun a o e hn hd => ⟨.inl e, fun t => Gs.add_out fun z => hn (memf a z)⟩, fun a o e => g.1 a o e, fun h e => e, fun h e => .inl e, fun a e => e⟩, fun a ha => .inl (sb.subset ha)⟩, sb⟩
  · by_cases ha : a ∈ f
    · rw [Gs.add_in ha] at e; exact .inl e
    · rw [Gs.add_out ha] at e; exact s.sub a o e
  · rw [Gs.add_out (off a ha)]; exact s.nf a (sb.subset ha)
  · rcases s.hand with h | ⟨h, a, vs, e1, e2, r, z⟩
    · exact .inl h
    · exact .inr ⟨h, a, vs, e1, e2, RFs.mono g r, by rw [Gs.add_out fun y => s.out a e1 (memf a y)]; exact z⟩
  · obtain ⟨h1, h2, h3, h4⟩ := s.rok a ha
    exact ⟨fun z => h1 (sb.subset z), h2, by rw [Gs.add_out fun y => h1 (memf a y)]; exact h3, h4⟩
theorem SR.frzRoot {e : E} (s : SR K mg hx H G fp rs σ env τ) (h : Vi.frzRoot env e = some env') : ∃ G' fp', Aft K mg hx H G fp rs σ env' τ H G' fp' ∧ fp'.Sublist fp := by
  unfold Vi.frzRoot at h
  split at h
  · rename_i i
    split at h
    · rename_i c e
      cases h
      exact s.frz1 e
    · cases h
      exact ⟨G, fp, Aft.refl s, .refl _⟩
  · cases h
    exact ⟨G, fp, Aft.refl s, .refl _⟩
theorem SR.frzIt {it : It} (s : SR K mg hx H G fp rs σ env τ) (h : Vi.frzIt env it = some env') : ∃ G' fp', Aft K mg hx H G fp rs σ env' τ H G' fp' ∧ fp'.Sublist fp := by
  cases it with
  | over e => exact s.frzRoot h
  | enum e => exact s.frzRoot h
  | rng1 e => cases h; exact ⟨G, fp, Aft.refl s, .refl _⟩
  | rng2 a b => cases h; exact ⟨G, fp, Aft.refl s, .refl _⟩
  | zip a b =>
    have h : (Vi.frzRoot env a).bind (fun env => Vi.frzRoot env b) = some env' := h
    cases h1 : Vi.frzRoot env a with
    | none => rw [h1] at h; cases h
    | some env1 =>
      rw [h1] at h
      obtain ⟨G1, f1, a1, b1⟩ := s.frzRoot h1
      obtain ⟨G2, f2, a2, b2⟩ := a1.sr.frzRoot (show Vi.frzRoot env1 b = some env' from h)
      exact ⟨G2, f2, a1.trans a2, b2.trans b1⟩
end
section
variable {X : Cx} {W : WX} {hx : Hx} {Φ : Phi} {k n : Nat} {a b c : E} {x y z tg e iter : Expr} {pos pos' p : Pos} {st : Stmt} {rest body : List Stmt} {s : S} {ss sb : Ss}
theorem ss_frz {i : Nat} (h2 : PSs X rest (ssT X hx W Φ n ss)) : PSs X rest (ssT X hx W Φ n (.cons (.frz i) ss)) := ss_ghost h2 fun {G fp rs env τ D σ H} s q => by
  rw [exec] at q ⊢
  cases h : frzS env i with
  | none => rw [h] at q; exact q.elim
  | some env' =>
    have h0 := h
    unfold frzS at h
    split at h
    · rename_i c e
      cases h
      obtain ⟨G', fp', a, _⟩ := s.frz1 e
      exact ⟨G', fp', _, a, rfl⟩
    · cases h
      exact ⟨G, fp, _, Aft.refl s, rfl⟩
    · cases h
theorem ss_kill {is : List Nat} (h2 : PSs X rest (ssT X hx W Φ n ss)) : PSs X rest (ssT X hx W Φ n (.cons (.kill is) ss)) := ss_ghost h2 fun {G fp rs env τ D σ H} s q => by
  rw [exec]
  obtain ⟨fp', sb, s'⟩ := s.kill is
  exact ⟨G, fp', _, Aft.sub s' sb, rfl⟩
theorem s_while (hp : PassesOwn (model X.prog X.w) X.A X.env X.xe) (hc : PT X x (cT X hx W Φ c)) (hb : PSs X body (ssT X hx W Φ n sb)) : PS X (.While x body [] pos) (sT X hx W Φ n (.whil c sb)) := by
  refine PS.imp (ps_while hp hc hb) fun D σ H ⟨G, fp, rs, env, τ, s, q⟩ => ?_
  rw [exec] at q
  refine ⟨fun m σ' H' => ∃ G' fp' env' τ', SR X.K X.mg hx H' G' fp' rs σ' env' τ' ∧ SatO X.K X.mg hx W H' G' fp' rs (whileN (fun env τ => match evalE Φ c env τ with
      | .ok v τ => match v.d with
        | some (.bl k) => .inr (k, τ)
        | _ => .inl .stuck
      | .exc c fs τ => .inl (.exc c fs env τ)
      | .stuck => .inl .stuck) (fun env τ => execs Φ n sb env τ) m env' τ') D, ⟨n, G, fp, env, τ, s, q⟩, ?_⟩
  rintro m σ1 H1 ⟨G1, fp1, env1, τ1, s1, q1⟩
  cases m with
  | zero => exact q1.elim
  | succ m =>
    refine ⟨G1, fp1, rs, env1, τ1, s1, ?_⟩
    unfold whileN at q1
    cases ec : evalE Φ c env1 τ1 with
    | stuck => simp only [ec] at q1; exact q1.elim
    | exc cn fs τ2 =>
      simp only [ec] at q1
      exact fun C d ws H' G' s' f mm nd e r => q1 C d ws σ1 H' G' fp1 (Aft.step s' f) mm nd e r
    | ok v τ2 =>
      simp only [ec] at q1
      cases ed : v.d with
      | none => simp only [ed] at q1; exact q1.elim
      | some d =>
        simp only [ed] at q1
        cases d <;> first | exact q1.elim | skip
        rename_i kb
        refine ⟨kb, ed, fun H2 G2 s2 f2 => ?_⟩
        cases kb with
        | false =>
          simp only at q1
          exact q1 σ1 H2 G2 fp1 (Aft.step s2 f2)
        | true =>
          simp only at q1
          have q2 := q1.back (Aft.step s2 f2)
          rw [if_pos rfl]
          refine ⟨fun σ' H' => ∃ G' fp' env' τ', SR X.K X.mg hx H' G' fp' rs σ' env' τ' ∧ SatO X.K X.mg hx W H' G' fp' rs (whileN (fun env τ => match evalE Φ c env τ with
      | .ok v τ => match v.d with
        | some (.bl k) => .inr (k, τ)
        | _ => .inl .stuck
      | .exc c fs τ => .inl (.exc c fs env τ)
      | .stuck => .inl .stuck) (fun env τ => execs Φ n sb env τ) m env' τ') D, fun σ' H' h => ⟨m, Nat.lt_succ_self _, h⟩, G2, fp1, rs, env1, τ2, s2, ?_⟩
          cases eb : execs Φ n sb env1 τ2 with
          | stuck => rw [eb] at q2; exact q2
          | next env2 τ3 => rw [eb] at q2; exact fun σ3 H3 G3 fp3 a3 => ⟨G3, fp3, env2, τ3, a3.sr, SatO.back (D := D) q2 a3⟩
          | cnt env2 τ3 => rw [eb] at q2; exact fun σ3 H3 G3 fp3 a3 => ⟨G3, fp3, env2, τ3, a3.sr, SatO.back (D := D) q2 a3⟩
          | brk env2 τ3 => rw [eb] at q2; exact q2
          | ret rv env2 τ3 => rw [eb] at q2; exact q2
          | exc cn fs env2 τ3 => rw [eb] at q2; exact q2
theorem s_for {it : It} {tgI : Tg} (hp : PassesOwn (model X.prog X.w) X.A X.env X.xe) (hcalm : X.calm = true) (hi : PI X tg iter (yT X hx W Φ true it)) (hg : PG X tg (tgG X.K tgI)) (hb : PSs X body (ssT X hx W Φ n sb)) (hs : ∀ v, foldedSetIterable iter X.env v = pure v) :
    PS X (.For tg iter body [] pos) (sT X hx W Φ n (.for_ tgI it sb)) := by
  refine PS.imp (ps_for hp hcalm hi hg hb hs) fun D σ H ⟨G0, fp0, rs, env0, τ, s0, q0⟩ => ?_
  rw [exec] at q0
  cases ef : frzIt env0 it with
  | none => rw [ef] at q0; exact q0.elim
  | some env =>
    rw [ef] at q0
    obtain ⟨G, fp, a0, _⟩ := s0.frzIt ef
    have s := a0.sr
    have q := SatO.back (show SatO X.K X.mg hx W H G0 fp0 rs (Out.of (evalJ Φ it env τ) env fun xs τ => forL (fun x env τ => match bindT tgI x env with
        | some env => execs Φ n sb env τ
        | none => .stuck) xs env τ) D from q0) a0
    refine ⟨G, fp, rs, env, τ, s, SatR.mono q.of fun xs τ1 q J H1 G1 s1 fr1 y1 => ?_⟩
    have q := q.back (Aft.step s1 fr1)
    refine ⟨fun i m σ' H' => m = xs.length - i ∧ i ≤ xs.length ∧ ∃ G' fp' env' τ', SR X.K X.mg hx H' G' fp' rs σ' env' τ' ∧ FrameT (avOf true H G fp rs) H1 G1 H' G' ∧ (∀ a ∈ fp', a ∈ fp ∨ H1 a = none) ∧ SatO X.K X.mg hx W H' G' fp' rs (forL (fun x env τ => match bindT tgI x env with
        | some env => execs Φ n sb env τ
        | none => .stuck) (xs.drop i) env' τ') D, ⟨xs.length, by simp, Nat.zero_le _, G1, fp, env, τ1, s1, FrameT.refl, fun a h => .inl h, q⟩, ?_⟩
    rintro i m σ2 H2 ⟨rfl, hi, G2, fp2, env2, τ2, s2, ft, sb2, q2⟩
    by_cases hlt : i < xs.length
    · refine .inr ?_
      rw [List.drop_eq_getElem_cons hlt] at q2
      obtain ⟨go, yl⟩ := y1.go i xs[i] H2 G2 ft s2.now (List.getElem?_eq_getElem hlt)
      refine ⟨go, fun σ' H' => ∃ G' fp' env' τ', SR X.K X.mg hx H' G' fp' rs σ' env' τ' ∧ FrameT (avOf true H G fp rs) H1 G1 H' G' ∧ (∀ a ∈ fp', a ∈ fp ∨ H1 a = none) ∧ SatO X.K X.mg hx W H' G' fp' rs (forL (fun x env τ => match bindT tgI x env with
        | some env => execs Φ n sb env τ
        | none => .stuck) (xs.drop (i + 1)) env' τ') D, fun σ' H' h => ⟨xs.length - (i + 1), by omega, rfl, hlt, h⟩, fun xv H3 hy => ?_⟩
      obtain ⟨G3, st, rx⟩ := yl xv H3 hy
      have s3 := s2.step st
      unfold forL at q2
      cases eb : bindT tgI xs[i] env2 with
      | none => simp only [eb] at q2; exact q2.elim
      | some env3 =>
        simp only [eb] at q2
        refine tg_bind s3 rx eb fun σ4 fp4 sb4 _ s4 => ⟨G3, fp4, rs, env3, τ2, s4, ?_⟩
        have q4 := q2.back (⟨s4, st.toT, fun a ha => .inl (sb4.subset ha)⟩ : Aft X.K X.mg hx H2 G2 fp2 rs σ4 env3 τ2 H3 G3 fp4)
        have again : ∀ {env5 : Env} {τ5 : List Vi.D}, SatO X.K X.mg hx W H3 G3 fp4 rs (forL (fun x env τ => match bindT tgI x env with
        | some env => execs Φ n sb env τ
        | none => .stuck) (xs.drop (i + 1)) env5 τ5) D → ∀ σ5 H5 G5 fp5, Aft X.K X.mg hx H3 G3 fp4 rs σ5 env5 τ5 H5 G5 fp5 → ∃ G' fp' env' τ', SR X.K X.mg hx H5 G' fp' rs σ5 env' τ' ∧ FrameT (avOf true H G fp rs) H1 G1 H5 G' ∧ (∀ a ∈ fp', a ∈ fp ∨ H1 a = none) ∧ SatO X.K X.mg hx W H5 G' fp' rs (forL (fun x env τ => match bindT tgI x env with
        | some env => execs Φ n sb env τ
        | none => .stuck) (xs.drop (i + 1)) env' τ') D := fun {env5 τ5} q5 σ5 H5 G5 fp5 a5 => by
          have th3 : ∀ a, H3 a = none → H1 a = none := fun a e => ft.there a (st.there a e)
          have in4 : ∀ a ∈ fp4, a ∈ fp ∨ H1 a = none := fun a ha => sb2 a (sb4.subset ha)
          have ft3 : FrameT (avOf true H G fp rs) H1 G1 H3 G3 := ft.trans (st.toT (av := fun _ => False)) fun x hx => hx.elim
          refine ⟨G5, fp5, env5, τ5, a5.sr, ft3.trans a5.fr fun a ha => ?_, fun a ha => ?_, q5.back a5⟩
          · rcases in4 a ha with z | z
            · exact .inl (.inl ⟨rfl, z⟩)
            · exact .inr z
          · rcases a5.sb a ha with z | z
            · exact in4 a z
            · exact .inr (th3 a z)
        cases ex : execs Φ n sb env3 τ2 with
        | stuck => rw [ex] at q4; exact q4
        | next env5 τ5 => rw [ex] at q4; exact again q4
        | cnt env5 τ5 => rw [ex] at q4; exact again q4
        | brk env5 τ5 => rw [ex] at q4; exact q4
        | ret rv env5 τ5 => rw [ex] at q4; exact q4
        | exc cn fs env5 τ5 => rw [ex] at q4; exact q4
    · have e : i = xs.length := by omega
      subst e
      rw [List.drop_length] at q2
      exact .inl ⟨y1.stop _ H2 G2 ft s2.now (Nat.le_refl _), q2 σ2 H2 G2 fp2 (Aft.refl s2)⟩
end
end Vi
end
section
set_option Elab.async false
set_option linter.all false
set_option maxRecDepth 100000
set_option maxHeartbeats 1000000
/-! Vi18: what is written. -/
namespace Vi
open PySem PySem.Spec PyProof.Rows L2

section
variable {K : PySem.W.Frag} {mg : Str → Option Value} {hx : Hx} {W : WX} {H H' H2 : Hp} {G G' G2 : Gs} {fp fp' fp2 rs lv f : List Addr} {σ σ' σ2 : L2.St} {env env' env2 : Env} {τ τ' τ2 : List D} {Φ : Phi} {n : Nat} {a : E}
/-- one's own thing of one object is written -/
theorem SR.own1 {i : Nat} {c : Cell} (s : SR K mg hx H G fp rs σ env τ) (e : env[i]? = some (.own c)) (hf : ∀ f v, RC K mg G true H c f v → ∃ p, v = .ref p ∧ f = [p]) :
    ∃ p, σ[i]? = some (some (.ref p)) ∧ RC K mg G true H c [p] (.ref p) ∧ p ∈ fp ∧ ∀ o' c', RC K mg G true (upd H p o') c' [p] (.ref p) → Aft K mg hx H G fp rs σ (env.set i (.own c')) τ (upd H p o') G fp := by
  obtain ⟨A, f, B, o, e1, e2, h, kk⟩ := s.env.at e
  obtain ⟨v, ev, r⟩ := h
  obtain ⟨p, rfl, rfl⟩ := hf f v r
  subst ev
  have hp : p ∈ fp := by rw [e1]; simp
  have nd := s.nd
  rw [e1, List.nodup_append, List.nodup_append] at nd
  obtain ⟨⟨n1, n2, n3⟩, n4, n5⟩ := nd
  have off : ∀ x ∈ A ++ B, x ≠ p := fun x hx z => by
    rcases List.mem_append.mp hx with y | y
    · exact n3 x y p (by simp) z
    · exact n5 p (by simp) x y z.symm
  have offr : ∀ x ∈ rs, x ≠ p := fun x hx z => (s.rok x hx).1 (z ▸ hp)
  refine ⟨p, e2, r, hp, fun o' c' r' => ?_⟩
  have re := kk (upd H p o') G (.own c') [p] (some (.ref p)) (GLe.refl _) (fun x hx u e => by rw [upd_ne (off x hx)]; exact e) (fun x hx u e => by rw [upd_ne (offr x hx)]; exact e) ⟨_, rfl, r'⟩
  rw [set_same e2, ← e1] at re
  have frn := s.nf p hp
  refine ⟨⟨fun x u e => ?_, s.nd, s.nf, ?_, s.out, fun x hx => ?_, re⟩, ⟨fun x u e hn hd => ⟨.inl ?_, fun _ => rfl⟩, fun _ _ e => e, fun _ e => e, fun _ e => .inl e, fun x e => ?_⟩, fun x hx => .inl hx⟩
  · have : x ≠ p := fun z => by rw [z, frn] at e; cases e
    rw [upd_ne this]
    exact s.sub x u e
  · rcases s.hand with h | ⟨h, y, vs, q1, q2, q3, q4⟩
    · exact .inl h
    · exact .inr ⟨h, y, vs, q1, by rw [upd_ne (fun z => s.out p (by rw [← z]; exact q1) hp)]; exact q2, q3, q4⟩
  · obtain ⟨h1, h2, h3, u, h4, t⟩ := s.rok x hx
    exact ⟨h1, h2, h3, u, by rw [upd_ne (offr x hx)]; exact h4, t⟩
  · rw [upd_ne (fun z => hn (by rw [z]; exact hp))]; exact e
  · by_cases hxp : x = p
    · rw [hxp, upd_same] at e; cases e
    · rw [upd_ne hxp] at e; exact e
theorem RFk.put {k : Key} {d : D} {v : V} (r : RF K mg G d v) : ∀ {kvs : List (Key × D)} {ws : List (Key × V)}, RFk K mg G kvs ws → RFk K mg G (Vi.put kvs k d) (putK ws k v) := by
  have any : ∀ {kvs : List (Key × D)} {ws : List (Key × V)}, RFk K mg G kvs ws → (kvs.any fun kv => decide (kv.1 = k)) = (ws.any fun kv => decide (kv.1 = k)) := by
    intro kvs
    induction kvs with
    | nil => intro ws h; rw [show ws = [] from h]; rfl
    | cons p kvs ih => intro ws ⟨w, t, e, q, rr⟩; rw [e, List.any_cons, List.any_cons, ih rr]
  have app : ∀ {kvs : List (Key × D)} {ws : List (Key × V)}, RFk K mg G kvs ws → RFk K mg G (kvs ++ [(k, d)]) (ws ++ [(k, v)]) := by
    intro kvs
    induction kvs with
    | nil => intro ws h; rw [show ws = [] from h]; exact ⟨v, [], rfl, r, rfl⟩
    | cons p kvs ih => intro ws ⟨w, t, e, q, rr⟩; rw [e]; exact ⟨w, t ++ [(k, v)], rfl, q, ih rr⟩
  have mp : ∀ {kvs : List (Key × D)} {ws : List (Key × V)}, RFk K mg G kvs ws → RFk K mg G (kvs.map fun kv => if kv.1 = k then (kv.1, d) else kv) (ws.map fun kv => if kv.1 = k then (kv.1, v) else kv) := by
    intro kvs
    induction kvs with
    | nil => intro ws h; rw [show ws = [] from h]; exact rfl
    | cons p kvs ih =>
      intro ws ⟨w, t, e, q, rr⟩
      rw [e, List.map_cons, List.map_cons]
      by_cases hk : p.1 = k
      · rw [if_pos hk, if_pos hk]; exact ⟨v, _, rfl, r, ih rr⟩
      · rw [if_neg hk, if_neg hk]; exact ⟨w, _, rfl, q, ih rr⟩
  intro kvs ws h
  unfold Vi.put putK
  rw [any h]
  split
  · exact mp h
  · exact app h
theorem RFt.put {k : List Key} {d : D} {v : V} (r : RF K mg G d v) : ∀ {kvs : List (List Key × D)} {ws : List (List Key × V)}, RFt K mg G kvs ws → RFt K mg G (Vi.put kvs k d) (putK ws k v) := by
  have any : ∀ {kvs : List (List Key × D)} {ws : List (List Key × V)}, RFt K mg G kvs ws → (kvs.any fun kv => decide (kv.1 = k)) = (ws.any fun kv => decide (kv.1 = k)) := by
    intro kvs
    induction kvs with
    | nil => intro ws h; rw [show ws = [] from h]; rfl
    | cons p kvs ih => intro ws ⟨w, t, e, q, rr⟩; rw [e, List.any_cons, List.any_cons, ih rr]
  have app : ∀ {kvs : List (List Key × D)} {ws : List (List Key × V)}, RFt K mg G kvs ws → RFt K mg G (kvs ++ [(k, d)]) (ws ++ [(k, v)]) := by
    intro kvs
    induction kvs with
    | nil => intro ws h; rw [show ws = [] from h]; exact ⟨v, [], rfl, r, rfl⟩
    | cons p kvs ih => intro ws ⟨w, t, e, q, rr⟩; rw [e]; exact ⟨w, t ++ [(k, v)], rfl, q, ih rr⟩
  have mp : ∀ {kvs : List (List Key × D)} {ws : List (List Key × V)}, RFt K mg G kvs ws → RFt K mg G (kvs.map fun kv => if kv.1 = k then (kv.1, d) else kv) (ws.map fun kv => if kv.1 = k then (kv.1, v) else kv) := by
    intro kvs
    induction kvs with
    | nil => intro ws h; rw [show ws = [] from h]; exact rfl
    | cons p kvs ih =>
      intro ws ⟨w, t, e, q, rr⟩
      rw [e, List.map_cons, List.map_cons]
      by_cases hk : p.1 = k
      · rw [if_pos hk, if_pos hk]; exact ⟨v, _, rfl, r, ih rr⟩
      · rw [if_neg hk, if_neg hk]; exact ⟨w, _, rfl, q, ih rr⟩
  intro kvs ws h
  unfold Vi.put putK
  rw [any h]
  split
  · exact mp h
  · exact app h
/-! ### values that are made ahead of a store -/
theorem tE_keptO {g : RV → List D → Out} {Q' : VK} {Ds : Ends} (s : SR K mg hx H G fp rs σ env τ) (h : SatO K mg hx W H G fp rs (Out.of (evalE Φ a env τ) env g) Ds) (hk : ∀ rv τ' H G, SatO K mg hx W H G fp rs (g rv τ') Ds → ∃ d, rv.keep = some d)
    (k : ∀ rv d v τ' H' G', rv.keep = some d → SR K mg hx H' G' fp rs σ env τ' → FrameE H G H' G' → RF K mg G' d v → SatO K mg hx W H' G' fp rs (g rv τ') Ds → Q' v H') : tE K mg hx W Φ a σ H Q' := by
  refine ⟨G, fp, rs, env, τ, s, SatR.mono h.of fun rv τ' q => ?_⟩
  intro v H' G' f s' fr r n
  obtain ⟨d, e⟩ := hk rv τ' H G q
  have s2 := s.add s' n
  have f2 := fr.add n
  exact k rv d v τ' H' _ e s2 f2 (RVr.keep r e n.nf) (SatO.back q (Aft.step s2 f2))
theorem tE_lookO {g : RV → List D → Out} {Q' : VK} {Ds : Ends} (s : SR K mg hx H G fp rs σ env τ) (h : SatO K mg hx W H G fp rs (Out.of (evalE Φ a env τ) env g) Ds) (hk : ∀ rv τ' H G, SatO K mg hx W H G fp rs (g rv τ') Ds → ∃ d, rv.d = some d)
    (k : ∀ rv d v τ' H' G', rv.d = some d → SR K mg hx H' G' fp rs σ env τ' → FrameE H G H' G' → RT K mg H' G' d v → SatO K mg hx W H' G' fp rs (g rv τ') Ds → Q' v H') : tE K mg hx W Φ a σ H Q' := by
  refine ⟨G, fp, rs, env, τ, s, SatR.mono h.of fun rv τ' q => ?_⟩
  intro v H' G' f s' fr r n
  obtain ⟨d, e⟩ := hk rv τ' H G q
  exact k rv d v τ' H' G' e s' fr (RVr.rt s'.sub s'.hand.ok e r n.ne s'.live) (SatO.back q (Aft.step s' fr))
/-- the hand is written -/
theorem SR.hand1 {j : Nat} {d : D} {v : V} (s : SR K mg hx H G fp rs σ env τ) {p : Addr} (hp : G.hd = some p) (r : RF K mg G d v) : ∃ vs, H p = some (.lst vs) ∧ vs.length = τ.length ∧ (j < τ.length → Aft K mg hx H G fp rs σ env (τ.set j d) (upd H p (.lst (vs.set j v))) G fp) := by
  rcases s.hand with ⟨_, z⟩ | ⟨hn, q, vs, e1, e2, rr, nf⟩
  · rw [z] at hp; cases hp
  · rw [hp] at e1
    cases e1
    refine ⟨vs, e2, rr.length, fun hj => ?_⟩
    have fr : FrameE H G (upd H p (.lst (vs.set j v))) G := ⟨fun x o e hd => ⟨.inl (by rw [upd_ne (fun z => hd (by rw [z]; exact hp))]; exact e), fun _ => rfl⟩, fun _ _ e => e, rfl⟩
    refine Aft.step (s.next fr (fun x o e => ?_) (.inr ⟨fun z => hn (by simpa using z), p, vs.set j v, hp, upd_same, RFs.set r j rr, nf⟩)) fr
    rw [upd_ne (fun z => by rw [z, nf] at e; cases e)]
    exact s.sub x o e
end
section
variable {X : Cx} {W : WX} {hx : Hx} {Φ : Phi} {k n : Nat} {a b c : E} {x y z tg e iter : Expr} {pos pos' p q' : Pos} {st : Stmt} {rest body : List Stmt} {s : S} {ss sb : Ss} {nm : Str} {i : Nat}
theorem PSet.or {t t' : TSet} (h : PSet X t) (h' : PSet X t') : PSet X (fun o i v H Q => t o i v H Q ∨ t' o i v H Q) := by
  intro pins s σ H o i v ov iv u Q I ro ri rv q
  rcases q with q | q
  · exact h pins s σ H o i v ov iv u Q I ro ri rv q
  · exact h' pins s σ H o i v ov iv u Q I ro ri rv q
theorem cell_lst {K : PySem.W.Frag} {mg : Str → Option Value} {G : Gs} {H : Hp} {xs : List Vi.D} : ∀ f v, RC K mg G true H (.lst xs) f v → ∃ p, v = .ref p ∧ f = [p] := fun f v ⟨a, vs, ev, ef, _⟩ => ⟨a, ev, ef⟩
theorem cell_dK {K : PySem.W.Frag} {mg : Str → Option Value} {G : Gs} {H : Hp} {xs : List (Key × Vi.D)} : ∀ f v, RC K mg G true H (.dK xs) f v → ∃ p, v = .ref p ∧ f = [p] := fun f v ⟨a, vs, ev, ef, _⟩ => ⟨a, ev, ef⟩
theorem cell_dT {K : PySem.W.Frag} {mg : Str → Option Value} {G : Gs} {H : Hp} {xs : List (List Key × Vi.D)} : ∀ f v, RC K mg G true H (.dT xs) f v → ∃ p, v = .ref p ∧ f = [p] := fun f v ⟨a, vs, ev, ef, _⟩ => ⟨a, ev, ef⟩
theorem getP_var {env : Env} {cl : Cell} (h : getP env (.var i) = some cl) : env[i]? = some (.own cl) := by
  unfold getP at h
  simp only at h
  split at h
  · cases h; assumption
  · cases h
/-- xs[k] = e, d[k] = e -/
theorem put_sat {K : PySem.W.Frag} {mg : Str → Option Value} {H : Hp} {G : Gs} {fp rs : List Addr} {σ : L2.St} {env : Env} {τ : List Vi.D} {Ds : Ends} {x kd : Vi.D} {xv kv : V} (s : SR K mg hx H G fp rs σ env τ) (rx : RF K mg G x xv) (rk : RT K mg H G kd kv)
    (q : SatO K mg hx W H G fp rs (putOut env (.var i) kd x τ) Ds) {ov : V} (eo : σ[i]? = some (some ov)) :
    (rSetL ov kv xv H fun H3 => Ds.nx σ H3) ∨ (rSetD ov kv xv H fun H3 => Ds.nx σ H3) := by
  unfold putOut at q
  simp only at q
  by_cases hh : env[i]? = some (.fz .hand)
  · simp only [hh] at q
    obtain ⟨A, f, B, o, e1, e2, h, kk⟩ := s.env.at hh
    obtain ⟨_, v, ev, p, rfl, hp⟩ := h
    subst ev
    rw [eo] at e2
    cases e2
    refine .inl ?_
    cases kd <;> first | exact q.elim | skip
    rename_i j
    simp only at q
    cases hj : ixN τ.length j with
    | none => simp only [hj] at q; exact q.elim
    | some jn =>
      simp only [hj] at q
      obtain ⟨vs, eH, l, up⟩ := s.hand1 (j := jn) hp rx
      have hlt : jn < τ.length := by
        unfold ixN at hj
        split at hj
        · split at hj
          · cases hj; omega
          · cases hj
        · split at hj
          · cases hj; omega
          · cases hj
      exact ⟨p, vs, j, jn, rfl, rk, eH, by rw [l]; exact hj, q σ _ G fp (up hlt)⟩
  · replace q : SatO K mg hx W H G fp rs (match (getP env (.var i)).bind fun c => putop c kd x with
            | some c => .next (setP env (.var i) c) τ
            | none => .stuck) Ds := by
      split at q
      · exact absurd (by assumption) hh
      · exact q
    cases hg : getP env (.var i) with
    | none => rw [hg] at q; exact q.elim
    | some cl =>
      rw [hg] at q
      have he := getP_var hg
      cases cl with
      | lst xs =>
        obtain ⟨p, e2, r, hp, up⟩ := s.own1 he cell_lst
        rw [eo] at e2
        cases e2
        refine .inl ?_
        cases kd <;> first | exact q.elim | skip
        rename_i j
        simp only [Option.bind_some, putop] at q
        cases hj : ixN xs.length j with
        | none => simp only [hj] at q; exact q.elim
        | some jn =>
          simp only [hj, Option.map_some] at q
          obtain ⟨p2, vs, ep, ef, eH, rr⟩ := r
          cases ep
          exact ⟨p, vs, j, jn, rfl, rk, eH, by rw [rr.length]; exact hj, q σ _ G fp (up _ _ ⟨p, vs.set jn xv, rfl, rfl, upd_same, RFs.set rx jn rr⟩)⟩
      | dK kvs =>
        obtain ⟨p, e2, r, hp, up⟩ := s.own1 he cell_dK
        rw [eo] at e2
        cases e2
        refine .inr ?_
        simp only [Option.bind_some, putop] at q
        split at q
        · rename_i c0 e0
          split at e0
          · rename_i hl
            cases hk : keyOf kd with
            | none => rw [hk] at e0; cases e0
            | some key =>
              rw [hk] at e0
              cases e0
              obtain ⟨p2, ws, ep, ef, eH, rr⟩ := r
              cases ep
              have ek := keyOf_kV hk rk
              subst ek
              exact ⟨p, _, rfl, .inl ⟨ws, key, eH, rfl, lim_lt (by rw [rr.length]; exact hl), rfl⟩, q σ _ G fp (up _ _ ⟨p, _, rfl, rfl, upd_same, RFk.put rx rr⟩)⟩
          · cases e0
        · exact q.elim
      | dT kvs =>
        obtain ⟨p, e2, r, hp, up⟩ := s.own1 he cell_dT
        rw [eo] at e2
        cases e2
        refine .inr ?_
        simp only [Option.bind_some, putop] at q
        cases kd <;> first | exact q.elim | skip
        rename_i ks
        simp only at q
        split at q
        · rename_i c0 e0
          split at e0
          · rename_i hl
            cases hk : keysOf ks with
            | none => rw [hk] at e0; cases e0
            | some key =>
              rw [hk] at e0
              cases e0
              obtain ⟨p2, ws, ep, ef, eH, rr⟩ := r
              cases ep
              obtain ⟨b, vs, rfl, hb, rb⟩ := rk
              have ek := keysOf_kV hk rb
              subst ek
              have hb' : H b = some (.tup (key.map kV)) := by
                rcases s.sub _ _ hb with z | ⟨z, _⟩
                · exact z
                · cases z
              exact ⟨p, _, rfl, .inr ⟨ws, key, b, eH, rfl, hb', lim_lt (by rw [rr.length]; exact hl), rfl⟩, q σ _ G fp (up _ _ ⟨p, _, rfl, rfl, upd_same, RFt.put rx rr⟩)⟩
          · cases e0
        · exact q.elim
      | fz d => simp only [Option.bind_some, putop] at q; exact q.elim
      | lsto d => simp only [Option.bind_some, putop] at q; exact q.elim
      | ins c fs => simp only [Option.bind_some, putop] at q; exact q.elim
theorem hasS_at {K : PySem.W.Frag} {mg : Str → Option Value} {H : Hp} {G : Gs} {fp rs : List Addr} {σ : L2.St} {env : Env} {τ : List Vi.D} (s : SR K mg hx H G fp rs σ env τ) (h : hasS env i = true) : ∃ v, σ[i]? = some (some v) := by
  unfold hasS at h
  split at h
  · rename_i cl e
    obtain ⟨A, f, B, o, e1, e2, ⟨v, ev, _⟩, _⟩ := s.env.at e
    exact ⟨v, by rw [e2, ev]⟩
  · rename_i d e
    obtain ⟨A, f, B, o, e1, e2, ⟨_, v, ev, _⟩, _⟩ := s.env.at e
    exact ⟨v, by rw [e2, ev]⟩
  · cases h
theorem s_put (cx : Ctx Φ k X W) (hv : PE X x (tVar i)) (hk : PE X y (eT X hx W Φ b)) (he : PE X e (eT X hx W Φ a))
    (ha : ∀ v, assign (.Subscript x y q') X.env v = (do
      let ov ← holding [v] (eval x X.env)
      let iv ← holding [v, ov] (eval y X.env)
      standAt q'
      holding [v, ov, iv] (setItem ov iv v)
      release [v, ov, iv] [])) (hs : swapsWithSole [.Subscript x y q'] e pos.line X.env = pure false) (hw : swappedStores [.Subscript x y q'] e X.env = pure none) (h1 : (assignEach [.Subscript x y q'] X.env).map (·.2) = [assign (.Subscript x y q') X.env]) :
    PS X (.Assign [.Subscript x y q'] e pos) (sT X hx W Φ n (.put (.var i) b a)) := by
  have hu : X.A.units + 1 < cLine := by have := cx.hu; omega
  refine PS.imp (ps_asg he (pg_sub hv hk (PSet.or set_list (set_dict hu)) ha) hs hw h1) fun D σ H ⟨G, fp, rs, env, τ, s, q⟩ => ?_
  rw [exec] at q
  refine tE_keptO s q (fun rv τ' H G q => ?_) fun rv d v τ1 H1 G1 ek s1 f1 r1 q1 => ?_
  · cases e : rv.keep with
    | none => simp only [e] at q; exact q.elim
    | some d => exact ⟨d, rfl⟩
  · simp only [ek] at q1
    by_cases hh : hasS env i = true
    · have q1 : SatO X.K X.mg hx W H1 G1 fp rs (Out.of (evalE Φ b env τ1) env fun kv τ => match kv.d with
          | none => .stuck
          | some k => putOut env (.var i) k d τ) D := by
        split at q1
        · exact q1
        · exact q1.elim
      obtain ⟨ov, eo⟩ := hasS_at s1 hh
      refine ⟨ov, eo, ?_⟩
      refine tE_lookO s1 q1 (fun rv τ' H G q => ?_) fun rv2 d2 v2 τ2 H2 G2 ed s2 f2 r2 q2 => ?_
      · cases e : rv.d with
        | none => simp only [e] at q; exact q.elim
        | some d => exact ⟨d, rfl⟩
      · simp only [ed] at q2
        exact put_sat s2 (RF.mono f2.gle r1) r2 q2 eo
    · split at q1
      · exact absurd (by assumption) hh
      · exact q1.elim
/-- xs.append(e) -/
theorem s_app {apos cpos : Pos} (hv : PE X x (tVar i)) (he : PE X e (eT X hx W Φ a)) (hbase : attributeBase x "append" X.env (eval x X.env) = eval x X.env)
    (hfew : ((backTo cpos (starEach [e] X.env)).all (fun x => !x.1) && (backToKw cpos (keywordEach [] X.env)).all (fun x => x.1.isSome)
      && decide (([e] : List Expr).length + ([] : List Keyword).length + (if ([] : List Keyword).isEmpty then 0 else 1) < 30)) = true)
    (hline : (apos.endLine == cpos.line) = true) (hs : starEach [e] X.env = (false, eval e X.env) :: starEach [] X.env) (hsw : swapsWith (.Call (.Attribute x "append" apos) [e] [] cpos) none pos.line X.env = pure false) :
    PS X (.Expr (.Call (.Attribute x "append" apos) [e] [] cpos) pos) (sT X hx W Φ n (.app (.var i) a)) := by
  refine PS.imp (ps_expr (pe_bm PySem.F.plainAttrs_list PySem.F.slot_list_append PySem.F.type_list_append mt_append hv (pa_cons he pa_nil hs) hbase hfew hline hs rfl) hsw) fun D σ H ⟨G, fp, rs, env, τ, s, q⟩ => ?_
  rw [exec] at q
  cases hg : getP env (.var i) with
  | none => simp only [hg] at q; exact q.elim
  | some cl =>
    cases cl <;> simp only [hg] at q <;> first | exact q.elim | skip
    rename_i xs
    have hei := getP_var hg
    obtain ⟨p, e2, r, hp, _⟩ := s.own1 hei cell_lst
    refine ⟨.ref p, e2, ?_⟩
    obtain ⟨p2, vs, ep, ef, eH, rr⟩ := r
    cases ep
    refine ⟨.inl ⟨rfl, vs, .inl (.inl eH)⟩, ?_⟩
    refine tE_keptO s q (fun rv τ' H G q => ?_) fun rv d v τ1 H1 G1 ek s1 f1 r1 q1 => ?_
    · cases e : rv.keep with
      | none => simp only [e] at q; exact q.elim
      | some d => exact ⟨d, rfl⟩
    · simp only [ek] at q1
      split at q1
      · rename_i hl
        obtain ⟨p3, e3, r3, hp3, up⟩ := s1.own1 hei cell_lst
        rw [e2] at e3
        cases e3
        obtain ⟨p2, vs2, ep, ef, eH2, rr2⟩ := r3
        cases ep
        exact ⟨p, vs2, v, rfl, rfl, eH2, lim_lt (by rw [rr2.length]; exact hl), q1 σ _ G1 fp (up _ _ ⟨p, _, rfl, rfl, upd_same, rr2.append ⟨v, [], rfl, r1, rfl⟩⟩)⟩
      · exact q1.elim
theorem s_ext {apos cpos : Pos} (hv : PE X x (tVar i)) (he : PE X e (eT X hx W Φ a)) (hbase : attributeBase x "extend" X.env (eval x X.env) = eval x X.env)
    (hfew : ((backTo cpos (starEach [e] X.env)).all (fun x => !x.1) && (backToKw cpos (keywordEach [] X.env)).all (fun x => x.1.isSome)
      && decide (([e] : List Expr).length + ([] : List Keyword).length + (if ([] : List Keyword).isEmpty then 0 else 1) < 30)) = true)
    (hline : (apos.endLine == cpos.line) = true) (hs : starEach [e] X.env = (false, eval e X.env) :: starEach [] X.env) (hsw : swapsWith (.Call (.Attribute x "extend" apos) [e] [] cpos) none pos.line X.env = pure false) :
    PS X (.Expr (.Call (.Attribute x "extend" apos) [e] [] cpos) pos) (sT X hx W Φ n (.ext (.var i) a)) := by
  refine PS.imp (ps_expr (pe_bm PySem.F.plainAttrs_list PySem.F.slot_list_extend PySem.F.type_list_extend mt_extend hv (pa_cons he pa_nil hs) hbase hfew hline hs rfl) hsw) fun D σ H ⟨G, fp, rs, env, τ, s, q⟩ => ?_
  rw [exec] at q
  cases hg : getP env (.var i) with
  | none => simp only [hg] at q; exact q.elim
  | some cl =>
    cases cl <;> simp only [hg] at q <;> first | exact q.elim | skip
    rename_i xs
    have hei := getP_var hg
    obtain ⟨p, e2, r, hp, _⟩ := s.own1 hei cell_lst
    refine ⟨.ref p, e2, ?_⟩
    obtain ⟨p2, vs, ep, ef, eH, rr⟩ := r
    cases ep
    refine ⟨.inl ⟨rfl, vs, .inl (.inl eH)⟩, ?_⟩
    refine tE_lookO s q (fun rv τ' H G q => ?_) fun rv d v τ1 H1 G1 ek s1 f1 r1 q1 => ?_
    · cases e : rv.d with
      | none => simp only [e] at q; exact q.elim
      | some d => exact ⟨d, rfl⟩
    · simp only [ek] at q1
      cases d <;> first | exact q1.elim | skip
      rename_i ys
      simp only at q1
      split at q1
      · rename_i hl
        obtain ⟨p3, e3, r3, hp3, up⟩ := s1.own1 hei cell_lst
        rw [e2] at e3
        cases e3
        obtain ⟨p2, vs2, ep, ef, eH2, rr2⟩ := r3
        cases ep
        obtain ⟨b, ws, rfl, ⟨hb, _⟩, rw'⟩ := r1
        exact ⟨p, b, vs2, ws, rfl, rfl, eH2, hb, lim_line (by rw [rr2.length, rw'.length]; exact hl), q1 σ _ G1 fp (up _ _ ⟨p, _, rfl, rfl, upd_same, rr2.append rw'⟩)⟩
      · exact q1.elim
/-- x op= e -/
theorem s_aug (cx : Ctx Φ k X W) (o : Bop) (hi : X.N[i]? = some nm) (hl : Loc X.env.scope nm) (he : PE X e (eT X hx W Φ a)) (hf : X.fn nm = true ∨ X.env.scope.names.lookup nm = some .local) :
    PS X (.AugAssign (.Name nm p) o.op e pos) (sT X hx W Φ n (.aug i o a)) := by
  refine PS.imp (ps_aug (ti := rAug X.K X.mg (augop o)) cx.nd hi hl he (fun pins s σ H x y v u Q I rx ry h => op_aug o pins s σ H x y v u Q I rx ry h) hf) fun D σ H ⟨G, fp, rs, env, τ, s, q⟩ => ?_
  rw [exec] at q
  cases ei : env[i]? with
  | none => simp only [ei] at q; exact q.elim
  | some sl =>
    cases sl <;> simp only [ei] at q <;> first | exact q.elim | skip
    rename_i xd
    obtain ⟨A, f, B, oo, e1, e2, ⟨_, v, ev, r⟩, _⟩ := s.env.at ei
    refine ⟨v, by rw [e2, ev], ?_⟩
    refine tE_lookO s q (fun rv τ' H G q => ?_) fun rv d w τ1 H1 G1 ek s1 f1 r1 q1 => ?_
    · cases e : rv.d with
      | none => simp only [e] at q; exact q.elim
      | some d => exact ⟨d, rfl⟩
    · simp only [ek] at q1
      cases eo : augop o xd d with
      | none => simp only [eo] at q1; exact q1.elim
      | some z =>
        simp only [eo] at q1
        refine ⟨G1, xd, d, z, s1.now, RF.rt s1.sub s1.hand.ok (RF.mono f1.gle r), r1, eo, fun zv H2 G2 g st rz nz => ?_⟩
        have s2 := s1.step st
        obtain ⟨fp', sb, s3⟩ := s2.setF rz.2 i
        exact q1 _ H2 G2 fp' ⟨s3, st.toT, fun a ha => .inl (sb.subset ha)⟩
end
end Vi
end
section
set_option Elab.async false
set_option linter.all false
set_option maxRecDepth 100000
set_option maxHeartbeats 2000000
/-! Vi18a: dict(pairs). -/
namespace Vi
open PySem PySem.Spec PyProof.Rows L2
section
variable {X : Cx} {pins : List (Addr × Obj)} {σ : L2.St} {H : Hp} {s : Shared} {G : Gs}
/-- a pair that lies: its place, its key, the key's place, its value, the value as it is told -/
structure PE5 where
  T : Addr
  k : List Key
  b : Addr
  u : Value
  v : V
structure PE5.Ok (H : Hp) (h : Heap) (e : PE5) : Prop where
  pair : h.IsTuple e.T #[.ref e.b, e.u]
  key : H e.b = some (.tup (e.k.map kV))
  val : RelV e.v e.u
theorem fr_tup (n : Now H G) {a : Addr} {vs : List V} (h : G.fr a = some (.tup vs)) : H a = some (.tup vs) := by
  rcases n.sub a _ h with z | ⟨z, _⟩
  · exact z
  · cases z
theorem vals_cons {v : V} {vs : List V} {us : List Value} (h : Vals (v :: vs) us) : ∃ u r, us = u :: r ∧ RelV v u ∧ Vals vs r := by
  cases h with
  | cons r rr => exact ⟨_, _, rfl, r, rr⟩
theorem vals_nil {us : List Value} (h : Vals [] us) : us = [] := by
  cases h; rfl
theorem keys_rf : ∀ {ks : List D} {kk : List Key} {vs : List V}, keysOf ks = some kk → RFs X.K X.mg G ks vs → vs = kk.map kV
  | [], kk, vs, e, r => by
    rw [keysOf] at e
    cases e
    exact r
  | d :: ks, kk, vs, e, ⟨v, t, ev, r, rr⟩ => by
    rw [keysOf] at e
    cases h1 : keyOf d with
    | none => rw [h1] at e; cases e
    | some k =>
      cases h2 : keysOf ks with
      | none => rw [h1, h2] at e; cases e
      | some r' =>
        rw [h1, h2] at e
        cases e
        rw [ev, keys_rf h2 rr, List.map_cons]
        congr 1
        cases d <;> first | (cases h1; done) | skip
        · cases h1; exact r
        · cases h1; exact r
theorem pairs_open (I : Inv X pins σ H s) (n : Now H G) : ∀ {xs : List D} {kvs : List (List Key × D)} {vs : List V} {its : List Value}, pairsT xs = some kvs → RFs X.K X.mg G xs vs → Vals vs its →
    ∃ es : List PE5, its = es.map (fun e => .ref e.T) ∧ RFt X.K X.mg G kvs (es.map fun e => (e.k, e.v)) ∧ ∀ e ∈ es, e.Ok H s.heap
  | [], kvs, vs, its, e, r, rv => by
    rw [pairsT] at e
    cases e
    rw [show vs = [] from r] at rv
    rw [vals_nil rv]
    exact ⟨[], rfl, rfl, fun _ h => (nomatch h)⟩
  | x :: xs, kvs, vs, its, e, ⟨v, t, ev, r, rr⟩, rv => by
    unfold pairsT at e
    split at e
    · rename_i h; cases h
    · rename_i ks d xs' h
      cases h
      split at e
      · rename_i kk kvs' h1 h2
        cases e
        subst ev
        obtain ⟨u, its', rfl, ru, rv'⟩ := vals_cons rv
        obtain ⟨es, e1, e2, e3⟩ := pairs_open I n h2 rr rv'
        obtain ⟨T, ws, rfl, hT, rw'⟩ := r
        cases (show u = Value.ref T from ru)
        obtain ⟨vk, wr, rfl, rk, vd, wr2, rfl, rd, rnil⟩ := rw'
        cases (show wr2 = [] from rnil)
        obtain ⟨b, kvs2, rfl, hb, rks⟩ := rk
        have ek := keys_rf h1 rks
        subst ek
        obtain ⟨_, its2, rv2, pT⟩ := (show ObjOk X.prog X.w H s.heap T (.tup [.ref b, vd]) from I.hok T _ (fr_tup n hT))
        obtain ⟨u1, r1, rfl, ru1, rv3⟩ := vals_cons rv2
        obtain ⟨u2, r2, rfl, ru2, rv4⟩ := vals_cons rv3
        rw [vals_nil rv4] at pT
        cases (show u1 = Value.ref b from ru1)
        refine ⟨⟨T, kk, b, u2, vd⟩ :: es, by rw [e1]; rfl, ⟨vd, _, rfl, rd, e2⟩, fun e he => ?_⟩
        rcases List.mem_cons.mp he with rfl | he
        · exact ⟨pT, fr_tup n hb, ru2⟩
        · exact e3 e he
      · cases e
    · cases e
def psH (es : List PE5) : List (List Key × Addr × Value) := es.map fun e => (e.k, e.b, e.u)
def psV (es : List PE5) : List (Value × Value) := es.map fun e => (.ref e.b, e.u)
def tsOf (es : List PE5) (j : Nat) : Addr := ((es[j]?).map (·.T)).getD 0
theorem pair_items {h : Heap} {es : List PE5} (ok : ∀ e ∈ es, e.Ok H h) : PairItems h (es.map fun e => Value.ref e.T).toArray (tsOf es) (psV es) := by
  refine ⟨by simp [psV], fun j k v e => ?_⟩
  unfold psV at e
  rw [List.getElem?_map] at e
  cases q : es[j]? with
  | none => rw [q] at e; cases e
  | some x =>
    rw [q] at e
    cases e
    refine ⟨by simp [tsOf, q], .inl ?_⟩
    have := (ok x (List.mem_of_getElem? q)).pair
    simpa [tsOf, q] using this
theorem pairs_have (es : List PE5) : PairsHaveH (tupleKind (mixKind X.prog X.w)) (psV es).length (PairRel (psV es)) (psH es) := by
  refine ⟨by simp [psV, psH], fun i key v e => ?_⟩
  have e : (psV es)[i]? = some (key, v) := e
  unfold psV at e
  rw [List.getElem?_map] at e
  cases q : es[i]? with
  | none => rw [q] at e; cases e
  | some x =>
    rw [q] at e
    cases e
    exact ⟨x.k, x.b, by unfold psH; rw [List.getElem?_map, q]; rfl, rfl⟩
def putsV (acc : List (List Key × V)) : List (List Key × V) → List (List Key × V)
  | [] => acc
  | (k, v) :: r => putsV (putK acc k v) r
theorem kt_all {H' : Hp} : ∀ {es : List PE5} {acc : List (List Key × V)} {xs : List (List Key × Addr × Value)}, (∀ e ∈ es, H' e.b = some (.tup (e.k.map kV)) ∧ RelV e.v e.u) → KT H' acc xs → KT H' (putsV acc (es.map fun e => (e.k, e.v))) (storedAllH xs (psH es))
  | [], _, _, _, r => r
  | e :: es, acc, xs, ok, r => kt_all (es := es) (fun x hx => ok x (List.mem_cons_of_mem _ hx)) (r.put e.k (ok e List.mem_cons_self).1 (ok e List.mem_cons_self).2)
theorem rft_all : ∀ {kvs : List (List Key × D)} {ws : List (List Key × V)} {acc : List (List Key × D)} {aw : List (List Key × V)}, RFt X.K X.mg G kvs ws → RFt X.K X.mg G acc aw → RFt X.K X.mg G (putAll acc kvs) (putsV aw ws)
  | [], ws, _, _, r, a => by rw [show ws = [] from r]; exact a
  | (k, d) :: kvs, _, _, _, ⟨v, t, e, r, rr⟩, a => by
    rw [e]
    exact rft_all (kvs := kvs) (ws := t) (acc := put _ k d) (aw := putK _ k v) rr (RFt.put r a)
theorem puts_len : ∀ (r acc : List (List Key × V)), (putsV acc r).length ≤ acc.length + r.length
  | [], acc => Nat.le_refl _
  | (k, v) :: r, acc => by
    have h := puts_len r (putK acc k v)
    have h2 : (putK acc k v).length ≤ acc.length + 1 := by
      unfold putK
      split
      · rw [List.length_map]; omega
      · rw [List.length_append]; exact Nat.le_refl _
    rw [putsV, List.length_cons]
    omega
theorem KT.same {H H' : Hp} {kvs : List (List Key × V)} {xs : List (List Key × Addr × Value)} (r : KT H kvs xs) (h : ∀ b ys, H b = some (.tup ys) → H' b = some (.tup ys)) : KT H' kvs xs := L2.KT.keeps r h
/-- what comes of the pairs -/
theorem dictT_go (hh : X.A.handled = none) (hu : X.A.units + 200 < cLine) (I : Inv X pins σ H s) {T : String} {a : Addr} {es : List PE5} {Q : VK} (ok : ∀ e ∈ es, e.Ok H s.heap) (hsz : es.length ≤ sizeLine)
    {OK : Heap → Prop} {fp : List Addr} (P : PairArg X.prog X.w T a fp [] (psV es).length (PairRel (psV es)) OK) (hok : OK s.heap)
    (q : ∀ p, H p = none → Q (.ref p) (upd H p (.dT (putsV [] (es.map fun e => (e.k, e.v)))))) :
    wpAny (model X.prog X.w) X.A (call (.type "dict") [.ref a]) (fun r s' => ∃ (x : V) (H' : Hp), Inv X pins σ H' s' ∧ RelV x r ∧ Q x H') X.xe s := by
  have keyIs : ∀ {h' : Heap}, (∀ b o, b ≠ s.heap.objs.size → s.heap.get? b = some o → h'.get? b = some o) → ∀ x ∈ psH es, (tupleKind (mixKind X.prog X.w)).is h' x.1 x.2.1 := fun {h'} kp x hx => by
    unfold psH at hx
    obtain ⟨e, he, rfl⟩ := List.mem_map.mp hx
    obtain ⟨o, its, m, h1, h2, h3, h4⟩ := key_of I.hok (ok e he).key
    exact ⟨o, its, m, kp _ _ (Nat.ne_of_lt (Heap.lt_size h1)) h1, h2, h3, h4⟩
  refine call_dict_pairsH P hh (show X.A.units + 1 + 1 < cLine by omega) hok (pairs_have es) (fun h' hk => keyIs fun b o hb => hk b o hb (fun z => nomatch z)) (by simpa [psV] using hsz) fun h' tk hd hk => ?_
  have hk' : ∀ b o, s.heap.get? b = some o → h'.get? b = some o := fun b o e => hk b o (fun z => nomatch z) e
  have hp : H s.heap.objs.size = none := I.hok.fresh (Nat.le_refl _)
  have kt : KT (upd H s.heap.objs.size (.dT (putsV [] (es.map fun e => (e.k, e.v))))) (putsV [] (es.map fun e => (e.k, e.v))) (storedAllH [] (psH es)) :=
    kt_all (fun e he => ⟨by
      rw [upd_ne (fun z => by
        have := (ok e he).key
        rw [z, hp] at this; cases this)]
      exact (ok e he).key, (ok e he).val⟩) .nil
  obtain ⟨o, es', ep, g1, g2, g3, g4, _, g6⟩ := hd
  refine ⟨.ref s.heap.objs.size, _, I.laid (t' := tk) (o := .dT (putsV [] (es.map fun e => (e.k, e.v)))) hk' (Nat.le_refl _) ⟨?_, beq_eq_false_iff_ne.mpr (Ne.symm (Nat.ne_of_lt I.big)), _, kt, o, es', ep, g1, g2, g3, g4, g6⟩, rfl, q _ hp⟩
  refine Nat.le_trans (puts_len _ _) ?_
  simpa using hsz
/-- dict(pairs), the keys tuples -/
theorem bi_dictT (hc : X.calm = true) (hu : X.A.units + 200 < cLine) (hh : X.A.handled = none) : CallR X (.type "dict") (rBi X.K X.mg .dictT) := by
  intro pins s σ H xs us Q I r h
  obtain ⟨G, ds, rv, n, rt, e, q⟩ := h
  match ds, rt, e with
  | [], _, e => cases e
  | d :: e1 :: es, _, e => cases d <;> cases e
  | [d], ⟨v, t, ev, rt1, et⟩, e =>
    subst ev
    rw [show t = [] from et] at r
    have rt : RT X.K X.mg H G d v := rt1
    have fin : ∀ {kvs : List (List Key × D)} {es : List PE5}, RFt X.K X.mg G kvs (es.map fun e => (e.k, e.v)) → rv = .own (.dT (putAll [] kvs)) → ∀ p, H p = none → Q (.ref p) (upd H p (.dT (putsV [] (es.map fun e => (e.k, e.v))))) := fun {kvs es} rr erv p hp => by
      subst erv
      exact q _ _ G [p] (StepP.new n.sub hp) ⟨p, _, rfl, rfl, by rw [if_pos rfl]; exact upd_same, rft_all rr rfl⟩ (Fresh.one n.sub n.hd hp)
    cases d <;> first | (cases e; done) | skip
    · rename_i ys
      obtain ⟨kvs, e1, e2⟩ := Option.map_eq_some_iff.mp (show (pairsT ys).map (fun ps => RV.own (.dT (putAll [] ps))) = some rv from e)
      obtain ⟨a, vs, rfl, h, rr⟩ := rt
      obtain ⟨u, rfl, rx⟩ := vals1 r
      cases rx
      obtain ⟨its, r', pl, hz⟩ := I.list (.inl (.inl h.1))
      obtain ⟨es, rfl, o2, o3⟩ := pairs_open I n e1 rr r'
      have hl : es.length ≤ sizeLine := by have := r'.length; simp only [List.length_map] at this; omega
      obtain ⟨o, m, p1, p2, p3, p4⟩ := pl
      exact dictT_go hh hu I o3 hl (PairArg.list a _ (tsOf es) (psV es)) ⟨⟨o, m, p1, p2, p3, p4⟩, pair_items o3⟩ (fin o2 e2.symm)
    · rename_i ys
      obtain ⟨kvs, e1, e2⟩ := Option.map_eq_some_iff.mp (show (pairsT ys).map (fun ps => RV.own (.dT (putAll [] ps))) = some rv from e)
      obtain ⟨a, vs, rfl, ⟨ob, hd, h⟩, rr⟩ := rt
      obtain ⟨u, rfl, rx⟩ := vals1 r
      cases rx
      have hH : H a = some (.frz ob (.tup vs)) := by
        rcases n.sub a _ h with z | ⟨z, _⟩
        · exact z
        · cases z
      obtain ⟨g1, hz, its, r', o', g2, g3, g4⟩ := (show ObjOk X.prog X.w H s.heap a (.frz ob (.tup vs)) from I.hok a _ hH)
      rw [g1] at g2
      cases g2
      obtain ⟨es, rfl, o2, o3⟩ := pairs_open I n e1 rr r'
      have hl : es.length ≤ sizeLine := by have := r'.length; simp only [List.length_map] at this; omega
      obtain ⟨m, g4⟩ := g4
      exact dictT_go hh hu I o3 hl (PairArg.tuple a _ (tsOf es) (psV es)) ⟨⟨_, m, g1, g3, hd, g4⟩, pair_items o3⟩ (fin o2 e2.symm)
end
end Vi
end
section
set_option Elab.async false
set_option linter.all false
set_option maxRecDepth 100000
set_option maxHeartbeats 1000000
/-! Vi18b: tuples, empty ones among them, can be sorted. -/
namespace Vi
open PySem PySem.Spec PyProof.Rows PySem.W PySem.SeqAt PySem.Calls
theorem call_lt_tup {prog : Program} {w : World} {A : Around} {s : Shared} {E : Value → Shared → Prop} {Q : Value → Shared → Prop} {l b : Addr} {items items2 : Array Value} {e r : Nat → Bool} (hl : s.heap.IsTuple l items) (hb : s.heap.IsTuple b items2)
    (he : ∀ j (h1 : j < items.size) (h2 : j < items2.size), EqAt A.in1 s items[j] items2[j] (e j)) (hr : ∀ j (h1 : j < items.size) (h2 : j < items2.size), e j = false → RcLt A.in1 s items[j] items2[j] (r j))
    (h : Q (.bool (firstLt e r (decide (items.size < items2.size)) (List.range (min items.size items2.size)))) s) : wpAny (model prog w) A (call (.builtin "tuple.__lt__") [.ref l, .ref b]) Q E s := by
  obtain ⟨⟨c1, d1, x1, s1⟩, o1, q1, n1, z1⟩ := id hl
  obtain ⟨⟨c2, d2, x2, s2⟩, o2, q2, n2, z2⟩ := id hb
  simp only at q1 z1 q2 z2
  subst q1 z1 q2 z2
  exact call_meets F.slot_tuple_lt ⟨_, o1, rfl⟩ F.entry_tuple_lt (F.args_tuple_lt_2 _ _) (tuple_ltAt l b items items2 n1 n2 d1 d2 s1 s2 e r) ⟨o1, o2, he, hr, h⟩
section
variable {prog : Program} {w : World} {A : Around} {s : Shared}
theorem one_tup {xs ys : List PyData} {a b : Value} {as bs : List Addr} {E : Value → Shared → Prop} {Q : Bool → Shared → Prop} (ra : Reads s.heap a (.tuple xs) as) (rb : Reads s.heap b (.tuple ys) bs) (hal : alikeAll xs ys = true)
    (hu : A.units + min (PyData.tuple xs).depth (PyData.tuple ys).depth < cLine) (hq : Q (dataLt (.tuple xs) (.tuple ys)) s) : wpAny (model prog w) A (oneLt' true a b) Q E s := by
  cases ra with
  | @tuple l o vs n _ _ h1 h2 h3 h4 =>
    cases rb with
    | @tuple l' o' vs' n' _ _ k1 k2 k3 k4 =>
      have n1 : vs.size = xs.length := by simpa using ReadsAll.length _ _ _ h4
      have n2 : vs'.size = ys.length := by simpa using ReadsAll.length _ _ _ k4
      rw [dataLt_tuple, ← firstLt_toks xs ys hal, ← n1, ← n2] at hq
      rw [oneLt'_eq]
      simp only [if_true]
      refine wpAny_bind (wpAny_cRoomFor (room_here hu) ?_)
      refine wpAny_bind (wpAny_callSpecialIfBound?_slot (T := "tuple") ⟨_, h1, h2⟩ F.slot_tuple_lt (call_lt_tup (e := pairEq xs ys) (r := fun j => dataLt (xs.getD j .none) (ys.getD j .none)) ⟨_, h1, h2, _, h3⟩ ⟨_, k1, k2, _, k3⟩ (fun j j1 j2 => ?_) (fun j j1 j2 hj => ?_) ?_))
      · have z := eqAt_alikeAll xs ys A.in1 s vs.toList vs'.toList _ _ h4 k4 hal (PySem.SeqAt.room_in hu) j (by simpa using j1) (by simpa using j2)
        rw [Array.getElem_toList, Array.getElem_toList] at z
        exact z
      · have z := rcLt_alikeAll xs ys A.in1 s vs.toList vs'.toList _ _ h4 k4 hal (PySem.SeqAt.room_in hu) j (by simpa using j1) (by simpa using j2) hj
        rw [Array.getElem_toList, Array.getElem_toList] at z
        exact z
      · exact wpAny_truthy_bool hq
def full : PyData → Bool
  | .tuple (_ :: _) => true
  | _ => false
theorem first_tup {xs : List PyData} {v : Value} {as : List Addr} (r : Reads s.heap v (.tuple xs) as) : ∃ f : Option Value, f.isSome = full (.tuple xs) ∧ ∀ (E : Value → Shared → Prop) (Q : Option Value → Shared → Prop), Q f s → wpAny (model prog w) A (firstOfTuple' v) Q E s := by
  have lk := looks_reads (M := model prog w) r
  cases r with
  | @tuple l o vs n _ _ h1 h2 h3 h4 =>
    have n1 : vs.size = xs.length := by simpa using ReadsAll.length _ _ _ h4
    refine ⟨vs[0]?, ?_, fun E Q hq => ?_⟩
    · cases xs with
      | nil => rw [Array.getElem?_eq_none (by simpa using Nat.le_of_eq n1)]; rfl
      | cons x r => rw [Array.getElem?_eq_getElem (by simp at n1; omega)]; rfl
    · rw [kas_first_eq]
      refine wpAny_bind (lk.here ?_)
      rw [if_neg (by simp [dataType])]
      exact wpAny_bind (listItems_at h1 h3 (wpAny_pure hq))
theorem firsts_tup : ∀ {vs : List Value} {ds : List PyData}, EachIs (fun v d => ∃ as, Reads s.heap v d as) vs ds → (∀ d ∈ ds, ∃ xs, d = .tuple xs) →
    ∃ fs : List (Option Value), fs.map (·.isSome) = ds.map full ∧ ∀ (E : Value → Shared → Prop) (Q : List (Option Value) → Shared → Prop), Q fs s → wpAny (model prog w) A (vs.mapM firstOfTuple') Q E s
  | _, _, .nil, _ => ⟨[], rfl, fun E Q hq => by rw [List.mapM_nil]; exact wpAny_pure hq⟩
  | _, _, .cons (b := d) ⟨as, r⟩ t, ht => by
    obtain ⟨xs, rfl⟩ := ht _ List.mem_cons_self
    obtain ⟨f, h1, h2⟩ := first_tup (prog := prog) (w := w) (A := A) r
    obtain ⟨fs, h3, h4⟩ := firsts_tup t fun d hd => ht d (List.mem_cons_of_mem _ hd)
    refine ⟨f :: fs, by rw [List.map_cons, List.map_cons, h1, h3], fun E Q hq => ?_⟩
    rw [List.mapM_cons]
    exact wpAny_bind (h2 E _ (wpAny_bind (h4 E _ (wpAny_pure hq))))
theorem sorts_tup {vs : List Value} {ds : List PyData} (e : EachIs (fun v d => ∃ as, Reads s.heap v d as) vs ds) (hal : AllAlike ds) (ht : ∀ d ∈ ds, ∃ xs, d = .tuple xs) (hu : ∀ d, d ∈ ds → A.units + d.depth < cLine) : SortsAt prog w A s (dataKind s.heap ds) vs := by
  by_cases hf : ∀ d ∈ ds, ∃ x r, d = .tuple (x :: r)
  · exact SortsAt.data e hal (.inl hf) hu
  have he : ∃ d ∈ ds, full d = false := by
    refine Classical.byContradiction fun c => hf fun d hd => ?_
    obtain ⟨xs, rfl⟩ := ht d hd
    cases xs with
    | nil => exact absurd ⟨_, hd, rfl⟩ c
    | cons x r => exact ⟨x, r, rfl⟩
  have room : ∀ {d d' : PyData}, d ∈ ds → A.units + min d.depth d'.depth < cLine := fun {d d'} hd => Nat.lt_of_le_of_lt (Nat.add_le_add_left (Nat.min_le_left _ _) _) (hu d hd)
  refine ⟨fun v hv => ?_, ?_⟩
  · obtain ⟨d, hd, as, r⟩ := e.left v hv
    exact ⟨_, dataKind_some hal hd r⟩
  · obtain ⟨fs, h1, h2⟩ := firsts_tup (prog := prog) (w := w) (A := A) e ht
    have nall : (fs.toArray.all fun x => x.isSome) = false := by
      obtain ⟨d, hd, hn⟩ := he
      rw [List.all_toArray]
      have : (fs.map (·.isSome)).all id = false := by
        rw [h1]
        exact List.all_eq_false.mpr ⟨full d, List.mem_map.mpr ⟨d, hd, rfl⟩, by simp [hn]⟩
      rw [List.all_map] at this
      exact this
    cases ds with
    | nil => obtain ⟨_, hd, _⟩ := he; cases hd
    | cons d0 ds0 =>
      cases fs with
      | nil => simp at h1
      | cons f0 fr =>
        have hf0 : f0.isSome = full d0 := by simpa using (List.cons.inj h1).1
        cases q0 : full d0 with
        | true =>
          refine ⟨general', fun E x y a b Q ha hb hq => ?_, fun _ E Q hq => ?_⟩
          · obtain ⟨d, as, hd, ra, rfl⟩ := dataKind_inv ha
            obtain ⟨d', as', hd', rb, rfl⟩ := dataKind_inv hb
            obtain ⟨xs, rfl⟩ := ht d hd
            exact oneLt_alike (f := false) (fun z => nomatch z) ra rb (hal _ hd _ hd') (fun z => nomatch z) (room hd) hq
          · rw [keyKind'_eq, List.mapM_toArray, map_eq_pure_bind]
            refine wpAny_bind (wpAny_bind (h2 E _ (wpAny_pure ?_)))
            rw [nall]
            simp only [Bool.false_eq_true, if_false]
            rw [if_pos (by
              show ((f0 :: fr).toArray[0]?.bind id).isSome = true
              simpa using hf0.trans q0)]
            exact wpAny_pure hq
        | false =>
          refine ⟨oneType', fun E x y a b Q ha hb hq => ?_, fun h2' E Q hq => ?_⟩
          · obtain ⟨d, as, hd, ra, rfl⟩ := dataKind_inv ha
            obtain ⟨d', as', hd', rb, rfl⟩ := dataKind_inv hb
            obtain ⟨xs, rfl⟩ := ht d hd
            obtain ⟨ys, rfl⟩ := ht d' hd'
            rw [keyLt'_oneType]
            exact one_tup ra rb (by simpa [alike] using hal _ hd _ hd') (room hd) hq
          · rw [keyKind'_eq, List.mapM_toArray, map_eq_pure_bind]
            refine wpAny_bind (wpAny_bind (h2 E _ (wpAny_pure ?_)))
            rw [nall]
            simp only [Bool.false_eq_true, if_false]
            rw [if_neg (by
              show ¬ ((f0 :: fr).toArray[0]?.bind id).isSome = true
              rw [show ((f0 :: fr).toArray[0]?.bind id) = f0 by simp, hf0, q0]; simp)]
            have hT : ∀ v ∈ vs, Looks (model prog w) s.heap (typeOf v) (.type "tuple") := fun v hv => by
              obtain ⟨d, hd, as, r⟩ := e.left v hv
              obtain ⟨xs, rfl⟩ := ht d hd
              exact looks_reads r
            obtain ⟨v1, rest, rfl⟩ : ∃ v1 rest, vs = v1 :: rest := by
              cases vs with
              | nil => simp at h2'
              | cons v r => exact ⟨v, r, rfl⟩
            rw [oneTypeOnly'_eq, List.mapM_toArray, map_eq_pure_bind]
            refine wpAny_bind (wpAny_bind (wpAny_bind (kas_mapM (r := Value.type "tuple") _ (fun v hv Q' hq => (hT v hv).here hq) (wpAny_pure ?_))))
            have hall : ((List.map (fun _ => Value.type "tuple") (v1 :: rest)).toArray.all fun x => x == Value.type "tuple") = true := by
              simp only [List.all_toArray, List.all_map, List.all_eq_true]
              intro _ _
              rfl
            have h0 : (List.map (fun _ => Value.type "tuple") (v1 :: rest)).toArray[0]? = some (Value.type "tuple") := by simp
            rw [h0]
            simp only [hall, if_true]
            exact wpAny_pure (wpAny_pure hq)
theorem sorted_tups {β : Type} {vs : List Value} {bs : List β} {enc : β → PyData} {R : Value → β → Prop} {E : Value → Shared → Prop} {l : Addr} {Q : Value → Shared → Prop} (hl : s.heap.IsList l vs.toArray) (e : EachIs R vs bs) (er : EachIs (fun v b => ∃ as, Reads s.heap v (enc b) as) vs bs) (hal : AllAlike (bs.map enc)) (ht : ∀ d ∈ bs.map enc, ∃ xs, d = .tuple xs) (hL : bs.length ≤ sizeLine)
    (hu : ∀ b, b ∈ bs → A.units + 2 + (enc b).depth < cLine) (h : ∀ out, out.length = bs.length → EachIs R out (bs.mergeSort (dataLe false enc)) → Q (.ref (s.heap.objs.size + 1)) { s with heap := sortedAll s.heap vs (List.toArray out) }) :
    wpAny (model prog w) A (call (.builtin "sorted") [.ref l]) Q E s := by
  have er' : EachIs (fun v b => ∃ as, Reads (sortingHeap (copyHeap s.heap vs) (s.heap.objs.size + 1) vs) v (enc b) as) vs bs := er.mono fun _ _ ⟨as, r⟩ => ⟨as, PyProof.Rows.Reads.keeps (fun _ _ => sorting_copy_old) r⟩
  exact sorted_vals hl (sorts_tup (s := { s with heap := sortingHeap (copyHeap s.heap vs) (s.heap.objs.size + 1) vs }) (each_map (R := fun v d => ∃ as, Reads (sortingHeap (copyHeap s.heap vs) (s.heap.objs.size + 1) vs) v d as) enc er') hal ht (bound_map hu)) (by rw [e.length]; exact hL)
    (h _ (by rw [sortVals_length false rfl]; exact e.length) (sortVals_data false e er' hal))
theorem sorted_any {β : Type} {vs : List Value} {bs : List β} {enc : β → PyData} {R : Value → β → Prop} {E : Value → Shared → Prop} {l : Addr} {Q : Value → Shared → Prop} (hl : s.heap.IsList l vs.toArray) (e : EachIs R vs bs) (er : EachIs (fun v b => ∃ as, Reads s.heap v (enc b) as) vs bs) (hal : AllAlike (bs.map enc)) (ht : (∀ d ∈ bs.map enc, ∃ xs, d = .tuple xs) ∨ Sortable (bs.map enc)) (hL : bs.length ≤ sizeLine)
    (hu : ∀ b, b ∈ bs → A.units + 2 + (enc b).depth < cLine) (h : ∀ out, out.length = bs.length → EachIs R out (bs.mergeSort (dataLe false enc)) → Q (.ref (s.heap.objs.size + 1)) { s with heap := sortedAll s.heap vs (List.toArray out) }) :
    wpAny (model prog w) A (call (.builtin "sorted") [.ref l]) Q E s := by
  rcases ht with ht | ht
  · exact sorted_tups hl e er hal ht hL hu h
  · exact sorted_data hl e er hal ht hL hu h
/-- what a source gives, one by one; a new object lies behind all that was there -/
theorem collect_src {R : List Value → Shared → Prop} {E : Value → Shared → Prop} {T : String} {r d : Addr} {n : Nat} {P : Nat → Value → Prop} {OK : Heap → Prop} (K : KdlSrc prog w T r d n P OK) (hh : A.handled = none) (hok : OK s.heap) (hn : n ≤ sizeLine)
    (h : ∀ (h' : Heap) (tk : Nat) (acc : Array Value), (∀ b o, s.heap.get? b = some o → h'.get? b = some o) → s.heap.objs.size ≤ h'.objs.size → ItemsOf P acc n → R acc.toList { s with heap := h', toks := tk }) :
    wpAny (model prog w) A (collect (.ref r)) R E s := by
  have lt := K.there _ hok
  have go := kdl_extend (A := A) (s := { s with heap := s.heap.push { cls := .type "list", data := .seq #[] } })
    (R := fun q s' => ∃ h' tk acc, q = .ok (.ret (.ref s.heap.objs.size)) ∧ s' = { s with heap := h', toks := tk } ∧ (∀ b o, s.heap.get? b = some o → h'.get? b = some o) ∧ (∃ c, h'.get? s.heap.objs.size = some { cls := .type "list", dict := none, data := .seq acc c, slots := #[] }) ∧ ItemsOf P acc n)
    K hh (K.keep _ _ hok fun b _ o q => Heap.get?_push_of_some _ q) s.heap.objs.size (Nat.ne_of_gt lt.1) (Nat.ne_of_gt lt.2) (.ref s.heap.objs.size) 0 (Heap.get?_push_size _ rfl)
    (fun h' tk acc c keep at_ it => ⟨h', tk, acc, rfl, rfl, fun b o q => keep b o (Nat.ne_of_lt (Heap.lt_size q)) (Heap.get?_push_of_some _ q), ⟨c, at_⟩, it⟩) hn
  have fin : ∀ {h' : Heap} {tk : Nat} {acc : Array Value}, (∀ b o, s.heap.get? b = some o → h'.get? b = some o) → (∃ c, h'.get? s.heap.objs.size = some { cls := .type "list", dict := none, data := .seq acc c, slots := #[] }) → ItemsOf P acc n → R acc.toList { s with heap := h', toks := tk } :=
    fun {h' tk acc} k at_ it => h h' tk acc k (Nat.le_of_lt (by obtain ⟨c, q⟩ := at_; exact Heap.lt_size q)) it
  unfold collect
  refine wpAny_bind (wpAny_runValue (codeAny_builtin entry_proto_collect' ?_))
  rw [Around.under_plainId PySem.F.plain_proto_collect _]
  show wpAny _ A.in1 (newList [] >>= fun l => again (.builtin "list.__iadd__" ⟨[l, .ref r], []⟩)) _ _ s
  refine wpAny_bind (wpAny_newObj_type (wpAny_pure ⟨plainId_quiet PySem.F.plain_list_iadd _, codeAny_builtin entry_list_iadd' ?_⟩))
  rw [Around.under_plainId PySem.F.plain_list_iadd _]
  show wpAny _ A.in1 (Builtin.List.listExtendWith (.ref s.heap.objs.size) (.ref r) (.ref s.heap.objs.size)) _ _ _
  refine wpAny_mono go (fun f s' z => ?_) fun e s' z => ?_
  · cases f with
    | done f =>
      obtain ⟨h', tk, acc, q, rfl, k, at_, it⟩ := z
      cases q
      obtain ⟨c, at'⟩ := id at_
      show wpAny _ A (load s.heap.objs.size >>= _) _ _ _
      exact wpAny_bind (wpAny_load at' (wpAny_pure (fin k at_ it)))
    | again c1 =>
      refine ⟨z.1, codeAny_mono z.2 fun q s2 y => ?_⟩
      obtain ⟨h', tk, acc, rfl, rfl, k, at_, it⟩ := y
      obtain ⟨c, at'⟩ := id at_
      show wpAny _ A (load s.heap.objs.size >>= _) _ _ _
      exact wpAny_bind (wpAny_load at' (wpAny_pure (fin k at_ it)))
  · obtain ⟨_, _, _, q, _⟩ := z
    cases q
/-- sorted(d), d a dict: its keys are told by a source -/
theorem sorted_src {β : Type} {vs : List Value} {bs : List β} {enc : β → PyData} {R : Value → β → Prop} {E : Value → Shared → Prop} {T : String} {r d : Addr} {n : Nat} {P : Nat → Value → Prop} {OK : Heap → Prop} {Q : Value → Shared → Prop}
    (K : KdlSrc prog w T r d n P OK) (hh : A.handled = none) (hok : OK s.heap) (hn : n ≤ sizeLine) (hv : ∀ acc : Array Value, ItemsOf P acc n → acc.toList = vs)
    (e : EachIs R vs bs) (er : EachIs (fun v b => ∃ as, Reads s.heap v (enc b) as) vs bs) (hal : AllAlike (bs.map enc)) (ht : (∀ d ∈ bs.map enc, ∃ xs, d = .tuple xs) ∨ Sortable (bs.map enc)) (hL : bs.length ≤ sizeLine)
    (hu : ∀ b, b ∈ bs → A.units + 2 + (enc b).depth < cLine)
    (h : ∀ (out : List Value) (h' : Heap) (tk : Nat) (D : Addr), out.length = bs.length → EachIs R out (bs.mergeSort (dataLe false enc)) → (∀ b o, s.heap.get? b = some o → h'.get? b = some o) → s.heap.objs.size ≤ D → (∃ ep, h'.get? D = some (seqObj "list" out.toArray ep)) → Q (.ref D) { s with heap := h', toks := tk }) :
    wpAny (model prog w) A (call (.builtin "sorted") [.ref r]) Q E s := by
  refine call_function_entry kind_sorted plain_sorted entry_sorted (args_sorted1 _) ?_
  unfold Builtin.«sorted»
  refine wpAny_bind (m := checkCount "sorted" 1 1 _) (wpAny_pure ?_)
  refine wpAny_bind (collect_src (A := A.in1) K hh hok hn fun h' tk acc hk hle hacc => ?_)
  rw [hv acc hacc]
  have hvl : vs.length ≤ sizeLine := by rw [e.length]; exact hL
  refine wpAny_bind (wpAny_newList ?_ hvl)
  have hD : (h'.push { cls := .type "list", data := .seq vs.toArray }).get? h'.objs.size = some (seqObj "list" vs.toArray 0) := Heap.get?_push_size _ rfl
  refine wpAny_bind (wpAny_holding ?_)
  refine wpAny_call_entry_kw slot_list_sort ⟨_, hD, rfl⟩ entry_list_sort ?body (args_list_sort _)
  case body =>
    have er' : EachIs (fun v b => ∃ as, Reads (sortingHeap (h'.push { cls := .type "list", data := .seq vs.toArray }) h'.objs.size vs) v (enc b) as) vs bs := er.mono fun _ _ ⟨as, r⟩ => ⟨as, PyProof.Rows.Reads.keeps (fun b o q => sortingHeap_old (Nat.ne_of_lt (Nat.lt_of_lt_of_le (Heap.lt_size q) hle)) (Heap.get?_push_of_some _ (hk _ _ q))) r⟩
    have em := each_map (R := fun v d => ∃ as, Reads (sortingHeap (h'.push { cls := .type "list", data := .seq vs.toArray }) h'.objs.size vs) v d as) enc er'
    have S : SortsAt prog w A.in1.in1 { s with heap := sortingHeap (h'.push { cls := .type "list", data := .seq vs.toArray }) h'.objs.size vs, toks := tk } (dataKind (sortingHeap (h'.push { cls := .type "list", data := .seq vs.toArray }) h'.objs.size vs) (bs.map enc)) vs := by
      rcases ht with ht | ht
      · exact sorts_tup (s := { s with heap := sortingHeap (h'.push { cls := .type "list", data := .seq vs.toArray }) h'.objs.size vs, toks := tk }) em hal ht (bound_map hu)
      · exact SortsAt.data (s := { s with heap := sortingHeap (h'.push { cls := .type "list", data := .seq vs.toArray }) h'.objs.size vs, toks := tk }) em hal ht (bound_map hu)
    refine list_sort_vals (s := { s with heap := h'.push { cls := .type "list", data := .seq vs.toArray }, toks := tk }) hD S hvl ?_
    refine ⟨.none, rfl, wpAny_pure ⟨_, rfl, ?_⟩⟩
    refine h _ _ tk _ (by rw [sortVals_length false rfl]; exact e.length) (sortVals_data false e er' hal) (fun b o q => ?_) hle (PyProof.Rows.sortedHeap_at hD)
    have hb : b < h'.objs.size := Heap.lt_size (hk _ _ q)
    rw [PyProof.Rows.sortedHeap_old (Nat.ne_of_lt hb) (by rw [size_push']; exact Nat.lt_succ_of_lt hb)]
    exact Heap.get?_push_of_some _ (hk _ _ q)
end
end Vi
end
section
set_option Elab.async false
set_option linter.all false
set_option maxRecDepth 100000
set_option maxHeartbeats 1000000
/-! Vi19: more builtins; get; isinstance. -/
namespace Vi
open PySem PySem.Spec PyProof.Rows L2

section
variable {K : PySem.W.Frag} {mg : Str → Option Value} {H : Hp} {G : Gs}
theorem pys_map : ∀ xs : List D, pys xs = xs.map D.py
  | [] => rfl
  | x :: xs => by rw [pys, pys_map xs, List.map_cons]
theorem pls_all : ∀ {n : Nat} {xs : List D}, pls n xs = true → ∀ x ∈ xs, x.pl n = true
  | _, [], _, x, hx => by cases hx
  | n, y :: ys, h, x, hx => by
    simp only [pls, Bool.and_eq_true] at h
    rcases List.mem_cons.mp hx with rfl | z
    · exact h.1
    · exact pls_all h.2 x z
def SortR (K : PySem.W.Frag) (mg : Str → Option Value) (G : Gs) (u : Value) (p : D × V) : Prop := RelV p.2 u ∧ RF K mg G p.1 p.2
theorem sort_each : ∀ {xs : List D} {vs : List V} {us : List Value}, RFs K mg G xs vs → Vals vs us → PySem.W.EachIs (SortR K mg G) us (xs.zip vs)
  | [], _, _, h, r => by rw [show _ = [] from h] at r; cases r; exact .nil
  | x :: xs, _, _, ⟨v, t, e, q, rr⟩, r => by
    subst e
    cases r with
    | cons r1 r2 => exact .cons ⟨r1, q⟩ (sort_each rr r2)
theorem zip_fst : ∀ {xs : List D} {vs : List V}, RFs K mg G xs vs → (xs.zip vs).map (·.1) = xs
  | [], _, h => rfl
  | x :: xs, _, ⟨v, t, e, q, rr⟩ => by subst e; rw [List.zip_cons_cons, List.map_cons, zip_fst rr]
theorem each_out : ∀ {us : List Value} {ps : List (D × V)}, PySem.W.EachIs (SortR K mg G) us ps → RFs K mg G (ps.map (·.1)) (ps.map (·.2)) ∧ Vals (ps.map (·.2)) us
  | _, _, .nil => ⟨rfl, .nil⟩
  | _, _, .cons r t => ⟨⟨_, _, rfl, r.2, (each_out t).1⟩, .cons r.1 (each_out t).2⟩
theorem sort_fst (ps : List (D × V)) : (ps.mergeSort (PySem.W.dataLe false fun p => p.1.py)).map (·.1) = sortD (ps.map (·.1)) := by
  unfold sortD
  exact List.map_mergeSort fun a _ b _ => rfl
end
theorem sortable_of {ys : List D} (hp : ∀ x ∈ ys, x.pl 59 = true) (hso : sortable ys = true) : (∀ d ∈ ys.map D.py, ∃ xs, d = .tuple xs) ∨ PySem.W.Sortable (ys.map D.py) := by
  unfold sortable at hso
  rw [Bool.or_eq_true, Bool.or_eq_true] at hso
  rcases hso with (hso | hso) | hso
  · refine .inr (.inl fun x hx => ?_)
    obtain ⟨x', hx', rfl⟩ := List.mem_map.mp hx
    have := List.all_eq_true.mp hso x' hx'
    cases x' <;> first | (cases this; done) | skip
    all_goals (rename_i zs; cases zs with
      | nil => cases this
      | cons z zs => exact ⟨_, _, rfl⟩)
  · refine .inr (.inr fun x hx => ?_)
    obtain ⟨x', hx', rfl⟩ := List.mem_map.mp hx
    have hq := List.all_eq_true.mp hso x' hx'
    have hq2 := hp x' hx'
    cases x' <;> first | (cases hq; done) | (simp [D.pl] at hq2; done) | exact ⟨(fun z => nomatch z), (fun _ z => nomatch z)⟩
  · refine .inl fun x hx => ?_
    obtain ⟨x', hx', rfl⟩ := List.mem_map.mp hx
    have := List.all_eq_true.mp hso x' hx'
    cases x' <;> first | (cases this; done) | exact ⟨_, rfl⟩
/-- the keys that were gathered are the entries' own -/
theorem keys_acc {prog : Program} {w : World} {ks : List (List Key × Addr × Value)} {es : Array DictEntry} {acc : Array Value} (he : es.toList = ks.map (entryOfKey (tupleKind (mixKind prog w)))) (it : ItemsOf (fun i v => ∃ en : DictEntry, es[i]? = some en ∧ v = en.key) acc es.size) :
    acc.toList = (ks.map fun x => x.2.1).map Value.ref := by
  have hl : acc.toList.length = ks.length := by rw [Array.length_toList, it.1]; exact size_of_entries he
  refine List.ext_getElem? fun j => ?_
  rw [List.map_map, List.getElem?_map]
  cases hj : acc.toList[j]? with
  | none =>
    have h1 := List.getElem?_eq_none_iff.mp hj
    rw [List.getElem?_eq_none (by omega)]
    rfl
  | some v =>
    obtain ⟨en, hen, hv⟩ := it.2 j v (by rw [← Array.getElem?_toList]; exact hj)
    have qe := entry_at he j
    rw [hen] at qe
    cases hb : ks[j]? with
    | none => rw [hb] at qe; cases qe
    | some b =>
      rw [hb] at qe
      rw [hv, Option.some.inj qe]
      rfl
section
variable {X : Cx}
theorem bi_sorted (hc : X.calm = true) (hu : X.A.units + 200 < cLine) : CallR X (.builtin "sorted") (rBi X.K X.mg .sorted) := by
  intro pins s σ H xs us Q I r h
  obtain ⟨G, ds, rv, n, rt, e, q⟩ := h
  match ds, rt, e with
  | [], _, e => cases e
  | d :: e1 :: es, _, e => cases d <;> cases e
  | [d], ⟨v, t, ev, rt1, et⟩, e =>
    subst ev
    rw [show t = [] from et] at r
    cases d <;> first | (cases e; done) | skip
    · rename_i ys
      simp only [biop] at e
      split at e
      · rename_i hs
        cases e
        rw [Bool.and_eq_true] at hs
        obtain ⟨ha, hso⟩ := hs
        unfold alikes at ha
        rw [Bool.and_eq_true] at ha
        obtain ⟨hpl, hal⟩ := ha
        have hp := pls_all hpl
        obtain ⟨a, vs, rfl, h, rr⟩ := rt1
        rw [Vals.ref1 r]
        obtain ⟨its, rv', hl, hz⟩ := I.list (.inl (.inl h.1))
        have ee := sort_each rr rv'
        have ef := zip_fst rr
        have em : (ys.zip vs).map (fun p => p.1.py) = ys.map D.py := by
          have : (ys.zip vs).map (fun p => p.1.py) = ((ys.zip vs).map (·.1)).map D.py := by rw [List.map_map]; rfl
          rw [this, ef]
        have len : (ys.zip vs).length = ys.length := by rw [← List.length_map (f := (·.1)), ef]
        refine sorted_any (vs := its) (bs := ys.zip vs) (enc := fun p => p.1.py) (R := SortR X.K X.mg G) hl.isList ee ?_ ?_ ?_ ?_ ?_ ?_
        · have conv : ∀ {us : List Value} {ps : List (D × V)}, PySem.W.EachIs (SortR X.K X.mg G) us ps → (∀ p ∈ ps, p.1.pl 59 = true) → PySem.W.EachIs (fun v b => ∃ as, Reads s.heap v b.1.py as) us ps := by
            intro us ps h
            induction h with
            | nil => intro _; exact .nil
            | cons r t ih => intro hp; exact .cons (RF.reads I n.sub r.2 (hp _ List.mem_cons_self) r.1) (ih fun p hm => hp p (List.mem_cons_of_mem _ hm))
          exact conv ee fun p hm => hp p.1 (List.of_mem_zip hm).1
        · rw [em]
          intro x hx y hy
          obtain ⟨x', hx', rfl⟩ := List.mem_map.mp hx
          obtain ⟨y', hy', rfl⟩ := List.mem_map.mp hy
          have := List.all_eq_true.mp hal x' hx'
          rw [Bool.and_eq_true] at this
          exact List.all_eq_true.mp this.2 y' hy'
        · rw [em]
          exact sortable_of hp hso
        · rw [len, ← rr.length]; exact hz
        · intro p hm
          have d := (pl_plain (hp p.1 (List.of_mem_zip hm).1)).2
          show X.A.units + 2 + p.1.py.depth < cLine
          omega
        · intro out ho he
          obtain ⟨r1, r2⟩ := each_out he
          rw [sort_fst, ef] at r1
          obtain ⟨ep, he'⟩ := PyProof.Rows.sortedAll_at s.heap its out.toArray
          have hlen : ((((ys.zip vs).mergeSort (PySem.W.dataLe false fun p => p.1.py)).map (·.2))).length ≤ sizeLine := by
            rw [r2.length, ho, len, ← rr.length]; exact hz
          exact ⟨.ref _, upd H (s.heap.objs.size + 1) (.lst _), I.laid (t' := s.toks) (fun _ _ => PyProof.Rows.sortedAll_old) (Nat.le_succ _) ⟨hlen, out, ep, r2, he'⟩, rfl, q.newL n r1 _ (I.hok.fresh (Nat.le_succ _))⟩
      · cases e
    · rename_i kvs
      simp only [biop] at e
      split at e
      · rename_i hs
        cases e
        rw [Bool.and_eq_true] at hs
        obtain ⟨ha, hso⟩ := hs
        unfold alikes at ha
        rw [Bool.and_eq_true] at ha
        obtain ⟨hpl, hal⟩ := ha
        have hp := pls_all hpl
        obtain ⟨a, ws, rfl, ⟨h, _⟩, rr⟩ := rt1
        rw [Vals.ref1 r]
        obtain ⟨z, hs', ks, pr, o, es, ep, ho, hx, hdt, he, hn⟩ := (show ObjOk X.prog X.w H s.heap a (.dT ws) from h.ok I.hok)
        have l1 : es.size = ks.length := size_of_entries he
        have l2 : ws.length = ks.length := Paired.length pr
        have hk := isKeys_of pr
        have st := StepP.tups n.sub (isKeys_at hk)
        have n' := n.step st
        have rk := RFt.keys (G' := G.add H (ks.map fun x => x.2.1)) rr hk fun a ha => Gs.add_in ha
        have q' := q.next n st (fun d e => e)
        generalize hys : (kvs.map fun kv => ksD kv.1) = ys at *
        have ee := sort_each rk (vals_refs (ks.map fun x => x.2.1))
        have ef := zip_fst rk
        have em : (ys.zip ((ks.map fun x => x.2.1).map V.ref)).map (fun p => p.1.py) = ys.map D.py := by
          have this : ∀ zs : List (D × V), zs.map (fun p => p.1.py) = (zs.map (·.1)).map D.py := fun zs => by rw [List.map_map]; rfl
          rw [this, ef]
        have len : (ys.zip ((ks.map fun x => x.2.1).map V.ref)).length = ys.length := by rw [← List.length_map (f := (·.1)), ef]
        have lk : ys.length = ks.length := by rw [← rk.length]; simp
        refine sorted_src (bs := ys.zip ((ks.map fun x => x.2.1).map V.ref)) (enc := fun p => p.1.py) (kdl_raw hs' hx hdt) (I.ok.hd hc) ho (by omega) (fun acc it => keys_acc he it) ee ?_ ?_ ?_ ?_ ?_ ?_
        · have conv : ∀ {us : List Value} {ps : List (D × V)} {G1 : Gs}, Sub G1.fr H → PySem.W.EachIs (SortR X.K X.mg G1) us ps → (∀ p ∈ ps, p.1.pl 59 = true) → PySem.W.EachIs (fun v b => ∃ as, Reads s.heap v b.1.py as) us ps := by
            intro us ps G1 sb h
            induction h with
            | nil => intro _; exact .nil
            | cons r t ih => intro hp; exact .cons (RF.reads I sb r.2 (hp _ List.mem_cons_self) r.1) (ih fun p hm => hp p (List.mem_cons_of_mem _ hm))
          exact conv n'.sub ee fun p hm => hp p.1 (List.of_mem_zip hm).1
        · rw [em]
          intro x hx y hy
          obtain ⟨x', hx', rfl⟩ := List.mem_map.mp hx
          obtain ⟨y', hy', rfl⟩ := List.mem_map.mp hy
          have := List.all_eq_true.mp hal x' hx'
          rw [Bool.and_eq_true] at this
          exact List.all_eq_true.mp this.2 y' hy'
        · rw [em]
          exact sortable_of hp hso
        · rw [len, lk]; omega
        · intro p hm
          have d := (pl_plain (hp p.1 (List.of_mem_zip hm).1)).2
          show X.A.units + 2 + p.1.py.depth < cLine
          omega
        · intro out h' tk D ho he keep hle hat
          obtain ⟨r1, r2⟩ := each_out he
          rw [sort_fst, ef] at r1
          obtain ⟨ep', hat⟩ := hat
          have hlen : ((((ys.zip ((ks.map fun x => x.2.1).map V.ref)).mergeSort (PySem.W.dataLe false fun p => p.1.py)).map (·.2))).length ≤ sizeLine := by
            rw [r2.length, ho, len, lk]; omega
          exact ⟨.ref _, upd H D (.lst _), I.laid (t' := tk) keep hle ⟨hlen, out, ep', r2, hat⟩, rfl, q'.newL n' r1 _ (I.hok.fresh hle)⟩
      · cases e
/-! ### isinstance -/
theorem RVr.tyx {K : PySem.W.Frag} {mg : Str → Option Value} {lv : List Addr} {H : Hp} {G : Gs} {f : List Addr} {rv : RV} {v : V} {T : String} (b : Sub G.fr H) (r : RVr K mg lv H G f rv v) (e : rv.ty = some T) : TyX K H v (.type T) := by
  cases rv with
  | fz d =>
    obtain ⟨_, r⟩ := r
    cases d <;> first | (cases e; done) | skip
    · cases e; cases (show v = _ from r); exact .base .non
    · cases e; cases (show v = _ from r); exact .base (.bl _)
    · cases e; cases (show v = _ from r); exact .base (.int _)
    · cases e; cases (show v = _ from r); exact .base (.str _)
    · cases e
      obtain ⟨a, vs, rfl, h, _⟩ := r
      rcases b _ _ h with z | ⟨z, _⟩
      · exact .base (.tup z)
      · cases z
    · cases e
      obtain ⟨a, vs, rfl, h, _⟩ := r
      rcases b _ _ h with z | ⟨z, _⟩
      · exact .base (.lst z)
      · cases z
    · cases e
      obtain ⟨a, vs, rfl, h, _⟩ := r
      rcases h with (h | ⟨_, h⟩) | ⟨o, its, n, h1, h2, _⟩
      · cases h
      · cases h
      · exact .kTuple h1 h2
    · cases e
      obtain ⟨a, vs, rfl, ⟨ob, _, h⟩, _⟩ := r
      rcases b _ _ h with z | ⟨z, _⟩
      · exact .fTuple z
      · cases z
  | own c =>
    cases c <;> first | (cases e; done) | skip
    cases e
    obtain ⟨a, vs, rfl, _, h, _⟩ := r
    exact .base (.lst h)
  | ro c =>
    cases c <;> first | (cases e; done) | skip
    cases e
    obtain ⟨_, g, ⟨a, vs, rfl, _, h, _⟩, _⟩ := r
    exact .base (.lst h)
theorem isB_kit {K : PySem.W.Frag} {rv : RV} {T : String} {t : Str} {b : Bool} (e : rv.ty = some T) (h : isB T t = some b) : ∃ u, tyS t = some u ∧ PySem.W.kitOne K (.type T) (.type u) = some b := by
  unfold isB at h
  cases hu : tyS t with
  | none => rw [hu] at h; cases h
  | some u =>
    rw [hu] at h
    refine ⟨u, rfl, kit_ty ?_⟩
    have hT : T = "NoneType" ∨ T = "bool" ∨ T = "int" ∨ T = "str" ∨ T = "tuple" ∨ T = "list" := by
      unfold RV.ty at e
      split at e <;> first | (cases e; simp; done) | cases e
    have hU : u = "int" ∨ u = "bool" ∨ u = "str" ∨ u = "tuple" ∨ u = "list" ∨ u = "dict" := by
      unfold tyS at hu
      repeat' (split at hu)
      all_goals first | (cases hu; simp; done) | cases hu
    have hb : b = (T == u || (T == "bool" && u == "int")) := (Option.some.inj h).symm
    subst hb
    rcases hT with rfl | rfl | rfl | rfl | rfl | rfl <;> rcases hU with rfl | rfl | rfl | rfl | rfl | rfl <;> decide +kernel
theorem boot_ty {t : Str} {u : String} (h : tyS t = some u) : bootBuiltins t = some (.type u) ∧ t ∈ bnames ∧ t ≠ "__name__" ∧ (t == ("__debug__" : Str)) = false := by
  unfold tyS at h
  repeat' (split at h)
  all_goals first | (cases h; done) | skip
  all_goals (rename_i e; cases h; subst e; exact ⟨by decide +kernel, by decide +kernel, by decide +kernel, by decide +kernel⟩)
section
variable {W : WX} {hx : Hx} {Φ : Phi} {k n : Nat} {a b c : E} {x y z e : Expr} {pos p p2 q' : Pos} {t : Str} {ts : List Str} {i : Nat}
/-- the built-in classes, as they stand in a tuple -/
def tTys (us : List String) : TA := fun _ H Q => Q (us.map V.ty) H
theorem s_cls (cx : Ctx Φ k X W) {u : String} (hu : tyS t = some u) (hg : Gl X t) : PE X (.Name t pos) (L2.tC (.ty u)) :=
  let ⟨h1, h2, h3, h4⟩ := boot_ty hu
  pe_bltn hg (cx.phi.bn t h2) h1 rfl h3 h4
theorem isTys_kit {K : PySem.W.Frag} {rv : RV} {T : String} (e : rv.ty = some T) : ∀ {ts : List Str} {b : Bool}, isTys rv ts = some b → ∃ us, ts.mapM tyS = some us ∧ PySem.W.kitAny K (.type T) (us.map Value.type) = some b
  | [], b, h => by cases h; exact ⟨[], rfl, kitAny_nil⟩
  | t :: ts, b, h => by
    simp only [isTys, e, Option.bind_some] at h
    cases h1 : isB T t with
    | none => rw [h1] at h; cases h
    | some b1 =>
      cases h2 : isTys rv ts with
      | none => rw [h1, h2] at h; cases h
      | some b2 =>
        rw [h1, h2] at h
        cases h
        obtain ⟨u, hu, k1⟩ := isB_kit (K := K) e h1
        obtain ⟨us, hus, k2⟩ := isTys_kit (K := K) e h2
        refine ⟨u :: us, by simp [List.mapM_cons, hu, hus], kitAny_cons k1 (fun hb => ?_) fun hb => ?_⟩
        · subst hb; simpa using k2
        · subst hb; rfl
theorem isTys_ty {rv : RV} {b : Bool} : ∀ {ts : List Str}, ts ≠ [] → isTys rv ts = some b → ∃ T, rv.ty = some T
  | [], h, _ => absurd rfl h
  | t :: ts, _, h => by
    cases e : rv.ty with
    | some T => exact ⟨T, rfl⟩
    | none => simp [isTys, e] at h
theorem s_isin1 (cx : Ctx Φ k X W) (hg : Gl X "isinstance") {u : String} (hu : tyS t = some u) (hy : PE X y (L2.tC (.ty u))) (he : PE X x (eT X hx W Φ a)) (hs1 : starEach [x, y] X.env = (false, eval x X.env) :: starEach [y] X.env) (hs2 : starEach [y] X.env = (false, eval y X.env) :: starEach [] X.env)
    (hpl : (backTo pos (starEach [y] X.env)).any (·.1) = false) : PE X (.Call (.Name "isinstance" p) [x, y] [] pos) (eT X hx W Φ (.isin a [t])) := by
  refine PE.imp (pe_callB call_isi hg (cx.phi.bn _ (by decide)) (by decide +kernel) (pa_cons he (pa_cons hy pa_nil hs2) hs1) (by decide) (by decide) hs1 hpl) fun σ H Q ⟨G, fp, rs, env, τ, s, q⟩ => ?_
  rw [evalE] at q
  refine tE_bind post_e s q fun rv v τ' H' G' f s' fr r nw q' => ?_
  obtain ⟨r2, e, q'⟩ := q'.of
  cases e2 : isTys rv [t] with
  | none => rw [e2] at e; cases e
  | some b =>
    rw [e2] at e
    cases e
    obtain ⟨T, eT'⟩ := isTys_ty (by simp) e2
    have e3 : isB T t = some b := by
      simp only [isTys, eT', Option.bind_some] at e2
      cases h1 : isB T t with
      | none => rw [h1] at e2; cases e2
      | some b1 => rw [h1] at e2; simpa using e2
    obtain ⟨u', hu', kk⟩ := isB_kit (K := X.K) eT' e3
    rw [hu] at hu'
    cases hu'
    exact ⟨v, .ty u, _, _, b, rfl, .ty u, RVr.tyx s'.sub r eT', kk, OkE.fz s' q' rfl⟩
theorem paired_ty : ∀ us : List String, Paired ClsV (us.map V.ty) (us.map Value.type)
  | [] => .nil
  | u :: us => .cons (.ty u) (paired_ty us)
theorem s_isin2 (cx : Ctx Φ k X W) (hg : Gl X "isinstance") {us : List String} (hus : ts.mapM tyS = some us) (hts : ts ≠ []) (hy : PE X y (tTup (tTys us))) (he : PE X x (eT X hx W Φ a)) (hs1 : starEach [x, y] X.env = (false, eval x X.env) :: starEach [y] X.env) (hs2 : starEach [y] X.env = (false, eval y X.env) :: starEach [] X.env)
    (hpl : (backTo pos (starEach [y] X.env)).any (·.1) = false) (hlen : us.length ≤ 1000) : PE X (.Call (.Name "isinstance" p) [x, y] [] pos) (eT X hx W Φ (.isin a ts)) := by
  refine PE.imp (pe_callB call_isiT hg (cx.phi.bn _ (by decide)) (by decide +kernel) (pa_cons he (pa_cons hy pa_nil hs2) hs1) (by decide) (by decide) hs1 hpl) fun σ H Q ⟨G, fp, rs, env, τ, s, q⟩ => ?_
  rw [evalE] at q
  refine tE_bind post_e s q fun rv v τ' H' G' f s' fr r nw q' => ?_
  obtain ⟨r2, e, q'⟩ := q'.of
  cases e2 : isTys rv ts with
  | none => rw [e2] at e; cases e
  | some b =>
    rw [e2] at e
    cases e
    obtain ⟨T, eT'⟩ := isTys_ty hts e2
    obtain ⟨us', hus', kk⟩ := isTys_kit (K := X.K) eT' e2
    rw [hus] at hus'
    cases hus'
    refine ⟨by rw [List.length_map]; rw [sizeLine_eq]; omega, fun tp htp => ?_⟩
    have st : StepP H' G' (upd H' tp (.tup (us.map V.ty))) G' := StepP.new s'.sub htp
    refine ⟨v, tp, us.map V.ty, _, us.map Value.type, b, rfl, upd_same, paired_ty us, ?_, kk, ?_⟩
    · exact RVr.tyx (s'.step st).sub (RVr.frame st.frame st.frame.gle nw.neN s'.liveN r) eT'
    · exact (q'.back st.frame st.there).fz (s'.step st) rfl
/-- d.get(k, x) -/
theorem s_dget (cx : Ctx Φ k X W) (ho : PE X x (eT X hx W Φ a)) (hk : PE X y (eT X hx W Φ b)) (hz : PE X z (eT X hx W Φ c)) (m : M2 X x "get" p y z pos) : PE X (.Call (.Attribute x "get" p) [y, z] [] pos) (eT X hx W Φ (.dget a b c)) := by
  have hu : X.A.units + 1 < cLine := by have := cx.hu; omega
  refine PE.imp (pe_dget2 hu ho hk hz m) fun σ H Q ⟨G, fp, rs, env, τ, s, q⟩ => ?_
  rw [evalE] at q
  refine tE_look post_e s q fun d v τ1 H1 G1 s1 fr1 rt1 q1 => ?_
  by_cases hd : d.isDict = true
  · rw [if_pos hd] at q1
    have isd : ∃ p0, v = .ref p0 ∧ IsD H1 p0 := by
      cases d <;> first | (cases hd; done) | skip
      · obtain ⟨p0, ws, e, ⟨h, _⟩, _⟩ := rt1; exact ⟨p0, e, .inl ⟨ws, h⟩⟩
      · obtain ⟨p0, ws, e, ⟨h, _⟩, _⟩ := rt1; exact ⟨p0, e, .inr ⟨ws, h⟩⟩
    obtain ⟨p0, rfl, isd⟩ := isd
    refine ⟨p0, rfl, isd, ?_⟩
    refine tE_look post_e s1 q1 fun d2 v2 τ2 H2 G2 s2 fr2 r2 q2 => ?_
    refine tE_kept post_e s2 q2 fun d3 v3 τ3 H3 G3 s3 fr3 r3 q3 => ?_
    obtain ⟨rv4, e4, q4⟩ := q3.of
    have rtd := (rt1.frame fr2 fr2.gle).frame fr3 fr3.gle
    have rtk := r2.frame fr3 fr3.gle
    cases d <;> first | (cases hd; done) | skip
    · rename_i kvs
      cases ek : keyOf d2 with
      | none => simp [dgetop, ek] at e4
      | some key =>
        simp only [dgetop, ek, Option.map_some] at e4
        cases e4
        obtain ⟨p1, o, ep, g, g1, g2⟩ := (dget_of s3.now rtd rtk).1 kvs rfl key ek
        cases ep
        refine ⟨o, g, ?_⟩
        cases el : look kvs key with
        | none => rw [el] at q4; rw [g2 el]; exact q4.fz s3 r3
        | some dd =>
          rw [el] at q4
          obtain ⟨w, ew, rw'⟩ := g1 dd el
          rw [ew]
          exact q4.fz s3 rw'
    · rename_i kvs
      cases d2 <;> first | (simp [dgetop] at e4; done) | skip
      rename_i ks
      cases ek : keysOf ks with
      | none => simp [dgetop, ek] at e4
      | some key =>
        simp only [dgetop, ek, Option.map_some] at e4
        cases e4
        obtain ⟨p1, o, ep, g, g1, g2⟩ := (dget_of s3.now rtd rtk).2 kvs rfl ks rfl key ek
        cases ep
        refine ⟨o, g, ?_⟩
        cases el : look kvs key with
        | none => rw [el] at q4; rw [g2 el]; exact q4.fz s3 r3
        | some dd =>
          rw [el] at q4
          obtain ⟨w, ew, rw'⟩ := g1 dd el
          rw [ew]
          exact q4.fz s3 rw'
  · rw [if_neg hd] at q1
    exact q1.elim
/-! ### builtins -/
def Bi.name : Bi → Str
  | .len => "len" | .tuple => "tuple" | .ptuple => "tuple" | .list => "list" | .sum => "sum" | .all => "all" | .min => "min" | .max => "max" | .sorted => "sorted" | .abs => "abs" | .int => "int" | .dictK => "dict" | .dictT => "dict" | .repr => "repr" | .str => "str"
theorem bi_ta {bi : Bi} {es : Es} {K : PySem.W.Frag} {mg : Str → Option Value} {σ : L2.St} {H : Hp} {Q : VK} (q : tE K mg hx W Φ (.bi bi es) σ H Q) : tCB (rBi K mg bi) (tA K mg hx W Φ es) σ H Q := by
  obtain ⟨G, fp, rs, env, τ, s, q⟩ := q
  rw [evalE] at q
  refine ⟨G, fp, rs, env, τ, s, SatR.mono (SatR.bind q) fun rvs τ' q vs H' G' f s' fr r nw => ?_⟩
  cases ed : dsOf rvs with
  | none => simp only [ed] at q; exact q.elim
  | some ds =>
    simp only [ed] at q
    obtain ⟨rv, e, q⟩ := q.of
    exact ⟨G', ds, rv, s'.now, r.rts s'.sub s'.hand.ok s'.live ed nw.ne, e, OkE.yld s' (q.back fr (s'.there' fr))⟩
theorem s_biB {bi : Bi} {id : String} {es : Es} {xs : List Expr} (cx : Ctx Φ k X W) (hc : CallR X (.builtin id) (rBi X.K X.mg bi)) (hb : bi.name ∈ bnames) (hg : Gl X bi.name) (hv : bootBuiltins bi.name = some (.builtin id)) (hn : bi.name ≠ "__name__") (hd : (bi.name == ("__debug__" : Str)) = false) (ha : PA X (x :: xs) (aT X hx W Φ es))
    (he : starEach (x :: xs) X.env = (false, eval x X.env) :: starEach xs X.env) (hpl : (backTo pos (starEach xs X.env)).any (·.1) = false) : PE X (.Call (.Name bi.name p) (x :: xs) [] pos) (eT X hx W Φ (.bi bi es)) :=
  PE.imp (pe_callB hc hg (cx.phi.bn _ hb) hv ha hn hd he hpl) fun _ _ _ q => bi_ta q
theorem s_biT {bi : Bi} {id : String} {es : Es} {xs : List Expr} (cx : Ctx Φ k X W) (hc : CallR X (.type id) (rBi X.K X.mg bi)) (hb : bi.name ∈ bnames) (hg : Gl X bi.name) (hv : bootBuiltins bi.name = some (.type id)) (hn : bi.name ≠ "__name__") (hd : (bi.name == ("__debug__" : Str)) = false) (ha : PA X (x :: xs) (aT X hx W Φ es))
    (he : starEach (x :: xs) X.env = (false, eval x X.env) :: starEach xs X.env) (hpl : (backTo pos (starEach xs X.env)).any (·.1) = false) : PE X (.Call (.Name bi.name p) (x :: xs) [] pos) (eT X hx W Φ (.bi bi es)) :=
  PE.imp (pe_callTy hc hg (cx.phi.bn _ hb) hv ha hn hd he hpl) fun _ _ _ q => bi_ta q
/-- which builtins are served -/
def Bi.ok : Bi → Bool
  | .dictK => false | .repr => false | .str => false
  | _ => true
theorem s_bi {bi : Bi} {es : Es} {xs : List Expr} (cx : Ctx Φ k X W) (hok : bi.ok = true) (hg : Gl X bi.name) (ha : PA X (x :: xs) (aT X hx W Φ es))
    (he : starEach (x :: xs) X.env = (false, eval x X.env) :: starEach xs X.env) (hpl : (backTo pos (starEach xs X.env)).any (·.1) = false) : PE X (.Call (.Name bi.name p) (x :: xs) [] pos) (eT X hx W Φ (.bi bi es)) := by
  cases bi with
  | len => exact s_biB cx bi_len (by decide) hg (by decide +kernel) (by decide) (by decide) ha he hpl
  | tuple => exact s_biT cx bi_tuple (by decide) hg (by decide +kernel) (by decide) (by decide) ha he hpl
  | ptuple => exact s_biT cx bi_ptuple (by decide) hg (by decide +kernel) (by decide) (by decide) ha he hpl
  | list => exact s_biT cx (bi_list cx.calm) (by decide) hg (by decide +kernel) (by decide) (by decide) ha he hpl
  | sum => exact s_biB cx (bi_sum cx.calm) (by decide) hg (by decide +kernel) (by decide) (by decide) ha he hpl
  | all => exact s_biB cx (bi_all cx.calm) (by decide) hg (by decide +kernel) (by decide) (by decide) ha he hpl
  | min => exact s_biB cx (bi_minmax cx.calm cx.hu).1 (by decide) hg (by decide +kernel) (by decide) (by decide) ha he hpl
  | max => exact s_biB cx (bi_minmax cx.calm cx.hu).2 (by decide) hg (by decide +kernel) (by decide) (by decide) ha he hpl
  | sorted => exact s_biB cx (bi_sorted cx.calm cx.hu) (by decide) hg (by decide +kernel) (by decide) (by decide) ha he hpl
  | abs => exact s_biB cx bi_abs (by decide) hg (by decide +kernel) (by decide) (by decide) ha he hpl
  | int => exact s_biT cx bi_int (by decide) hg (by decide +kernel) (by decide) (by decide) ha he hpl
  | dictK => cases hok
  | dictT => exact s_biT cx (bi_dictT cx.calm cx.hu cx.room.room.hd) (by decide) hg (by decide +kernel) (by decide) (by decide) ha he hpl
  | repr => cases hok
  | str => cases hok
end
end
end Vi
end
section
set_option Elab.async false
set_option linter.all false
set_option maxRecDepth 100000
set_option maxHeartbeats 2000000
/-! Vi19a: empty dicts; enumerate over tuples and lists. -/
namespace Vi
open PySem PySem.Spec PyProof.Rows L2
section
variable {X : Cx} {W : WX} {hx : Hx} {Φ : Phi} {k : Nat} {a b c : E} {x y z tg : Expr} {pos p : Pos}
theorem s_dnewK : PE X (.Dict [] [] pos) (eT X hx W Φ .dnewK) :=
  PE.imp pe_dnewK fun σ H Q ⟨G, fp, rs, env, τ, s, q⟩ p hp => by
    rw [evalE] at q
    have st : StepP H G (upd H p (.dK [])) G := StepP.new s.sub hp
    exact q _ _ G [p] (s.step st) st.frame ⟨p, [], rfl, rfl, by rw [if_pos rfl]; exact upd_same, rfl⟩ (Fresh.one s.sub s.hand.ok hp)
theorem s_dnewT : PE X (.Dict [] [] pos) (eT X hx W Φ .dnewT) :=
  PE.imp pe_dnewT fun σ H Q ⟨G, fp, rs, env, τ, s, q⟩ p hp => by
    rw [evalE] at q
    have st : StepP H G (upd H p (.dT [])) G := StepP.new s.sub hp
    exact q _ _ G [p] (s.step st) st.frame ⟨p, [], rfl, rfl, by rw [if_pos rfl]; exact upd_same, rfl⟩ (Fresh.one s.sub s.hand.ok hp)
end

/-! ### enumerate -/
theorem meets_enum1 {v : Value} {o : Obj} {H : Heap → Prop} (B : Begins v o H) :
    Meets (Builtin.«enumerate.__new__» ⟨[.type "enumerate", v], []⟩) (fun _ R s => H s.heap ∧
      R (.ok (.ret (.ref (s.heap.push o).objs.size))) { s with heap := (s.heap.push o).push { cls := .type "enumerate", data := .fields #[.none, .bool false, .ref s.heap.objs.size, rawInt 0, .none, .none] } }) :=
  .of_wp fun prog w A R s h => by
    obtain ⟨hp, g, d, tk, os⟩ := s; obtain ⟨h1, h⟩ := h
    have hsub := sub_enumerate
    have q1 : ∀ {A' : Around} {E : Value → Shared → Prop} {Q : Value → Shared → Prop}, Q (.ref hp.objs.size) ⟨hp.push o, g, d, tk, os⟩ → wpAny (model prog w) A' (pyIter v) Q E ⟨hp, g, d, tk, os⟩ :=
      fun q => B.iter prog w _ _ ⟨hp, g, d, tk, os⟩ _ h1 q
    wp_walk using q1
    refine wpAny_stack_any fun st => wpAny_pure ?_
    split
    · rename_i c _ _ _ _ _
      cases (c == Value.type "enumerate")
      · wp_walk using q1
        exact ⟨_, rfl, h⟩
      · wp_walk using q1
        exact ⟨_, rfl, h⟩
    · wp_walk using q1
      exact ⟨_, rfl, h⟩
theorem enum_begins1 {prog : Program} {w : World} {A : Around} {E : Value → Shared → Prop} {s : Shared} {v : Value} {o : Obj} {H : Heap → Prop} {Q : Value → Shared → Prop} (B : Begins v o H) (h1 : H s.heap)
    (h : ∀ h', IsEnum h' (s.heap.objs.size + 1) s.heap.objs.size 0 .none → h'.get? s.heap.objs.size = some o → h'.objs.size = s.heap.objs.size + 2 →
      (∀ b o, s.heap.get? b = some o → h'.get? b = some o) → Q (.ref (s.heap.objs.size + 1)) { s with heap := h' }) :
    wpAny (model prog w) A (call (.type "enumerate") [v]) Q E s := by
  refine callType_new F.called_enumerate (by decide) (F.typeCall_enumerate_1 _) (F.newCall_enumerate_1 _) (fun obj => F.args_object_init_2 obj _) F.entry_enumerate_new (meets_enum1 B) ⟨h1, ?_⟩
  have hz : (s.heap.push o).objs.size = s.heap.objs.size + 1 := Heap.size_push ..
  show _ ∧ _
  rw [hz]
  have he : IsEnum ((s.heap.push o).push { cls := .type "enumerate", data := .fields #[.none, .bool false, .ref s.heap.objs.size, rawInt 0, .none, .none] }) (s.heap.objs.size + 1) s.heap.objs.size 0 .none := by
    have := Heap.get?_push_size (s.heap.push o) (o := { cls := .type "enumerate", data := .fields #[.none, .bool false, .ref s.heap.objs.size, rawInt 0, .none, .none] }) rfl
    rw [hz] at this; exact this
  refine ⟨⟨_, he, rfl⟩, h _ he (Heap.get?_push_of_some _ (Heap.get?_push_size _ B.free)) (by rw [Heap.size_push, hz]) fun b o x => Heap.get?_push_of_some _ (Heap.get?_push_of_some _ x)⟩
/-- the tuple at a, each item in a new pair with its place -/
def Itet (K : PySem.W.Frag) (a : Addr) : L2.It :=
  ⟨fun i H => ∃ (xs : List V) (x : V), SqT K H a xs ∧ xs[i]? = some x, fun i H v H' => ∃ T x, v = .ref T ∧ H T = none ∧ H' = upd H T (.tup [.int (i : Nat), x]) ∧ ∀ xs, SqT K H a xs → xs[i]? = some x, fun i H => ∃ xs : List V, SqT K H a xs ∧ xs.length ≤ i⟩
theorem turn_enumT {P : Program} {w : World} {K : PySem.W.Frag} {elts : List Expr} {kk : Nat} {tpos : Pos} (a e it : Addr) (hat : a ≠ it) (hae : a ≠ e) :
    Turn P w K (.Tuple elts kk tpos) (Itet K a) [e, it] e (fun i h => (∃ old, IsEnum h e it ((i : Nat) : Int) old) ∧ h.IsTupleIter it a i ∧ e ≠ it) where
  mem := by simp
  obj := fun i h st b hb => by
    obtain ⟨⟨old, he⟩, ⟨o, ho, hc, hd⟩, _⟩ := st
    have e' : b = e ∨ b = it := by simpa using hb
    rcases e' with z | z
    · rw [z]; exact ⟨_, he, fun v q => nomatch q⟩
    · rw [z]; exact ⟨o, ho, fun v q => by rw [hd] at q; cases q⟩
  keep := fun i h h' st k => let ⟨⟨old, he⟩, hi, hne⟩ := st; ⟨⟨old, k e (by simp) _ he⟩, hi.at fun o q => k it (by simp) o q, hne⟩
  item := by
    intro X hP hw hK hc i pins s σ H E I hf st hg
    subst hP hw hK
    obtain ⟨⟨old, he⟩, hit, hne⟩ := st
    obtain ⟨xs, x, hq, hx⟩ := hg
    obtain ⟨its, rv, p, hz⟩ := I.tuple hq
    obtain ⟨u, hu, ru⟩ := rv.get hx
    have hel : e < s.heap.objs.size := Heap.lt_size he
    have hil : it < s.heap.objs.size := by obtain ⟨_, q, _⟩ := hit; exact Heap.lt_size q
    have D := Draws.tuple (prog := X.prog) (w := X.w) (A := X.A.in1) (I.ok.hd hc) it a hat its.toArray
    have hlt : i < its.toArray.size := by
      have := (List.getElem?_eq_some_iff.mp hu).1
      simpa using this
    refine wpAny_pyNext_enum_itemD D he ⟨hit, p⟩ hlt hne (by simp [Ne.symm hae, hne]) fun y h' tk hy ho hst hT hsz hk => ?_
    have ey : y = u := by
      have e1 : its.toArray[i]? = some u := by simpa using hu
      rw [e1] at hy
      exact (Option.some.inj hy).symm
    subst ey
    refine ⟨_, rfl, wpAny_letOwnedTupleGo_enum (s := { s with heap := h', toks := tk + 1 }) ho fun h'' he' sb => ?_⟩
    have hT2 : h''.get? s.heap.objs.size = some { cls := .type "tuple", data := .seq #[.int i tk, y] } := (sb.2 _ (Nat.ne_of_gt hel)).trans hT
    have new : ObjOk X.prog X.w (upd H s.heap.objs.size (.tup [.int (i : Nat), x])) h'' s.heap.objs.size (.tup [.int (i : Nat), x]) :=
      ⟨by show 2 ≤ sizeLine; decide, [.int i tk, y], .cons ⟨_, rfl⟩ (.cons ru .nil), ⟨_, hT2, rfl, _, rfl⟩⟩
    have I1 : Inv X pins σ (upd H s.heap.objs.size (.tup [.int (i : Nat), x])) { s with heap := h'', toks := tk + 1 } :=
      I.turnedNew (ch := [e, it]) (fun b ob hb q => (sb.2 b (fun z => hb (by simp [z]))).trans (hk b ob (fun z => hb (by simp [z])) (fun z => hb (by simp [z])) q)) hf (Nat.le_refl _) new
    refine ⟨.ref s.heap.objs.size, _, I1, rfl, ⟨_, x, rfl, I.hok.fresh (Nat.le_refl _), rfl, fun ys hy => by rw [I.tuple_inj hy hq]; exact hx⟩, ⟨⟨y, ?_⟩, hst.1.at fun o q => (sb.2 it (Ne.symm hne)).trans q, hne⟩, fun b hb => ?_⟩
    · have e1 : ((i + 1 : Nat) : Int) = (i : Int) + 1 := by omega
      rw [e1]; exact he'
    · have hb' : b < s.heap.objs.size := by
        have e' : b = e ∨ b = it := by simpa using hb
        rcases e' with z | z
        · rw [z]; exact hel
        · rw [z]; exact hil
      rw [upd_ne (Nat.ne_of_lt hb')]
      exact (hf b hb).1
  done := by
    intro X hP hw hK hc i pins s σ H E I hf st hg
    subst hP hw hK
    obtain ⟨⟨old, he⟩, hit, hne⟩ := st
    obtain ⟨xs, hq, hx⟩ := hg
    obtain ⟨its, rv, p, hz⟩ := I.tuple hq
    obtain ⟨f0, f1, f2, f3, f4, f5⟩ := hf it (by simp)
    have D : Draws X.prog X.w X.A.in1 it [it, a] i (fun j v => its.toArray[j]? = some v) (fun j h => j = i ∧ h.IsTupleIter it a j ∧ h.IsTuple a its.toArray) := {
      live := fun _ _ st => let ⟨o, ho, _⟩ := st.2.1; ⟨o, ho⟩
      frame := fun _ _ _ st hk => ⟨st.1, st.2.1.at fun o e => hk it (by simp) o e, st.2.2.at fun o e => hk a (by simp) o e⟩
      item := fun j s Q E hi st hQ => absurd hi (by rw [st.1]; exact Nat.lt_irrefl _)
      done := fun s Q E st hE => wpAny_nextOf_tuple_end (I.ok.hd hc) st.2.1 st.2.2 (by have := rv.length; simp; omega) hE }
    exact wpAny_pyNext_enum_endD D he ⟨rfl, hit, p⟩ fun h' eb => ⟨rfl, I.turned (t' := s.toks) (fun b o hb q => eb b o hb q) f0 f1 f3 f4 f5⟩
  self := fun A i s Q E st h => let ⟨⟨_, he⟩, _⟩ := st; wpAny_pyIter_enum he h
/-- enumerate over any sequence -/
def EnumV (K : PySem.W.Frag) (vs : List V) (H : Hp) (R : L2.It → Hp → Prop) : Prop :=
  (∃ a xs, vs = [.ref a] ∧ SqL K H a xs ∧ R (Ite K a) H) ∨ (∃ a xs, vs = [.ref a] ∧ SqT K H a xs ∧ R (Itet K a) H)
theorem pi_enumV {X : Cx} {e : Expr} {ta : TA} {p pos tpos : Pos} {elts : List Expr} {kk : Nat} (hg : Gl X "enumerate") (hm : X.mg "enumerate" = none) (ha : PA X [e] ta) (hs : starEach [e] X.env = [(false, eval e X.env)] := by rfl) :
    PI X (.Tuple elts kk tpos) (.Call (.Name "enumerate" p) [e] [] pos) (fun σ H R => ta σ H fun vs H1 => EnumV X.K vs H1 R) := by
  refine ⟨fun pins s σ H R I h => ?_⟩
  refine Call_ (ld_blt I hg hm boot_enumerate (PyProof.Rows.callWith_type1 (thn (ha.run pos pins s σ H _ I h) fun us s1 ⟨vs, H1, I1, r1, q1⟩ => ?_) hs rfl))
  have fpok : ∀ {b : Addr}, b ∈ [s1.heap.objs.size + 1, s1.heap.objs.size] → ∀ {s2 : Shared}, True → s1.heap.objs.size ≤ b := fun {b} hb s2 _ => by
    have e' : b = s1.heap.objs.size + 1 ∨ b = s1.heap.objs.size := by simpa using hb
    rcases e' with z | z
    · rw [z]; exact Nat.le_add_right _ _
    · rw [z]; exact Nat.le_refl _
  rcases q1 with ⟨a, xs, ex, hq, q⟩ | ⟨a, xs, ex, hq, q⟩
  · subst ex
    cases r1 with
    | cons r rr =>
      cases rr
      cases r
      obtain ⟨its, rv, p', hz⟩ := I1.list hq
      refine call_enumerate_list p'.isList fun h' he hit hsz hk => wpAny_pyIter_enum he ?_
      have I2 : Inv X pins σ H1 { s1 with heap := h' } := I1.kept (t' := s1.toks) hk
      exact ⟨s1.heap.objs.size + 1, [s1.heap.objs.size + 1, s1.heap.objs.size], _, _, H1, rfl, I2, turn_enum a (s1.heap.objs.size + 1) s1.heap.objs.size, ⟨⟨.none, he⟩, hit, Nat.succ_ne_self _⟩, fun b hb => I1.fpOk (fpok hb (s2 := s1) trivial) (I1.hok.fresh (fpok hb (s2 := s1) trivial)), q⟩
  · subst ex
    cases r1 with
    | cons r rr =>
      cases rr
      cases r
      obtain ⟨its, rv, p', hz⟩ := I1.tuple hq
      have hla : a < s1.heap.objs.size := by obtain ⟨o, ho, _⟩ := id p'; exact Heap.lt_size ho
      refine enum_begins1 (begins_tuple a its.toArray) p' fun h' he hit hsz hk => wpAny_pyIter_enum he ?_
      have I2 : Inv X pins σ H1 { s1 with heap := h' } := I1.kept (t' := s1.toks) hk
      exact ⟨s1.heap.objs.size + 1, [s1.heap.objs.size + 1, s1.heap.objs.size], _, _, H1, rfl, I2, turn_enumT a (s1.heap.objs.size + 1) s1.heap.objs.size (Nat.ne_of_lt hla) (Nat.ne_of_lt (Nat.lt_succ_of_lt hla)), ⟨⟨.none, he⟩, ⟨_, hit, rfl, rfl⟩, Nat.succ_ne_self _⟩, fun b hb => I1.fpOk (fpok hb (s2 := s1) trivial) (I1.hok.fresh (fpok hb (s2 := s1) trivial)), q⟩
section
variable {K : PySem.W.Frag} {mg : Str → Option Value} {H H' : Hp} {G G' : Gs} {av : Addr → Prop} {τ τ' : List D}
theorem enumD_len (k : Int) : ∀ xs : List D, (enumD k xs).length = xs.length
  | [] => rfl
  | x :: xs => by rw [enumD, List.length_cons, enumD_len, List.length_cons]
theorem enumD_get : ∀ (xs : List D) (k : Int) (i : Nat), (enumD k xs)[i]? = (xs[i]?).map fun x => .tup [.int (k + i), x]
  | [], k, i => by simp [enumD]
  | x :: xs, k, 0 => by simp [enumD]
  | x :: xs, k, i + 1 => by
    rw [enumD, List.getElem?_cons_succ, List.getElem?_cons_succ, enumD_get xs (k + 1) i]
    congr 2
    funext y
    congr 3
    push_cast
    omega
theorem yl_enum {v : V} {xs : List D} (h : WkS K mg av H G xs v) : ∃ J, Yields K mg av J (enumD 0 xs) H G ∧ ∀ R : L2.It → Hp → Prop, R J H → EnumV K [v] H R := by
  have pair : ∀ {a : Addr} {vs : List V} {H1 : Hp} {G1 : Gs} {i : Nat} {d : D} {x v : V} {T : Addr}, Now H1 G1 → RFs K mg G1 xs vs → (enumD 0 xs)[i]? = some d → vs[i]? = some x → H1 T = none → ∃ G', StepP H1 G1 (upd H1 T (.tup [.int (i : Nat), x])) G' ∧ RF K mg G' d (.ref T) := by
    intro a vs H1 G1 i d x v T n r e ex hT
    rw [enumD_get] at e
    cases e1 : xs[i]? with
    | none => rw [e1] at e; cases e
    | some y =>
      rw [e1] at e
      cases e
      obtain ⟨z, ez, rz⟩ := r.get e1
      rw [ex] at ez
      cases ez
      have st : StepP H1 G1 (upd H1 T (.tup [.int (i : Nat), x])) (G1.add (upd H1 T (.tup [.int (i : Nat), x])) [T]) := StepP.newF n.sub hT
      exact ⟨_, st, T, _, rfl, (Gs.add_in List.mem_cons_self).trans upd_same, _, _, rfl, by show V.int _ = V.int _; rw [Int.zero_add], _, _, rfl, RF.mono st.frame.gle rz, rfl⟩
  rcases h with ⟨a, vs, rfl, h, r⟩ | ⟨a, vs, rfl, h, r⟩
  · refine ⟨Ite K a, ⟨fun i d H1 G1 f n e => ?_, fun i H1 G1 f n hl => ?_⟩, fun R q => .inl ⟨a, vs, rfl, h.at FrameT.refl, q⟩⟩
    · have q := h.at f
      have hi : i < xs.length := by rw [← enumD_len 0 xs]; exact (List.getElem?_eq_some_iff.mp e).1
      obtain ⟨x, ex, rx⟩ := (f.rfs r).get (List.getElem?_eq_getElem hi)
      refine ⟨⟨vs, x, q, ex⟩, fun y H2 ⟨T, x2, ey, hT, eH, hy⟩ => ?_⟩
      subst ey eH
      exact pair (a := a) (v := x) n (f.rfs r) e (hy vs q) hT
    · exact ⟨vs, h.at f, by rw [r.length]; rw [enumD_len] at hl; exact hl⟩
  · refine ⟨Itet K a, ⟨fun i d H1 G1 f n e => ?_, fun i H1 G1 f n hl => ?_⟩, fun R q => .inr ⟨a, vs, rfl, h.at FrameT.refl, q⟩⟩
    · have q := h.at f
      have hi : i < xs.length := by rw [← enumD_len 0 xs]; exact (List.getElem?_eq_some_iff.mp e).1
      obtain ⟨x, ex, rx⟩ := (f.rfs r).get (List.getElem?_eq_getElem hi)
      refine ⟨⟨vs, x, q, ex⟩, fun y H2 ⟨T, x2, ey, hT, eH, hy⟩ => ?_⟩
      subst ey eH
      exact pair (a := a) (v := x) n (f.rfs r) e (hy vs q) hT
    · exact ⟨vs, h.at f, by rw [r.length]; rw [enumD_len] at hl; exact hl⟩
end
section
variable {X : Cx} {W : WX} {hx : Hx} {Φ : Phi} {k : Nat} {a : E} {x : Expr} {pos p tpos : Pos} {elts : List Expr} {kk : Nat}
theorem s_enum (m : Bool) (c : Ctx Φ k X W) (hg : Gl X "enumerate") (h : PE X x (vT X hx W Φ m a)) (hs : starEach [x] X.env = [(false, eval x X.env)]) :
    PI X (.Tuple elts kk tpos) (.Call (.Name "enumerate" p) [x] [] pos) (yT X hx W Φ m (.enum a)) := by
  refine PI.imp (pi_enumV hg (c.phi.bn _ (by decide)) (pa_cons h pa_nil (by rw [hs]; rfl)) hs) fun σ H R ⟨G, fp, rs, env, τ, s, q⟩ => ⟨G, fp, rs, env, τ, s, ?_⟩
  have q : SatR X.K X.mg hx W H G fp rs σ env ((evV Φ m a env τ).bind fun v τ => Vi.R.of ((v.d.bind seqOf).map (enumD 0)) τ) (OkY X.K X.mg hx m H G fp rs σ env R) := by
    cases m with
    | true => exact q
    | false => rw [evI, if_neg (by decide), evalI] at q; exact q
  refine SatR.mono (SatR.bind q) fun rv τ' q v H' G' f s' fr r n => ?_
  obtain ⟨ds, e, q⟩ := q.of
  cases ed : rv.d with
  | none => rw [ed] at e; cases e
  | some d =>
    rw [ed] at e
    cases es : seqOf d with
    | none => rw [show (some d).bind seqOf = seqOf d from rfl, es] at e; cases e
    | some xs =>
      rw [show (some d).bind seqOf = seqOf d from rfl, es] at e
      cases e
      obtain ⟨J, y, hJ⟩ := yl_enum (RVr.wks s'.sub s'.hand.ok (s.avN s' fr m) (s.lvA s' m) (n.offA s m) r ed es)
      exact hJ R (q J H' G' s' fr y)
end
end Vi
end
section
set_option Elab.async false
set_option linter.all false
set_option maxRecDepth 100000
set_option maxHeartbeats 2000000
/-! Vi19b: zip; texts of values; t[::-1]. -/
namespace Vi
open PySem PySem.Spec PyProof.Rows L2
section
variable {K : PySem.W.Frag} {mg : Str → Option Value} {H H' : Hp} {G G' : Gs} {av : Addr → Prop} {τ τ' : List D} {lv f : List Addr}
/-- a list | a tuple that is walked -/
def WkSL (K : PySem.W.Frag) (mg : Str → Option Value) (av : Addr → Prop) (H : Hp) (G : Gs) (xs : List D) (v : V) : Prop := ∃ a vs, v = .ref a ∧ WkL K av H G a vs ∧ RFs K mg G xs vs
def WkST (K : PySem.W.Frag) (mg : Str → Option Value) (av : Addr → Prop) (H : Hp) (G : Gs) (xs : List D) (v : V) : Prop := ∃ a vs, v = .ref a ∧ WkT K av H G a vs ∧ RFs K mg G xs vs
theorem RVr.wksL {rv : RV} {v : V} {xs : List D} (b : Sub G.fr H) (k : HdOk G H) (nf : ∀ x, av x → G.fr x = none) (hl : ∀ x ∈ lv, ¬ av x ∧ G.hd ≠ some x) (hf : ∀ x ∈ f, ¬ av x ∧ G.hd ≠ some x) (r : RVr K mg lv H G f rv v) (e : rv.d = some (.lst xs)) : WkSL K mg av H G xs v := by
  have cl : ∀ {m : Bool} {c : Cell} {g : List Addr}, c.view = some (.lst xs) → RC K mg G m H c g v → (∀ x ∈ g, ¬ av x ∧ G.hd ≠ some x) → WkSL K mg av H G xs v := fun {m c g} ev r hg => by
    cases c with
    | fz x => cases ev; obtain ⟨a, vs, ev, h, r⟩ := r.2; exact ⟨a, vs, ev, .inl (off_fr b k nf h), r⟩
    | lst ys =>
      cases ev
      obtain ⟨a, vs, ea, eg, h, r⟩ := r
      exact ⟨a, vs, ea, .inl ⟨.inl h, hg a (by rw [eg]; exact List.mem_cons_self)⟩, r⟩
    | lsto _ => cases ev
    | dK _ => cases ev
    | dT _ => cases ev
    | ins _ _ => cases ev
  cases rv with
  | fz x => cases e; obtain ⟨a, vs, ev, h, r⟩ := r.2; exact ⟨a, vs, ev, .inl (off_fr b k nf h), r⟩
  | own c => exact cl e r hf
  | ro c =>
    obtain ⟨_, g, h, z⟩ := r
    exact cl e h fun x hx => hl x (z x hx)
theorem RVr.wksT {rv : RV} {v : V} {d : D} {xs : List D} (b : Sub G.fr H) (k : HdOk G H) (nf : ∀ x, av x → G.fr x = none) (r : RVr K mg lv H G f rv v) (e : rv.d = some d) (es : tupLike d = some xs) : WkST K mg av H G xs v := by
  have fz : ∀ {d : D}, RF K mg G d v → tupLike d = some xs → WkST K mg av H G xs v := fun {d} r e => by
    cases d <;> first | (cases e; done) | skip
    · cases e
      obtain ⟨a, vs, ev, h, r⟩ := r
      exact ⟨a, vs, ev, .inl (off_fr b k nf h), r⟩
    · cases e
      obtain ⟨a, vs, ev, h, r⟩ := r
      rcases h with (h | ⟨_, h⟩) | h
      · cases h
      · cases h
      · exact ⟨a, vs, ev, .inr (.inr h), r⟩
    · cases e
      obtain ⟨a, vs, ev, ⟨ob, _, h⟩, r⟩ := r
      exact ⟨a, vs, ev, .inl (off_fr2 b k nf rfl (.inr ⟨ob, h⟩)), r⟩
  have cl : ∀ {m : Bool} {c : Cell} {g : List Addr}, c.view = some d → RC K mg G m H c g v → WkST K mg av H G xs v := fun {m c g} ev r => by
    cases c with
    | fz x => cases ev; exact fz r.2 es
    | lst ys => cases ev; cases es
    | lsto _ => cases ev
    | dK _ => cases ev; cases es
    | dT _ => cases ev; cases es
    | ins _ _ => cases ev
  cases rv with
  | fz x => cases e; exact fz r.2 es
  | own c => exact cl e r
  | ro c => obtain ⟨_, g, h, z⟩ := r; exact cl e h
/-- zip over two sequences of a kind -/
def ZipV (K : PySem.W.Frag) (vs : List V) (H : Hp) (R : L2.It → Hp → Prop) : Prop := ∃ a b xs ys, vs = [.ref a, .ref b] ∧ ((SqL K H a xs ∧ SqL K H b ys ∧ R (Itz K a b) H) ∨ (SqT K H a xs ∧ SqT K H b ys ∧ R (RZ.ItzT K a b) H))
theorem zipD_get : ∀ (xs ys : List D) (i : Nat), (zipD xs ys)[i]? = (xs[i]?).bind fun x => (ys[i]?).map fun y => .tup [x, y]
  | [], _, i => by simp [zipD]
  | x :: xs, [], i => by cases h : (x :: xs)[i]? <;> simp [zipD]
  | x :: xs, y :: ys, 0 => by simp [zipD]
  | x :: xs, y :: ys, i + 1 => by
    rw [zipD, List.getElem?_cons_succ, List.getElem?_cons_succ, List.getElem?_cons_succ, zipD_get xs ys i]
theorem zipD_len : ∀ xs ys : List D, (zipD xs ys).length = min xs.length ys.length
  | [], ys => by simp [zipD]
  | x :: xs, [] => by simp [zipD]
  | x :: xs, y :: ys => by rw [zipD, List.length_cons, zipD_len, List.length_cons, List.length_cons]; omega
theorem zip_pair {xs ys : List D} {vs ws : List V} {H1 : Hp} {G1 : Gs} {i : Nat} {d : D} {x y : V} {T : Addr} (n : Now H1 G1) (r : RFs K mg G1 xs vs) (r2 : RFs K mg G1 ys ws) (e : (zipD xs ys)[i]? = some d) (ex : vs[i]? = some x) (ey : ws[i]? = some y) (hT : H1 T = none) :
    ∃ G', StepP H1 G1 (upd H1 T (.tup [x, y])) G' ∧ RF K mg G' d (.ref T) := by
  rw [zipD_get] at e
  cases e1 : xs[i]? with
  | none => rw [e1] at e; cases e
  | some a =>
    cases e2 : ys[i]? with
    | none => rw [e1, e2] at e; cases e
    | some b =>
      rw [e1, e2] at e
      cases e
      obtain ⟨z, ez, rz⟩ := r.get e1
      obtain ⟨z2, ez2, rz2⟩ := r2.get e2
      rw [ex] at ez
      rw [ey] at ez2
      cases ez
      cases ez2
      have st : StepP H1 G1 (upd H1 T (.tup [x, y])) (G1.add (upd H1 T (.tup [x, y])) [T]) := StepP.newF n.sub hT
      exact ⟨_, st, T, _, rfl, (Gs.add_in List.mem_cons_self).trans upd_same, _, _, rfl, RF.mono st.frame.gle rz, _, _, rfl, RF.mono st.frame.gle rz2, rfl⟩
theorem yl_zipL {v w : V} {xs ys : List D} (h : WkSL K mg av H G xs v) (h2 : WkSL K mg av H G ys w) : ∃ J, Yields K mg av J (zipD xs ys) H G ∧ ∀ R : L2.It → Hp → Prop, R J H → ZipV K [v, w] H R := by
  obtain ⟨a, vs, rfl, h, r⟩ := h
  obtain ⟨b, ws, rfl, h2, r2⟩ := h2
  refine ⟨Itz K a b, ⟨fun i d H1 G1 f n e => ?_, fun i H1 G1 f n hl => ?_⟩, fun R q => ⟨a, b, vs, ws, rfl, .inl ⟨h.at FrameT.refl, h2.at FrameT.refl, q⟩⟩⟩
  · have q := h.at f
    have q2 := h2.at f
    have hi := (List.getElem?_eq_some_iff.mp e).1
    rw [zipD_len] at hi
    obtain ⟨x, ex, rx⟩ := (f.rfs r).get (List.getElem?_eq_getElem (show i < xs.length by omega))
    obtain ⟨y, ey, ry⟩ := (f.rfs r2).get (List.getElem?_eq_getElem (show i < ys.length by omega))
    refine ⟨⟨vs, ws, x, y, q, q2, ex, ey⟩, fun z H2 ⟨T, x2, y2, ez, hT, eH, hx, hy⟩ => ?_⟩
    subst ez eH
    exact zip_pair n (f.rfs r) (f.rfs r2) e (hx vs q) (hy ws q2) hT
  · refine ⟨vs, ws, h.at f, h2.at f, ?_⟩
    rw [r.length, r2.length]
    rw [zipD_len] at hl
    omega
theorem yl_zipT {v w : V} {xs ys : List D} (h : WkST K mg av H G xs v) (h2 : WkST K mg av H G ys w) : ∃ J, Yields K mg av J (zipD xs ys) H G ∧ ∀ R : L2.It → Hp → Prop, R J H → ZipV K [v, w] H R := by
  obtain ⟨a, vs, rfl, h, r⟩ := h
  obtain ⟨b, ws, rfl, h2, r2⟩ := h2
  refine ⟨RZ.ItzT K a b, ⟨fun i d H1 G1 f n e => ?_, fun i H1 G1 f n hl => ?_⟩, fun R q => ⟨a, b, vs, ws, rfl, .inr ⟨h.at FrameT.refl, h2.at FrameT.refl, q⟩⟩⟩
  · have q := h.at f
    have q2 := h2.at f
    have hi := (List.getElem?_eq_some_iff.mp e).1
    rw [zipD_len] at hi
    obtain ⟨x, ex, rx⟩ := (f.rfs r).get (List.getElem?_eq_getElem (show i < xs.length by omega))
    obtain ⟨y, ey, ry⟩ := (f.rfs r2).get (List.getElem?_eq_getElem (show i < ys.length by omega))
    refine ⟨⟨vs, ws, x, y, q, q2, ex, ey⟩, fun z H2 ⟨T, x2, y2, ez, hT, eH, hx, hy⟩ => ?_⟩
    subst ez eH
    exact zip_pair n (f.rfs r) (f.rfs r2) e (hx vs q) (hy ws q2) hT
  · refine ⟨vs, ws, h.at f, h2.at f, ?_⟩
    rw [r.length, r2.length]
    rw [zipD_len] at hl
    omega
end
section
variable {X : Cx} {W : WX} {hx : Hx} {Φ : Phi} {k : Nat} {a b : E} {x y : Expr} {pos p tpos : Pos} {elts : List Expr} {kk : Nat}
theorem Fresh.of_left {H : Hp} {G : Gs} {f g : List Addr} (n : Fresh H G (f ++ g)) : Fresh H G f := ⟨(List.nodup_append.mp n.nd).1, fun a h => n.new a (List.mem_append_left _ h), fun a h => n.nf a (List.mem_append_left _ h), fun a h => n.ne a (List.mem_append_left _ h)⟩
theorem Fresh.of_right {H : Hp} {G : Gs} {f g : List Addr} (n : Fresh H G (f ++ g)) : Fresh H G g := ⟨(List.nodup_append.mp n.nd).2.1, fun a h => n.new a (List.mem_append_right _ h), fun a h => n.nf a (List.mem_append_right _ h), fun a h => n.ne a (List.mem_append_right _ h)⟩
theorem s_zip (m : Bool) (c : Ctx Φ k X W) (hg : Gl X "zip") (h : PE X x (tV X.K X.mg hx W Φ m a)) (h2 : PE X y (tV X.K X.mg hx W Φ m b)) (hs : starEach [x, y] X.env = (false, eval x X.env) :: starEach [y] X.env) (hs2 : starEach [y] X.env = (false, eval y X.env) :: starEach [] X.env) (hpl : (backTo pos (starEach [y] X.env)).any (·.1) = false) :
    PI X (.Tuple elts kk tpos) (.Call (.Name "zip" p) [x, y] [] pos) (tY X.K X.mg hx W Φ m (.zip a b)) := by
  refine PI.imp (RZ.pi_zipA hg (c.phi.bn _ (by decide)) (pa_cons h (pa_cons h2 pa_nil hs2) hs) hs hpl) fun σ H R ⟨G, fp, rs, env, τ, s, q⟩ => ⟨G, fp, rs, env, τ, s, ?_⟩
  have q : SatR X.K X.mg hx W H G fp rs σ env ((evV Φ m a env τ).bind fun v τ => (evV Φ m b env τ).bind fun w τ => Vi.R.of (zipV v w) τ) (OkY X.K X.mg hx m H G fp rs σ env R) := by
    cases m with
    | true => exact q
    | false => rw [evI, if_neg (by decide), evalI] at q; exact q
  refine SatR.mono (SatR.bind q) fun rv τ' q v H' G' f s' fr r n => ?_
  have th := s'.there' fr
  refine ⟨G', fp, rs, env, τ', s', SatR.back fr th (SatR.bind q) fun rw τ2 q => ?_⟩
  intro w H2 G2 g s2 f2 r2 n2
  have r' := RVr.frame f2 (s'.gle f2) n.neN (fun a ha => s'.liveN a (by
    unfold lvOf at ha
    split at ha
    · exact List.mem_append_right _ ha
    · exact ha)) r
  have N := n.append r.there th n2 (fun a ha => by
    obtain ⟨o, e, t⟩ := r.there' a ha
    rw [(f2.keep a o e (n.ne a ha)).2 t]
    exact n.nf a ha) f2.hd
  obtain ⟨ds, e, q⟩ := q.of
  have F := fr.trans f2
  have av := s.avN s2 F m
  have lv := s.lvA s2 m
  unfold zipV at e
  cases e1 : rv.d with
  | none => rw [e1] at e; cases e
  | some d1 =>
    cases e2 : rw.d with
    | none => rw [e1, e2] at e; cases e
    | some d2 =>
      rw [e1, e2] at e
      have e : zipOf d1 d2 = some ds := e
      have tu : ∀ {xs ys : List D}, tupLike d1 = some xs → tupLike d2 = some ys → ds = zipD xs ys → ∃ a b xs ys, [v, w] = [.ref a, .ref b] ∧ ((SqL X.K H2 a xs ∧ SqL X.K H2 b ys ∧ R (Itz X.K a b) H2) ∨ (SqT X.K H2 a xs ∧ SqT X.K H2 b ys ∧ R (RZ.ItzT X.K a b) H2)) := fun {xs ys} t1 t2 ed => by
        subst ed
        obtain ⟨J, yj, hJ⟩ := yl_zipT (RVr.wksT s2.sub s2.hand.ok av r' e1 t1) (RVr.wksT s2.sub s2.hand.ok av r2 e2 t2)
        exact hJ R (q J H2 G2 s2 F yj)
      by_cases hl : ∃ xs ys, d1 = .lst xs ∧ d2 = .lst ys
      · obtain ⟨xs, ys, rfl, rfl⟩ := hl
        cases e
        obtain ⟨J, yj, hJ⟩ := yl_zipL (RVr.wksL s2.sub s2.hand.ok av lv (N.of_left.offA s m) r' e1) (RVr.wksL s2.sub s2.hand.ok av lv (N.of_right.offA s m) r2 e2)
        exact hJ R (q J H2 G2 s2 F yj)
      · cases t1 : tupLike d1 with
        | none =>
          exfalso
          cases d1 <;> cases d2 <;> first | (cases e; done) | (cases t1; done) | exact hl ⟨_, _, rfl, rfl⟩
        | some xs =>
          cases t2 : tupLike d2 with
          | none =>
            exfalso
            cases d1 <;> cases d2 <;> first | (cases e; done) | (cases t1; done) | (cases t2; done)
          | some ys =>
            refine tu t1 t2 ?_
            cases d1 <;> cases d2 <;> first | (cases t1; done) | (cases t2; done) | (cases t1; cases t2; cases e; rfl)
end
/-! ### texts of values -/
mutual
theorem no_dict : ∀ {n : Nat} {d : D}, d.pl n = true → d.py.hasDict = false
  | _, .non, _ => by simp [D.py, PyData.hasDict]
  | _, .bl _, _ => by simp [D.py, PyData.hasDict]
  | _, .int _, _ => by simp [D.py, PyData.hasDict]
  | _, .str _, _ => by simp [D.py, PyData.hasDict]
  | 0, .tup _, h => by simp [D.pl] at h
  | n + 1, .tup xs, h => by rw [D.py, PyData.hasDict]; exact no_dicts (by simpa [D.pl] using h)
  | 0, .lst _, h => by simp [D.pl] at h
  | n + 1, .lst xs, h => by rw [D.py, PyData.hasDict]; exact no_dicts (by simpa [D.pl] using h)
  | 0, .ktup _, h => by simp [D.pl] at h
  | n + 1, .ktup xs, h => by rw [D.py, PyData.hasDict]; exact no_dicts (by simpa [D.pl] using h)
  | 0, .ptup _, h => by simp [D.pl] at h
  | n + 1, .ptup xs, h => by rw [D.py, PyData.hasDict]; exact no_dicts (by simpa [D.pl] using h)
  | _, .dK _, h => by simp [D.pl] at h
  | _, .dT _, h => by simp [D.pl] at h
  | _, .ins _ _, h => by simp [D.pl] at h
  | _, .hand, h => by simp [D.pl] at h
  | _, .scr _, h => by simp [D.pl] at h
theorem no_dicts : ∀ {n : Nat} {ds : List D}, pls n ds = true → PyData.hasDictAll (pys ds) = false
  | _, [], _ => by simp [pys, PyData.hasDictAll]
  | n, d :: ds, h => by
    rw [pls, Bool.and_eq_true] at h
    rw [pys, PyData.hasDictAll, no_dict h.1, no_dicts h.2]
    rfl
end
section
variable {X : Cx}
theorem bi_repr (hu : X.A.units + 200 < cLine) (hg : X.A.guards = some []) : CallR X (.builtin "repr") (rBi X.K X.mg .repr) := by
  intro pins s σ H xs us Q I r h
  obtain ⟨G, ds, rv, n, rt, e, q⟩ := h
  match ds, rt, e with
  | [], _, e => cases e
  | d :: e1 :: es, _, e => cases d <;> cases e
  | [d], ⟨v, t, ev, rt1, et⟩, e =>
    subst ev
    rw [show t = [] from et] at r
    simp only [biop] at e
    split at e
    · rename_i hs
      cases e
      unfold showD at hs
      rw [Bool.and_eq_true, Bool.and_eq_true] at hs
      obtain ⟨hp, hsh, hl⟩ := hs
      have hl := of_decide_eq_true hl
      have big : ∀ (u : Value), RelV v u → (∃ a, u = .ref a) → wpAny (model X.prog X.w) X.A (call (.builtin "repr") [u]) (EP X pins σ Q) X.xe s := fun u ru ⟨a, ea⟩ => by
        subst ea
        obtain ⟨as, rr⟩ := RT.reads I n rt1 hp ru
        have dep := (pl_plain hp).2
        refine PySem.repr_of_reads' rr hsh (fun z => by rw [no_dict hp] at z; cases z) hg (by omega) (fun _ _ e => e) (fun h' x tk hk => ?_) (lim_line hl)
        exact ⟨.str _, H, I.kept (t' := tk) hk, ⟨_, rfl⟩, q.fz n rfl⟩
      cases d with
      | non =>
        obtain ⟨u, rfl, ru⟩ := vals1 r
        cases (show v = _ from rt1); cases ru
        exact PySem.P.repr_of_none ⟨.str _, H, I.tok _, ⟨_, rfl⟩, q.fz n rfl⟩
      | bl b =>
        obtain ⟨u, rfl, ru⟩ := vals1 r
        cases (show v = _ from rt1); cases ru
        exact PySem.P.repr_of_bool ⟨.str _, H, I.tok _, ⟨_, rfl⟩, q.fz n rfl⟩
      | int i =>
        obtain ⟨u, rfl, ru⟩ := vals1 r
        cases (show v = _ from rt1)
        obtain ⟨t, rfl⟩ := ru
        exact PySem.P.repr_of_int (by simpa [D.py, PyData.showable] using hsh) ⟨.str _, H, I.tok _, ⟨_, rfl⟩, q.fz n (by simp [D.py, PyData.shown]; rfl)⟩
      | str x =>
        obtain ⟨u, rfl, ru⟩ := vals1 r
        cases (show v = _ from rt1)
        obtain ⟨t, rfl⟩ := ru
        exact PySem.P.repr_of_str ⟨.str _, H, I.tok _, ⟨_, rfl⟩, q.fz n (by simp [D.py, PyData.shown]; rfl)⟩ (lim_line (by simpa [D.py, PyData.shown] using hl))
      | tup ys =>
        obtain ⟨u, rfl, ru⟩ := vals1 r
        obtain ⟨a, _, ea, _⟩ := id rt1
        exact big u ru ⟨a, by rw [ea] at ru; exact ru⟩
      | lst ys =>
        obtain ⟨u, rfl, ru⟩ := vals1 r
        obtain ⟨a, _, ea, _⟩ := id rt1
        exact big u ru ⟨a, by rw [ea] at ru; exact ru⟩
      | ktup ys =>
        obtain ⟨u, rfl, ru⟩ := vals1 r
        obtain ⟨a, _, ea, _⟩ := id rt1
        exact big u ru ⟨a, by rw [ea] at ru; exact ru⟩
      | ptup ys =>
        obtain ⟨u, rfl, ru⟩ := vals1 r
        obtain ⟨a, _, ea, _⟩ := id rt1
        exact big u ru ⟨a, by rw [ea] at ru; exact ru⟩
      | dK _ => simp [D.plain, D.pl] at hp
      | dT _ => simp [D.plain, D.pl] at hp
      | ins _ _ => simp [D.plain, D.pl] at hp
      | hand => simp [D.plain, D.pl] at hp
      | scr _ => simp [D.plain, D.pl] at hp
    · cases e
end
/-! ### t[::-1] -/
section
variable {prog : Program} {w : World} {A : Around} {E : Value → Shared → Prop} {s : Shared}
theorem places_rev (n : Nat) : Builtin.Slice.slicePlaces ((n : Int) - 1) (-1) (-1) = n := by
  unfold Builtin.Slice.slicePlaces
  have h1 : ¬ ((-1 : Int) > 0) := by decide
  simp only [h1, if_false]
  split
  · rw [show (- -1 : Int) = 1 by decide, Int.ediv_one]; omega
  · omega
theorem applied_rev {sl : Addr} {t : Tok} {n : Nat} {Q : Int × Int × Nat → Shared → Prop} (hs : s.heap.IsSliceOf sl .none .none (.int (-1) t)) (h : Q ((n : Int) - 1, -1, n) s) : wpAny (model prog w) A (Builtin.Slice.sliceApplied (.ref sl) (pure (n : Int))) Q E s := by
  obtain ⟨os, hos, hcs, hds⟩ := id hs
  unfold Builtin.Slice.sliceApplied Builtin.Slice.sliceFields
  refine wpAny_bind (wpAny_bind (wpAny_field hos hds (x := .none) rfl (wpAny_bind (wpAny_field hos hds (x := .none) rfl (wpAny_bind (wpAny_field hos hds (x := .int (-1) t) rfl (wpAny_pure ?_)))))))
  refine wpAny_bind (slicePart_int ?_)
  show wpAny _ _ (if ((-1 : Int) == 0) = true then _ else _) _ _ s
  rw [if_neg (by decide)]
  refine wpAny_bind (slicePart_none (wpAny_bind (slicePart_none (wpAny_bind (wpAny_pure ?_)))))
  show wpAny _ _ (pure ((n : Int) - 1, (-1 : Int), Builtin.Slice.slicePlaces ((n : Int) - 1) (-1) (-1))) _ _ s
  rw [places_rev]
  exact wpAny_pure h
theorem fm_congr0 {α β : Type} {f g : α → Option β} : ∀ {as : List α}, (∀ a ∈ as, f a = g a) → as.filterMap f = as.filterMap g
  | [], _ => rfl
  | a :: as, h => by
    rw [List.filterMap_cons, List.filterMap_cons, h a List.mem_cons_self, fm_congr0 fun b hb => h b (List.mem_cons_of_mem _ hb)]
theorem pick_rev (xs : Array Value) : ((List.range xs.size).filterMap fun (m : Nat) => xs[(((xs.size : Int) - 1) + (m : Int) * (-1)).toNat]?).toArray = xs.toList.reverse.toArray := by
  congr 1
  have e : (List.range xs.size).filterMap (fun (m : Nat) => xs[(((xs.size : Int) - 1) + (m : Int) * (-1)).toNat]?) = ((List.range xs.size).map fun k => xs.size - 1 - k).filterMap (xs[·]?) := by
    rw [List.filterMap_map]
    refine fm_congr0 fun m hm => ?_
    have := List.mem_range.mp hm
    show xs[(((xs.size : Int) - 1) + (m : Int) * (-1)).toNat]? = xs[xs.size - 1 - m]?
    congr 1
    omega
  rw [e, PySem.W.krv_range, List.filterMap_reverse, PySem.W.krv_all]
theorem item_rev {t sl : Addr} {items : Array Value} {tk : Tok} {Q : Value → Shared → Prop} (ht : IsTup s.heap t items) (hs : s.heap.IsSliceOf sl .none .none (.int (-1) tk))
    (h : Q (.ref s.heap.objs.size) { s with heap := s.heap.push { cls := .type "tuple", data := .seq items.toList.reverse.toArray } }) (hsz : items.size ≤ sizeLine) : wpAny (model prog w) A (getItem (.ref t) (.ref sl)) Q E s := by
  have ok : sizeOk (.seq items.toList.reverse.toArray) := by
    show items.toList.reverse.toArray.size ≤ sizeLine
    rw [List.size_toArray, List.length_reverse, Array.length_toList]
    exact hsz
  obtain ⟨os, hos, hcs, hds⟩ := id hs
  have hTs : s.TypeIs (.ref sl) "slice" := ⟨os, hos, hcs⟩
  unfold getItem
  try with_reducible refine wpAny_holding ?_
  first | refine wpAny_bind (wpAny_pure ?_) | skip
  refine wpAny_bind (wpAny_sequenceKey ht.typeIs (by decide) ?_)
  refine wpAny_bind (wpAny_callSpecial?_slot (name := Str.ofString "__getitem__") ht.typeIs PyProof.Rows.slot_tuple_getitem
    (wpAny_call_entry PyProof.Rows.slot_tuple_getitem ht.typeIs PySem.F.entry_tuple_getitem ?_ (PySem.F.args_tuple_getitem_2 _ _)))
  show wpAny _ _ (Builtin.Tuple.tupleItemsOf (.ref t) >>= _) _ _ s
  refine wpAny_bind (tupleItemsOf_ ht ?_)
  refine wpAny_bind (wpAny_typeOf hTs ?_)
  rw [if_pos (by decide)]
  refine wpAny_bind (applied_rev (n := items.size) hs ?_)
  have no : ¬ ((((items.size : Int) - 1) == 0 && (-1 : Int) == 1 && items.size == items.size) = true) := by
    intro q
    rw [Bool.and_eq_true, Bool.and_eq_true] at q
    exact absurd q.1.2 (by decide)
  show wpAny _ _ (if (((items.size : Int) - 1) == 0 && (-1 : Int) == 1 && items.size == items.size) = true then _ else _) _ _ s
  rw [if_neg no, pick_rev]
  first
    | exact wpAny_bind (m := Builtin.Tuple.tupleExact _) (wpAny_newObj_type (wpAny_pure ⟨_, rfl, wpAny_pure h⟩) ok)
    | exact wpAny_bind (m := Builtin.Tuple.tupleExact _) (wpAny_newObj_type (wpAny_bind (wpAny_pure (wpAny_pure ⟨_, rfl, wpAny_pure h⟩))) ok)
    | exact wpAny_bind (wpAny_bind (m := Builtin.Tuple.tupleExact _) (wpAny_newObj_type (wpAny_pure (wpAny_pure ⟨_, rfl, wpAny_pure h⟩)) ok))
    | exact wpAny_bind (wpAny_bind (m := Builtin.Tuple.tupleExact _) (wpAny_newObj_type (wpAny_pure ⟨_, rfl, wpAny_pure h⟩) ok))
end
section
variable {X : Cx} {W : WX} {hx : Hx} {Φ : Phi} {k : Nat} {a : E} {x st : Expr} {pos p2 : Pos} {te : TE}
theorem vals_turn {xs : List V} {us : List Value} (r : Vals xs us) : Vals xs.reverse us.reverse := by
  induction r with
  | nil => exact .nil
  | cons h t ih => rw [List.reverse_cons, List.reverse_cons]; exact ih.append (.cons h .nil)
theorem RFs.turn {K : PySem.W.Frag} {mg : Str → Option Value} {G : Gs} : ∀ {ds : List D} {vs : List V}, RFs K mg G ds vs → RFs K mg G ds.reverse vs.reverse
  | [], _, h => by rw [show _ = [] from h]; exact rfl
  | d :: ds, _, ⟨v, r, e, q, t⟩ => by
    subst e
    rw [List.reverse_cons, List.reverse_cons]
    exact (RFs.turn t).append ⟨v, [], rfl, q, rfl⟩
def rRev (K : PySem.W.Frag) : V → Hp → VK → Prop := fun x H Q => ∃ a xs, x = .ref a ∧ ((SqT K H a xs ∧ ∀ p, H p = none → Q (.ref p) (upd H p (.tup xs.reverse))) ∨ (SqL K H a xs ∧ ∀ p, H p = none → Q (.ref p) (upd H p (.lst xs.reverse))))
theorem pe_rev (he : PE X x te) (hst : ∀ pins s σ H, Inv X pins σ H s → wpAny (model X.prog X.w) X.A (evalPart (some st) X.env) (fun u s' => Inv X pins σ H s' ∧ ∃ t, u = .int (-1) t) X.xe s) :
    PE X (.Subscript x (.Slice none none (some st) p2) pos) (fun σ H Q => te σ H fun v H1 => rRev X.K v H1 Q) := by
  refine ⟨fun pins s σ H Q I h => ?_⟩
  refine Subscript_ (thn (he.run pins s σ H _ I h) fun v s1 ⟨y, H1, I1, r1, q1⟩ => ?_)
  refine wpAny_Slice ?_
  rw [evalPart_none]
  refine wpAny_pure ?_
  refine wpAny_pure ?_
  refine thn (hst pins s1 σ H1 I1) fun u s3 ⟨I3, t, eu⟩ => ?_
  subst eu
  obtain ⟨a, xs, rfl, q⟩ := q1
  cases r1
  have I4 : Inv X pins σ H1 { s3 with heap := s3.heap.push { cls := .type "slice", data := .fields #[.none, .none, .int (-1) t] } } := I3.kept (t' := s3.toks) fun b ob q => Heap.get?_push_of_some _ q
  have hS : ({ s3 with heap := s3.heap.push { cls := .type "slice", data := .fields #[.none, .none, .int (-1) t] } } : Shared).heap.IsSliceOf s3.heap.objs.size .none .none (.int (-1) t) := Heap.IsSliceOf.new ..
  show wpAny (model X.prog X.w) X.A (subscriptTail x (.Slice none none (some st) p2) (.ref a) (.ref s3.heap.objs.size)) (EP X pins σ Q) X.xe { s3 with heap := s3.heap.push { cls := .type "slice", data := .fields #[.none, .none, .int (-1) t] } }
  rcases q with ⟨hq, q⟩ | ⟨hq, q⟩
  · obtain ⟨its, r, ht, hz⟩ := I4.tuple hq
    have hlen := r.length
    refine tail_any (ops := [.ref a, .ref s3.heap.objs.size]) ht.typeIs PyProof.Rows.slot_tuple_getitem.lookup (item_rev ht hS ?_ (by rw [List.size_toArray]; omega)) (by with_unfolding_all rfl)
    refine ⟨.ref _, _, I4.laid (t' := s3.toks) (o := .tup xs.reverse) (fun b ob q => Heap.get?_push_of_some _ q) (Nat.le_refl _) ?_, rfl, q _ (I4.hok.fresh (Nat.le_refl _))⟩
    exact ⟨by rw [List.length_reverse]; exact hz, _, vals_turn r, IsTup.new _ _⟩
  · obtain ⟨its, r, ht, hz⟩ := I4.list hq
    have hlen := r.length
    refine tail_any (ops := [.ref a, .ref s3.heap.objs.size]) ht.isList.typeIs slot_list_getitem.lookup (wpAny_getItem_list_slice ht.isList hS .none .none (.int (-1) t) (by decide) ?_ (by rw [List.size_toArray]; omega)) (by with_unfolding_all rfl)
    rw [PySem.W.krv_pick]
    refine ⟨.ref _, _, I4.laid (t' := s3.toks) (o := .lst xs.reverse) (fun b ob q => Heap.get?_push_of_some _ q) (Nat.le_refl _) ?_, rfl, q _ (I4.hok.fresh (Nat.le_refl _))⟩
    exact ⟨by rw [List.length_reverse]; exact hz, _, 0, vals_turn r, Heap.get?_push_size _ rfl⟩
theorem s_rev {j : Nat} {p3 p4 : Pos} (ha : PE X x (eT X hx W Φ a)) : PE X (.Subscript x (.Slice none none (some (.UnaryOp .USub (.Constant (.int 1) j p4) p3)) p2) pos) (eT X hx W Φ (.rev a)) := by
  have st : ∀ pins s σ H, L2.Inv X pins σ H s → wpAny (model X.prog X.w) X.A (evalPart (some (.UnaryOp .USub (.Constant (.int 1) j p4) p3)) X.env) (fun u s' => L2.Inv X pins σ H s' ∧ ∃ t, u = .int (-1) t) X.xe s := fun pins s σ H I => by
    refine thn ((po_some (pe_un op_neg pe_int)).run pins s σ H (fun o H2 => o = some (-1) ∧ H2 = H) I ⟨1, rfl, -1, rfl, rfl, rfl⟩) fun u s1 ⟨o, H1, I1, p, eo, eH⟩ => ?_
    subst eo eH
    cases p with
    | int i t => exact ⟨I1, t, rfl⟩
  refine PE.imp (pe_rev ha st) fun σ H Q ⟨G, fp, rs, env, τ, s, q⟩ => ?_
  refine tE_look post_e s q fun d v τ' H' G' s' fr r q' => ?_
  obtain ⟨rv, e, q'⟩ := q'.of
  have y := OkE.yld s' q'
  have n := s'.now
  cases d <;> first | (cases e; done) | skip
  · cases e
    obtain ⟨b, vs, rfl, h, rr⟩ := r
    exact ⟨b, vs, rfl, .inl ⟨.inl (n.sub.rd h), fun p hp => y.newT n rr.turn p hp⟩⟩
  · cases e
    obtain ⟨b, vs, rfl, h, rr⟩ := r
    exact ⟨b, vs, rfl, .inr ⟨.inl (.inl h.1), fun p hp => y.newL n rr.turn p hp⟩⟩
  · cases e
    obtain ⟨b, vs, rfl, ⟨ob, _, h⟩, rr⟩ := r
    exact ⟨b, vs, rfl, .inl ⟨.inl (n.sub.rd2 rfl (.inr ⟨ob, h⟩)), fun p hp => y.newT n rr.turn p hp⟩⟩
/-- which builtins are served, texts of values too -/
def Bi.okk : Bi → Bool
  | .repr => true
  | b => b.ok
theorem s_bi2 {bi : Bi} {es : Es} {xs : List Expr} {p : Pos} (cx : Ctx Φ k X W) (hok : bi.okk = true) (hg : Gl X bi.name) (ha : PA X (x :: xs) (aT X hx W Φ es))
    (he : starEach (x :: xs) X.env = (false, eval x X.env) :: starEach xs X.env) (hpl : (backTo pos (starEach xs X.env)).any (·.1) = false) : PE X (.Call (.Name bi.name p) (x :: xs) [] pos) (eT X hx W Φ (.bi bi es)) := by
  by_cases h : bi = .repr
  · subst h
    exact s_biB cx (bi_repr cx.hu cx.room.gd) (by decide) hg (by decide +kernel) (by decide) (by decide) ha he hpl
  · refine s_bi cx ?_ hg ha he hpl
    cases bi <;> first | exact hok | exact absurd rfl h
end
end Vi
end
section
set_option Elab.async false
set_option linter.all false
set_option maxRecDepth 100000
set_option maxHeartbeats 2000000
/-! Vi20: which syntax an expression's reading is of. -/
namespace Vi
open PySem PySem.Spec PyProof.Rows L2

/-! ### kinds of expressions -/
def notStar : Expr → Bool
  | .Starred _ _ => false
  | _ => true
def notSlice : Expr → Bool
  | .Slice _ _ _ _ => false
  | _ => true
def notSet : Expr → Bool
  | .Set _ _ _ => false
  | _ => true
def notComp : Expr → Bool
  | .ListComp _ _ _ _ => false
  | .SetComp _ _ _ _ => false
  | .DictComp _ _ _ _ _ => false
  | _ => true
def notCall : Expr → Bool
  | .Call _ _ _ _ => false
  | _ => true
def notTuple : Expr → Bool
  | .Tuple _ _ _ => false
  | .List _ _ => false
  | _ => true
def tstOk : Expr → Bool
  | .UnaryOp .Not _ _ => false
  | .BoolOp _ _ _ => false
  | .IfExp _ _ _ _ => false
  | .Compare _ _ _ _ => false
  | _ => true
theorem star_eq {e : Expr} {es : List Expr} {env : PySem.Env} (h : notStar e = true) : starEach (e :: es) env = (false, eval e env) :: starEach es env := by
  cases e <;> first | rfl | cases h
theorem plain_ix {e : Expr} (h : notSlice e = true) : PlainIx e := by
  intro o i
  cases e <;> first | rfl | cases h
theorem no_marks {e : Expr} {op : CmpOp} (h : notSet e = true) : behindInMarks op e = false := by
  cases e <;> first | rfl | cases h
theorem no_swap {e : Expr} {t : Option Expr} {l : Nat} {env : PySem.Env} (h : notComp e = true) : swapsWith e t l env = pure false := by
  cases e <;> first | rfl | cases h
theorem base_eq {e : Expr} {m : Str} {env : PySem.Env} (h : notCall e = true) : attributeBase e m env (eval e env) = eval e env := by
  cases e <;> first | rfl | cases h
theorem tst_eq {e : Expr} {env : PySem.Env} (h : tstOk e = true) : ∀ whole, isTrue e env whole = (do let v ← whole; standAt e.pos; holding [v] (truthy v)) := by
  intro whole
  cases e <;> first | rfl | (cases h; done) | skip
  rename_i op _ _
  cases op <;> first | rfl | cases h
theorem folded_eq {e : Expr} {env : PySem.Env} (h : notSet e = true) : ∀ x, foldedSetIterable e env x = pure x := by
  intro x
  cases e <;> first | rfl | cases h
theorem plain_any {xs : List Expr} {pos : Pos} {env : PySem.Env} (h : xs.all notStar = true) : (backTo pos (starEach xs env)).any (·.1) = false := by
  induction xs with
  | nil => rfl
  | cons x xs ih =>
    rw [List.all_cons, Bool.and_eq_true] at h
    rw [star_eq h.1]
    show (false || (backTo pos (starEach xs env)).any (·.1)) = false
    rw [ih h.2]
    rfl
theorem last_marks {x y : Expr} {o p : CmpOp} (h : notSet y = true) : lastMarks [o, p] [x, y] = false := by
  show lastMarks [p] [y] = false
  exact no_marks h
theorem assign_sub {o i : Expr} {pos : Pos} {env : PySem.Env} (h : notSlice i = true) : ∀ v, assign (.Subscript o i pos) env v = (do
      let ov ← holding [v] (eval o env)
      let iv ← holding [v, ov] (eval i env)
      standAt pos
      holding [v, ov, iv] (setItem ov iv v)
      release [v, ov, iv] []) := by
  intro v
  cases i <;> first | rfl | cases h
/-! ### names -/
def vis (sc : Scope) (n : Str) : Bool := match sc.names.lookup n with
  | some .local => true
  | some .cell => true
  | some .free => true
  | _ => false
def plainN (n : Str) : Bool := !(n == ("__debug__" : Str)) && !(n == ("__classdict__" : Str))
def glob (sc : Scope) (n : Str) : Bool := match sc.names.lookup n with
  | some .globalImplicit => true
  | _ => false
def locN (sc : Scope) (n : Str) : Bool := match sc.names.lookup n with
  | some .local => true
  | some .cell => true
  | _ => false
theorem vis_of {sc : Scope} {n : Str} (h : vis sc n = true) : Vis sc n := by
  unfold vis at h
  split at h
  · rename_i e; exact .inl e
  · rename_i e; exact .inr (.inl e)
  · rename_i e; exact .inr (.inr e)
  · cases h
theorem loc_of {sc : Scope} {n : Str} (h : locN sc n = true) : Loc sc n := by
  unfold locN at h
  split at h
  · rename_i e; exact .inl e
  · rename_i e; exact .inr e
  · cases h
theorem glob_of {X : Cx} {n : Str} (h : glob X.env.scope n = true) : Gl X n := by
  unfold glob at h
  split at h
  · rename_i e; exact e
  · cases h
theorem plain_of {n : Str} (h : plainN n = true) : (n == ("__debug__" : Str)) = false ∧ (n == ("__classdict__" : Str)) = false := by
  unfold plainN at h
  rw [Bool.and_eq_true] at h
  exact ⟨by simpa using h.1, by simpa using h.2⟩
/-! ### a block's names -/
def ownOf (N : List Str) (own : List Nat) : List (Str × Nat) := own.filterMap fun i => (N[i]?).map fun n => (n, i)
def isFun : ScopeKind → Bool
  | .function => true
  | _ => false
def blkChk (N : List Str) (sc scope : Scope) (own : List Nat) : Bool :=
  isFun scope.kind && (scope.names.all fun y => decide (scope.names.lookup y.1 = some y.2)) && decide ((ownOf N own).map (·.2) = own) &&
  (scope.names.all fun y => match y.2 with
    | .free => (match sc.names.lookup y.1 with
      | some .cell => true
      | some .free => true
      | _ => false)
    | .local => (ownOf N own).any (fun p => p.1 == y.1) || !(N.any fun n => n == y.1)
    | .cell => (ownOf N own).any (fun p => p.1 == y.1) || !(N.any fun n => n == y.1)
    | _ => true)
theorem ownOf_ix {N : List Str} : ∀ {own : List Nat}, ∀ p ∈ ownOf N own, N[p.2]? = some p.1
  | [], p, h => by cases h
  | i :: own, p, h => by
    unfold ownOf at h
    rw [List.filterMap_cons] at h
    cases e : N[i]? with
    | none =>
      rw [e] at h
      exact ownOf_ix (own := own) p h
    | some n =>
      rw [e] at h
      rcases List.mem_cons.mp h with rfl | h
      · exact e
      · exact ownOf_ix (own := own) p h
theorem blk_ok {N : List Str} {sc scope : Scope} {own : List Nat} (h : blkChk N sc scope own = true) : BlkOk N sc scope (ownOf N own) ∧ (ownOf N own).map (·.2) = own := by
  unfold blkChk at h
  rw [Bool.and_eq_true, Bool.and_eq_true, Bool.and_eq_true] at h
  obtain ⟨⟨⟨h1, h2⟩, h3⟩, h4⟩ := h
  refine ⟨⟨?_, fun y hy => of_decide_eq_true (List.all_eq_true.mp h2 y hy), ownOf_ix, fun y hy e => ?_, fun y hy e => ?_⟩, of_decide_eq_true h3⟩
  · cases hk : scope.kind <;> rw [hk] at h1 <;> first | rfl | cases h1
  · have q := List.all_eq_true.mp h4 y hy
    rw [e] at q
    simp only at q
    split at q
    · rename_i z; exact .inl z
    · rename_i z; exact .inr z
    · cases q
  · have q := List.all_eq_true.mp h4 y hy
    have key : ((ownOf N own).any (fun p => p.1 == y.1) || !(N.any fun n => n == y.1)) = true → y.1 ∈ (ownOf N own).map (·.1) ∨ y.1 ∉ N := fun q => by
      rw [Bool.or_eq_true] at q
      rcases q with q | q
      · obtain ⟨p, hp, e⟩ := List.any_eq_true.mp q
        exact .inl (List.mem_map.mpr ⟨p, hp, by simpa using e⟩)
      · refine .inr fun z => ?_
        have : (N.any fun n => n == y.1) = true := List.any_eq_true.mpr ⟨y.1, z, by simp⟩
        rw [this] at q
        cases q
    rcases e with e | e <;> (rw [e] at q; exact key q)
/-! ### targets -/
mutual
def chkG (N : List Str) (st : Str → Bool) : Tg → Expr → Bool
  | .name i, e => match e with
    | .Name n _ => decide (N[i]? = some n) && st n
    | _ => false
  | .tup ts, e => match e with
    | .Tuple xs _ _ => chkGs N st ts xs
    | _ => false
def chkGs (N : List Str) (st : Str → Bool) : Tgs → List Expr → Bool
  | .nil, xs => xs.isEmpty
  | .cons t r, xs => match xs with
    | x :: xs => notStar x && chkG N st t x && chkGs N st r xs
    | [] => false
end
/-- what may be stored -/
def StOk (X : Cx) (st : Str → Bool) : Prop := ∀ n, st n = true → Loc X.env.scope n ∧ (X.fn n = true ∨ X.env.scope.names.lookup n = some .local)
theorem each_star {e : Expr} {es : List Expr} {env : PySem.Env} (h : notStar e = true) : assignEach (e :: es) env = (false, assign e env) :: assignEach es env := by
  cases e <;> first | rfl | cases h
mutual
theorem soundG {X : Cx} {st : Str → Bool} (nd : X.N.Nodup) (hc : X.calm = true) (so : StOk X st) : ∀ (t : Tg) (e : Expr), chkG X.N st t e = true → PG X e (tgG X.K t)
  | .name i, e, h => by
    unfold chkG at h
    split at h
    · rw [Bool.and_eq_true] at h
      obtain ⟨h1, h2⟩ := so _ h.2
      exact pg_name nd (of_decide_eq_true h.1) h1 h2
    · cases h
  | .tup ts, e, h => by
    unfold chkG at h
    split at h
    · rename_i xs _ _
      obtain ⟨h1, h2, h3⟩ := soundGs nd hc so ts xs h
      exact pg_tup hc h1 h2 h3
    · cases h
theorem soundGs {X : Cx} {st : Str → Bool} (nd : X.N.Nodup) (hc : X.calm = true) (so : StOk X st) : ∀ (t : Tgs) (es : List Expr), chkGs X.N st t es = true → PGs X es (tgGs X.K t) ∧ (assignEach es X.env).length = t.len ∧ (assignEach es X.env).findIdx? (·.1) = none
  | .nil, es, h => by
    unfold chkGs at h
    cases es with
    | nil => exact ⟨pgs_nil, rfl, rfl⟩
    | cons _ _ => cases h
  | .cons t r, es, h => by
    unfold chkGs at h
    cases es with
    | nil => cases h
    | cons x xs =>
      simp only [Bool.and_eq_true] at h
      obtain ⟨⟨h1, h2⟩, h3⟩ := h
      obtain ⟨q1, q2, q3⟩ := soundGs nd hc so r xs h3
      refine ⟨pgs_cons (soundG nd hc so t x h2) q1 (by rw [each_star h1]; rfl), by rw [each_star h1, List.length_cons, q2]; rfl, ?_⟩
      rw [each_star h1, List.findIdx?_cons]
      simp [q3]
end
end Vi
end
section
set_option Elab.async false
set_option linter.all false
set_option maxRecDepth 100000
set_option maxHeartbeats 4000000
/-! Vi21: expressions: the check, and that it is sound. -/
namespace Vi
open PySem PySem.Spec PyProof.Rows L2

def kwOk (pos : Pos) (ks : List Str) : List Keyword → Bool
  | [] => ks.isEmpty
  | ⟨nm, _, _⟩ :: r => match ks with
    | k :: ks => decide (nm = some k) && kwOk pos ks r
    | [] => false
def kwVals : List Keyword → List Expr
  | [] => []
  | ⟨_, v, _⟩ :: r => v :: kwVals r
def stIn (scope : Scope) (n : Str) : Bool := decide (scope.names.lookup n = some .local) || decide (scope.names.lookup n = some .cell)
def Es.len : Es → Nat
  | .nil => 0
  | .cons _ es => es.len + 1
mutual
def chkE (N : List Str) : Scope → E → Expr → Bool
  | sc, .var i, e => match e with
    | .Name n _ => decide (N[i]? = some n) && vis sc n && plainN n
    | _ => false
  | sc, .glb x, e => match e with
    | .Name n _ => decide (x = n) && glob sc n && plainN n
    | _ => false
  | sc, .non, e => match e with
    | .Constant .none _ _ => true
    | _ => false
  | sc, .bl b, e => match e with
    | .Constant (.bool c) _ _ => decide (b = c)
    | _ => false
  | sc, .int i, e => match e with
    | .Constant (.int j) _ _ => decide (i = j)
    | _ => false
  | sc, .str x, e => match e with
    | .Constant (.str y) _ _ => decide (x = y)
    | _ => false
  | sc, .tup es, e => match e with
    | .Tuple xs _ _ => chkEs N sc es xs
    | _ => false
  | sc, .lst es, e => match e with
    | .List xs _ => chkEs N sc es xs
    | _ => false
  | sc, .pick _ _, e => false
  | sc, .bin o a b, e => match e with
    | .BinOp x op y _ => decide (op = o.op) && chkE N sc a x && chkE N sc b y
    | _ => false
  | sc, .neg a, e => match e with
    | .UnaryOp .USub x _ => chkE N sc a x
    | _ => false
  | sc, .cmp o a b, e => match e with
    | .Compare x [op] [y] _ => decide (op = o.op) && notSet y && chkE N sc a x && chkE N sc b y
    | _ => false
  | sc, .chain o p a b c, e => match e with
    | .Compare x [op, oq] [y, z] _ => decide (op = o.op) && decide (oq = p.op) && notSet z && chkE N sc a x && chkE N sc b y && chkE N sc c z
    | _ => false
  | sc, .not a, e => match e with
    | .UnaryOp .Not x _ => chkE N sc a x
    | _ => false
  | sc, .and a b, e => match e with
    | .BoolOp .And [x, y] _ => chkE N sc a x && chkE N sc b y
    | .BoolOp .And [x, y, z] _ => (match b with
      | .and b c => chkE N sc a x && chkE N sc b y && chkE N sc c z
      | _ => false)
    | .BoolOp .And [x, y, z, w] _ => (match b with
      | .and b (.and c d) => chkE N sc a x && chkE N sc b y && chkE N sc c z && chkE N sc d w
      | _ => false)
    | _ => false
  | sc, .or a b, e => match e with
    | .BoolOp .Or [x, y] _ => chkE N sc a x && chkE N sc b y
    | .BoolOp .Or [x, y, z] _ => (match b with
      | .or b c => chkE N sc a x && chkE N sc b y && chkE N sc c z
      | _ => false)
    | .BoolOp .Or [x, y, z, w] _ => (match b with
      | .or b (.or c d) => chkE N sc a x && chkE N sc b y && chkE N sc c z && chkE N sc d w
      | _ => false)
    | _ => false
  | sc, .ife c a b, e => match e with
    | .IfExp z x y _ => tstOk z && chkE N sc c z && chkE N sc a x && chkE N sc b y
    | _ => false
  | sc, .fld _ _, e => false
  | sc, .ix a i, e => match e with
    | .Subscript x y _ => notSlice y && chkE N sc a x && chkE N sc i y
    | _ => false
  | sc, .sl a lo hi, e => match e with
    | .Subscript x (.Slice l h none _) _ => chkE N sc a x && chkO N sc lo l && chkO N sc hi h
    | _ => false
  | sc, .rev a, e => match e with
    | .Subscript x (.Slice none none (some (.UnaryOp .USub (.Constant (.int i) _ _) _)) _) _ => decide (i = 1) && chkE N sc a x
    | _ => false
  | sc, .call f es, e => match e with
    | .Call (.Name n _) xs [] _ => decide (f = n) && glob sc n && plainN n && chkEs N sc es xs
    | _ => false
  | sc, .callk f np ks es, e => match e with
    | .Call (.Name n _) xs kws pos => decide (f = n) && glob sc n && plainN n && decide (xs = []) && decide (np = 0) && kwOk pos ks kws && chkEs N sc es (kwVals kws)
    | _ => false
  | sc, .meth _ _ _ _, e => false
  | sc, .new _ _, e => false
  | sc, .bi b es, e => match e with
    | .Call (.Name n _) xs [] _ => decide (n = b.name) && glob sc n && b.okk && !xs.isEmpty && chkEs N sc es xs
    | _ => false
  | sc, .isin a ts, e => match e with
    | .Call (.Name n _) [x, y] [] _ => decide (n = ("isinstance" : Str)) && glob sc n && notStar x && chkE N sc a x && (match y with
      | .Name t _ => decide (ts = [t]) && (tyS t).isSome && glob sc t
      | _ => false)
    | _ => false
  | sc, .dget a k x, e => match e with
    | .Call (.Attribute o m apos) [y, z] [] cpos => decide (m = ("get" : Str)) && decide (apos.endLine = cpos.line) && notCall o && notStar y && notStar z && chkE N sc a o && chkE N sc k y && chkE N sc x z
    | _ => false
  | sc, .comp el tg it co own, e => match e with
    | .ListComp elt [⟨t, iter, ifs, 0⟩] scope _ => blkChk N sc scope own && notSet iter && chkI N sc it iter t && chkG N (stIn scope) tg t && (tg.ixs.all fun i => own.contains i) && chkC N (relS scope sc) co ifs && chkE N (relS scope sc) el elt
    | _ => false
  | sc, .comp2 el tg it tg2 it2 own own2, e => match e with
    | .ListComp elt [⟨t, iter, [], 0⟩, ⟨t2, iter2, [], 0⟩] scope _ => blkChk N sc scope own && notSet iter && notSet iter2 && chkI N sc it iter t && chkG N (stIn scope) tg t && (tg.ixs.all fun i => own.contains i) && (own2.all fun i => own.contains i) &&
        chkI N (relS scope sc) it2 iter2 t2 && chkG N (stIn scope) tg2 t2 && (tg2.ixs.all fun i => own2.contains i) && chkE N (relS scope sc) el elt
    | _ => false
  | sc, .dnewK, e => match e with
    | .Dict [] [] _ => true
    | _ => false
  | sc, .dnewT, e => match e with
    | .Dict [] [] _ => true
    | _ => false
  | sc, .fzn a, e => chkE N sc a e
  | sc, .exf _ _, e => false
  | sc, .exis _ _, e => false
def chkEs (N : List Str) : Scope → Es → List Expr → Bool
  | sc, .nil, xs => xs.isEmpty
  | sc, .cons e es, xs => match xs with
    | x :: xs => notStar x && chkE N sc e x && chkEs N sc es xs
    | [] => false
def chkO (N : List Str) : Scope → Oe → Option Expr → Bool
  | sc, .no, e => e.isNone
  | sc, .yes a, e => match e with
    | some x => chkE N sc a x
    | none => false
def chkC (N : List Str) : Scope → Oe → List Expr → Bool
  | sc, .no, es => es.isEmpty
  | sc, .yes a, es => match es with
    | [x] => (tstOk x && chkE N sc a x) || (match a with
      | .cmp o p q => (match x with
        | .Compare x [op] [y] _ => decide (op = o.op) && notSet y && chkE N sc p x && chkE N sc q y
        | _ => false)
      | _ => false)
    | _ => false
def chkI (N : List Str) : Scope → It → Expr → Expr → Bool
  | sc, .over a, e, t => chkE N sc a e
  | sc, .rng1 a, e, t => match e with
    | .Call (.Name n _) [x] [] _ => decide (n = ("range" : Str)) && glob sc n && notStar x && chkE N sc a x
    | _ => false
  | sc, .rng2 a b, e, t => match e with
    | .Call (.Name n _) [x, y] [] _ => decide (n = ("range" : Str)) && glob sc n && notStar x && notStar y && chkE N sc a x && chkE N sc b y
    | _ => false
  | sc, .enum a, e, t => match e, t with
    | .Call (.Name n _) [x] [] _, .Tuple _ _ _ => decide (n = ("enumerate" : Str)) && glob sc n && notStar x && chkE N sc a x
    | _, _ => false
  | sc, .zip a b, e, t => match e, t with
    | .Call (.Name n _) [x, y] [] _, .Tuple _ _ _ => decide (n = ("zip" : Str)) && glob sc n && notStar x && notStar y && chkE N sc a x && chkE N sc b y
    | _, _ => false
end
/-- as a test -/
def chkT (N : List Str) (sc : Scope) : E → Expr → Bool
  | .not a, e => match e with
    | .UnaryOp .Not x _ => chkT N sc a x
    | _ => false
  | .and a b, e => match e with
    | .BoolOp .And [x, y] _ => chkT N sc a x && chkT N sc b y
    | .BoolOp .And [x, y, z] _ => (match b with
      | .and b c => chkT N sc a x && chkT N sc b y && chkT N sc c z
      | _ => false)
    | .BoolOp .And [x, y, z, w] _ => (match b with
      | .and b (.and c d) => chkT N sc a x && chkT N sc b y && chkT N sc c z && chkT N sc d w
      | _ => false)
    | _ => false
  | .or a b, e => match e with
    | .BoolOp .Or [x, y] _ => chkT N sc a x && chkT N sc b y
    | .BoolOp .Or [x, y, z] _ => (match b with
      | .or b c => chkT N sc a x && chkT N sc b y && chkT N sc c z
      | _ => false)
    | .BoolOp .Or [x, y, z, w] _ => (match b with
      | .or b (.or c d) => chkT N sc a x && chkT N sc b y && chkT N sc c z && chkT N sc d w
      | _ => false)
    | _ => false
  | .cmp o a b, e => chkE N sc (.cmp o a b) e
  | .chain o p a b c, e => chkE N sc (.chain o p a b c) e
  | c, e => tstOk e && chkE N sc c e
section
variable {Φ : Phi} {k : Nat} {hx : Hx}
theorem evalEs_len : ∀ {es : Es} {env : Env} {τ τ' : List D} {vs : List RV}, evalEs Φ es env τ = .ok vs τ' → vs.length = es.len
  | .nil, _, _, _, _, h => by rw [evalEs] at h; cases h; rfl
  | .cons e es, env, τ, τ', vs, h => by
    rw [evalEs] at h
    cases h1 : evalE Φ e env τ with
    | stuck => rw [h1] at h; cases h
    | exc _ _ _ => rw [h1] at h; cases h
    | ok v τ1 =>
      rw [h1] at h
      have h : (evalEs Φ es env τ1).bind (fun vs τ => .ok (v :: vs) τ) = .ok vs τ' := h
      cases h2 : evalEs Φ es env τ1 with
      | stuck => rw [h2] at h; cases h
      | exc _ _ _ => rw [h2] at h; cases h
      | ok ws τ2 =>
        rw [h2] at h
        cases h
        rw [List.length_cons, evalEs_len h2]
        rfl
theorem ta_len {K : PySem.W.Frag} {mg : Str → Option Value} {W : WX} {es : Es} {σ : L2.St} {H : Hp} {Q : List V → Hp → Prop} (q : tA K mg hx W Φ es σ H Q) : tA K mg hx W Φ es σ H fun vs H1 => vs.length = es.len ∧ Q vs H1 := by
  obtain ⟨G, fp, rs, env, τ, s, q⟩ := q
  refine ⟨G, fp, rs, env, τ, s, ?_⟩
  cases e : evalEs Φ es env τ with
  | stuck => rw [e] at q; exact q
  | exc _ _ _ => rw [e] at q; exact q
  | ok rvs τ' =>
    rw [e] at q
    exact fun vs H' G' f s' fr r n => ⟨by rw [r.length]; exact evalEs_len e, q vs H' G' f s' fr r n⟩
theorem kw_all {env : PySem.Env} {pos : Pos} : ∀ {kws : List Keyword} {ks : List Str}, kwOk pos ks kws = true → (backToKw pos (keywordEach kws env)).all (·.1.isSome) = true ∧ (backToKw pos (keywordEach kws env)).filterMap (·.1) = ks ∧ (backToKw pos (keywordEach kws env)).any (·.1.isNone) = false ∧ ks.length = kws.length
  | [], ks, h => by
    cases ks with
    | nil => exact ⟨rfl, rfl, rfl, rfl⟩
    | cons _ _ => cases h
  | ⟨nm, v, p⟩ :: r, ks, h => by
    cases ks with
    | nil => cases h
    | cons kk ks =>
      unfold kwOk at h
      rw [Bool.and_eq_true] at h
      have e : nm = some kk := of_decide_eq_true h.1
      subst e
      obtain ⟨h1, h2, h3, h4⟩ := kw_all (env := env) h.2
      refine ⟨?_, ?_, ?_, by rw [List.length_cons, List.length_cons, h4]⟩
      · show (true && (backToKw pos (keywordEach r env)).all (·.1.isSome)) = true
        rw [h1]; rfl
      · show kk :: (backToKw pos (keywordEach r env)).filterMap (·.1) = _
        rw [h2]
      · show (false || (backToKw pos (keywordEach r env)).any (·.1.isNone)) = false
        rw [h3]; rfl
end
end Vi
end
section
set_option Elab.async false
set_option linter.all false
set_option maxRecDepth 100000
set_option maxHeartbeats 4000000
/-! Vi22: the check of expressions is sound. -/
namespace Vi
open PySem PySem.Spec PyProof.Rows L2
section
variable {Φ : Phi} {k : Nat} {hx : Hx}
theorem takesF {X : Cx} : Takes X W0 := fun _ _ x => by
  obtain ⟨_, _, _, _, _, _, _, _, _, _, _, _, _, _, _, _, h⟩ := x
  exact h.elim
theorem Ctx.blk {X : Cx} {W : WX} (cx : Ctx Φ k X W) (s : Shared) (H : Hp) (scope : Scope) (cenv : PySem.Env) (fp : List Addr) : Ctx Φ k (X.blk s H scope cenv fp) W0 := ⟨cx.nd, cx.calm, cx.room, takesF, cx.phi⟩
theorem stIn_ok {X : Cx} {s : Shared} {H : Hp} {scope : Scope} {cl : List (Str × Addr)} {C : Addr} {fp : List Addr} : StOk (X.blk s H scope (compEnvC scope cl C X.env) fp) (stIn scope) := fun n h => by
  have sc : (compEnvC scope cl C X.env).scope = relS scope X.env.scope := rfl
  unfold stIn at h
  rw [Bool.or_eq_true] at h
  rcases h with h | h
  · have e : scope.names.lookup n = some .local := of_decide_eq_true h
    have e2 : (relS scope X.env.scope).names.lookup n = some .local := lookup_relS_keep (by decide) e
    exact ⟨.inl e2, .inr e2⟩
  · have e : scope.names.lookup n = some .cell := of_decide_eq_true h
    have e2 : (relS scope X.env.scope).names.lookup n = some .cell := lookup_relS_keep (by decide) e
    exact ⟨.inr e2, .inl (by show (scope.names.lookup n == some .cell) = true; rw [e]; rfl)⟩
theorem sub_all {is vs : List Nat} (h : (is.all fun i => vs.contains i) = true) : ∀ i ∈ is, i ∈ vs := fun i hi => by
  have := List.all_eq_true.mp h i hi
  simpa using this
theorem pts_yes {X : Cx} {W : WX} {a : E} {x : Expr} (pt : PT X x (cT X hx W Φ a)) : PTs X [x] (cC X hx Φ (.yes a)) := by
  refine ⟨fun pins s σ H Q I ⟨G, fp, rs, env, τ, s0, b, τ', e, q⟩ => (pts_one pt).run pins s σ H Q I ⟨G, fp, rs, env, τ, s0, ?_⟩⟩
  rw [evalC] at e
  cases e2 : evalE Φ a env τ with
  | stuck => rw [e2] at e; cases e
  | exc _ _ _ => rw [e2] at e; cases e
  | ok rv τ2 =>
    rw [e2] at e
    have e : (match rv.d with
      | some d => (match d with
        | .bl b => R.ok b τ2
        | _ => .stuck)
      | none => .stuck) = .ok b τ' := e
    cases e3 : rv.d with
    | none => rw [e3] at e; cases e
    | some d =>
      rw [e3] at e
      cases d <;> cases e
      exact ⟨_, e3, q⟩
mutual
theorem soundE : ∀ (c : E) {X : Cx} {W : WX} (cx : Ctx Φ k X W) (e : Expr), chkE X.N X.env.scope c e = true → PE X e (eT X hx W Φ c)
  | .var i, X, W, cx, e, h => by
    unfold chkE at h
    split at h
    · simp only [Bool.and_eq_true] at h
      obtain ⟨⟨h1, h2⟩, h3⟩ := h
      exact s_var cx (of_decide_eq_true h1) (vis_of h2) (plain_of h3).1 (plain_of h3).2
    · cases h
  | .glb x, X, W, cx, e, h => by
    unfold chkE at h
    split at h
    · simp only [Bool.and_eq_true] at h
      obtain ⟨⟨h1, h2⟩, h3⟩ := h
      have e : x = _ := of_decide_eq_true h1
      subst e
      exact s_glb cx (glob_of h2) (plain_of h3).1
    · cases h
  | .non, X, W, cx, e, h => by
    unfold chkE at h
    split at h
    · exact s_const pe_non (fun env τ => by rw [evalE]) (d := .non) fun G => rfl
    · cases h
  | .bl b, X, W, cx, e, h => by
    unfold chkE at h
    split at h
    · have e : b = _ := of_decide_eq_true h
      subst e
      exact s_const pe_bl (fun env τ => by rw [evalE]) (d := .bl b) fun G => rfl
    · cases h
  | .int i, X, W, cx, e, h => by
    unfold chkE at h
    split at h
    · have e : i = _ := of_decide_eq_true h
      subst e
      exact s_const pe_int (fun env τ => by rw [evalE]) (d := .int i) fun G => rfl
    · cases h
  | .str x, X, W, cx, e, h => by
    unfold chkE at h
    split at h
    · have e : x = _ := of_decide_eq_true h
      subst e
      exact s_const pe_str (fun env τ => by rw [evalE]) (d := .str x) fun G => rfl
    · cases h
  | .tup es, X, W, cx, e, h => by
    unfold chkE at h
    split at h
    · exact s_tup (soundEs es cx _ h)
    · cases h
  | .lst es, X, W, cx, e, h => by
    unfold chkE at h
    split at h
    · exact s_lst (soundEs es cx _ h)
    · cases h
  | .pick _ _, X, W, cx, e, h => by unfold chkE at h; cases h
  | .bin o a b, X, W, cx, e, h => by
    unfold chkE at h
    split at h
    · simp only [Bool.and_eq_true] at h
      obtain ⟨⟨h1, h2⟩, h3⟩ := h
      have e : _ = o.op := of_decide_eq_true h1
      subst e
      exact s_bin cx o (soundE a cx _ h2) (soundE b cx _ h3)
    · cases h
  | .neg a, X, W, cx, e, h => by
    unfold chkE at h
    split at h
    · exact s_neg (soundE a cx _ h)
    · cases h
  | .cmp o a b, X, W, cx, e, h => by
    unfold chkE at h
    split at h
    · simp only [Bool.and_eq_true] at h
      obtain ⟨⟨⟨h1, h2⟩, h3⟩, h4⟩ := h
      have e : _ = o.op := of_decide_eq_true h1
      subst e
      exact s_cmp cx o (soundE a cx _ h3) (soundE b cx _ h4) (no_marks h2)
    · cases h
  | .chain o p a b c, X, W, cx, e, h => by
    unfold chkE at h
    split at h
    · simp only [Bool.and_eq_true] at h
      obtain ⟨⟨⟨⟨⟨h1, h2⟩, h3⟩, h4⟩, h5⟩, h6⟩ := h
      have e : _ = o.op := of_decide_eq_true h1
      subst e
      have e : _ = p.op := of_decide_eq_true h2
      subst e
      exact s_chain cx o p (soundE a cx _ h4) (soundE b cx _ h5) (soundE c cx _ h6) (last_marks h3)
    · cases h
  | .not a, X, W, cx, e, h => by
    unfold chkE at h
    split at h
    · exact s_not (soundE a cx _ h)
    · cases h
  | .and a b, X, W, cx, e, h => by
    unfold chkE at h
    split at h
    · simp only [Bool.and_eq_true] at h
      exact s_and (soundE a cx _ h.1) (pe_one (soundE b cx _ h.2))
    · split at h
      · rename_i b c
        simp only [Bool.and_eq_true] at h
        exact s_and (soundE a cx _ h.1.1) (s_and (soundE b cx _ h.1.2) (pe_one (soundE c cx _ h.2)))
      · cases h
    · split at h
      · rename_i b c d
        simp only [Bool.and_eq_true] at h
        exact s_and (soundE a cx _ h.1.1.1) (s_and (soundE b cx _ h.1.1.2) (s_and (soundE c cx _ h.1.2) (pe_one (soundE d cx _ h.2))))
      · cases h
    · cases h
  | .or a b, X, W, cx, e, h => by
    unfold chkE at h
    split at h
    · simp only [Bool.and_eq_true] at h
      exact s_or (soundE a cx _ h.1) (pe_one (soundE b cx _ h.2))
    · split at h
      · rename_i b c
        simp only [Bool.and_eq_true] at h
        exact s_or (soundE a cx _ h.1.1) (s_or (soundE b cx _ h.1.2) (pe_one (soundE c cx _ h.2)))
      · cases h
    · split at h
      · rename_i b c d
        simp only [Bool.and_eq_true] at h
        exact s_or (soundE a cx _ h.1.1.1) (s_or (soundE b cx _ h.1.1.2) (s_or (soundE c cx _ h.1.2) (pe_one (soundE d cx _ h.2))))
      · cases h
    · cases h
  | .ife c a b, X, W, cx, e, h => by
    unfold chkE at h
    split at h
    · simp only [Bool.and_eq_true] at h
      obtain ⟨⟨⟨h1, h2⟩, h3⟩, h4⟩ := h
      exact s_ife (s_test (soundE c cx _ h2) (tst_eq h1)) (soundE a cx _ h3) (soundE b cx _ h4)
    · cases h
  | .fld _ _, X, W, cx, e, h => by unfold chkE at h; cases h
  | .ix a i, X, W, cx, e, h => by
    unfold chkE at h
    split at h
    · simp only [Bool.and_eq_true] at h
      obtain ⟨⟨h1, h2⟩, h3⟩ := h
      exact s_ix cx (soundE a cx _ h2) (soundE i cx _ h3) (plain_ix h1)
    · cases h
  | .sl a lo hi, X, W, cx, e, h => by
    unfold chkE at h
    split at h
    · simp only [Bool.and_eq_true] at h
      obtain ⟨⟨h1, h2⟩, h3⟩ := h
      exact s_sl (soundE a cx _ h1) (soundO lo cx _ h2) (soundO hi cx _ h3)
    · cases h
  | .rev a, X, W, cx, e, h => by
    unfold chkE at h
    split at h
    · rw [Bool.and_eq_true] at h
      have e : _ = (1 : Int) := of_decide_eq_true h.1
      subst e
      exact s_rev (soundE a cx _ h.2)
    · cases h
  | .call f es, X, W, cx, e, h => by
    unfold chkE at h
    split at h
    · rename_i n p xs pos
      simp only [Bool.and_eq_true] at h
      obtain ⟨⟨⟨h1, h2⟩, h3⟩, h4⟩ := h
      have e : f = n := of_decide_eq_true h1
      subst e
      have ha := soundEs es cx xs h4
      have hst := es_star es xs h4
      cases xs with
      | nil =>
        cases es with
        | nil => exact s_call0 cx (glob_of h2) (plain_of h3).1
        | cons _ _ => unfold chkEs at h4; cases h4
      | cons x xs =>
        rw [List.all_cons, Bool.and_eq_true] at hst
        exact s_call cx (glob_of h2) (plain_of h3).1 ha (star_eq hst.1) (plain_any hst.2)
    · cases h
  | .callk f np ks es, X, W, cx, e, h => by
    unfold chkE at h
    split at h
    · rename_i n p xs kws pos
      simp only [Bool.and_eq_true] at h
      obtain ⟨⟨⟨⟨⟨⟨h1, h2⟩, h3⟩, h4⟩, h5⟩, h6⟩, h7⟩ := h
      have e : f = n := of_decide_eq_true h1
      subst e
      have e : xs = [] := of_decide_eq_true h4
      subst e
      have e : np = 0 := of_decide_eq_true h5
      subst e
      obtain ⟨k1, k2, k3, k4⟩ := kw_all (env := X.env) h6
      refine s_callk0 cx (glob_of h2) (plain_of h3).1 (soundKs es cx kws h7) (fun σ H Q q => ?_) k1 k2 (by show (false || _) = false; rw [k3]; rfl)
      have l : es.len = ks.length := by rw [k4]; exact kws_len es kws h7
      rw [← l]
      exact ta_len q
    · cases h
  | .meth _ _ _ _, X, W, cx, e, h => by unfold chkE at h; cases h
  | .new _ _, X, W, cx, e, h => by unfold chkE at h; cases h
  | .bi b es, X, W, cx, e, h => by
    unfold chkE at h
    split at h
    · rename_i n p xs pos
      simp only [Bool.and_eq_true] at h
      obtain ⟨⟨⟨⟨h1, h2⟩, h3⟩, h4⟩, h5⟩ := h
      have e : n = b.name := of_decide_eq_true h1
      subst e
      have ha := soundEs es cx xs h5
      have hst := es_star es xs h5
      cases xs with
      | nil => cases h4
      | cons x xs =>
        rw [List.all_cons, Bool.and_eq_true] at hst
        exact s_bi2 cx h3 (glob_of h2) ha (star_eq hst.1) (plain_any hst.2)
    · cases h
  | .isin a ts, X, W, cx, e, h => by
    unfold chkE at h
    split at h
    · rename_i n p x y pos
      simp only [Bool.and_eq_true] at h
      obtain ⟨⟨⟨⟨h1, h2⟩, h3⟩, h4⟩, h5⟩ := h
      have e : n = _ := of_decide_eq_true h1
      subst e
      split at h5
      · rename_i t p2
        simp only [Bool.and_eq_true] at h5
        obtain ⟨⟨g1, g2⟩, g3⟩ := h5
        have e : ts = [t] := of_decide_eq_true g1
        subst e
        obtain ⟨u, hu⟩ := Option.isSome_iff_exists.mp g2
        exact s_isin1 cx (glob_of h2) hu (s_cls cx hu (glob_of g3)) (soundE a cx _ h4) (star_eq h3) (star_eq rfl) rfl
      · cases h5
    · cases h
  | .dget a k x, X, W, cx, e, h => by
    unfold chkE at h
    split at h
    · rename_i o m apos y z cpos
      simp only [Bool.and_eq_true] at h
      obtain ⟨⟨⟨⟨⟨⟨⟨h1, h2⟩, h3⟩, h4⟩, h5⟩, h6⟩, h7⟩, h8⟩ := h
      have e : m = _ := of_decide_eq_true h1
      subst e
      have l : apos.endLine = cpos.line := of_decide_eq_true h2
      refine s_dget cx (soundE a cx _ h6) (soundE k cx _ h7) (soundE x cx _ h8) ⟨base_eq h3, ?_, by simpa using l, ?_⟩
      · rw [star_eq h4, star_eq h5]; rfl
      · rw [star_eq h4, star_eq h5]; rfl
    · cases h
  | .comp el tg it co own, X, W, cx, e, h => by
    unfold chkE at h
    split at h
    · rename_i elt t iter ifs scope pos
      simp only [Bool.and_eq_true] at h
      obtain ⟨⟨⟨⟨⟨⟨h1, h2⟩, h3⟩, h4⟩, h5⟩, h6⟩, h7⟩ := h
      obtain ⟨b1, b2⟩ := blk_ok h1
      have hi := soundI it cx false iter t h3
      have hg : ∀ (s : Shared) (H : Hp) (C : Addr) (cl : List (Str × Addr)) (fp : List Addr), PG (X.blk s H scope (compEnvC scope cl C X.env) fp) t (tgG X.K tg) := fun s H C cl fp => soundG (X := X.blk s H scope (compEnvC scope cl C X.env) fp) cx.nd cx.calm stIn_ok tg t h4
      have ht : ∀ (s : Shared) (H : Hp) (C : Addr) (cl : List (Str × Addr)) (fp : List Addr), PTs (X.blk s H scope (compEnvC scope cl C X.env) fp) ifs (cC X hx Φ co) := fun s H C cl fp => soundC (X := X.blk s H scope (compEnvC scope cl C X.env) fp) co (cx.blk s H scope _ fp) ifs h6
      have he : ∀ (s : Shared) (H : Hp) (C : Addr) (cl : List (Str × Addr)) (fp : List Addr), PE (X.blk s H scope (compEnvC scope cl C X.env) fp) elt (eT X hx W0 Φ el) := fun s H C cl fp => soundE (X := X.blk s H scope (compEnvC scope cl C X.env) fp) el (cx.blk s H scope _ fp) elt h7
      exact PE.imp (pe_lc cx.calm cx.nd hi b1 hg ht he (folded_eq h2)) (s_comp cx hi b1 b2 (sub_all h5) hg ht he (folded_eq h2))
    · cases h
  | .comp2 el tg it tg2 it2 own own2, X, W, cx, e, h => by
    unfold chkE at h
    split at h
    · rename_i elt t iter t2 iter2 scope pos
      simp only [Bool.and_eq_true] at h
      obtain ⟨⟨⟨⟨⟨⟨⟨⟨⟨⟨h1, h2⟩, h3⟩, h4⟩, h5⟩, h6⟩, h7⟩, h8⟩, h9⟩, h10⟩, h11⟩ := h
      obtain ⟨b1, b2⟩ := blk_ok h1
      have hi := soundI it cx false iter t h4
      have hg : ∀ (s : Shared) (H : Hp) (C : Addr) (cl : List (Str × Addr)) (fp : List Addr), PG (X.blk s H scope (compEnvC scope cl C X.env) fp) t (tgG X.K tg) := fun s H C cl fp => soundG (X := X.blk s H scope (compEnvC scope cl C X.env) fp) cx.nd cx.calm stIn_ok tg t h5
      have hi1 : ∀ (s : Shared) (H : Hp) (C : Addr) (cl : List (Str × Addr)) (fp : List Addr), PI (X.blk s H scope (compEnvC scope cl C X.env) fp) t2 iter2 (yT X hx W0 Φ false it2) := fun s H C cl fp => soundI (X := X.blk s H scope (compEnvC scope cl C X.env) fp) it2 (cx.blk s H scope _ fp) false iter2 t2 h8
      have hg1 : ∀ (s : Shared) (H : Hp) (C : Addr) (cl : List (Str × Addr)) (fp : List Addr), PG (X.blk s H scope (compEnvC scope cl C X.env) fp) t2 (tgG X.K tg2) := fun s H C cl fp => soundG (X := X.blk s H scope (compEnvC scope cl C X.env) fp) cx.nd cx.calm stIn_ok tg2 t2 h9
      have he : ∀ (s : Shared) (H : Hp) (C : Addr) (cl : List (Str × Addr)) (fp : List Addr), PE (X.blk s H scope (compEnvC scope cl C X.env) fp) elt (eT X hx W0 Φ el) := fun s H C cl fp => soundE (X := X.blk s H scope (compEnvC scope cl C X.env) fp) el (cx.blk s H scope _ fp) elt h11
      have hv := sub_all h7
      rw [← b2] at hv
      refine PE.imp (pe_lc2 cx.calm cx.nd hi b1 hv hg (fun _ _ _ _ _ => pts_nil) hi1 hg1 (fun _ _ _ _ _ => pts_nil) he (folded_eq h2) (fun env => folded_eq h3)) ?_
      exact s_comp2 b2 (sub_all h6) (sub_all h10) (sub_all h7)
    · cases h
  | .dnewK, X, W, cx, e, h => by
    unfold chkE at h
    split at h
    · exact s_dnewK
    · cases h
  | .dnewT, X, W, cx, e, h => by
    unfold chkE at h
    split at h
    · exact s_dnewT
    · cases h
  | .fzn a, X, W, cx, e, h => by
    unfold chkE at h
    exact s_fzn (soundE a cx e h)
  | .exf _ _, X, W, cx, e, h => by unfold chkE at h; cases h
  | .exis _ _, X, W, cx, e, h => by unfold chkE at h; cases h
theorem soundEs : ∀ (c : Es) {X : Cx} {W : WX} (cx : Ctx Φ k X W) (xs : List Expr), chkEs X.N X.env.scope c xs = true → PA X xs (aT X hx W Φ c)
  | .nil, X, W, cx, xs, h => by
    unfold chkEs at h
    cases xs with
    | nil => exact s_nil
    | cons _ _ => cases h
  | .cons c cs, X, W, cx, xs, h => by
    unfold chkEs at h
    cases xs with
    | nil => cases h
    | cons x xs =>
      simp only [Bool.and_eq_true] at h
      obtain ⟨⟨h1, h2⟩, h3⟩ := h
      exact s_cons (soundE c cx x h2) (soundEs cs cx xs h3) (star_eq h1)
theorem soundKs : ∀ (c : Es) {X : Cx} {W : WX} (cx : Ctx Φ k X W) (kws : List Keyword), chkEs X.N X.env.scope c (kwVals kws) = true → PK X kws (aT X hx W Φ c)
  | .nil, X, W, cx, kws, h => by
    cases kws with
    | nil => exact s_knil
    | cons kw r =>
      obtain ⟨nm, v, p⟩ := kw
      unfold kwVals chkEs at h
      cases h
  | .cons c cs, X, W, cx, kws, h => by
    cases kws with
    | nil => unfold kwVals chkEs at h; cases h
    | cons kw r =>
      obtain ⟨nm, v, p⟩ := kw
      unfold kwVals chkEs at h
      simp only [Bool.and_eq_true] at h
      obtain ⟨⟨h1, h2⟩, h3⟩ := h
      exact s_kcons (soundE c cx v h2) (soundKs cs cx r h3)
theorem es_star : ∀ (c : Es) {N : List Str} {sc : Scope} (xs : List Expr), chkEs N sc c xs = true → xs.all notStar = true
  | .nil, N, sc, xs, h => by
    unfold chkEs at h
    cases xs with
    | nil => rfl
    | cons _ _ => cases h
  | .cons c cs, N, sc, xs, h => by
    unfold chkEs at h
    cases xs with
    | nil => cases h
    | cons x xs =>
      simp only [Bool.and_eq_true] at h
      obtain ⟨⟨h1, h2⟩, h3⟩ := h
      rw [List.all_cons, h1, es_star cs xs h3]
      rfl
theorem kws_len : ∀ (c : Es) {N : List Str} {sc : Scope} (kws : List Keyword), chkEs N sc c (kwVals kws) = true → c.len = kws.length
  | .nil, N, sc, kws, h => by
    cases kws with
    | nil => rfl
    | cons kw r =>
      obtain ⟨nm, v, p⟩ := kw
      unfold kwVals chkEs at h
      cases h
  | .cons c cs, N, sc, kws, h => by
    cases kws with
    | nil => unfold kwVals chkEs at h; cases h
    | cons kw r =>
      obtain ⟨nm, v, p⟩ := kw
      unfold kwVals chkEs at h
      simp only [Bool.and_eq_true] at h
      rw [Es.len, kws_len cs r h.2, List.length_cons]
theorem soundO : ∀ (c : Oe) {X : Cx} {W : WX} (cx : Ctx Φ k X W) (e : Option Expr), chkO X.N X.env.scope c e = true → PO X e (tO X.K X.mg hx W Φ c)
  | .no, X, W, cx, e, h => by
    unfold chkO at h
    cases e with
    | none => exact s_ono
    | some _ => cases h
  | .yes a, X, W, cx, e, h => by
    unfold chkO at h
    cases e with
    | none => cases h
    | some x => exact s_oyes (soundE a cx x h)
theorem soundC : ∀ (c : Oe) {X : Cx} {W : WX} (cx : Ctx Φ k X W) (es : List Expr), chkC X.N X.env.scope c es = true → PTs X es (cC X hx Φ c)
  | .no, X, W, cx, es, h => by
    unfold chkC at h
    cases es with
    | nil => exact ⟨fun pins s σ H Q I q => pts_nil.run pins s σ H Q I (tC_no q)⟩
    | cons _ _ => cases h
  | .yes a, X, W, cx, es, h => by
    unfold chkC at h
    split at h
    · rename_i x
      rw [Bool.or_eq_true] at h
      rcases h with h | h
      · rw [Bool.and_eq_true] at h
        exact pts_yes (s_test (soundE a cx x h.2) (tst_eq h.1))
      · split at h
        · rename_i o p q
          split at h
          · simp only [Bool.and_eq_true] at h
            obtain ⟨⟨⟨h1, h2⟩, h3⟩, h4⟩ := h
            have e : _ = o.op := of_decide_eq_true h1
            subst e
            exact pts_yes (s_cmpT cx o (soundE p cx _ h3) (soundE q cx _ h4) (no_marks h2))
          · cases h
        · cases h
    · cases h
theorem soundI : ∀ (c : It) {X : Cx} {W : WX} (cx : Ctx Φ k X W) (m : Bool) (e t : Expr), chkI X.N X.env.scope c e t = true → PI X t e (yT X hx W Φ m c)
  | .over a, X, W, cx, m, e, t, h => by
    unfold chkI at h
    have he := soundE a cx e h
    cases m with
    | false => exact s_over false (s_ev he)
    | true =>
      refine s_over true (s_jv he fun i ei => ?_)
      subst ei
      unfold chkE at h
      split at h
      · simp only [Bool.and_eq_true] at h
        obtain ⟨⟨h1, h2⟩, h3⟩ := h
        exact pe_var (of_decide_eq_true h1) (vis_of h2) (plain_of h3).1 (plain_of h3).2
      · cases h
  | .rng1 a, X, W, cx, m, e, t, h => by
    unfold chkI at h
    split at h
    · simp only [Bool.and_eq_true] at h
      obtain ⟨⟨⟨h1, h2⟩, h3⟩, h4⟩ := h
      have e : _ = _ := of_decide_eq_true h1
      subst e
      exact s_rng1 m cx (glob_of h2) (soundE a cx _ h4) (star_eq h3)
    · cases h
  | .rng2 a b, X, W, cx, m, e, t, h => by
    unfold chkI at h
    split at h
    · simp only [Bool.and_eq_true] at h
      obtain ⟨⟨⟨⟨⟨h1, h2⟩, h3⟩, h4⟩, h5⟩, h6⟩ := h
      have e : _ = _ := of_decide_eq_true h1
      subst e
      exact s_rng2 m cx (glob_of h2) (soundE a cx _ h5) (soundE b cx _ h6) (by rw [star_eq h3, star_eq h4]; rfl) (star_eq h4)
    · cases h
  | .enum a, X, W, cx, m, e, t, h => by
    unfold chkI at h
    split at h
    · simp only [Bool.and_eq_true] at h
      obtain ⟨⟨⟨h1, h2⟩, h3⟩, h4⟩ := h
      have e : _ = _ := of_decide_eq_true h1
      subst e
      have he := soundE a cx _ h4
      cases m with
      | false => exact s_enum false cx (glob_of h2) (s_ev he) (star_eq h3)
      | true =>
        refine s_enum true cx (glob_of h2) (s_jv he fun i ei => ?_) (star_eq h3)
        subst ei
        unfold chkE at h4
        split at h4
        · simp only [Bool.and_eq_true] at h4
          obtain ⟨⟨g1, g2⟩, g3⟩ := h4
          exact pe_var (of_decide_eq_true g1) (vis_of g2) (plain_of g3).1 (plain_of g3).2
        · cases h4
    · cases h
  | .zip a b, X, W, cx, m, e, t, h => by
    unfold chkI at h
    split at h
    · simp only [Bool.and_eq_true] at h
      obtain ⟨⟨⟨⟨⟨h1, h2⟩, h3⟩, h4⟩, h5⟩, h6⟩ := h
      have e : _ = _ := of_decide_eq_true h1
      subst e
      have ha := soundE a cx _ h5
      have hb := soundE b cx _ h6
      cases m with
      | false => exact s_zip false cx (glob_of h2) (s_ev ha) (s_ev hb) (star_eq h3) (star_eq h4) (plain_any (by simp [h4]))
      | true =>
        refine s_zip true cx (glob_of h2) (s_jv ha fun i ei => ?_) (s_jv hb fun i ei => ?_) (star_eq h3) (star_eq h4) (plain_any (by simp [h4]))
        · subst ei
          unfold chkE at h5
          split at h5
          · simp only [Bool.and_eq_true] at h5
            exact pe_var (of_decide_eq_true h5.1.1) (vis_of h5.1.2) (plain_of h5.2).1 (plain_of h5.2).2
          · cases h5
        · subst ei
          unfold chkE at h6
          split at h6
          · simp only [Bool.and_eq_true] at h6
            exact pe_var (of_decide_eq_true h6.1.1) (vis_of h6.1.2) (plain_of h6.2).1 (plain_of h6.2).2
          · cases h6
    · cases h
end
/-- tests -/
theorem soundT : ∀ (c : E) {X : Cx} {W : WX} (cx : Ctx Φ k X W) (e : Expr), chkT X.N X.env.scope c e = true → PT X e (cT X hx W Φ c)
  | .not a, X, W, cx, e, h => by
    unfold chkT at h
    split at h
    · exact s_notT (soundT a cx _ h)
    · cases h
  | .and a b, X, W, cx, e, h => by
    unfold chkT at h
    split at h
    · simp only [Bool.and_eq_true] at h
      exact (s_andT (soundT a cx _ h.1) (pw_and1 (soundT b cx _ h.2))).pt
    · split at h
      · rename_i b c
        simp only [Bool.and_eq_true] at h
        exact (s_andT (soundT a cx _ h.1.1) (s_andT (soundT b cx _ h.1.2) (pw_and1 (soundT c cx _ h.2)))).pt
      · cases h
    · split at h
      · rename_i b c d
        simp only [Bool.and_eq_true] at h
        exact (s_andT (soundT a cx _ h.1.1.1) (s_andT (soundT b cx _ h.1.1.2) (s_andT (soundT c cx _ h.1.2) (pw_and1 (soundT d cx _ h.2))))).pt
      · cases h
    · cases h
  | .or a b, X, W, cx, e, h => by
    unfold chkT at h
    split at h
    · simp only [Bool.and_eq_true] at h
      exact (s_orT (soundT a cx _ h.1) (pw_or1 (soundT b cx _ h.2))).pt
    · split at h
      · rename_i b c
        simp only [Bool.and_eq_true] at h
        exact (s_orT (soundT a cx _ h.1.1) (s_orT (soundT b cx _ h.1.2) (pw_or1 (soundT c cx _ h.2)))).pt
      · cases h
    · split at h
      · rename_i b c d
        simp only [Bool.and_eq_true] at h
        exact (s_orT (soundT a cx _ h.1.1.1) (s_orT (soundT b cx _ h.1.1.2) (s_orT (soundT c cx _ h.1.2) (pw_or1 (soundT d cx _ h.2))))).pt
      · cases h
    · cases h
  | .cmp o a b, X, W, cx, e, h => by
    unfold chkT chkE at h
    split at h
    · simp only [Bool.and_eq_true] at h
      obtain ⟨⟨⟨h1, h2⟩, h3⟩, h4⟩ := h
      have e : _ = o.op := of_decide_eq_true h1
      subst e
      exact s_cmpT cx o (soundE a cx _ h3) (soundE b cx _ h4) (no_marks h2)
    · cases h
  | .chain o p a b c, X, W, cx, e, h => by
    unfold chkT chkE at h
    split at h
    · simp only [Bool.and_eq_true] at h
      obtain ⟨⟨⟨⟨⟨h1, h2⟩, h3⟩, h4⟩, h5⟩, h6⟩ := h
      have e : _ = o.op := of_decide_eq_true h1
      subst e
      have e : _ = p.op := of_decide_eq_true h2
      subst e
      exact s_chainT cx o p (soundE a cx _ h4) (soundE b cx _ h5) (soundE c cx _ h6) (last_marks h3)
    · cases h
  | .var i, X, W, cx, e, h => by
    unfold chkT at h
    rw [Bool.and_eq_true] at h
    exact s_test (soundE _ cx e h.2) (tst_eq h.1)
  | .glb x, X, W, cx, e, h => by
    unfold chkT at h
    rw [Bool.and_eq_true] at h
    exact s_test (soundE _ cx e h.2) (tst_eq h.1)
  | .non, X, W, cx, e, h => by
    unfold chkT at h
    rw [Bool.and_eq_true] at h
    exact s_test (soundE _ cx e h.2) (tst_eq h.1)
  | .bl b, X, W, cx, e, h => by
    unfold chkT at h
    rw [Bool.and_eq_true] at h
    exact s_test (soundE _ cx e h.2) (tst_eq h.1)
  | .int i, X, W, cx, e, h => by
    unfold chkT at h
    rw [Bool.and_eq_true] at h
    exact s_test (soundE _ cx e h.2) (tst_eq h.1)
  | .str x, X, W, cx, e, h => by
    unfold chkT at h
    rw [Bool.and_eq_true] at h
    exact s_test (soundE _ cx e h.2) (tst_eq h.1)
  | .tup es, X, W, cx, e, h => by
    unfold chkT at h
    rw [Bool.and_eq_true] at h
    exact s_test (soundE _ cx e h.2) (tst_eq h.1)
  | .lst es, X, W, cx, e, h => by
    unfold chkT at h
    rw [Bool.and_eq_true] at h
    exact s_test (soundE _ cx e h.2) (tst_eq h.1)
  | .pick es i, X, W, cx, e, h => by
    unfold chkT at h
    rw [Bool.and_eq_true] at h
    exact s_test (soundE _ cx e h.2) (tst_eq h.1)
  | .bin o a b, X, W, cx, e, h => by
    unfold chkT at h
    rw [Bool.and_eq_true] at h
    exact s_test (soundE _ cx e h.2) (tst_eq h.1)
  | .neg a, X, W, cx, e, h => by
    unfold chkT at h
    rw [Bool.and_eq_true] at h
    exact s_test (soundE _ cx e h.2) (tst_eq h.1)
  | .ife c a b, X, W, cx, e, h => by
    unfold chkT at h
    rw [Bool.and_eq_true] at h
    exact s_test (soundE _ cx e h.2) (tst_eq h.1)
  | .fld a f, X, W, cx, e, h => by
    unfold chkT at h
    rw [Bool.and_eq_true] at h
    exact s_test (soundE _ cx e h.2) (tst_eq h.1)
  | .ix a i, X, W, cx, e, h => by
    unfold chkT at h
    rw [Bool.and_eq_true] at h
    exact s_test (soundE _ cx e h.2) (tst_eq h.1)
  | .sl a l h', X, W, cx, e, h => by
    unfold chkT at h
    rw [Bool.and_eq_true] at h
    exact s_test (soundE _ cx e h.2) (tst_eq h.1)
  | .call f es, X, W, cx, e, h => by
    unfold chkT at h
    rw [Bool.and_eq_true] at h
    exact s_test (soundE _ cx e h.2) (tst_eq h.1)
  | .callk f np ks es, X, W, cx, e, h => by
    unfold chkT at h
    rw [Bool.and_eq_true] at h
    exact s_test (soundE _ cx e h.2) (tst_eq h.1)
  | .meth a c m es, X, W, cx, e, h => by
    unfold chkT at h
    rw [Bool.and_eq_true] at h
    exact s_test (soundE _ cx e h.2) (tst_eq h.1)
  | .new c es, X, W, cx, e, h => by
    unfold chkT at h
    rw [Bool.and_eq_true] at h
    exact s_test (soundE _ cx e h.2) (tst_eq h.1)
  | .rev a, X, W, cx, e, h => by
    unfold chkT at h
    rw [Bool.and_eq_true] at h
    exact s_test (soundE _ cx e h.2) (tst_eq h.1)
  | .bi b es, X, W, cx, e, h => by
    unfold chkT at h
    rw [Bool.and_eq_true] at h
    exact s_test (soundE _ cx e h.2) (tst_eq h.1)
  | .isin a ts, X, W, cx, e, h => by
    unfold chkT at h
    rw [Bool.and_eq_true] at h
    exact s_test (soundE _ cx e h.2) (tst_eq h.1)
  | .dget a k x, X, W, cx, e, h => by
    unfold chkT at h
    rw [Bool.and_eq_true] at h
    exact s_test (soundE _ cx e h.2) (tst_eq h.1)
  | .comp el tg it co own, X, W, cx, e, h => by
    unfold chkT at h
    rw [Bool.and_eq_true] at h
    exact s_test (soundE _ cx e h.2) (tst_eq h.1)
  | .comp2 el tg it tg2 it2 own own2, X, W, cx, e, h => by
    unfold chkT at h
    rw [Bool.and_eq_true] at h
    exact s_test (soundE _ cx e h.2) (tst_eq h.1)
  | .dnewK, X, W, cx, e, h => by
    unfold chkT at h
    rw [Bool.and_eq_true] at h
    exact s_test (soundE _ cx e h.2) (tst_eq h.1)
  | .dnewT, X, W, cx, e, h => by
    unfold chkT at h
    rw [Bool.and_eq_true] at h
    exact s_test (soundE _ cx e h.2) (tst_eq h.1)
  | .fzn a, X, W, cx, e, h => by
    unfold chkT at h
    rw [Bool.and_eq_true] at h
    exact s_test (soundE _ cx e h.2) (tst_eq h.1)
  | .exf i f, X, W, cx, e, h => by
    unfold chkT at h
    rw [Bool.and_eq_true] at h
    exact s_test (soundE _ cx e h.2) (tst_eq h.1)
  | .exis i ts, X, W, cx, e, h => by
    unfold chkT at h
    rw [Bool.and_eq_true] at h
    exact s_test (soundE _ cx e h.2) (tst_eq h.1)
end
end Vi
end
section
set_option Elab.async false
set_option linter.all false
set_option maxRecDepth 100000
set_option maxHeartbeats 4000000
/-! Vi23: statements: the check, and that it is sound; a def's meaning. -/
namespace Vi
open PySem PySem.Spec PyProof.Rows L2

/-- Name = a comprehension on its own line -/
def compSw (sc : Scope) (t v : Expr) : Bool := match t, v with
  | .Name n py, .ListComp _ _ scope pos => decide (sc.names.lookup n = some .local) && (py.line == pos.line) && !(scope.names.any fun (m, k) => m == n && (k == .local || k == .cell))
  | _, _ => false
def isLC : Expr → Bool
  | .ListComp _ _ _ _ => true
  | _ => false
def notTupT : Expr → Bool
  | .Tuple _ _ _ => false
  | .List _ _ => false
  | .Starred _ _ => false
  | _ => true
theorem no_swapped {t v : Expr} {env : PySem.Env} (h : (notTupT t || notTuple v) = true) : swappedStores [t] v env = pure none := by
  rw [Bool.or_eq_true] at h
  rcases h with h | h
  · cases t <;> first | rfl | (cases h; done) | (cases v <;> rfl)
  · cases v <;> first | rfl | (cases h; done) | (cases t <;> rfl)
theorem each_one {t : Expr} {env : PySem.Env} (h : notStar t = true) : (assignEach [t] env).map (·.2) = [assign t env] := by
  rw [each_star h]; rfl
mutual
def chkS (N : List Str) (sc : Scope) : S → Stmt → Bool
  | .asg tg e, st => match st with
    | .Assign [t] v _ => chkG N (locN sc) tg t && chkE N sc e v && notStar t && (notComp v && (notTupT t || notTuple v) || (match tg with
        | .name _ => compSw sc t v
        | _ => false))
    | _ => false
  | .aug i o e, st => match st with
    | .AugAssign (.Name n _) op v _ => decide (N[i]? = some n) && locN sc n && decide (op = o.op) && chkE N sc e v
    | _ => false
  | .mkhand i e, st => match st with
    | .Assign [.Name n _] v _ => decide (N[i]? = some n) && locN sc n && notComp v && chkE N sc e v
    | _ => false
  | .put p k e, st => match p with
    | .var i => (match st with
      | .Assign [.Subscript (.Name n _) y _] v _ => decide (N[i]? = some n) && vis sc n && plainN n && notSlice y && notComp v && chkE N sc k y && chkE N sc e v
      | _ => false)
    | _ => false
  | .augp _ _ _ _, _ => false
  | .putf _ _ _, _ => false
  | .augf _ _ _ _, _ => false
  | .app p e, st => match p with
    | .var i => (match st with
      | .Expr (.Call (.Attribute (.Name n _) m apos) [v] [] cpos) _ => decide (N[i]? = some n) && vis sc n && plainN n && decide (m = ("append" : Str)) && decide (apos.endLine = cpos.line) && notStar v && chkE N sc e v
      | _ => false)
    | _ => false
  | .ext p e, st => match p with
    | .var i => (match st with
      | .Expr (.Call (.Attribute (.Name n _) m apos) [v] [] cpos) _ => decide (N[i]? = some n) && vis sc n && plainN n && decide (m = ("extend" : Str)) && decide (apos.endLine = cpos.line) && notStar v && chkE N sc e v
      | _ => false)
    | _ => false
  | .iff c a b, st => match st with
    | .If x xs ys _ => chkT N sc c x && chkSs N sc a xs && chkSs N sc b ys
    | _ => false
  | .whil c b, st => match st with
    | .While x xs [] _ => chkT N sc c x && chkSs N sc b xs
    | _ => false
  | .for_ tg it b, st => match st with
    | .For t iter xs [] _ => notSet iter && chkI N sc it iter t && chkG N (locN sc) tg t && chkSs N sc b xs
    | _ => false
  | .ret e, st => match st with
    | .Return (some v) _ => chkE N sc e v
    | _ => false
  | .retN, st => match st with
    | .Return none _ => true
    | _ => false
  | .brk, st => match st with
    | .Break _ => true
    | _ => false
  | .cnt, st => match st with
    | .Continue _ => true
    | _ => false
  | .pass, st => match st with
    | .Pass _ => true
    | _ => false
  | .rais _ _, _ => false
  | .drop e, st => match st with
    | .Expr v _ => notComp v && chkE N sc e v
    | _ => false
  | .frz _, _ => false
  | .kill _, _ => false
  | .tryy _ _, _ => false
def chkSs (N : List Str) (sc : Scope) : Ss → List Stmt → Bool
  | .nil, sts => sts.isEmpty
  | .cons s r, sts => match s with
    | .frz _ => chkSs N sc r sts
    | .kill _ => chkSs N sc r sts
    | s => match sts with
      | st :: sts => chkS N sc s st && chkSs N sc r sts
      | [] => false
end
end Vi
end
section
set_option Elab.async false
set_option linter.all false
set_option maxRecDepth 100000
set_option maxHeartbeats 4000000
/-! Vi24: statements are sound; a def's contract. -/
namespace Vi
open PySem PySem.Spec PyProof.Rows L2
section
variable {Φ : Phi} {k n : Nat} {hx : Hx}
/-- a context of statements -/
structure CtxS (Φ : Phi) (k : Nat) (X : Cx) (W : WX) : Prop where
  cx : Ctx Φ k X W
  own : PassesOwn (model X.prog X.w) X.A X.env X.xe
  fn : ∀ m, X.fn m = true
  kind : X.env.scope.kind = .function
theorem CtxS.st {X : Cx} {W : WX} (c : CtxS Φ k X W) : StOk X (locN X.env.scope) := fun m h => ⟨loc_of h, .inl (c.fn m)⟩
section
variable {X : Cx} {W : WX} {a : E} {x e : Expr} {pos p : Pos} {i : Nat} {nm : Str}
theorem var_pe {n' : Str} {p : Pos} (h1 : X.N[i]? = some n') (h2 : vis X.env.scope n' = true) (h3 : plainN n' = true) : PE X (.Name n' p) (tVar i) := pe_var h1 (vis_of h2) (plain_of h3).1 (plain_of h3).2
/-- the hand is made -/
theorem s_mkhand (hN : X.N.Nodup) (hi : X.N[i]? = some nm) (hl : Loc X.env.scope nm) (hf : X.fn nm = true ∨ X.env.scope.names.lookup nm = some .local) (he : PE X e (eT X hx W Φ a)) (hs : swapsWith e (some (.Name nm p)) pos.line X.env = pure false) :
    PS X (.Assign [.Name nm p] e pos) (sT X hx W Φ n (.mkhand i a)) := by
  refine PS.imp (ps_set hN hi hl he hs hf) fun D σ H ⟨G, fp, rs, env, τ, s, q⟩ => ?_
  rw [exec] at q
  by_cases hτ : τ.isEmpty = true
  · rw [if_pos hτ] at q
    have eτ : τ = [] := by simpa using hτ
    subst eτ
    refine ⟨G, fp, rs, env, [], s, SatR.mono q.of fun rv τ' q v H' G' f s' fr r nw => ?_⟩
    cases rv with
    | fz d => exact q.elim
    | ro c => exact q.elim
    | own cl =>
      cases cl <;> first | exact q.elim | skip
      rename_i ds
      cases ds with
      | nil => exact q.elim
      | cons d ds =>
        simp only at q
        by_cases hτ' : τ'.isEmpty = true
        · rw [if_pos hτ'] at q
          have eτ : τ' = [] := by simpa using hτ'
          subst eτ
          obtain ⟨ad, vs, rfl, rfl, eH, rr⟩ := r
          have hn : G'.hd = none := by
            rcases s'.hand with ⟨_, z⟩ | ⟨z, _⟩
            · exact z
            · exact absurd rfl z
          have hn0 : G.hd = none := by rw [← fr.hd]; exact hn
          have off : ∀ y ∈ fp ++ rs, y ≠ ad := fun y hy z => by
            obtain ⟨o, eo⟩ := s.liveAt y hy
            rw [z, nw.new ad List.mem_cons_self] at eo
            cases eo
          have g : GLe G' ⟨G'.fr, some ad⟩ := ⟨fun _ _ e => e, fun h e => by rw [hn] at e; cases e⟩
          have s2 : SR X.K X.mg hx H' ⟨G'.fr, some ad⟩ fp rs σ env (d :: ds) := by
            refine ⟨s'.sub, s'.nd, s'.nf, .inr ⟨by simp, ad, vs, rfl, eH, RFs.mono g rr, nw.nf ad List.mem_cons_self⟩, fun h e z => ?_, fun y hy => ?_, RE.stay g Stays.refl Stays.refl s'.env⟩
            · cases e
              exact off _ (List.mem_append_left _ z) rfl
            · obtain ⟨h1, h2, h3, h4⟩ := s'.rok y hy
              refine ⟨h1, fun z => ?_, h3, h4⟩
              cases z
              exact off _ (List.mem_append_right _ hy) rfl
          obtain ⟨fp', sb, s3⟩ := s2.setF (d := .hand) (v := .ref ad) ⟨ad, rfl, rfl⟩ i
          refine q _ H' ⟨G'.fr, some ad⟩ fp' ⟨s3, ⟨fun y o e _ hd => fr.keep y o e hd, fr.le, (fun h e => by rw [hn0] at e; cases e), fun h e => ?_, s'.there' fr⟩, fun y hy => .inl (sb.subset hy)⟩
          cases e
          exact .inr (nw.new _ List.mem_cons_self)
        · rw [if_neg hτ'] at q
          exact q.elim
  · rw [if_neg hτ] at q
    exact q.elim
theorem comp_te : ∀ {c : E} {v : Expr}, isLC v = true → chkE X.N X.env.scope c v = true → ∀ {py : Pos}, X.N[i]? = some nm → X.N.Nodup → X.calm = true → X.env.scope.names.lookup nm = some .local → (∀ l, swapsWith v (some (.Name nm py)) l X.env = pure true) → Ctx Φ k X W →
    ∃ te, (PS X (.Assign [.Name nm py] v pos) (tAsg te (gName i))) ∧ ∀ σ H Q, eT X hx W Φ c σ H Q → te σ H Q
  | .comp el tg it co own, v, hv, h, py, hi, hN, hc, hl, hsw, cx => by
    unfold chkE at h
    split at h
    · rename_i elt t iter ifs scope pos
      simp only [Bool.and_eq_true] at h
      obtain ⟨⟨⟨⟨⟨⟨h1, h2⟩, h3⟩, h4⟩, h5⟩, h6⟩, h7⟩ := h
      obtain ⟨b1, b2⟩ := blk_ok h1
      have hi' : PI X t iter (yT X hx W Φ false it) := soundI it cx false iter t h3
      have hg : ∀ (s : Shared) (H : Hp) (C : Addr) (cl : List (Str × Addr)) (fp : List Addr), PG (X.blk s H scope (compEnvC scope cl C X.env) fp) t (tgG X.K tg) := fun s H C cl fp => soundG (X := X.blk s H scope (compEnvC scope cl C X.env) fp) cx.nd cx.calm stIn_ok tg t h4
      have ht : ∀ (s : Shared) (H : Hp) (C : Addr) (cl : List (Str × Addr)) (fp : List Addr), PTs (X.blk s H scope (compEnvC scope cl C X.env) fp) ifs (cC X hx Φ co) := fun s H C cl fp => soundC (X := X.blk s H scope (compEnvC scope cl C X.env) fp) co (cx.blk s H scope _ fp) ifs h6
      have he : ∀ (s : Shared) (H : Hp) (C : Addr) (cl : List (Str × Addr)) (fp : List Addr), PE (X.blk s H scope (compEnvC scope cl C X.env) fp) elt (eT X hx W0 Φ el) := fun s H C cl fp => soundE (X := X.blk s H scope (compEnvC scope cl C X.env) fp) el (cx.blk s H scope _ fp) elt h7
      exact ⟨_, ps_setLc hc hN hi hl (hsw _) hi' b1 hg ht he (folded_eq h2), s_comp cx hi' b1 b2 (sub_all h5) hg ht he (folded_eq h2)⟩
    · cases h
  | .comp2 el tg it tg2 it2 own own2, v, hv0, h, py, hi, hN, hc, hl, hsw, cx => by
    unfold chkE at h
    split at h
    · rename_i elt t iter t2 iter2 scope pos
      simp only [Bool.and_eq_true] at h
      obtain ⟨⟨⟨⟨⟨⟨⟨⟨⟨⟨h1, h2⟩, h3⟩, h4⟩, h5⟩, h6⟩, h7⟩, h8⟩, h9⟩, h10⟩, h11⟩ := h
      obtain ⟨b1, b2⟩ := blk_ok h1
      have hi' : PI X t iter (yT X hx W Φ false it) := soundI it cx false iter t h4
      have hg : ∀ (s : Shared) (H : Hp) (C : Addr) (cl : List (Str × Addr)) (fp : List Addr), PG (X.blk s H scope (compEnvC scope cl C X.env) fp) t (tgG X.K tg) := fun s H C cl fp => soundG (X := X.blk s H scope (compEnvC scope cl C X.env) fp) cx.nd cx.calm stIn_ok tg t h5
      have hi1 : ∀ (s : Shared) (H : Hp) (C : Addr) (cl : List (Str × Addr)) (fp : List Addr), PI (X.blk s H scope (compEnvC scope cl C X.env) fp) t2 iter2 (yT X hx W0 Φ false it2) := fun s H C cl fp => soundI (X := X.blk s H scope (compEnvC scope cl C X.env) fp) it2 (cx.blk s H scope _ fp) false iter2 t2 h8
      have hg1 : ∀ (s : Shared) (H : Hp) (C : Addr) (cl : List (Str × Addr)) (fp : List Addr), PG (X.blk s H scope (compEnvC scope cl C X.env) fp) t2 (tgG X.K tg2) := fun s H C cl fp => soundG (X := X.blk s H scope (compEnvC scope cl C X.env) fp) cx.nd cx.calm stIn_ok tg2 t2 h9
      have he : ∀ (s : Shared) (H : Hp) (C : Addr) (cl : List (Str × Addr)) (fp : List Addr), PE (X.blk s H scope (compEnvC scope cl C X.env) fp) elt (eT X hx W0 Φ el) := fun s H C cl fp => soundE (X := X.blk s H scope (compEnvC scope cl C X.env) fp) el (cx.blk s H scope _ fp) elt h11
      have hv := sub_all h7
      rw [← b2] at hv
      exact ⟨_, ps_setLc2 hc hN hi hl (hsw _) hi' b1 hv hg (fun _ _ _ _ _ => pts_nil) hi1 hg1 (fun _ _ _ _ _ => pts_nil) he (folded_eq h2) (fun env => folded_eq h3), s_comp2 b2 (sub_all h6) (sub_all h10) (sub_all h7)⟩
    · cases h
  | .fzn c, v, hv, h, py, hi, hN, hc, hl, hsw, cx => by
    unfold chkE at h
    obtain ⟨te, h1, h2⟩ := comp_te hv h hi hN hc hl hsw cx
    exact ⟨te, h1, fun σ H Q q => h2 σ H Q (fzn_imp q)⟩
  | .var i, v, hv, h, py, hi, hN, hc, hl, hsw, cx => by
    cases v <;> first | (cases hv; done) | (unfold chkE at h; simp at h; done)
  | .glb x, v, hv, h, py, hi, hN, hc, hl, hsw, cx => by
    cases v <;> first | (cases hv; done) | (unfold chkE at h; simp at h; done)
  | .non, v, hv, h, py, hi, hN, hc, hl, hsw, cx => by
    cases v <;> first | (cases hv; done) | (unfold chkE at h; simp at h; done)
  | .bl b, v, hv, h, py, hi, hN, hc, hl, hsw, cx => by
    cases v <;> first | (cases hv; done) | (unfold chkE at h; simp at h; done)
  | .int i, v, hv, h, py, hi, hN, hc, hl, hsw, cx => by
    cases v <;> first | (cases hv; done) | (unfold chkE at h; simp at h; done)
  | .str x, v, hv, h, py, hi, hN, hc, hl, hsw, cx => by
    cases v <;> first | (cases hv; done) | (unfold chkE at h; simp at h; done)
  | .tup es, v, hv, h, py, hi, hN, hc, hl, hsw, cx => by
    cases v <;> first | (cases hv; done) | (unfold chkE at h; simp at h; done)
  | .lst es, v, hv, h, py, hi, hN, hc, hl, hsw, cx => by
    cases v <;> first | (cases hv; done) | (unfold chkE at h; simp at h; done)
  | .pick es i, v, hv, h, py, hi, hN, hc, hl, hsw, cx => by
    cases v <;> first | (cases hv; done) | (unfold chkE at h; simp at h; done)
  | .bin o a b, v, hv, h, py, hi, hN, hc, hl, hsw, cx => by
    cases v <;> first | (cases hv; done) | (unfold chkE at h; simp at h; done)
  | .rev a, v, hv, h, py, hi, hN, hc, hl, hsw, cx => by
    cases v <;> first | (cases hv; done) | (unfold chkE at h; simp at h; done)
  | .neg a, v, hv, h, py, hi, hN, hc, hl, hsw, cx => by
    cases v <;> first | (cases hv; done) | (unfold chkE at h; simp at h; done)
  | .cmp o a b, v, hv, h, py, hi, hN, hc, hl, hsw, cx => by
    cases v <;> first | (cases hv; done) | (unfold chkE at h; simp at h; done)
  | .chain o p a b c, v, hv, h, py, hi, hN, hc, hl, hsw, cx => by
    cases v <;> first | (cases hv; done) | (unfold chkE at h; simp at h; done)
  | .not a, v, hv, h, py, hi, hN, hc, hl, hsw, cx => by
    cases v <;> first | (cases hv; done) | (unfold chkE at h; simp at h; done)
  | .and a b, v, hv, h, py, hi, hN, hc, hl, hsw, cx => by
    cases v <;> first | (cases hv; done) | (unfold chkE at h; simp at h; done)
  | .or a b, v, hv, h, py, hi, hN, hc, hl, hsw, cx => by
    cases v <;> first | (cases hv; done) | (unfold chkE at h; simp at h; done)
  | .ife c a b, v, hv, h, py, hi, hN, hc, hl, hsw, cx => by
    cases v <;> first | (cases hv; done) | (unfold chkE at h; simp at h; done)
  | .fld a f, v, hv, h, py, hi, hN, hc, hl, hsw, cx => by
    cases v <;> first | (cases hv; done) | (unfold chkE at h; simp at h; done)
  | .ix a i, v, hv, h, py, hi, hN, hc, hl, hsw, cx => by
    cases v <;> first | (cases hv; done) | (unfold chkE at h; simp at h; done)
  | .sl a l h', v, hv, h, py, hi, hN, hc, hl, hsw, cx => by
    cases v <;> first | (cases hv; done) | (unfold chkE at h; simp at h; done)
  | .call f es, v, hv, h, py, hi, hN, hc, hl, hsw, cx => by
    cases v <;> first | (cases hv; done) | (unfold chkE at h; simp at h; done)
  | .callk f np ks es, v, hv, h, py, hi, hN, hc, hl, hsw, cx => by
    cases v <;> first | (cases hv; done) | (unfold chkE at h; simp at h; done)
  | .meth a c m es, v, hv, h, py, hi, hN, hc, hl, hsw, cx => by
    cases v <;> first | (cases hv; done) | (unfold chkE at h; simp at h; done)
  | .new c es, v, hv, h, py, hi, hN, hc, hl, hsw, cx => by
    cases v <;> first | (cases hv; done) | (unfold chkE at h; simp at h; done)
  | .bi b es, v, hv, h, py, hi, hN, hc, hl, hsw, cx => by
    cases v <;> first | (cases hv; done) | (unfold chkE at h; simp at h; done)
  | .isin a ts, v, hv, h, py, hi, hN, hc, hl, hsw, cx => by
    cases v <;> first | (cases hv; done) | (unfold chkE at h; simp at h; done)
  | .dget a k x, v, hv, h, py, hi, hN, hc, hl, hsw, cx => by
    cases v <;> first | (cases hv; done) | (unfold chkE at h; simp at h; done)
  | .dnewK, v, hv, h, py, hi, hN, hc, hl, hsw, cx => by
    cases v <;> first | (cases hv; done) | (unfold chkE at h; simp at h; done)
  | .dnewT, v, hv, h, py, hi, hN, hc, hl, hsw, cx => by
    cases v <;> first | (cases hv; done) | (unfold chkE at h; simp at h; done)
  | .exf i f, v, hv, h, py, hi, hN, hc, hl, hsw, cx => by
    cases v <;> first | (cases hv; done) | (unfold chkE at h; simp at h; done)
  | .exis i ts, v, hv, h, py, hi, hN, hc, hl, hsw, cx => by
    cases v <;> first | (cases hv; done) | (unfold chkE at h; simp at h; done)
end
end
end Vi
end
section
set_option Elab.async false
set_option linter.all false
set_option maxRecDepth 100000
set_option maxHeartbeats 4000000
/-! Vi25: statements are sound; a def's contract. -/
namespace Vi
open PySem PySem.Spec PyProof.Rows L2
section
variable {Φ : Phi} {k n : Nat} {hx : Hx}
theorem fold_chkSs {N : List Str} {sc : Scope} {s : S} {r : Ss} {sts : List Stmt} (h : chkSs N sc (.cons s r) sts = true) : (∃ i, s = .frz i ∧ chkSs N sc r sts = true) ∨ (∃ is, s = .kill is ∧ chkSs N sc r sts = true) ∨ ∃ st sts', sts = st :: sts' ∧ chkS N sc s st = true ∧ chkSs N sc r sts' = true := by
  unfold chkSs at h
  split at h
  · exact .inl ⟨_, rfl, h⟩
  · exact .inr (.inl ⟨_, rfl, h⟩)
  · cases sts with
    | nil => cases h
    | cons st sts =>
      simp only [Bool.and_eq_true] at h
      exact .inr (.inr ⟨st, sts, rfl, h.1, h.2⟩)
mutual
theorem soundS : ∀ (c : S) {X : Cx} {W : WX} (cs : CtxS Φ k X W) (st : Stmt), chkS X.N X.env.scope c st = true → PS X st (sT X hx W Φ n c)
  | .asg tg e, X, W, cs, st, h => by
    unfold chkS at h
    split at h
    · rename_i t v pos
      simp only [Bool.and_eq_true] at h
      obtain ⟨⟨⟨h1, h2⟩, h3⟩, h4⟩ := h
      have hg := soundG cs.cx.nd cs.cx.calm cs.st tg t h1
      have he := soundE (hx := hx) e cs.cx v h2
      rw [Bool.or_eq_true] at h4
      rcases h4 with h4 | h4
      · rw [Bool.and_eq_true] at h4
        exact s_asg he hg (no_swap h4.1) (no_swapped h4.2) (each_one h3)
      · cases tg with
        | tup _ => cases h4
        | name i =>
          simp only at h4
          unfold compSw at h4
          split at h4
          · rename_i nm py elt gens scope pos2
            simp only [Bool.and_eq_true] at h4
            obtain ⟨⟨g1, g2⟩, g3⟩ := h4
            have hl : X.env.scope.names.lookup nm = some .local := of_decide_eq_true g1
            unfold chkG at h1
            simp only [Bool.and_eq_true] at h1
            obtain ⟨te, q1, q2⟩ := comp_te (hx := hx) (Φ := Φ) (k := k) (W := W) (c := e) (v := .ListComp elt gens scope pos2) rfl h2 (py := py) (of_decide_eq_true h1.1) cs.cx.nd cs.cx.calm hl (fun l => sw_true cs.kind hl g2 (by simpa using g3)) cs.cx
            obtain ⟨q1⟩ := q1
            exact s_asgC (te := te) ⟨fun pins s0 σ H D I q => q1 pins s0 σ H D I q⟩ q2
          · cases h4
    · cases h
  | .aug i o e, X, W, cs, st, h => by
    unfold chkS at h
    split at h
    · simp only [Bool.and_eq_true] at h
      obtain ⟨⟨⟨h1, h2⟩, h3⟩, h4⟩ := h
      have e3 : _ = o.op := of_decide_eq_true h3
      subst e3
      exact s_aug cs.cx o (of_decide_eq_true h1) (loc_of h2) (soundE e cs.cx _ h4) (.inl (cs.fn _))
    · cases h
  | .mkhand i e, X, W, cs, st, h => by
    unfold chkS at h
    split at h
    · simp only [Bool.and_eq_true] at h
      obtain ⟨⟨⟨h1, h2⟩, h3⟩, h4⟩ := h
      exact s_mkhand cs.cx.nd (of_decide_eq_true h1) (loc_of h2) (.inl (cs.fn _)) (soundE e cs.cx _ h4) (no_swap h3)
    · cases h
  | .put p kk e, X, W, cs, st, h => by
    unfold chkS at h
    cases p with
    | fld _ _ => cases h
    | var i =>
      simp only at h
      split at h
      · simp only [Bool.and_eq_true] at h
        obtain ⟨⟨⟨⟨⟨⟨h1, h2⟩, h3⟩, h4⟩, h5⟩, h6⟩, h7⟩ := h
        exact s_put cs.cx (var_pe (of_decide_eq_true h1) h2 h3) (soundE kk cs.cx _ h6) (soundE e cs.cx _ h7) (assign_sub h4) (by rw [show ∀ (t v : Expr) (l : Nat) (env : PySem.Env), swapsWithSole [t] v l env = swapsWith v (some t) l env from fun _ _ _ _ => rfl]; exact no_swap h5) (no_swapped rfl) (each_one rfl)
      · cases h
  | .augp _ _ _ _, X, W, cs, st, h => by unfold chkS at h; cases h
  | .putf _ _ _, X, W, cs, st, h => by unfold chkS at h; cases h
  | .augf _ _ _ _, X, W, cs, st, h => by unfold chkS at h; cases h
  | .app p e, X, W, cs, st, h => by
    unfold chkS at h
    cases p with
    | fld _ _ => cases h
    | var i =>
      simp only at h
      split at h
      · simp only [Bool.and_eq_true] at h
        obtain ⟨⟨⟨⟨⟨⟨h1, h2⟩, h3⟩, h4⟩, h5⟩, h6⟩, h7⟩ := h
        have e4 : _ = _ := of_decide_eq_true h4
        subst e4
        have e5 : _ = _ := of_decide_eq_true h5
        exact s_app (var_pe (of_decide_eq_true h1) h2 h3) (soundE e cs.cx _ h7) (base_eq rfl) (by rw [star_eq h6]; rfl) (by simpa using e5) (star_eq h6) (no_swap rfl)
      · cases h
  | .ext p e, X, W, cs, st, h => by
    unfold chkS at h
    cases p with
    | fld _ _ => cases h
    | var i =>
      simp only at h
      split at h
      · simp only [Bool.and_eq_true] at h
        obtain ⟨⟨⟨⟨⟨⟨h1, h2⟩, h3⟩, h4⟩, h5⟩, h6⟩, h7⟩ := h
        have e4 : _ = _ := of_decide_eq_true h4
        subst e4
        have e5 : _ = _ := of_decide_eq_true h5
        exact s_ext (var_pe (of_decide_eq_true h1) h2 h3) (soundE e cs.cx _ h7) (base_eq rfl) (by rw [star_eq h6]; rfl) (by simpa using e5) (star_eq h6) (no_swap rfl)
      · cases h
  | .iff c a b, X, W, cs, st, h => by
    unfold chkS at h
    split at h
    · simp only [Bool.and_eq_true] at h
      exact s_if (soundT c cs.cx _ h.1.1) (soundSs a cs _ h.1.2) (soundSs b cs _ h.2)
    · cases h
  | .whil c b, X, W, cs, st, h => by
    unfold chkS at h
    split at h
    · simp only [Bool.and_eq_true] at h
      exact s_while cs.own (soundT c cs.cx _ h.1) (soundSs b cs _ h.2)
    · cases h
  | .for_ tg it b, X, W, cs, st, h => by
    unfold chkS at h
    split at h
    · simp only [Bool.and_eq_true] at h
      exact s_for cs.own cs.cx.calm (soundI it cs.cx true _ _ h.1.1.2) (soundG cs.cx.nd cs.cx.calm cs.st tg _ h.1.2) (soundSs b cs _ h.2) (folded_eq h.1.1.1)
    · cases h
  | .ret e, X, W, cs, st, h => by
    unfold chkS at h
    split at h
    · refine s_ret (soundE e cs.cx _ h) fun i ei => ?_
      subst ei
      unfold chkE at h
      split at h
      · simp only [Bool.and_eq_true] at h
        obtain ⟨⟨h1, h2⟩, h3⟩ := h
        exact var_pe (of_decide_eq_true h1) h2 h3
      · cases h
    · cases h
  | .retN, X, W, cs, st, h => by
    unfold chkS at h
    split at h
    · exact s_retN
    · cases h
  | .brk, X, W, cs, st, h => by
    unfold chkS at h
    split at h
    · exact s_brk
    · cases h
  | .cnt, X, W, cs, st, h => by
    unfold chkS at h
    split at h
    · exact s_cnt
    · cases h
  | .pass, X, W, cs, st, h => by
    unfold chkS at h
    split at h
    · exact s_pass
    · cases h
  | .rais _ _, X, W, cs, st, h => by unfold chkS at h; cases h
  | .drop e, X, W, cs, st, h => by
    unfold chkS at h
    split at h
    · simp only [Bool.and_eq_true] at h
      exact s_drop (soundE e cs.cx _ h.2) (no_swap h.1)
    · cases h
  | .frz _, X, W, cs, st, h => by unfold chkS at h; cases h
  | .kill _, X, W, cs, st, h => by unfold chkS at h; cases h
  | .tryy _ _, X, W, cs, st, h => by unfold chkS at h; cases h
theorem soundSs : ∀ (c : Ss) {X : Cx} {W : WX} (cs : CtxS Φ k X W) (sts : List Stmt), chkSs X.N X.env.scope c sts = true → PSs X sts (ssT X hx W Φ n c)
  | .nil, X, W, cs, sts, h => by
    unfold chkSs at h
    cases sts with
    | nil => exact ss_nil
    | cons _ _ => cases h
  | .cons s r, X, W, cs, sts, h => by
    rcases fold_chkSs h with ⟨i, rfl, h⟩ | ⟨is, rfl, h⟩ | ⟨st, sts', rfl, h1, h2⟩
    · exact ss_frz (soundSs r cs sts h)
    · exact ss_kill (soundSs r cs sts h)
    · exact ss_cons (soundS s cs st h1) (soundSs r cs sts' h2)
end
end
/-! ### a def -/
section
variable {K : PySem.W.Frag} {mg : Str → Option Value} {hx : Hx} {G : Gs} {rs : List Addr} {H : Hp}
theorem RE.uns : ∀ (m : Nat) (σ : L2.St), σ.length = m → RE K mg hx G rs H (List.replicate m .un) [] σ
  | 0, σ, h => by
    have : σ = [] := List.eq_nil_of_length_eq_zero h
    exact ⟨rfl, this⟩
  | m + 1, [], h => by cases h
  | m + 1, o :: σ, h => ⟨o, σ, [], [], rfl, rfl, rfl, RE.uns m σ (by simpa using h)⟩
theorem hd_empty {G' : Gs} {H' : Hp} {τ τ' : List D} (h : HandAt K mg H G τ) (h' : HandAt K mg H' G' τ') (e : τ.isEmpty = τ'.isEmpty) (hd : ∀ x, G.hd = some x → G'.hd = some x) : G'.hd = G.hd := by
  rcases h with ⟨e1, z⟩ | ⟨e1, x, vs, z, _⟩
  · rw [z]
    rcases h' with ⟨_, z'⟩ | ⟨e2, _⟩
    · exact z'
    · rw [e1] at e
      have : τ' = [] := by simpa using e.symm
      exact absurd this e2
  · rw [z]; exact hd x z
end
section
variable {P : Program} {w : World} {K : PySem.W.Frag} {mg : Str → Option Value} {base : Heap} {Φ : Phi} {k : Nat}
/-- THE RULE for a def: what its reading says is its contract -/
theorem def_sound {f : Addr} {name qual : Str} {params : Arguments} {body : List Stmt} {scope : Scope} {dV kV doc pm cdv ct oc : Value} {an od : Option Addr} {osl : Array (Option Value)} {N ps : List Str} {sem : Ss} {n m : Nat}
    (ph : PhiOk Φ k P w K mg base) (lk : K.lookup f = some ⟨oc, od, .func (PySem.W.fnOf name qual params body scope dV kV doc pm an cdv ct), osl⟩) (hcd : PySem.W.codeIn K cdv qual = true) (S : FnScope N ps scope)
    (hN : N.length = ps.length + m) (hc : chkSs N scope sem body = true) :
    FnG P w K mg base (k + 1) f (PySem.W.fnOf name qual params body scope dV kV doc pm an cdv ct) ps (spOf K mg (semDef Φ n ps.length m sem)) := by
  refine fnG_of lk hcd S (fun vs H Q E ⟨G, fp, rs, args, τ, s, q⟩ => ?_) fun A outer s0 H vs Q E hr ⟨G, fp, rs, args, τ, s, q⟩ => ?_
  · have l := s.env.len
    rw [List.length_map] at l
    by_cases hl : args.length = ps.length
    · rw [l, hl]
    · unfold SatF semDef at q
      rw [if_neg hl] at q
      exact q.elim
  · have l := s.env.len
    rw [List.length_map] at l
    have hl : args.length = ps.length := by
      by_cases hl : args.length = ps.length
      · exact hl
      · unfold SatF semDef at q
        rw [if_neg hl] at q
        exact q.elim
    have tk : Takes (cxOf (L2.CX P w) P w K mg base N qual scope f cdv A outer s0 H E) (fun cls d _ H => E cls d H) := takes_of rfl rfl rfl rfl
    have cs : CtxS Φ k (cxOf (L2.CX P w) P w K mg base N qual scope f cdv A outer s0 H E) (fun cls d _ H => E cls d H) := ⟨⟨S.nd, rfl, hr, tk, ph⟩, passes_of rfl, fun _ => rfl, S.kind⟩
    refine ⟨_, soundSs (hx := none) (n := n) sem cs body hc, G, fp, rs, args ++ List.replicate m .un, τ, ?_, ?_⟩
    · have re := s.env.append (RE.uns (K := K) (mg := mg) (hx := none) (G := G) (rs := rs) (H := H) m (List.replicate (N.length - vs.length) none) (by rw [List.length_replicate, hN, l, hl]; omega))
      rw [List.append_nil] at re
      exact ⟨s.sub, s.nd, s.nf, s.hand, s.out, s.rok, re⟩
    · unfold SatF semDef at q
      rw [if_pos hl] at q
      have drop : ∀ {env' : Env} {τ' : List D} {σ' : L2.St} {H' : Hp} {G' : Gs} {fp' : List Addr}, SR K mg none H' G' fp' rs σ' env' τ' → SR K mg none H' G' [] rs (vs.map some) (List.replicate ps.length .un) τ' := fun s' => s'.subl (List.nil_sublist _) (RE.uns _ _ (by rw [List.length_map, l, hl]))
      have frm : ∀ {env' : Env} {τ' : List D} {σ' : L2.St} {H' : Hp} {G' : Gs} {fp' : List Addr}, Aft K mg none H G fp rs σ' env' τ' H' G' fp' → τ.isEmpty = τ'.isEmpty → FrameS fp H G H' G' := fun a e => ⟨a.fr.keep, a.fr.le, hd_empty s.hand a.sr.hand e a.fr.hd⟩
      cases ex : execs Φ n sem (args ++ List.replicate m .un) τ with
      | stuck => rw [ex] at q; exact q.elim
      | brk env' τ' => rw [ex] at q; exact q.elim
      | cnt env' τ' => rw [ex] at q; exact q.elim
      | next env' τ' =>
        rw [ex] at q
        by_cases e : τ.isEmpty = τ'.isEmpty
        · simp only [if_pos e] at q
          exact fun σ' H' G' fp' a => q .non H' G' [] [] (drop a.sr) (frm a e) (fun _ h => nomatch h) ⟨rfl, rfl⟩ FreshT.nil
        · simp only [if_neg e] at q
      | ret rv env' τ' =>
        rw [ex] at q
        by_cases e : τ.isEmpty = τ'.isEmpty
        · simp only [if_pos e] at q
          exact fun v σ' H' G' fp' f a r nw => q v H' G' [] f (drop a.sr) (frm a e) (fun _ h => nomatch h) r ⟨nw.nd, nw.new, nw.nf, nw.ne, fun _ _ z => nomatch z⟩
        · simp only [if_neg e] at q
      | exc c fs env' τ' =>
        rw [ex] at q
        by_cases e : τ.isEmpty = τ'.isEmpty
        · simp only [if_pos e] at q
          exact fun C d ws σ' H' G' fp' a em nd eh r => q C d ws H' G' [] (drop a.sr) (frm a e) (fun _ h => nomatch h) em nd eh r
        · simp only [if_neg e] at q
end
end Vi
end
section
set_option Elab.async false
set_option linter.all false
set_option maxRecDepth 100000
set_option maxHeartbeats 1000000
/-! Vi26: the law's own def, and the end over a head by facts. -/
namespace Vi
open PySem PySem.Spec PyProof.Rows L2
/-- the contract of the law's def: over a script that lies frozen, with no hand yet, True comes -/
def spLaw (K : PySem.W.Frag) (n : Nat) : Sp := fun vs H Q _ => ∃ (a : Addr) (ns : List Int), vs = [.ref a] ∧ L2.Only H ∧ SqL K H a (ns.map V.int) ∧ ns.length ≤ n ∧ ∀ H', Q (.bl true) H'
/-- what the law's body must do, as plain data -/
def LawOk (Φ : Phi) (n m : Nat) (sem : Ss) (ns : List Int) : Prop := ∃ env' τ', execs Φ n sem (.fz (.scr ns) :: List.replicate m .un) [] = .ret (.fz (.bl true)) env' τ'
def GOf (H : Hp) : Gs := ⟨H, none⟩
theorem SqL.only {K : PySem.W.Frag} {H : Hp} {a : Addr} {vs : List V} (h : SqL K H a vs) : SqL K (GOf H).fr a vs := h
section
variable {P : Program} {w : World} {K : PySem.W.Frag} {mg : Str → Option Value} {base : Heap} {Φ : Phi} {k : Nat}
theorem start_law {N : List Str} {H : Hp} {a : Addr} {ns : List Int} {m : Nat} (hS : SqL K H a (ns.map V.int)) (hN : N.length = 1 + m) :
    SR K mg none H (GOf H) [] [] (start N [.ref a]) (.fz (.scr ns) :: List.replicate m .un) [] := by
  refine ⟨fun a o h => .inl h, List.nodup_nil, fun _ h => (nomatch h), .inl ⟨rfl, rfl⟩, fun _ h => (nomatch h), fun _ h => (nomatch h), ?_⟩
  have re := RE.uns (K := K) (mg := mg) (hx := none) (G := GOf H) (rs := []) (H := H) m (List.replicate (N.length - 1) none) (by rw [List.length_replicate, hN]; omega)
  exact ⟨_, _, [], [], rfl, rfl, ⟨rfl, ⟨_, rfl, ⟨a, rfl, hS⟩⟩⟩, re⟩
theorem law_sound {f : Addr} {name qual : Str} {params : Arguments} {body : List Stmt} {scope : Scope} {dV kV doc pm cdv ct oc : Value} {an od : Option Addr} {osl : Array (Option Value)} {N : List Str} {x : Str} {sem : Ss} {n m mx : Nat}
    (ph : PhiOk Φ k P w K mg base) (lk : K.lookup f = some ⟨oc, od, .func (PySem.W.fnOf name qual params body scope dV kV doc pm an cdv ct), osl⟩) (hcd : PySem.W.codeIn K cdv qual = true) (S : FnScope N [x] scope)
    (hN : N.length = 1 + m) (hc : chkSs N scope sem body = true) (law : ∀ ns : List Int, ns.length ≤ mx → LawOk Φ n m sem ns) :
    FnG P w K mg base (k + 1) f (PySem.W.fnOf name qual params body scope dV kV doc pm an cdv ct) [x] (spLaw K mx) := by
  refine fnG_of lk hcd S (fun vs H Q E ⟨a, ns, e, _⟩ => by rw [e]; rfl) fun A outer s0 H vs Q E hr ⟨a, ns, e, hO, hS, hl, q⟩ => ?_
  subst e
  have tk : Takes (cxOf (L2.CX P w) P w K mg base N qual scope f cdv A outer s0 H E) (fun cls d _ H => E cls d H) := takes_of rfl rfl rfl rfl
  have cs : CtxS Φ k (cxOf (L2.CX P w) P w K mg base N qual scope f cdv A outer s0 H E) (fun cls d _ H => E cls d H) := ⟨⟨S.nd, rfl, hr, tk, ph⟩, passes_of rfl, fun _ => rfl, S.kind⟩
  refine ⟨_, soundSs (hx := none) (n := n) sem cs body hc, GOf H, [], [], _, [], start_law hS hN, ?_⟩
  obtain ⟨env', τ', ex⟩ := law ns hl
  rw [ex]
  intro v σ' H' G' fp' f a r nw
  obtain rfl : v = .bl true := r.2
  exact q H'
theorem roomG_caller {k : Nat} (r : Room k callerA) : RoomG k callerA := ⟨r, rfl⟩
/-- the call of the law's def at the heap behind the top -/
theorem law_goes {mb : Str → Option Value} {fa a : Addr} {fd : FuncData} {x : Str} {n : Nat} {s1 : Shared} {vs : List Value} {ns : List Int}
    (KX : K.In s1.heap) (hns : s1.heap.Ns mainGlobals mg) (hb : s1.heap.Ns builtinsNs mb) (hbb : ∀ x : Str, x ≠ "__name__" → mb x = bootBuiltins x) (hlim : s1.heap.NoLimit) (hg : s1.gens = #[])
    (ha : s1.heap.get? a = some { cls := .type "list", data := .seq vs.toArray }) (hi : IntsAre vs ns) (hl : ns.length ≤ n) (hn : n ≤ sizeLine) (hr : Room k callerA)
    (F : ∀ base : Heap, K.In base → base.Ns mainGlobals mg → FnG P w K mg base k fa fd [x] (spLaw K n)) (hbind : ∀ (s : Shared) (u : Value), BindsTo s fd ⟨[u], []⟩ [(x, u)]) :
    codeAny (model P w) callerA (.call (.ref fa) ⟨[.ref a], []⟩) (fun r s' => r = .ok (.ret (.bool true)) ∧ OldK s1.heap s'.heap ∧ s'.os = s1.os ∧ AllBare s'.gens) s1 := by
  have rv := vals_ints hi
  have go : ∀ H : Hp, L2.Only H → SqL K H a (ns.map V.int) → HOk P w H s1.heap → (∀ b, H b ≠ none → b = a ∧ K.lookup b = none) →
      codeAny (model P w) callerA (.call (.ref fa) ⟨[.ref a], []⟩) (fun r s' => r = .ok (.ret (.bool true)) ∧ OldK s1.heap s'.heap ∧ s'.os = s1.os ∧ AllBare s'.gens) s1 := by
    intro H hO hS hok hA
    have isA : ∀ {b : Addr}, b ≠ a → H b = none := fun {b} nb => by
      cases q : H b with
      | none => rfl
      | some u => exact (nb (hA b (by rw [q]; exact Option.some_ne_none u)).1).elim
    have ns_ : ∀ {b : Addr} {m : Str → Option Value}, s1.heap.Ns b m → (hidT s1.heap H).Ns b m := fun {b m} ⟨o, es, ep, e, d, r⟩ => ⟨o, es, ep, hidT_get e (isA fun z => by
      rw [z, ha] at e; cases e; have d' : Data.seq vs.toArray _ = Data.dict es ep := d; cases d'), d, r⟩
    have kb : K.In (hidT s1.heap H) := fun b o e => hidT_get (KX b o e) (by
      cases q : H b with
      | none => rfl
      | some u => rw [(hA b (by rw [q]; exact Option.some_ne_none u)).2] at e; cases e)
    have mod : Mod K mg (hidT s1.heap H) := ⟨kb, ns_ hns, ⟨mb, ns_ hb, hbb⟩, let ⟨mc, h1, h2⟩ := hlim; ⟨mc, ns_ h1, h2⟩⟩
    have e0 : Env0 P w K mg (hidT s1.heap H) callerA [] s1 H := ⟨rfl, mod, fun b o e => of_hidT e, Nat.le_of_eq (hidT_size _ _), trivial, fun b hb => absurd (show b ∈ ([] : List Addr) from hb) (by simp), hok, .of_eq hg⟩
    refine codeAny_mono ((F _ kb (ns_ hns)).run callerA [] s1 H ⟨[.ref a], []⟩ [.ref a] [.ref a] (fun v _ => v = .bl true) (fun _ _ _ => False) (roomG_caller hr) e0 (hbind s1 (.ref a)) (.cons rfl .nil) ⟨a, ns, rfl, hO, hS, hl, fun _ => rfl⟩) fun r s' h => ?_
    cases r with
    | error e => exact (let ⟨_, _, _, _, _, _, _, _, _, _, _, _, z⟩ := h; z : False).elim
    | ok fl =>
      cases fl with
      | next => exact False.elim h
      | brk => exact False.elim h
      | cont => exact False.elim h
      | ret u =>
        obtain ⟨v, H', os, bare, un, hok', r', q⟩ := h
        have q' : v = .bl true := q
        subst q'
        obtain rfl : u = Value.bool true := r'
        refine ⟨rfl, OldK.of_keep fun b o e => ?_, os, bare⟩
        rcases hO b with z | ⟨ob, xs, z⟩
        · exact un.keep b o e z (fun z => absurd (show b ∈ ([] : List Addr) from z) (by simp)) (by simp)
        · obtain ⟨e1, _⟩ := hok b _ z
          obtain ⟨e2, _⟩ := hok' b _ (un.frzs b ob _ z)
          rw [e] at e1; cases e1
          exact e2
  cases hk : K.lookup a with
  | some o =>
    have e := KX a o hk
    rw [ha] at e
    cases e
    exact go (fun _ => none) (fun _ => .inl rfl) (.inr ⟨_, vs.toArray, _, hk, rfl, rfl, rfl, by rw [List.size_toArray, hi.length]; omega, by simpa using rv⟩) (fun b u z => by cases (show (none : Option HO) = some u from z)) fun b z => absurd rfl z
  | none =>
    have at_ : ∀ b u, (if b = a then some (HO.frz { cls := .type "list", data := .seq vs.toArray } (.lst (ns.map V.int))) else none) = some u → b = a ∧ u = .frz { cls := .type "list", data := .seq vs.toArray } (.lst (ns.map V.int)) := fun b u z => by
      by_cases q : b = a
      · rw [if_pos q] at z; cases z; exact ⟨q, rfl⟩
      · rw [if_neg q] at z; cases z
    refine go (fun b => if b = a then some (.frz { cls := .type "list", data := .seq vs.toArray } (.lst (ns.map V.int))) else none) (fun b => ?_) (.inl (.inr ⟨{ cls := .type "list", data := .seq vs.toArray }, if_pos rfl⟩)) (fun b u z => ?_) fun b z => ?_
    · cases q : (if b = a then some (HO.frz { cls := .type "list", data := .seq vs.toArray } (.lst (ns.map V.int))) else none) with
      | none => exact .inl q
      | some u => obtain ⟨_, rfl⟩ := at_ b u q; exact .inr ⟨_, _, q⟩
    · obtain ⟨rfl, rfl⟩ := at_ b u z
      exact ⟨ha, by rw [List.length_map]; omega, vs, _, rv, ha⟩
    · by_cases q : b = a
      · exact ⟨q, q ▸ hk⟩
      · exact absurd (if_neg q) z
end
/-- a law's end -/
theorem walk_ofG {l : PySem.W.OpenLaw} {n k : Nat} {q : Program} {loose : List Str} {XP : (Str → Option Value) → Heap → Prop} {YP : World → Heap → Prop} {d : DefRec} {x : Str}
    (hn : l.most = some n) (hn2 : n ≤ sizeLine) (hdf : d.params.defaults = []) (hr : Room k callerA)
    (F : ∀ (w : World) (mg : Str → Option Value) (fa : Addr) (h : Heap), YP w h → h.Ns mainGlobals mg → mg d.name = some (.ref fa) →
      ∃ (K : PySem.W.Frag) (fd : FuncData), K.In h ∧ (∀ (s : Shared) (u : Value), BindsTo s fd ⟨[u], []⟩ [(x, u)]) ∧ ∀ base : Heap, K.In base → base.Ns mainGlobals mg → FnG l.prog w K mg base k fa fd [x] (spLaw K n)) :
    PySem.W.WalkO q loose XP YP l.row.toRowW d [] (fun f vs => PySem.call f vs) := by
  refine Att.attach_call hn hdf fun w s0 s1 mg mb fa o pm cd doc a vs ns G Y ho hd hcd hmg hobj hints hlen hg => ?_
  obtain ⟨K, fd, KX, hb, hF⟩ := F w mg fa _ Y G.T.g hmg
  exact law_goes KX G.T.g G.T.b G.T.builtins G.T.nolimit hg hobj hints hlen hn2 hr hF hb
end Vi
end
section
set_option Elab.async false
set_option linter.all false
set_option maxRecDepth 100000
set_option maxHeartbeats 1000000
/-! Vi27: a law's defs as a list of data; what the head's facts give. -/
namespace Vi
open PySem PySem.Spec PyProof.Rows L2
structure Fn where
  name : Str
  params : Arguments
  body : List Stmt
  scope : Scope
  N : List Str
  ps : List Str
  m : Nat
  n : Nat
  sem : Ss
  kwc : Bool
def Fn.dd (f : Fn) : He.DefD := ⟨(f.name, none), f.name, f.name, f.params, f.body, f.scope, [], []⟩
def Fn.mean (Φ : Phi) (f : Fn) : Sem := semDef Φ f.n f.ps.length f.m f.sem
def phiAdd (Φ : Phi) (f : Fn) : Phi := { Φ with fn := fun x => if x = f.name then some (f.mean Φ) else Φ.fn x, kw := fun x np ks => if x = f.name then (if f.kwc = true ∧ np = 0 ∧ ks = f.ps then some [] else none) else Φ.kw x np ks }
def phiAll (Φ : Phi) : List Fn → Phi
  | [] => Φ
  | f :: fs => phiAll (phiAdd Φ f) fs
structure Fn.Good (f : Fn) : Prop where
  sc : FnScope f.N f.ps f.scope
  nl : f.N.length = f.ps.length + f.m
  ck : chkSs f.N f.scope f.sem f.body = true
  bd : ∀ (kV doc pm : Value) (an : Option Addr) (cdv ct : Value) (us : List Value), us.length = f.ps.length → bindArgs (PySem.W.fnOf f.name f.name f.params f.body f.scope .none kV doc pm an cdv ct) ⟨us, []⟩ = pure (f.ps.zip us)
  kb : f.kwc = true → ∀ (kV doc pm : Value) (an : Option Addr) (cdv ct : Value) (us : List Value), us.length = f.ps.length → bindArgs (PySem.W.fnOf f.name f.name f.params f.body f.scope .none kV doc pm an cdv ct) ⟨[], f.ps.zip us⟩ = pure (f.ps.zip us)
section
variable {P : Program} {w : World} {K : PySem.W.Frag} {mg : Str → Option Value} {base : Heap} {Φ : Phi} {k : Nat}
theorem phi_add {f : Fn} {a : Addr} {fd : FuncData} (ph : PhiOk Φ k P w K mg base) (g : f.Good) (F : FunD K f.name f.name f.params f.body f.scope [] [] a fd) (ga : mg f.name = some (.ref a)) : PhiOk (phiAdd Φ f) (k + 1) P w K mg base := by
  have B : Binds K fd f.ps [] := F.bindsN fun kV doc pm an cdv ct us h => g.bd kV doc pm an cdv ct us h
  have kp := F.kp
  obtain ⟨oc, od, dV, kV, doc, pm, an, cdv, ct, osl, efd, lk, hcd, hD, _⟩ := F.ex
  have edV : dV = .none := by
    rcases hD with ⟨_, e⟩ | ⟨e, _⟩
    · exact e
    · exact absurd rfl e
  subst edV
  have fg : FnG P w K mg base (k + 1) a fd f.ps (spOf K mg (f.mean Φ)) := by
    rw [efd]
    rw [efd] at lk
    exact def_sound ph lk hcd g.sc g.nl g.ck
  refine ⟨fun x m e => ?_, fun x np ks ds m e1 e2 => ?_, ph.gl, ph.bn⟩
  · by_cases q : x = f.name
    · have e : (if x = f.name then some (f.mean Φ) else Φ.fn x) = some m := e
      rw [if_pos q] at e
      cases e
      exact ⟨a, fd, f.ps, by rw [q]; exact ga, kp, fg, B⟩
    · have e : (if x = f.name then some (f.mean Φ) else Φ.fn x) = some m := e
      rw [if_neg q] at e
      obtain ⟨b, fd2, ps, h1, h2, h3, h4⟩ := ph.fn x m e
      exact ⟨b, fd2, ps, h1, h2, h3.mono (Nat.le_succ _), h4⟩
  · have e1 : (if x = f.name then some (f.mean Φ) else Φ.fn x) = some m := e1
    have e2 : (if x = f.name then (if f.kwc = true ∧ np = 0 ∧ ks = f.ps then some [] else none) else Φ.kw x np ks) = some ds := e2
    by_cases q : x = f.name
    · rw [if_pos q] at e1 e2
      cases e1
      split at e2
      · rename_i h
        obtain ⟨h1, h2, h3⟩ := h
        cases e2
        refine ⟨a, fd, f.ps, [], [], by rw [q]; exact ga, kp, fg, .nil, fun _ => rfl, fun s us ws _ l1 l2 _ => ?_⟩
        subst h2 h3
        have eu : us = [] := List.eq_nil_of_length_eq_zero l1
        subst eu
        rw [List.nil_append, List.append_nil, efd]
        exact .of_eq (g.kb h1 kV doc pm an cdv ct ws l2)
      · cases e2
    · rw [if_neg q] at e1 e2
      obtain ⟨b, fd2, ps, dv, dvs, h1, h2, h3, h4, h5, h6⟩ := ph.kw x np ks ds m e1 e2
      exact ⟨b, fd2, ps, dv, dvs, h1, h2, h3.mono (Nat.le_succ _), h4, h5, h6⟩
theorem phi_all : ∀ {fs : List Fn} {Φ : Phi} {k : Nat}, PhiOk Φ k P w K mg base → (∀ f ∈ fs, f.Good ∧ ∃ a fd, FunD K f.name f.name f.params f.body f.scope [] [] a fd ∧ mg f.name = some (.ref a)) → PhiOk (phiAll Φ fs) (k + fs.length) P w K mg base
  | [], _, _, ph, _ => ph
  | f :: fs, Φ, k, ph, h => by
    obtain ⟨g, a, fd, F, ga⟩ := h f List.mem_cons_self
    have := phi_all (fs := fs) (phi_add ph g F ga) fun x hx => h x (List.mem_cons_of_mem _ hx)
    rw [List.length_cons, Nat.add_comm fs.length 1, ← Nat.add_assoc]
    exact this
end
/-- the head's questions: the defs stand at their names, the builtins' names are free -/
def faOf (fs : List Fn) : List He.Fa := fs.map (fun f => .glo f.name) ++ bnames.map .free
def phi0 (gl : Str → Option D) : Phi := ⟨fun _ => none, fun _ _ => none, fun _ => none, gl, fun _ _ _ => none, fun _ => none, fun _ _ => false⟩
theorem law_facts {P : Program} {w : World} {K : PySem.W.Frag} {h : Heap} {mg : Str → Option Value} {fa : Addr} {fs : List Fn} {law : Fn} {x : Str} {mx : Nat} {more : List He.Fa} {gl : Str → Option D}
    (X : K.In h) (G : h.Ns mainGlobals mg) (c : He.SaysD (faOf (fs ++ [law]) ++ more) ((fs ++ [law]).map Fn.dd) K) (hfa : mg law.name = some (.ref fa)) (hx : law.ps = [x])
    (good : ∀ f ∈ fs ++ [law], f.Good) (hgl : (∀ f ∈ more, f.ok K = true) → ∀ x d, gl x = some d → ∃ u v, mg x = some u ∧ RelV v u ∧ ∀ G, RF K mg G d v)
    (run : ∀ ns : List Int, ns.length ≤ mx → LawOk (phiAll (phi0 gl) fs) law.n law.m law.sem ns) :
    ∃ fd : FuncData, (∀ (s : Shared) (u : Value), BindsTo s fd ⟨[u], []⟩ [(x, u)]) ∧ ∀ base : Heap, K.In base → base.Ns mainGlobals mg → FnG P w K mg base (fs.length + 1) fa fd [x] (spLaw K mx) := by
  have fnd : ∀ f ∈ fs ++ [law], ∃ a fd, FunD K f.name f.name f.params f.body f.scope [] [] a fd ∧ mg f.name = some (.ref a) := fun f hf => by
    obtain ⟨fd, F⟩ := c.defs (d := f.dd) (List.mem_map.mpr ⟨f, hf, rfl⟩)
    exact ⟨_, fd, F, He.glo_ok X G (c.facts (f := .glo f.name) (List.mem_append_left _ (List.mem_append_left _ (List.mem_map.mpr ⟨f, hf, rfl⟩))))⟩
  have hl : law ∈ fs ++ [law] := List.mem_append_right _ List.mem_cons_self
  obtain ⟨a, fd, F, ga⟩ := fnd law hl
  rw [hfa] at ga
  cases ga
  have g := good law hl
  refine ⟨fd, fun s u => ?_, fun base _ _ => ?_⟩
  · have b := F.bindsA (ps := law.ps) g.bd s [u] (by rw [hx]; rfl)
    rw [hx] at b
    exact b
  · have p0 : PhiOk (phi0 gl) 0 P w K mg base := ⟨fun _ _ e => (nomatch e), fun _ _ _ _ _ e => (nomatch e), hgl fun f hf => c.facts (List.mem_append_right _ hf), fun y hy => He.free_ok X G (c.facts (f := .free y) (List.mem_append_left _ (List.mem_append_right _ (List.mem_map.mpr ⟨y, hy, rfl⟩))))⟩
    have ph := phi_all p0 fun f hf => ⟨good f (List.mem_append_left _ hf), fnd f (List.mem_append_left _ hf)⟩
    rw [Nat.zero_add] at ph
    obtain ⟨oc, od, dV, kV, doc, pm, an, cdv, ct, osl, efd, lk, hcd, hD, _⟩ := F.ex
    rw [efd]
    rw [efd] at lk
    have sc := g.sc
    have nl := g.nl
    rw [hx] at sc nl
    exact law_sound ph lk hcd sc nl g.ck run
end Vi
end
section
set_option Elab.async false
set_option linter.all false
set_option maxRecDepth 100000
set_option maxHeartbeats 1000000
/-! Vi28: the reading without functions inside, so that simp runs it from the left (words ending in K: what goes on with a result). -/
namespace Vi
open PySem PySem.Spec PyProof.Rows L2
section
variable (Φ : Phi) (n : Nat) (env : Env)
/-- a value as it is looked at | kept -/
def lookK (r : R RV) : R D := r.look fun x τ => .ok x τ
def keptK (r : R RV) : R D := r.kept fun x τ => .ok x τ
def binK (o : Bop) (b : E) (r : R D) : R RV := r.bind fun x τ => (evalE Φ b env τ).look fun y τ => R.of (binop o x y) τ
def binK2 (o : Bop) (x : D) (r : R D) : R RV := r.bind fun y τ => R.of (binop o x y) τ
def negK (r : R D) : R RV := r.bind fun x τ => match x with
  | .int i => .ok (.fz (.int (-i))) τ
  | _ => .stuck
def cmpK (o : Cop) (b : E) (r : R D) : R RV := r.bind fun x τ => (evalE Φ b env τ).look fun y τ => R.of ((cmpop o x y).map fun k => RV.fz (.bl k)) τ
def cmpK2 (o : Cop) (x : D) (r : R D) : R RV := r.bind fun y τ => R.of ((cmpop o x y).map fun k => RV.fz (.bl k)) τ
def chK (o p : Cop) (b c : E) (r : R D) : R RV := r.bind fun x τ => (evalE Φ b env τ).look fun y τ => match cmpop o x y with
    | some true => (evalE Φ c env τ).look fun z τ => R.of ((cmpop p y z).map fun k => RV.fz (.bl k)) τ
    | some false => .ok (.fz (.bl false)) τ
    | none => .stuck
def chK2 (o p : Cop) (x : D) (c : E) (r : R D) : R RV := r.bind fun y τ => match cmpop o x y with
    | some true => (evalE Φ c env τ).look fun z τ => R.of ((cmpop p y z).map fun k => RV.fz (.bl k)) τ
    | some false => .ok (.fz (.bl false)) τ
    | none => .stuck
def chK3 (p : Cop) (y : D) (c : E) (τ : List D) (b : Option Bool) : R RV := match b with
    | some true => (evalE Φ c env τ).look fun z τ => R.of ((cmpop p y z).map fun k => RV.fz (.bl k)) τ
    | some false => .ok (.fz (.bl false)) τ
    | none => .stuck
def notK (r : R D) : R RV := r.bind fun x τ => match x with
  | .bl k => .ok (.fz (.bl (!k))) τ
  | _ => .stuck
def andK (b : E) (r : R D) : R RV := r.bind fun x τ => match x with
  | .bl true => evalE Φ b env τ
  | .bl false => .ok (.fz (.bl false)) τ
  | _ => .stuck
def orK (b : E) (r : R D) : R RV := r.bind fun x τ => match x with
  | .bl false => evalE Φ b env τ
  | .bl true => .ok (.fz (.bl true)) τ
  | _ => .stuck
def iteK (a b : E) (r : R D) : R RV := r.bind fun x τ => match x with
  | .bl true => evalE Φ a env τ
  | .bl false => evalE Φ b env τ
  | _ => .stuck
def limK (ds : Option (List D)) (f : List D → RV) (τ : List D) : R RV := match ds with
  | some ds => if ds.length ≤ LIM then .ok (f ds) τ else .stuck
  | none => .stuck
def tupK (r : R (List RV)) : R RV := r.bind fun vs τ => match keepsOf vs with
  | some ds => if ds.length ≤ LIM then .ok (.fz (.tup ds)) τ else .stuck
  | none => .stuck
def lstK (r : R (List RV)) : R RV := r.bind fun vs τ => match keepsOf vs with
  | some ds => if ds.length ≤ LIM then .ok (.own (.lst ds)) τ else .stuck
  | none => .stuck
def esK (es : Es) (r : R RV) : R (List RV) := r.bind fun v τ => (evalEs Φ es env τ).bind fun vs τ => .ok (v :: vs) τ
def esK2 (v : RV) (r : R (List RV)) : R (List RV) := r.bind fun vs τ => .ok (v :: vs) τ
def biK (b : Bi) (r : R (List RV)) : R RV := r.bind fun vs τ => match dsOf vs with
  | some ds => R.of (biop b ds) τ
  | none => .stuck
def outK (o : SOut) : R RV := match o with
  | .ok r _ τ => .ok r τ
  | .exc c fs _ τ => .exc c fs τ
  | .stuck => .stuck
def callK (m : Option Sem) (r : R (List RV)) : R RV := match m with
  | none => .stuck
  | some m => r.bind fun vs τ => match m (vs.map RV.slot) τ with
      | .ok r _ τ => .ok r τ
      | .exc c fs _ τ => .exc c fs τ
      | .stuck => .stuck
def kwK (m : Option Sem) (ds : Option (List D)) (r : R (List RV)) : R RV := match m with
  | none => .stuck
  | some m => match ds with
    | none => .stuck
    | some ds => r.bind fun vs τ => match m (vs.map RV.slot ++ ds.map Slot.fz) τ with
      | .ok r _ τ => .ok r τ
      | .exc c fs _ τ => .exc c fs τ
      | .stuck => .stuck
/-- a[i] -/
def ixK (i : E) (r : R RV) : R RV := r.bind fun v τ => (evalE Φ i env τ).look fun y τ => match v with
    | .ro (.lsto cs) => match y with
      | .int k => R.of ((atI cs k).map fun c => match c with | .fz d => RV.fz d | c => RV.ro c) τ
      | _ => .stuck
    | v => match v.d with
      | some .hand => match y with
        | .int k => R.of ((atI τ k).map RV.fz) τ
        | _ => .stuck
      | some x => R.of ((ixop x y).map RV.fz) τ
      | none => .stuck
def ixK2 (v : RV) (r : R D) : R RV := r.bind fun y τ => match v with
    | .ro (.lsto cs) => match y with
      | .int k => R.of ((atI cs k).map fun c => match c with | .fz d => RV.fz d | c => RV.ro c) τ
      | _ => .stuck
    | v => match v.d with
      | some .hand => match y with
        | .int k => R.of ((atI τ k).map RV.fz) τ
        | _ => .stuck
      | some x => R.of ((ixop x y).map RV.fz) τ
      | none => .stuck
def slK (lo hi : Oe) (r : R D) : R RV := r.bind fun x τ => (evalO Φ lo env τ).bind fun l τ => (evalO Φ hi env τ).bind fun h τ => R.of (slop x l h) τ
def slK2 (x : D) (hi : Oe) (r : R (Option Int)) : R RV := r.bind fun l τ => (evalO Φ hi env τ).bind fun h τ => R.of (slop x l h) τ
def slK3 (x : D) (l : Option Int) (r : R (Option Int)) : R RV := r.bind fun h τ => R.of (slop x l h) τ
def oK (r : R D) : R (Option Int) := r.bind fun x τ => match x with
    | .int i => .ok (some i) τ
    | _ => .stuck
def getK (k x : E) (r : R D) : R RV := r.bind fun d τ => if d.isDict then (evalE Φ k env τ).look fun y τ => (evalE Φ x env τ).kept fun z τ => R.of ((dgetop d y z).map RV.fz) τ else .stuck
def getK2 (d : D) (x : E) (r : R D) : R RV := r.bind fun y τ => (evalE Φ x env τ).kept fun z τ => R.of ((dgetop d y z).map RV.fz) τ
def getK3 (d y : D) (r : R D) : R RV := r.bind fun z τ => R.of ((dgetop d y z).map RV.fz) τ
def revK (r : R D) : R RV := r.bind fun x τ => R.of (revop x) τ
def isinK (ts : List Str) (r : R RV) : R RV := r.bind fun v τ => R.of ((isTys v ts).map fun k => RV.fz (.bl k)) τ
def fznK (r : R RV) : R RV := r.kept fun d τ => .ok (.fz d) τ
variable {Φ n env} {τ : List D} {a b c e x k i : E} {es : Es} {o p : Cop} {q : Bop} {f : Str} {lo hi : Oe}
theorem look_two {r : R RV} {β : Type} {g : D → List D → R β} : r.look g = (lookK r).bind g := by
  cases r with
  | ok v τ =>
    show (match v.d with | some d => g d τ | none => .stuck) = (match v.d with | some d => R.ok d τ | none => .stuck).bind g
    cases v.d <;> rfl
  | exc _ _ _ => rfl
  | stuck => rfl
theorem kept_two {r : R RV} {β : Type} {g : D → List D → R β} : r.kept g = (keptK r).bind g := by
  cases r with
  | ok v τ =>
    show (match v.keep with | some d => g d τ | none => .stuck) = (match v.keep with | some d => R.ok d τ | none => .stuck).bind g
    cases v.keep <;> rfl
  | exc _ _ _ => rfl
  | stuck => rfl
@[simp] theorem ev_bin : evalE Φ (.bin q a b) env τ = binK Φ env q b (lookK (evalE Φ a env τ)) := by rw [evalE, look_two]; rfl
@[simp] theorem ev_neg : evalE Φ (.neg a) env τ = negK (lookK (evalE Φ a env τ)) := by rw [evalE, look_two]; rfl
@[simp] theorem ev_cmp : evalE Φ (.cmp o a b) env τ = cmpK Φ env o b (lookK (evalE Φ a env τ)) := by rw [evalE, look_two]; rfl
@[simp] theorem ev_ch : evalE Φ (.chain o p a b c) env τ = chK Φ env o p b c (lookK (evalE Φ a env τ)) := by rw [evalE, look_two]; rfl
@[simp] theorem ev_not : evalE Φ (.not a) env τ = notK (lookK (evalE Φ a env τ)) := by rw [evalE, look_two]; rfl
@[simp] theorem ev_and : evalE Φ (.and a b) env τ = andK Φ env b (lookK (evalE Φ a env τ)) := by rw [evalE, look_two]; rfl
@[simp] theorem ev_or : evalE Φ (.or a b) env τ = orK Φ env b (lookK (evalE Φ a env τ)) := by rw [evalE, look_two]; rfl
@[simp] theorem ev_ite : evalE Φ (.ife c a b) env τ = iteK Φ env a b (lookK (evalE Φ c env τ)) := by rw [evalE, look_two]; rfl
@[simp] theorem ev_es : evalEs Φ (.cons e es) env τ = esK Φ env es (evalE Φ e env τ) := by rw [evalEs]; rfl
@[simp] theorem ev_nil : evalEs Φ .nil env τ = .ok [] τ := by rw [evalEs]
@[simp] theorem ev_bi {b : Bi} : evalE Φ (.bi b es) env τ = biK b (evalEs Φ es env τ) := by rw [evalE]; rfl
@[simp] theorem ev_call : evalE Φ (.call f es) env τ = callK (Φ.fn f) (evalEs Φ es env τ) := by rw [evalE]; rfl
@[simp] theorem ev_kw {np : Nat} {ks : List Str} : evalE Φ (.callk f np ks es) env τ = kwK (Φ.fn f) (Φ.kw f np ks) (evalEs Φ es env τ) := by rw [evalE]; rfl
@[simp] theorem ev_tup : evalE Φ (.tup es) env τ = tupK (evalEs Φ es env τ) := by rw [evalE]; rfl
@[simp] theorem ev_lst : evalE Φ (.lst es) env τ = lstK (evalEs Φ es env τ) := by rw [evalE]; rfl
@[simp] theorem ev_ix : evalE Φ (.ix a i) env τ = ixK Φ env i (evalE Φ a env τ) := by rw [evalE]; rfl
@[simp] theorem ev_sl : evalE Φ (.sl a lo hi) env τ = slK Φ env lo hi (lookK (evalE Φ a env τ)) := by rw [evalE, look_two]; rfl
@[simp] theorem ev_ono : evalO Φ .no env τ = .ok none τ := by rw [evalO]
@[simp] theorem ev_oyes : evalO Φ (.yes a) env τ = oK (lookK (evalE Φ a env τ)) := by rw [evalO, look_two]; rfl
@[simp] theorem ev_get : evalE Φ (.dget a k x) env τ = getK Φ env k x (lookK (evalE Φ a env τ)) := by rw [evalE, look_two]; rfl
@[simp] theorem ev_rev : evalE Φ (.rev a) env τ = revK (lookK (evalE Φ a env τ)) := by rw [evalE, look_two]; rfl
@[simp] theorem ev_isin {ts : List Str} : evalE Φ (.isin a ts) env τ = isinK ts (evalE Φ a env τ) := by rw [evalE]; rfl
@[simp] theorem ev_fzn : evalE Φ (.fzn a) env τ = fznK (evalE Φ a env τ) := by rw [evalE]; rfl
@[simp] theorem ev_int {i : Int} : evalE Φ (.int i) env τ = .ok (.fz (.int i)) τ := by rw [evalE]
@[simp] theorem ev_bl {b : Bool} : evalE Φ (.bl b) env τ = .ok (.fz (.bl b)) τ := by rw [evalE]
@[simp] theorem ev_non : evalE Φ .non env τ = .ok (.fz .non) τ := by rw [evalE]
@[simp] theorem ev_str {x : Str} : evalE Φ (.str x) env τ = .ok (.fz (.str x)) τ := by rw [evalE]
@[simp] theorem ev_dT : evalE Φ .dnewT env τ = .ok (.own (.dT [])) τ := by rw [evalE]
@[simp] theorem ev_dK : evalE Φ .dnewK env τ = .ok (.own (.dK [])) τ := by rw [evalE]
end
end Vi
end
section
set_option Elab.async false
set_option linter.all false
set_option maxRecDepth 100000
set_option maxHeartbeats 1000000
/-! Vi29: how the words ending in K go on; statements. -/
namespace Vi
open PySem PySem.Spec PyProof.Rows L2
section
variable {Φ : Phi} {n : Nat} {env : Env} {τ τ' : List D} {a b c e x k i : E} {es : Es} {o p : Cop} {q : Bop} {f : Str} {lo hi : Oe} {d d' : D} {v : RV} {vs : List RV} {kv : List (Key × D)} {kt : List (List Key × D)} {xs : List D} {cl : Cell}
def varK (τ : List D) (s : Option Slot) : R RV := match s with
    | some (.fz d) => .ok (.fz d) τ
    | some (.own c) => .ok (.ro c) τ
    | some (.ro c) => .ok (.ro c) τ
    | _ => .stuck
@[simp] theorem ev_var {i : Nat} : evalE Φ (.var i) env τ = varK τ env[i]? := by rw [evalE]; rfl
@[simp] theorem ev_glb : evalE Φ (.glb f) env τ = R.of ((Φ.gl f).map RV.fz) τ := by rw [evalE]
@[simp] theorem kr_var1 : varK τ (some (.fz d)) = .ok (.fz d) τ := (rfl)
@[simp] theorem kr_var2 : varK τ (some (.own cl)) = .ok (.ro cl) τ := (rfl)
@[simp] theorem kr_var3 : varK τ (some (.ro cl)) = .ok (.ro cl) τ := (rfl)
@[simp] theorem kr_look1 : lookK (.ok (.fz d) τ) = .ok d τ := (rfl)
@[simp] theorem kr_look2 : lookK (.ok (.own (.lst xs)) τ) = .ok (.lst xs) τ := (rfl)
@[simp] theorem kr_look3 : lookK (.ok (.ro (.lst xs)) τ) = .ok (.lst xs) τ := (rfl)
@[simp] theorem kr_look4 : lookK (.ok (.own (.dT kt)) τ) = .ok (.dT kt) τ := (rfl)
@[simp] theorem kr_look5 : lookK (.ok (.ro (.dT kt)) τ) = .ok (.dT kt) τ := (rfl)
@[simp] theorem kr_look6 : lookK (.ok (.own (.dK kv)) τ) = .ok (.dK kv) τ := (rfl)
@[simp] theorem kr_look7 : lookK (.ok (.ro (.dK kv)) τ) = .ok (.dK kv) τ := (rfl)
@[simp] theorem kr_kept1 : keptK (.ok (.fz d) τ) = .ok d τ := (rfl)
@[simp] theorem kr_kept2 : keptK (.ok (.own cl) τ) = .ok cl.frz τ := (rfl)
@[simp] theorem kr_of {α : Type} {y : α} : R.of (some y) τ = .ok y τ := (rfl)
@[simp] theorem kr_bin : binK Φ env q b (.ok d τ) = binK2 q d (lookK (evalE Φ b env τ)) := by show (evalE Φ b env τ).look _ = _; rw [look_two]; rfl
@[simp] theorem kr_bin2 : binK2 q d (.ok d' τ) = R.of (binop q d d') τ := (rfl)
@[simp] theorem kr_neg {i : Int} : negK (.ok (.int i) τ) = .ok (.fz (.int (-i))) τ := (rfl)
@[simp] theorem kr_cmp : cmpK Φ env o b (.ok d τ) = cmpK2 o d (lookK (evalE Φ b env τ)) := by show (evalE Φ b env τ).look _ = _; rw [look_two]; rfl
@[simp] theorem kr_cmp2 : cmpK2 o d (.ok d' τ) = R.of ((cmpop o d d').map fun k => RV.fz (.bl k)) τ := (rfl)
@[simp] theorem kr_not {k : Bool} : notK (.ok (.bl k) τ) = .ok (.fz (.bl (!k))) τ := (rfl)
@[simp] theorem kr_and1 : andK Φ env b (.ok (.bl true) τ) = evalE Φ b env τ := (rfl)
@[simp] theorem kr_and2 : andK Φ env b (.ok (.bl false) τ) = .ok (.fz (.bl false)) τ := (rfl)
@[simp] theorem kr_or1 : orK Φ env b (.ok (.bl false) τ) = evalE Φ b env τ := (rfl)
@[simp] theorem kr_or2 : orK Φ env b (.ok (.bl true) τ) = .ok (.fz (.bl true)) τ := (rfl)
@[simp] theorem kr_ite1 : iteK Φ env a b (.ok (.bl true) τ) = evalE Φ a env τ := (rfl)
@[simp] theorem kr_ite2 : iteK Φ env a b (.ok (.bl false) τ) = evalE Φ b env τ := (rfl)
@[simp] theorem kr_ch : chK Φ env o p b c (.ok d τ) = chK2 Φ env o p d c (lookK (evalE Φ b env τ)) := by
  show (evalE Φ b env τ).look _ = _
  rw [look_two]; rfl
@[simp] theorem kr_ch2 : chK2 Φ env o p d c (.ok d' τ) = chK3 Φ env p d' c τ (cmpop o d d') := by
  show (match cmpop o d d' with
    | some true => (evalE Φ c env τ).look fun z τ => R.of ((cmpop p d' z).map fun k => RV.fz (.bl k)) τ
    | some false => .ok (.fz (.bl false)) τ
    | none => .stuck) = _
  rfl
@[simp] theorem kr_ch3 : chK3 Φ env p d' c τ (some true) = cmpK2 p d' (lookK (evalE Φ c env τ)) := by
  show (evalE Φ c env τ).look _ = _
  rw [look_two]; rfl
@[simp] theorem kr_ch4 : chK3 Φ env p d' c τ (some false) = .ok (.fz (.bl false)) τ := (rfl)
@[simp] theorem kr_es : esK Φ env es (.ok v τ) = esK2 v (evalEs Φ es env τ) := (rfl)
@[simp] theorem kr_es2 : esK2 v (.ok vs τ) = .ok (v :: vs) τ := (rfl)
def bi2 (b : Bi) (τ : List D) (ds : Option (List D)) : R RV := match ds with
  | some ds => R.of (biop b ds) τ
  | none => .stuck
@[simp] theorem kr_bi {b : Bi} : biK b (.ok vs τ) = bi2 b τ (dsOf vs) := (rfl)
@[simp] theorem kr_bi2 {b : Bi} {ds : List D} : bi2 b τ (some ds) = R.of (biop b ds) τ := (rfl)
@[simp] theorem kr_call {m : Sem} : callK (some m) (.ok vs τ) = outK (m (vs.map RV.slot) τ) := (rfl)
@[simp] theorem kr_out {outs : List Slot} : outK (.ok v outs τ) = .ok v τ := (rfl)
@[simp] theorem kr_kw {m : Sem} {ds : List D} : kwK (some m) (some ds) (.ok vs τ) = outK (m (vs.map RV.slot ++ ds.map Slot.fz) τ) := (rfl)
def keep2 (τ : List D) (own : Bool) (ds : Option (List D)) : R RV := match ds with
  | some ds => if ds.length ≤ LIM then .ok (if own = true then .own (.lst ds) else .fz (.tup ds)) τ else .stuck
  | none => .stuck
@[simp] theorem kr_tup : tupK (.ok vs τ) = keep2 τ false (keepsOf vs) := (rfl)
@[simp] theorem kr_lst : lstK (.ok vs τ) = keep2 τ true (keepsOf vs) := (rfl)
@[simp] theorem kr_keep1 (h : xs.length ≤ LIM) : keep2 τ false (some xs) = .ok (.fz (.tup xs)) τ := by unfold keep2; simp only [if_pos h]; rfl
@[simp] theorem kr_keep2 (h : xs.length ≤ LIM) : keep2 τ true (some xs) = .ok (.own (.lst xs)) τ := by unfold keep2; simp only [if_pos h]; rfl
@[simp] theorem kr_ix : ixK Φ env i (.ok v τ) = ixK2 v (lookK (evalE Φ i env τ)) := by
  show (evalE Φ i env τ).look _ = _
  rw [look_two]; rfl
@[simp] theorem kr_ixh {k : Int} : ixK2 (.fz .hand) (.ok (.int k) τ) = R.of ((atI τ k).map RV.fz) τ := (rfl)
@[simp] theorem kr_ix1 : ixK2 (.fz (.tup xs)) (.ok d τ) = R.of ((ixop (.tup xs) d).map RV.fz) τ := (rfl)
@[simp] theorem kr_ix2 : ixK2 (.fz (.lst xs)) (.ok d τ) = R.of ((ixop (.lst xs) d).map RV.fz) τ := (rfl)
@[simp] theorem kr_ix3 : ixK2 (.fz (.ptup xs)) (.ok d τ) = R.of ((ixop (.ptup xs) d).map RV.fz) τ := (rfl)
@[simp] theorem kr_ix4 : ixK2 (.own (.lst xs)) (.ok d τ) = R.of ((ixop (.lst xs) d).map RV.fz) τ := (rfl)
@[simp] theorem kr_ix5 : ixK2 (.ro (.lst xs)) (.ok d τ) = R.of ((ixop (.lst xs) d).map RV.fz) τ := (rfl)
@[simp] theorem kr_ix6 : ixK2 (.ro (.dT kt)) (.ok d τ) = R.of ((ixop (.dT kt) d).map RV.fz) τ := (rfl)
@[simp] theorem kr_ix7 : ixK2 (.fz (.dT kt)) (.ok d τ) = R.of ((ixop (.dT kt) d).map RV.fz) τ := (rfl)
@[simp] theorem kr_ix8 : ixK2 (.ro (.dK kv)) (.ok d τ) = R.of ((ixop (.dK kv) d).map RV.fz) τ := (rfl)
@[simp] theorem kr_ix9 : ixK2 (.fz (.dK kv)) (.ok d τ) = R.of ((ixop (.dK kv) d).map RV.fz) τ := (rfl)
@[simp] theorem kr_ixs {ns : List Int} : ixK2 (.fz (.scr ns)) (.ok d τ) = R.of ((ixop (.scr ns) d).map RV.fz) τ := (rfl)
@[simp] theorem kr_sl : slK Φ env lo hi (.ok d τ) = slK2 Φ env d hi (evalO Φ lo env τ) := (rfl)
@[simp] theorem kr_sl2 {l : Option Int} : slK2 Φ env d hi (.ok l τ) = slK3 d l (evalO Φ hi env τ) := (rfl)
@[simp] theorem kr_sl3 {l h : Option Int} : slK3 d l (.ok h τ) = R.of (slop d l h) τ := (rfl)
@[simp] theorem kr_o {i : Int} : oK (.ok (.int i) τ) = .ok (some i) τ := (rfl)
@[simp] theorem kr_get (h : d.isDict = true) : getK Φ env k x (.ok d τ) = getK2 Φ env d x (lookK (evalE Φ k env τ)) := by
  show (if d.isDict then (evalE Φ k env τ).look _ else .stuck) = _
  rw [if_pos h, look_two]; rfl
@[simp] theorem kr_get2 : getK2 Φ env d x (.ok d' τ) = getK3 d d' (keptK (evalE Φ x env τ)) := by
  show (evalE Φ x env τ).kept _ = _
  rw [kept_two]; rfl
@[simp] theorem kr_get3 {z : D} : getK3 d d' (.ok z τ) = R.of ((dgetop d d' z).map RV.fz) τ := (rfl)
@[simp] theorem kr_rev : revK (.ok d τ) = R.of (revop d) τ := (rfl)
@[simp] theorem kr_isin {ts : List Str} : isinK ts (.ok v τ) = R.of ((isTys v ts).map fun k => RV.fz (.bl k)) τ := (rfl)
@[simp] theorem kr_fzn1 : fznK (.ok (.fz d) τ) = .ok (.fz d) τ := (rfl)
@[simp] theorem kr_fzn2 : fznK (.ok (.own cl) τ) = .ok (.fz cl.frz) τ := (rfl)
end
/-! ### statements -/
section
variable {Φ : Phi} {n : Nat} {env env' : Env} {τ τ' : List D} {a b c e x k i : E} {es : Es} {d d' : D} {v : RV} {r : Ss} {cl : Cell} {tg : Tg}
def thenK (Φ : Phi) (n : Nat) (r : Ss) (o : Out) : Out := o.then fun env τ => execs Φ n r env τ
@[simp] theorem ex_cons {s : S} : execs Φ n (.cons s r) env τ = thenK Φ n r (exec Φ n s env τ) := by rw [execs]; rfl
@[simp] theorem ex_nil : execs Φ n .nil env τ = .next env τ := by rw [execs]
@[simp] theorem kr_then1 : thenK Φ n r (.next env τ) = execs Φ n r env τ := (rfl)
@[simp] theorem kr_then2 : thenK Φ n r (.ret v env τ) = .ret v env τ := (rfl)
@[simp] theorem kr_then3 : thenK Φ n r (.cnt env τ) = .cnt env τ := (rfl)
@[simp] theorem kr_then4 : thenK Φ n r (.brk env τ) = .brk env τ := (rfl)
def asgK (i : Nat) (env : Env) (r : R RV) : Out := Out.of r env fun v τ => match v with
      | .fz d => .next (env.set i (.fz d)) τ
      | .own c => .next (env.set i (.own c)) τ
      | .ro _ => .stuck
@[simp] theorem ex_asg {i : Nat} : exec Φ n (.asg (.name i) e) env τ = asgK i env (evalE Φ e env τ) := by rw [exec]; rfl
@[simp] theorem kr_asg1 {i : Nat} : asgK i env (.ok (.fz d) τ) = .next (env.set i (.fz d)) τ := (rfl)
@[simp] theorem kr_asg2 {i : Nat} : asgK i env (.ok (.own cl) τ) = .next (env.set i (.own cl)) τ := (rfl)
def outD (env : Env) (r : R D) (f : D → List D → Out) : Out := Out.of r env f
def iffK (Φ : Phi) (n : Nat) (env : Env) (a b : Ss) (r : R D) : Out := Out.of r env fun d τ => match d with
    | .bl true => execs Φ n a env τ
    | .bl false => execs Φ n b env τ
    | _ => .stuck
theorem out_two {r : R RV} {g : RV → List D → Out} {h : D → List D → Out} (e : ∀ v τ, g v τ = match v.d with | some d => h d τ | none => .stuck) : Out.of r env g = Out.of (lookK r) env h := by
  cases r with
  | ok v τ =>
    show g v τ = Out.of (match v.d with | some d => R.ok d τ | none => .stuck) env h
    rw [e]
    cases v.d <;> rfl
  | exc _ _ _ => rfl
  | stuck => rfl
@[simp] theorem ex_iff {a b : Ss} : exec Φ n (.iff c a b) env τ = iffK Φ n env a b (lookK (evalE Φ c env τ)) := by
  rw [exec]
  refine out_two fun v τ => ?_
  cases v.d with
  | none => rfl
  | some d => cases d <;> first | rfl | (rename_i b; cases b <;> rfl)
@[simp] theorem kr_iff1 {a b : Ss} : iffK Φ n env a b (.ok (.bl true) τ) = execs Φ n a env τ := (rfl)
@[simp] theorem kr_iff2 {a b : Ss} : iffK Φ n env a b (.ok (.bl false) τ) = execs Φ n b env τ := (rfl)
def retK (env : Env) (r : R RV) : Out := Out.of r env fun v τ => match v with
      | .ro _ => .stuck
      | v => .ret v env τ
def notVar : E → Bool
  | .var _ => false
  | _ => true
theorem ex_ret (h : notVar e = true) : exec Φ n (.ret e) env τ = retK env (evalE Φ e env τ) := by
  cases e <;> first | (cases h; done) | (rw [exec] <;> first | rfl | (intro i z; cases z))
def retvK (env : Env) (i : Nat) (τ : List D) (s : Option Slot) : Out := match s with
      | some (.own c) => .ret (.own c) (env.set i .un) τ
      | some (.fz d) => .ret (.fz d) env τ
      | _ => .stuck
@[simp] theorem ex_retv {i : Nat} : exec Φ n (.ret (.var i)) env τ = retvK env i τ env[i]? := by rw [exec]; rfl
@[simp] theorem kr_retv1 {i : Nat} : retvK env i τ (some (.own cl)) = .ret (.own cl) (env.set i .un) τ := (rfl)
@[simp] theorem kr_retv2 {i : Nat} : retvK env i τ (some (.fz d)) = .ret (.fz d) env τ := (rfl)
@[simp] theorem kr_ret1 : retK env (.ok (.fz d) τ) = .ret (.fz d) env τ := (rfl)
@[simp] theorem kr_ret2 : retK env (.ok (.own cl) τ) = .ret (.own cl) env τ := (rfl)
@[simp] theorem ex_retN : exec Φ n .retN env τ = .ret (.fz .non) env τ := by rw [exec]
@[simp] theorem ex_brk : exec Φ n .brk env τ = .brk env τ := by rw [exec]
@[simp] theorem ex_cnt : exec Φ n .cnt env τ = .cnt env τ := by rw [exec]
@[simp] theorem ex_pass : exec Φ n .pass env τ = .next env τ := by rw [exec]
end
end Vi
end
section
set_option Elab.async false
set_option linter.all false
set_option maxRecDepth 100000
set_option maxHeartbeats 1000000
/-! Vi30: more statements; loops. -/
namespace Vi
open PySem PySem.Spec PyProof.Rows L2
section
variable {Φ : Phi} {n : Nat} {env env' : Env} {τ τ' : List D} {a b c e x k i : E} {es : Es} {d d' : D} {v : RV} {r : Ss} {cl : Cell} {tg : Tg} {xs : List D}
def asgtK (tg : Tg) (env : Env) (r : R RV) : Out := Out.of r env fun v τ => match v with
      | .fz d => match bindT tg d env with
        | some env' => .next env' τ
        | none => .stuck
      | _ => .stuck
def nextO (τ : List D) (o : Option Env) : Out := match o with
  | some env' => .next env' τ
  | none => .stuck
@[simp] theorem ex_asgt {ts : Tgs} : exec Φ n (.asg (.tup ts) e) env τ = asgtK (.tup ts) env (evalE Φ e env τ) := by rw [exec]; rfl
@[simp] theorem kr_asgt : asgtK tg env (.ok (.fz d) τ) = nextO τ (bindT tg d env) := (rfl)
@[simp] theorem kr_next : nextO τ (some env) = .next env τ := (rfl)
def mkK (i : Nat) (env : Env) (r : R RV) : Out := Out.of r env fun v τ => (match v with
      | .own (.lst (x :: xs)) => if τ.isEmpty then .next (env.set i (.fz .hand)) (x :: xs) else .stuck
      | _ => .stuck)
@[simp] theorem ex_mk {i : Nat} : exec Φ n (.mkhand i e) env [] = mkK i env (evalE Φ e env []) := by rw [exec]; rfl
@[simp] theorem kr_mk {i : Nat} {y : D} : mkK i env (.ok (.own (.lst (y :: xs))) []) = .next (env.set i (.fz .hand)) (y :: xs) := (rfl)
def keptO (env : Env) (r : R RV) : R D := match r with
  | .ok v τ => (match v.keep with
    | some d => .ok d τ
    | none => .stuck)
  | .exc c fs τ => .exc c fs τ
  | .stuck => .stuck
def putK1 (Φ : Phi) (env : Env) (p : Pl) (k : E) (r : R D) : Out := Out.of r env fun x τ => if hasS env p.ix then Out.of (evalE Φ k env τ) env fun kv τ => match kv.d with
      | none => .stuck
      | some k => putOut env p k x τ else .stuck
def putK2 (env : Env) (p : Pl) (x : D) (r : R D) : Out := Out.of r env fun k τ => putOut env p k x τ
@[simp] theorem ex_put {p : Pl} : exec Φ n (.put p k e) env τ = putK1 Φ env p k (keptK (evalE Φ e env τ)) := by
  rw [exec]
  cases evalE Φ e env τ with
  | ok v τ1 =>
    show (match v.keep with | none => .stuck | some x => _) = Out.of (match v.keep with | some d => R.ok d τ1 | none => .stuck) env _
    cases v.keep <;> rfl
  | exc _ _ _ => rfl
  | stuck => rfl
@[simp] theorem kr_put1 {p : Pl} (h : hasS env p.ix = true) : putK1 Φ env p k (.ok d τ) = putK2 env p d (lookK (evalE Φ k env τ)) := by
  show (if hasS env p.ix then Out.of (evalE Φ k env τ) env _ else .stuck) = _
  rw [if_pos h]
  refine out_two fun v τ => ?_
  cases v.d <;> rfl
@[simp] theorem kr_put2 {p : Pl} : putK2 env p d (.ok d' τ) = putOut env p d' d τ := (rfl)
def appK (env : Env) (p : Pl) (xs : List D) (r : R D) : Out := Out.of r env fun x τ => if xs.length < LIM then .next (setP env p (.lst (xs ++ [x]))) τ else .stuck
def appK0 (Φ : Phi) (env : Env) (p : Pl) (e : E) (τ : List D) (c : Option Cell) : Out := match c with
    | some (.lst xs) => Out.of (evalE Φ e env τ) env fun v τ => match v.keep with
      | none => .stuck
      | some x => if xs.length < LIM then .next (setP env p (.lst (xs ++ [x]))) τ else .stuck
    | _ => .stuck
@[simp] theorem ex_app {p : Pl} : exec Φ n (.app p e) env τ = appK0 Φ env p e τ (getP env p) := by rw [exec]; rfl
@[simp] theorem kr_app0 {p : Pl} : appK0 Φ env p e τ (some (.lst xs)) = appK env p xs (keptK (evalE Φ e env τ)) := by
  show Out.of (evalE Φ e env τ) env _ = _
  cases evalE Φ e env τ with
  | ok v τ1 =>
    show (match v.keep with | none => .stuck | some x => _) = Out.of (match v.keep with | some d => R.ok d τ1 | none => .stuck) env _
    cases v.keep <;> rfl
  | exc _ _ _ => rfl
  | stuck => rfl
@[simp] theorem kr_app {p : Pl} (h : xs.length < LIM) : appK env p xs (.ok d τ) = .next (setP env p (.lst (xs ++ [d]))) τ := by
  show (if xs.length < LIM then _ else _) = _
  rw [if_pos h]
@[simp] theorem ex_frz {i : Nat} : exec Φ n (.frz i) env τ = nextO τ (frzS env i) := by rw [exec]; rfl
@[simp] theorem ex_kill {is : List Nat} : exec Φ n (.kill is) env τ = .next (wipeE env is) τ := by rw [exec]
def augK0 (Φ : Phi) (env : Env) (i : Nat) (o : Bop) (e : E) (τ : List D) (s : Option Slot) : Out := match s with
    | some (.fz x) => Out.of (evalE Φ e env τ) env fun v τ => match v.d with
      | some y => match augop o x y with
        | some z => .next (env.set i (.fz z)) τ
        | _ => .stuck
      | none => .stuck
    | _ => .stuck
def augK (env : Env) (i : Nat) (o : Bop) (x : D) (r : R D) : Out := Out.of r env fun y τ => match augop o x y with
        | some z => .next (env.set i (.fz z)) τ
        | _ => .stuck
@[simp] theorem ex_aug {i : Nat} {o : Bop} : exec Φ n (.aug i o e) env τ = augK0 Φ env i o e τ env[i]? := by rw [exec]; rfl
@[simp] theorem kr_aug0 {i : Nat} {o : Bop} : augK0 Φ env i o e τ (some (.fz d)) = augK env i o d (lookK (evalE Φ e env τ)) := by
  refine out_two fun v τ => ?_
  cases v.d <;> rfl
@[simp] theorem kr_aug {i : Nat} {o : Bop} (h : augop o d d' = some xs') : augK env i o d (.ok d' τ) = .next (env.set i (.fz xs')) τ := by
  show (match augop o d d' with | some z => _ | _ => _) = _
  rw [h]
/-! ### loops -/
def turnS (Φ : Phi) (n : Nat) (tg : Tg) (b : Ss) (x : D) (env : Env) (τ : List D) : Out := match bindT tg x env with
        | some env => execs Φ n b env τ
        | none => .stuck
def forK (Φ : Phi) (n : Nat) (tg : Tg) (b : Ss) (env : Env) (r : R (List D)) : Out := Out.of r env fun xs τ => forL (turnS Φ n tg b) xs env τ
def forK0 (Φ : Phi) (n : Nat) (tg : Tg) (it : It) (b : Ss) (τ : List D) (env : Option Env) : Out := match env with
    | none => .stuck
    | some env => forK Φ n tg b env (evalJ Φ it env τ)
@[simp] theorem ex_for {it : It} {b : Ss} : exec Φ n (.for_ tg it b) env τ = forK0 Φ n tg it b τ (frzIt env it) := by rw [exec]; rfl
@[simp] theorem kr_for0 {it : It} {b : Ss} : forK0 Φ n tg it b τ (some env) = forK Φ n tg b env (evalJ Φ it env τ) := (rfl)
@[simp] theorem kr_for {b : Ss} : forK Φ n tg b env (.ok xs τ) = forL (turnS Φ n tg b) xs env τ := (rfl)
theorem kr_turn {b : Ss} (h : bindT tg d env = some env') : turnS Φ n tg b d env τ = execs Φ n b env' τ := by unfold turnS; rw [h]
theorem forL_inv {f : D → Env → List D → Out} {P : Out → Prop} : ∀ {xs : List D} {env : Env} {τ : List D} (I : Nat → Env → List D → Prop), I 0 env τ →
    (∀ (i : Nat) (x : D) (env : Env) (τ : List D), xs[i]? = some x → I i env τ → (∃ env' τ', (f x env τ = .next env' τ' ∨ f x env τ = .cnt env' τ') ∧ I (i + 1) env' τ') ∨ (∃ v env' τ', f x env τ = .ret v env' τ' ∧ P (.ret v env' τ')) ∨ ∃ env' τ', f x env τ = .brk env' τ' ∧ P (.next env' τ')) →
    (∀ env τ, I xs.length env τ → P (.next env τ)) → P (forL f xs env τ)
  | [], env, τ, I, h0, _, he => he env τ h0
  | x :: xs, env, τ, I, h0, hs, he => by
    have go : ∀ env' τ', I 1 env' τ' → P (forL f xs env' τ') := fun env' τ' h1 => forL_inv (fun i => I (i + 1)) h1 (fun i y e t hy hi => hs (i + 1) y e t (by simpa using hy) hi) (fun e t h => he e t (by simpa using h))
    rcases hs 0 x env τ (by simp) h0 with ⟨env', τ', e | e, h1⟩ | ⟨v, env', τ', e, h1⟩ | ⟨env', τ', e, h1⟩
    · rw [forL, e]; exact go _ _ h1
    · rw [forL, e]; exact go _ _ h1
    · rw [forL, e]; exact h1
    · rw [forL, e]; exact h1
theorem forL_run {f : D → Env → List D → Out} {xs : List D} {env : Env} {τ : List D} (I : Nat → Env → List D → Prop) (h0 : I 0 env τ)
    (hs : ∀ (i : Nat) (x : D) (env : Env) (τ : List D), xs[i]? = some x → I i env τ → ∃ env' τ', (f x env τ = .next env' τ' ∨ f x env τ = .cnt env' τ') ∧ I (i + 1) env' τ') :
    ∃ env' τ', forL f xs env τ = .next env' τ' ∧ I xs.length env' τ' :=
  forL_inv (P := fun o => ∃ env' τ', o = .next env' τ' ∧ I xs.length env' τ') I h0 (fun i x e t hx hi => .inl (hs i x e t hx hi)) fun e t h => ⟨e, t, rfl, h⟩
theorem compL_inv {f : D → List D → R (Option D)} : ∀ {xs acc : List D} {τ : List D} (I : Nat → List D → List D → Prop), I 0 acc τ → acc.length + xs.length ≤ LIM →
    (∀ (i : Nat) (x : D) (acc : List D) (τ : List D), xs[i]? = some x → I i acc τ → ∃ o τ', f x τ = .ok o τ' ∧ I (i + 1) (acc ++ o.toList) τ') →
    ∃ ys τ', compL f xs acc τ = .ok ys τ' ∧ I xs.length ys τ' ∧ ys.length ≤ acc.length + xs.length
  | [], acc, τ, I, h0, _, _ => ⟨acc, τ, rfl, h0, Nat.le_refl _⟩
  | x :: xs, acc, τ, I, h0, hl, hs => by
    obtain ⟨o, τ1, e, h1⟩ := hs 0 x acc τ (by simp) h0
    rw [List.length_cons] at hl
    have go : ∀ acc' : List D, I 1 acc' τ1 → acc'.length ≤ acc.length + 1 → ∃ ys τ', compL f xs acc' τ1 = .ok ys τ' ∧ I (x :: xs).length ys τ' ∧ ys.length ≤ acc.length + (x :: xs).length := fun acc' h l => by
      obtain ⟨ys, τ', e, h2, h3⟩ := compL_inv (xs := xs) (acc := acc') (fun i => I (i + 1)) h (by omega) fun i y a t hy hi => hs (i + 1) y a t (by simpa using hy) hi
      exact ⟨ys, τ', e, by simpa using h2, by rw [List.length_cons]; omega⟩
    cases o with
    | none =>
      rw [compL, e]
      exact go acc (by simpa using h1) (by omega)
    | some y =>
      rw [compL, e]
      simp only
      rw [if_pos (by omega)]
      exact go (acc ++ [y]) h1 (by simp)
theorem compL_pure {f : D → List D → R (Option D)} {g : D → Option D} {τ : List D} : ∀ {xs acc : List D}, acc.length + xs.length ≤ LIM → (∀ x ∈ xs, f x τ = .ok (g x) τ) → compL f xs acc τ = .ok (acc ++ xs.filterMap g) τ
  | [], acc, _, _ => by simp [compL]
  | x :: xs, acc, hl, h => by
    rw [List.length_cons] at hl
    rw [compL, h x List.mem_cons_self]
    cases e : g x with
    | none =>
      simp only
      rw [compL_pure (by omega) fun y hy => h y (List.mem_cons_of_mem _ hy)]
      simp [e]
    | some y =>
      simp only
      rw [if_pos (by omega), compL_pure (by simp; omega) fun y hy => h y (List.mem_cons_of_mem _ hy)]
      simp [e]
end
end Vi
end
section
set_option Elab.async false
set_option linter.all false
set_option maxRecDepth 100000
set_option maxHeartbeats 1000000
/-! Vi31: what is walked; comprehensions; while. -/
namespace Vi
open PySem PySem.Spec PyProof.Rows L2
section
variable {Φ : Phi} {n : Nat} {env env' : Env} {τ τ' : List D} {a b c e x k i el : E} {es : Es} {d d' : D} {v : RV} {r : Ss} {cl : Cell} {tg tg2 : Tg} {xs ys : List D} {it it2 : It} {co : Oe} {own own2 : List Nat}
def overK (r : R RV) : R (List D) := r.bind fun v τ => R.of (iterV v) τ
def rngK (r : R D) : R (List D) := r.bind fun x τ => match x with
    | .int j => if rngOk j then .ok (rangeD 0 j.toNat) τ else .stuck
    | _ => .stuck
def rng2K (Φ : Phi) (env : Env) (b : E) (r : R D) : R (List D) := r.bind fun x τ => (evalE Φ b env τ).look fun y τ => match x, y with
    | .int i, .int j => if rngOk i && rngOk j then .ok (rangeD i (j - i).toNat) τ else .stuck
    | _, _ => .stuck
def rng2K2 (x : D) (r : R D) : R (List D) := r.bind fun y τ => match x, y with
    | .int i, .int j => if rngOk i && rngOk j then .ok (rangeD i (j - i).toNat) τ else .stuck
    | _, _ => .stuck
def enumK (r : R RV) : R (List D) := r.bind fun v τ => R.of ((v.d.bind seqOf).map (enumD 0)) τ
def zipK (Φ : Phi) (env : Env) (b : E) (r : R RV) : R (List D) := r.bind fun v τ => (evalE Φ b env τ).bind fun w τ => R.of (zipV v w) τ
def zipK2 (v : RV) (r : R RV) : R (List D) := r.bind fun w τ => R.of (zipV v w) τ
@[simp] theorem it_zip : evalI Φ (.zip a b) env τ = zipK Φ env b (evalE Φ a env τ) := by rw [evalI]; rfl
@[simp] theorem kr_zip : zipK Φ env b (.ok v τ) = zipK2 v (evalE Φ b env τ) := (rfl)
@[simp] theorem kr_zip2 {w : RV} : zipK2 v (.ok w τ) = R.of (zipV v w) τ := (rfl)
def zipJ (Φ : Phi) (env : Env) (b : E) (r : R RV) : R (List D) := r.bind fun v τ => (evalJV Φ b env τ).bind fun w τ => R.of (zipV v w) τ
@[simp] theorem kr_zipJ : zipJ Φ env b (.ok v τ) = zipK2 v (evalJV Φ b env τ) := (rfl)
@[simp] theorem it_over : evalI Φ (.over e) env τ = overK (evalE Φ e env τ) := by rw [evalI]; rfl
@[simp] theorem it_rng1 : evalI Φ (.rng1 e) env τ = rngK (lookK (evalE Φ e env τ)) := by rw [evalI, look_two]; rfl
@[simp] theorem it_rng2 : evalI Φ (.rng2 a b) env τ = rng2K Φ env b (lookK (evalE Φ a env τ)) := by rw [evalI, look_two]; rfl
@[simp] theorem it_enum : evalI Φ (.enum e) env τ = enumK (evalE Φ e env τ) := by rw [evalI]; rfl
@[simp] theorem kr_over : overK (.ok v τ) = R.of (iterV v) τ := (rfl)
@[simp] theorem kr_enum : enumK (.ok v τ) = R.of ((v.d.bind seqOf).map (enumD 0)) τ := (rfl)
@[simp] theorem kr_rng {j : Int} (h : rngOk j = true) : rngK (.ok (.int j) τ) = .ok (rangeD 0 j.toNat) τ := by
  show (if rngOk j then _ else _) = _
  rw [if_pos h]
@[simp] theorem kr_rng2 : rng2K Φ env b (.ok d τ) = rng2K2 d (lookK (evalE Φ b env τ)) := by
  show (evalE Φ b env τ).look _ = _
  rw [look_two]; rfl
@[simp] theorem kr_rng22 {i j : Int} (h : rngOk i = true) (h2 : rngOk j = true) : rng2K2 (.int i) (.ok (.int j) τ) = .ok (rangeD i (j - i).toNat) τ := by
  show (if rngOk i && rngOk j then _ else _) = _
  rw [h, h2]; rfl
/-! what a for walks -/
def jvK (τ : List D) (s : Option Slot) : R RV := match s with
    | some (.ro c) => .ok (.ro c) τ
    | some (.fz d) => .ok (.fz d) τ
    | _ => .stuck
def jK (r : R RV) : R RV := r.bind fun v τ => match v with
    | .ro _ => .stuck
    | v => .ok v τ
@[simp] theorem jv_var {i : Nat} : evalJV Φ (.var i) env τ = jvK τ env[i]? := (rfl)
theorem jv_else (h : notVar e = true) : evalJV Φ e env τ = jK (evalE Φ e env τ) := by
  cases e <;> first | (cases h; done) | rfl
@[simp] theorem ex_ret_glb {x : Str} : exec Φ n (.ret (.glb x)) env τ = retK env (evalE Φ (.glb x) env τ) := (ex_ret rfl)
@[simp] theorem jv_glb {x : Str} : evalJV Φ (.glb x) env τ = jK (evalE Φ (.glb x) env τ) := (jv_else rfl)
@[simp] theorem ex_ret_non  : exec Φ n (.ret .non) env τ = retK env (evalE Φ .non env τ) := (ex_ret rfl)
@[simp] theorem jv_non  : evalJV Φ .non env τ = jK (evalE Φ .non env τ) := (jv_else rfl)
@[simp] theorem ex_ret_bl {x : Bool} : exec Φ n (.ret (.bl x)) env τ = retK env (evalE Φ (.bl x) env τ) := (ex_ret rfl)
@[simp] theorem jv_bl {x : Bool} : evalJV Φ (.bl x) env τ = jK (evalE Φ (.bl x) env τ) := (jv_else rfl)
@[simp] theorem ex_ret_int {x : Int} : exec Φ n (.ret (.int x)) env τ = retK env (evalE Φ (.int x) env τ) := (ex_ret rfl)
@[simp] theorem jv_int {x : Int} : evalJV Φ (.int x) env τ = jK (evalE Φ (.int x) env τ) := (jv_else rfl)
@[simp] theorem ex_ret_str {x : Str} : exec Φ n (.ret (.str x)) env τ = retK env (evalE Φ (.str x) env τ) := (ex_ret rfl)
@[simp] theorem jv_str {x : Str} : evalJV Φ (.str x) env τ = jK (evalE Φ (.str x) env τ) := (jv_else rfl)
@[simp] theorem ex_ret_tup {x : Es} : exec Φ n (.ret (.tup x)) env τ = retK env (evalE Φ (.tup x) env τ) := (ex_ret rfl)
@[simp] theorem jv_tup {x : Es} : evalJV Φ (.tup x) env τ = jK (evalE Φ (.tup x) env τ) := (jv_else rfl)
@[simp] theorem ex_ret_lst {x : Es} : exec Φ n (.ret (.lst x)) env τ = retK env (evalE Φ (.lst x) env τ) := (ex_ret rfl)
@[simp] theorem jv_lst {x : Es} : evalJV Φ (.lst x) env τ = jK (evalE Φ (.lst x) env τ) := (jv_else rfl)
@[simp] theorem ex_ret_pick {x : Es} {y : E} : exec Φ n (.ret (.pick x y)) env τ = retK env (evalE Φ (.pick x y) env τ) := (ex_ret rfl)
@[simp] theorem jv_pick {x : Es} {y : E} : evalJV Φ (.pick x y) env τ = jK (evalE Φ (.pick x y) env τ) := (jv_else rfl)
@[simp] theorem ex_ret_bin {x : Bop} {y : E} {z : E} : exec Φ n (.ret (.bin x y z)) env τ = retK env (evalE Φ (.bin x y z) env τ) := (ex_ret rfl)
@[simp] theorem jv_bin {x : Bop} {y : E} {z : E} : evalJV Φ (.bin x y z) env τ = jK (evalE Φ (.bin x y z) env τ) := (jv_else rfl)
@[simp] theorem ex_ret_neg {x : E} : exec Φ n (.ret (.neg x)) env τ = retK env (evalE Φ (.neg x) env τ) := (ex_ret rfl)
@[simp] theorem jv_neg {x : E} : evalJV Φ (.neg x) env τ = jK (evalE Φ (.neg x) env τ) := (jv_else rfl)
@[simp] theorem ex_ret_cmp {x : Cop} {y : E} {z : E} : exec Φ n (.ret (.cmp x y z)) env τ = retK env (evalE Φ (.cmp x y z) env τ) := (ex_ret rfl)
@[simp] theorem jv_cmp {x : Cop} {y : E} {z : E} : evalJV Φ (.cmp x y z) env τ = jK (evalE Φ (.cmp x y z) env τ) := (jv_else rfl)
@[simp] theorem ex_ret_chain {x : Cop} {y : Cop} {z : E} {u : E} {v : E} : exec Φ n (.ret (.chain x y z u v)) env τ = retK env (evalE Φ (.chain x y z u v) env τ) := (ex_ret rfl)
@[simp] theorem jv_chain {x : Cop} {y : Cop} {z : E} {u : E} {v : E} : evalJV Φ (.chain x y z u v) env τ = jK (evalE Φ (.chain x y z u v) env τ) := (jv_else rfl)
@[simp] theorem ex_ret_not {x : E} : exec Φ n (.ret (.not x)) env τ = retK env (evalE Φ (.not x) env τ) := (ex_ret rfl)
@[simp] theorem jv_not {x : E} : evalJV Φ (.not x) env τ = jK (evalE Φ (.not x) env τ) := (jv_else rfl)
@[simp] theorem ex_ret_and {x : E} {y : E} : exec Φ n (.ret (.and x y)) env τ = retK env (evalE Φ (.and x y) env τ) := (ex_ret rfl)
@[simp] theorem jv_and {x : E} {y : E} : evalJV Φ (.and x y) env τ = jK (evalE Φ (.and x y) env τ) := (jv_else rfl)
@[simp] theorem ex_ret_or {x : E} {y : E} : exec Φ n (.ret (.or x y)) env τ = retK env (evalE Φ (.or x y) env τ) := (ex_ret rfl)
@[simp] theorem jv_or {x : E} {y : E} : evalJV Φ (.or x y) env τ = jK (evalE Φ (.or x y) env τ) := (jv_else rfl)
@[simp] theorem ex_ret_ife {x : E} {y : E} {z : E} : exec Φ n (.ret (.ife x y z)) env τ = retK env (evalE Φ (.ife x y z) env τ) := (ex_ret rfl)
@[simp] theorem jv_ife {x : E} {y : E} {z : E} : evalJV Φ (.ife x y z) env τ = jK (evalE Φ (.ife x y z) env τ) := (jv_else rfl)
@[simp] theorem ex_ret_fld {x : E} {y : Str} : exec Φ n (.ret (.fld x y)) env τ = retK env (evalE Φ (.fld x y) env τ) := (ex_ret rfl)
@[simp] theorem jv_fld {x : E} {y : Str} : evalJV Φ (.fld x y) env τ = jK (evalE Φ (.fld x y) env τ) := (jv_else rfl)
@[simp] theorem ex_ret_ix {x : E} {y : E} : exec Φ n (.ret (.ix x y)) env τ = retK env (evalE Φ (.ix x y) env τ) := (ex_ret rfl)
@[simp] theorem jv_ix {x : E} {y : E} : evalJV Φ (.ix x y) env τ = jK (evalE Φ (.ix x y) env τ) := (jv_else rfl)
@[simp] theorem ex_ret_rev {x : E} : exec Φ n (.ret (.rev x)) env τ = retK env (evalE Φ (.rev x) env τ) := (ex_ret rfl)
@[simp] theorem jv_rev {x : E} : evalJV Φ (.rev x) env τ = jK (evalE Φ (.rev x) env τ) := (jv_else rfl)
@[simp] theorem ex_ret_sl {x : E} {y : Oe} {z : Oe} : exec Φ n (.ret (.sl x y z)) env τ = retK env (evalE Φ (.sl x y z) env τ) := (ex_ret rfl)
@[simp] theorem jv_sl {x : E} {y : Oe} {z : Oe} : evalJV Φ (.sl x y z) env τ = jK (evalE Φ (.sl x y z) env τ) := (jv_else rfl)
@[simp] theorem ex_ret_call {x : Str} {y : Es} : exec Φ n (.ret (.call x y)) env τ = retK env (evalE Φ (.call x y) env τ) := (ex_ret rfl)
@[simp] theorem jv_call {x : Str} {y : Es} : evalJV Φ (.call x y) env τ = jK (evalE Φ (.call x y) env τ) := (jv_else rfl)
@[simp] theorem ex_ret_callk {x : Str} {y : Nat} {z : (List Str)} {u : Es} : exec Φ n (.ret (.callk x y z u)) env τ = retK env (evalE Φ (.callk x y z u) env τ) := (ex_ret rfl)
@[simp] theorem jv_callk {x : Str} {y : Nat} {z : (List Str)} {u : Es} : evalJV Φ (.callk x y z u) env τ = jK (evalE Φ (.callk x y z u) env τ) := (jv_else rfl)
@[simp] theorem ex_ret_meth {x : E} {y : Str} {z : Str} {u : Es} : exec Φ n (.ret (.meth x y z u)) env τ = retK env (evalE Φ (.meth x y z u) env τ) := (ex_ret rfl)
@[simp] theorem jv_meth {x : E} {y : Str} {z : Str} {u : Es} : evalJV Φ (.meth x y z u) env τ = jK (evalE Φ (.meth x y z u) env τ) := (jv_else rfl)
@[simp] theorem ex_ret_new {x : Str} {y : Es} : exec Φ n (.ret (.new x y)) env τ = retK env (evalE Φ (.new x y) env τ) := (ex_ret rfl)
@[simp] theorem jv_new {x : Str} {y : Es} : evalJV Φ (.new x y) env τ = jK (evalE Φ (.new x y) env τ) := (jv_else rfl)
@[simp] theorem ex_ret_bi {x : Bi} {y : Es} : exec Φ n (.ret (.bi x y)) env τ = retK env (evalE Φ (.bi x y) env τ) := (ex_ret rfl)
@[simp] theorem jv_bi {x : Bi} {y : Es} : evalJV Φ (.bi x y) env τ = jK (evalE Φ (.bi x y) env τ) := (jv_else rfl)
@[simp] theorem ex_ret_isin {x : E} {y : (List Str)} : exec Φ n (.ret (.isin x y)) env τ = retK env (evalE Φ (.isin x y) env τ) := (ex_ret rfl)
@[simp] theorem jv_isin {x : E} {y : (List Str)} : evalJV Φ (.isin x y) env τ = jK (evalE Φ (.isin x y) env τ) := (jv_else rfl)
@[simp] theorem ex_ret_dget {x : E} {y : E} {z : E} : exec Φ n (.ret (.dget x y z)) env τ = retK env (evalE Φ (.dget x y z) env τ) := (ex_ret rfl)
@[simp] theorem jv_dget {x : E} {y : E} {z : E} : evalJV Φ (.dget x y z) env τ = jK (evalE Φ (.dget x y z) env τ) := (jv_else rfl)
@[simp] theorem ex_ret_comp {x : E} {y : Tg} {z : It} {u : Oe} {v : (List Nat)} : exec Φ n (.ret (.comp x y z u v)) env τ = retK env (evalE Φ (.comp x y z u v) env τ) := (ex_ret rfl)
@[simp] theorem jv_comp {x : E} {y : Tg} {z : It} {u : Oe} {v : (List Nat)} : evalJV Φ (.comp x y z u v) env τ = jK (evalE Φ (.comp x y z u v) env τ) := (jv_else rfl)
@[simp] theorem ex_ret_comp2 {x : E} {y : Tg} {z : It} {u : Tg} {v : It} {w : (List Nat)} {q : (List Nat)} : exec Φ n (.ret (.comp2 x y z u v w q)) env τ = retK env (evalE Φ (.comp2 x y z u v w q) env τ) := (ex_ret rfl)
@[simp] theorem jv_comp2 {x : E} {y : Tg} {z : It} {u : Tg} {v : It} {w : (List Nat)} {q : (List Nat)} : evalJV Φ (.comp2 x y z u v w q) env τ = jK (evalE Φ (.comp2 x y z u v w q) env τ) := (jv_else rfl)
@[simp] theorem ex_ret_dnewK  : exec Φ n (.ret .dnewK) env τ = retK env (evalE Φ .dnewK env τ) := (ex_ret rfl)
@[simp] theorem jv_dnewK  : evalJV Φ .dnewK env τ = jK (evalE Φ .dnewK env τ) := (jv_else rfl)
@[simp] theorem ex_ret_dnewT  : exec Φ n (.ret .dnewT) env τ = retK env (evalE Φ .dnewT env τ) := (ex_ret rfl)
@[simp] theorem jv_dnewT  : evalJV Φ .dnewT env τ = jK (evalE Φ .dnewT env τ) := (jv_else rfl)
@[simp] theorem ex_ret_fzn {x : E} : exec Φ n (.ret (.fzn x)) env τ = retK env (evalE Φ (.fzn x) env τ) := (ex_ret rfl)
@[simp] theorem jv_fzn {x : E} : evalJV Φ (.fzn x) env τ = jK (evalE Φ (.fzn x) env τ) := (jv_else rfl)
@[simp] theorem kr_jv1 : jvK τ (some (.ro cl)) = .ok (.ro cl) τ := (rfl)
@[simp] theorem kr_jv2 : jvK τ (some (.fz d)) = .ok (.fz d) τ := (rfl)
@[simp] theorem kr_j1 : jK (.ok (.fz d) τ) = .ok (.fz d) τ := (rfl)
@[simp] theorem kr_j2 : jK (.ok (.own cl) τ) = .ok (.own cl) τ := (rfl)
@[simp] theorem j_over : evalJ Φ (.over e) env τ = overK (evalJV Φ e env τ) := (rfl)
@[simp] theorem j_enum : evalJ Φ (.enum e) env τ = enumK (evalJV Φ e env τ) := (rfl)
@[simp] theorem j_zip : evalJ Φ (.zip a b) env τ = zipJ Φ env b (evalJV Φ a env τ) := (rfl)
@[simp] theorem j_rng1 : evalJ Φ (.rng1 e) env τ = evalI Φ (.rng1 e) env τ := (rfl)
@[simp] theorem j_rng2 : evalJ Φ (.rng2 a b) env τ = evalI Φ (.rng2 a b) env τ := (rfl)
/-! comprehensions -/
def lstO (r : R (List D)) : R RV := r.bind fun ys τ => .ok (.own (.lst ys)) τ
def compK (Φ : Phi) (el : E) (tg : Tg) (co : Oe) (env : Env) (r : R (List D)) : R RV := r.bind fun xs τ => lstO (compL (turnF Φ el tg co env) xs [] τ)
@[simp] theorem ev_comp : evalE Φ (.comp el tg it co own) env τ = compK Φ el tg co (wipeE env own) (evalI Φ it env τ) := by rw [evalE]; rfl
@[simp] theorem kr_comp : compK Φ el tg co env (.ok xs τ) = lstO (compL (turnF Φ el tg co env) xs [] τ) := (rfl)
@[simp] theorem kr_lstO : lstO (.ok xs τ) = .ok (.own (.lst xs)) τ := (rfl)
def elK (Φ : Phi) (el : E) (env : Env) (r : R Bool) : R (Option D) := r.bind fun b τ => if b then (evalE Φ el env τ).kept fun d τ => .ok (some d) τ else .ok none τ
def someK (r : R D) : R (Option D) := r.bind fun d τ => .ok (some d) τ
theorem kr_turnF (h : bindT tg d env = some env') : turnF Φ el tg co env d τ = elK Φ el env' (evalC Φ co env' τ) := by unfold turnF; rw [h]; rfl
@[simp] theorem kr_el1 : elK Φ el env (.ok true τ) = someK (keptK (evalE Φ el env τ)) := by
  show (evalE Φ el env τ).kept _ = _
  rw [kept_two]; rfl
@[simp] theorem kr_el2 : elK Φ el env (.ok false τ) = .ok none τ := (rfl)
@[simp] theorem kr_some : someK (.ok d τ) = .ok (some d) τ := (rfl)
def cK (r : R D) : R Bool := r.bind fun x τ => match x with
    | .bl b => .ok b τ
    | _ => .stuck
@[simp] theorem ev_cno : evalC Φ .no env τ = .ok true τ := by rw [evalC]
@[simp] theorem ev_cyes : evalC Φ (.yes a) env τ = cK (lookK (evalE Φ a env τ)) := by rw [evalC, look_two]; rfl
@[simp] theorem kr_c {b : Bool} : cK (.ok (.bl b) τ) = .ok b τ := (rfl)
end
/-! ### what values do -/
section
variable {xs ys : List D} {i j : Int} {k : Nat} {τ : List D} {cl : Cell} {env : Env}
@[simp] theorem LIM_eq : LIM = 1000000 := by decide
@[simp] theorem keeps_nil : keepsOf [] = some [] := (rfl)
@[simp] theorem keeps_fz {d : D} {vs : List RV} : keepsOf (.fz d :: vs) = (keepsOf vs).map (d :: ·) := by
  show (match some d, keepsOf vs with | some d, some ds => some (d :: ds) | _, _ => none) = _
  cases keepsOf vs <;> rfl
@[simp] theorem keeps_own {vs : List RV} : keepsOf (.own cl :: vs) = (keepsOf vs).map (cl.frz :: ·) := by
  show (match some cl.frz, keepsOf vs with | some d, some ds => some (d :: ds) | _, _ => none) = _
  cases keepsOf vs <;> rfl
@[simp] theorem ds_nil : dsOf [] = some [] := (rfl)
@[simp] theorem ds_cons {v : RV} {vs : List RV} {d : D} (h : v.d = some d) : dsOf (v :: vs) = (dsOf vs).map (d :: ·) := by
  show (match v.d, dsOf vs with | some d, some ds => some (d :: ds) | _, _ => none) = _
  rw [h]
  cases dsOf vs <;> rfl
@[simp] theorem rd_fz {d : D} : (RV.fz d).d = some d := (rfl)
@[simp] theorem rd_own : (RV.own (.lst xs)).d = some (.lst xs) := (rfl)
@[simp] theorem rd_ro : (RV.ro (.lst xs)).d = some (.lst xs) := (rfl)
@[simp] theorem rd_owndT {kt : List (List Key × D)} : (RV.own (.dT kt)).d = some (.dT kt) := (rfl)
@[simp] theorem rd_rodT {kt : List (List Key × D)} : (RV.ro (.dT kt)).d = some (.dT kt) := (rfl)
@[simp] theorem frz_lst : Cell.frz (.lst xs) = .lst xs := by rw [Cell.frz]
@[simp] theorem frz_fz {d : D} : Cell.frz (.fz d) = d := by rw [Cell.frz]
@[simp] theorem frz_dT {kt : List (List Key × D)} : Cell.frz (.dT kt) = .dT kt := by rw [Cell.frz]
@[simp] theorem frz_dK {kt : List (Key × D)} : Cell.frz (.dK kt) = .dK kt := by rw [Cell.frz]
@[simp] theorem slot_fz {d : D} : RV.slot (.fz d) = .fz d := (rfl)
@[simp] theorem slot_own : RV.slot (.own cl) = .own cl := (rfl)
@[simp] theorem slot_ro : RV.slot (.ro cl) = .ro cl := (rfl)
@[simp] theorem bop_add : binop .add (.int i) (.int j) = some (.fz (.int (i + j))) := (rfl)
@[simp] theorem bop_sub : binop .sub (.int i) (.int j) = some (.fz (.int (i - j))) := (rfl)
@[simp] theorem bop_mod (h : j ≠ 0) : binop .mod (.int i) (.int j) = some (.fz (.int (i.fmod j))) := by
  show (if j ≠ 0 then _ else _) = _
  rw [if_pos h]
@[simp] theorem bop_fdiv (h : j ≠ 0) (h2 : j.natAbs < 1073741824) : binop .fdiv (.int i) (.int j) = some (.fz (.int (i.fdiv j))) := by
  show (if j ≠ 0 ∧ j.natAbs < 1073741824 then _ else _) = _
  rw [if_pos ⟨h, h2⟩]
@[simp] theorem bop_mulr (h : -(2 ^ 64) < j ∧ j < 2 ^ 64) : binop .mul (.int i) (.int j) = some (.fz (.int (i * j))) := by
  show (if ((-(2 ^ 64) < i ∧ i < 2 ^ 64) ∨ (-(2 ^ 64) < j ∧ j < 2 ^ 64)) then _ else _) = _
  rw [if_pos (.inr h)]
theorem bop_mull (h : -(2 ^ 64) < i ∧ i < 2 ^ 64) : binop .mul (.int i) (.int j) = some (.fz (.int (i * j))) := by
  show (if ((-(2 ^ 64) < i ∧ i < 2 ^ 64) ∨ (-(2 ^ 64) < j ∧ j < 2 ^ 64)) then _ else _) = _
  rw [if_pos (.inl h)]
@[simp] theorem bop_tup (h : xs.length + ys.length ≤ LIM) : binop .add (.tup xs) (.tup ys) = some (.fz (.tup (xs ++ ys))) := by
  show (if xs.length + ys.length ≤ LIM then _ else _) = _
  rw [if_pos h]
@[simp] theorem bop_lst (h : xs.length + ys.length ≤ LIM) : binop .add (.lst xs) (.lst ys) = some (.own (.lst (xs ++ ys))) := by
  show (if xs.length + ys.length ≤ LIM then _ else _) = _
  rw [if_pos h]
@[simp] theorem cop_lt : cmpop .lt (.int i) (.int j) = some (decide (i < j)) := (rfl)
@[simp] theorem cop_le : cmpop .le (.int i) (.int j) = some (decide (i ≤ j)) := (rfl)
@[simp] theorem cop_gt : cmpop .gt (.int i) (.int j) = some (decide (j < i)) := (rfl)
@[simp] theorem cop_ge : cmpop .ge (.int i) (.int j) = some (decide (j ≤ i)) := (rfl)
@[simp] theorem cop_eqi : cmpop .eq (.int i) (.int j) = some (decide (i = j)) := by
  show deq (.int i) (.int j) = _
  unfold deq
  rw [if_pos (show (D.plain (.int i) && D.plain (.int j)) = true from by simp [D.plain, D.pl])]
  simp only [D.py, PyData.eqv]
  first | rfl | (congr 1; by_cases h : i = j <;> simp [h])
@[simp] theorem cop_nei : cmpop .ne (.int i) (.int j) = some (!decide (i = j)) := by
  show (deq (.int i) (.int j)).map (!·) = _
  have := cop_eqi (i := i) (j := j)
  rw [show deq (.int i) (.int j) = some (decide (i = j)) from this]
  rfl
@[simp] theorem bi_len1 : biop .len [.tup xs] = some (.fz (.int xs.length)) := (rfl)
@[simp] theorem bi_len2 : biop .len [.lst xs] = some (.fz (.int xs.length)) := (rfl)
@[simp] theorem bi_len3 {ns : List Int} : biop .len [.scr ns] = some (.fz (.int ns.length)) := (rfl)
@[simp] theorem bi_len4 : biop .len [.ptup xs] = some (.fz (.int xs.length)) := (rfl)
@[simp] theorem bi_int1 : biop .int [.int i] = some (.fz (.int i)) := (rfl)
@[simp] theorem bi_abs1 : biop .abs [.int i] = some (.fz (.int (if i < 0 then -i else i))) := (rfl)
@[simp] theorem bi_max2 : biop .max [.int i, .int j] = some (.fz (.int (max i j))) := (rfl)
@[simp] theorem bi_min2 : biop .min [.int i, .int j] = some (.fz (.int (min i j))) := (rfl)
@[simp] theorem bi_tup1 : biop .tuple [.lst xs] = some (.fz (.tup xs)) := (rfl)
@[simp] theorem bi_tup2 : biop .ptuple [.lst xs] = some (.fz (.ptup xs)) := (rfl)
end
end Vi
end
section
set_option Elab.async false
set_option linter.all false
set_option maxRecDepth 100000
set_option maxHeartbeats 1000000
/-! Vi32: indexing, the drawing hand. -/
namespace Vi
open PySem PySem.Spec PyProof.Rows L2
section
variable {α : Type} {xs ys : List α} {x : α} {i : Int} {k : Nat}
theorem ixN_nat (h : k < n) : ixN n (k : Int) = some k := by
  unfold ixN
  rw [if_pos (by omega), if_pos (by omega)]
  rfl
theorem atI_nat (h : xs[k]? = some x) : atI xs (k : Int) = some x := by
  have hk : k < xs.length := (List.getElem?_eq_some_iff.mp h).1
  unfold atI
  rw [ixN_nat hk]
  simpa using h
theorem atI_int (h0 : 0 ≤ i) (h : xs[i.toNat]? = some x) : atI xs i = some x := by
  have := atI_nat h
  rwa [Int.toNat_of_nonneg h0] at this
@[simp] theorem atI_0 : atI (x :: xs) 0 = some x := atI_nat (k := 0) rfl
@[simp] theorem atI_1 {y : α} : atI (x :: y :: xs) 1 = some y := atI_nat (k := 1) rfl
@[simp] theorem atI_2 {y z : α} : atI (x :: y :: z :: xs) 2 = some z := atI_nat (k := 2) rfl
end
@[simp] theorem put_hand {env : Env} {i : Nat} {x y z : D} {τ : List D} (h : env[i]? = some (.fz .hand)) : putOut env (.var i) (.int 1) x (y :: z :: τ) = .next env (y :: x :: τ) := by
  show (match env[i]? with | some (.fz .hand) => _ | _ => _) = _
  rw [h]
  show (match ixN (y :: z :: τ).length 1 with | some j => _ | none => _) = _
  rw [show ixN (y :: z :: τ).length 1 = some 1 from ixN_nat (k := 1) (by simp)]
  rfl
/-- the hand of the laws: what is drawn, and how much of it is taken -/
def handT (ds : List Int) (k : Nat) : List D := [.lst (ds.map .int), .int k]
def irTake : Ss := (.cons (.asg (.name 2) (.ix (.var 0) (.int 1)))
    (.cons (.put (.var 0) (.int 1) (.bin .add (.var 2) (.int 1)))
    (.cons (.asg (.name 3) (.ix (.var 0) (.int 0)))
    (.cons (.iff (.cmp .ge (.var 2) (.bi .len (.cons (.var 3) .nil))) (.cons (.ret (.int 0))
    .nil) .nil)
    (.cons (.ret (.bin .mod (.bin .fdiv (.bi .int (.cons (.ix (.var 3) (.var 2)) .nil)) (.int 7)) (.var 1)))
    .nil)))))
theorem take_spec (Φ : Phi) (ds : List Int) (k : Nat) (m : Int) (hm : 0 < m) : ∃ v, 0 ≤ v ∧ v < m ∧
    semDef Φ 0 2 2 irTake [.fz .hand, .fz (.int m)] (handT ds k) = .ok (.fz (.int v)) [.un, .un] (handT ds (k + 1)) := by
  have hm' : m ≠ 0 := by omega
  by_cases h : ds.length ≤ k
  · refine ⟨0, by omega, hm, ?_⟩
    have h2 : (ds.length : Int) ≤ k := by omega
    simp [semDef, irTake, handT, h, h2, hm', hasS, Pl.ix]
  · have e : atI (ds.map D.int) (k : Int) = some (.int (ds[k]'(by omega))) := atI_nat (by simp [List.getElem?_eq_getElem (show k < ds.length by omega)])
    have h2 : ¬ (ds.length : Int) ≤ k := by omega
    refine ⟨((ds[k]'(by omega)).fdiv 7).fmod m, ?_, ?_, ?_⟩
    · exact Int.fmod_nonneg_of_pos _ hm
    · exact Int.fmod_lt_of_pos _ hm
    · simp [semDef, irTake, handT, h, h2, hm', e, hasS, Pl.ix, ixop]
end Vi
end
section
set_option Elab.async false
set_option linter.all false
set_option maxRecDepth 100000
set_option maxHeartbeats 1000000
/-! Vi33: what is wanted of an end; defs and loops by it. -/
namespace Vi
open PySem PySem.Spec PyProof.Rows L2
structure Want where
  N : Env → List D → Prop
  R : RV → List D → Prop
  C : Env → List D → Prop
  B : Env → List D → Prop
  X : Str → List (Str × D) → List D → Prop
def WpD (q : Want) (o : Out) : Prop := match o with
  | .next e t => q.N e t
  | .ret r _ t => q.R r t
  | .cnt e t => q.C e t
  | .brk e t => q.B e t
  | .exc c fs _ t => q.X c fs t
  | .stuck => False
/-- what is wanted of an end (sealed: nothing may run it by looking) -/
structure Wp (q : Want) (o : Out) : Prop where
  h : WpD q o
section
variable {Φ : Phi} {n np m : Nat} {env : Env} {τ : List D} {q : Want} {r body : Ss} {v : RV} {c : Str} {fs : List (Str × D)} {xs : List D} {f : D → Env → List D → Out} {o : Out}
@[simp] theorem wp_next : Wp q (.next env τ) ↔ q.N env τ := ⟨fun h => h.h, fun h => ⟨h⟩⟩
@[simp] theorem wp_ret : Wp q (.ret v env τ) ↔ q.R v τ := ⟨fun h => h.h, fun h => ⟨h⟩⟩
@[simp] theorem wp_cnt : Wp q (.cnt env τ) ↔ q.C env τ := ⟨fun h => h.h, fun h => ⟨h⟩⟩
@[simp] theorem wp_brk : Wp q (.brk env τ) ↔ q.B env τ := ⟨fun h => h.h, fun h => ⟨h⟩⟩
@[simp] theorem wp_exc : Wp q (.exc c fs env τ) ↔ q.X c fs τ := ⟨fun h => h.h, fun h => ⟨h⟩⟩
@[simp] theorem wp_stuck : Wp q .stuck ↔ False := ⟨fun h => h.h, fun h => h.elim⟩
@[simp] theorem kr_then5 : thenK Φ n r (.exc c fs env τ) = .exc c fs env τ := (rfl)
@[simp] theorem kr_then6 : thenK Φ n r .stuck = .stuck := (rfl)
theorem wp_then (h : Wp { q with N := fun e t => Wp q (execs Φ n r e t) } o) : Wp q (thenK Φ n r o) := by
  cases o with
  | next e t => exact h.h
  | ret v e t => exact ⟨h.h⟩
  | cnt e t => exact ⟨h.h⟩
  | brk e t => exact ⟨h.h⟩
  | exc c fs e t => exact ⟨h.h⟩
  | stuck => exact ⟨h.h⟩
theorem wp_for : ∀ {xs : List D} {env : Env} {τ : List D} (I : Nat → Env → List D → Prop), I 0 env τ →
    (∀ (i : Nat) (x : D) (env : Env) (τ : List D), xs[i]? = some x → I i env τ → Wp { q with N := I (i + 1), C := I (i + 1), B := q.N } (f x env τ)) →
    (∀ env τ, I xs.length env τ → q.N env τ) → Wp q (forL f xs env τ)
  | [], env, τ, I, h0, _, he => ⟨he env τ h0⟩
  | x :: xs, env, τ, I, h0, hs, he => by
    have go : ∀ env' τ', I 1 env' τ' → Wp q (forL f xs env' τ') := fun env' τ' h1 => wp_for (fun i => I (i + 1)) h1 (fun i y e t hy hi => hs (i + 1) y e t (by simpa using hy) hi) (fun e t h => he e t (by simpa using h))
    have h1 := hs 0 x env τ (by simp) h0
    rw [forL]
    cases e : f x env τ with
    | next e' t' => rw [e] at h1; exact go _ _ h1.h
    | cnt e' t' => rw [e] at h1; exact go _ _ h1.h
    | ret v e' t' => rw [e] at h1; exact ⟨h1.h⟩
    | brk e' t' => rw [e] at h1; exact ⟨h1.h⟩
    | exc c fs e' t' => rw [e] at h1; exact ⟨h1.h⟩
    | stuck => rw [e] at h1; exact h1.h.elim
/-- what a turn has to reach: J at its end, and what is wanted of a return, a break, an error -/
structure Turn (q : Want) (J k : Env → List D → Prop) (q' : Want) : Prop where
  N : ∀ e t, J e t → q'.N e t
  C : ∀ e t, J e t → q'.C e t
  R : ∀ r t, q.R r t → q'.R r t
  B : ∀ e t, k e t → q'.B e t
  X : ∀ c fs t, q.X c fs t → q'.X c fs t
/-- what one statement has to reach -/
structure Mid (q : Want) (J : Env → List D → Prop) (q' : Want) : Prop where
  N : ∀ e t, J e t → q'.N e t
  C : ∀ e t, q.C e t → q'.C e t
  R : ∀ r t, q.R r t → q'.R r t
  B : ∀ e t, q.B e t → q'.B e t
  X : ∀ c fs t, q.X c fs t → q'.X c fs t
theorem wp_mid (J : Env → List D → Prop) (h1 : ∀ q', Mid q J q' → Wp q' o) (h2 : ∀ env τ, J env τ → Wp q (execs Φ n r env τ)) : Wp q (thenK Φ n r o) :=
  wp_then (h1 _ ⟨h2, fun _ _ h => h, fun _ _ h => h, fun _ _ h => h, fun _ _ _ h => h⟩)
/-- a loop with what comes behind it -/
theorem wp_loop (I : Nat → Env → List D → Prop) (h0 : I 0 env τ)
    (hs : ∀ (i : Nat) (x : D) (env : Env) (τ : List D), xs[i]? = some x → I i env τ → ∀ q', Turn q (I (i + 1)) (fun e t => Wp q (execs Φ n r e t)) q' → Wp q' (f x env τ))
    (he : ∀ env τ, I xs.length env τ → Wp q (execs Φ n r env τ)) : Wp q (thenK Φ n r (forL f xs env τ)) :=
  wp_then (wp_for I h0 (fun i x e t hx hi => hs i x e t hx hi _ ⟨fun _ _ h => h, fun _ _ h => h, fun _ _ h => h, fun _ _ h => h, fun _ _ _ h => h⟩) he)
/-- .. whose turns change no more than what they are told -/
theorem wp_loop' (I : Env → List D → Prop) (h0 : I env τ)
    (hs : ∀ x ∈ xs, ∀ (env : Env) (τ : List D), I env τ → ∀ q', Turn q I (fun e t => Wp q (execs Φ n r e t)) q' → Wp q' (f x env τ))
    (he : ∀ env τ, I env τ → Wp q (execs Φ n r env τ)) : Wp q (thenK Φ n r (forL f xs env τ)) :=
  wp_loop (fun _ => I) h0 (fun i x e t hx hi => hs x (List.mem_of_getElem? hx) e t hi) he
/-- .. over a list of what is told as data: by what is gone through -/
theorem wp_list {α : Type} {enc : α → D} {as : List α} (I : List α → Env → List D → Prop) (h0 : I [] env τ)
    (hs : ∀ (pre : List α) (a : α) (post : List α), as = pre ++ a :: post → ∀ (env : Env) (τ : List D), I pre env τ → ∀ q', Turn q (I (pre ++ [a])) (fun e t => Wp q (execs Φ n r e t)) q' → Wp q' (f (enc a) env τ))
    (he : ∀ env τ, I as env τ → Wp q (execs Φ n r env τ)) : Wp q (thenK Φ n r (forL f (as.map enc) env τ)) := by
  refine wp_loop (fun i => I (as.take i)) (by simpa using h0) (fun i x e t hx hi => ?_) (fun e t h => he e t (by simpa using h))
  rw [List.getElem?_map] at hx
  cases e1 : as[i]? with
  | none => rw [e1] at hx; cases hx
  | some a =>
    rw [e1] at hx
    cases hx
    obtain ⟨hi', e3⟩ := List.getElem?_eq_some_iff.mp e1
    have e2 : as.take (i + 1) = as.take i ++ [a] := by rw [List.take_add_one, e1]; simp
    have e4 : as = as.take i ++ a :: as.drop (i + 1) := by
      conv => lhs; rw [← List.take_append_drop i as, List.drop_eq_getElem_cons hi', e3]
    have := hs _ a _ e4 e t hi
    rw [e2]
    exact this
def turnK (Φ : Phi) (n : Nat) (b : Ss) (τ : List D) (o : Option Env) : Out := match o with
  | some env => execs Φ n b env τ
  | none => .stuck
@[simp] theorem kr_turnS {tg : Tg} {b : Ss} {d : D} : turnS Φ n tg b d env τ = turnK Φ n b τ (bindT tg d env) := (rfl)
@[simp] theorem kr_turnK {b : Ss} : turnK Φ n b τ (some env) = execs Φ n b env τ := (rfl)
@[simp] theorem bindT_name {i : Nat} {d : D} : bindT (.name i) d env = some (env.set i (.fz d)) := by rw [bindT]
@[simp] theorem bindT_tup {ts : Tgs} : bindT (.tup ts) (.tup xs) env = bindTs ts xs env := by rw [bindT]; rfl
@[simp] theorem bindTs_nil : bindTs .nil [] env = some env := by rw [bindTs]
@[simp] theorem bindTs_cons {t : Tg} {ts : Tgs} {x : D} : bindTs (.cons t ts) (x :: xs) env = (bindT t x env).bind fun env => bindTs ts xs env := by rw [bindTs]
def frzV (env : Env) (i : Nat) (s : Option Slot) : Option Env := match s with
  | some (.own c) => some (env.set i (.fz c.frz))
  | _ => some env
@[simp] theorem fri_over {e : E} : frzIt env (.over e) = frzRoot env e := (rfl)
@[simp] theorem fri_enum {e : E} : frzIt env (.enum e) = frzRoot env e := (rfl)
@[simp] theorem fri_zip {a b : E} : frzIt env (.zip a b) = (frzRoot env a).bind fun env => frzRoot env b := (rfl)
@[simp] theorem fri_rng1 {e : E} : frzIt env (.rng1 e) = some env := (rfl)
@[simp] theorem fri_rng2 {a b : E} : frzIt env (.rng2 a b) = some env := (rfl)
@[simp] theorem fri_var {i : Nat} : frzRoot env (.var i) = frzV env i env[i]? := (rfl)
@[simp] theorem fri_v1 {i : Nat} {c : Cell} : frzV env i (some (.own c)) = some (env.set i (.fz c.frz)) := (rfl)
@[simp] theorem fri_v2 {i : Nat} {d : D} : frzV env i (some (.fz d)) = some env := (rfl)
@[simp] theorem fri_v3 {i : Nat} {c : Cell} : frzV env i (some (.ro c)) = some env := (rfl)
@[simp] theorem fri_glb {y0 : Str} : frzRoot env (.glb y0) = some env := (rfl)
@[simp] theorem fri_non  : frzRoot env (.non) = some env := (rfl)
@[simp] theorem fri_bl {y0 : Bool} : frzRoot env (.bl y0) = some env := (rfl)
@[simp] theorem fri_int {y0 : Int} : frzRoot env (.int y0) = some env := (rfl)
@[simp] theorem fri_str {y0 : Str} : frzRoot env (.str y0) = some env := (rfl)
@[simp] theorem fri_tup {y0 : Es} : frzRoot env (.tup y0) = some env := (rfl)
@[simp] theorem fri_lst {y0 : Es} : frzRoot env (.lst y0) = some env := (rfl)
@[simp] theorem fri_pick {y0 : Es} {y1 : E} : frzRoot env (.pick y0 y1) = some env := (rfl)
@[simp] theorem fri_bin {y0 : Bop} {y1 : E} {y2 : E} : frzRoot env (.bin y0 y1 y2) = some env := (rfl)
@[simp] theorem fri_neg {y0 : E} : frzRoot env (.neg y0) = some env := (rfl)
@[simp] theorem fri_cmp {y0 : Cop} {y1 : E} {y2 : E} : frzRoot env (.cmp y0 y1 y2) = some env := (rfl)
@[simp] theorem fri_chain {y0 : Cop} {y1 : Cop} {y2 : E} {y3 : E} {y4 : E} : frzRoot env (.chain y0 y1 y2 y3 y4) = some env := (rfl)
@[simp] theorem fri_not {y0 : E} : frzRoot env (.not y0) = some env := (rfl)
@[simp] theorem fri_and {y0 : E} {y1 : E} : frzRoot env (.and y0 y1) = some env := (rfl)
@[simp] theorem fri_or {y0 : E} {y1 : E} : frzRoot env (.or y0 y1) = some env := (rfl)
@[simp] theorem fri_ife {y0 : E} {y1 : E} {y2 : E} : frzRoot env (.ife y0 y1 y2) = some env := (rfl)
@[simp] theorem fri_fld {y0 : E} {y1 : Str} : frzRoot env (.fld y0 y1) = some env := (rfl)
@[simp] theorem fri_ix {y0 : E} {y1 : E} : frzRoot env (.ix y0 y1) = some env := (rfl)
@[simp] theorem fri_rev {y0 : E} : frzRoot env (.rev y0) = some env := (rfl)
@[simp] theorem fri_sl {y0 : E} {y1 : Oe} {y2 : Oe} : frzRoot env (.sl y0 y1 y2) = some env := (rfl)
@[simp] theorem fri_call {y0 : Str} {y1 : Es} : frzRoot env (.call y0 y1) = some env := (rfl)
@[simp] theorem fri_callk {y0 : Str} {y1 : Nat} {y2 : (List Str)} {y3 : Es} : frzRoot env (.callk y0 y1 y2 y3) = some env := (rfl)
@[simp] theorem fri_meth {y0 : E} {y1 : Str} {y2 : Str} {y3 : Es} : frzRoot env (.meth y0 y1 y2 y3) = some env := (rfl)
@[simp] theorem fri_new {y0 : Str} {y1 : Es} : frzRoot env (.new y0 y1) = some env := (rfl)
@[simp] theorem fri_bi {y0 : Bi} {y1 : Es} : frzRoot env (.bi y0 y1) = some env := (rfl)
@[simp] theorem fri_isin {y0 : E} {y1 : (List Str)} : frzRoot env (.isin y0 y1) = some env := (rfl)
@[simp] theorem fri_dget {y0 : E} {y1 : E} {y2 : E} : frzRoot env (.dget y0 y1 y2) = some env := (rfl)
@[simp] theorem fri_comp {y0 : E} {y1 : Tg} {y2 : It} {y3 : Oe} {y4 : (List Nat)} : frzRoot env (.comp y0 y1 y2 y3 y4) = some env := (rfl)
@[simp] theorem fri_comp2 {y0 : E} {y1 : Tg} {y2 : It} {y3 : Tg} {y4 : It} {y5 : (List Nat)} {y6 : (List Nat)} : frzRoot env (.comp2 y0 y1 y2 y3 y4 y5 y6) = some env := (rfl)
@[simp] theorem fri_dnewK  : frzRoot env (.dnewK) = some env := (rfl)
@[simp] theorem fri_dnewT  : frzRoot env (.dnewT) = some env := (rfl)
@[simp] theorem fri_fzn {y0 : E} : frzRoot env (.fzn y0) = some env := (rfl)
def getPK (s : Option Slot) : Option Cell := match s with
  | some (.own c) => some c
  | _ => none
@[simp] theorem getPv {i : Nat} : getP env (.var i) = getPK env[i]? := (rfl)
@[simp] theorem getPK_1 {c : Cell} : getPK (some (.own c)) = some c := (rfl)
@[simp] theorem setPv {i : Nat} {c : Cell} : setP env (.var i) c = env.set i (.own c) := (rfl)
def hasK (s : Option Slot) : Bool := match s with
  | some (.own _) => true
  | some (.fz _) => true
  | _ => false
@[simp] theorem hasS_eq {i : Nat} : hasS env i = hasK env[i]? := (rfl)
@[simp] theorem hasK_1 {c : Cell} : hasK (some (.own c)) = true := (rfl)
@[simp] theorem hasK_2 {d : D} : hasK (some (.fz d)) = true := (rfl)
@[simp] theorem plix_1 {i : Nat} : Pl.ix (.var i) = i := (rfl)
@[simp] theorem plix_2 {i : Nat} {g : Str} : Pl.ix (.fld i g) = i := (rfl)
def frzSK (env : Env) (i : Nat) (s : Option Slot) : Option Env := match s with
  | some (.own c) => some (env.set i (.fz c.frz))
  | some (.fz _) => some env
  | _ => none
@[simp] theorem frzS_eq {i : Nat} : frzS env i = frzSK env i env[i]? := (rfl)
@[simp] theorem frzSK_1 {i : Nat} {c : Cell} : frzSK env i (some (.own c)) = some (env.set i (.fz c.frz)) := (rfl)
@[simp] theorem frzSK_2 {i : Nat} {d : D} : frzSK env i (some (.fz d)) = some env := (rfl)
/-- what is wanted of a def's end -/
structure Top (Q : RV → List D → Prop) (X : Str → List (Str × D) → List D → Prop) (q : Want) : Prop where
  R : ∀ r t, Q r t → q.R r t
  N : ∀ e t, Q (.fz .non) t → q.N e t
  X : ∀ c fs t, X c fs t → q.X c fs t
def SWp (Q : RV → List D → Prop) (X : Str → List (Str × D) → List D → Prop) (o : SOut) : Prop := match o with
  | .ok r _ t => Q r t
  | .exc c fs _ t => X c fs t
  | .stuck => False
theorem def_wp {args : List Slot} {Q : RV → List D → Prop} {X : Str → List (Str × D) → List D → Prop} (hl : args.length = np) (hQ : ∀ r t, Q r t → τ.isEmpty = t.isEmpty) (hX : ∀ c fs t, X c fs t → τ.isEmpty = t.isEmpty)
    (h : ∀ q, Top Q X q → Wp q (execs Φ n body (args ++ List.replicate m .un) τ)) : SWp Q X (semDef Φ n np m body args τ) := by
  have h := (h ⟨fun _ t => Q (.fz .non) t, Q, fun _ _ => False, fun _ _ => False, X⟩ ⟨fun _ _ h => h, fun _ _ h => h, fun _ _ _ h => h⟩).h
  unfold semDef
  rw [if_pos hl]
  cases e : execs Φ n body (args ++ List.replicate m .un) τ with
  | next e' t' => rw [e] at h; simp only [if_pos (hQ _ _ h)]; exact h
  | ret v e' t' => rw [e] at h; simp only [if_pos (hQ _ _ h)]; exact h
  | cnt _ _ => rw [e] at h; exact h.elim
  | brk _ _ => rw [e] at h; exact h.elim
  | exc _ _ _ _ => rw [e] at h; simp only [if_pos (hX _ _ _ h)]; exact h
  | stuck => rw [e] at h; exact h.elim
theorem semDef_outs {b : Ss} {args : List Slot} {τ : List D} : ∀ r os t', semDef Φ n np m b args τ = .ok r os t' → os = List.replicate np .un := by
  intro r os t' h
  unfold semDef at h
  split at h
  · cases e : execs Φ n b (args ++ List.replicate m .un) τ with
    | next _ _ => rw [e] at h; simp only at h; split at h <;> simp_all
    | ret _ _ _ => rw [e] at h; simp only at h; split at h <;> simp_all
    | exc _ _ _ _ => rw [e] at h; simp only at h; split at h <;> simp_all
    | cnt _ _ => rw [e] at h; cases h
    | brk _ _ => rw [e] at h; cases h
    | stuck => rw [e] at h; cases h
  · cases h
/-- a def's equation from what its body ends with -/
theorem def_eq {b : Ss} {args : List Slot} {t : List D} {v : RV} (hl : args.length = np) (ht : τ.isEmpty = t.isEmpty) (h : ∀ q : Want, Top (fun r t' => r = v ∧ t' = t) (fun _ _ _ => False) q → Wp q (execs Φ n b (args ++ List.replicate m .un) τ)) :
    semDef Φ n np m b args τ = .ok v (List.replicate np .un) t := by
  have := def_wp (τ := τ) hl (fun r t' h => by rw [h.2, ht]) (fun _ _ _ h => h.elim) h
  cases e : semDef Φ n np m b args τ with
  | ok r os t' => rw [e] at this; obtain ⟨rfl, rfl⟩ := this; rw [semDef_outs _ _ _ e]
  | exc _ _ _ _ => rw [e] at this; exact this.elim
  | stuck => rw [e] at this; exact this.elim
/-- .. a result that is told less closely -/
theorem def_ex {b : Ss} {args : List Slot} {Q : RV → List D → Prop} (hl : args.length = np) (ht : ∀ r t, Q r t → τ.isEmpty = t.isEmpty) (h : ∀ q : Want, Top Q (fun _ _ _ => False) q → Wp q (execs Φ n b (args ++ List.replicate m .un) τ)) :
    ∃ v t, semDef Φ n np m b args τ = .ok v (List.replicate np .un) t ∧ Q v t := by
  have := def_wp (τ := τ) hl ht (fun _ _ _ h => h.elim) h
  cases e : semDef Φ n np m b args τ with
  | ok r os t' => rw [e] at this; exact ⟨r, t', by rw [semDef_outs _ _ _ e], this⟩
  | exc _ _ _ _ => rw [e] at this; exact this.elim
  | stuck => rw [e] at this; exact this.elim
@[simp] theorem kr_iffd {a b : Ss} {P : Prop} [Decidable P] : iffK Φ n env a b (.ok (.bl (decide P)) τ) = if P then execs Φ n a env τ else execs Φ n b env τ := by
  by_cases h : P <;> simp [h]
end
/-! ### comprehensions over what is plain -/
section
variable {Φ : Phi} {el : E} {tg : Tg} {co : Oe} {env : Env} {τ : List D} {xs : List D}
def turnFK (Φ : Phi) (el : E) (co : Oe) (τ : List D) (o : Option Env) : R (Option D) := match o with
  | some env => elK Φ el env (evalC Φ co env τ)
  | none => .stuck
@[simp] theorem kr_turnFK : turnFK Φ el co τ (some env) = elK Φ el env (evalC Φ co env τ) := (rfl)
theorem kr_turnF' {d : D} : turnF Φ el tg co env d τ = turnFK Φ el co τ (bindT tg d env) := by
  unfold turnF
  cases bindT tg d env <;> rfl
@[simp] theorem wipe_nil : wipeE env [] = env := (rfl)
@[simp] theorem wipe_cons {i : Nat} {is : List Nat} : wipeE env (i :: is) = (wipeE env is).set i .un := (rfl)
theorem fm_congr {α β : Type} {f g : α → Option β} : ∀ {as : List α}, (∀ a ∈ as, f a = g a) → as.filterMap f = as.filterMap g
  | [], _ => rfl
  | a :: as, h => by
    rw [List.filterMap_cons, List.filterMap_cons, h a List.mem_cons_self, fm_congr fun b hb => h b (List.mem_cons_of_mem _ hb)]
theorem comp_map {α : Type} {enc : α → D} {as : List α} (g : α → D) (hl : as.length ≤ LIM) (h : ∀ a ∈ as, turnF Φ el tg co env (enc a) τ = .ok (some (g a)) τ) :
    compL (turnF Φ el tg co env) (as.map enc) [] τ = .ok (as.map g) τ := by
  have := compL_pure (f := turnF Φ el tg co env) (τ := τ) (xs := as.map enc) (acc := []) (g := fun x => match turnF Φ el tg co env x τ with | .ok y _ => y | _ => none) (by simpa using hl) (by
    intro x hx
    obtain ⟨a, ha, rfl⟩ := List.mem_map.mp hx
    rw [h a ha])
  rw [this]
  congr 1
  rw [List.nil_append, List.filterMap_map]
  have e : as.filterMap ((fun x => match turnF Φ el tg co env x τ with | .ok y _ => y | _ => none) ∘ enc) = as.filterMap (fun a => some (g a)) := fm_congr fun a ha => by
    show (match turnF Φ el tg co env (enc a) τ with | .ok y _ => y | _ => none) = _
    rw [h a ha]
  rw [e]
  simp
theorem comp_filter {α : Type} {enc : α → D} {as : List α} (p : α → Bool) (g : α → D) (hl : as.length ≤ LIM) (h : ∀ a ∈ as, turnF Φ el tg co env (enc a) τ = .ok (if p a then some (g a) else none) τ) :
    compL (turnF Φ el tg co env) (as.map enc) [] τ = .ok ((as.filter p).map g) τ := by
  have := compL_pure (f := turnF Φ el tg co env) (τ := τ) (xs := as.map enc) (acc := []) (g := fun x => match turnF Φ el tg co env x τ with | .ok y _ => y | _ => none) (by simpa using hl) (by
    intro x hx
    obtain ⟨a, ha, rfl⟩ := List.mem_map.mp hx
    rw [h a ha])
  rw [this]
  congr 1
  rw [List.nil_append, List.filterMap_map]
  have e : as.filterMap ((fun x => match turnF Φ el tg co env x τ with | .ok y _ => y | _ => none) ∘ enc) = as.filterMap (fun a => if p a then some (g a) else none) := fm_congr fun a ha => by
    show (match turnF Φ el tg co env (enc a) τ with | .ok y _ => y | _ => none) = _
    rw [h a ha]
  rw [e]
  clear this h e hl
  induction as with
  | nil => rfl
  | cons a as ih => by_cases hp : p a <;> simp [hp, ih]
end
/-! ### ranges -/
theorem rangeD_eq (lo : Int) (k : Nat) : rangeD lo k = (List.range k).map fun i => .int (lo + i) := by
  induction k generalizing lo with
  | zero => rfl
  | succ k ih => rw [rangeD, ih, List.range_succ_eq_map]; simp; intro a _; omega
theorem rangeD_0 (k : Nat) : rangeD 0 k = (List.range k).map fun i => .int (i : Int) := by rw [rangeD_eq]; simp
@[simp] theorem rngOk_nat {k : Nat} (h : k ≤ 1000000) : rngOk (k : Int) = true := by
  unfold rngOk
  have : (k : Int) ≤ 1000000 := by omega
  simp
  omega
theorem rngOk_int {j : Int} (h0 : 0 ≤ j) (h : j ≤ 1000000) : rngOk j = true := by
  unfold rngOk
  simp
  omega
end Vi
end
section
set_option Elab.async false
set_option linter.all false
set_option maxRecDepth 100000
set_option maxHeartbeats 1000000
/-! Vi34: tuples of ints, dicts with such keys, orders. -/
namespace Vi
open PySem PySem.Spec PyProof.Rows L2
abbrev dI (l : List Int) : D := .tup (l.map .int)
abbrev kI (l : List Int) : List Key := l.map .inl
section
variable {l k : List Int} {x y i j : Int} {n : Nat} {ds xs ys : List D} {d e v : D} {τ : List D} {env : Env}
theorem pysMap {α : Type} {f : α → D} {g : α → PyData} {as : List α} (h : ∀ a ∈ as, (f a).py = g a) : pys (as.map f) = as.map g := by
  induction as with
  | nil => simp [pys]
  | cons a as ih => rw [List.map_cons, pys, ih fun b hb => h b (List.mem_cons_of_mem _ hb), h a List.mem_cons_self, List.map_cons]
theorem pys_eq : ∀ {ds : List D}, pys ds = ds.map D.py
  | [] => by simp [pys]
  | d :: ds => by rw [pys, pys_eq (ds := ds)]; rfl
theorem plsAll : ∀ {n : Nat} {ds : List D}, (∀ d ∈ ds, d.pl n = true) → pls n ds = true
  | n, [], _ => by simp [pls]
  | n, d :: ds, h => by rw [pls, h d List.mem_cons_self, plsAll fun e he => h e (List.mem_cons_of_mem _ he)]; rfl
@[simp] theorem py_int : (D.int i).py = .int i := by rw [D.py]
@[simp] theorem py_tup : (D.tup ds).py = .tuple (pys ds) := by rw [D.py]
@[simp] theorem pl_int : (D.int i).pl n = true := by cases n <;> simp [D.pl]
@[simp] theorem pl_bl {b : Bool} : (D.bl b).pl n = true := by cases n <;> simp [D.pl]
@[simp] theorem pl_non : (D.non).pl n = true := by cases n <;> simp [D.pl]
@[simp] theorem pl_str {b : Str} : (D.str b).pl n = true := by cases n <;> simp [D.pl]
@[simp] theorem pl_tup : (D.tup ds).pl (n + 1) = pls n ds := by simp [D.pl]
theorem pls_ints : pls n (l.map .int) = true := plsAll fun d hd => by
  obtain ⟨a, _, rfl⟩ := List.mem_map.mp hd
  simp
theorem pys_ints : pys (l.map .int) = l.map PyData.int := pysMap fun a _ => by simp
theorem eqv_int : PyData.eqv (.int i) (.int j) = decide (i = j) := by
  rw [PyData.eqv]
  by_cases h : i = j <;> simp [h]
theorem eqv_ints : ∀ {l k : List Int}, PyData.eqvAll (l.map PyData.int) (k.map PyData.int) = decide (l = k)
  | [], [] => by simp [PyData.eqvAll]
  | [], _ :: _ => by simp [PyData.eqvAll]
  | _ :: _, [] => by simp [PyData.eqvAll]
  | x :: l, y :: k => by
    rw [List.map_cons, List.map_cons, PyData.eqvAll, eqv_ints, eqv_int]
    by_cases h : x = y <;> by_cases h2 : l = k <;> simp [h, h2]
@[simp] theorem plain_dI : D.plain (.tup (l.map .int)) = true := by unfold D.plain; rw [pl_tup, pls_ints]
@[simp] theorem plain_int : D.plain (.int i) = true := by unfold D.plain; simp
@[simp] theorem plains_dI : plains (l.map .int) = true := pls_ints
theorem cop_eqt : cmpop .eq (.tup (l.map .int)) (.tup (k.map .int)) = some (decide (l = k)) := by
  show deq (.tup (l.map .int)) (.tup (k.map .int)) = _
  unfold deq
  simp only [plain_dI, Bool.and_self, if_true, py_tup, pys_ints]
  rw [PyData.eqv, eqv_ints]
theorem cop_net : cmpop .ne (.tup (l.map .int)) (.tup (k.map .int)) = some (!decide (l = k)) := by
  show (deq (.tup (l.map .int)) (.tup (k.map .int))).map _ = _
  have := cop_eqt (l := l) (k := k)
  rw [show deq (.tup (l.map .int)) (.tup (k.map .int)) = some (decide (l = k)) from this]
  rfl
@[simp] theorem cop_in : cmpop .isin (.int x) (.tup (l.map .int)) = some (decide (x ∈ l)) := by
  show din (.int x) (.tup (l.map .int)) = _
  unfold din
  simp only [plain_int, plains_dI, Bool.and_self, if_true]
  congr 1
  induction l with
  | nil => simp
  | cons a l ih =>
    rw [List.map_cons, List.any_cons, ih, py_int, py_int, eqv_int]
    by_cases h : a = x <;> by_cases h2 : x ∈ l <;> simp [h, h2] <;> omega
@[simp] theorem keys_ints : keysOf (l.map .int) = some (l.map .inl) := by
  induction l with
  | nil => rfl
  | cons a l ih => rw [List.map_cons, keysOf, ih]; rfl
@[simp] theorem ints_map : intsOf (l.map .int) = some l := by
  induction l with
  | nil => rfl
  | cons a l ih => rw [List.map_cons, intsOf, ih]; rfl
@[simp] theorem bls_map {l : List Bool} : blsOf (l.map .bl) = some l := by
  induction l with
  | nil => rfl
  | cons a l ih => rw [List.map_cons, blsOf, ih]; rfl
@[simp] theorem ksD_kI : ksD (l.map .inl) = .tup (l.map .int) := by
  unfold ksD
  rw [List.map_map]
  rfl
theorem kI_inj (h : kI l = kI k) : l = k := by
  unfold kI at h
  exact List.map_inj_right (fun a b e => by cases e; rfl) |>.mp h
/-! dicts -/
section
variable {κ : Type} [DecidableEq κ] {kvs : List (κ × D)} {a b : κ}
theorem look_nil : look ([] : List (κ × D)) a = none := rfl
theorem look_cons {w : D} : look ((b, w) :: kvs) a = if b = a then some w else look kvs a := by
  unfold look
  by_cases h : b = a <;> simp [List.find?, h]
theorem look_append {k2 : List (κ × D)} : look (kvs ++ k2) a = (look kvs a).or (look k2 a) := by
  induction kvs with
  | nil => simp [look_nil]
  | cons p r ih =>
    obtain ⟨b, w⟩ := p
    rw [List.cons_append, look_cons, look_cons, ih]
    by_cases h : b = a <;> simp [h]
theorem look_none : look kvs a = none ↔ ∀ p ∈ kvs, p.1 ≠ a := by
  induction kvs with
  | nil => simp [look_nil]
  | cons p r ih =>
    obtain ⟨b, w⟩ := p
    rw [look_cons]
    by_cases h : b = a <;> simp [h, ih]
theorem look_mem (h : look kvs a = some v) : (a, v) ∈ kvs := by
  induction kvs with
  | nil => cases h
  | cons p r ih =>
    obtain ⟨b, w⟩ := p
    rw [look_cons] at h
    by_cases e : b = a
    · rw [if_pos e] at h; cases h; subst e; exact List.mem_cons_self
    · rw [if_neg e] at h; exact List.mem_cons_of_mem _ (ih h)
theorem look_map_put : look (kvs.map fun kv => if kv.1 = a then (kv.1, v) else kv) b = if a = b then (look kvs b).map fun _ => v else look kvs b := by
  induction kvs with
  | nil => simp [look_nil]
  | cons p r ih =>
    obtain ⟨c, w⟩ := p
    rw [List.map_cons]
    by_cases h : c = a
    · simp only [h, if_true]
      rw [look_cons, look_cons, ih]
      by_cases e : a = b <;> simp [e]
    · simp only [h, if_false]
      rw [look_cons, look_cons, ih]
      by_cases e : a = b
      · subst e; simp [h]
      · by_cases e2 : c = b <;> simp [e, e2]
theorem any_key : (kvs.any fun kv => decide (kv.1 = a)) = (look kvs a).isSome := by
  induction kvs with
  | nil => rfl
  | cons p r ih =>
    obtain ⟨b, w⟩ := p
    rw [List.any_cons, look_cons, ih]
    by_cases h : b = a <;> simp [h]
theorem look_put : look (put kvs a v) b = if a = b then some v else look kvs b := by
  unfold put
  rw [any_key]
  cases e : look kvs a with
  | some w =>
    simp only [Option.isSome_some, if_true]
    rw [look_map_put]
    by_cases h : a = b
    · subst h; simp [e]
    · simp [h]
  | none =>
    simp only [Option.isSome_none, Bool.false_eq_true, if_false]
    rw [look_append, look_cons, look_nil]
    by_cases h : a = b
    · subst h; simp [e]
    · simp [h]
theorem put_length : (put kvs a v).length ≤ kvs.length + 1 := by
  unfold put
  split <;> simp
theorem put_keys_mem {p : κ × D} (h : p ∈ put kvs a v) : p = (a, v) ∨ p ∈ kvs := by
  unfold put at h
  split at h
  · obtain ⟨q, hq, e⟩ := List.mem_map.mp h
    split at e
    · rename_i he; left; rw [← e, he]
    · right; rw [← e]; exact hq
  · rcases List.mem_append.mp h with h | h
    · exact .inr h
    · left; simpa using h
theorem put_nodup (h : (kvs.map Prod.fst).Nodup) : ((put kvs a v).map Prod.fst).Nodup := by
  unfold put
  split
  · have : (kvs.map fun kv => if kv.1 = a then (kv.1, v) else kv).map Prod.fst = kvs.map Prod.fst := by
      rw [List.map_map]
      refine List.map_congr_left fun p _ => ?_
      show (if p.1 = a then (p.1, v) else p).1 = p.1
      split <;> rfl
    rw [this]; exact h
  · rename_i hn
    rw [List.map_append, List.nodup_append]
    refine ⟨h, by simp, fun b hb c hc => ?_⟩
    have : c = a := by simpa using hc
    subst this
    intro e
    subst e
    obtain ⟨p, hp, e⟩ := List.mem_map.mp hb
    exact hn (List.any_eq_true.mpr ⟨p, hp, by simp [e]⟩)
theorem look_of_mem (h : (kvs.map Prod.fst).Nodup) (hm : (a, v) ∈ kvs) : look kvs a = some v := by
  induction kvs with
  | nil => cases hm
  | cons p r ih =>
    obtain ⟨b, w⟩ := p
    rw [List.map_cons, List.nodup_cons] at h
    rw [look_cons]
    rcases List.mem_cons.mp hm with e | hm
    · cases e; simp
    · have : b ≠ a := fun e => h.1 (e ▸ List.mem_map.mpr ⟨_, hm, rfl⟩)
      rw [if_neg this]
      exact ih h.2 hm
end
@[simp] theorem ix_dT {kt : List (List Key × D)} : ixop (.dT kt) (.tup (l.map .int)) = look kt (l.map .inl) := by
  show (keysOf (l.map .int)).bind (look kt) = _
  rw [keys_ints]; rfl
@[simp] theorem get_dT {kt : List (List Key × D)} : dgetop (.dT kt) (.tup (l.map .int)) d = some ((look kt (l.map .inl)).getD d) := by
  show (keysOf (l.map .int)).map _ = _
  rw [keys_ints]; rfl
theorem put_dT {p : Nat} {kt : List (List Key × D)} (h : env[p]? = some (.own (.dT kt))) (hl : kt.length < LIM) : putOut env (.var p) (.tup (l.map .int)) v τ = .next (env.set p (.own (.dT (put kt (l.map .inl) v)))) τ := by
  show (match env[p]? with | some (.fz .hand) => _ | _ => _) = _
  rw [h]
  show (match (getP env (.var p)).bind fun c => putop c (.tup (l.map .int)) v with | some c => _ | none => _) = _
  have e : (getP env (.var p)).bind (fun c => putop c (.tup (l.map .int)) v) = some (.dT (put kt (l.map .inl) v)) := by
    show (match env[p]? with | some (.own c) => some c | _ => none).bind _ = _
    rw [h]
    show (if kt.length < LIM then (keysOf (l.map .int)).map _ else none) = _
    rw [if_pos hl, keys_ints]; rfl
  rw [e]
  rfl
theorem put_dK {p : Nat} {kt : List (Key × D)} (h : env[p]? = some (.own (.dK kt))) (hl : kt.length < LIM) : putOut env (.var p) (.int i) v τ = .next (env.set p (.own (.dK (put kt (.inl i) v)))) τ := by
  show (match env[p]? with | some (.fz .hand) => _ | _ => _) = _
  rw [h]
  show (match (getP env (.var p)).bind fun c => putop c (.int i) v with | some c => _ | none => _) = _
  have e : (getP env (.var p)).bind (fun c => putop c (.int i) v) = some (.dK (put kt (.inl i) v)) := by
    show (match env[p]? with | some (.own c) => some c | _ => none).bind _ = _
    rw [h]
    show (if kt.length < LIM then _ else none) = _
    rw [if_pos hl]; rfl
  rw [e]
  rfl
theorem put_lst {p k : Nat} (h : env[p]? = some (.own (.lst xs))) (hl : k < xs.length) : putOut env (.var p) (.int k) v τ = .next (env.set p (.own (.lst (xs.set k v)))) τ := by
  show (match env[p]? with | some (.fz .hand) => _ | _ => _) = _
  rw [h]
  show (match (getP env (.var p)).bind fun c => putop c (.int k) v with | some c => _ | none => _) = _
  have e : (getP env (.var p)).bind (fun c => putop c (.int k) v) = some (.lst (xs.set k v)) := by
    show (match env[p]? with | some (.own c) => some c | _ => none).bind _ = _
    rw [h]
    show (ixN xs.length k).map _ = _
    rw [ixN_nat hl]; rfl
  rw [e]
  rfl
end
section
variable {α : Type} {as : List α} {xs : List D}
@[simp] theorem ints_fun {f : α → Int} : intsOf (as.map fun a => .int (f a)) = some (as.map f) := by
  induction as with
  | nil => rfl
  | cons a l ih => rw [List.map_cons, intsOf, ih]; rfl
@[simp] theorem bls_fun {f : α → Bool} : blsOf (as.map fun a => .bl (f a)) = some (as.map f) := by
  induction as with
  | nil => rfl
  | cons a l ih => rw [List.map_cons, blsOf, ih]; rfl
@[simp] theorem bi_sum1 : biop .sum [.lst xs] = (intsOf xs).map fun ns => .fz (.int ns.sum) := by
  rw [biop.eq_def]
  simp only [seqOf, Option.bind_some]
@[simp] theorem bi_sum2 : biop .sum [.tup xs] = (intsOf xs).map fun ns => .fz (.int ns.sum) := by
  rw [biop.eq_def]
  simp only [seqOf, Option.bind_some]
@[simp] theorem bi_all1 : biop .all [.lst xs] = (blsOf xs).map fun bs => .fz (.bl (bs.all id)) := (rfl)
@[simp] theorem isDict_T {kt : List (List Key × D)} : D.isDict (.dT kt) = true := (rfl)
@[simp] theorem isDict_K {kt : List (Key × D)} : D.isDict (.dK kt) = true := (rfl)
@[simp] theorem iter_tup : iterV (.fz (.tup xs)) = some xs := (rfl)
@[simp] theorem iter_ptup : iterV (.fz (.ptup xs)) = some xs := (rfl)
@[simp] theorem iter_lst : iterV (.fz (.lst xs)) = some xs := (rfl)
@[simp] theorem iter_own : iterV (.own (.lst xs)) = some xs := (rfl)
@[simp] theorem iter_ro : iterV (.ro (.lst xs)) = some xs := (rfl)
@[simp] theorem iter_scr {ns : List Int} : iterV (.fz (.scr ns)) = some (ns.map .int) := (rfl)
@[simp] theorem iter_dT {kt : List (List Key × D)} : iterV (.fz (.dT kt)) = some (kt.map fun kv => ksD kv.1) := (rfl)
@[simp] theorem ix_tup {i : Int} : ixop (.tup xs) (.int i) = atI xs i := (rfl)
@[simp] theorem ix_lst {i : Int} : ixop (.lst xs) (.int i) = atI xs i := (rfl)
@[simp] theorem ix_ptup {i : Int} : ixop (.ptup xs) (.int i) = atI xs i := (rfl)
@[simp] theorem ix_scr {ns : List Int} {i : Int} : ixop (.scr ns) (.int i) = (atI ns i).map .int := (rfl)
end
end Vi
end
section
set_option Elab.async false
set_option linter.all false
set_option maxRecDepth 100000
set_option maxHeartbeats 1000000
/-! Vi35: the laws' own helpers: what they draw. -/
namespace Vi
open PySem PySem.Spec PyProof.Rows L2
/-- what is taken from the hand -/
def takeV (ds : List Int) (k : Nat) (m : Int) : Int := match ds[k]? with
  | some d => (d.fdiv 7).fmod m
  | none => 0
theorem takeV_lo {ds : List Int} {k : Nat} {m : Int} (h : 0 < m) : 0 ≤ takeV ds k m := by
  unfold takeV
  split
  · exact Int.fmod_nonneg_of_pos _ h
  · exact Int.le_refl _
theorem takeV_hi {ds : List Int} {k : Nat} {m : Int} (h : 0 < m) : takeV ds k m < m := by
  unfold takeV
  split
  · exact Int.fmod_lt_of_pos _ h
  · exact h
def TakeS (o : Option Sem) : Prop := ∃ s, o = some s ∧ ∀ (ds : List Int) (k : Nat) (m : Int), m ≠ 0 → s [.fz .hand, .fz (.int m)] (handT ds k) = .ok (.fz (.int (takeV ds k m))) [.un, .un] (handT ds (k + 1))
theorem takeS (Φ : Phi) : TakeS (some (semDef Φ 0 2 2 irTake)) := ⟨_, rfl, fun ds k m hm => by
  by_cases h : ds.length ≤ k
  · have h2 : (ds.length : Int) ≤ k := by omega
    have h3 : ds[k]? = none := List.getElem?_eq_none h
    simp [semDef, irTake, handT, h, h2, hm, takeV, h3]
  · have h3 : ds[k]? = some (ds[k]'(by omega)) := List.getElem?_eq_getElem (by omega)
    have e : atI (ds.map D.int) (k : Int) = some (.int (ds[k]'(by omega))) := atI_nat (by simp [h3])
    have h2 : ¬ (ds.length : Int) ≤ k := by omega
    simp [semDef, irTake, handT, h, h2, hm, e, ixop, takeV, h3]⟩
/-! amounts -/
def irAmount : Ss := (.cons (.iff (.cmp .eq (.var 1) (.int 0)) (.cons (.ret (.bin .sub (.call "_law_take" (.cons (.var 0) (.cons (.int 5) .nil))) (.int 2)))
    .nil) .nil)
    (.cons (.asg (.name 2) (.bin .add (.bin .mul (.int 1000) (.call "_law_take" (.cons (.var 0) (.cons (.int 1000) .nil)))) (.call "_law_take" (.cons (.var 0) (.cons (.int 1000) .nil)))))
    (.cons (.ret (.ix (.lst (.cons (.var 2) (.cons (.bin .sub (.int 0) (.var 2)) .nil))) (.call "_law_take" (.cons (.var 0) (.cons (.int 2) .nil)))))
    .nil)))
def amountV (ds : List Int) (k : Nat) (w : Int) : Int := if w = 0 then takeV ds k 5 - 2 else
  if takeV ds (k + 2) 2 = 0 then 1000 * takeV ds k 1000 + takeV ds (k + 1) 1000 else 0 - (1000 * takeV ds k 1000 + takeV ds (k + 1) 1000)
def amountK (k : Nat) (w : Int) : Nat := if w = 0 then k + 1 else k + 3
def AmountS (o : Option Sem) : Prop := ∃ s, o = some s ∧ ∀ (ds : List Int) (k : Nat) (w : Int), s [.fz .hand, .fz (.int w)] (handT ds k) = .ok (.fz (.int (amountV ds k w))) [.un, .un] (handT ds (amountK k w))
@[simp] theorem handT_E {ds : List Int} {k : Nat} : (handT ds k).isEmpty = false := rfl
theorem amountS (Φ : Phi) (hT : TakeS (Φ.fn "_law_take")) : AmountS (some (semDef Φ 0 2 1 irAmount)) := ⟨_, rfl, fun ds k w => by
  obtain ⟨s, e, hT⟩ := hT
  by_cases h : w = 0
  · simp [semDef, irAmount, h, e, hT, amountV, amountK]
  · have l0 := takeV_lo (ds := ds) (k := k + 2) (m := 2) (by decide)
    have l1 := takeV_hi (ds := ds) (k := k + 2) (m := 2) (by decide)
    have b0 := takeV_lo (ds := ds) (k := k) (m := 1000) (by decide)
    have b1 := takeV_hi (ds := ds) (k := k) (m := 1000) (by decide)
    have hm : binop .mul (.int 1000) (.int (takeV ds k 1000)) = some (.fz (.int (1000 * takeV ds k 1000))) := bop_mull (by decide)
    rcases (show takeV ds (k + 2) 2 = 0 ∨ takeV ds (k + 2) 2 = 1 by omega) with q | q
    · simp [semDef, irAmount, h, e, hT, amountV, amountK, hm, q, ixop]
    · simp [semDef, irAmount, h, e, hT, amountV, amountK, hm, q, ixop]⟩
/-! all rows -/
def everyV : Nat → List (List Int)
  | 0 => [[]]
  | k + 1 => (everyV k).flatMap fun r => [r ++ [0], r ++ [1]]
theorem everyV_len : ∀ {k : Nat}, (everyV k).length = 2 ^ k
  | 0 => rfl
  | k + 1 => by
    rw [everyV, List.length_flatMap]
    simp [everyV_len (k := k), Nat.pow_succ, Nat.mul_comm, List.map_const', List.sum_replicate_nat]
theorem mem_everyV : ∀ {k : Nat} {r : List Int}, r ∈ everyV k ↔ r.length = k ∧ ∀ x ∈ r, x = 0 ∨ x = 1
  | 0, r => by simp [everyV]; intro h; simp [h]
  | k + 1, r => by
    rw [everyV, List.mem_flatMap]
    constructor
    · rintro ⟨a, ha, hr⟩
      have := mem_everyV.mp ha
      simp at hr
      rcases hr with rfl | rfl
      · refine ⟨by simp [this.1], fun x hx => ?_⟩
        rcases List.mem_append.mp hx with h | h
        · exact this.2 x h
        · left; simpa using h
      · refine ⟨by simp [this.1], fun x hx => ?_⟩
        rcases List.mem_append.mp hx with h | h
        · exact this.2 x h
        · right; simpa using h
    · rintro ⟨hl, hx⟩
      have hne : r ≠ [] := by intro e; subst e; simp at hl
      refine ⟨r.dropLast, mem_everyV.mpr ⟨by simp [hl], fun x h => hx x (List.dropLast_subset r h)⟩, ?_⟩
      have e := List.dropLast_concat_getLast hne
      rcases hx _ (List.getLast_mem hne) with h | h
      · rw [h] at e; simp [e]
      · rw [h] at e; simp [e]
def irEvery : Ss := (.cons (.asg (.name 1) (.fzn (.lst (.cons (.tup .nil) .nil))))
    (.cons (.for_ (.name 2) (.rng1 (.var 0)) (.cons (.asg (.name 3) (.lst .nil))
    (.cons (.for_ (.name 4) (.over (.var 1)) (.cons (.asg (.name 3) (.bin .add (.var 3) (.lst (.cons (.bin .add (.var 4) (.tup (.cons (.int 0) .nil))) (.cons (.bin .add (.var 4) (.tup (.cons (.int 1) .nil))) .nil)))))
    .nil))
    (.cons (.frz 3)
    (.cons (.asg (.name 1) (.var 3))
    .nil)))))
    (.cons (.ret (.var 1))
    .nil)))
def EveryS (o : Option Sem) : Prop := ∃ s, o = some s ∧ ∀ (m : Nat) (τ : List D), m ≤ 12 → s [.fz (.int m)] τ = .ok (.fz (.lst ((everyV m).map dI))) [.un] τ
theorem two_pow_12 {k : Nat} (h : k ≤ 12) : 2 ^ k ≤ 4096 := Nat.pow_le_pow_right (by decide) h
theorem everyS (Φ : Phi) : EveryS (some (semDef Φ 0 1 4 irEvery)) := ⟨_, rfl, fun m τ hm => by
  refine def_eq rfl rfl fun q T => ?_
  simp [irEvery, rngOk_nat (show m ≤ 1000000 by omega)]
  rw [rangeD_0]
  refine wp_list (fun pre env t => t = τ ∧ ∃ g2 g3 g4, env = [.fz (.int m), .fz (.lst ((everyV pre.length).map dI)), g2, g3, g4]) ⟨rfl, .un, .un, .un, rfl⟩ ?_ ?_
  · rintro pre a post hs env t ⟨rfl, g2, g3, g4, rfl⟩ q1 T1
    have hp : pre.length < 12 := by
      have := congrArg List.length hs
      simp at this
      omega
    simp
    refine wp_list (fun p2 env t' => t' = t ∧ ∃ g4, env = [.fz (.int m), .fz (.lst ((everyV pre.length).map dI)), .fz (.int a), .own (.lst ((p2.flatMap fun r => [r ++ [0], r ++ [1]]).map dI)), g4]) ⟨rfl, g4, rfl⟩ ?_ ?_
    · rintro p2 r po2 hs2 env t' ⟨rfl, g4', rfl⟩ q2 T2
      have hl : p2.length < 4096 := by
        have := congrArg List.length hs2
        rw [everyV_len] at this
        have h2 := two_pow_12 (show pre.length ≤ 12 by omega)
        simp at this
        omega
      have hrl : r.length ≤ 12 := by
        have := (mem_everyV.mp (hs2 ▸ List.mem_append_right _ List.mem_cons_self : r ∈ everyV pre.length)).1
        omega
      have hfl : (p2.flatMap fun r => [r ++ [(0 : Int)], r ++ [1]]).length = 2 * p2.length := by
        rw [List.length_flatMap]; simp [Nat.mul_comm, List.map_const', List.sum_replicate_nat]
      simp [hfl, show r.length + 1 ≤ 1000000 by omega, show 2 * p2.length + 2 ≤ 1000000 by omega]
      exact T2.N _ _ ⟨rfl, _, by simp <;> (repeat' apply And.intro) <;> rfl⟩
    · rintro env t' ⟨rfl, g4', rfl⟩
      simp
      exact T1.N _ _ ⟨rfl, _, _, _, by simp [everyV] <;> (repeat' apply And.intro) <;> rfl⟩
  · rintro env t ⟨rfl, g2, g3, g4, rfl⟩
    simp
    exact T.R _ _ ⟨by simp, rfl⟩⟩
end Vi
end
section
set_option Elab.async false
set_option linter.all false
set_option maxRecDepth 100000
set_option maxHeartbeats 1000000
/-! Vi36: the draws; worth; subsets; told sums. -/
namespace Vi
open PySem PySem.Spec PyProof.Rows L2
/-! draws -/
def irDraws : Ss := (.cons (.asg (.name 2) (.comp (.bi .abs (.cons (.bi .int (.cons (.var 5) .nil)) .nil)) (.name 5) (.over (.var 0)) .no [5]))
    (.cons (.asg (.name 3) (.lst .nil))
    (.cons (.for_ (.name 4) (.rng1 (.var 1)) (.cons (.frz 4)
    (.cons (.asg (.name 5) (.var 4))
    (.cons (.iff (.cmp .gt (.bi .len (.cons (.var 0) .nil)) (.int 0)) (.cons (.asg (.name 6) (.bin .mod (.var 4) (.bi .len (.cons (.var 0) .nil))))
    (.cons (.asg (.name 5) (.bi .int (.cons (.ix (.var 0) (.var 6)) .nil)))
    (.cons (.iff (.and (.cmp .ge (.var 5) (.bin .pow (.int 10) (.int 18))) (.cmp .gt (.ix (.var 2) (.var 6)) (.int 0))) (.cons (.app (.var 3) (.bin .mod (.bi .int (.cons (.ix (.var 2) (.var 6)) .nil)) (.int 1000003)))
    (.cons (.put (.var 2) (.var 6) (.bin .fdiv (.bi .int (.cons (.ix (.var 2) (.var 6)) .nil)) (.int 1000003)))
    (.cons (.cnt)
    .nil))) .nil)
    .nil))) .nil)
    (.cons (.asg (.name 7) (.bin .mod (.bi .int (.cons (.bin .add (.bin .add (.bin .mul (.var 5) (.int 48271)) (.bin .mul (.var 4) (.int 69621))) (.int 11)) .nil)) (.int 2147483647)))
    (.cons (.asg (.name 7) (.bin .mod (.bi .int (.cons (.bin .add (.bin .fdiv (.bin .mul (.var 7) (.var 7)) (.int 4096)) (.var 7)) .nil)) (.int 2147483629)))
    (.cons (.app (.var 3) (.bin .mod (.bi .int (.cons (.bin .add (.bin .fdiv (.bin .mul (.var 7) (.var 7)) (.int 4096)) (.bin .mul (.var 4) (.int 7919))) .nil)) (.int 2147483629)))
    .nil)))))))
    (.cons (.ret (.var 3))
    .nil))))
theorem sq_small {a b : Int} (h : 0 < b) (h2 : b < 2 ^ 64) : binop .mul (.int (a.fmod b)) (.int (a.fmod b)) = some (.fz (.int (a.fmod b * a.fmod b))) := by
  have h0 := Int.fmod_nonneg_of_pos a h
  have h1 := Int.fmod_lt_of_pos a h
  exact bop_mulr ⟨by omega, by omega⟩
@[simp] theorem sq_1 {a : Int} : binop .mul (.int (a.fmod 2147483647)) (.int (a.fmod 2147483647)) = some (.fz (.int (a.fmod 2147483647 * a.fmod 2147483647))) := sq_small (by decide) (by decide)
@[simp] theorem sq_2 {a : Int} : binop .mul (.int (a.fmod 2147483629)) (.int (a.fmod 2147483629)) = some (.fz (.int (a.fmod 2147483629 * a.fmod 2147483629))) := sq_small (by decide) (by decide)
@[simp] theorem pow_18 : binop .pow (.int 10) (.int 18) = some (.fz (.int 1000000000000000000)) := by
  show (if (0 : Int) ≤ 18 ∧ (18 : Int) ≤ 1000000 ∧ (10 : Int).natAbs < 2 ^ 64 then some (RV.fz (.int ((10 : Int) ^ (18 : Int).toNat))) else none) = _
  rw [if_pos (by decide)]
  rfl
theorem cut_mod {k n : Nat} (h : n ≠ 0) : (k : Int).fmod (n : Int) = ((k % n : Nat) : Int) := by
  rw [Int.fmod_eq_emod_of_nonneg _ (by omega)]
  rfl
def DrawsS (o : Option Sem) : Prop := ∃ s, o = some s ∧ ∀ (ns : List Int) (m : Nat) (τ : List D), ns.length ≤ 1000 → m ≤ 1000 → ∃ ds : List Int, s [.fz (.scr ns), .fz (.int m)] τ = .ok (.own (.lst (ds.map .int))) [.un, .un] τ
theorem drawsS (Φ : Phi) : DrawsS (some (semDef Φ 0 2 6 irDraws)) := ⟨_, rfl, fun ns m τ hn hm => by
  have hc : compL (turnF Φ (.bi .abs (.cons (.bi .int (.cons (.var 5) .nil)) .nil)) (.name 5) .no [.fz (.scr ns), .fz (.int m), .un, .un, .un, .un, .un, .un]) (ns.map D.int) [] τ = .ok (ns.map fun i => .int (if i < 0 then -i else i)) τ := comp_map _ (by simp; omega) fun a _ => by
    simp [kr_turnF']
  obtain ⟨v, t, e, ⟨ds, rfl⟩, rfl⟩ := def_ex (Φ := Φ) (n := 0) (np := 2) (m := 6) (b := irDraws) (args := [.fz (.scr ns), .fz (.int m)]) (τ := τ) (Q := fun r t => (∃ ds : List Int, r = .own (.lst (ds.map .int))) ∧ t = τ) rfl (fun _ _ h => by rw [h.2]) fun q T => by
    simp [irDraws, hc, rngOk_nat (show m ≤ 1000000 by omega)]
    rw [rangeD_0]
    refine wp_list (fun pre env t => t = τ ∧ ∃ rs ds : List Int, rs.length = ns.length ∧ ds.length = pre.length ∧ ∃ g4 g5 g6 g7, env = [.fz (.scr ns), .fz (.int m), .own (.lst (rs.map .int)), .own (.lst (ds.map .int)), g4, g5, g6, g7]) ⟨rfl, ns.map (fun i => if i < 0 then -i else i), [], by simp, rfl, .un, .un, .un, .un, by simp [Function.comp_def]⟩ ?_ ?_
    · rintro pre a post hs env t ⟨rfl, rs, ds, hr, hd, g4, g5, g6, g7, rfl⟩ q1 T1
      have hp : ds.length < 1000 := by
        have := congrArg List.length hs
        simp at this
        omega
      by_cases h0 : ns.length = 0
      · have h1 : ¬ 0 < ns.length := by omega
        simp [h1, show ds.length < 1000000 by omega]
        exact T1.N _ _ ⟨rfl, rs, ds ++ [_], hr, by simp [hd], _, _, _, _, by simp <;> (repeat' apply And.intro) <;> rfl⟩
      · have h1 : 0 < ns.length := by omega
        have h2 : ns ≠ [] := fun e => h0 (by rw [e]; rfl)
        obtain ⟨j, hlt, hj⟩ : ∃ j : Nat, j < ns.length ∧ (a : Int).fmod (ns.length : Int) = (j : Int) := ⟨a % ns.length, Nat.mod_lt _ h1, cut_mod h0⟩
        have hlr : j < rs.length := by omega
        have e1 : atI ns (j : Int) = some ns[j] := atI_nat (List.getElem?_eq_getElem hlt)
        have e2 : atI (rs.map D.int) (j : Int) = some (.int rs[j]) := atI_nat (by simp [List.getElem?_eq_getElem hlr])
        have l1 : ds.length < 1000000 := by omega
        by_cases c1 : 1000000000000000000 ≤ ns[j]
        · by_cases c2 : 0 < rs[j]
          · have p1 : ∀ x : D, putOut [.fz (.scr ns), .fz (.int m), .own (.lst (rs.map .int)), .own (.lst (ds.map .int ++ [.int (rs[j].fmod 1000003)])), .fz (.int a), .fz (.int ns[j]), .fz (.int j), g7] (.var 2) (.int j) x t = .next [.fz (.scr ns), .fz (.int m), .own (.lst ((rs.map .int).set j x)), .own (.lst (ds.map .int ++ [.int (rs[j].fmod 1000003)])), .fz (.int a), .fz (.int ns[j]), .fz (.int j), g7] t := fun x => put_lst (k := j) rfl (by simp; omega)
            simp [h1, h2, hj, e1, c1, c2, e2, l1, p1]
            exact T1.C _ _ ⟨rfl, rs.set j _, ds ++ [_], by simp [hr], by simp [hd], _, _, _, _, by simp <;> (repeat' apply And.intro) <;> rfl⟩
          · simp [h1, h2, hj, e1, c1, c2, e2, l1]
            exact T1.N _ _ ⟨rfl, rs, ds ++ [_], hr, by simp [hd], _, _, _, _, by simp <;> (repeat' apply And.intro) <;> rfl⟩
        · simp [h1, h2, hj, e1, c1, l1]
          exact T1.N _ _ ⟨rfl, rs, ds ++ [_], hr, by simp [hd], _, _, _, _, by simp <;> (repeat' apply And.intro) <;> rfl⟩
    · rintro env t ⟨rfl, rs, ds, hr, hd, g4, g5, g6, g7, rfl⟩
      simp
      exact T.R _ _ ⟨⟨ds, rfl⟩, rfl⟩
  exact ⟨ds, e⟩⟩
end Vi
end
section
set_option Elab.async false
set_option linter.all false
set_option maxRecDepth 100000
set_option maxHeartbeats 1000000
/-! the plain law of bent sums -/
namespace Vi
open PySem PySem.Spec PyProof.Rows L2
abbrev Told := List (List Int × Int)
def rowAt (row : List Int) (l : Int) : Int := row.getD l.toNat 0
def worthV (t : Told) (row : List Int) : Int := ((t.filter fun p => p.1.all fun l => decide (rowAt row l = 1)).map Prod.snd).sum
structure TGood (m : Nat) (t : Told) : Prop where
  up : ∀ p ∈ t, p.1.Pairwise (· < ·)
  bd : ∀ p ∈ t, ∀ l ∈ p.1, 0 ≤ l ∧ l < m
  l3 : ∀ p ∈ t, p.1.length ≤ 3
  nd : (t.map Prod.fst).Nodup
def secV (row : List Int) (x y : Int) (p : List Int × Int) : Int := if x ∈ p.1 ∧ y ∈ p.1 ∧ ∀ l ∈ p.1, l ≠ x → l ≠ y → rowAt row l = 1 then p.2 else 0
def abV (x y : Int) (p : List Int × Int) : Int := (if p.1 = [x, y] then p.2 else 0) + (if p.1.length = 3 ∧ x ∈ p.1 ∧ y ∈ p.1 then max 0 p.2 else 0)
theorem worth_nil {row : List Int} : worthV [] row = 0 := rfl
theorem worth_cons {row : List Int} {p : List Int × Int} {t : Told} : worthV (p :: t) row = (if ∀ l ∈ p.1, rowAt row l = 1 then p.2 else 0) + worthV t row := by
  unfold worthV
  by_cases h : ∀ l ∈ p.1, rowAt row l = 1
  · rw [List.filter_cons_of_pos (by simpa using h), if_pos h]; simp
  · rw [List.filter_cons_of_neg (by simpa using h), if_neg h]; simp
theorem rowAt_set {row : List Int} {x l : Int} (hx : 0 ≤ x) (hxl : x < row.length) (hl : 0 ≤ l) : rowAt (row.set x.toNat 1) l = if l = x then 1 else rowAt row l := by
  unfold rowAt
  rw [List.getD_eq_getElem?_getD, List.getD_eq_getElem?_getD, List.getElem?_set]
  by_cases h : l = x
  · subst h
    rw [if_pos rfl, if_pos rfl, if_pos (by omega)]; rfl
  · rw [if_neg (by omega), if_neg h]
theorem worth_second {row : List Int} {x y : Int} (hx : 0 ≤ x) (hxl : x < row.length) (hy : 0 ≤ y) (hyl : y < row.length) (hxy : x ≠ y) (x0 : rowAt row x = 0) (y0 : rowAt row y = 0) :
    ∀ {t : Told}, (∀ p ∈ t, ∀ l ∈ p.1, 0 ≤ l) → worthV t row + worthV t ((row.set x.toNat 1).set y.toNat 1) - (worthV t (row.set x.toNat 1) + worthV t (row.set y.toNat 1)) = (t.map (secV row x y)).sum
  | [], _ => by simp [worth_nil]
  | p :: t, h => by
    have ih := worth_second hx hxl hy hyl hxy x0 y0 (t := t) fun p hp => h p (List.mem_cons_of_mem _ hp)
    have hp := h p List.mem_cons_self
    have e0 : (∀ l ∈ p.1, rowAt row l = 1) ↔ (x ∉ p.1 ∧ y ∉ p.1 ∧ ∀ l ∈ p.1, l ≠ x → l ≠ y → rowAt row l = 1) := by
      constructor
      · intro q
        exact ⟨fun m => by have := q x m; omega, fun m => by have := q y m; omega, fun l m _ _ => q l m⟩
      · rintro ⟨a, b, c⟩ l hl
        exact c l hl (fun e => a (e ▸ hl)) fun e => b (e ▸ hl)
    have e1 : (∀ l ∈ p.1, rowAt (row.set x.toNat 1) l = 1) ↔ (y ∉ p.1 ∧ ∀ l ∈ p.1, l ≠ x → l ≠ y → rowAt row l = 1) := by
      constructor
      · intro q
        refine ⟨fun m => ?_, fun l m n1 n2 => ?_⟩
        · have := q y m
          rw [rowAt_set hx hxl hy, if_neg (Ne.symm hxy)] at this; omega
        · have := q l m
          rwa [rowAt_set hx hxl (hp l m), if_neg n1] at this
      · rintro ⟨a, c⟩ l hl
        rw [rowAt_set hx hxl (hp l hl)]
        by_cases e : l = x
        · rw [if_pos e]
        · rw [if_neg e]; exact c l hl e fun e => a (e ▸ hl)
    have e2 : (∀ l ∈ p.1, rowAt (row.set y.toNat 1) l = 1) ↔ (x ∉ p.1 ∧ ∀ l ∈ p.1, l ≠ x → l ≠ y → rowAt row l = 1) := by
      constructor
      · intro q
        refine ⟨fun m => ?_, fun l m n1 n2 => ?_⟩
        · have := q x m
          rw [rowAt_set hy hyl hx, if_neg hxy] at this; omega
        · have := q l m
          rwa [rowAt_set hy hyl (hp l m), if_neg n2] at this
      · rintro ⟨a, c⟩ l hl
        rw [rowAt_set hy hyl (hp l hl)]
        by_cases e : l = y
        · rw [if_pos e]
        · rw [if_neg e]; exact c l hl (fun e => a (e ▸ hl)) e
    have e3 : (∀ l ∈ p.1, rowAt ((row.set x.toNat 1).set y.toNat 1) l = 1) ↔ (∀ l ∈ p.1, l ≠ x → l ≠ y → rowAt row l = 1) := by
      constructor
      · intro q l m n1 n2
        have := q l m
        rwa [rowAt_set hy (by simpa using hyl) (hp l m), if_neg n2, rowAt_set hx hxl (hp l m), if_neg n1] at this
      · intro c l hl
        rw [rowAt_set hy (by simpa using hyl) (hp l hl)]
        by_cases e : l = y
        · rw [if_pos e]
        · rw [if_neg e, rowAt_set hx hxl (hp l hl)]
          by_cases e2 : l = x
          · rw [if_pos e2]
          · rw [if_neg e2]; exact c l hl e2 e
    rw [worth_cons, worth_cons, worth_cons, worth_cons, List.map_cons, List.sum_cons]
    simp only [e0, e1, e2, e3]
    rw [show secV row x y p = if x ∈ p.1 ∧ y ∈ p.1 ∧ ∀ l ∈ p.1, l ≠ x → l ≠ y → rowAt row l = 1 then p.2 else 0 from rfl]
    by_cases a : x ∈ p.1 <;> by_cases b : y ∈ p.1 <;> by_cases c : (∀ l ∈ p.1, l ≠ x → l ≠ y → rowAt row l = 1) <;> simp only [a, b, c, not_true, not_false_eq_true, true_and, false_and, and_true, and_false, if_true, if_false] <;> omega
/-- three rising letters at most, by how many -/
theorem letters_cases {ls : List Int} (h : ls.Pairwise (· < ·)) (h3 : ls.length ≤ 3) : ls = [] ∨ (∃ a, ls = [a]) ∨ (∃ a b, a < b ∧ ls = [a, b]) ∨ ∃ a b c, a < b ∧ b < c ∧ ls = [a, b, c] := by
  match ls, h, h3 with
  | [], _, _ => exact .inl rfl
  | [a], _, _ => exact .inr (.inl ⟨a, rfl⟩)
  | [a, b], h, _ => simp at h; exact .inr (.inr (.inl ⟨a, b, h, rfl⟩))
  | [a, b, c], h, _ => simp at h; exact .inr (.inr (.inr ⟨a, b, c, h.1.1, h.2, rfl⟩))
  | a :: b :: c :: d :: r, _, h3 => exact absurd h3 (by simp)
theorem sec_le {m : Nat} {t : Told} (g : TGood m t) {row : List Int} {x y : Int} (hxy : x < y) : ∀ p ∈ t, secV row x y p ≤ abV x y p := by
  intro p hp
  obtain ⟨ls, v⟩ := p
  unfold secV abV
  rcases letters_cases (g.up _ hp) (g.l3 _ hp) with e | ⟨a, e⟩ | ⟨a, b, hab, e⟩ | ⟨a, b, c, hab, hbc, e⟩ <;> simp only at e <;> subst e
  · simp
  · have : ¬ (x ∈ [a] ∧ y ∈ [a]) := by
      intro ⟨h1, h2⟩
      simp at h1 h2
      omega
    rw [if_neg fun z => this ⟨z.1, z.2.1⟩]; simp
  · simp only [List.length_cons, List.length_nil]
    by_cases q : [a, b] = [x, y]
    · simp at q
      obtain ⟨rfl, rfl⟩ := q
      simp
    · have : ¬ (x ∈ [a, b] ∧ y ∈ [a, b]) := by
        intro ⟨h1, h2⟩
        simp at h1 h2 q
        omega
      rw [if_neg fun z => this ⟨z.1, z.2.1⟩, if_neg q]; simp
  · have : ¬ ([a, b, c] = [x, y]) := by simp
    rw [if_neg this]
    by_cases q : x ∈ [a, b, c] ∧ y ∈ [a, b, c]
    · rw [if_pos (show ([a, b, c] : List Int).length = 3 ∧ _ from ⟨rfl, q⟩)]
      split <;> omega
    · rw [if_neg fun z => q ⟨z.1, z.2.1⟩, if_neg fun z => q z.2]; simp
theorem sum_le {α : Type} {f g : α → Int} : ∀ {t : List α}, (∀ p ∈ t, f p ≤ g p) → (t.map f).sum ≤ (t.map g).sum
  | [], _ => Int.le_refl _
  | p :: t, h => by
    have := sum_le (t := t) fun q hq => h q (List.mem_cons_of_mem _ hq)
    have := h p List.mem_cons_self
    simp only [List.map_cons, List.sum_cons]
    omega
open Classical in
/-- the row that brings a pair's worth to its most -/
noncomputable def bestRow (m : Nat) (t : Told) (x y : Int) : List Int := (List.range m).map fun (z : Nat) => if (z : Int) ≠ x ∧ (z : Int) ≠ y ∧ ∃ p ∈ t, p.1.length = 3 ∧ x ∈ p.1 ∧ y ∈ p.1 ∧ (z : Int) ∈ p.1 ∧ 0 < p.2 then 1 else 0
open Classical in
theorem bestRow_at {m : Nat} {t : Told} {x y z : Int} (h0 : 0 ≤ z) (h1 : z < m) : rowAt (bestRow m t x y) z = if z ≠ x ∧ z ≠ y ∧ ∃ p ∈ t, p.1.length = 3 ∧ x ∈ p.1 ∧ y ∈ p.1 ∧ z ∈ p.1 ∧ 0 < p.2 then 1 else 0 := by
  unfold rowAt bestRow
  rw [List.getD_eq_getElem?_getD, List.getElem?_map, List.getElem?_range (by omega)]
  have : ((z.toNat : Nat) : Int) = z := Int.toNat_of_nonneg h0
  simp only [Option.map_some, Option.getD_some, this]
theorem bestRow_mem {m : Nat} {t : Told} {x y : Int} : bestRow m t x y ∈ everyV m := mem_everyV.mpr ⟨by simp [bestRow], fun v hv => by
  obtain ⟨z, _, rfl⟩ := List.mem_map.mp hv
  split
  · exact .inr rfl
  · exact .inl rfl⟩
theorem nodup_fst {t : Told} (h : (t.map Prod.fst).Nodup) {ls : List Int} {u v : Int} (hu : (ls, u) ∈ t) (hv : (ls, v) ∈ t) : u = v := by
  induction t with
  | nil => cases hu
  | cons p t ih =>
    rw [List.map_cons, List.nodup_cons] at h
    rcases List.mem_cons.mp hu with e | hu <;> rcases List.mem_cons.mp hv with e' | hv
    · rw [← e'] at e; exact congrArg Prod.snd e
    · exact absurd (List.mem_map.mpr ⟨_, hv, by rw [← e]⟩) h.1
    · exact absurd (List.mem_map.mpr ⟨_, hu, by rw [← e']⟩) h.1
    · exact ih h.2 hu hv
theorem sec_best {m : Nat} {t : Told} (g : TGood m t) {x y : Int} (hxy : x < y) : ∀ p ∈ t, secV (bestRow m t x y) x y p = abV x y p := by
  intro p hp
  obtain ⟨ls, v⟩ := p
  have hb := g.bd _ hp
  unfold secV abV
  rcases letters_cases (g.up _ hp) (g.l3 _ hp) with e | ⟨a, e⟩ | ⟨a, b, hab, e⟩ | ⟨a, b, c, hab, hbc, e⟩ <;> simp only at e <;> subst e
  · simp
  · have : ¬ (x ∈ [a] ∧ y ∈ [a]) := by
      intro ⟨h1, h2⟩
      simp at h1 h2
      omega
    rw [if_neg fun z => this ⟨z.1, z.2.1⟩]; simp
  · simp only [List.length_cons, List.length_nil]
    by_cases q : [a, b] = [x, y]
    · simp at q
      obtain ⟨rfl, rfl⟩ := q
      simp
    · have : ¬ (x ∈ [a, b] ∧ y ∈ [a, b]) := by
        intro ⟨h1, h2⟩
        simp at h1 h2 q
        omega
      rw [if_neg fun z => this ⟨z.1, z.2.1⟩, if_neg q]; simp
  · have : ¬ ([a, b, c] = [x, y]) := by simp
    rw [if_neg this]
    by_cases q : x ∈ [a, b, c] ∧ y ∈ [a, b, c]
    · rw [if_pos (show ([a, b, c] : List Int).length = 3 ∧ _ from ⟨rfl, q⟩)]
      by_cases hv : 0 < v
      · rw [if_pos]
        · omega
        · refine ⟨q.1, q.2, fun l hl n1 n2 => ?_⟩
          rw [bestRow_at (hb l hl).1 (hb l hl).2, if_pos ⟨n1, n2, _, hp, rfl, q.1, q.2, hl, hv⟩]
      · rw [if_neg]
        · omega
        · rintro ⟨_, _, hR⟩
          have third : ∃ l ∈ [a, b, c], l ≠ x ∧ l ≠ y := by
            obtain ⟨q1, q2⟩ := q
            simp at q1 q2 ⊢
            omega
          obtain ⟨l, hl, n1, n2⟩ := third
          have h1 := hR l hl n1 n2
          rw [bestRow_at (hb l hl).1 (hb l hl).2] at h1
          split at h1
          · rename_i z
            obtain ⟨_, _, ⟨ls', v'⟩, hp', l3', m1, m2, m3, pos⟩ := z
            have : ls' = [a, b, c] := by
              simp only at l3' m1 m2 m3
              rcases letters_cases (g.up _ hp') (g.l3 _ hp') with e | ⟨_, e⟩ | ⟨_, _, _, e⟩ | ⟨a', b', c', h1', h2', e⟩ <;> simp only at e <;> subst e
              · simp at l3'
              · simp at l3'
              · simp at l3'
              · obtain ⟨q1, q2⟩ := q
                simp at m1 m2 m3 q1 q2 hl ⊢
                omega
            subst this
            have := nodup_fst g.nd hp hp'
            omega
          · omega
    · rw [if_neg fun z => q ⟨z.1, z.2.1⟩, if_neg fun z => q z.2]; simp
def RowsOk (m : Nat) (t : Told) : Prop := ∀ row ∈ everyV m, ∀ x y : Int, 0 ≤ x → x < y → y < m → rowAt row x = 0 → rowAt row y = 0 → worthV t row + worthV t ((row.set x.toNat 1).set y.toNat 1) ≤ worthV t (row.set x.toNat 1) + worthV t (row.set y.toNat 1)
def PairsOk (m : Nat) (t : Told) : Prop := ∀ x y : Int, 0 ≤ x → x < y → y < m → (t.map (abV x y)).sum ≤ 0
theorem rows_pairs {m : Nat} {t : Told} (g : TGood m t) : RowsOk m t ↔ PairsOk m t := by
  have nn : ∀ p ∈ t, ∀ l ∈ p.1, (0 : Int) ≤ l := fun p hp l hl => (g.bd p hp l hl).1
  constructor
  · intro h x y h0 hxy hy
    have hm := bestRow_mem (m := m) (t := t) (x := x) (y := y)
    have hl := (mem_everyV.mp hm).1
    have z1 : rowAt (bestRow m t x y) x = 0 := by rw [bestRow_at h0 (by omega), if_neg (fun z => z.1 rfl)]
    have z2 : rowAt (bestRow m t x y) y = 0 := by rw [bestRow_at (by omega) hy, if_neg (fun z => z.2.1 rfl)]
    have := h _ hm x y h0 hxy hy z1 z2
    have e := worth_second h0 (by omega) (by omega) (by omega) (by omega) z1 z2 nn
    rw [List.map_congr_left (sec_best g hxy)] at e
    omega
  · intro h row hm x y h0 hxy hy z1 z2
    have hl := (mem_everyV.mp hm).1
    have e := worth_second h0 (by omega) (by omega) (by omega) (by omega) z1 z2 nn
    have := sum_le (sec_le g (row := row) hxy)
    have := h x y h0 hxy hy
    omega
/-! is_bent -/
def pairsV : List Int → List (List Int)
  | [] => []
  | a :: r => r.map (fun b => [a, b]) ++ pairsV r
def bentV (q : List Int) (p : List Int × Int) : Int := if p.1.length = 2 ∨ 0 < p.2 then (pairsV p.1).count q * p.2 else 0
def BentOk (t : Told) : Prop := ∀ q : List Int, (t.map (bentV q)).sum ≤ 0
theorem bent_ab {m : Nat} {t : Told} (g : TGood m t) {x y : Int} (hxy : x < y) : ∀ p ∈ t, bentV [x, y] p = abV x y p := by
  intro p hp
  obtain ⟨ls, v⟩ := p
  unfold bentV abV
  rcases letters_cases (g.up _ hp) (g.l3 _ hp) with e | ⟨a, e⟩ | ⟨a, b, hab, e⟩ | ⟨a, b, c, hab, hbc, e⟩ <;> simp only at e <;> subst e
  · simp [pairsV]
  · simp [pairsV]
  · simp only [pairsV, List.map_cons, List.map_nil, List.append_nil, List.length_cons, List.length_nil, List.count_cons, List.count_nil]
    by_cases q : [a, b] = [x, y]
    · simp [q]
    · have : ¬ (a = x ∧ b = y) := by simpa using q
      simp [q, this]
  · simp only [pairsV, List.map_cons, List.map_nil, List.append_nil, List.length_cons, List.length_nil, List.count_cons, List.count_nil, List.cons_append, List.nil_append]
    have c1 : ([a, b] == [x, y]) = decide (a = x ∧ b = y) := by by_cases h1 : a = x <;> by_cases h2 : b = y <;> simp [h1, h2]
    have c2 : ([a, c] == [x, y]) = decide (a = x ∧ c = y) := by by_cases h1 : a = x <;> by_cases h2 : c = y <;> simp [h1, h2]
    have c3 : ([b, c] == [x, y]) = decide (b = x ∧ c = y) := by by_cases h1 : b = x <;> by_cases h2 : c = y <;> simp [h1, h2]
    rw [c1, c2, c3]
    have i1 : (x ∈ [a, b, c]) ↔ (x = a ∨ x = b ∨ x = c) := by simp
    have i2 : (y ∈ [a, b, c]) ↔ (y = a ∨ y = b ∨ y = c) := by simp
    simp only [i1, i2]
    rw [if_neg (show ¬ [a, b, c] = [x, y] by simp)]
    by_cases q1 : a = x ∧ b = y
    · obtain ⟨rfl, rfl⟩ := q1
      have n1 : ¬ c = b := by omega
      have n2 : ¬ b = a := by omega
      simp [n1, n2]; split <;> omega
    · by_cases q2 : a = x ∧ c = y
      · obtain ⟨rfl, rfl⟩ := q2
        have n1 : ¬ b = c := by omega
        have n2 : ¬ b = a := by omega
        simp [n1, n2]; split <;> omega
      · by_cases q3 : b = x ∧ c = y
        · obtain ⟨rfl, rfl⟩ := q3
          have n1 : ¬ b = c := by omega
          have n2 : ¬ a = b := by omega
          simp [n1, n2]; split <;> omega
        · have : ¬ ((x = a ∨ x = b ∨ x = c) ∧ (y = a ∨ y = b ∨ y = c)) := by omega
          simp [q1, q2, q3, this]
theorem bent_not {m : Nat} {t : Told} (g : TGood m t) {q : List Int} (h : ∀ x y : Int, x < y → 0 ≤ x → y < m → q ≠ [x, y]) : ∀ p ∈ t, bentV q p = 0 := by
  intro p hp
  obtain ⟨ls, v⟩ := p
  have hb := g.bd _ hp
  have : (pairsV ls).count q = 0 := by
    rw [List.count_eq_zero]
    rcases letters_cases (g.up _ hp) (g.l3 _ hp) with e | ⟨a, e⟩ | ⟨a, b, hab, e⟩ | ⟨a, b, c, hab, hbc, e⟩ <;> simp only at e <;> subst e
    · simp [pairsV]
    · simp [pairsV]
    · simp only [pairsV, List.map_cons, List.map_nil, List.append_nil, List.mem_singleton]
      exact h a b hab (hb a (by simp)).1 (hb b (by simp)).2
    · have b1 := hb a (by simp)
      have b2 := hb b (by simp)
      have b3 := hb c (by simp)
      simp only [pairsV, List.map_cons, List.map_nil, List.append_nil, List.cons_append, List.nil_append, List.mem_cons, List.not_mem_nil, or_false, not_or]
      exact ⟨h a b hab b1.1 b2.2, h a c (by omega) b1.1 b3.2, h b c hbc b2.1 b3.2⟩
  unfold bentV
  rw [this]
  simp
theorem sum_zero {α : Type} {f : α → Int} : ∀ {t : List α}, (∀ p ∈ t, f p = 0) → (t.map f).sum = 0
  | [], _ => rfl
  | p :: t, h => by
    rw [List.map_cons, List.sum_cons, h p List.mem_cons_self, sum_zero fun q hq => h q (List.mem_cons_of_mem _ hq)]
    rfl
theorem bent_pairs {m : Nat} {t : Told} (g : TGood m t) : BentOk t ↔ PairsOk m t := by
  constructor
  · intro h x y h0 hxy hy
    have := h [x, y]
    rwa [List.map_congr_left (bent_ab g hxy)] at this
  · intro h q
    by_cases e : ∃ x y : Int, x < y ∧ 0 ≤ x ∧ y < m ∧ q = [x, y]
    · obtain ⟨x, y, hxy, h0, hy, rfl⟩ := e
      rw [List.map_congr_left (bent_ab g hxy)]
      exact h x y h0 hxy hy
    · rw [sum_zero (bent_not g fun x y a b c d => e ⟨x, y, a, b, c, d⟩)]
      exact Int.le_refl _
end Vi
end
section
set_option Elab.async false
set_option linter.all false
set_option maxRecDepth 100000
set_option maxHeartbeats 1000000
/-! Vi37: worth; subsets; told sums. -/
namespace Vi
open PySem PySem.Spec PyProof.Rows L2
abbrev encP (p : List Int × Int) : D := .tup [dI p.1, .int p.2]
abbrev encT (t : Told) : List D := t.map encP
theorem at_row {row : List Int} {l : Int} (h0 : 0 ≤ l) (h1 : l < row.length) : atI (row.map D.int) l = some (.int (rowAt row l)) := by
  refine atI_int h0 ?_
  rw [List.getElem?_map, List.getElem?_eq_getElem (show l.toNat < row.length by omega)]
  unfold rowAt
  rw [List.getD_eq_getElem?_getD, List.getElem?_eq_getElem (show l.toNat < row.length by omega)]
  rfl
theorem at_rowN {row : List Int} {k : Nat} (h1 : k < row.length) : atI (row.map D.int) (k : Int) = some (.int (rowAt row k)) := at_row (by omega) (by omega)
/-! worth -/
def irWorth : Ss := (.cons (.ret (.bi .sum (.cons (.comp (.var 3) (.tup (.cons (.name 2) (.cons (.name 3) .nil))) (.over (.var 0)) (.yes (.bi .all (.cons (.comp (.cmp .eq (.ix (.var 1) (.var 4)) (.int 1)) (.name 4) (.over (.var 2)) .no [4]) .nil))) [2, 3]) .nil)))
    .nil)
def WorthS (o : Option Sem) : Prop := ∃ s, o = some s ∧ ∀ (c : D) (t : Told) (row : List Int) (τ : List D), iterV (.fz c) = some (encT t) → t.length ≤ LIM → (∀ p ∈ t, p.1.length ≤ LIM ∧ ∀ l ∈ p.1, 0 ≤ l ∧ l < row.length) →
  s [.fz c, .fz (dI row)] τ = .ok (.fz (.int (worthV t row))) [.un, .un] τ
theorem worth_run {Φ : Phi} {row l : List Int} {τ : List D} {env : Env} (h1 : env[1]? = some (.fz (dI row))) (h4 : 4 < env.length) (hl : l.length ≤ LIM) (hb : ∀ i ∈ l, 0 ≤ i ∧ i < row.length) :
    compL (turnF Φ (.cmp .eq (.ix (.var 1) (.var 4)) (.int 1)) (.name 4) .no env) (l.map .int) [] τ = .ok (l.map fun i => .bl (decide (rowAt row i = 1))) τ := comp_map _ hl fun i hi => by
  have := at_row (hb i hi).1 (hb i hi).2
  simp [kr_turnF', List.getElem?_set, h1, h4, this]
theorem worthS (Φ : Phi) : WorthS (some (semDef Φ 0 2 3 irWorth)) := ⟨_, rfl, fun c t row τ hc hl hb => by
  have key : compL (turnF Φ (.var 3) (.tup (.cons (.name 2) (.cons (.name 3) .nil))) (.yes (.bi .all (.cons (.comp (.cmp .eq (.ix (.var 1) (.var 4)) (.int 1)) (.name 4) (.over (.var 2)) .no [4]) .nil))) [.fz c, .fz (dI row), .un, .un, .un]) (t.map encP) [] τ =
      .ok ((t.filter fun p => p.1.all fun l => decide (rowAt row l = 1)).map fun p => .int p.2) τ := comp_filter (fun p => p.1.all fun l => decide (rowAt row l = 1)) (fun p => .int p.2) hl fun p hp => by
    have := worth_run (Φ := Φ) (τ := τ) (env := [.fz c, .fz (dI row), .fz (dI p.1), .fz (.int p.2), .un]) rfl (by simp) (hb p hp).1 (hb p hp).2
    simp [kr_turnF', this]
    by_cases q : ∀ l ∈ p.1, rowAt row l = 1
    · have e1 : (p.1.all fun l => decide (rowAt row l = 1)) = true := by simpa using q
      simp [e1, q]
      exact q
    · have e1 : (p.1.all fun l => decide (rowAt row l = 1)) = false := by simpa using q
      simp [e1, q]
  simp [semDef, irWorth, hc, key, worthV]⟩
/-! subsets -/
def irSubsets : Ss := (.cons (.asg (.name 2) (.lst .nil))
    (.cons (.for_ (.name 3) (.over (.call "_law_every" (.cons (.var 0) .nil))) (.cons (.iff (.cmp .le (.bi .sum (.cons (.var 3) .nil)) (.var 1)) (.cons (.app (.var 2) (.bi .tuple (.cons (.comp (.var 4) (.name 4) (.rng1 (.var 0)) (.yes (.cmp .eq (.ix (.var 3) (.var 4)) (.int 1))) [4]) .nil)))
    .nil) .nil)
    .nil))
    (.cons (.ret (.var 2))
    .nil)))
def lettersOf (m : Nat) (row : List Int) : List Int := ((List.range m).filter fun (k : Nat) => decide (rowAt row k = 1)).map fun (k : Nat) => (k : Int)
def subsetsV (m : Nat) (most : Int) : List (List Int) := ((everyV m).filter fun row => decide (row.sum ≤ most)).map (lettersOf m)
def SubsetsS (o : Option Sem) : Prop := ∃ s, o = some s ∧ ∀ (m : Nat) (most : Int) (τ : List D), m ≤ 12 → s [.fz (.int m), .fz (.int most)] τ = .ok (.own (.lst ((subsetsV m most).map dI))) [.un, .un] τ
theorem subsetsS (Φ : Phi) (hE : EveryS (Φ.fn "_law_every")) : SubsetsS (some (semDef Φ 0 2 3 irSubsets)) := ⟨_, rfl, fun m most τ hm => by
  obtain ⟨s, e, hE⟩ := hE
  refine def_eq rfl rfl fun q T => ?_
  simp [irSubsets, e, hE, hm]
  refine wp_list (fun pre env t => t = τ ∧ ∃ g3 g4, env = [.fz (.int m), .fz (.int most), .own (.lst (((pre.filter fun row => decide (row.sum ≤ most)).map (lettersOf m)).map dI)), g3, g4]) ⟨rfl, .un, .un, rfl⟩ ?_ ?_
  · rintro pre row post hs env t ⟨rfl, g3, g4, rfl⟩ q1 T1
    have hr := mem_everyV.mp (hs ▸ List.mem_append_right _ List.mem_cons_self : row ∈ everyV m)
    have hl : (pre.filter fun row => decide (row.sum ≤ most)).length < 1000000 := by
      have := congrArg List.length hs
      rw [everyV_len] at this
      have h2 := two_pow_12 hm
      have h3 := List.length_filter_le (fun row : List Int => decide (row.sum ≤ most)) pre
      simp at this
      omega
    have hr0 : rangeD 0 m = (List.range m).map fun (i : Nat) => .int (i : Int) := rangeD_0 m
    have key : compL (turnF Φ (.var 4) (.name 4) (.yes (.cmp .eq (.ix (.var 3) (.var 4)) (.int 1))) [.fz (.int m), .fz (.int most), .own (.lst ((pre.filter fun row => decide (row.sum ≤ most)).map fun x => dI (lettersOf m x))), .fz (dI row), .un]) ((List.range m).map fun (i : Nat) => .int (i : Int)) [] t = .ok (((List.range m).filter fun (k : Nat) => decide (rowAt row k = 1)).map fun (k : Nat) => .int (k : Int)) t :=
      comp_filter (enc := fun (i : Nat) => D.int (i : Int)) (fun (k : Nat) => decide (rowAt row k = 1)) (fun (k : Nat) => .int (k : Int)) (by simp; omega) fun k hk => by
        have hk' : k < row.length := by rw [hr.1]; simpa using hk
        have := at_rowN hk'
        by_cases c : rowAt row k = 1 <;> simp [kr_turnF', this, c]
    by_cases c : row.sum ≤ most
    · simp [c, hr0, rngOk_nat (show m ≤ 1000000 by omega), Function.comp_def, key, hl]
      exact T1.N _ _ ⟨rfl, _, _, by simp [c, lettersOf, Function.comp_def] <;> (repeat' apply And.intro) <;> rfl⟩
    · simp [c]
      exact T1.N _ _ ⟨rfl, _, _, by simp [c, Function.comp_def] <;> (repeat' apply And.intro) <;> rfl⟩
  · rintro env t ⟨rfl, g3, g4, rfl⟩
    simp
    exact T.R _ _ ⟨by simp [subsetsV, Function.comp_def], rfl⟩⟩
end Vi
end
section
set_option Elab.async false
set_option linter.all false
set_option maxRecDepth 100000
set_option maxHeartbeats 1000000
/-! Vi38: numbers told by letters, as a dict and as a tuple. -/
namespace Vi
open PySem PySem.Spec PyProof.Rows L2
abbrev encN (t : Told) : List (List Key × D) := t.map fun p => (kI p.1, .int p.2)
def gget (t : Told) (l : List Int) : Option Int := (t.find? fun p => decide (p.1 = l)).map (·.2)
def gput (t : Told) (l : List Int) (v : Int) : Told := if t.any (fun p => decide (p.1 = l)) then t.map fun p => if p.1 = l then (p.1, v) else p else t ++ [(l, v)]
section
variable {t : Told} {l k : List Int} {v w : Int} {m : Nat}
theorem gget_nil : gget [] l = none := rfl
theorem gget_cons {p : List Int × Int} : gget (p :: t) l = if p.1 = l then some p.2 else gget t l := by
  unfold gget
  by_cases h : p.1 = l <;> simp [List.find?, h]
theorem look_encN : look (encN t) (kI l) = (gget t l).map D.int := by
  induction t with
  | nil => rfl
  | cons p t ih =>
    rw [gget_cons, show encN (p :: t) = (kI p.1, .int p.2) :: encN t from rfl, look_cons, ih]
    by_cases h : p.1 = l
    · rw [if_pos (by rw [h]), if_pos h]; rfl
    · rw [if_neg fun e => h (kI_inj e), if_neg h]
theorem put_encN : put (encN t) (kI l) (.int v) = encN (gput t l v) := by
  have e : (encN t).any (fun kv => decide (kv.1 = kI l)) = t.any fun p => decide (p.1 = l) := by
    rw [List.any_map]
    congr 1
    funext p
    show decide (kI p.1 = kI l) = decide (p.1 = l)
    by_cases h : p.1 = l
    · simp [h]
    · have : ¬ kI p.1 = kI l := fun e => h (kI_inj e)
      rw [decide_eq_false this, decide_eq_false h]
  unfold put gput
  rw [e]
  split
  · show List.map _ (List.map _ t) = List.map _ (List.map _ t)
    rw [List.map_map, List.map_map]
    refine List.map_congr_left fun p _ => ?_
    show (if kI p.1 = kI l then (kI p.1, D.int v) else (kI p.1, .int p.2)) = _
    by_cases h : p.1 = l
    · rw [if_pos (by rw [h])]
      simp [h]
    · rw [if_neg fun e => h (kI_inj e)]
      simp [h]
  · simp
theorem gany : (t.any fun p => decide (p.1 = l)) = (gget t l).isSome := by
  induction t with
  | nil => rfl
  | cons p t ih =>
    rw [List.any_cons, gget_cons, ih]
    by_cases h : p.1 = l <;> simp [h]
theorem gget_mem (h : gget t l = some v) : (l, v) ∈ t := by
  induction t with
  | nil => cases h
  | cons p t ih =>
    rw [gget_cons] at h
    by_cases e : p.1 = l
    · rw [if_pos e] at h; cases h; subst e; exact List.mem_cons_self
    · rw [if_neg e] at h; exact List.mem_cons_of_mem _ (ih h)
theorem gget_of (h : (t.map Prod.fst).Nodup) (hm : (l, v) ∈ t) : gget t l = some v := by
  induction t with
  | nil => cases hm
  | cons p t ih =>
    rw [List.map_cons, List.nodup_cons] at h
    rw [gget_cons]
    rcases List.mem_cons.mp hm with e | hm
    · rw [← e]; simp
    · have : p.1 ≠ l := fun e => h.1 (e ▸ List.mem_map.mpr ⟨_, hm, rfl⟩)
      rw [if_neg this]
      exact ih h.2 hm
theorem gget_append {t2 : Told} : gget (t ++ t2) l = (gget t l).or (gget t2 l) := by
  induction t with
  | nil => simp [gget_nil]
  | cons p r ih =>
    rw [List.cons_append, gget_cons, gget_cons, ih]
    by_cases h : p.1 = l <;> simp [h]
theorem gget_map : gget (t.map fun p => if p.1 = l then (p.1, v) else p) k = if l = k then (gget t k).map fun _ => v else gget t k := by
  induction t with
  | nil => simp [gget_nil]
  | cons p r ih =>
    rw [List.map_cons, gget_cons, gget_cons, ih]
    by_cases h : p.1 = l
    · by_cases e : l = k <;> simp [h, e]
    · by_cases e : l = k
      · subst e; simp [h]
      · by_cases e2 : p.1 = k
        · rw [if_neg h, if_pos e2, if_neg e, if_pos e2]
        · rw [if_neg h, if_neg e2, if_neg e2, if_neg e]
theorem gget_gput : gget (gput t l v) k = if l = k then some v else gget t k := by
  unfold gput
  rw [gany]
  cases e : gget t l with
  | some w =>
    simp only [Option.isSome_some, if_true]
    rw [gget_map]
    by_cases h : l = k
    · subst h; simp [e]
    · simp [h]
  | none =>
    simp only [Option.isSome_none, Bool.false_eq_true, if_false]
    rw [gget_append, gget_cons, gget_nil]
    by_cases h : l = k
    · subst h; simp [e]
    · simp [h]
theorem gput_length : (gput t l v).length ≤ t.length + 1 := by
  unfold gput
  split <;> simp
theorem gput_mem {p : List Int × Int} (h : p ∈ gput t l v) : p = (l, v) ∨ p ∈ t := by
  unfold gput at h
  split at h
  · obtain ⟨q, hq, e⟩ := List.mem_map.mp h
    split at e
    · rename_i he; left; rw [← e, he]
    · right; rw [← e]; exact hq
  · rcases List.mem_append.mp h with h | h
    · exact .inr h
    · left; simpa using h
theorem gput_nodup (h : (t.map Prod.fst).Nodup) : ((gput t l v).map Prod.fst).Nodup := by
  unfold gput
  split
  · have : (t.map fun p => if p.1 = l then (p.1, v) else p).map Prod.fst = t.map Prod.fst := by
      rw [List.map_map]
      refine List.map_congr_left fun p _ => ?_
      show (if p.1 = l then (p.1, v) else p).1 = p.1
      split <;> rfl
    rw [this]; exact h
  · rename_i hn
    rw [List.map_append, List.nodup_append]
    refine ⟨h, by simp, fun b hb c hc => ?_⟩
    have : c = l := by simpa using hc
    subst this
    intro e
    subst e
    obtain ⟨p, hp, e⟩ := List.mem_map.mp hb
    exact hn (List.any_eq_true.mpr ⟨p, hp, by simp [e]⟩)
theorem TGood.nil : TGood m [] := ⟨fun _ h => (nomatch h), fun _ h => (nomatch h), fun _ h => (nomatch h), by simp⟩
theorem TGood.put (g : TGood m t) (h1 : l.Pairwise (· < ·)) (h2 : ∀ x ∈ l, 0 ≤ x ∧ x < m) (h3 : l.length ≤ 3) : TGood m (gput t l v) := by
  have key : ∀ p ∈ gput t l v, p.1 = l ∨ p ∈ t := fun p hp => (gput_mem hp).imp_left fun e => by rw [e]
  refine ⟨fun p hp => ?_, fun p hp => ?_, fun p hp => ?_, gput_nodup g.nd⟩
  · rcases key p hp with e | hp
    · rw [e]; exact h1
    · exact g.up p hp
  · rcases key p hp with e | hp
    · rw [e]; exact h2
    · exact g.bd p hp
  · rcases key p hp with e | hp
    · rw [e]; exact h3
    · exact g.l3 p hp
end
/-! a told sum out of a dict -/
def leP (a b : List Int × Int) : Bool := !PySem.W.dataLt (encP b).py (encP a).py
def tupleV (t : Told) : Told := (t.filter fun p => decide (p.2 ≠ 0)).mergeSort leP
theorem tupleV_perm {t : Told} : (tupleV t).Perm (t.filter fun p => decide (p.2 ≠ 0)) := List.mergeSort_perm _ _
theorem TGood.tuple {m : Nat} {t : Told} (g : TGood m t) : TGood m (tupleV t) := by
  have mem : ∀ p ∈ tupleV t, p ∈ t := fun p hp => (List.mem_filter.mp (tupleV_perm.mem_iff.mp hp)).1
  refine ⟨fun p hp => g.up p (mem p hp), fun p hp => g.bd p (mem p hp), fun p hp => g.l3 p (mem p hp), ?_⟩
  refine ((tupleV_perm.map Prod.fst).nodup_iff).mpr ?_
  exact g.nd.sublist (List.filter_sublist.map _)
theorem tupleV_length {t : Told} : (tupleV t).length ≤ t.length := by
  rw [tupleV_perm.length_eq]
  exact List.length_filter_le _ _
theorem sortD_encP {as : Told} : sortD (as.map encP) = (as.mergeSort leP).map encP := by
  unfold sortD
  rw [List.map_mergeSort]
  intro a _ b _
  rfl
theorem pl_encP {n : Nat} {p : List Int × Int} : (encP p).pl (n + 2) = true := by
  show D.pl (n + 1 + 1) (.tup [dI p.1, .int p.2]) = true
  rw [pl_tup, pls, pls, pls, pl_int]
  show (D.pl (n + 1) (.tup (p.1.map .int)) && _) = true
  rw [pl_tup, pls_ints]; rfl
theorem alike_ints : ∀ {a b : List Int}, PySem.W.alikeAll (a.map PyData.int) (b.map PyData.int) = true
  | [], _ => by simp [PySem.W.alikeAll]
  | _ :: _, [] => by simp [PySem.W.alikeAll]
  | x :: a, y :: b => by
    rw [List.map_cons, List.map_cons, PySem.W.alikeAll, alike_ints, PySem.W.alike]; rfl
theorem alike_encP {a b : List Int × Int} : PySem.W.alike (encP a).py (encP b).py = true := by
  simp only [encP, dI, py_tup, pys, py_int, pys_ints]
  rw [PySem.W.alike, PySem.W.alikeAll, PySem.W.alikeAll, PySem.W.alikeAll, PySem.W.alike, PySem.W.alike, alike_ints]; rfl
theorem alikes_encP {as : Told} : alikes (as.map encP) = true := by
  unfold alikes
  rw [Bool.and_eq_true]
  refine ⟨plsAll fun d hd => ?_, ?_⟩
  · obtain ⟨p, _, rfl⟩ := List.mem_map.mp hd
    exact pl_encP (n := 57)
  · rw [List.all_eq_true]
    intro d hd
    obtain ⟨p, _, rfl⟩ := List.mem_map.mp hd
    rw [Bool.and_eq_true]
    refine ⟨rfl, List.all_eq_true.mpr fun e he => ?_⟩
    obtain ⟨q, _, rfl⟩ := List.mem_map.mp he
    exact alike_encP
theorem sortable_encP {as : Told} : sortable (as.map encP) = true := by
  unfold sortable
  rw [Bool.or_eq_true, Bool.or_eq_true]
  left
  left
  rw [List.all_eq_true]
  intro d hd
  obtain ⟨p, _, rfl⟩ := List.mem_map.mp hd
  rfl
theorem bi_sortP {as : Told} : biop .sorted [.lst (as.map encP)] = some (.own (.lst ((as.mergeSort leP).map encP))) := by
  rw [biop.eq_def]
  simp only [alikes_encP, sortable_encP, Bool.and_self, if_true, sortD_encP]
@[simp] theorem bi_listT {kt : List (List Key × D)} : biop .list [.dT kt] = some (.own (.lst (kt.map fun kv => ksD kv.1))) := (rfl)
def irTuple : Ss := (.cons (.ret (.bi .ptuple (.cons (.bi .sorted (.cons (.comp (.tup (.cons (.var 1) (.cons (.ix (.var 0) (.var 1)) .nil))) (.name 1) (.over (.bi .list (.cons (.var 0) .nil))) (.yes (.cmp .ne (.ix (.var 0) (.var 1)) (.int 0))) [1]) .nil)) .nil)))
    .nil)
def TupleS (o : Option Sem) : Prop := ∃ s, o = some s ∧ ∀ (t : Told) (τ : List D), (t.map Prod.fst).Nodup → t.length ≤ LIM → s [.ro (.dT (encN t))] τ = .ok (.fz (.ptup (encT (tupleV t)))) [.un] τ
theorem tupleS (Φ : Phi) : TupleS (some (semDef Φ 0 1 1 irTuple)) := ⟨_, rfl, fun t τ nd hl => by
  have key : compL (turnF Φ (.tup (.cons (.var 1) (.cons (.ix (.var 0) (.var 1)) .nil))) (.name 1) (.yes (.cmp .ne (.ix (.var 0) (.var 1)) (.int 0))) [.ro (.dT (encN t)), .un]) (t.map fun p => dI p.1) [] τ = .ok ((t.filter fun p => decide (p.2 ≠ 0)).map encP) τ :=
    comp_filter (enc := fun p : List Int × Int => dI p.1) (fun p => decide (p.2 ≠ 0)) encP hl fun p hp => by
      have e : look (encN t) (kI p.1) = some (.int p.2) := by rw [look_encN, gget_of nd (v := p.2) hp]; rfl
      by_cases c : p.2 = 0 <;> simp [kr_turnF', e, c]
  simp [semDef, irTuple, Function.comp_def, key, tupleV, bi_sortP]⟩
end Vi
end
section
set_option Elab.async false
set_option linter.all false
set_option maxRecDepth 100000
set_option maxHeartbeats 2000000
/-! Vi39: what the laws share: subsets, slices, dicts of told sums, the chain of facts, a law's end. -/
namespace Vi
open PySem PySem.Spec PyProof.Rows L2
theorem rev_ind {α : Type} {motive : List α → Prop} (nil : motive []) (snoc : ∀ b p, motive b → motive (b ++ [p])) : ∀ l, motive l := fun l => by
  have : ∀ n (l : List α), l.length = n → motive l := by
    intro n
    induction n with
    | zero => intro l h; rw [List.eq_nil_of_length_eq_zero h]; exact nil
    | succ n ih =>
      intro l h
      have hne : l ≠ [] := fun e => by rw [e] at h; cases h
      rw [← List.dropLast_concat_getLast hne]
      exact snoc _ _ (ih _ (by rw [List.length_dropLast, h]; rfl))
  exact this _ l rfl
/-! letters of the subsets -/
theorem rowAt_cons {a : Int} {r : List Int} {k : Nat} : rowAt (a :: r) ((k + 1 : Nat) : Int) = rowAt r (k : Int) := by
  unfold rowAt
  simp
theorem ones_len : ∀ {r : List Int}, (∀ x ∈ r, x = 0 ∨ x = 1) → (((List.range r.length).filter fun (k : Nat) => decide (rowAt r k = 1)).length : Int) = r.sum
  | [], _ => rfl
  | a :: r, h => by
    have ih := ones_len (r := r) fun x hx => h x (List.mem_cons_of_mem _ hx)
    rw [List.length_cons, List.range_succ_eq_map, List.filter_cons, List.filter_map]
    have e : ((fun (k : Nat) => decide (rowAt (a :: r) k = 1)) ∘ Nat.succ) = fun (k : Nat) => decide (rowAt r k = 1) := by
      funext k
      show decide (rowAt (a :: r) ((k + 1 : Nat) : Int) = 1) = _
      rw [rowAt_cons]
    rw [e, List.sum_cons]
    have e0 : rowAt (a :: r) ((0 : Nat) : Int) = a := rfl
    rw [e0]
    rcases h a List.mem_cons_self with rfl | rfl
    · simp; omega
    · simp; omega
theorem subsets_good {m : Nat} {most : Int} {l : List Int} (h : l ∈ subsetsV m most) : l.Pairwise (· < ·) ∧ (∀ x ∈ l, 0 ≤ x ∧ x < m) ∧ (l.length : Int) ≤ most := by
  unfold subsetsV at h
  obtain ⟨row, hr, rfl⟩ := List.mem_map.mp h
  obtain ⟨h1, h2⟩ := List.mem_filter.mp hr
  have hm := mem_everyV.mp h1
  refine ⟨?_, ?_, ?_⟩
  · unfold lettersOf
    rw [List.pairwise_map]
    exact (List.pairwise_lt_range.filter _).imp fun h => by omega
  · intro x hx
    unfold lettersOf at hx
    obtain ⟨k, hk, rfl⟩ := List.mem_map.mp hx
    have := (List.mem_filter.mp hk).1
    rw [List.mem_range] at this
    omega
  · unfold lettersOf
    rw [List.length_map]
    have := ones_len hm.2
    rw [hm.1] at this
    rw [this]
    simpa using h2
theorem subsets_len {m : Nat} {most : Int} (hm : m ≤ 12) : (subsetsV m most).length ≤ 4096 := by
  unfold subsetsV
  rw [List.length_map]
  refine Nat.le_trans (List.length_filter_le _ _) ?_
  rw [everyV_len]
  exact two_pow_12 hm
theorem subsets_pos {m : Nat} {most : Int} (h : 0 ≤ most) : 0 < (subsetsV m most).length := by
  unfold subsetsV
  rw [List.length_map]
  refine List.length_pos_of_mem (a := List.replicate m 0) (List.mem_filter.mpr ⟨mem_everyV.mpr ⟨by simp, fun x hx => ?_⟩, ?_⟩)
  · left; exact List.eq_of_mem_replicate hx
  · have : (List.replicate m (0 : Int)).sum = 0 := by
      induction m with
      | zero => rfl
      | succ m ih => rw [List.replicate_succ, List.sum_cons, ih]; rfl
    simp [this, h]
theorem rangeD_2 (a : Nat) (m : Nat) : rangeD ((a : Int) + 1) ((m : Int) - ((a : Int) + 1)).toNat = (List.range (m - (a + 1))).map fun (i : Nat) => .int (((a + 1 + i : Nat)) : Int) := by
  rw [rangeD_eq, show ((m : Int) - ((a : Int) + 1)).toNat = m - (a + 1) by omega]
  refine List.map_congr_left fun i _ => ?_
  congr 1
theorem cop_pair {l : List Int} {x y : Int} : cmpop .eq (.tup (l.map .int)) (.tup [.int x, .int y]) = some (decide (l = [x, y])) := cop_eqt (k := [x, y])
/-- row[:x] | row[x + 1:] -/
def slA (row : List Int) (x : Nat) : List D := (row.map D.int).take x
def slB (row : List Int) (x : Nat) : List D := (row.map D.int).drop (x + 1)
theorem sl_lo {row : List Int} {x : Nat} (h : x < row.length) : slop (.tup (row.map .int)) none (some (x : Int)) = some (.fz (.tup (slA row x))) := by
  show some (RV.fz (.tup (cut (row.map .int) none (some (x : Int))))) = _
  unfold cut slA
  rw [HT.sIx_none, HT.sIx_nat, List.length_map, Nat.min_eq_left (by omega)]
  rfl
theorem sl_hi {row : List Int} {x : Nat} (h : x < row.length) : slop (.tup (row.map .int)) (some ((x : Int) + 1)) none = some (.fz (.tup (slB row x))) := by
  show some (RV.fz (.tup (cut (row.map .int) (some ((x : Int) + 1)) none))) = _
  unfold cut slB
  rw [show ((x : Int) + 1) = ((x + 1 : Nat) : Int) from rfl, HT.sIx_none, HT.sIx_nat, List.length_map, Nat.min_eq_left (by omega), List.take_of_length_le (by simp)]
theorem sl_a1 {row : List Int} {x : Nat} (h : row.length ≤ 1000) : binop .add (.tup (slA row x)) (.tup [.int 1]) = some (.fz (.tup (slA row x ++ [.int 1]))) := by
  refine bop_tup ?_
  unfold slA
  simp
  omega
theorem sl_a2 {row : List Int} {x : Nat} (hx : x < row.length) (h : row.length ≤ 1000) : binop .add (.tup (slA row x ++ [.int 1])) (.tup (slB row x)) = some (.fz (.tup ((row.set x 1).map .int))) := by
  rw [bop_tup]
  · unfold slA slB
    rw [List.set_eq_take_append_cons_drop, if_pos hx]
    simp
  · unfold slA slB
    simp
    omega
/-! comprehensions of two clauses -/
def turnF2K (Φ : Phi) (el : E) (tg2 : Tg) (acc : List D) (env : Env) (r : R (List D)) : R (List D) := r.bind fun ys τ => compL (turnF Φ el tg2 .no env) ys acc τ
def comp2K (Φ : Phi) (el : E) (tg : Tg) (it2 : It) (tg2 : Tg) (own2 : List Nat) (env : Env) (r : R (List D)) : R RV := r.bind fun xs τ => lstO (compL2 (turn2F Φ el tg it2 tg2 env own2) xs [] τ)
section
variable {Φ : Phi} {el : E} {tg tg2 : Tg} {it it2 : It} {own own2 : List Nat} {env env' : Env} {τ : List D} {xs acc : List D} {d : D}
@[simp] theorem ev_comp2 : evalE Φ (.comp2 el tg it tg2 it2 own own2) env τ = comp2K Φ el tg it2 tg2 own2 (wipeE env own) (evalI Φ it env τ) := by
  rw [evalE]
  rfl
@[simp] theorem kr_comp2 : comp2K Φ el tg it2 tg2 own2 env (.ok xs τ) = lstO (compL2 (turn2F Φ el tg it2 tg2 env own2) xs [] τ) := (rfl)
theorem kr_turnF2 (h : bindT tg d env = some env') : turn2F Φ el tg it2 tg2 env own2 d acc τ = turnF2K Φ el tg2 acc (wipeE env' own2) (evalI Φ it2 env' τ) := by
  unfold turn2F
  rw [h]
  exact congrArg (fun F => (evalI Φ it2 env' τ).bind fun ys τ => compL F ys acc τ) (in_turn Φ el tg2 (wipeE env' own2))
@[simp] theorem kr_turnF2K : turnF2K Φ el tg2 acc env (.ok xs τ) = compL (turnF Φ el tg2 .no env) xs acc τ := (rfl)
end
theorem comp_mapA {Φ : Phi} {el : E} {tg : Tg} {co : Oe} {env : Env} {τ : List D} {α : Type} {enc : α → D} {g : α → D} : ∀ {as : List α} {acc : List D}, acc.length + as.length ≤ LIM → (∀ a ∈ as, turnF Φ el tg co env (enc a) τ = .ok (some (g a)) τ) →
    compL (turnF Φ el tg co env) (as.map enc) acc τ = .ok (acc ++ as.map g) τ
  | [], acc, _, _ => by rw [List.map_nil, compL]; simp
  | a :: as, acc, hl, h => by
    rw [List.length_cons] at hl
    rw [List.map_cons, compL, h a List.mem_cons_self]
    simp only
    rw [if_pos (by omega), comp_mapA (by simp only [List.length_append, List.length_cons, List.length_nil]; omega) fun b hb => h b (List.mem_cons_of_mem _ hb)]
    simp

theorem thenK_nil {Φ : Phi} {n : Nat} {o : Out} : thenK Φ n .nil o = o := by
  cases o <;> first | rfl | (show execs Φ n .nil _ _ = _; rw [execs])
theorem get_encN {t : Told} {l : List Int} {d : Int} : (look (encN t) (kI l)).getD (.int d) = .int ((gget t l).getD d) := by
  rw [look_encN]
  cases gget t l <;> rfl
theorem pairsT_enc {t : Told} : pairsT (encT t) = some (encN t) := by
  induction t with
  | nil => rfl
  | cons p t ih =>
    show (match keysOf (p.1.map .int), pairsT (encT t) with | some k, some r => some ((k, D.int p.2) :: r) | _, _ => none) = _
    rw [keys_ints, ih]
    rfl
theorem putAll_nodup {κ : Type} [DecidableEq κ] : ∀ {kvs acc : List (κ × D)}, ((acc ++ kvs).map Prod.fst).Nodup → putAll acc kvs = acc ++ kvs
  | [], acc, _ => by rw [putAll]; simp
  | (k, v) :: r, acc, h => by
    have e : put acc k v = acc ++ [(k, v)] := by
      unfold put
      rw [if_neg]
      intro c
      obtain ⟨p, hp, e⟩ := List.any_eq_true.mp c
      rw [List.map_append, List.nodup_append] at h
      exact h.2.2 p.1 (List.mem_map.mpr ⟨p, hp, rfl⟩) k (by simp) (by simpa using e)
    rw [putAll, e, putAll_nodup (by simpa using h)]
    simp
theorem encN_nodup {t : Told} (h : (t.map Prod.fst).Nodup) : ((encN t).map Prod.fst).Nodup := by
  show ((t.map fun p => (kI p.1, D.int p.2)).map Prod.fst).Nodup
  rw [List.map_map]
  have e : t.map (Prod.fst ∘ fun p => (kI p.1, D.int p.2)) = (t.map Prod.fst).map kI := by rw [List.map_map]; rfl
  rw [e]
  exact List.Pairwise.map kI (fun a b n q => n (kI_inj q)) h
theorem dictT_enc {t : Told} (h : (t.map Prod.fst).Nodup) : biop .dictT [.ptup (encT t)] = some (.own (.dT (encN t))) := by
  show (pairsT (encT t)).map (fun ps => RV.own (.dT (putAll [] ps))) = _
  rw [pairsT_enc, Option.map_some, putAll_nodup (by simpa using encN_nodup h)]
  rfl
@[simp] theorem cop_neb {a b : Bool} : cmpop .ne (.bl a) (.bl b) = some (!(a == b)) := by
  cases a <;> cases b <;> rfl
@[simp] theorem cop_eqb {a b : Bool} : cmpop .eq (.bl a) (.bl b) = some (a == b) := by
  cases a <;> cases b <;> rfl
theorem isTys_bool {b : Bool} : isTys (.fz (.bl b)) ["bool"] = some true := by cases b <;> rfl
theorem law_of {Φ : Phi} {n m : Nat} {b : Ss} {ns : List Int} (h : ∀ q : Want, (∀ t, q.R (.fz (.bl true)) t) → Wp q (execs Φ n b (.fz (.scr ns) :: List.replicate m .un) [])) : LawOk Φ n m b ns := by
  have := h ⟨fun _ _ => False, fun r _ => r = .fz (.bl true), fun _ _ => False, fun _ _ => False, fun _ _ _ => False⟩ fun _ => rfl
  have := this.h
  unfold LawOk
  cases e : execs Φ n b (.fz (.scr ns) :: List.replicate m .un) [] with
  | ret r e' t' => rw [e] at this; cases this; exact ⟨_, _, rfl⟩
  | next _ _ => rw [e] at this; exact this.elim
  | cnt _ _ => rw [e] at this; exact this.elim
  | brk _ _ => rw [e] at this; exact this.elim
  | exc _ _ _ _ => rw [e] at this; exact this.elim
  | stuck => rw [e] at this; exact this.elim
theorem phi_new {Φ : Phi} {f : Fn} {x : Str} (h : x = f.name) : (phiAdd Φ f).fn x = some (f.mean Φ) := if_pos h
theorem phi_old {T : Option Sem → Prop} {Φ : Phi} {f : Fn} {x : Str} (h : x ≠ f.name) (t : T (Φ.fn x)) : T ((phiAdd Φ f).fn x) := by
  rw [show (phiAdd Φ f).fn x = Φ.fn x from if_neg h]
  exact t
theorem phi_kwn {Φ : Phi} {f : Fn} {x : Str} {ks : List Str} (h : x = f.name) (hk : f.kwc = true) (e : ks = f.ps) : (phiAdd Φ f).kw x 0 ks = some [] := by
  show (if x = f.name then (if f.kwc = true ∧ 0 = 0 ∧ ks = f.ps then some [] else none) else Φ.kw x 0 ks) = _
  rw [if_pos h, if_pos ⟨hk, rfl, e⟩]
theorem phi_kwo {Φ : Phi} {f : Fn} {x : Str} {ks : List Str} (h : x ≠ f.name) (e : Φ.kw x 0 ks = some []) : (phiAdd Φ f).kw x 0 ks = some [] := by
  show (if x = f.name then (if f.kwc = true ∧ 0 = 0 ∧ ks = f.ps then some [] else none) else Φ.kw x 0 ks) = _
  rw [if_neg h, e]
abbrev encA (t : Told) : D := .ptup (encT t)
theorem hand_0 {ds : List Int} : [D.lst (ds.map .int), .int 0] = handT ds 0 := rfl
end Vi
end
section
set_option Elab.async false
set_option linter.all false
/-! Vi39a: the module's whole numbers, as the head's facts give them. -/
namespace Vi
open PySem PySem.Spec PyProof.Rows L2
def glI (cs : List (Str × Int)) (x : Str) : Option D := match cs with
  | [] => none
  | c :: r => if x = c.1 then some (.int c.2) else glI r x
def faI (cs : List (Str × Int)) : List He.Fa := cs.map fun c => .int c.1 c.2
theorem gl_ints {K : PySem.W.Frag} {h : Heap} {mg : Str → Option Value} (X : K.In h) (G : h.Ns mainGlobals mg) : ∀ {cs : List (Str × Int)}, (∀ f ∈ faI cs, f.ok K = true) → ∀ x d, glI cs x = some d → ∃ u v, mg x = some u ∧ RelV v u ∧ ∀ G, RF K mg G d v
  | [], _, x, d, e => nomatch e
  | c :: r, ok, x, d, e => by
    have e : (if x = c.1 then some (D.int c.2) else glI r x) = some d := e
    by_cases q : x = c.1
    · rw [if_pos q] at e
      cases e
      obtain ⟨t, et⟩ := He.int_ok X G (ok (.int c.1 c.2) (List.mem_cons_self))
      exact ⟨.int c.2 t, .int c.2, by rw [q]; exact et, ⟨t, rfl⟩, fun _ => by unfold RF; rfl⟩
    · rw [if_neg q] at e
      exact gl_ints X G (fun f hf => ok f (List.mem_cons_of_mem _ hf)) x d e
end Vi
end
section
set_option Elab.async false
set_option linter.all false
set_option maxRecDepth 90000
set_option maxHeartbeats 2000000
namespace Vi
open PySem PySem.Spec PyProof.Rows L2
/-! drawn sums -/
def irDrawnSum : Ss := (.cons (.asg (.name 3) .dnewT)
    (.cons (.for_ (.name 4) (.over (.call "_law_subsets" (.cons (.var 1) (.cons (.int 3) .nil)))) (.cons (.iff (.cmp .gt (.call "_law_take" (.cons (.var 0) (.cons (.int 3) .nil))) (.int 0)) (.cons (.put (.var 3) (.var 4) (.call "_law_amount" (.cons (.var 0) (.cons (.var 2) .nil))))
    .nil) .nil)
    .nil))
    (.cons (.ret (.call "_law_tuple" (.cons (.var 3) .nil)))
    .nil)))
/-- what the drawn sums are: good ones -/
def SumS (o : Option Sem) : Prop := ∃ s, o = some s ∧ ∀ (m : Nat) (w : Int) (ds : List Int) (k : Nat), m ≤ 12 → ∃ (t : Told) (k' : Nat), TGood m t ∧ t.length ≤ 9000 ∧ s [.fz .hand, .fz (.int m), .fz (.int w)] (handT ds k) = .ok (.fz (.ptup (encT t))) [.un, .un, .un] (handT ds k')
theorem drawnSumS (Φ : Phi) (hS : SubsetsS (Φ.fn "_law_subsets")) (hT : TakeS (Φ.fn "_law_take")) (hA : AmountS (Φ.fn "_law_amount")) (hU : TupleS (Φ.fn "_law_tuple")) : SumS (some (semDef Φ 0 3 2 irDrawnSum)) := ⟨_, rfl, fun m w ds k hm => by
  obtain ⟨sS, eS, hS⟩ := hS
  obtain ⟨sT, eT, hT⟩ := hT
  obtain ⟨sA, eA, hA⟩ := hA
  obtain ⟨sU, eU, hU⟩ := hU
  obtain ⟨v, t', e, t, k', g, hl, rfl, rfl⟩ := def_ex (Φ := Φ) (n := 0) (np := 3) (m := 2) (b := irDrawnSum) (args := [.fz .hand, .fz (.int m), .fz (.int w)]) (τ := handT ds k) (Q := fun r t' => ∃ (t : Told) (k' : Nat), TGood m t ∧ t.length ≤ 9000 ∧ r = .fz (.ptup (encT t)) ∧ t' = handT ds k') rfl (fun _ _ h => by obtain ⟨t, k', _, _, _, rfl⟩ := h; rfl) fun q T => by
    simp [irDrawnSum, eS, hS, hm]
    refine wp_list (fun pre env t => ∃ (k' : Nat) (nums : Told) (g4 : Slot), t = handT ds k' ∧ TGood m nums ∧ nums.length ≤ pre.length ∧ env = [.fz .hand, .fz (.int m), .fz (.int w), .own (.dT (encN nums)), g4]) ⟨k, [], .un, rfl, TGood.nil, by simp, rfl⟩ ?_ ?_
    · rintro pre l post hs env t ⟨k1, nums, g4, rfl, g, hl, rfl⟩ q1 T1
      have sg := subsets_good (hs ▸ List.mem_append_right _ List.mem_cons_self : l ∈ subsetsV m 3)
      have hp : nums.length < LIM := by
        have := congrArg List.length hs
        have h2 := subsets_len (most := 3) hm
        simp at this ⊢
        omega
      by_cases c : 0 < takeV ds k1 3
      · have p1 : ∀ x t, putOut [.fz .hand, .fz (.int m), .fz (.int w), .own (.dT (encN nums)), .fz (dI l)] (.var 3) (.tup (l.map .int)) (.int x) t = .next [.fz .hand, .fz (.int m), .fz (.int w), .own (.dT (encN (gput nums l x))), .fz (dI l)] t := fun x t => by
          rw [put_dT (kt := encN nums) rfl (by simpa using hp), put_encN]; rfl
        simp [eT, hT, c, eA, hA, p1]
        exact T1.N _ _ ⟨_, gput nums l _, _, rfl, g.put sg.1 sg.2.1 (by omega), by have := gput_length (t := nums) (l := l) (v := amountV ds (k1 + 1) w); simp; omega, rfl⟩
      · simp [eT, hT, c]
        exact T1.N _ _ ⟨_, nums, _, rfl, g, by simp; omega, rfl⟩
    · rintro env t ⟨k1, nums, g4, rfl, g, hl, rfl⟩
      have h2 := subsets_len (most := 3) hm
      simp [eU, hU _ _ g.nd (show nums.length ≤ LIM by simp; omega)]
      have h3 := tupleV_length (t := nums)
      exact T.R _ _ ⟨tupleV nums, k1, g.tuple, by omega, rfl, rfl⟩
  exact ⟨t, k', g, hl, e⟩⟩
end Vi
end
section
set_option Elab.async false
set_option linter.all false
set_option maxRecDepth 100000
set_option maxHeartbeats 1000000
/-! told sums: their order, their texts -/
namespace Vi
open PySem PySem.Spec PyProof.Rows L2
/-! ### order -/
theorem lt_dI {a b : List Int} : PySem.W.dataLt (dI a).py (dI b).py = decide (a < b) := by
  rw [show (dI a).py = .tuple (pys (a.map .int)) from by simp [dI], show (dI b).py = .tuple (pys (b.map .int)) from by simp [dI], pys_ints, pys_ints, PySem.W.dataLt_tuple]
  exact PySem.W.dataLt_ints a b
def pairLe (p q : List Int × Int) : Bool := if p.1 = q.1 then decide (p.2 ≤ q.2) else decide (p.1 < q.1)
theorem lex_irr (a : List Int) : ¬ a < a := List.lt_irrefl a
theorem lex_as {a b : List Int} (h : a < b) : ¬ b < a := fun h2 => lex_irr a (List.lt_trans h h2)
theorem lex_tri (a b : List Int) : a < b ∨ a = b ∨ b < a := by
  by_cases h : a < b
  · exact .inl h
  · by_cases h2 : b < a
    · exact .inr (.inr h2)
    · exact .inr (.inl (List.le_antisymm h2 h))
theorem leP_eq {p q : List Int × Int} : leP p q = pairLe p q := by
  unfold leP pairLe
  have e1 : (encP p).py = .tuple [(dI p.1).py, .int p.2] := by simp [encP, pys]
  have e2 : (encP q).py = .tuple [(dI q.1).py, .int q.2] := by simp [encP, pys]
  have al : ∀ a b : List Int, PySem.W.alike (dI a).py (dI b).py = true := fun a b => by
    rw [show (dI a).py = .tuple (pys (a.map .int)) from by simp [dI], show (dI b).py = .tuple (pys (b.map .int)) from by simp [dI], pys_ints, pys_ints, PySem.W.alike, alike_ints]
  have eqd : ∀ a b : List Int, PyData.eqv (dI a).py (dI b).py = decide (a = b) := fun a b => by
    rw [show (dI a).py = .tuple (pys (a.map .int)) from by simp [dI], show (dI b).py = .tuple (pys (b.map .int)) from by simp [dI], pys_ints, pys_ints, PyData.eqv, eqv_ints]
  rw [e1, e2, PySem.W.dataLt_pair (al _ _) (by rw [PySem.W.alike]), lt_dI, eqd, PySem.W.dataLt_int, eqv_int]
  by_cases h : p.1 = q.1
  · rw [if_pos h, if_pos (by simpa using h.symm)]
    by_cases h2 : q.2 = p.2
    · simp [h2]
    · rw [if_neg (by simpa using h2), ← decide_not]
      by_cases h3 : p.2 ≤ q.2
      · rw [decide_eq_true (show ¬ q.2 < p.2 by omega), decide_eq_true h3]
      · rw [decide_eq_false (show ¬ ¬ q.2 < p.2 by omega), decide_eq_false h3]
  · have h' : ¬ q.1 = p.1 := fun z => h z.symm
    rw [if_neg h, if_neg (by simpa using h')]
    rcases lex_tri p.1 q.1 with z | z | z
    · simp [z, lex_as z]
    · exact absurd z h
    · simp [z, lex_as z]
theorem pairLe_total (p q : List Int × Int) : (pairLe p q || pairLe q p) = true := by
  unfold pairLe
  by_cases h : p.1 = q.1
  · rw [if_pos h, if_pos h.symm]
    by_cases h2 : p.2 ≤ q.2
    · simp [h2]
    · have : q.2 ≤ p.2 := by omega
      simp [this]
  · rw [if_neg h, if_neg fun z => h z.symm]
    rcases lex_tri p.1 q.1 with z | z | z
    · simp [z]
    · exact absurd z h
    · simp [z]
theorem pairLe_trans (p q r : List Int × Int) (h1 : pairLe p q = true) (h2 : pairLe q r = true) : pairLe p r = true := by
  unfold pairLe at *
  by_cases a : p.1 = q.1
  · by_cases b : q.1 = r.1
    · rw [if_pos a] at h1
      rw [if_pos b] at h2
      rw [if_pos (a.trans b)]
      simp at h1 h2 ⊢
      omega
    · rw [if_neg b] at h2
      rw [if_neg fun z => b (a.symm.trans z), a]
      exact h2
  · rw [if_neg a] at h1
    by_cases b : q.1 = r.1
    · rw [if_neg fun z => a (z.trans b.symm), ← b]
      exact h1
    · rw [if_neg b] at h2
      simp at h1 h2
      have := List.lt_trans h1 h2
      rw [if_neg fun z => lex_irr r.1 (by rw [z] at this; exact this)]
      simpa using this
theorem pairLe_anti (p q : List Int × Int) (h1 : pairLe p q = true) (h2 : pairLe q p = true) : p = q := by
  unfold pairLe at *
  by_cases a : p.1 = q.1
  · rw [if_pos a] at h1
    rw [if_pos a.symm] at h2
    simp at h1 h2
    exact Prod.ext a (by omega)
  · rw [if_neg a] at h1
    rw [if_neg fun z => a z.symm] at h2
    simp at h1 h2
    exact absurd h2 (lex_as h1)
theorem leP_fun : leP = pairLe := by funext p q; exact leP_eq
/-- what lies in order is the tuple of what it holds -/
theorem tuple_of {a t : Told} (hp : a.Perm (t.filter fun p => decide (p.2 ≠ 0))) (hs : a.Pairwise fun p q => pairLe p q = true) : a = tupleV t := by
  unfold tupleV
  rw [leP_fun]
  exact PySem.W.Srt.the_of_perm pairLe pairLe_trans pairLe_total pairLe_anti hp hs
theorem tupleV_sorted {t : Told} : (tupleV t).Pairwise fun p q => pairLe p q = true := by
  unfold tupleV
  rw [leP_fun]
  exact List.pairwise_mergeSort pairLe_trans pairLe_total _
theorem tupleV_nz {t : Told} : ∀ p ∈ tupleV t, p.2 ≠ 0 := fun p hp => by
  have := (List.mem_filter.mp (tupleV_perm.mem_iff.mp hp)).2
  simpa using this
theorem tupleV_self {t : Told} (hs : t.Pairwise fun p q => pairLe p q = true) (hz : ∀ p ∈ t, p.2 ≠ 0) : tupleV t = t := by
  refine (tuple_of ?_ hs).symm
  rw [List.filter_eq_self.mpr fun p hp => by simpa using hz p hp]
theorem tupleV_congr {t u : Told} (h1 : (t.map Prod.fst).Nodup) (h2 : (u.map Prod.fst).Nodup) (h : ∀ q, (gget t q).getD 0 = (gget u q).getD 0) : tupleV t = tupleV u := by
  refine tuple_of (tupleV_perm.trans ?_) tupleV_sorted
  have nd : ∀ {t : Told}, (t.map Prod.fst).Nodup → t.Nodup := fun {t} h => List.Pairwise.of_map Prod.fst (fun a b h e => h (by rw [e])) h
  have half : ∀ {t u : Told}, (t.map Prod.fst).Nodup → (u.map Prod.fst).Nodup → (∀ q, (gget t q).getD 0 = (gget u q).getD 0) → ∀ p, p ∈ t.filter (fun p => decide (p.2 ≠ 0)) → p ∈ u.filter (fun p => decide (p.2 ≠ 0)) := fun {t u} h1 h2 h p hp => by
    obtain ⟨hm, hz⟩ := List.mem_filter.mp hp
    have e := h p.1
    rw [gget_of h1 (v := p.2) hm] at e
    have hz : p.2 ≠ 0 := by simpa using hz
    refine List.mem_filter.mpr ⟨?_, by simpa using hz⟩
    cases e2 : gget u p.1 with
    | none => rw [e2] at e; exact absurd e hz
    | some v =>
      rw [e2] at e
      have e : p.2 = v := e
      have := gget_mem e2
      rw [← e] at this
      exact this
  exact (List.perm_ext_iff_of_nodup ((nd h1).filter _) ((nd h2).filter _)).mpr fun p => ⟨half h1 h2 h p, half h2 h1 (fun q => (h q).symm) p⟩
/-! ### a dict's letters in order -/
def keyLe (a b : List Int) : Bool := !decide (b < a)
theorem keyLe_trans (a b c : List Int) (h1 : keyLe a b = true) (h2 : keyLe b c = true) : keyLe a c = true := by
  unfold keyLe at *
  simp at h1 h2 ⊢
  intro h
  rcases lex_tri a b with z | z | z
  · exact h2 (List.lt_trans h z)
  · subst z; exact h2 h
  · exact h1 z
theorem keyLe_total (a b : List Int) : (keyLe a b || keyLe b a) = true := by
  unfold keyLe
  rcases lex_tri a b with z | z | z
  · simp [lex_as z]
  · subst z; simp [lex_irr]
  · simp [lex_as z]
theorem sortD_keys {ks : List (List Int)} : sortD (ks.map dI) = (ks.mergeSort keyLe).map dI := by
  unfold sortD
  rw [List.map_mergeSort]
  intro a _ b _
  show (!decide (b < a)) = (!PySem.W.dataLt (dI b).py (dI a).py)
  rw [lt_dI]
/-- sum_told, as it goes -/
def soldV (t : Told) : Told := (((t.map Prod.fst).mergeSort keyLe).filter fun l => decide ((gget t l).getD 0 ≠ 0)).map fun l => (l, (gget t l).getD 0)
theorem soldV_eq {t : Told} (nd : (t.map Prod.fst).Nodup) : soldV t = tupleV t := by
  have hp : ((t.map Prod.fst).mergeSort keyLe).Perm (t.map Prod.fst) := List.mergeSort_perm _ _
  have hs : ((t.map Prod.fst).mergeSort keyLe).Pairwise fun a b => keyLe a b = true := List.pairwise_mergeSort keyLe_trans keyLe_total _
  have hn := (hp.nodup_iff).mpr nd
  refine tuple_of ?_ ?_
  · unfold soldV
    refine ((hp.filter _).map _).trans ?_
    have e : ((t.map Prod.fst).filter fun l => decide ((gget t l).getD 0 ≠ 0)).map (fun l => (l, (gget t l).getD 0)) = t.filter fun p => decide (p.2 ≠ 0) := by
      rw [List.filter_map, List.map_map]
      have ev : ∀ p ∈ t, (gget t p.1).getD 0 = p.2 := fun p hp => by rw [gget_of nd (v := p.2) hp]; rfl
      rw [show t.filter ((fun l => decide ((gget t l).getD 0 ≠ 0)) ∘ Prod.fst) = t.filter fun p => decide (p.2 ≠ 0) from List.filter_congr fun p hp => by
        show decide ((gget t p.1).getD 0 ≠ 0) = _
        rw [ev p hp]]
      have : ∀ p ∈ t.filter (fun p => decide (p.2 ≠ 0)), ((fun l => (l, (gget t l).getD 0)) ∘ Prod.fst) p = p := fun p hp => by
        show (p.1, (gget t p.1).getD 0) = p
        rw [ev p (List.mem_filter.mp hp).1]
      rw [List.map_congr_left this]
      simp
    rw [e]
  · unfold soldV
    rw [List.pairwise_map]
    refine List.Pairwise.imp ?_ ((List.pairwise_and_iff.mpr ⟨hs, hn⟩).filter _)
    rintro a b ⟨h1, h2⟩
    unfold pairLe
    rw [if_neg h2]
    unfold keyLe at h1
    simp at h1 ⊢
    rcases lex_tri a b with z | z | z
    · exact z
    · exact absurd z h2
    · exact absurd z h1
end Vi
end
section
set_option Elab.async false
set_option linter.all false
set_option maxRecDepth 100000
set_option maxHeartbeats 1000000
namespace Vi
open PySem PySem.Spec PyProof.Rows L2
/-! ### texts -/
theorem int_len {a : Int} {k : Nat} (hk : 0 < k) (h : a.natAbs < 10 ^ k) : (PyData.shown (.int a)).length ≤ k + 1 := by
  have := int_text_length_le10 hk h
  rw [PyData.shown]
  show (Str.ofString (toString a)).length ≤ _
  rw [PySem.ofString_length]
  exact this
theorem int_show {a : Int} (h : a.natAbs < 10 ^ 100) : PyData.showable (.int a) = true := by
  rw [PyData.showable, decide_eq_true_iff]
  by_cases h0 : a.natAbs = 0
  · rw [h0]; decide
  · rw [Nat.log2_lt h0]
    exact Nat.lt_of_lt_of_le h (Nat.le_trans (show 10 ^ 100 ≤ 2 ^ 400 by decide) (Nat.pow_le_pow_right (by decide) (by decide)))
theorem sum_len {α : Type} {f : α → Nat} {b : Nat} : ∀ {xs : List α}, (∀ x ∈ xs, f x ≤ b) → (xs.map f).sum ≤ b * xs.length
  | [], _ => by simp
  | x :: xs, h => by
    have := sum_len (xs := xs) fun y hy => h y (List.mem_cons_of_mem _ hy)
    have := h x List.mem_cons_self
    rw [List.map_cons, List.sum_cons, List.length_cons, Nat.mul_add]
    omega
theorem shownAll_eq : ∀ xs : List PyData, PyData.shownAll xs = xs.map PyData.shown
  | [] => by simp [PyData.shownAll]
  | x :: xs => by rw [PyData.shownAll, shownAll_eq xs, List.map_cons]
theorem showableAll_of : ∀ {xs : List PyData}, (∀ x ∈ xs, PyData.showable x = true) → PyData.showableAll xs = true
  | [], _ => by simp [PyData.showableAll]
  | x :: xs, h => by rw [PyData.showableAll, h x List.mem_cons_self, showableAll_of fun y hy => h y (List.mem_cons_of_mem _ hy)]; rfl
theorem tup_len {xs : List PyData} {b : Nat} (h : ∀ x ∈ xs, (PyData.shown x).length ≤ b) : (PyData.shown (.tuple xs)).length ≤ (b + 2) * xs.length + 3 := by
  rw [PyData.shown]
  have h1 := tupleText_len_le (PyData.shownAll xs)
  rw [shownAll_eq, List.map_map, List.length_map] at h1
  have h2 := sum_len (f := fun x => (PyData.shown x).length) h
  have h3 : (b + 2) * xs.length = b * xs.length + 2 * xs.length := Nat.add_mul _ _ _
  rw [shownAll_eq]
  have h4 : xs.map ((fun x => x.length) ∘ PyData.shown) = xs.map fun x => (PyData.shown x).length := rfl
  rw [h4] at h1
  omega
structure Small (t : Told) : Prop where
  ls : ∀ p ∈ t, ∀ l ∈ p.1, 0 ≤ l ∧ l < 100
  l3 : ∀ p ∈ t, p.1.length ≤ 3
  nb : ∀ p ∈ t, p.2.natAbs < 10 ^ 12
  len : t.length ≤ 9001
theorem pair_len {p : List Int × Int} (hl : ∀ l ∈ p.1, 0 ≤ l ∧ l < 100) (h3 : p.1.length ≤ 3) (hb : p.2.natAbs < 10 ^ 12) : (PyData.shown (encP p).py).length ≤ 47 ∧ PyData.showable (encP p).py = true := by
  have e : (encP p).py = .tuple [.tuple (p.1.map .int), .int p.2] := by simp [encP, pys, pys_ints]
  rw [e]
  have a1 : (PyData.shown (.tuple (p.1.map .int))).length ≤ 18 := by
    have := tup_len (xs := p.1.map .int) (b := 3) fun x hx => by
      obtain ⟨l, hl', rfl⟩ := List.mem_map.mp hx
      have := hl l hl'
      exact int_len (k := 2) (by decide) (by omega)
    rw [List.length_map] at this
    omega
  have a2 : (PyData.shown (.int p.2)).length ≤ 18 := by
    have := int_len (k := 12) (by decide) hb
    omega
  refine ⟨?_, ?_⟩
  · have := tup_len (xs := [.tuple (p.1.map .int), .int p.2]) (b := 18) fun x hx => by
      simp at hx
      rcases hx with rfl | rfl
      · exact a1
      · exact a2
    simp only [List.length_cons, List.length_nil] at this
    omega
  · rw [PyData.showable]
    refine showableAll_of fun x hx => ?_
    simp at hx
    rcases hx with rfl | rfl
    · rw [PyData.showable]
      refine showableAll_of fun y hy => ?_
      obtain ⟨l, hl', rfl⟩ := List.mem_map.mp hy
      have := hl l hl'
      exact int_show (Nat.lt_of_lt_of_le (show l.natAbs < 100 by omega) (by decide))
    · exact int_show (Nat.lt_of_lt_of_le hb (by decide))
theorem py_told {t : Told} : (D.tup (encT t)).py = .tuple (t.map fun p => (encP p).py) := by
  rw [py_tup, pysMap fun _ _ => rfl]
theorem show_tup {t : Told} (h : Small t) : showD (.tup (encT t)) = true := by
  unfold showD
  rw [Bool.and_eq_true, Bool.and_eq_true, decide_eq_true_iff, py_told]
  refine ⟨?_, ?_, ?_⟩
  · unfold D.plain
    rw [pl_tup]
    refine plsAll fun d hd => ?_
    obtain ⟨p, _, rfl⟩ := List.mem_map.mp hd
    exact pl_encP (n := 57)
  · rw [PyData.showable]
    refine showableAll_of fun x hx => ?_
    obtain ⟨p, hp, rfl⟩ := List.mem_map.mp hx
    exact (pair_len (h.ls p hp) (h.l3 p hp) (h.nb p hp)).2
  · have := tup_len (xs := t.map fun p => (encP p).py) (b := 47) fun x hx => by
      obtain ⟨p, hp, rfl⟩ := List.mem_map.mp hx
      exact (pair_len (h.ls p hp) (h.l3 p hp) (h.nb p hp)).1
    rw [List.length_map] at this
    have hl := h.len
    rw [LIM_eq]
    omega
theorem py_ptup {xs : List D} : (D.ptup xs).py = (D.tup xs).py := by rw [D.py, D.py]
theorem show_ptup {t : Told} (h : Small t) : showD (.ptup (encT t)) = true := by
  have := show_tup h
  unfold showD at *
  rw [py_ptup]
  rw [Bool.and_eq_true] at this ⊢
  refine ⟨?_, this.2⟩
  unfold D.plain
  show D.pl 60 (.ptup (encT t)) = true
  rw [show D.pl 60 (.ptup (encT t)) = pls 59 (encT t) by simp [D.pl]]
  refine plsAll fun d hd => ?_
  obtain ⟨p, _, rfl⟩ := List.mem_map.mp hd
  exact pl_encP (n := 57)
/-- the text of a told sum -/
def toldText (t : Told) : Str := (D.tup (encT t)).py.shown
theorem repr_tup {t : Told} (h : Small t) : biop .repr [.tup (encT t)] = some (.fz (.str (toldText t))) := by
  rw [biop.eq_def]
  simp only [show_tup h, if_true]
  rfl
theorem repr_ptup {t : Told} (h : Small t) : biop .repr [.ptup (encT t)] = some (.fz (.str (toldText t))) := by
  rw [biop.eq_def]
  simp only [show_ptup h, if_true, py_ptup]
  rfl
theorem repr_int {a : Int} (h : a.natAbs < 10 ^ 100) : biop .repr [.int a] = some (.fz (.str (PyData.shown (.int a)))) := by
  rw [biop.eq_def]
  have : showD (.int a) = true := by
    unfold showD
    rw [py_int, int_show h]
    have := int_len (k := 100) (by decide) h
    rw [Bool.and_eq_true, Bool.and_eq_true, decide_eq_true_iff]
    exact ⟨plain_int, rfl, by simp; omega⟩
  simp only [this, if_true, py_int]
theorem cop_nes {x : Str} : cmpop .ne (.str x) (.str x) = some false := by
  show (deq (.str x) (.str x)).map (!·) = _
  unfold deq
  have : D.plain (.str x) = true := by unfold D.plain; simp
  simp only [this, Bool.and_self, if_true]
  rw [D.py, PyData.eqv]
  simp
end Vi
end
section
set_option Elab.async false
set_option linter.all false
set_option maxRecDepth 100000
set_option maxHeartbeats 2000000
namespace Vi
open PySem PySem.Spec PyProof.Rows L2
theorem amount_small {ds : List Int} {k : Nat} {w : Int} : (amountV ds k w).natAbs ≤ 1000000 := by
  unfold amountV
  have h1 := takeV_lo (ds := ds) (k := k) (m := 5) (by decide)
  have h2 := takeV_hi (ds := ds) (k := k) (m := 5) (by decide)
  have h3 := takeV_lo (ds := ds) (k := k) (m := 1000) (by decide)
  have h4 := takeV_hi (ds := ds) (k := k) (m := 1000) (by decide)
  have h5 := takeV_lo (ds := ds) (k := k + 1) (m := 1000) (by decide)
  have h6 := takeV_hi (ds := ds) (k := k + 1) (m := 1000) (by decide)
  split
  · omega
  · split <;> omega
/-- a drawn sum: good, in order, of small numbers -/
structure Drawn (m : Nat) (t : Told) : Prop where
  g : TGood m t
  len : t.length ≤ 4096
  nb : ∀ p ∈ t, p.2.natAbs ≤ 1000000
  nz : ∀ p ∈ t, p.2 ≠ 0
  up : t.Pairwise fun p q => pairLe p q = true
def DrawnS (o : Option Sem) : Prop := ∃ s, o = some s ∧ ∀ (m : Nat) (w : Int) (ds : List Int) (k : Nat), m ≤ 12 → ∃ (t : Told) (k' : Nat), Drawn m t ∧ s [.fz .hand, .fz (.int m), .fz (.int w)] (handT ds k) = .ok (.fz (.ptup (encT t))) [.un, .un, .un] (handT ds k')
theorem drawnS (Φ : Phi) (hS : SubsetsS (Φ.fn "_law_subsets")) (hT : TakeS (Φ.fn "_law_take")) (hA : AmountS (Φ.fn "_law_amount")) (hU : TupleS (Φ.fn "_law_tuple")) : DrawnS (some (semDef Φ 0 3 2 irDrawnSum)) := ⟨_, rfl, fun m w ds k hm => by
  obtain ⟨sS, eS, hS⟩ := hS
  obtain ⟨sT, eT, hT⟩ := hT
  obtain ⟨sA, eA, hA⟩ := hA
  obtain ⟨sU, eU, hU⟩ := hU
  obtain ⟨v, t', e, t, k', g, rfl, rfl⟩ := def_ex (Φ := Φ) (n := 0) (np := 3) (m := 2) (b := irDrawnSum) (args := [.fz .hand, .fz (.int m), .fz (.int w)]) (τ := handT ds k) (Q := fun r t' => ∃ (t : Told) (k' : Nat), Drawn m t ∧ r = .fz (.ptup (encT t)) ∧ t' = handT ds k') rfl (fun _ _ h => by obtain ⟨t, k', _, _, rfl⟩ := h; rfl) fun q T => by
    simp [irDrawnSum, eS, hS, hm]
    refine wp_list (fun pre env t => ∃ (k' : Nat) (nums : Told) (g4 : Slot), t = handT ds k' ∧ TGood m nums ∧ nums.length ≤ pre.length ∧ (∀ p ∈ nums, p.2.natAbs ≤ 1000000) ∧ env = [.fz .hand, .fz (.int m), .fz (.int w), .own (.dT (encN nums)), g4]) ⟨k, [], .un, rfl, TGood.nil, by simp, by simp, rfl⟩ ?_ ?_
    · rintro pre l post hs env t ⟨k1, nums, g4, rfl, g, hl, hb, rfl⟩ q1 T1
      have sg := subsets_good (hs ▸ List.mem_append_right _ List.mem_cons_self : l ∈ subsetsV m 3)
      have hp : nums.length < LIM := by
        have := congrArg List.length hs
        have h2 := subsets_len (most := 3) hm
        simp at this ⊢
        omega
      by_cases c : 0 < takeV ds k1 3
      · have p1 : ∀ x t, putOut [.fz .hand, .fz (.int m), .fz (.int w), .own (.dT (encN nums)), .fz (dI l)] (.var 3) (.tup (l.map .int)) (.int x) t = .next [.fz .hand, .fz (.int m), .fz (.int w), .own (.dT (encN (gput nums l x))), .fz (dI l)] t := fun x t => by
          rw [put_dT (kt := encN nums) rfl (by simpa using hp), put_encN]; rfl
        simp [eT, hT, c, eA, hA, p1]
        refine T1.N _ _ ⟨_, gput nums l _, _, rfl, g.put sg.1 sg.2.1 (by omega), by have := gput_length (t := nums) (l := l) (v := amountV ds (k1 + 1) w); simp; omega, fun p hp => ?_, rfl⟩
        rcases gput_mem hp with e | hp
        · rw [e]; exact amount_small
        · exact hb p hp
      · simp [eT, hT, c]
        exact T1.N _ _ ⟨_, nums, _, rfl, g, by simp; omega, hb, rfl⟩
    · rintro env t ⟨k1, nums, g4, rfl, g, hl, hb, rfl⟩
      have h2 := subsets_len (most := 3) hm
      simp [eU, hU _ _ g.nd (show nums.length ≤ LIM by simp; omega)]
      have h3 := tupleV_length (t := nums)
      exact T.R _ _ ⟨tupleV nums, k1, ⟨g.tuple, by omega, fun p hp => hb p (List.mem_filter.mp (tupleV_perm.mem_iff.mp hp)).1, tupleV_nz, tupleV_sorted⟩, rfl, rfl⟩
  exact ⟨t, k', g, e⟩⟩
/-! ### sum_told, added -/
theorem alikes_keys {ks : List (List Int)} : alikes (ks.map dI) = true := by
  unfold alikes
  rw [Bool.and_eq_true]
  refine ⟨plsAll fun d hd => ?_, ?_⟩
  · obtain ⟨l, _, rfl⟩ := List.mem_map.mp hd
    show D.pl (58 + 1) (.tup (l.map .int)) = true
    rw [pl_tup, pls_ints]
  · rw [List.all_eq_true]
    intro d hd
    obtain ⟨l, _, rfl⟩ := List.mem_map.mp hd
    rw [Bool.and_eq_true]
    refine ⟨rfl, List.all_eq_true.mpr fun e he => ?_⟩
    obtain ⟨k, _, rfl⟩ := List.mem_map.mp he
    rw [show (dI l).py = .tuple (pys (l.map .int)) from by simp [dI], show (dI k).py = .tuple (pys (k.map .int)) from by simp [dI], pys_ints, pys_ints, PySem.W.alike, alike_ints]
theorem sortable_keys {ks : List (List Int)} : sortable (ks.map dI) = true := by
  unfold sortable
  rw [Bool.or_eq_true, Bool.or_eq_true]
  right
  rw [List.all_eq_true]
  intro d hd
  obtain ⟨l, _, rfl⟩ := List.mem_map.mp hd
  rfl
theorem bi_sortK {t : Told} : biop .sorted [.dT (encN t)] = some (.own (.lst (((t.map Prod.fst).mergeSort keyLe).map dI))) := by
  have e : (encN t).map (fun kv => ksD kv.1) = (t.map Prod.fst).map dI := by
    show (t.map fun p => (kI p.1, D.int p.2)).map (fun kv => ksD kv.1) = _
    rw [List.map_map, List.map_map]
    exact List.map_congr_left fun p _ => ksD_kI
  rw [biop.eq_def]
  simp only [e, alikes_keys, sortable_keys, Bool.and_self, if_true, sortD_keys]
def irSold : Ss := (.cons (.ret (.bi .tuple (.cons (.comp (.tup (.cons (.var 1) (.cons (.ix (.var 0) (.var 1)) .nil))) (.name 1) (.over (.bi .sorted (.cons (.var 0) .nil))) (.yes (.cmp .ne (.ix (.var 0) (.var 1)) (.int 0))) [1]) .nil)))
    .nil)
def SoldS (o : Option Sem) : Prop := ∃ s, o = some s ∧ ∀ (t : Told) (τ : List D), (t.map Prod.fst).Nodup → t.length ≤ LIM → s [.ro (.dT (encN t))] τ = .ok (.fz (.tup (encT (tupleV t)))) [.un] τ
theorem soldS (Φ : Phi) : SoldS (some (semDef Φ 0 1 1 irSold)) := ⟨_, rfl, fun t τ nd hl => by
  have key : compL (turnF Φ (.tup (.cons (.var 1) (.cons (.ix (.var 0) (.var 1)) .nil))) (.name 1) (.yes (.cmp .ne (.ix (.var 0) (.var 1)) (.int 0))) [.ro (.dT (encN t)), .un]) (((t.map Prod.fst).mergeSort keyLe).map dI) [] τ = .ok ((((t.map Prod.fst).mergeSort keyLe).filter fun l => decide ((gget t l).getD 0 ≠ 0)).map fun l => encP (l, (gget t l).getD 0)) τ :=
    comp_filter (enc := dI) (fun l => decide ((gget t l).getD 0 ≠ 0)) (fun l => encP (l, (gget t l).getD 0)) (by rw [List.length_mergeSort, List.length_map]; exact hl) fun l hm => by
      have hm : l ∈ t.map Prod.fst := (List.mergeSort_perm _ _).mem_iff.mp hm
      obtain ⟨p, hp, rfl⟩ := List.mem_map.mp hm
      have e1 : gget t p.1 = some p.2 := gget_of nd (v := p.2) hp
      have e : look (encN t) (kI p.1) = some (.int p.2) := by rw [look_encN, e1]; rfl
      by_cases c : p.2 = 0 <;> simp [kr_turnF', e, e1, c]
  have fin : (((t.map Prod.fst).mergeSort keyLe).filter fun l => decide ((gget t l).getD 0 ≠ 0)).map (fun l => encP (l, (gget t l).getD 0)) = encT (tupleV t) := by
    rw [← soldV_eq nd]
    unfold soldV
    rw [encT, List.map_map]
    rfl
  rw [fin] at key
  simp [semDef, irSold, bi_sortK, key]⟩
def addAll (a b : Told) : Told := b.foldl (fun n p => gput n p.1 ((gget n p.1).getD 0 + p.2)) a
theorem addAll_snoc {a b : Told} {p : List Int × Int} : addAll a (b ++ [p]) = gput (addAll a b) p.1 ((gget (addAll a b) p.1).getD 0 + p.2) := by
  unfold addAll
  rw [List.foldl_append]
  rfl
theorem addAll_len {a : Told} : ∀ {b : Told}, (addAll a b).length ≤ a.length + b.length := by
  intro b
  induction b using rev_ind with
  | nil => exact Nat.le_refl _
  | snoc b p ih =>
    rw [addAll_snoc]
    have := gput_length (t := addAll a b) (l := p.1) (v := (gget (addAll a b) p.1).getD 0 + p.2)
    simp
    omega
theorem addAll_good {m : Nat} {a : Told} (ga : TGood m a) : ∀ {b : Told}, (∀ p ∈ b, p.1.Pairwise (· < ·) ∧ (∀ l ∈ p.1, 0 ≤ l ∧ l < m) ∧ p.1.length ≤ 3) → TGood m (addAll a b) := by
  intro b
  induction b using rev_ind with
  | nil => intro _; exact ga
  | snoc b p ih =>
    intro h
    rw [addAll_snoc]
    have hp := h p (by simp)
    exact (ih fun q hq => h q (by simp [hq])).put hp.1 hp.2.1 hp.2.2
theorem addAll_get {a : Told} : ∀ {b : Told}, (b.map Prod.fst).Nodup → ∀ q, (gget (addAll a b) q).getD 0 = (gget a q).getD 0 + (gget b q).getD 0 := by
  intro b
  induction b using rev_ind with
  | nil => intro _ q; simp [addAll, gget_nil]
  | snoc b p ih =>
    intro nd q
    have nd' : (b.map Prod.fst).Nodup := by
      rw [List.map_append, List.nodup_append] at nd
      exact nd.1
    rw [addAll_snoc, gget_gput, gget_append, gget_cons, gget_nil]
    by_cases e : p.1 = q
    · subst e
      have hn : gget b p.1 = none := by
        cases e2 : gget b p.1 with
        | none => rfl
        | some v =>
          rw [List.map_append, List.nodup_append] at nd
          exact absurd rfl (nd.2.2 p.1 (List.mem_map.mpr ⟨_, gget_mem e2, rfl⟩) p.1 (by simp))
      rw [if_pos rfl, ih nd' p.1, hn]
      simp
    · rw [if_neg e, if_neg e, ih nd' q]
      simp
theorem addAll_bound {a : Told} {n : Nat} (ha : ∀ p ∈ a, p.2.natAbs ≤ 1000000) : ∀ {b : Told}, (∀ p ∈ b, p.2.natAbs ≤ 1000000) → ∀ p ∈ addAll a b, p.2.natAbs ≤ 1000000 * (b.length + 1) := by
  intro b
  induction b using rev_ind with
  | nil => intro _ p hp; have := ha p hp; simpa using this
  | snoc b p ih =>
    intro h q hq
    have ih := ih fun r hr => h r (by simp [hr])
    rw [addAll_snoc] at hq
    have hl : (b ++ [p]).length = b.length + 1 := by simp
    rw [hl]
    have hp := h p (by simp)
    rcases gput_mem hq with e | hq
    · rw [e]
      show ((gget (addAll a b) p.1).getD 0 + p.2).natAbs ≤ _
      cases e2 : gget (addAll a b) p.1 with
      | none => simp; omega
      | some v =>
        have := ih _ (gget_mem e2)
        simp only [Option.getD_some]
        have h3 : v.natAbs ≤ 1000000 * (b.length + 1) := this
        omega
    · have := ih q hq
      omega
def irAdded : Ss := (.cons (.asg (.name 2) (.bi .dictT (.cons (.var 0) .nil)))
    (.cons (.for_ (.tup (.cons (.name 3) (.cons (.name 4) .nil))) (.over (.var 1)) (.cons (.put (.var 2) (.var 3) (.bin .add (.dget (.var 2) (.var 3) (.int 0)) (.var 4)))
    .nil))
    (.cons (.ret (.call "sum_told" (.cons (.var 2) .nil)))
    .nil)))
def AddedS (o : Option Sem) : Prop := ∃ s, o = some s ∧ ∀ (m : Nat) (a b : Told) (d : D) (τ : List D), TGood m a → TGood m b → a.length ≤ 5000 → b.length ≤ 5000 → iterV (.fz d) = some (encT b) → s [.fz (.ptup (encT a)), .fz d] τ = .ok (.fz (.tup (encT (tupleV (addAll a b))))) [.un, .un] τ
theorem addedS (Φ : Phi) (hS : SoldS (Φ.fn "sum_told")) : AddedS (some (semDef Φ 0 2 3 irAdded)) := ⟨_, rfl, fun m a b d τ ga gb la lb hd => by
  obtain ⟨sS, eS, hS⟩ := hS
  refine def_eq rfl rfl fun q T => ?_
  simp [irAdded, dictT_enc ga.nd, hd]
  refine wp_list (enc := encP) (fun pre env t => t = τ ∧ ∃ g3 g4, env = [.fz (.ptup (encT a)), .fz d, .own (.dT (encN (addAll a pre))), g3, g4]) ⟨rfl, _, _, rfl⟩ ?_ ?_
  · rintro pre p post hs env t ⟨rfl, g3, g4, rfl⟩ q1 T1
    have hl := addAll_len (a := a) (b := pre)
    have hpl : pre.length < 5001 := by
      have := congrArg List.length hs
      simp at this
      omega
    have p1 : ∀ x g, putOut [.fz (.ptup (encT a)), .fz d, .own (.dT (encN (addAll a pre))), .fz (dI p.1), g] (.var 2) (.tup (p.1.map .int)) (.int x) t = .next [.fz (.ptup (encT a)), .fz d, .own (.dT (encN (gput (addAll a pre) p.1 x))), .fz (dI p.1), g] t := fun x g => by
      rw [put_dT (kt := encN (addAll a pre)) rfl (by simp; omega), put_encN]; rfl
    simp [get_encN, p1]
    exact T1.N _ _ ⟨rfl, _, _, by rw [addAll_snoc]⟩
  · rintro env t ⟨rfl, g3, g4, rfl⟩
    have hl := addAll_len (a := a) (b := b)
    have g := addAll_good ga (b := b) fun p hp => ⟨gb.up p hp, gb.bd p hp, gb.l3 p hp⟩
    simp [eS, hS _ _ g.nd (show (addAll a b).length ≤ LIM by simp; omega)]
    exact T.R _ _ ⟨rfl, rfl⟩⟩
end Vi
end
section
set_option Elab.async false
set_option linter.all false
set_option maxRecDepth 100000
set_option maxHeartbeats 4000000
namespace Vi
open PySem PySem.Spec PyProof.Rows L2
/-! ### any values -/
mutual
/-- values without dicts, instances, keys -/
def vk : D → Bool
  | .non => true
  | .bl _ => true
  | .int _ => true
  | .str _ => true
  | .tup xs => vks xs
  | .lst xs => vks xs
  | _ => false
def vks : List D → Bool
  | [] => true
  | x :: xs => vk x && vks xs
end
theorem vks_all : ∀ {xs : List D}, vks xs = true ↔ ∀ x ∈ xs, vk x = true
  | [] => by simp [vks]
  | x :: xs => by rw [vks, Bool.and_eq_true, vks_all]; simp
/-- a tuple, of whatever sort -/
def tl (d : D) (xs : List D) : Prop := d = .tup xs ∨ d = .ptup xs
theorem tl_iter {d : D} {xs : List D} (h : tl d xs) : iterV (.fz d) = some xs := by rcases h with rfl | rfl <;> rfl
def tlOf : D → Option (List D)
  | .tup xs => some xs
  | .ptup xs => some xs
  | _ => none
theorem tlOf_tl {d : D} {xs : List D} (h : tlOf d = some xs) : tl d xs := by
  cases d <;> first | (cases h; done) | (cases h; exact .inl rfl) | (cases h; exact .inr rfl)
/-- isinstance with one class -/
def isTup (d : D) : Bool := (tlOf d).isSome
def isInt : D → Bool
  | .int _ => true
  | .bl _ => true
  | _ => false
def isBool : D → Bool
  | .bl _ => true
  | _ => false
theorem isin_tup {d : D} (h : vk d = true) : isTys (.fz d) ["tuple"] = some (isTup d) := by
  cases d <;> first | (cases h; done) | rfl
theorem isin_int {d : D} (h : vk d = true) : isTys (.fz d) ["int"] = some (isInt d) := by
  cases d <;> first | (cases h; done) | rfl
theorem isin_bool {d : D} (h : vk d = true) : isTys (.fz d) ["bool"] = some (isBool d) := by
  cases d <;> first | (cases h; done) | rfl
/-! ### is_below, and the law's own look at a letter -/
def belowV (n : Int) : D → Bool
  | .int i => decide (0 ≤ i) && decide (i < n)
  | _ => false
def irBelow : Ss := (.cons (.ret (.and (.isin (.var 0) ["int"]) (.and (.not (.isin (.var 0) ["bool"])) (.chain .le .lt (.int 0) (.var 0) (.var 1)))))
    .nil)
def irLetter : Ss := (.cons (.ret (.and (.isin (.var 0) ["int"]) (.and (.not (.isin (.var 0) ["bool"])) (.and (.cmp .ge (.var 0) (.int 0)) (.cmp .lt (.var 0) (.var 1))))))
    .nil)
def BelowS (o : Option Sem) : Prop := ∃ s, o = some s ∧ ∀ (d : D) (n : Int) (τ : List D), vk d = true → s [.fz d, .fz (.int n)] τ = .ok (.fz (.bl (belowV n d))) [.un, .un] τ
theorem belowS (Φ : Phi) : BelowS (some (semDef Φ 0 2 0 irBelow)) := ⟨_, rfl, fun d n τ h => by
  cases d with
  | int i =>
    by_cases c : 0 ≤ i
    · simp [semDef, irBelow, isin_int h, isin_bool h, isInt, isBool, belowV, c]
    · simp [semDef, irBelow, isin_int h, isin_bool h, isInt, isBool, belowV, c]
  | bl b => simp [semDef, irBelow, isin_int h, isin_bool h, isInt, isBool, belowV]
  | non => simp [semDef, irBelow, isin_int h, isInt, belowV]
  | str x => simp [semDef, irBelow, isin_int h, isInt, belowV]
  | tup x => simp [semDef, irBelow, isin_int h, isInt, belowV]
  | lst x => simp [semDef, irBelow, isin_int h, isInt, belowV]
  | ptup _ => cases h
  | dK _ => cases h
  | dT _ => cases h
  | ins _ _ => cases h
  | hand => cases h
  | scr _ => cases h
  | ktup _ => cases h⟩
theorem letterS (Φ : Phi) : BelowS (some (semDef Φ 0 2 0 irLetter)) := ⟨_, rfl, fun d n τ h => by
  cases d with
  | int i =>
    by_cases c : 0 ≤ i
    · simp [semDef, irLetter, isin_int h, isin_bool h, isInt, isBool, belowV, c]
    · simp [semDef, irLetter, isin_int h, isin_bool h, isInt, isBool, belowV, c]
  | bl b => simp [semDef, irLetter, isin_int h, isin_bool h, isInt, isBool, belowV]
  | non => simp [semDef, irLetter, isin_int h, isInt, belowV]
  | str x => simp [semDef, irLetter, isin_int h, isInt, belowV]
  | tup x => simp [semDef, irLetter, isin_int h, isInt, belowV]
  | lst x => simp [semDef, irLetter, isin_int h, isInt, belowV]
  | ptup _ => cases h
  | dK _ => cases h
  | dT _ => cases h
  | ins _ _ => cases h
  | hand => cases h
  | scr _ => cases h
  | ktup _ => cases h⟩
end Vi
end
section
set_option Elab.async false
set_option linter.all false
set_option maxRecDepth 100000
set_option maxHeartbeats 4000000
namespace Vi
open PySem PySem.Spec PyProof.Rows L2
/-! ### rising -/
def adj {α : Type} (lt : α → α → Bool) (xs : List α) : Bool := (xs.zip xs.tail).all fun p => lt p.1 p.2
def adjI : List Int → Bool := adj fun a b => decide (a < b)
def adjK : List (List Int) → Bool := adj fun a b => decide (a < b)
theorem cut_1 {α : Type} {xs : List α} : cut xs (some 1) none = xs.tail := by
  unfold cut
  rw [show (some (1 : Int)) = some ((1 : Nat) : Int) from rfl, HT.sIx_nat, HT.sIx_none]
  cases xs with
  | nil => rfl
  | cons x r =>
    rw [show min 1 (x :: r).length = 1 by simp]
    simp
theorem sl_1p {xs : List D} : ∃ e, slop (.ptup xs) (some 1) none = some (.fz e) ∧ tupLike e = some xs.tail := by
  have h : slop (.ptup xs) (some 1) none = some (.fz (if HT.sIx xs.length 0 (some 1) = 0 ∧ HT.sIx xs.length xs.length none = xs.length then .ptup xs else .tup (cut xs (some 1) none))) := rfl
  rw [h, cut_1]
  split
  · rename_i c
    refine ⟨_, rfl, ?_⟩
    have c1 := c.1
    rw [show (some (1 : Int)) = some ((1 : Nat) : Int) from rfl, HT.sIx_nat] at c1
    cases xs with
    | nil => rfl
    | cons x r => simp at c1
  · exact ⟨_, rfl, rfl⟩
theorem zipD_map {α : Type} {e : α → D} : ∀ (xs ys : List α), zipD (xs.map e) (ys.map e) = (xs.zip ys).map fun p => .tup [e p.1, e p.2]
  | [], _ => by simp [zipD]
  | _ :: _, [] => by simp [zipD]
  | x :: xs, y :: ys => by
    rw [List.map_cons, List.map_cons, zipD, zipD_map xs ys, List.zip_cons_cons, List.map_cons]
def irRising : Ss := (.cons (.ret (.bi .all (.cons (.comp (.cmp .lt (.var 1) (.var 2)) (.tup (.cons (.name 1) (.cons (.name 2) .nil))) (.zip (.var 0) (.sl (.var 0) (.yes (.int 1)) .no)) .no [1, 2]) .nil)))
    .nil)
theorem cop_ltd {a b : List Int} : cmpop .lt (.tup (a.map .int)) (.tup (b.map .int)) = some (decide (a < b)) := by
  show dlt (.tup (a.map .int)) (.tup (b.map .int)) = _
  unfold dlt
  rw [if_pos, show PySem.W.dataLt (D.tup (a.map .int)).py (D.tup (b.map .int)).py = decide (a < b) from lt_dI]
  rw [plain_dI, plain_dI, py_tup, py_tup, pys_ints, pys_ints, PySem.W.alike, alike_ints]
  rfl
theorem cop_led {a b : List Int} : cmpop .le (.tup (a.map .int)) (.tup (b.map .int)) = some (!decide (b < a)) := by
  show (dgt (.tup (a.map .int)) (.tup (b.map .int))).map (!·) = _
  unfold dgt
  rw [if_pos, show PySem.W.dataLt (D.tup (b.map .int)).py (D.tup (a.map .int)).py = decide (b < a) from lt_dI]
  · rfl
  rw [plain_dI, plain_dI, py_tup, py_tup, pys_ints, pys_ints, PySem.W.alike, alike_ints]
  rfl
def RisingS (o : Option Sem) : Prop := ∃ s, o = some s ∧ (∀ (d : D) (ls : List Int) (τ : List D), tl d (ls.map .int) → ls.length ≤ LIM → s [.fz d] τ = .ok (.fz (.bl (adjI ls))) [.un] τ) ∧
  ∀ (ks : List (List Int)) (τ : List D), ks.length ≤ LIM → s [.own (.lst (ks.map dI))] τ = .ok (.fz (.bl (adjK ks))) [.un] τ
theorem risingS (Φ : Phi) : RisingS (some (semDef Φ 0 1 2 irRising)) := ⟨_, rfl, fun d ls τ h hl => by
  have key : ∀ d, compL (turnF Φ (.cmp .lt (.var 1) (.var 2)) (.tup (.cons (.name 1) (.cons (.name 2) .nil))) .no [.fz d, .un, .un]) ((ls.zip ls.tail).map fun p => .tup [.int p.1, .int p.2]) [] τ = .ok ((ls.zip ls.tail).map fun p => .bl (decide (p.1 < p.2))) τ := fun d =>
    comp_map (enc := fun p : Int × Int => .tup [.int p.1, .int p.2]) _ (by rw [List.length_zip]; omega) fun p _ => by simp [kr_turnF']
  have e0 : (ls.map D.int).tail = ls.tail.map .int := by cases ls <;> rfl
  rcases h with rfl | rfl
  · have z : zipV (.fz (.tup (ls.map D.int))) (.fz (.tup (ls.map D.int).tail)) = some ((ls.zip ls.tail).map fun p => .tup [.int p.1, .int p.2]) := by
      rw [e0]
      show some (zipD (ls.map D.int) (ls.tail.map D.int)) = _
      rw [zipD_map]
    have sl : slop (.tup (ls.map D.int)) (some 1) none = some (.fz (.tup (ls.map D.int).tail)) := by
      show some (RV.fz (.tup (cut (ls.map D.int) (some 1) none))) = _
      rw [cut_1]
    simp [semDef, irRising, sl, -List.map_tail, z, key, adjI, adj, Function.comp_def]
  · obtain ⟨e, sl, te⟩ := sl_1p (xs := ls.map D.int)
    have z : zipV (.fz (.ptup (ls.map D.int))) (.fz e) = some ((ls.zip ls.tail).map fun p => .tup [.int p.1, .int p.2]) := by
      show zipOf (.ptup (ls.map D.int)) e = _
      have : zipOf (.ptup (ls.map D.int)) e = some (zipD (ls.map D.int) (ls.map D.int).tail) := by
        cases e <;> first | (cases te; done) | (cases te; rfl)
      rw [this, e0, zipD_map]
    simp [semDef, irRising, sl, z, key, adjI, adj, Function.comp_def], fun ks τ hl => by
  have key : ∀ d, compL (turnF Φ (.cmp .lt (.var 1) (.var 2)) (.tup (.cons (.name 1) (.cons (.name 2) .nil))) .no [d, .un, .un]) ((ks.zip ks.tail).map fun p => .tup [dI p.1, dI p.2]) [] τ = .ok ((ks.zip ks.tail).map fun p => .bl (decide (p.1 < p.2))) τ := fun d =>
    comp_map (enc := fun p : List Int × List Int => .tup [dI p.1, dI p.2]) _ (by rw [List.length_zip]; omega) fun p _ => by simp [kr_turnF', cop_ltd]
  have e0 : (ks.map dI).tail = ks.tail.map dI := by cases ks <;> rfl
  have sl : slop (.lst (ks.map dI)) (some 1) none = some (.own (.lst (ks.map dI).tail)) := by
    show some (RV.own (.lst (cut (ks.map dI) (some 1) none))) = _
    rw [cut_1]
  have z : zipV (.ro (.lst (ks.map dI))) (.own (.lst (ks.map dI).tail)) = some ((ks.zip ks.tail).map fun p => .tup [dI p.1, dI p.2]) := by
    rw [e0]
    show some (zipD (ks.map dI) (ks.tail.map dI)) = _
    rw [zipD_map]
  simp [semDef, irRising, sl, -List.map_tail, z, key, adjK, adj, Function.comp_def]⟩
/-! ### members -/
def intsV (n : Int) (ls : List D) : Option (List Int) := if ls.length ≤ 3 && ls.all (belowV n) then intsOf ls else none
/-- what a member is read as -/
def memV (n : Int) (d : D) : Option (List Int × Int) := match tlOf d with
  | some [l, .int k] => match (tlOf l).bind (intsV n) with
    | some is => if adjI is && !decide (k = 0) then some (is, k) else none
    | none => none
  | _ => none
theorem below_ints {n : Int} : ∀ {ls : List D}, ls.all (belowV n) = true → ∃ is : List Int, ls = is.map D.int
  | [], _ => ⟨[], rfl⟩
  | d :: ls, h => by
    rw [List.all_cons, Bool.and_eq_true] at h
    obtain ⟨is, e⟩ := below_ints h.2
    cases d <;> first | (cases h.1; done) | skip
    rename_i i
    exact ⟨i :: is, by rw [e]; rfl⟩
def nzV : D → Bool
  | .int k => !decide (k = 0)
  | _ => true
def irMember : Ss := (.cons (.iff (.or (.not (.isin (.var 0) ["tuple"])) (.or (.cmp .ne (.bi .len (.cons (.var 0) .nil)) (.int 2)) (.not (.isin (.ix (.var 0) (.int 0)) ["tuple"])))) (.cons (.ret (.bl false))
    .nil) .nil)
    (.cons (.frz 0)
    (.cons (.asg (.tup (.cons (.name 2) (.cons (.name 3) .nil))) (.var 0))
    (.cons (.iff (.or (.cmp .gt (.bi .len (.cons (.var 2) .nil)) (.glb "MOST_LETTERS")) (.not (.bi .all (.cons (.comp (.call "is_below" (.cons (.var 4) (.cons (.var 1) .nil))) (.name 4) (.over (.var 2)) .no [4]) .nil)))) (.cons (.ret (.bl false))
    .nil) .nil)
    (.cons (.ret (.and (.call "is_rising" (.cons (.var 2) .nil)) (.and (.isin (.var 3) ["int"]) (.and (.not (.isin (.var 3) ["bool"])) (.cmp .ne (.var 3) (.int 0))))))
    .nil)))))
def MemberS (o : Option Sem) : Prop := ∃ s, o = some s ∧ ∀ (d : D) (n : Int) (τ : List D), vk d = true → s [.fz d, .fz (.int n)] τ = .ok (.fz (.bl (memV n d).isSome)) [.un, .un] τ
/-- a tuple's items, read off any sort of tuple -/
theorem len_tl {d : D} {xs : List D} (h : tl d xs) : biop .len [d] = some (.fz (.int xs.length)) := by rcases h with rfl | rfl <;> rfl
theorem isTup_tl {d : D} {xs : List D} (h : tl d xs) : isTup d = true := by rcases h with rfl | rfl <;> rfl
theorem tlOf_eq {d : D} {xs : List D} (h : tl d xs) : tlOf d = some xs := by rcases h with rfl | rfl <;> rfl
theorem vk_tl {d : D} {xs : List D} (h : tl d xs) (v : vk d = true) : ∀ x ∈ xs, vk x = true := by
  rcases h with rfl | rfl
  · exact vks_all.mp (by simpa [vk] using v)
  · cases v
theorem ix_tl {d i : D} {xs : List D} {τ : List D} (h : tl d xs) : ixK2 (.fz d) (.ok i τ) = R.of ((ixop (.tup xs) i).map RV.fz) τ := by
  rcases h with rfl | rfl
  · rfl
  · cases i <;> rfl
theorem bind_tl {ts : Tgs} {d : D} {xs : List D} {env : Env} (h : tl d xs) : bindT (.tup ts) d env = bindTs ts xs env := by
  rcases h with rfl | rfl
  · exact bindT_tup
  · rw [bindT]; rfl
theorem memberS (Φ : Phi) (hB : BelowS (Φ.fn "is_below")) (hR : RisingS (Φ.fn "is_rising")) (hG : Φ.gl "MOST_LETTERS" = some (.int 3)) : MemberS (some (semDef Φ 0 2 3 irMember)) := ⟨_, rfl, fun d n τ hv => by
  obtain ⟨sB, eB, hB⟩ := hB
  obtain ⟨sR, eR, hR, _⟩ := hR
  cases ht : tlOf d with
  | none =>
    have : isTup d = false := by unfold isTup; rw [ht]; rfl
    have e : memV n d = none := by unfold memV; rw [ht]
    simp [semDef, irMember, isin_tup hv, this, e]
  | some xs =>
    have htl := tlOf_tl ht
    have h1 := isTup_tl htl
    have h2 := len_tl htl
    have hvs := vk_tl htl hv
    by_cases hl : xs.length = 2
    · obtain ⟨l, v, rfl⟩ : ∃ l v, xs = [l, v] := by
        match xs, hl with
        | [l, v], _ => exact ⟨l, v, rfl⟩
      have hvl := hvs l (by simp)
      have hvv := hvs v (by simp)
      cases hl2 : tlOf l with
      | none =>
        have e1 : isTup l = false := by unfold isTup; rw [hl2]; rfl
        have e : memV n d = none := by
          unfold memV; rw [ht]
          cases v <;> simp [hl2]
        simp [semDef, irMember, isin_tup hv, h1, h2, ix_tl htl, isin_tup hvl, e1, e]
      | some ls =>
        have hll := tlOf_tl hl2
        have e1 := isTup_tl hll
        have e2 := len_tl hll
        have hls := vk_tl hll hvl
        by_cases h3 : ls.length ≤ 3
        · have h3' : ¬ (3 : Int) < ls.length := by omega
          have key : compL (turnF Φ (.call "is_below" (.cons (.var 4) (.cons (.var 1) .nil))) (.name 4) .no [.fz d, .fz (.int n), .fz l, .fz v, .un]) ls [] τ = .ok (ls.map fun x => .bl (belowV n x)) τ := by
            have := comp_map (Φ := Φ) (el := .call "is_below" (.cons (.var 4) (.cons (.var 1) .nil))) (tg := .name 4) (co := .no) (env := [.fz d, .fz (.int n), .fz l, .fz v, .un]) (τ := τ) (enc := id) (as := ls) (fun x => .bl (belowV n x)) (by simp; omega) fun x hx => by
              simp [kr_turnF', eB, hB x n τ (hls x hx)]
            simpa using this
          have it : iterV (.fz l) = some ls := tl_iter hll
          cases hb : ls.all (belowV n) with
          | false =>
            have e : memV n d = none := by
              unfold memV; rw [ht]
              cases v <;> simp [hl2, intsV, hb]
            simp [semDef, irMember, isin_tup hv, h1, h2, ix_tl htl, isin_tup hvl, e1, bind_tl htl, e2, hG, h3', it, key, List.all_map, Function.comp_def, hb, e]
          | true =>
            obtain ⟨is, rfl⟩ := below_ints hb
            have hr := hR l is τ hll (by simp at h3 ⊢; omega)
            have e0 : (tlOf l).bind (intsV n) = some is := by
              rw [hl2]
              show intsV n (is.map D.int) = _
              unfold intsV
              rw [hb, decide_eq_true h3]
              exact ints_map
            have hb2 : (is.all fun a => belowV n (.int a)) = true := by rw [List.all_map] at hb; exact hb
            have h4 : ¬ (3 : Int) < is.length := by simpa using h3'
            cases ha : adjI is with
            | false =>
              have e : memV n d = none := by
                unfold memV; rw [ht]
                cases v <;> simp [e0, ha]
              simp [semDef, irMember, isin_tup hv, h1, h2, ix_tl htl, isin_tup hvl, e1, bind_tl htl, e2, hG, h4, it, key, List.all_map, Function.comp_def, hb2, eR, hr, ha, e]
            | true =>
              have go : ∀ b : Bool, (memV n d).isSome = b → (isInt v && (!isBool v && nzV v)) = b → semDef Φ 0 2 3 irMember [.fz d, .fz (.int n)] τ = .ok (.fz (.bl (memV n d).isSome)) [.un, .un] τ := fun b e1' e2' => by
                rw [e1', ← e2']
                clear e1' e2'
                cases v with
                | int k => simp [semDef, irMember, isin_tup hv, h1, h2, ix_tl htl, isin_tup hvl, e1, bind_tl htl, e2, hG, h4, it, key, List.all_map, Function.comp_def, hb2, eR, hr, ha, isin_int hvv, isin_bool hvv, isInt, isBool, nzV]
                | bl k => simp [semDef, irMember, isin_tup hv, h1, h2, ix_tl htl, isin_tup hvl, e1, bind_tl htl, e2, hG, h4, it, key, List.all_map, Function.comp_def, hb2, eR, hr, ha, isin_int hvv, isin_bool hvv, isInt, isBool, nzV]
                | non => simp [semDef, irMember, isin_tup hv, h1, h2, ix_tl htl, isin_tup hvl, e1, bind_tl htl, e2, hG, h4, it, key, List.all_map, Function.comp_def, hb2, eR, hr, ha, isin_int hvv, isInt]
                | str _ => simp [semDef, irMember, isin_tup hv, h1, h2, ix_tl htl, isin_tup hvl, e1, bind_tl htl, e2, hG, h4, it, key, List.all_map, Function.comp_def, hb2, eR, hr, ha, isin_int hvv, isInt]
                | tup _ => simp [semDef, irMember, isin_tup hv, h1, h2, ix_tl htl, isin_tup hvl, e1, bind_tl htl, e2, hG, h4, it, key, List.all_map, Function.comp_def, hb2, eR, hr, ha, isin_int hvv, isInt]
                | lst _ => simp [semDef, irMember, isin_tup hv, h1, h2, ix_tl htl, isin_tup hvl, e1, bind_tl htl, e2, hG, h4, it, key, List.all_map, Function.comp_def, hb2, eR, hr, ha, isin_int hvv, isInt]
                | ptup _ => cases hvv
                | dK _ => cases hvv
                | dT _ => cases hvv
                | ins _ _ => cases hvv
                | hand => cases hvv
                | scr _ => cases hvv
                | ktup _ => cases hvv
              refine go _ rfl ?_
              unfold memV
              rw [ht]
              cases v with
              | int k =>
                simp only [e0, ha, Bool.true_and, isInt, isBool, Bool.not_false, nzV]
                by_cases c : k = 0 <;> simp [c]
              | _ => rfl
        · have h3' : (3 : Int) < ls.length := by omega
          have e : memV n d = none := by
            unfold memV; rw [ht]
            cases v <;> simp [hl2, intsV, h3]
          simp [semDef, irMember, isin_tup hv, h1, h2, ix_tl htl, isin_tup hvl, e1, bind_tl htl, e2, hG, h3', e]
    · have hl' : ¬ (xs.length : Int) = 2 := by omega
      have e : memV n d = none := by
        unfold memV; rw [ht]
        match xs, hl with
        | [], _ => rfl
        | [_], _ => rfl
        | [_, _], h => exact absurd rfl h
        | _ :: y :: _ :: _, _ => cases y <;> rfl
      simp [semDef, irMember, isin_tup hv, h1, h2, hl, hl', e]⟩
end Vi
end
section
set_option Elab.async false
set_option linter.all false
set_option maxRecDepth 100000
set_option maxHeartbeats 4000000
namespace Vi
open PySem PySem.Spec PyProof.Rows L2
/-- a value as it is asked for: at its top any sort of tuple -/
def vt : D → Bool
  | .ptup xs => vks xs
  | d => vk d
theorem vt_of {d : D} (h : vk d = true) : vt d = true := by cases d <;> first | exact h | (cases h; done)
theorem isin_tup' {d : D} (h : vt d = true) : isTys (.fz d) ["tuple"] = some (isTup d) := by
  cases d <;> first | (cases h; done) | rfl
theorem vt_tl {d : D} {xs : List D} (h : tl d xs) (v : vt d = true) : ∀ x ∈ xs, vk x = true := by
  rcases h with rfl | rfl
  · exact vks_all.mp (by simpa [vt, vk] using v)
  · exact vks_all.mp (by simpa [vt] using v)
theorem mem_form {n : Int} {x : D} {p : List Int × Int} (hv : vk x = true) (h : memV n x = some p) : x = encP p := by
  unfold memV at h
  split at h
  · rename_i l k ht
    have htl := tlOf_tl ht
    split at h
    · rename_i is hi
      split at h
      · cases h
        have hl : ∃ ls, tlOf l = some ls ∧ intsV n ls = some is := by
          cases e : tlOf l with
          | none => rw [e] at hi; cases hi
          | some ls => rw [e] at hi; exact ⟨ls, rfl, hi⟩
        obtain ⟨ls, hl, hi⟩ := hl
        have e1 : ls = is.map D.int := by
          unfold intsV at hi
          split at hi
          · rename_i c
            rw [Bool.and_eq_true] at c
            obtain ⟨is2, rfl⟩ := below_ints c.2
            rw [ints_map] at hi
            cases hi
            rfl
          · cases hi
        have ex : x = .tup [l, .int k] := by
          rcases htl with e | e
          · exact e
          · rw [e] at hv; cases hv
        have el : l = .tup ls := by
          rcases tlOf_tl hl with e | e
          · exact e
          · rw [ex] at hv
            rw [e] at hv
            simp [vk, vks] at hv
        rw [ex, el, e1]
      · cases h
    · cases h
  · cases h
def keysV (n : Int) (xs : List D) : List (List Int) := xs.filterMap fun x => (memV n x).map (·.1)
def sumV (n : Int) (d : D) : Bool := match tlOf d with
  | none => false
  | some xs => (xs.all fun x => (memV n x).isSome) && adjK (keysV n xs)
theorem mem_all {n : Int} : ∀ {xs : List D}, (∀ x ∈ xs, vk x = true) → (xs.all fun x => (memV n x).isSome) = true → ∃ ps : List (List Int × Int), xs = ps.map encP ∧ keysV n xs = ps.map (·.1)
  | [], _, _ => ⟨[], rfl, rfl⟩
  | x :: xs, hv, h => by
    rw [List.all_cons, Bool.and_eq_true] at h
    obtain ⟨ps, e1, e2⟩ := mem_all (fun y hy => hv y (List.mem_cons_of_mem _ hy)) h.2
    cases e : memV n x with
    | none => rw [e] at h; cases h.1
    | some p =>
      refine ⟨p :: ps, by rw [mem_form (hv x List.mem_cons_self) e, e1]; rfl, ?_⟩
      unfold keysV at e2 ⊢
      rw [List.filterMap_cons, e]
      simp [e2]
def irIsSum : Ss := (.cons (.iff (.or (.not (.isin (.var 0) ["tuple"])) (.not (.bi .all (.cons (.comp (.call "is_member" (.cons (.var 4) (.cons (.var 1) .nil))) (.name 4) (.over (.var 0)) .no [4]) .nil)))) (.cons (.ret (.bl false))
    .nil) .nil)
    (.cons (.ret (.call "is_rising" (.cons (.comp (.var 2) (.tup (.cons (.name 2) (.cons (.name 3) .nil))) (.over (.var 0)) .no [2, 3]) .nil)))
    .nil))
/-- how many items a value may have -/
def lens (d : D) : Prop := ∀ xs, tlOf d = some xs → xs.length ≤ LIM
def IsSumS (o : Option Sem) : Prop := ∃ s, o = some s ∧ ∀ (d : D) (n : Int) (τ : List D), vt d = true → lens d → s [.fz d, .fz (.int n)] τ = .ok (.fz (.bl (sumV n d))) [.un, .un] τ
theorem isSumS (Φ : Phi) (hM : MemberS (Φ.fn "is_member")) (hR : RisingS (Φ.fn "is_rising")) : IsSumS (some (semDef Φ 0 2 3 irIsSum)) := ⟨_, rfl, fun d n τ hv hl => by
  obtain ⟨sM, eM, hM⟩ := hM
  obtain ⟨sR, eR, _, hR⟩ := hR
  cases ht : tlOf d with
  | none =>
    have : isTup d = false := by unfold isTup; rw [ht]; rfl
    have e : sumV n d = false := by unfold sumV; rw [ht]
    simp [semDef, irIsSum, isin_tup' hv, this, e]
  | some xs =>
    have htl := tlOf_tl ht
    have h1 := isTup_tl htl
    have hvs := vt_tl htl hv
    have it : iterV (.fz d) = some xs := tl_iter htl
    have key : compL (turnF Φ (.call "is_member" (.cons (.var 4) (.cons (.var 1) .nil))) (.name 4) .no [.fz d, .fz (.int n), .un, .un, .un]) xs [] τ = .ok (xs.map fun x => .bl (memV n x).isSome) τ := by
      have := comp_map (Φ := Φ) (el := .call "is_member" (.cons (.var 4) (.cons (.var 1) .nil))) (tg := .name 4) (co := .no) (env := [.fz d, .fz (.int n), .un, .un, .un]) (τ := τ) (enc := id) (as := xs) (fun x => .bl (memV n x).isSome) (hl xs ht) fun x hx => by
        simp [kr_turnF', eM, hM x n τ (hvs x hx)]
      simpa using this
    cases ha : xs.all fun x => (memV n x).isSome with
    | false =>
      have e : sumV n d = false := by unfold sumV; rw [ht]; simp only [ha, Bool.false_and]
      simp [semDef, irIsSum, isin_tup' hv, h1, it, key, List.all_map, Function.comp_def, ha, e]
    | true =>
      obtain ⟨ps, e1, e2⟩ := mem_all hvs ha
      have hlen : ps.length ≤ LIM := by have := hl xs ht; rw [e1, List.length_map] at this; exact this
      have key2 : compL (turnF Φ (.var 2) (.tup (.cons (.name 2) (.cons (.name 3) .nil))) .no [.fz d, .fz (.int n), .un, .un, .un]) (ps.map encP) [] τ = .ok (ps.map fun p => dI p.1) τ :=
        comp_map (enc := encP) _ hlen fun p _ => by simp [kr_turnF']
      have e3 : (ps.map fun p => dI p.1) = (ps.map (·.1)).map dI := by rw [List.map_map]; rfl
      have hr := hR (ps.map (·.1)) τ (by rw [List.length_map]; exact hlen)
      have e : sumV n d = adjK (ps.map (·.1)) := by unfold sumV; rw [ht]; simp only [ha, Bool.true_and, e2]
      rw [e]
      rw [e3] at key2
      rw [e1] at it key
      have ha2 : (ps.all fun x => (memV n (encP x)).isSome) = true := by rw [e1, List.all_map] at ha; exact ha
      have key3 : compL (turnF Φ (.var 2) (.tup (.cons (.name 2) (.cons (.name 3) .nil))) .no [.fz d, .fz (.int n), .un, .un, .un]) (ps.map encP) [] τ = .ok ((ps.map (·.1)).map dI) τ := key2
      generalize hks : ps.map (·.1) = ks at *
      simp [semDef, irIsSum, isin_tup' hv, h1, it, key, List.all_map, Function.comp_def, ha2, key3, eR, hr]⟩
/-! the law's own -/
def lastLt {α : Type} (lt : α → α → Bool) : Option α → α → Bool
  | none, _ => true
  | some y, x => lt y x
theorem adj_snoc {α : Type} {lt : α → α → Bool} : ∀ {xs : List α} {x : α}, adj lt (xs ++ [x]) = (adj lt xs && lastLt lt xs.getLast? x)
  | [], x => by simp [adj, lastLt]
  | [a], x => by simp [adj, lastLt]
  | a :: b :: r, x => by
    have ih := adj_snoc (lt := lt) (xs := b :: r) (x := x)
    have e1 : adj lt (a :: b :: r ++ [x]) = (lt a b && adj lt (b :: r ++ [x])) := by unfold adj; simp
    have e2 : adj lt (a :: b :: r) = (lt a b && adj lt (b :: r)) := by unfold adj; simp
    rw [e1, e2, ih, List.getLast?_cons_cons, Bool.and_assoc]
theorem adj_pre {α : Type} {lt : α → α → Bool} {a : List α} : ∀ {b : List α}, adj lt (a ++ b) = true → adj lt a = true := by
  intro b
  induction b using rev_ind with
  | nil => intro h; simpa using h
  | snoc b x ih =>
    intro h
    rw [← List.append_assoc, adj_snoc, Bool.and_eq_true] at h
    exact ih h.1
def adjR (is : List Int) : Bool := (List.range (is.length - 1)).all fun (k : Nat) => decide (rowAt is k < rowAt is ((k + 1 : Nat) : Int))
theorem adjR_eq : ∀ {is : List Int}, adjR is = adjI is
  | [] => rfl
  | [a] => rfl
  | a :: b :: r => by
    have ih := adjR_eq (is := b :: r)
    have e2 : adjI (a :: b :: r) = (decide (a < b) && adjI (b :: r)) := by unfold adjI adj; simp
    rw [e2, ← ih]
    unfold adjR
    show ((List.range (r.length + 1)).all _) = _
    rw [List.range_succ_eq_map, List.all_cons, List.all_map]
    rfl
def irLawSum : Ss := (.cons (.iff (.not (.isin (.var 0) ["tuple"])) (.cons (.ret (.bl false))
    .nil) .nil)
    (.cons (.asg (.name 2) .non)
    (.cons (.for_ (.name 3) (.over (.var 0)) (.cons (.iff (.or (.not (.isin (.var 3) ["tuple"])) (.or (.cmp .ne (.bi .len (.cons (.var 3) .nil)) (.int 2)) (.or (.not (.isin (.ix (.var 3) (.int 0)) ["tuple"])) (.cmp .gt (.bi .len (.cons (.ix (.var 3) (.int 0)) .nil)) (.int 3))))) (.cons (.ret (.bl false))
    .nil) .nil)
    (.cons (.frz 3)
    (.cons (.asg (.tup (.cons (.name 4) (.cons (.name 5) .nil))) (.var 3))
    (.cons (.iff (.not (.bi .all (.cons (.comp (.call "_law_is_letter" (.cons (.var 6) (.cons (.var 1) .nil))) (.name 6) (.over (.var 4)) .no [6]) .nil))) (.cons (.ret (.bl false))
    .nil) .nil)
    (.cons (.iff (.not (.bi .all (.cons (.comp (.cmp .lt (.ix (.var 4) (.var 7)) (.ix (.var 4) (.bin .add (.var 7) (.int 1)))) (.name 7) (.rng1 (.bin .sub (.bi .len (.cons (.var 4) .nil)) (.int 1))) .no [7]) .nil))) (.cons (.ret (.bl false))
    .nil) .nil)
    (.cons (.iff (.or (.not (.isin (.var 5) ["int"])) (.or (.isin (.var 5) ["bool"]) (.cmp .eq (.var 5) (.int 0)))) (.cons (.ret (.bl false))
    .nil) .nil)
    (.cons (.iff (.and (.cmp .isnot (.var 2) .non) (.cmp .le (.var 4) (.var 2))) (.cons (.ret (.bl false))
    .nil) .nil)
    (.cons (.frz 4)
    (.cons (.asg (.name 2) (.var 4))
    .nil))))))))))
    (.cons (.ret (.bl true))
    .nil))))
theorem isnot_non : cmpop .isnot .non .non = some false := rfl
theorem isnot_tup {xs : List D} : cmpop .isnot (.tup xs) .non = some true := rfl
def lastD (ks : List (List Int)) : D := match ks.getLast? with
  | none => .non
  | some k => dI k
theorem rng_sub {n : Nat} (h : n ≤ 1000000) : rngOk ((n : Int) - 1) = true ∧ rangeD 0 ((n : Int) - 1).toNat = (List.range (n - 1)).map fun (i : Nat) => .int (i : Int) := by
  refine ⟨?_, ?_⟩
  · unfold rngOk
    rw [decide_eq_true_iff]
    omega
  · rw [show ((n : Int) - 1).toNat = n - 1 by omega, rangeD_0]
theorem lawSumS (Φ : Phi) (hB : BelowS (Φ.fn "_law_is_letter")) : IsSumS (some (semDef Φ 0 2 6 irLawSum)) := ⟨_, rfl, fun d n τ hv hl => by
  obtain ⟨sB, eB, hB⟩ := hB
  refine def_eq rfl rfl fun q T => ?_
  cases ht : tlOf d with
  | none =>
    have h1 : isTup d = false := by unfold isTup; rw [ht]; rfl
    have e : sumV n d = false := by unfold sumV; rw [ht]
    simp [irLawSum, isin_tup' hv, h1]
    exact T.R _ _ ⟨by rw [e], rfl⟩
  | some xs =>
    have htl := tlOf_tl ht
    have h1 := isTup_tl htl
    have hvs := vt_tl htl hv
    have it : iterV (.fz d) = some xs := tl_iter htl
    have e : sumV n d = ((xs.all fun x => (memV n x).isSome) && adjK (keysV n xs)) := by unfold sumV; rw [ht]
    simp [irLawSum, isin_tup' hv, h1, it]
    rw [show xs = xs.map id by simp]
    refine wp_list (enc := id) (fun pre env t => t = τ ∧ (pre.all fun x => (memV n x).isSome) = true ∧ adjK (keysV n pre) = true ∧ ∃ g3 g4 g5 g6 g7, env = [.fz d, .fz (.int n), .fz (lastD (keysV n pre)), g3, g4, g5, g6, g7]) ⟨rfl, rfl, rfl, _, _, _, _, _, rfl⟩ ?_ ?_
    · rintro pre x post hs env t ⟨rfl, hall, hadj, g3, g4, g5, g6, g7, rfl⟩ q1 T1
      have hx : x ∈ xs := hs ▸ List.mem_append_right _ List.mem_cons_self
      have hvx := hvs x hx
      have no : memV n x = none → q1.R (.fz (.bl false)) t := fun h => T1.R _ _ (T.R _ _ ⟨by
        rw [e]
        have : (xs.all fun x => (memV n x).isSome) = false := List.all_eq_false.mpr ⟨x, hx, by rw [h]; simp⟩
        rw [this]; rfl, rfl⟩)
      cases htx : tlOf x with
      | none =>
        have i1 : isTup x = false := by unfold isTup; rw [htx]; rfl
        have e1 : memV n x = none := by unfold memV; rw [htx]
        simp [isin_tup hvx, i1]
        exact no e1
      | some ys =>
        have xtl := tlOf_tl htx
        have i1 := isTup_tl xtl
        have i2 := len_tl xtl
        have hys := vk_tl xtl hvx
        by_cases hl2 : ys.length = 2
        · obtain ⟨l, v, rfl⟩ : ∃ l v, ys = [l, v] := by
            match ys, hl2 with
            | [l, v], _ => exact ⟨l, v, rfl⟩
          have hvl := hys l (by simp)
          have hvv := hys v (by simp)
          cases htl2 : tlOf l with
          | none =>
            have j1 : isTup l = false := by unfold isTup; rw [htl2]; rfl
            have e1 : memV n x = none := by
              unfold memV; rw [htx]
              cases v <;> simp [htl2]
            simp [isin_tup hvx, i1, i2, ix_tl xtl, isin_tup hvl, j1]
            exact no e1
          | some ls =>
            have ltl := tlOf_tl htl2
            have j1 := isTup_tl ltl
            have j2 := len_tl ltl
            have hls := vk_tl ltl hvl
            by_cases h3 : ls.length ≤ 3
            · have h3' : ¬ (3 : Int) < ls.length := by omega
              have h4 : ¬ 3 < ls.length := by omega
              obtain rfl : l = .tup ls := by
                rcases ltl with e2 | e2
                · exact e2
                · rw [e2] at hvl; cases hvl
              have key1 : ∀ g7, compL (turnF Φ (.call "_law_is_letter" (.cons (.var 6) (.cons (.var 1) .nil))) (.name 6) .no [.fz d, .fz (.int n), .fz (lastD (keysV n pre)), .fz x, .fz (.tup ls), .fz v, .un, g7]) ls [] t = .ok (ls.map fun x => .bl (belowV n x)) t := fun g7 => by
                have := comp_map (Φ := Φ) (el := .call "_law_is_letter" (.cons (.var 6) (.cons (.var 1) .nil))) (tg := .name 6) (co := .no) (env := [.fz d, .fz (.int n), .fz (lastD (keysV n pre)), .fz x, .fz (.tup ls), .fz v, .un, g7]) (τ := t) (enc := id) (as := ls) (fun x => .bl (belowV n x)) (by simp; omega) fun y hy => by
                  simp [kr_turnF', eB, hB y n t (hls y hy)]
                simpa using this
              cases hb : ls.all (belowV n) with
              | false =>
                have e1 : memV n x = none := by
                  unfold memV; rw [htx]
                  cases v <;> simp [tlOf, intsV, hb]
                simp [isin_tup hvx, i1, i2, ix_tl xtl, isin_tup hvl, j1, h3', h4, bind_tl xtl, key1, List.all_map, Function.comp_def, hb]
                exact no e1
              | true =>
                obtain ⟨is, rfl⟩ := below_ints hb
                have hb2 : (is.all fun a => belowV n (.int a)) = true := by rw [List.all_map] at hb; exact hb
                have h5 : ¬ 3 < is.length := by simpa using h4
                have h5i : ¬ (3 : Int) < is.length := by omega
                have h6 : is.length ≤ 1000000 := by omega
                have rg := rng_sub h6
                have rg2 : rangeD 0 (is.length - 1) = (List.range (is.length - 1)).map fun (i : Nat) => .int (i : Int) := rangeD_0 _
                have key2 : ∀ g6, compL (turnF Φ (.cmp .lt (.ix (.var 4) (.var 7)) (.ix (.var 4) (.bin .add (.var 7) (.int 1)))) (.name 7) .no [.fz d, .fz (.int n), .fz (lastD (keysV n pre)), .fz x, .fz (.tup (is.map .int)), .fz v, g6, .un]) ((List.range (is.length - 1)).map fun (i : Nat) => .int (i : Int)) [] t = .ok ((List.range (is.length - 1)).map fun (k : Nat) => .bl (decide (rowAt is k < rowAt is ((k + 1 : Nat) : Int)))) t := fun g6 =>
                  comp_map (enc := fun (i : Nat) => D.int (i : Int)) _ (by simp; omega) fun k hk => by
                    have hk := List.mem_range.mp hk
                    have a1 : atI (is.map D.int) (k : Int) = some (.int (rowAt is k)) := at_rowN (by omega)
                    have a2 : atI (is.map D.int) ((k : Int) + 1) = some (.int (rowAt is ((k + 1 : Nat) : Int))) := at_rowN (k := k + 1) (by omega)
                    simp [kr_turnF', a1, a2]
                have har : ((List.range (is.length - 1)).all fun (k : Nat) => decide (rowAt is k < rowAt is ((k : Int) + 1))) = adjI is := adjR_eq
                have e0 : (tlOf (.tup (is.map D.int))).bind (intsV n) = some is := by
                  show intsV n (is.map D.int) = _
                  unfold intsV
                  rw [hb, decide_eq_true h3]
                  exact ints_map
                cases ha : adjI is with
                | false =>
                  have e1 : memV n x = none := by
                    unfold memV; rw [htx]
                    cases v <;> simp [e0, ha]
                  simp [isin_tup hvx, i1, i2, ix_tl xtl, isin_tup hvl, j1, h5, h5i, bind_tl xtl, key1, List.all_map, Function.comp_def, hb2, rg.1, rg2, key2, har, ha]
                  exact no e1
                | true =>
                  by_cases hnum : isInt v && (!isBool v && nzV v)
                  · obtain ⟨k, rfl, hk⟩ : ∃ k, v = .int k ∧ k ≠ 0 := by
                      cases v <;> first | (simp [isInt] at hnum; done) | (simp [isBool] at hnum; done) | skip
                      rename_i k
                      exact ⟨k, rfl, by simpa [isInt, isBool, nzV] using hnum⟩
                    have em : memV n x = some (is, k) := by
                      unfold memV; rw [htx]
                      simp [e0, ha, hk]
                    have ek : keysV n (pre ++ [x]) = keysV n pre ++ [is] := by unfold keysV; rw [List.filterMap_append]; simp [em]
                    have eall : ((pre ++ [x]).all fun x => (memV n x).isSome) = true := by rw [List.all_append, hall]; simp [em]
                    have esn : adjK (keysV n (pre ++ [x])) = lastLt (fun a b => decide (a < b)) (keysV n pre).getLast? is := by
                      rw [ek]
                      show adj _ _ = _
                      rw [adj_snoc, show adj (fun a b => decide (a < b)) (keysV n pre) = true from hadj, Bool.true_and]
                    have elast : lastD (keysV n (pre ++ [x])) = dI is := by unfold lastD; rw [ek, List.getLast?_concat]
                    cases hlast : (keysV n pre).getLast? with
                    | none =>
                      rw [hlast] at esn
                      have el : lastD (keysV n pre) = .non := by unfold lastD; rw [hlast]
                      rw [el] at key1 key2
                      simp [isin_tup hvx, i1, i2, ix_tl xtl, isin_tup hvl, j1, h5, h5i, bind_tl xtl, key1, List.all_map, Function.comp_def, hb2, rg.1, rg2, key2, har, ha, isin_int hvv, isin_bool hvv, isInt, isBool, hk, el, isnot_non]
                      exact T1.N _ _ ⟨rfl, eall, esn, _, _, _, _, _, by rw [elast]⟩
                    | some y =>
                      rw [hlast] at esn
                      have el : lastD (keysV n pre) = dI y := by unfold lastD; rw [hlast]
                      rw [el] at key1 key2
                      by_cases hy : y < is
                      · simp [isin_tup hvx, i1, i2, ix_tl xtl, isin_tup hvl, j1, h5, h5i, bind_tl xtl, key1, List.all_map, Function.comp_def, hb2, rg.1, rg2, key2, har, ha, isin_int hvv, isin_bool hvv, isInt, isBool, hk, el, isnot_tup, cop_led, hy]
                        exact T1.N _ _ ⟨rfl, eall, by rw [esn]; simpa [lastLt] using hy, _, _, _, _, _, by rw [elast]⟩
                      · simp [isin_tup hvx, i1, i2, ix_tl xtl, isin_tup hvl, j1, h5, h5i, bind_tl xtl, key1, List.all_map, Function.comp_def, hb2, rg.1, rg2, key2, har, ha, isin_int hvv, isin_bool hvv, isInt, isBool, hk, el, isnot_tup, cop_led, hy]
                        refine T1.R _ _ (T.R _ _ ⟨?_, rfl⟩)
                        rw [e]
                        have : adjK (keysV n xs) = false := by
                          cases q : adjK (keysV n xs) with
                          | false => rfl
                          | true =>
                            have e3 : keysV n xs = keysV n (pre ++ [x]) ++ keysV n post := by
                              rw [hs]
                              unfold keysV
                              rw [← List.filterMap_append]
                              simp
                            rw [e3] at q
                            have q2 : adjK (keysV n (pre ++ [x])) = true := adj_pre q
                            rw [esn] at q2
                            exact absurd (by simpa [lastLt] using q2) hy
                        rw [this, Bool.and_false]
                  · have e1 : memV n x = none := by
                      unfold memV; rw [htx]
                      cases v <;> first | rfl | skip
                      rename_i k
                      have hk : k = 0 := by simpa [isInt, isBool, nzV] using hnum
                      simp [e0, hk]
                    have hnum : (isInt v && (!isBool v && nzV v)) = false := by simpa using hnum
                    have fin : q1.R (.fz (.bl false)) t := no e1
                    cases v with
                    | int k =>
                      have hk : k = 0 := by simpa [isInt, isBool, nzV] using hnum
                      subst hk
                      simp [isin_tup hvx, i1, i2, ix_tl xtl, isin_tup hvl, j1, h5, h5i, bind_tl xtl, key1, List.all_map, Function.comp_def, hb2, rg.1, rg2, key2, har, ha, isin_int hvv, isin_bool hvv, isInt, isBool]
                      exact fin
                    | bl b =>
                      simp [isin_tup hvx, i1, i2, ix_tl xtl, isin_tup hvl, j1, h5, h5i, bind_tl xtl, key1, List.all_map, Function.comp_def, hb2, rg.1, rg2, key2, har, ha, isin_int hvv, isin_bool hvv, isInt, isBool]
                      exact fin
                    | non =>
                      simp [isin_tup hvx, i1, i2, ix_tl xtl, isin_tup hvl, j1, h5, h5i, bind_tl xtl, key1, List.all_map, Function.comp_def, hb2, rg.1, rg2, key2, har, ha, isin_int hvv, isInt]
                      exact fin
                    | str _ =>
                      simp [isin_tup hvx, i1, i2, ix_tl xtl, isin_tup hvl, j1, h5, h5i, bind_tl xtl, key1, List.all_map, Function.comp_def, hb2, rg.1, rg2, key2, har, ha, isin_int hvv, isInt]
                      exact fin
                    | tup _ =>
                      simp [isin_tup hvx, i1, i2, ix_tl xtl, isin_tup hvl, j1, h5, h5i, bind_tl xtl, key1, List.all_map, Function.comp_def, hb2, rg.1, rg2, key2, har, ha, isin_int hvv, isInt]
                      exact fin
                    | lst _ =>
                      simp [isin_tup hvx, i1, i2, ix_tl xtl, isin_tup hvl, j1, h5, h5i, bind_tl xtl, key1, List.all_map, Function.comp_def, hb2, rg.1, rg2, key2, har, ha, isin_int hvv, isInt]
                      exact fin
                    | ptup _ => cases hvv
                    | dK _ => cases hvv
                    | dT _ => cases hvv
                    | ins _ _ => cases hvv
                    | hand => cases hvv
                    | scr _ => cases hvv
                    | ktup _ => cases hvv
            · have h3' : (3 : Int) < ls.length := by omega
              have h4 : 3 < ls.length := by omega
              have e1 : memV n x = none := by
                unfold memV; rw [htx]
                cases v <;> simp [htl2, intsV, h3]
              simp [isin_tup hvx, i1, i2, ix_tl xtl, isin_tup hvl, j1, j2, h3', h4]
              exact no e1
        · have hl' : ¬ (ys.length : Int) = 2 := by omega
          have e1 : memV n x = none := by
            unfold memV; rw [htx]
            match ys, hl2 with
            | [], _ => rfl
            | [_], _ => rfl
            | [_, _], h => exact absurd rfl h
            | _ :: y :: _ :: _, _ => cases y <;> rfl
          simp [isin_tup hvx, i1, i2, hl2, hl']
          exact no e1
    · rintro env t ⟨rfl, hall, hadj, g3, g4, g5, g6, g7, rfl⟩
      simp
      exact T.R _ _ ⟨by rw [e, hall, hadj]; rfl, rfl⟩⟩
end Vi
end
section
set_option Elab.async false
set_option linter.all false
set_option maxRecDepth 100000
set_option maxHeartbeats 4000000
namespace Vi
open PySem PySem.Spec PyProof.Rows L2
theorem pick_ok {xs : List D} {v : Int} (h0 : 0 ≤ v) (h1 : v < xs.length) : ∃ x ∈ xs, atI xs v = some x := by
  have h : v.toNat < xs.length := by omega
  exact ⟨xs[v.toNat], List.getElem_mem h, atI_int h0 (List.getElem?_eq_getElem h)⟩
@[simp] theorem bi_intb {b : Bool} : biop .int [.bl b] = some (.fz (.int (if b then 1 else 0))) := (rfl)
@[simp] theorem pow_20 : binop .pow (.int 10) (.int 20) = some (.fz (.int 100000000000000000000)) := by
  show (if (0 : Int) ≤ 20 ∧ (20 : Int) ≤ 1000000 ∧ (10 : Int).natAbs < 2 ^ 64 then some (RV.fz (.int ((10 : Int) ^ (20 : Int).toNat))) else none) = _
  rw [if_pos (by decide)]
  rfl
/-! odd values -/
def irOdd : Ss := (.cons (.ret (.ix (.lst (.cons .non (.cons (.bl true) (.cons (.neg (.int 1)) (.cons (.str "0") (.cons (.tup .nil) (.cons (.lst .nil) (.cons (.int 7) (.cons (.str "") (.cons (.tup (.cons (.int 0) .nil)) (.cons (.bl false) (.cons (.bin .pow (.int 10) (.int 20)) .nil)))))))))))) (.call "_law_take" (.cons (.var 0) (.cons (.int 11) .nil)))))
    .nil)
def oddL : List D := [.non, .bl true, .int (-1), .str "0", .tup [], .lst [], .int 7, .str "", .tup [.int 0], .bl false, .int 100000000000000000000]
/-- a value that is_sum is asked of -/
def Val (d : D) : Prop := vt d = true ∧ lens d
def OddS (o : Option Sem) : Prop := ∃ s, o = some s ∧ ∀ (ds : List Int) (k : Nat), ∃ v, vk v = true ∧ Val v ∧ s [.fz .hand] (handT ds k) = .ok (.fz v) [.un] (handT ds (k + 1))
theorem oddS (Φ : Phi) (hT : TakeS (Φ.fn "_law_take")) : OddS (some (semDef Φ 0 1 0 irOdd)) := ⟨_, rfl, fun ds k => by
  obtain ⟨sT, eT, hT⟩ := hT
  obtain ⟨v, hv, e⟩ := pick_ok (xs := oddL) (takeV_lo (ds := ds) (k := k) (m := 11) (by decide)) (takeV_hi (ds := ds) (k := k) (m := 11) (by decide))
  have hk : vk v = true ∧ lens v := by
    simp only [oddL, List.mem_cons, List.not_mem_nil, or_false] at hv
    rcases hv with rfl | rfl | rfl | rfl | rfl | rfl | rfl | rfl | rfl | rfl | rfl <;> refine ⟨by simp [vk, vks], fun xs h => ?_⟩ <;> first | (cases h; done) | (cases h; simp)
  refine ⟨v, hk.1, ⟨vt_of hk.1, hk.2⟩, ?_⟩
  unfold oddL at e
  simp [semDef, irOdd, eT, hT, e]⟩
/-! tuples of any sort -/
theorem sl_any {xs : List D} {lo hi : Option Int} : ∃ e, slop (.ptup xs) lo hi = some (.fz e) ∧ tl e (cut xs lo hi) := by
  have h : slop (.ptup xs) lo hi = some (.fz (if HT.sIx xs.length 0 lo = 0 ∧ HT.sIx xs.length xs.length hi = xs.length then .ptup xs else .tup (cut xs lo hi))) := rfl
  rw [h]
  split
  · rename_i c
    refine ⟨_, rfl, .inr ?_⟩
    unfold cut
    rw [c.1, c.2]
    simp
  · exact ⟨_, rfl, .inl rfl⟩
theorem cat_any {d e : D} {xs ys : List D} (h1 : tl d xs) (h2 : tl e ys) (hl : xs.length + ys.length ≤ LIM) : ∃ f, binop .add d e = some (.fz f) ∧ tl f (xs ++ ys) := by
  rcases h1 with rfl | rfl <;> rcases h2 with rfl | rfl
  · exact ⟨_, bop_tup hl, .inl rfl⟩
  · have h : binop .add (.tup xs) (.ptup ys) = if xs.length + ys.length ≤ LIM then some (.fz (if xs.isEmpty then .ptup ys else .tup (xs ++ ys))) else none := rfl
    rw [h, if_pos hl]
    cases xs with
    | nil => exact ⟨_, rfl, .inr rfl⟩
    | cons x r => exact ⟨_, rfl, .inl rfl⟩
  · have h : binop .add (.ptup xs) (.tup ys) = if xs.length + ys.length ≤ LIM then some (.fz (if xs.isEmpty then .tup ys else if ys.isEmpty then .ptup xs else .tup (xs ++ ys))) else none := rfl
    rw [h, if_pos hl]
    cases xs with
    | nil => exact ⟨_, rfl, .inl rfl⟩
    | cons x r =>
      cases ys with
      | nil => exact ⟨_, rfl, .inr (by simp)⟩
      | cons y s => exact ⟨_, rfl, .inl rfl⟩
  · have h : binop .add (.ptup xs) (.ptup ys) = if xs.length + ys.length ≤ LIM then some (.fz (if xs.isEmpty then .ptup ys else if ys.isEmpty then .ptup xs else .tup (xs ++ ys))) else none := rfl
    rw [h, if_pos hl]
    cases xs with
    | nil => exact ⟨_, rfl, .inr rfl⟩
    | cons x r =>
      cases ys with
      | nil => exact ⟨_, rfl, .inr (by simp)⟩
      | cons y s => exact ⟨_, rfl, .inl rfl⟩
theorem cut_mem {xs : List D} {lo hi : Option Int} : ∀ x ∈ cut xs lo hi, x ∈ xs := fun x hx => by
  unfold cut at hx
  exact List.mem_of_mem_drop (List.mem_of_mem_take hx)
theorem cut_len {xs : List D} {lo hi : Option Int} : (cut xs lo hi).length ≤ xs.length := by
  unfold cut
  rw [List.length_take, List.length_drop]
  omega
theorem val_tl {d : D} {xs : List D} (h : tl d xs) (hv : ∀ x ∈ xs, vk x = true) (hl : xs.length ≤ LIM) : Val d := by
  have := vks_all.mpr hv
  rcases h with rfl | rfl
  · refine ⟨by simpa [vt, vk] using this, fun ys e => ?_⟩
    cases e; exact hl
  · refine ⟨by simpa [vt] using this, fun ys e => ?_⟩
    cases e; exact hl
theorem val_vk {d : D} (h : vk d = true) (hl : ∀ xs, tlOf d = some xs → xs.length ≤ LIM) : Val d := ⟨vt_of h, hl⟩
theorem vk_encP {p : List Int × Int} : vk (encP p) = true := by
  have : ∀ l : List Int, vks (l.map .int) = true := fun l => vks_all.mpr fun x hx => by
    obtain ⟨a, _, rfl⟩ := List.mem_map.mp hx
    rfl
  simp [vk, vks, this]
theorem vks_encT {t : Told} : ∀ x ∈ encT t, vk x = true := fun x hx => by
  obtain ⟨p, _, rfl⟩ := List.mem_map.mp hx
  exact vk_encP
def irBentV : Ss := (.cons (.asg (.name 3) (.call "_law_take" (.cons (.var 0) (.cons (.bin .add (.bi .len (.cons (.var 1) .nil)) (.int 1)) .nil))))
    (.cons (.asg (.name 4) (.ix (.lst (.cons (.tup .nil) (.cons (.tup (.cons (.int 0) .nil)) (.cons (.tup (.cons (.var 2) .nil)) (.cons (.tup (.cons (.int 0) (.cons (.int 0) .nil))) (.cons (.tup (.cons (.int 1) (.cons (.int 0) .nil))) (.cons (.tup (.cons (.bl true) .nil)) (.cons (.tup (.cons (.int 0) (.cons (.int 1) (.cons (.int 2) (.cons (.int 3) .nil))))) (.cons (.lst (.cons (.int 0) .nil)) (.cons .non (.cons (.tup (.cons (.neg (.int 1)) .nil)) .nil))))))))))) (.call "_law_take" (.cons (.var 0) (.cons (.int 10) .nil)))))
    (.cons (.asg (.name 5) (.ix (.lst (.cons (.int 0) (.cons (.int 1) (.cons (.neg (.int 3)) (.cons (.bl true) (.cons .non (.cons (.str "1") (.cons (.tup (.cons (.int 1) .nil)) .nil)))))))) (.call "_law_take" (.cons (.var 0) (.cons (.int 7) .nil)))))
    (.cons (.asg (.name 6) (.call "_law_take" (.cons (.var 0) (.cons (.int 8) .nil))))
    (.cons (.iff (.cmp .lt (.var 6) (.int 4)) (.cons (.ret (.bin .add (.bin .add (.sl (.var 1) .no (.yes (.var 3))) (.tup (.cons (.tup (.cons (.var 4) (.cons (.var 5) .nil))) .nil))) (.sl (.var 1) (.yes (.bin .add (.var 3) (.bi .int (.cons (.cmp .gt (.var 6) (.int 1)) .nil)))) .no)))
    .nil) .nil)
    (.cons (.iff (.cmp .eq (.var 6) (.int 4)) (.cons (.ret (.ix (.lst (.cons (.bi .list (.cons (.var 1) .nil)) (.cons (.rev (.var 1)) (.cons (.bin .add (.var 1) (.sl (.var 1) .no (.yes (.int 1)))) (.cons (.bin .add (.var 1) (.tup (.cons .non .nil))) (.cons (.bin .add (.var 1) (.tup (.cons (.tup .nil) .nil))) .nil)))))) (.call "_law_take" (.cons (.var 0) (.cons (.int 5) .nil)))))
    .nil) .nil)
    (.cons (.iff (.and (.cmp .eq (.var 6) (.int 5)) (.cmp .gt (.bi .len (.cons (.var 1) .nil)) (.int 0))) (.cons (.asg (.name 7) (.ix (.var 1) (.bin .mod (.bi .int (.cons (.var 3) .nil)) (.bi .len (.cons (.var 1) .nil)))))
    (.cons (.asg (.name 8) (.ix (.lst (.cons (.bi .list (.cons (.var 7) .nil)) (.cons (.bin .add (.var 7) (.tup (.cons (.int 1) .nil))) (.cons (.sl (.var 7) .no (.yes (.int 1))) (.cons (.tup (.cons (.ix (.var 7) (.int 1)) (.cons (.ix (.var 7) (.int 0)) .nil))) (.cons (.tup (.cons (.ix (.var 7) (.int 0)) (.cons (.int 0) .nil))) .nil)))))) (.call "_law_take" (.cons (.var 0) (.cons (.int 5) .nil)))))
    (.cons (.ret (.bin .add (.bin .add (.sl (.var 1) .no (.yes (.bin .mod (.bi .int (.cons (.var 3) .nil)) (.bi .len (.cons (.var 1) .nil))))) (.tup (.cons (.var 8) .nil))) (.sl (.var 1) (.yes (.bin .add (.bin .mod (.bi .int (.cons (.var 3) .nil)) (.bi .len (.cons (.var 1) .nil))) (.int 1))) .no)))
    .nil))) .nil)
    (.cons (.ret (.call "_law_odd" (.cons (.var 0) .nil)))
    .nil))))))))
def letL (m : Int) : List D := [.tup [], .tup [.int 0], .tup [.int m], .tup [.int 0, .int 0], .tup [.int 1, .int 0], .tup [.bl true], .tup [.int 0, .int 1, .int 2, .int 3], .lst [.int 0], .non, .tup [.int (-1)]]
def numL : List D := [.int 0, .int 1, .int (-3), .bl true, .non, .str "1", .tup [.int 1]]
def BentVS (o : Option Sem) : Prop := ∃ s, o = some s ∧ ∀ (t : Told) (m : Int) (ds : List Int) (k : Nat), t.length ≤ 5000 → ∃ v k', Val v ∧ s [.fz .hand, .fz (.ptup (encT t)), .fz (.int m)] (handT ds k) = .ok (.fz v) [.un, .un, .un] (handT ds k')
theorem bentVS (Φ : Phi) (hT : TakeS (Φ.fn "_law_take")) (hO : OddS (Φ.fn "_law_odd")) : BentVS (some (semDef Φ 0 3 6 irBentV)) := ⟨_, rfl, fun t m ds k hl => by
  obtain ⟨sT, eT, hT⟩ := hT
  obtain ⟨sO, eO, hO⟩ := hO
  have tlen : (encT t).length = t.length := List.length_map ..
  obtain ⟨l, hl1, el⟩ := pick_ok (xs := letL m) (takeV_lo (ds := ds) (k := k + 1) (m := 10) (by decide)) (takeV_hi (ds := ds) (k := k + 1) (m := 10) (by decide))
  obtain ⟨n, hn1, en⟩ := pick_ok (xs := numL) (takeV_lo (ds := ds) (k := k + 2) (m := 7) (by decide)) (takeV_hi (ds := ds) (k := k + 2) (m := 7) (by decide))
  have vl : vk l = true := by
    simp only [letL, List.mem_cons, List.not_mem_nil, or_false] at hl1
    rcases hl1 with rfl | rfl | rfl | rfl | rfl | rfl | rfl | rfl | rfl | rfl <;> simp [vk, vks]
  have vn : vk n = true := by
    simp only [numL, List.mem_cons, List.not_mem_nil, or_false] at hn1
    rcases hn1 with rfl | rfl | rfl | rfl | rfl | rfl | rfl <;> simp [vk, vks]
  unfold letL at el
  unfold numL at en
  have hm0 : (t.length : Int) + 1 ≠ 0 := by omega
  have a0 := takeV_lo (ds := ds) (k := k) (m := (t.length : Int) + 1) (by omega)
  have a1 := takeV_hi (ds := ds) (k := k) (m := (t.length : Int) + 1) (by omega)
  generalize ha : takeV ds k ((t.length : Int) + 1) = a at *
  generalize hkd : takeV ds (k + 3) 8 = kd at *
  by_cases c1 : kd < 4
  · obtain ⟨e1, s1, t1⟩ := sl_any (xs := encT t) (lo := none) (hi := some a)
    obtain ⟨e2, s2, t2⟩ := sl_any (xs := encT t) (lo := some (a + if 1 < kd then 1 else 0)) (hi := none)
    have b1 := cut_len (xs := encT t) (lo := none) (hi := some a)
    have b2 := cut_len (xs := encT t) (lo := some (a + if 1 < kd then 1 else 0)) (hi := none)
    obtain ⟨f1, g1, u1⟩ := cat_any t1 (.inl rfl : tl (.tup [.tup [l, n]]) [.tup [l, n]]) (by simp; omega)
    obtain ⟨f2, g2, u2⟩ := cat_any u1 t2 (by simp; omega)
    refine ⟨f2, k + 4, val_tl u2 (fun x hx => ?_) (by simp; omega), ?_⟩
    · rcases List.mem_append.mp hx with h | h
      · rcases List.mem_append.mp h with h | h
        · exact vks_encT x (cut_mem x h)
        · rw [show x = _ by simpa using h]; simp [vk, vks, vl, vn]
      · exact vks_encT x (cut_mem x h)
    · simp [semDef, irBentV, eT, hT, hm0, ha, el, en, hkd, c1, s1, s2, g1, g2]
  · by_cases c2 : kd = 4
    · subst c2
      obtain ⟨e1, s1, t1⟩ := sl_any (xs := encT t) (lo := none) (hi := some 1)
      have b1 := cut_len (xs := encT t) (lo := none) (hi := some 1)
      obtain ⟨f1, g1, u1⟩ := cat_any (.inr rfl : tl (.ptup (encT t)) (encT t)) t1 (by simp; omega)
      obtain ⟨f2, g2, u2⟩ := cat_any (.inr rfl : tl (.ptup (encT t)) (encT t)) (.inl rfl : tl (.tup [.non]) [.non]) (by simp; omega)
      obtain ⟨f3, g3, u3⟩ := cat_any (.inr rfl : tl (.ptup (encT t)) (encT t)) (.inl rfl : tl (.tup [.tup []]) [.tup []]) (by simp; omega)
      obtain ⟨v, hv, ev⟩ := pick_ok (xs := [.lst (encT t), .tup (encT t).reverse, f1, f2, f3]) (takeV_lo (ds := ds) (k := k + 4) (m := 5) (by decide)) (takeV_hi (ds := ds) (k := k + 4) (m := 5) (by decide))
      have b2 : biop .list [.ptup (encT t)] = some (.own (.lst (encT t))) := rfl
      have b3 : revop (.ptup (encT t)) = some (.fz (.tup (encT t).reverse)) := rfl
      refine ⟨v, k + 5, ?_, ?_⟩
      · simp only [List.mem_cons, List.not_mem_nil, or_false] at hv
        rcases hv with rfl | rfl | rfl | rfl | rfl
        · exact val_vk (vks_all.mpr vks_encT) fun xs e => by cases e
        · exact val_tl (.inl rfl) (fun x hx => vks_encT x (List.mem_reverse.mp hx)) (by simp; omega)
        · exact val_tl u1 (fun x hx => (List.mem_append.mp hx).elim (vks_encT x) fun h => vks_encT x (cut_mem x h)) (by simp; omega)
        · exact val_tl u2 (fun x hx => (List.mem_append.mp hx).elim (vks_encT x) fun h => by rw [show x = _ by simpa using h]; rfl) (by simp; omega)
        · exact val_tl u3 (fun x hx => (List.mem_append.mp hx).elim (vks_encT x) fun h => by rw [show x = _ by simpa using h]; rfl) (by simp; omega)
      · simp [semDef, irBentV, eT, hT, hm0, ha, el, en, hkd, s1, b2, b3, g1, g2, g3, ev]
    · by_cases c3 : kd = 5
      · subst c3
        by_cases c4 : t.length = 0
        · obtain ⟨v, hv, hV, eo⟩ := hO ds (k + 4)
          have c5 : ¬ 0 < t.length := by omega
          have c6 : ¬ (0 : Int) < t.length := by omega
          exact ⟨v, k + 5, hV, by simp [semDef, irBentV, eT, hT, hm0, ha, el, en, hkd, c5, c6, eO, eo]⟩
        · have c5 : 0 < t.length := by omega
          have c6 : (0 : Int) < t.length := by omega
          have c7 : t ≠ [] := fun e => c4 (by rw [e]; rfl)
          obtain ⟨j, hj, ej⟩ : ∃ j : Nat, j < t.length ∧ a.fmod (t.length : Int) = (j : Int) := by
            have h1 := Int.fmod_nonneg_of_pos a c6
            have h2 := Int.fmod_lt_of_pos a c6
            exact ⟨(a.fmod (t.length : Int)).toNat, by omega, by omega⟩
          have ep : atI (encT t) (j : Int) = some (encP t[j]) := atI_nat (by rw [List.getElem?_map, List.getElem?_eq_getElem hj]; rfl)
          generalize hp : t[j] = p at *
          have b1 : biop .list [encP p] = some (.own (.lst [dI p.1, .int p.2])) := rfl
          have b2 : binop .add (encP p) (.tup [.int 1]) = some (.fz (.tup [dI p.1, .int p.2, .int 1])) := by
            rw [show encP p = .tup [dI p.1, .int p.2] from rfl, bop_tup (by simp)]; rfl
          have b3 : slop (encP p) none (some 1) = some (.fz (.tup [dI p.1])) := by
            show some (RV.fz (.tup (cut [dI p.1, .int p.2] none (some 1)))) = _
            rfl
          have b4 : ixop (encP p) (.int 1) = some (.int p.2) := rfl
          have b5 : ixop (encP p) (.int 0) = some (dI p.1) := rfl
          have b6 : ∀ i τ, ixK2 (.fz (encP p)) (.ok i τ) = R.of ((ixop (encP p) i).map RV.fz) τ := fun i τ => rfl
          obtain ⟨o, ho, eo⟩ := pick_ok (xs := [.lst [dI p.1, .int p.2], .tup [dI p.1, .int p.2, .int 1], .tup [dI p.1], .tup [.int p.2, dI p.1], .tup [dI p.1, .int 0]]) (takeV_lo (ds := ds) (k := k + 4) (m := 5) (by decide)) (takeV_hi (ds := ds) (k := k + 4) (m := 5) (by decide))
          have vd : vk (dI p.1) = true := vks_all.mpr fun x hx => by
            obtain ⟨y, _, rfl⟩ := List.mem_map.mp hx
            rfl
          have vo : vk o = true := by
            simp only [List.mem_cons, List.not_mem_nil, or_false] at ho
            have vd' : vks (p.1.map .int) = true := vd
            rcases ho with rfl | rfl | rfl | rfl | rfl <;> simp [vk, vks, vd']
          obtain ⟨e1, s1, t1⟩ := sl_any (xs := encT t) (lo := none) (hi := some (j : Int))
          obtain ⟨e2, s2, t2⟩ := sl_any (xs := encT t) (lo := some ((j : Int) + 1)) (hi := none)
          have d1 := cut_len (xs := encT t) (lo := none) (hi := some (j : Int))
          have d2 := cut_len (xs := encT t) (lo := some ((j : Int) + 1)) (hi := none)
          obtain ⟨f1, g1, u1⟩ := cat_any t1 (.inl rfl : tl (.tup [o]) [o]) (by simp; omega)
          obtain ⟨f2, g2, u2⟩ := cat_any u1 t2 (by simp; omega)
          refine ⟨f2, k + 5, val_tl u2 (fun x hx => ?_) (by simp; omega), ?_⟩
          · rcases List.mem_append.mp hx with h | h
            · rcases List.mem_append.mp h with h | h
              · exact vks_encT x (cut_mem x h)
              · rw [show x = _ by simpa using h]; exact vo
            · exact vks_encT x (cut_mem x h)
          · simp only [show encP p = .tup [dI p.1, .int p.2] from rfl] at ep b1 b2 b3 b4 b5 b6
            simp [semDef, irBentV, eT, hT, hm0, ha, el, en, hkd, c5, c6, c7, ej, ep, b1, b2, b3, b4, b5, b6, eo, s1, s2, g1, g2]
      · obtain ⟨v, hv, hV, eo⟩ := hO ds (k + 4)
        exact ⟨v, k + 5, hV, by simp [semDef, irBentV, eT, hT, hm0, ha, el, en, hkd, c1, c2, c3, eO, eo]⟩⟩
end Vi
end
section
set_option Elab.async false
set_option linter.all false
set_option maxRecDepth 100000
set_option maxHeartbeats 8000000
namespace Vi
open PySem PySem.Spec PyProof.Rows L2
def irTail20 : Ss := (.cons (.for_ (.name 10) (.over (.bin .add (.lst (.cons (.var 3) (.cons (.var 4) .nil))) (.comp (.call "_law_bent" (.cons (.var 1) (.cons (.var 3) (.cons (.var 2) .nil)))) (.name 8) (.rng1 (.int 5)) .no [8]))) (.cons (.for_ (.name 11) (.over (.lst (.cons (.var 2) (.cons (.bin .add (.var 2) (.int 1)) (.cons (.bi .max (.cons (.int 0) (.cons (.bin .sub (.var 2) (.int 1)) .nil))) .nil))))) (.cons (.asg (.name 12) (.callk "is_sum" 0 ["value", "letter_count"] (.cons (.var 10) (.cons (.var 11) .nil))))
    (.cons (.iff (.or (.not (.isin (.var 12) ["bool"])) (.cmp .ne (.var 12) (.call "_law_is_sum" (.cons (.var 10) (.cons (.var 11) .nil))))) (.cons (.ret (.bl false))
    .nil) .nil)
    .nil)))
    .nil))
    (.cons (.ret (.bl true))
    .nil))
def irLaw20 : Ss := (.cons (.mkhand 1 (.lst (.cons (.call "_law_draws" (.cons (.var 0) (.cons (.int 250) .nil))) (.cons (.int 0) .nil))))
    (.cons (.asg (.name 2) (.call "_law_take" (.cons (.var 1) (.cons (.int 6) .nil))))
    (.cons (.asg (.name 3) (.call "_law_drawn_sum" (.cons (.var 1) (.cons (.var 2) (.cons (.call "_law_take" (.cons (.var 1) (.cons (.int 2) .nil))) .nil)))))
    (.cons (.asg (.name 4) (.call "_law_drawn_sum" (.cons (.var 1) (.cons (.var 2) (.cons (.call "_law_take" (.cons (.var 1) (.cons (.int 2) .nil))) .nil)))))
    (.cons (.iff (.cmp .eq (.call "_law_take" (.cons (.var 1) (.cons (.int 4) .nil))) (.int 0)) (.cons (.asg (.name 4) (.bi .ptuple (.cons (.comp (.tup (.cons (.var 6) (.cons (.bin .sub (.int 0) (.var 7)) .nil))) (.tup (.cons (.name 6) (.cons (.name 7) .nil))) (.over (.var 3)) .no [6, 7]) .nil)))
    .nil) .nil)
    (.cons (.asg (.name 5) (.bi .dictT (.cons (.var 3) .nil)))
    (.cons (.for_ (.tup (.cons (.name 6) (.cons (.name 7) .nil))) (.over (.var 4)) (.cons (.put (.var 5) (.var 6) (.bin .add (.dget (.var 5) (.var 6) (.int 0)) (.var 7)))
    .nil))
    (.cons (.iff (.cmp .ne (.bi .repr (.cons (.callk "added" 0 ["one", "other"] (.cons (.var 3) (.cons (.var 4) .nil))) .nil)) (.bi .repr (.cons (.call "_law_tuple" (.cons (.var 5) .nil)) .nil))) (.cons (.ret (.bl false))
    .nil) .nil)
    (.cons (.iff (.or (.cmp .ne (.bi .repr (.cons (.call "added" (.cons (.var 4) (.cons (.var 3) .nil))) .nil)) (.bi .repr (.cons (.call "_law_tuple" (.cons (.var 5) .nil)) .nil))) (.cmp .ne (.bi .repr (.cons (.call "added" (.cons (.var 3) (.cons (.tup .nil) .nil))) .nil)) (.bi .repr (.cons (.var 3) .nil)))) (.cons (.ret (.bl false))
    .nil) .nil)
    (.cons (.for_ (.name 8) (.rng1 (.int 4)) (.cons (.asg (.name 9) (.bi .tuple (.cons (.comp (.call "_law_take" (.cons (.var 1) (.cons (.int 2) .nil))) (.name 13) (.rng1 (.bin .add (.var 2) (.bin .mod (.bi .int (.cons (.var 8) .nil)) (.int 2)))) .no [13]) .nil)))
    (.cons (.iff (.cmp .ne (.bi .repr (.cons (.callk "worth_at" 0 ["told", "row"] (.cons (.var 3) (.cons (.var 9) .nil))) .nil)) (.bi .repr (.cons (.call "_law_worth" (.cons (.var 3) (.cons (.var 9) .nil))) .nil))) (.cons (.ret (.bl false))
    .nil) .nil)
    .nil)))
    irTail20))))))))))

theorem worth_bound : ∀ {t : Told} {row : List Int}, (∀ p ∈ t, p.2.natAbs ≤ 1000000) → (worthV t row).natAbs ≤ 1000000 * t.length
  | [], row, _ => by simp [worth_nil]
  | p :: t, row, h => by
    have ih := worth_bound (t := t) (row := row) fun q hq => h q (List.mem_cons_of_mem _ hq)
    have hp := h p List.mem_cons_self
    rw [worth_cons, List.length_cons]
    split <;> omega
/-- comprehensions that draw -/
theorem comp_takes {Φ : Phi} {sT : Sem} {env : Env} {ds : List Int} {i j : Nat} (eT : Φ.fn "_law_take" = some sT) (hT : ∀ (ds : List Int) (k : Nat) (m : Int), m ≠ 0 → sT [.fz .hand, .fz (.int m)] (handT ds k) = .ok (.fz (.int (takeV ds k m))) [.un, .un] (handT ds (k + 1)))
    (h1 : env[1]? = some (.fz .hand)) (hj : j ≠ 1) (n k : Nat) (hn : n ≤ 1000) :
    ∃ row : List Int, row.length = n ∧ (∀ x ∈ row, x = 0 ∨ x = 1) ∧ compL (turnF Φ (.call "_law_take" (.cons (.var 1) (.cons (.int 2) .nil))) (.name j) .no env) ((List.range n).map fun (i : Nat) => .int (i : Int)) [] (handT ds k) = .ok (row.map .int) (handT ds (k + n)) := by
  obtain ⟨ys, τ', e, ⟨row, hy, hl, h01, ht⟩, _⟩ := compL_inv (f := turnF Φ (.call "_law_take" (.cons (.var 1) (.cons (.int 2) .nil))) (.name j) .no env) (xs := (List.range n).map fun (i : Nat) => .int (i : Int)) (acc := []) (τ := handT ds k) (fun i acc t => ∃ row : List Int, acc = row.map .int ∧ row.length = i ∧ (∀ x ∈ row, x = 0 ∨ x = 1) ∧ t = handT ds (k + i)) ⟨[], rfl, rfl, by simp, rfl⟩ (by simp; omega) (fun i x acc t hx ⟨row, h1', h2, h3, h4⟩ => by
    subst h1' h4
    have l0 := takeV_lo (ds := ds) (k := k + i) (m := 2) (by decide)
    have l1 := takeV_hi (ds := ds) (k := k + i) (m := 2) (by decide)
    refine ⟨some (.int (takeV ds (k + i) 2)), handT ds (k + i + 1), ?_, row ++ [takeV ds (k + i) 2], by simp, by simp [h2], fun y hy => ?_, by rw [Nat.add_assoc]⟩
    · have : (env.set j (.fz x))[1]? = some (.fz .hand) := by rw [List.getElem?_set]; simp [hj, h1]
      simp [kr_turnF', eT, hT, this]
    · rcases List.mem_append.mp hy with h | h
      · exact h3 y h
      · rw [show y = _ by simpa using h]; omega)
  refine ⟨row, by simpa using hl, h01, ?_⟩
  rw [e, hy, ht]
  simp
theorem comp_bents {Φ : Phi} {sB : Sem} {env : Env} {ds : List Int} {j : Nat} {t : Told} {m : Int} (eB : Φ.fn "_law_bent" = some sB) (hB : ∀ (t : Told) (m : Int) (ds : List Int) (k : Nat), t.length ≤ 5000 → ∃ v k', Val v ∧ sB [.fz .hand, .fz (.ptup (encT t)), .fz (.int m)] (handT ds k) = .ok (.fz v) [.un, .un, .un] (handT ds k'))
    (hl : t.length ≤ 5000) (h1 : env[1]? = some (.fz .hand)) (h2 : env[2]? = some (.fz (.int m))) (h3 : env[3]? = some (.fz (.ptup (encT t)))) (hj : 3 < j) (n k : Nat) (hn : n ≤ 1000) :
    ∃ (vs : List D) (k' : Nat), vs.length ≤ n ∧ (∀ v ∈ vs, Val v) ∧ compL (turnF Φ (.call "_law_bent" (.cons (.var 1) (.cons (.var 3) (.cons (.var 2) .nil)))) (.name j) .no env) ((List.range n).map fun (i : Nat) => .int (i : Int)) [] (handT ds k) = .ok vs (handT ds k') := by
  obtain ⟨ys, τ', e, ⟨k', hv, ht⟩, hy⟩ := compL_inv (f := turnF Φ (.call "_law_bent" (.cons (.var 1) (.cons (.var 3) (.cons (.var 2) .nil)))) (.name j) .no env) (xs := (List.range n).map fun (i : Nat) => .int (i : Int)) (acc := []) (τ := handT ds k) (fun i acc t => ∃ k', (∀ v ∈ acc, Val v) ∧ t = handT ds k') ⟨k, by simp, rfl⟩ (by simp; omega) (fun i x acc τ hx ⟨k1, hv, ht⟩ => by
    subst ht
    obtain ⟨v, k2, hV, eb⟩ := hB t m ds k1 hl
    have g1 : (env.set j (.fz x))[1]? = some (.fz .hand) := by rw [List.getElem?_set, if_neg (by omega)]; exact h1
    have g2 : (env.set j (.fz x))[2]? = some (.fz (.int m)) := by rw [List.getElem?_set, if_neg (by omega)]; exact h2
    have g3 : (env.set j (.fz x))[3]? = some (.fz (.ptup (encT t))) := by rw [List.getElem?_set, if_neg (by omega)]; exact h3
    refine ⟨some v, handT ds k2, ?_, k2, fun w hw => ?_, rfl⟩
    · simp [kr_turnF', eB, g1, g2, g3, eb]
    · rcases List.mem_append.mp hw with h | h
      · exact hv w h
      · rw [show w = _ by simpa using h]; exact hV)
  exact ⟨ys, k', by simpa using hy, hv, by rw [e, ht]⟩
theorem law20 (Φ : Phi) (hD : DrawsS (Φ.fn "_law_draws")) (hT : TakeS (Φ.fn "_law_take")) (hU : TupleS (Φ.fn "_law_tuple")) (h1 : DrawnS (Φ.fn "_law_drawn_sum")) (hA : AddedS (Φ.fn "added")) (hW : WorthS (Φ.fn "worth_at")) (hW2 : WorthS (Φ.fn "_law_worth")) (hI : IsSumS (Φ.fn "is_sum")) (hI2 : IsSumS (Φ.fn "_law_is_sum")) (hB : BentVS (Φ.fn "_law_bent"))
    (kA : Φ.kw "added" 0 ["one", "other"] = some []) (kW : Φ.kw "worth_at" 0 ["told", "row"] = some []) (kI : Φ.kw "is_sum" 0 ["value", "letter_count"] = some []) :
    ∀ ns : List Int, ns.length ≤ 63 → LawOk Φ 0 13 irLaw20 ns := fun ns hn => by
  obtain ⟨sD, eD, hD⟩ := hD
  obtain ⟨sT, eT, hT⟩ := hT
  obtain ⟨sU, eU, hU⟩ := hU
  obtain ⟨s1, e1, h1⟩ := h1
  obtain ⟨sA, eA, hA⟩ := hA
  obtain ⟨sW, eW, hW⟩ := hW
  obtain ⟨sX, eX, hX⟩ := hW2
  obtain ⟨sI, eI, hI⟩ := hI
  obtain ⟨sJ, eJ, hJ⟩ := hI2
  obtain ⟨sB, eB, hB⟩ := hB
  refine law_of fun q T => ?_
  obtain ⟨ds, hd⟩ := hD ns 250 [] (by omega) (by omega)
  obtain ⟨m, hm, em⟩ : ∃ m : Nat, m < 6 ∧ takeV ds 0 6 = m := ⟨(takeV ds 0 6).toNat, by have := takeV_hi (ds := ds) (k := 0) (m := 6) (by decide); omega, by have := takeV_lo (ds := ds) (k := 0) (m := 6) (by decide); omega⟩
  obtain ⟨t1, k1, g1, r1⟩ := h1 m (takeV ds 1 2) ds 2 (by omega)
  obtain ⟨t2, k2, g2, r2⟩ := h1 m (takeV ds k1 2) ds (k1 + 1) (by omega)
  have hd : sD [.fz (.scr ns), .fz (.int 250)] [] = .ok (.own (.lst (ds.map .int))) [.un, .un] [] := hd
  simp [irLaw20, eD, hd]
  rw [hand_0]
  simp [eT, hT, em, e1, r1, r2]
  refine wp_mid (fun env t => ∃ (b : Told) (k : Nat), TGood m b ∧ b.length ≤ 4096 ∧ (∀ p ∈ b, p.2.natAbs ≤ 1000000) ∧ t = handT ds k ∧ env = [.fz (.scr ns), .fz .hand, .fz (.int m), .fz (.ptup (encT t1)), .fz (.ptup (encT b)), .un, .un, .un, .un, .un, .un, .un, .un, .un]) ?_ ?_
  · intro q1 M
    by_cases c : takeV ds k2 4 = 0
    · have key : compL (turnF Φ (.tup (.cons (.var 6) (.cons (.bin .sub (.int 0) (.var 7)) .nil))) (.tup (.cons (.name 6) (.cons (.name 7) .nil))) .no [.fz (.scr ns), .fz .hand, .fz (.int m), .fz (.ptup (encT t1)), .fz (.ptup (encT t2)), .un, .un, .un, .un, .un, .un, .un, .un, .un]) (encT t1) [] (handT ds (k2 + 1)) = .ok (t1.map fun p => encP (p.1, 0 - p.2)) (handT ds (k2 + 1)) :=
        comp_map (enc := encP) _ (by have := g1.len; simp; omega) fun p _ => by simp [kr_turnF']
      have e3 : (t1.map fun p => encP (p.1, 0 - p.2)) = encT (t1.map fun p => (p.1, 0 - p.2)) := by rw [encT, List.map_map]; rfl
      rw [e3] at key
      simp [eT, hT, c, key]
      refine M.N _ _ ⟨t1.map fun p => (p.1, 0 - p.2), k2 + 1, ⟨fun p hp => ?_, fun p hp => ?_, fun p hp => ?_, ?_⟩, by simpa using g1.len, fun p hp => ?_, rfl, by simp [Function.comp_def]⟩
      · obtain ⟨r, hr, rfl⟩ := List.mem_map.mp hp; exact g1.g.up r hr
      · obtain ⟨r, hr, rfl⟩ := List.mem_map.mp hp; exact g1.g.bd r hr
      · obtain ⟨r, hr, rfl⟩ := List.mem_map.mp hp; exact g1.g.l3 r hr
      · have := g1.g.nd
        rw [List.map_map]
        exact this
      · obtain ⟨r, hr, rfl⟩ := List.mem_map.mp hp
        have := g1.nb r hr
        show (0 - r.2).natAbs ≤ _
        omega
    · simp [eT, hT, c]
      exact M.N _ _ ⟨t2, k2 + 1, g2.g, g2.len, g2.nb, rfl, rfl⟩
  · rintro env t ⟨b, k, gb, lb, nb, rfl, rfl⟩
    have l1 := g1.len
    simp [dictT_enc g1.g.nd]
    refine wp_list (enc := encP) (fun pre env t => t = handT ds k ∧ ∃ g6 g7, env = [.fz (.scr ns), .fz .hand, .fz (.int m), .fz (.ptup (encT t1)), .fz (.ptup (encT b)), .own (.dT (encN (addAll t1 pre))), g6, g7, .un, .un, .un, .un, .un, .un]) ⟨rfl, _, _, rfl⟩ ?_ ?_
    · rintro pre p post hs env t ⟨rfl, g6, g7, rfl⟩ q1 T1
      have hl := addAll_len (a := t1) (b := pre)
      have hpl : pre.length < 4097 := by
        have := congrArg List.length hs
        simp at this
        omega
      have p1 : ∀ x g, putOut [.fz (.scr ns), .fz .hand, .fz (.int m), .fz (.ptup (encT t1)), .fz (.ptup (encT b)), .own (.dT (encN (addAll t1 pre))), .fz (dI p.1), g, .un, .un, .un, .un, .un, .un] (.var 5) (.tup (p.1.map .int)) (.int x) (handT ds k) = .next [.fz (.scr ns), .fz .hand, .fz (.int m), .fz (.ptup (encT t1)), .fz (.ptup (encT b)), .own (.dT (encN (gput (addAll t1 pre) p.1 x))), .fz (dI p.1), g, .un, .un, .un, .un, .un, .un] (handT ds k) := fun x g => by
        rw [put_dT (kt := encN (addAll t1 pre)) rfl (by simp; omega), put_encN]; rfl
      simp [get_encN, p1]
      exact T1.N _ _ ⟨rfl, _, _, by rw [addAll_snoc]⟩
    · rintro env t ⟨rfl, g6, g7, rfl⟩
      have ln := addAll_len (a := t1) (b := b)
      have gn := addAll_good g1.g (b := b) fun p hp => ⟨gb.up p hp, gb.bd p hp, gb.l3 p hp⟩
      have bn := addAll_bound (n := 0) g1.nb (b := b) nb
      have small : ∀ {t : Told}, TGood m t → t.length ≤ 9001 → (∀ p ∈ t, p.2.natAbs < 10 ^ 12) → Small t := fun {t} g l h => ⟨fun p hp x hx => by have := g.bd p hp x hx; omega, g.l3, h, l⟩
      have sn : Small (tupleV (addAll t1 b)) := small gn.tuple (by have := tupleV_length (t := addAll t1 b); omega) fun p hp => by
        have := bn p (List.mem_filter.mp (tupleV_perm.mem_iff.mp hp)).1
        omega
      have s1' : Small t1 := small g1.g (by omega) fun p hp => by have := g1.nb p hp; omega
      have a1 := hA m t1 b (.ptup (encT b)) (handT ds k) g1.g gb (by omega) (by omega) rfl
      have a2 := hA m b t1 (.ptup (encT t1)) (handT ds k) gb g1.g (by omega) (by omega) rfl
      have a3 := hA m t1 [] (.tup []) (handT ds k) g1.g TGood.nil (by omega) (by simp) rfl
      have sw : tupleV (addAll b t1) = tupleV (addAll t1 b) := tupleV_congr (addAll_good gb fun p hp => ⟨g1.g.up p hp, g1.g.bd p hp, g1.g.l3 p hp⟩).nd gn.nd fun q => by
        rw [addAll_get g1.g.nd, addAll_get gb.nd]; omega
      have self : tupleV (addAll t1 []) = t1 := tupleV_self g1.up g1.nz
      rw [sw] at a2
      rw [self] at a3
      have u1 := hU (addAll t1 b) (handT ds k) gn.nd (by simp; omega)
      simp [eA, kA, a1, a2, a3, eU, u1, repr_tup sn, repr_ptup sn, repr_tup s1', cop_nes]
      simp [repr_ptup s1', cop_nes, show rngOk 4 = true by decide]
      rw [rangeD_0 4]
      refine wp_list (enc := fun (i : Nat) => D.int (i : Int)) (fun pre env t => ∃ k' g8 g9, t = handT ds k' ∧ env = [.fz (.scr ns), .fz .hand, .fz (.int m), .fz (.ptup (encT t1)), .fz (.ptup (encT b)), .own (.dT (encN (addAll t1 b))), g6, g7, g8, g9, .un, .un, .un, .un]) ⟨k, _, _, rfl, rfl⟩ ?_ ?_
      · rintro pre i post hs env t ⟨k3, g8, g9, rfl, rfl⟩ q1 T1
        have hi : i < 4 := by
          have : i ∈ List.range 4 := hs ▸ List.mem_append_right _ List.mem_cons_self
          simpa using this
        obtain ⟨w, hw, ew⟩ : ∃ w : Nat, w ≤ 10 ∧ (m : Int) + (i : Int).fmod 2 = (w : Int) := by
          have h1 := Int.fmod_nonneg_of_pos (i : Int) (show (0 : Int) < 2 by decide)
          have h2 := Int.fmod_lt_of_pos (i : Int) (show (0 : Int) < 2 by decide)
          exact ⟨((m : Int) + (i : Int).fmod 2).toNat, by omega, by omega⟩
        have wm : m ≤ w := by
          have h1 := Int.fmod_nonneg_of_pos (i : Int) (show (0 : Int) < 2 by decide)
          omega
        obtain ⟨row, hr1, hr2, hr3⟩ := comp_takes (env := [.fz (.scr ns), .fz .hand, .fz (.int m), .fz (.ptup (encT t1)), .fz (.ptup (encT b)), .own (.dT (encN (addAll t1 b))), g6, g7, .fz (.int i), g9, .un, .un, .un, .un]) (ds := ds) (i := 0) (j := 13) eT hT rfl (by decide) w k3 (by omega)
        have w1 := hW (.ptup (encT t1)) t1 row (handT ds (k3 + w)) rfl (by simp; omega) fun p hp => ⟨by have := g1.g.l3 p hp; simp; omega, fun l hl => by have := g1.g.bd p hp l hl; omega⟩
        have w2 := hX (.ptup (encT t1)) t1 row (handT ds (k3 + w)) rfl (by simp; omega) fun p hp => ⟨by have := g1.g.l3 p hp; simp; omega, fun l hl => by have := g1.g.bd p hp l hl; omega⟩
        have wb : (worthV t1 row).natAbs < 10 ^ 100 := by
          have h1 := worth_bound (t := t1) (row := row) g1.nb
          exact Nat.lt_of_lt_of_le (show (worthV t1 row).natAbs < 10 ^ 10 by omega) (by decide)
        have rw0 := rangeD_0 w
        simp [ew, rngOk_nat (show w ≤ 1000000 by omega), rw0, hr3, eW, kW, w1, eX, w2, repr_int wb, cop_nes]
        exact T1.N _ _ ⟨_, _, _, rfl, rfl⟩
      · rintro env t ⟨k3, g8, g9, rfl, rfl⟩
        unfold irTail20
        obtain ⟨vs, k4, lv, hv, ev⟩ := comp_bents (env := [.fz (.scr ns), .fz .hand, .fz (.int m), .fz (.ptup (encT t1)), .fz (.ptup (encT b)), .own (.dT (encN (addAll t1 b))), g6, g7, .un, g9, .un, .un, .un, .un]) (ds := ds) (j := 8) (t := t1) (m := m) eB hB (by omega) rfl rfl rfl (by decide) 5 k3 (by omega)
        have cat : binop .add (.lst [.ptup (encT t1), .ptup (encT b)]) (.lst vs) = some (.own (.lst (.ptup (encT t1) :: .ptup (encT b) :: vs))) := by
          rw [bop_lst (by simp; omega)]; rfl
        have v1 : Val (.ptup (encT t1)) := val_tl (.inr rfl) vks_encT (by simp; omega)
        have v2 : Val (.ptup (encT b)) := val_tl (.inr rfl) vks_encT (by simp; omega)
        have hall : ∀ v ∈ (D.ptup (encT t1) :: .ptup (encT b) :: vs), Val v := fun v h => by
          rcases List.mem_cons.mp h with rfl | h
          · exact v1
          · rcases List.mem_cons.mp h with rfl | h
            · exact v2
            · exact hv v h
        have r5 := rangeD_0 5
        simp [show rngOk 5 = true by decide, show rangeD 0 5 = (List.range 5).map fun (i : Nat) => .int (i : Int) from r5, ev, cat]
        refine wp_loop' (fun env t => t = handT ds k4 ∧ ∃ g10 g11 g12, env = [.fz (.scr ns), .fz .hand, .fz (.int m), .fz (.ptup (encT t1)), .fz (.ptup (encT b)), .own (.dT (encN (addAll t1 b))), g6, g7, g8, g9, g10, g11, g12, .un]) ⟨rfl, _, _, _, rfl⟩ ?_ ?_
        · rintro v hvm env t ⟨rfl, g10, g11, g12, rfl⟩ q1 T1
          have hV := hall v hvm
          simp
          have e3 : [D.int m, .int ((m : Int) + 1), .int (max 0 ((m : Int) - 1))] = [(m : Int), (m : Int) + 1, max 0 ((m : Int) - 1)].map D.int := rfl
          rw [e3]
          refine wp_list (enc := D.int) (fun pre env t => t = handT ds k4 ∧ ∃ g11 g12, env = [.fz (.scr ns), .fz .hand, .fz (.int m), .fz (.ptup (encT t1)), .fz (.ptup (encT b)), .own (.dT (encN (addAll t1 b))), g6, g7, g8, g9, .fz v, g11, g12, .un]) ⟨rfl, _, _, rfl⟩ ?_ ?_
          · rintro pre n post hs env t ⟨rfl, g11, g12, rfl⟩ q2 T2
            have i1 := hI v n (handT ds k4) hV.1 hV.2
            have i2 := hJ v n (handT ds k4) hV.1 hV.2
            simp [eI, kI, i1, eJ, i2, isTys_bool]
            exact T2.N _ _ ⟨rfl, _, _, rfl⟩
          · rintro env t ⟨rfl, g11, g12, rfl⟩
            simp
            exact T1.N _ _ ⟨rfl, _, _, _, rfl⟩
        · rintro env t ⟨rfl, g10, g11, g12, rfl⟩
          simp
          exact T _
end Vi
end
section
set_option Elab.async false
set_option linter.all false
set_option maxRecDepth 100000
set_option maxHeartbeats 4000000
namespace Vi
open PySem PySem.Spec PyProof.Rows L2
def top (i : Nat) : Stmt := PySem.Challenge.pw_cutorall_k20_sums_added.main.body.getD i (.Pass ⟨0, 0, 0, 0⟩)
def ir_is_below : Ss := (.cons (.ret (.and (.isin (.var 0) ["int"]) (.and (.not (.isin (.var 0) ["bool"])) (.chain .le .lt (.int 0) (.var 0) (.var 1)))))
    .nil)
def fn_is_below : Fn := ⟨"is_below", defArgs (top 1), defBody (top 1), defScope (top 1), ["value", "many"], ["value", "many"], 0, 0, ir_is_below, false⟩
theorem good_is_below : fn_is_below.Good := ⟨⟨rfl, rfl, rfl, by decide +kernel, rfl, by decide +kernel, by decide +kernel⟩, rfl, by decide +kernel, fun _ _ _ _ _ _ us hl => match us, hl with | [_, _], _ => rfl, fun hk _ _ _ _ _ _ us hl => (nomatch hk)⟩
def ir_is_rising : Ss := (.cons (.ret (.bi .all (.cons (.comp (.cmp .lt (.var 1) (.var 2)) (.tup (.cons (.name 1) (.cons (.name 2) .nil))) (.zip (.var 0) (.sl (.var 0) (.yes (.int 1)) .no)) .no [1, 2]) .nil)))
    .nil)
def fn_is_rising : Fn := ⟨"is_rising", defArgs (top 4), defBody (top 4), defScope (top 4), ["letters", "one", "other"], ["letters"], 2, 0, ir_is_rising, false⟩
theorem good_is_rising : fn_is_rising.Good := ⟨⟨rfl, rfl, rfl, by decide +kernel, rfl, by decide +kernel, by decide +kernel⟩, rfl, by decide +kernel, fun _ _ _ _ _ _ us hl => match us, hl with | [_], _ => rfl, fun hk _ _ _ _ _ _ us hl => (nomatch hk)⟩
def ir_is_member : Ss := (.cons (.iff (.or (.not (.isin (.var 0) ["tuple"])) (.or (.cmp .ne (.bi .len (.cons (.var 0) .nil)) (.int 2)) (.not (.isin (.ix (.var 0) (.int 0)) ["tuple"])))) (.cons (.ret (.bl false))
    .nil) .nil)
    (.cons (.frz 0)
    (.cons (.asg (.tup (.cons (.name 2) (.cons (.name 3) .nil))) (.var 0))
    (.cons (.iff (.or (.cmp .gt (.bi .len (.cons (.var 2) .nil)) (.glb "MOST_LETTERS")) (.not (.bi .all (.cons (.comp (.call "is_below" (.cons (.var 4) (.cons (.var 1) .nil))) (.name 4) (.over (.var 2)) .no [4]) .nil)))) (.cons (.ret (.bl false))
    .nil) .nil)
    (.cons (.ret (.and (.call "is_rising" (.cons (.var 2) .nil)) (.and (.isin (.var 3) ["int"]) (.and (.not (.isin (.var 3) ["bool"])) (.cmp .ne (.var 3) (.int 0))))))
    .nil)))))
def fn_is_member : Fn := ⟨"is_member", defArgs (top 5), defBody (top 5), defScope (top 5), ["value", "letter_count", "letters", "number", "letter"], ["value", "letter_count"], 3, 0, ir_is_member, false⟩
theorem good_is_member : fn_is_member.Good := ⟨⟨rfl, rfl, rfl, by decide +kernel, rfl, by decide +kernel, by decide +kernel⟩, rfl, by decide +kernel, fun _ _ _ _ _ _ us hl => match us, hl with | [_, _], _ => rfl, fun hk _ _ _ _ _ _ us hl => (nomatch hk)⟩
def ir_is_sum : Ss := (.cons (.iff (.or (.not (.isin (.var 0) ["tuple"])) (.not (.bi .all (.cons (.comp (.call "is_member" (.cons (.var 4) (.cons (.var 1) .nil))) (.name 4) (.over (.var 0)) .no [4]) .nil)))) (.cons (.ret (.bl false))
    .nil) .nil)
    (.cons (.ret (.call "is_rising" (.cons (.comp (.var 2) (.tup (.cons (.name 2) (.cons (.name 3) .nil))) (.over (.var 0)) .no [2, 3]) .nil)))
    .nil))
def fn_is_sum : Fn := ⟨"is_sum", defArgs (top 6), defBody (top 6), defScope (top 6), ["value", "letter_count", "letters", "_", "one"], ["value", "letter_count"], 3, 0, ir_is_sum, true⟩
theorem good_is_sum : fn_is_sum.Good := ⟨⟨rfl, rfl, rfl, by decide +kernel, rfl, by decide +kernel, by decide +kernel⟩, rfl, by decide +kernel, fun _ _ _ _ _ _ us hl => match us, hl with | [_, _], _ => rfl, fun hk _ _ _ _ _ _ us hl => match us, hl with | [_, _], _ => rfl⟩
def ir_worth_at : Ss := (.cons (.ret (.bi .sum (.cons (.comp (.var 3) (.tup (.cons (.name 2) (.cons (.name 3) .nil))) (.over (.var 0)) (.yes (.bi .all (.cons (.comp (.cmp .eq (.ix (.var 1) (.var 4)) (.int 1)) (.name 4) (.over (.var 2)) .no [4]) .nil))) [2, 3]) .nil)))
    .nil)
def fn_worth_at : Fn := ⟨"worth_at", defArgs (top 7), defBody (top 7), defScope (top 7), ["told", "row", "letters", "number", "letter"], ["told", "row"], 3, 0, ir_worth_at, true⟩
theorem good_worth_at : fn_worth_at.Good := ⟨⟨rfl, rfl, rfl, by decide +kernel, rfl, by decide +kernel, by decide +kernel⟩, rfl, by decide +kernel, fun _ _ _ _ _ _ us hl => match us, hl with | [_, _], _ => rfl, fun hk _ _ _ _ _ _ us hl => match us, hl with | [_, _], _ => rfl⟩
def ir_sum_told : Ss := (.cons (.ret (.bi .tuple (.cons (.comp (.tup (.cons (.var 1) (.cons (.ix (.var 0) (.var 1)) .nil))) (.name 1) (.over (.bi .sorted (.cons (.var 0) .nil))) (.yes (.cmp .ne (.ix (.var 0) (.var 1)) (.int 0))) [1]) .nil)))
    .nil)
def fn_sum_told : Fn := ⟨"sum_told", defArgs (top 8), defBody (top 8), defScope (top 8), ["numbers", "letters"], ["numbers"], 1, 0, ir_sum_told, false⟩
theorem good_sum_told : fn_sum_told.Good := ⟨⟨rfl, rfl, rfl, by decide +kernel, rfl, by decide +kernel, by decide +kernel⟩, rfl, by decide +kernel, fun _ _ _ _ _ _ us hl => match us, hl with | [_], _ => rfl, fun hk _ _ _ _ _ _ us hl => (nomatch hk)⟩
def ir_added : Ss := (.cons (.asg (.name 2) (.bi .dictT (.cons (.var 0) .nil)))
    (.cons (.for_ (.tup (.cons (.name 3) (.cons (.name 4) .nil))) (.over (.var 1)) (.cons (.put (.var 2) (.var 3) (.bin .add (.dget (.var 2) (.var 3) (.int 0)) (.var 4)))
    .nil))
    (.cons (.ret (.call "sum_told" (.cons (.var 2) .nil)))
    .nil)))
def fn_added : Fn := ⟨"added", defArgs (top 9), defBody (top 9), defScope (top 9), ["one", "other", "numbers", "letters", "number"], ["one", "other"], 3, 0, ir_added, true⟩
theorem good_added : fn_added.Good := ⟨⟨rfl, rfl, rfl, by decide +kernel, rfl, by decide +kernel, by decide +kernel⟩, rfl, by decide +kernel, fun _ _ _ _ _ _ us hl => match us, hl with | [_, _], _ => rfl, fun hk _ _ _ _ _ _ us hl => match us, hl with | [_, _], _ => rfl⟩
def ir_law_draws : Ss := (.cons (.asg (.name 2) (.comp (.bi .abs (.cons (.bi .int (.cons (.var 5) .nil)) .nil)) (.name 5) (.over (.var 0)) .no [5]))
    (.cons (.asg (.name 3) (.lst .nil))
    (.cons (.for_ (.name 4) (.rng1 (.var 1)) (.cons (.frz 4)
    (.cons (.asg (.name 5) (.var 4))
    (.cons (.iff (.cmp .gt (.bi .len (.cons (.var 0) .nil)) (.int 0)) (.cons (.asg (.name 6) (.bin .mod (.var 4) (.bi .len (.cons (.var 0) .nil))))
    (.cons (.asg (.name 5) (.bi .int (.cons (.ix (.var 0) (.var 6)) .nil)))
    (.cons (.iff (.and (.cmp .ge (.var 5) (.bin .pow (.int 10) (.int 18))) (.cmp .gt (.ix (.var 2) (.var 6)) (.int 0))) (.cons (.app (.var 3) (.bin .mod (.bi .int (.cons (.ix (.var 2) (.var 6)) .nil)) (.int 1000003)))
    (.cons (.put (.var 2) (.var 6) (.bin .fdiv (.bi .int (.cons (.ix (.var 2) (.var 6)) .nil)) (.int 1000003)))
    (.cons (.cnt)
    .nil))) .nil)
    .nil))) .nil)
    (.cons (.asg (.name 7) (.bin .mod (.bi .int (.cons (.bin .add (.bin .add (.bin .mul (.var 5) (.int 48271)) (.bin .mul (.var 4) (.int 69621))) (.int 11)) .nil)) (.int 2147483647)))
    (.cons (.asg (.name 7) (.bin .mod (.bi .int (.cons (.bin .add (.bin .fdiv (.bin .mul (.var 7) (.var 7)) (.int 4096)) (.var 7)) .nil)) (.int 2147483629)))
    (.cons (.app (.var 3) (.bin .mod (.bi .int (.cons (.bin .add (.bin .fdiv (.bin .mul (.var 7) (.var 7)) (.int 4096)) (.bin .mul (.var 4) (.int 7919))) .nil)) (.int 2147483629)))
    .nil)))))))
    (.cons (.ret (.var 3))
    .nil))))
def fn_law_draws : Fn := ⟨"_law_draws", defArgs (top 11), defBody (top 11), defScope (top 11), ["_law_script", "_law_many", "_law_rests", "_law_draws_here", "_law_k", "_law_cell", "_law_at", "_law_mixed"], ["_law_script", "_law_many"], 6, 0, ir_law_draws, false⟩
theorem good_law_draws : fn_law_draws.Good := ⟨⟨rfl, rfl, rfl, by decide +kernel, rfl, by decide +kernel, by decide +kernel⟩, rfl, by decide +kernel, fun _ _ _ _ _ _ us hl => match us, hl with | [_, _], _ => rfl, fun hk _ _ _ _ _ _ us hl => (nomatch hk)⟩
def ir_law_take : Ss := (.cons (.asg (.name 2) (.ix (.var 0) (.int 1)))
    (.cons (.put (.var 0) (.int 1) (.bin .add (.var 2) (.int 1)))
    (.cons (.asg (.name 3) (.ix (.var 0) (.int 0)))
    (.cons (.iff (.cmp .ge (.var 2) (.bi .len (.cons (.var 3) .nil))) (.cons (.ret (.int 0))
    .nil) .nil)
    (.cons (.ret (.bin .mod (.bin .fdiv (.bi .int (.cons (.ix (.var 3) (.var 2)) .nil)) (.int 7)) (.var 1)))
    .nil)))))
def fn_law_take : Fn := ⟨"_law_take", defArgs (top 12), defBody (top 12), defScope (top 12), ["_law_hand", "_law_many", "_law_at", "_law_draws_here"], ["_law_hand", "_law_many"], 2, 0, ir_law_take, false⟩
theorem good_law_take : fn_law_take.Good := ⟨⟨rfl, rfl, rfl, by decide +kernel, rfl, by decide +kernel, by decide +kernel⟩, rfl, by decide +kernel, fun _ _ _ _ _ _ us hl => match us, hl with | [_, _], _ => rfl, fun hk _ _ _ _ _ _ us hl => (nomatch hk)⟩
def ir_law_every : Ss := (.cons (.asg (.name 1) (.fzn (.lst (.cons (.tup .nil) .nil))))
    (.cons (.for_ (.name 2) (.rng1 (.var 0)) (.cons (.asg (.name 3) (.lst .nil))
    (.cons (.for_ (.name 4) (.over (.var 1)) (.cons (.asg (.name 3) (.bin .add (.var 3) (.lst (.cons (.bin .add (.var 4) (.tup (.cons (.int 0) .nil))) (.cons (.bin .add (.var 4) (.tup (.cons (.int 1) .nil))) .nil)))))
    .nil))
    (.cons (.frz 3)
    (.cons (.asg (.name 1) (.var 3))
    .nil)))))
    (.cons (.ret (.var 1))
    .nil)))
def fn_law_every : Fn := ⟨"_law_every", defArgs (top 13), defBody (top 13), defScope (top 13), ["_law_many", "_law_found", "_law_k", "_law_longer", "_law_row"], ["_law_many"], 4, 0, ir_law_every, false⟩
theorem good_law_every : fn_law_every.Good := ⟨⟨rfl, rfl, rfl, by decide +kernel, rfl, by decide +kernel, by decide +kernel⟩, rfl, by decide +kernel, fun _ _ _ _ _ _ us hl => match us, hl with | [_], _ => rfl, fun hk _ _ _ _ _ _ us hl => (nomatch hk)⟩
def ir_law_amount : Ss := (.cons (.iff (.cmp .eq (.var 1) (.int 0)) (.cons (.ret (.bin .sub (.call "_law_take" (.cons (.var 0) (.cons (.int 5) .nil))) (.int 2)))
    .nil) .nil)
    (.cons (.asg (.name 2) (.bin .add (.bin .mul (.int 1000) (.call "_law_take" (.cons (.var 0) (.cons (.int 1000) .nil)))) (.call "_law_take" (.cons (.var 0) (.cons (.int 1000) .nil)))))
    (.cons (.ret (.ix (.lst (.cons (.var 2) (.cons (.bin .sub (.int 0) (.var 2)) .nil))) (.call "_law_take" (.cons (.var 0) (.cons (.int 2) .nil)))))
    .nil)))
def fn_law_amount : Fn := ⟨"_law_amount", defArgs (top 14), defBody (top 14), defScope (top 14), ["_law_hand", "_law_wide", "_law_number"], ["_law_hand", "_law_wide"], 1, 0, ir_law_amount, false⟩
theorem good_law_amount : fn_law_amount.Good := ⟨⟨rfl, rfl, rfl, by decide +kernel, rfl, by decide +kernel, by decide +kernel⟩, rfl, by decide +kernel, fun _ _ _ _ _ _ us hl => match us, hl with | [_, _], _ => rfl, fun hk _ _ _ _ _ _ us hl => (nomatch hk)⟩
def ir_law_tuple : Ss := (.cons (.ret (.bi .ptuple (.cons (.bi .sorted (.cons (.comp (.tup (.cons (.var 1) (.cons (.ix (.var 0) (.var 1)) .nil))) (.name 1) (.over (.bi .list (.cons (.var 0) .nil))) (.yes (.cmp .ne (.ix (.var 0) (.var 1)) (.int 0))) [1]) .nil)) .nil)))
    .nil)
def fn_law_tuple : Fn := ⟨"_law_tuple", defArgs (top 15), defBody (top 15), defScope (top 15), ["_law_numbers", "_law_letters"], ["_law_numbers"], 1, 0, ir_law_tuple, false⟩
theorem good_law_tuple : fn_law_tuple.Good := ⟨⟨rfl, rfl, rfl, by decide +kernel, rfl, by decide +kernel, by decide +kernel⟩, rfl, by decide +kernel, fun _ _ _ _ _ _ us hl => match us, hl with | [_], _ => rfl, fun hk _ _ _ _ _ _ us hl => (nomatch hk)⟩
def ir_law_worth : Ss := (.cons (.ret (.bi .sum (.cons (.comp (.var 3) (.tup (.cons (.name 2) (.cons (.name 3) .nil))) (.over (.var 0)) (.yes (.bi .all (.cons (.comp (.cmp .eq (.ix (.var 1) (.var 4)) (.int 1)) (.name 4) (.over (.var 2)) .no [4]) .nil))) [2, 3]) .nil)))
    .nil)
def fn_law_worth : Fn := ⟨"_law_worth", defArgs (top 16), defBody (top 16), defScope (top 16), ["_law_total", "_law_row", "_law_letters", "_law_number", "_law_letter"], ["_law_total", "_law_row"], 3, 0, ir_law_worth, false⟩
theorem good_law_worth : fn_law_worth.Good := ⟨⟨rfl, rfl, rfl, by decide +kernel, rfl, by decide +kernel, by decide +kernel⟩, rfl, by decide +kernel, fun _ _ _ _ _ _ us hl => match us, hl with | [_, _], _ => rfl, fun hk _ _ _ _ _ _ us hl => (nomatch hk)⟩
def ir_law_subsets : Ss := (.cons (.asg (.name 2) (.lst .nil))
    (.cons (.for_ (.name 3) (.over (.call "_law_every" (.cons (.var 0) .nil))) (.cons (.iff (.cmp .le (.bi .sum (.cons (.var 3) .nil)) (.var 1)) (.cons (.app (.var 2) (.bi .tuple (.cons (.comp (.var 4) (.name 4) (.rng1 (.var 0)) (.yes (.cmp .eq (.ix (.var 3) (.var 4)) (.int 1))) [4]) .nil)))
    .nil) .nil)
    .nil))
    (.cons (.ret (.var 2))
    .nil)))
def fn_law_subsets : Fn := ⟨"_law_subsets", defArgs (top 17), defBody (top 17), defScope (top 17), ["_law_many", "_law_most", "_law_found", "_law_row", "_law_k"], ["_law_many", "_law_most"], 3, 0, ir_law_subsets, false⟩
theorem good_law_subsets : fn_law_subsets.Good := ⟨⟨rfl, rfl, rfl, by decide +kernel, rfl, by decide +kernel, by decide +kernel⟩, rfl, by decide +kernel, fun _ _ _ _ _ _ us hl => match us, hl with | [_, _], _ => rfl, fun hk _ _ _ _ _ _ us hl => (nomatch hk)⟩
def ir_law_drawn_sum : Ss := (.cons (.asg (.name 3) .dnewT)
    (.cons (.for_ (.name 4) (.over (.call "_law_subsets" (.cons (.var 1) (.cons (.int 3) .nil)))) (.cons (.iff (.cmp .gt (.call "_law_take" (.cons (.var 0) (.cons (.int 3) .nil))) (.int 0)) (.cons (.put (.var 3) (.var 4) (.call "_law_amount" (.cons (.var 0) (.cons (.var 2) .nil))))
    .nil) .nil)
    .nil))
    (.cons (.ret (.call "_law_tuple" (.cons (.var 3) .nil)))
    .nil)))
def fn_law_drawn_sum : Fn := ⟨"_law_drawn_sum", defArgs (top 18), defBody (top 18), defScope (top 18), ["_law_hand", "_law_many", "_law_wide", "_law_numbers", "_law_letters"], ["_law_hand", "_law_many", "_law_wide"], 2, 0, ir_law_drawn_sum, false⟩
theorem good_law_drawn_sum : fn_law_drawn_sum.Good := ⟨⟨rfl, rfl, rfl, by decide +kernel, rfl, by decide +kernel, by decide +kernel⟩, rfl, by decide +kernel, fun _ _ _ _ _ _ us hl => match us, hl with | [_, _, _], _ => rfl, fun hk _ _ _ _ _ _ us hl => (nomatch hk)⟩
def ir_law_odd : Ss := (.cons (.ret (.ix (.lst (.cons .non (.cons (.bl true) (.cons (.neg (.int 1)) (.cons (.str "0") (.cons (.tup .nil) (.cons (.lst .nil) (.cons (.int 7) (.cons (.str "") (.cons (.tup (.cons (.int 0) .nil)) (.cons (.bl false) (.cons (.bin .pow (.int 10) (.int 20)) .nil)))))))))))) (.call "_law_take" (.cons (.var 0) (.cons (.int 11) .nil)))))
    .nil)
def fn_law_odd : Fn := ⟨"_law_odd", defArgs (top 19), defBody (top 19), defScope (top 19), ["_law_hand"], ["_law_hand"], 0, 0, ir_law_odd, false⟩
theorem good_law_odd : fn_law_odd.Good := ⟨⟨rfl, rfl, rfl, by decide +kernel, rfl, by decide +kernel, by decide +kernel⟩, rfl, by decide +kernel, fun _ _ _ _ _ _ us hl => match us, hl with | [_], _ => rfl, fun hk _ _ _ _ _ _ us hl => (nomatch hk)⟩
def ir_law_is_letter : Ss := (.cons (.ret (.and (.isin (.var 0) ["int"]) (.and (.not (.isin (.var 0) ["bool"])) (.and (.cmp .ge (.var 0) (.int 0)) (.cmp .lt (.var 0) (.var 1))))))
    .nil)
def fn_law_is_letter : Fn := ⟨"_law_is_letter", defArgs (top 20), defBody (top 20), defScope (top 20), ["_law_value", "_law_many"], ["_law_value", "_law_many"], 0, 0, ir_law_is_letter, false⟩
theorem good_law_is_letter : fn_law_is_letter.Good := ⟨⟨rfl, rfl, rfl, by decide +kernel, rfl, by decide +kernel, by decide +kernel⟩, rfl, by decide +kernel, fun _ _ _ _ _ _ us hl => match us, hl with | [_, _], _ => rfl, fun hk _ _ _ _ _ _ us hl => (nomatch hk)⟩
def ir_law_is_sum : Ss := (.cons (.iff (.not (.isin (.var 0) ["tuple"])) (.cons (.ret (.bl false))
    .nil) .nil)
    (.cons (.asg (.name 2) .non)
    (.cons (.for_ (.name 3) (.over (.var 0)) (.cons (.iff (.or (.not (.isin (.var 3) ["tuple"])) (.or (.cmp .ne (.bi .len (.cons (.var 3) .nil)) (.int 2)) (.or (.not (.isin (.ix (.var 3) (.int 0)) ["tuple"])) (.cmp .gt (.bi .len (.cons (.ix (.var 3) (.int 0)) .nil)) (.int 3))))) (.cons (.ret (.bl false))
    .nil) .nil)
    (.cons (.frz 3)
    (.cons (.asg (.tup (.cons (.name 4) (.cons (.name 5) .nil))) (.var 3))
    (.cons (.iff (.not (.bi .all (.cons (.comp (.call "_law_is_letter" (.cons (.var 6) (.cons (.var 1) .nil))) (.name 6) (.over (.var 4)) .no [6]) .nil))) (.cons (.ret (.bl false))
    .nil) .nil)
    (.cons (.iff (.not (.bi .all (.cons (.comp (.cmp .lt (.ix (.var 4) (.var 7)) (.ix (.var 4) (.bin .add (.var 7) (.int 1)))) (.name 7) (.rng1 (.bin .sub (.bi .len (.cons (.var 4) .nil)) (.int 1))) .no [7]) .nil))) (.cons (.ret (.bl false))
    .nil) .nil)
    (.cons (.iff (.or (.not (.isin (.var 5) ["int"])) (.or (.isin (.var 5) ["bool"]) (.cmp .eq (.var 5) (.int 0)))) (.cons (.ret (.bl false))
    .nil) .nil)
    (.cons (.iff (.and (.cmp .isnot (.var 2) .non) (.cmp .le (.var 4) (.var 2))) (.cons (.ret (.bl false))
    .nil) .nil)
    (.cons (.frz 4)
    (.cons (.asg (.name 2) (.var 4))
    .nil))))))))))
    (.cons (.ret (.bl true))
    .nil))))
def fn_law_is_sum : Fn := ⟨"_law_is_sum", defArgs (top 21), defBody (top 21), defScope (top 21), ["_law_value", "_law_many", "_law_last", "_law_pair", "_law_letters", "_law_number", "_law_letter", "_law_k"], ["_law_value", "_law_many"], 6, 0, ir_law_is_sum, false⟩
theorem good_law_is_sum : fn_law_is_sum.Good := ⟨⟨rfl, rfl, rfl, by decide +kernel, rfl, by decide +kernel, by decide +kernel⟩, rfl, by decide +kernel, fun _ _ _ _ _ _ us hl => match us, hl with | [_, _], _ => rfl, fun hk _ _ _ _ _ _ us hl => (nomatch hk)⟩
def ir_law_bent : Ss := (.cons (.asg (.name 3) (.call "_law_take" (.cons (.var 0) (.cons (.bin .add (.bi .len (.cons (.var 1) .nil)) (.int 1)) .nil))))
    (.cons (.asg (.name 4) (.ix (.lst (.cons (.tup .nil) (.cons (.tup (.cons (.int 0) .nil)) (.cons (.tup (.cons (.var 2) .nil)) (.cons (.tup (.cons (.int 0) (.cons (.int 0) .nil))) (.cons (.tup (.cons (.int 1) (.cons (.int 0) .nil))) (.cons (.tup (.cons (.bl true) .nil)) (.cons (.tup (.cons (.int 0) (.cons (.int 1) (.cons (.int 2) (.cons (.int 3) .nil))))) (.cons (.lst (.cons (.int 0) .nil)) (.cons .non (.cons (.tup (.cons (.neg (.int 1)) .nil)) .nil))))))))))) (.call "_law_take" (.cons (.var 0) (.cons (.int 10) .nil)))))
    (.cons (.asg (.name 5) (.ix (.lst (.cons (.int 0) (.cons (.int 1) (.cons (.neg (.int 3)) (.cons (.bl true) (.cons .non (.cons (.str "1") (.cons (.tup (.cons (.int 1) .nil)) .nil)))))))) (.call "_law_take" (.cons (.var 0) (.cons (.int 7) .nil)))))
    (.cons (.asg (.name 6) (.call "_law_take" (.cons (.var 0) (.cons (.int 8) .nil))))
    (.cons (.iff (.cmp .lt (.var 6) (.int 4)) (.cons (.ret (.bin .add (.bin .add (.sl (.var 1) .no (.yes (.var 3))) (.tup (.cons (.tup (.cons (.var 4) (.cons (.var 5) .nil))) .nil))) (.sl (.var 1) (.yes (.bin .add (.var 3) (.bi .int (.cons (.cmp .gt (.var 6) (.int 1)) .nil)))) .no)))
    .nil) .nil)
    (.cons (.iff (.cmp .eq (.var 6) (.int 4)) (.cons (.ret (.ix (.lst (.cons (.bi .list (.cons (.var 1) .nil)) (.cons (.rev (.var 1)) (.cons (.bin .add (.var 1) (.sl (.var 1) .no (.yes (.int 1)))) (.cons (.bin .add (.var 1) (.tup (.cons .non .nil))) (.cons (.bin .add (.var 1) (.tup (.cons (.tup .nil) .nil))) .nil)))))) (.call "_law_take" (.cons (.var 0) (.cons (.int 5) .nil)))))
    .nil) .nil)
    (.cons (.iff (.and (.cmp .eq (.var 6) (.int 5)) (.cmp .gt (.bi .len (.cons (.var 1) .nil)) (.int 0))) (.cons (.asg (.name 7) (.ix (.var 1) (.bin .mod (.bi .int (.cons (.var 3) .nil)) (.bi .len (.cons (.var 1) .nil)))))
    (.cons (.asg (.name 8) (.ix (.lst (.cons (.bi .list (.cons (.var 7) .nil)) (.cons (.bin .add (.var 7) (.tup (.cons (.int 1) .nil))) (.cons (.sl (.var 7) .no (.yes (.int 1))) (.cons (.tup (.cons (.ix (.var 7) (.int 1)) (.cons (.ix (.var 7) (.int 0)) .nil))) (.cons (.tup (.cons (.ix (.var 7) (.int 0)) (.cons (.int 0) .nil))) .nil)))))) (.call "_law_take" (.cons (.var 0) (.cons (.int 5) .nil)))))
    (.cons (.ret (.bin .add (.bin .add (.sl (.var 1) .no (.yes (.bin .mod (.bi .int (.cons (.var 3) .nil)) (.bi .len (.cons (.var 1) .nil))))) (.tup (.cons (.var 8) .nil))) (.sl (.var 1) (.yes (.bin .add (.bin .mod (.bi .int (.cons (.var 3) .nil)) (.bi .len (.cons (.var 1) .nil))) (.int 1))) .no)))
    .nil))) .nil)
    (.cons (.ret (.call "_law_odd" (.cons (.var 0) .nil)))
    .nil))))))))
def fn_law_bent : Fn := ⟨"_law_bent", defArgs (top 22), defBody (top 22), defScope (top 22), ["_law_hand", "_law_total", "_law_many", "_law_at", "_law_letters", "_law_number", "_law_kind", "_law_pair", "_law_odd_here"], ["_law_hand", "_law_total", "_law_many"], 6, 0, ir_law_bent, false⟩
theorem good_law_bent : fn_law_bent.Good := ⟨⟨rfl, rfl, rfl, by decide +kernel, rfl, by decide +kernel, by decide +kernel⟩, rfl, by decide +kernel, fun _ _ _ _ _ _ us hl => match us, hl with | [_, _, _], _ => rfl, fun hk _ _ _ _ _ _ us hl => (nomatch hk)⟩
def ir_law : Ss := (.cons (.mkhand 1 (.lst (.cons (.call "_law_draws" (.cons (.var 0) (.cons (.int 250) .nil))) (.cons (.int 0) .nil))))
    (.cons (.asg (.name 2) (.call "_law_take" (.cons (.var 1) (.cons (.int 6) .nil))))
    (.cons (.asg (.name 3) (.call "_law_drawn_sum" (.cons (.var 1) (.cons (.var 2) (.cons (.call "_law_take" (.cons (.var 1) (.cons (.int 2) .nil))) .nil)))))
    (.cons (.asg (.name 4) (.call "_law_drawn_sum" (.cons (.var 1) (.cons (.var 2) (.cons (.call "_law_take" (.cons (.var 1) (.cons (.int 2) .nil))) .nil)))))
    (.cons (.iff (.cmp .eq (.call "_law_take" (.cons (.var 1) (.cons (.int 4) .nil))) (.int 0)) (.cons (.asg (.name 4) (.bi .ptuple (.cons (.comp (.tup (.cons (.var 6) (.cons (.bin .sub (.int 0) (.var 7)) .nil))) (.tup (.cons (.name 6) (.cons (.name 7) .nil))) (.over (.var 3)) .no [6, 7]) .nil)))
    .nil) .nil)
    (.cons (.asg (.name 5) (.bi .dictT (.cons (.var 3) .nil)))
    (.cons (.for_ (.tup (.cons (.name 6) (.cons (.name 7) .nil))) (.over (.var 4)) (.cons (.put (.var 5) (.var 6) (.bin .add (.dget (.var 5) (.var 6) (.int 0)) (.var 7)))
    .nil))
    (.cons (.iff (.cmp .ne (.bi .repr (.cons (.callk "added" 0 ["one", "other"] (.cons (.var 3) (.cons (.var 4) .nil))) .nil)) (.bi .repr (.cons (.call "_law_tuple" (.cons (.var 5) .nil)) .nil))) (.cons (.ret (.bl false))
    .nil) .nil)
    (.cons (.iff (.or (.cmp .ne (.bi .repr (.cons (.call "added" (.cons (.var 4) (.cons (.var 3) .nil))) .nil)) (.bi .repr (.cons (.call "_law_tuple" (.cons (.var 5) .nil)) .nil))) (.cmp .ne (.bi .repr (.cons (.call "added" (.cons (.var 3) (.cons (.tup .nil) .nil))) .nil)) (.bi .repr (.cons (.var 3) .nil)))) (.cons (.ret (.bl false))
    .nil) .nil)
    (.cons (.for_ (.name 8) (.rng1 (.int 4)) (.cons (.asg (.name 9) (.bi .tuple (.cons (.comp (.call "_law_take" (.cons (.var 1) (.cons (.int 2) .nil))) (.name 13) (.rng1 (.bin .add (.var 2) (.bin .mod (.bi .int (.cons (.var 8) .nil)) (.int 2)))) .no [13]) .nil)))
    (.cons (.iff (.cmp .ne (.bi .repr (.cons (.callk "worth_at" 0 ["told", "row"] (.cons (.var 3) (.cons (.var 9) .nil))) .nil)) (.bi .repr (.cons (.call "_law_worth" (.cons (.var 3) (.cons (.var 9) .nil))) .nil))) (.cons (.ret (.bl false))
    .nil) .nil)
    .nil)))
    (.cons (.for_ (.name 10) (.over (.bin .add (.lst (.cons (.var 3) (.cons (.var 4) .nil))) (.comp (.call "_law_bent" (.cons (.var 1) (.cons (.var 3) (.cons (.var 2) .nil)))) (.name 8) (.rng1 (.int 5)) .no [8]))) (.cons (.for_ (.name 11) (.over (.lst (.cons (.var 2) (.cons (.bin .add (.var 2) (.int 1)) (.cons (.bi .max (.cons (.int 0) (.cons (.bin .sub (.var 2) (.int 1)) .nil))) .nil))))) (.cons (.asg (.name 12) (.callk "is_sum" 0 ["value", "letter_count"] (.cons (.var 10) (.cons (.var 11) .nil))))
    (.cons (.iff (.or (.not (.isin (.var 12) ["bool"])) (.cmp .ne (.var 12) (.call "_law_is_sum" (.cons (.var 10) (.cons (.var 11) .nil))))) (.cons (.ret (.bl false))
    .nil) .nil)
    .nil)))
    .nil))
    (.cons (.ret (.bl true))
    .nil))))))))))))
def fn_law : Fn := ⟨"law", defArgs (top 23), defBody (top 23), defScope (top 23), ["_law_script", "_law_hand", "_law_many", "_law_one", "_law_other", "_law_numbers", "_law_letters", "_law_number", "_law_k", "_law_row", "_law_value", "_law_more", "_law_found", "_law_j"], ["_law_script"], 13, 0, ir_law, false⟩
theorem good_law : fn_law.Good := ⟨⟨rfl, rfl, rfl, by decide +kernel, rfl, by decide +kernel, by decide +kernel⟩, rfl, by decide +kernel, fun _ _ _ _ _ _ us hl => match us, hl with | [_], _ => rfl, fun hk _ _ _ _ _ _ us hl => (nomatch hk)⟩
def fns : List Fn := [fn_is_below, fn_is_rising, fn_is_member, fn_is_sum, fn_worth_at, fn_sum_told, fn_added, fn_law_draws, fn_law_take, fn_law_every, fn_law_amount, fn_law_tuple, fn_law_worth, fn_law_subsets, fn_law_drawn_sum, fn_law_odd, fn_law_is_letter, fn_law_is_sum, fn_law_bent]

def P0 : Phi := phi0 (glI [("MOST_LETTERS", 3)])
def P1 : Phi := phiAdd P0 fn_is_below
def P2 : Phi := phiAdd P1 fn_is_rising
def P3 : Phi := phiAdd P2 fn_is_member
def P4 : Phi := phiAdd P3 fn_is_sum
def P5 : Phi := phiAdd P4 fn_worth_at
def P6 : Phi := phiAdd P5 fn_sum_told
def P7 : Phi := phiAdd P6 fn_added
def P8 : Phi := phiAdd P7 fn_law_draws
def P9 : Phi := phiAdd P8 fn_law_take
def P10 : Phi := phiAdd P9 fn_law_every
def P11 : Phi := phiAdd P10 fn_law_amount
def P12 : Phi := phiAdd P11 fn_law_tuple
def P13 : Phi := phiAdd P12 fn_law_worth
def P14 : Phi := phiAdd P13 fn_law_subsets
def P15 : Phi := phiAdd P14 fn_law_drawn_sum
def P16 : Phi := phiAdd P15 fn_law_odd
def P17 : Phi := phiAdd P16 fn_law_is_letter
def P18 : Phi := phiAdd P17 fn_law_is_sum
def P19 : Phi := phiAdd P18 fn_law_bent
theorem f1_is_below : BelowS (P1.fn "is_below") := by
  rw [show P1.fn "is_below" = some (fn_is_below.mean P0) from phi_new rfl]
  exact belowS P0 
theorem f2_is_below : BelowS (P2.fn "is_below") := phi_old (f := fn_is_rising) (by decide) f1_is_below
theorem f2_is_rising : RisingS (P2.fn "is_rising") := by
  rw [show P2.fn "is_rising" = some (fn_is_rising.mean P1) from phi_new rfl]
  exact risingS P1 
theorem f3_is_rising : RisingS (P3.fn "is_rising") := phi_old (f := fn_is_member) (by decide) f2_is_rising
theorem f3_is_member : MemberS (P3.fn "is_member") := by
  rw [show P3.fn "is_member" = some (fn_is_member.mean P2) from phi_new rfl]
  exact memberS P2 f2_is_below f2_is_rising rfl
theorem f4_is_sum : IsSumS (P4.fn "is_sum") := by
  rw [show P4.fn "is_sum" = some (fn_is_sum.mean P3) from phi_new rfl]
  exact isSumS P3 f3_is_member f3_is_rising
theorem f5_is_sum : IsSumS (P5.fn "is_sum") := phi_old (f := fn_worth_at) (by decide) f4_is_sum
theorem f6_is_sum : IsSumS (P6.fn "is_sum") := phi_old (f := fn_sum_told) (by decide) f5_is_sum
theorem f7_is_sum : IsSumS (P7.fn "is_sum") := phi_old (f := fn_added) (by decide) f6_is_sum
theorem f8_is_sum : IsSumS (P8.fn "is_sum") := phi_old (f := fn_law_draws) (by decide) f7_is_sum
theorem f9_is_sum : IsSumS (P9.fn "is_sum") := phi_old (f := fn_law_take) (by decide) f8_is_sum
theorem f10_is_sum : IsSumS (P10.fn "is_sum") := phi_old (f := fn_law_every) (by decide) f9_is_sum
theorem f11_is_sum : IsSumS (P11.fn "is_sum") := phi_old (f := fn_law_amount) (by decide) f10_is_sum
theorem f12_is_sum : IsSumS (P12.fn "is_sum") := phi_old (f := fn_law_tuple) (by decide) f11_is_sum
theorem f13_is_sum : IsSumS (P13.fn "is_sum") := phi_old (f := fn_law_worth) (by decide) f12_is_sum
theorem f14_is_sum : IsSumS (P14.fn "is_sum") := phi_old (f := fn_law_subsets) (by decide) f13_is_sum
theorem f15_is_sum : IsSumS (P15.fn "is_sum") := phi_old (f := fn_law_drawn_sum) (by decide) f14_is_sum
theorem f16_is_sum : IsSumS (P16.fn "is_sum") := phi_old (f := fn_law_odd) (by decide) f15_is_sum
theorem f17_is_sum : IsSumS (P17.fn "is_sum") := phi_old (f := fn_law_is_letter) (by decide) f16_is_sum
theorem f18_is_sum : IsSumS (P18.fn "is_sum") := phi_old (f := fn_law_is_sum) (by decide) f17_is_sum
theorem f19_is_sum : IsSumS (P19.fn "is_sum") := phi_old (f := fn_law_bent) (by decide) f18_is_sum
theorem f5_worth_at : WorthS (P5.fn "worth_at") := by
  rw [show P5.fn "worth_at" = some (fn_worth_at.mean P4) from phi_new rfl]
  exact worthS P4 
theorem f6_worth_at : WorthS (P6.fn "worth_at") := phi_old (f := fn_sum_told) (by decide) f5_worth_at
theorem f7_worth_at : WorthS (P7.fn "worth_at") := phi_old (f := fn_added) (by decide) f6_worth_at
theorem f8_worth_at : WorthS (P8.fn "worth_at") := phi_old (f := fn_law_draws) (by decide) f7_worth_at
theorem f9_worth_at : WorthS (P9.fn "worth_at") := phi_old (f := fn_law_take) (by decide) f8_worth_at
theorem f10_worth_at : WorthS (P10.fn "worth_at") := phi_old (f := fn_law_every) (by decide) f9_worth_at
theorem f11_worth_at : WorthS (P11.fn "worth_at") := phi_old (f := fn_law_amount) (by decide) f10_worth_at
theorem f12_worth_at : WorthS (P12.fn "worth_at") := phi_old (f := fn_law_tuple) (by decide) f11_worth_at
theorem f13_worth_at : WorthS (P13.fn "worth_at") := phi_old (f := fn_law_worth) (by decide) f12_worth_at
theorem f14_worth_at : WorthS (P14.fn "worth_at") := phi_old (f := fn_law_subsets) (by decide) f13_worth_at
theorem f15_worth_at : WorthS (P15.fn "worth_at") := phi_old (f := fn_law_drawn_sum) (by decide) f14_worth_at
theorem f16_worth_at : WorthS (P16.fn "worth_at") := phi_old (f := fn_law_odd) (by decide) f15_worth_at
theorem f17_worth_at : WorthS (P17.fn "worth_at") := phi_old (f := fn_law_is_letter) (by decide) f16_worth_at
theorem f18_worth_at : WorthS (P18.fn "worth_at") := phi_old (f := fn_law_is_sum) (by decide) f17_worth_at
theorem f19_worth_at : WorthS (P19.fn "worth_at") := phi_old (f := fn_law_bent) (by decide) f18_worth_at
theorem f6_sum_told : SoldS (P6.fn "sum_told") := by
  rw [show P6.fn "sum_told" = some (fn_sum_told.mean P5) from phi_new rfl]
  exact soldS P5 
theorem f7_added : AddedS (P7.fn "added") := by
  rw [show P7.fn "added" = some (fn_added.mean P6) from phi_new rfl]
  exact addedS P6 f6_sum_told
theorem f8_added : AddedS (P8.fn "added") := phi_old (f := fn_law_draws) (by decide) f7_added
theorem f9_added : AddedS (P9.fn "added") := phi_old (f := fn_law_take) (by decide) f8_added
theorem f10_added : AddedS (P10.fn "added") := phi_old (f := fn_law_every) (by decide) f9_added
theorem f11_added : AddedS (P11.fn "added") := phi_old (f := fn_law_amount) (by decide) f10_added
theorem f12_added : AddedS (P12.fn "added") := phi_old (f := fn_law_tuple) (by decide) f11_added
theorem f13_added : AddedS (P13.fn "added") := phi_old (f := fn_law_worth) (by decide) f12_added
theorem f14_added : AddedS (P14.fn "added") := phi_old (f := fn_law_subsets) (by decide) f13_added
theorem f15_added : AddedS (P15.fn "added") := phi_old (f := fn_law_drawn_sum) (by decide) f14_added
theorem f16_added : AddedS (P16.fn "added") := phi_old (f := fn_law_odd) (by decide) f15_added
theorem f17_added : AddedS (P17.fn "added") := phi_old (f := fn_law_is_letter) (by decide) f16_added
theorem f18_added : AddedS (P18.fn "added") := phi_old (f := fn_law_is_sum) (by decide) f17_added
theorem f19_added : AddedS (P19.fn "added") := phi_old (f := fn_law_bent) (by decide) f18_added
theorem f8__law_draws : DrawsS (P8.fn "_law_draws") := by
  rw [show P8.fn "_law_draws" = some (fn_law_draws.mean P7) from phi_new rfl]
  exact drawsS P7 
theorem f9__law_draws : DrawsS (P9.fn "_law_draws") := phi_old (f := fn_law_take) (by decide) f8__law_draws
theorem f10__law_draws : DrawsS (P10.fn "_law_draws") := phi_old (f := fn_law_every) (by decide) f9__law_draws
theorem f11__law_draws : DrawsS (P11.fn "_law_draws") := phi_old (f := fn_law_amount) (by decide) f10__law_draws
theorem f12__law_draws : DrawsS (P12.fn "_law_draws") := phi_old (f := fn_law_tuple) (by decide) f11__law_draws
theorem f13__law_draws : DrawsS (P13.fn "_law_draws") := phi_old (f := fn_law_worth) (by decide) f12__law_draws
theorem f14__law_draws : DrawsS (P14.fn "_law_draws") := phi_old (f := fn_law_subsets) (by decide) f13__law_draws
theorem f15__law_draws : DrawsS (P15.fn "_law_draws") := phi_old (f := fn_law_drawn_sum) (by decide) f14__law_draws
theorem f16__law_draws : DrawsS (P16.fn "_law_draws") := phi_old (f := fn_law_odd) (by decide) f15__law_draws
theorem f17__law_draws : DrawsS (P17.fn "_law_draws") := phi_old (f := fn_law_is_letter) (by decide) f16__law_draws
theorem f18__law_draws : DrawsS (P18.fn "_law_draws") := phi_old (f := fn_law_is_sum) (by decide) f17__law_draws
theorem f19__law_draws : DrawsS (P19.fn "_law_draws") := phi_old (f := fn_law_bent) (by decide) f18__law_draws
theorem f9__law_take : TakeS (P9.fn "_law_take") := by
  rw [show P9.fn "_law_take" = some (fn_law_take.mean P8) from phi_new rfl]
  exact takeS P8 
theorem f10__law_take : TakeS (P10.fn "_law_take") := phi_old (f := fn_law_every) (by decide) f9__law_take
theorem f11__law_take : TakeS (P11.fn "_law_take") := phi_old (f := fn_law_amount) (by decide) f10__law_take
theorem f12__law_take : TakeS (P12.fn "_law_take") := phi_old (f := fn_law_tuple) (by decide) f11__law_take
theorem f13__law_take : TakeS (P13.fn "_law_take") := phi_old (f := fn_law_worth) (by decide) f12__law_take
theorem f14__law_take : TakeS (P14.fn "_law_take") := phi_old (f := fn_law_subsets) (by decide) f13__law_take
theorem f15__law_take : TakeS (P15.fn "_law_take") := phi_old (f := fn_law_drawn_sum) (by decide) f14__law_take
theorem f16__law_take : TakeS (P16.fn "_law_take") := phi_old (f := fn_law_odd) (by decide) f15__law_take
theorem f17__law_take : TakeS (P17.fn "_law_take") := phi_old (f := fn_law_is_letter) (by decide) f16__law_take
theorem f18__law_take : TakeS (P18.fn "_law_take") := phi_old (f := fn_law_is_sum) (by decide) f17__law_take
theorem f19__law_take : TakeS (P19.fn "_law_take") := phi_old (f := fn_law_bent) (by decide) f18__law_take
theorem f10__law_every : EveryS (P10.fn "_law_every") := by
  rw [show P10.fn "_law_every" = some (fn_law_every.mean P9) from phi_new rfl]
  exact everyS P9 
theorem f11__law_every : EveryS (P11.fn "_law_every") := phi_old (f := fn_law_amount) (by decide) f10__law_every
theorem f12__law_every : EveryS (P12.fn "_law_every") := phi_old (f := fn_law_tuple) (by decide) f11__law_every
theorem f13__law_every : EveryS (P13.fn "_law_every") := phi_old (f := fn_law_worth) (by decide) f12__law_every
theorem f11__law_amount : AmountS (P11.fn "_law_amount") := by
  rw [show P11.fn "_law_amount" = some (fn_law_amount.mean P10) from phi_new rfl]
  exact amountS P10 f10__law_take
theorem f12__law_amount : AmountS (P12.fn "_law_amount") := phi_old (f := fn_law_tuple) (by decide) f11__law_amount
theorem f13__law_amount : AmountS (P13.fn "_law_amount") := phi_old (f := fn_law_worth) (by decide) f12__law_amount
theorem f14__law_amount : AmountS (P14.fn "_law_amount") := phi_old (f := fn_law_subsets) (by decide) f13__law_amount
theorem f12__law_tuple : TupleS (P12.fn "_law_tuple") := by
  rw [show P12.fn "_law_tuple" = some (fn_law_tuple.mean P11) from phi_new rfl]
  exact tupleS P11 
theorem f13__law_tuple : TupleS (P13.fn "_law_tuple") := phi_old (f := fn_law_worth) (by decide) f12__law_tuple
theorem f14__law_tuple : TupleS (P14.fn "_law_tuple") := phi_old (f := fn_law_subsets) (by decide) f13__law_tuple
theorem f15__law_tuple : TupleS (P15.fn "_law_tuple") := phi_old (f := fn_law_drawn_sum) (by decide) f14__law_tuple
theorem f16__law_tuple : TupleS (P16.fn "_law_tuple") := phi_old (f := fn_law_odd) (by decide) f15__law_tuple
theorem f17__law_tuple : TupleS (P17.fn "_law_tuple") := phi_old (f := fn_law_is_letter) (by decide) f16__law_tuple
theorem f18__law_tuple : TupleS (P18.fn "_law_tuple") := phi_old (f := fn_law_is_sum) (by decide) f17__law_tuple
theorem f19__law_tuple : TupleS (P19.fn "_law_tuple") := phi_old (f := fn_law_bent) (by decide) f18__law_tuple
theorem f13__law_worth : WorthS (P13.fn "_law_worth") := by
  rw [show P13.fn "_law_worth" = some (fn_law_worth.mean P12) from phi_new rfl]
  exact worthS P12 
theorem f14__law_worth : WorthS (P14.fn "_law_worth") := phi_old (f := fn_law_subsets) (by decide) f13__law_worth
theorem f15__law_worth : WorthS (P15.fn "_law_worth") := phi_old (f := fn_law_drawn_sum) (by decide) f14__law_worth
theorem f16__law_worth : WorthS (P16.fn "_law_worth") := phi_old (f := fn_law_odd) (by decide) f15__law_worth
theorem f17__law_worth : WorthS (P17.fn "_law_worth") := phi_old (f := fn_law_is_letter) (by decide) f16__law_worth
theorem f18__law_worth : WorthS (P18.fn "_law_worth") := phi_old (f := fn_law_is_sum) (by decide) f17__law_worth
theorem f19__law_worth : WorthS (P19.fn "_law_worth") := phi_old (f := fn_law_bent) (by decide) f18__law_worth
theorem f14__law_subsets : SubsetsS (P14.fn "_law_subsets") := by
  rw [show P14.fn "_law_subsets" = some (fn_law_subsets.mean P13) from phi_new rfl]
  exact subsetsS P13 f13__law_every
theorem f15__law_drawn_sum : DrawnS (P15.fn "_law_drawn_sum") := by
  rw [show P15.fn "_law_drawn_sum" = some (fn_law_drawn_sum.mean P14) from phi_new rfl]
  exact drawnS P14 f14__law_subsets f14__law_take f14__law_amount f14__law_tuple
theorem f16__law_drawn_sum : DrawnS (P16.fn "_law_drawn_sum") := phi_old (f := fn_law_odd) (by decide) f15__law_drawn_sum
theorem f17__law_drawn_sum : DrawnS (P17.fn "_law_drawn_sum") := phi_old (f := fn_law_is_letter) (by decide) f16__law_drawn_sum
theorem f18__law_drawn_sum : DrawnS (P18.fn "_law_drawn_sum") := phi_old (f := fn_law_is_sum) (by decide) f17__law_drawn_sum
theorem f19__law_drawn_sum : DrawnS (P19.fn "_law_drawn_sum") := phi_old (f := fn_law_bent) (by decide) f18__law_drawn_sum
theorem f16__law_odd : OddS (P16.fn "_law_odd") := by
  rw [show P16.fn "_law_odd" = some (fn_law_odd.mean P15) from phi_new rfl]
  exact oddS P15 f15__law_take
theorem f17__law_odd : OddS (P17.fn "_law_odd") := phi_old (f := fn_law_is_letter) (by decide) f16__law_odd
theorem f18__law_odd : OddS (P18.fn "_law_odd") := phi_old (f := fn_law_is_sum) (by decide) f17__law_odd
theorem f17__law_is_letter : BelowS (P17.fn "_law_is_letter") := by
  rw [show P17.fn "_law_is_letter" = some (fn_law_is_letter.mean P16) from phi_new rfl]
  exact letterS P16 
theorem f18__law_is_sum : IsSumS (P18.fn "_law_is_sum") := by
  rw [show P18.fn "_law_is_sum" = some (fn_law_is_sum.mean P17) from phi_new rfl]
  exact lawSumS P17 f17__law_is_letter
theorem f19__law_is_sum : IsSumS (P19.fn "_law_is_sum") := phi_old (f := fn_law_bent) (by decide) f18__law_is_sum
theorem f19__law_bent : BentVS (P19.fn "_law_bent") := by
  rw [show P19.fn "_law_bent" = some (fn_law_bent.mean P18) from phi_new rfl]
  exact bentVS P18 f18__law_take f18__law_odd
theorem k7_added : P7.kw "added" 0 ["one", "other"] = some [] := phi_kwn rfl (by decide) rfl
theorem k8_added : P8.kw "added" 0 ["one", "other"] = some [] := phi_kwo (f := fn_law_draws) (by decide) k7_added
theorem k9_added : P9.kw "added" 0 ["one", "other"] = some [] := phi_kwo (f := fn_law_take) (by decide) k8_added
theorem k10_added : P10.kw "added" 0 ["one", "other"] = some [] := phi_kwo (f := fn_law_every) (by decide) k9_added
theorem k11_added : P11.kw "added" 0 ["one", "other"] = some [] := phi_kwo (f := fn_law_amount) (by decide) k10_added
theorem k12_added : P12.kw "added" 0 ["one", "other"] = some [] := phi_kwo (f := fn_law_tuple) (by decide) k11_added
theorem k13_added : P13.kw "added" 0 ["one", "other"] = some [] := phi_kwo (f := fn_law_worth) (by decide) k12_added
theorem k14_added : P14.kw "added" 0 ["one", "other"] = some [] := phi_kwo (f := fn_law_subsets) (by decide) k13_added
theorem k15_added : P15.kw "added" 0 ["one", "other"] = some [] := phi_kwo (f := fn_law_drawn_sum) (by decide) k14_added
theorem k16_added : P16.kw "added" 0 ["one", "other"] = some [] := phi_kwo (f := fn_law_odd) (by decide) k15_added
theorem k17_added : P17.kw "added" 0 ["one", "other"] = some [] := phi_kwo (f := fn_law_is_letter) (by decide) k16_added
theorem k18_added : P18.kw "added" 0 ["one", "other"] = some [] := phi_kwo (f := fn_law_is_sum) (by decide) k17_added
theorem k19_added : P19.kw "added" 0 ["one", "other"] = some [] := phi_kwo (f := fn_law_bent) (by decide) k18_added
theorem k5_worth_at : P5.kw "worth_at" 0 ["told", "row"] = some [] := phi_kwn rfl (by decide) rfl
theorem k6_worth_at : P6.kw "worth_at" 0 ["told", "row"] = some [] := phi_kwo (f := fn_sum_told) (by decide) k5_worth_at
theorem k7_worth_at : P7.kw "worth_at" 0 ["told", "row"] = some [] := phi_kwo (f := fn_added) (by decide) k6_worth_at
theorem k8_worth_at : P8.kw "worth_at" 0 ["told", "row"] = some [] := phi_kwo (f := fn_law_draws) (by decide) k7_worth_at
theorem k9_worth_at : P9.kw "worth_at" 0 ["told", "row"] = some [] := phi_kwo (f := fn_law_take) (by decide) k8_worth_at
theorem k10_worth_at : P10.kw "worth_at" 0 ["told", "row"] = some [] := phi_kwo (f := fn_law_every) (by decide) k9_worth_at
theorem k11_worth_at : P11.kw "worth_at" 0 ["told", "row"] = some [] := phi_kwo (f := fn_law_amount) (by decide) k10_worth_at
theorem k12_worth_at : P12.kw "worth_at" 0 ["told", "row"] = some [] := phi_kwo (f := fn_law_tuple) (by decide) k11_worth_at
theorem k13_worth_at : P13.kw "worth_at" 0 ["told", "row"] = some [] := phi_kwo (f := fn_law_worth) (by decide) k12_worth_at
theorem k14_worth_at : P14.kw "worth_at" 0 ["told", "row"] = some [] := phi_kwo (f := fn_law_subsets) (by decide) k13_worth_at
theorem k15_worth_at : P15.kw "worth_at" 0 ["told", "row"] = some [] := phi_kwo (f := fn_law_drawn_sum) (by decide) k14_worth_at
theorem k16_worth_at : P16.kw "worth_at" 0 ["told", "row"] = some [] := phi_kwo (f := fn_law_odd) (by decide) k15_worth_at
theorem k17_worth_at : P17.kw "worth_at" 0 ["told", "row"] = some [] := phi_kwo (f := fn_law_is_letter) (by decide) k16_worth_at
theorem k18_worth_at : P18.kw "worth_at" 0 ["told", "row"] = some [] := phi_kwo (f := fn_law_is_sum) (by decide) k17_worth_at
theorem k19_worth_at : P19.kw "worth_at" 0 ["told", "row"] = some [] := phi_kwo (f := fn_law_bent) (by decide) k18_worth_at
theorem k4_is_sum : P4.kw "is_sum" 0 ["value", "letter_count"] = some [] := phi_kwn rfl (by decide) rfl
theorem k5_is_sum : P5.kw "is_sum" 0 ["value", "letter_count"] = some [] := phi_kwo (f := fn_worth_at) (by decide) k4_is_sum
theorem k6_is_sum : P6.kw "is_sum" 0 ["value", "letter_count"] = some [] := phi_kwo (f := fn_sum_told) (by decide) k5_is_sum
theorem k7_is_sum : P7.kw "is_sum" 0 ["value", "letter_count"] = some [] := phi_kwo (f := fn_added) (by decide) k6_is_sum
theorem k8_is_sum : P8.kw "is_sum" 0 ["value", "letter_count"] = some [] := phi_kwo (f := fn_law_draws) (by decide) k7_is_sum
theorem k9_is_sum : P9.kw "is_sum" 0 ["value", "letter_count"] = some [] := phi_kwo (f := fn_law_take) (by decide) k8_is_sum
theorem k10_is_sum : P10.kw "is_sum" 0 ["value", "letter_count"] = some [] := phi_kwo (f := fn_law_every) (by decide) k9_is_sum
theorem k11_is_sum : P11.kw "is_sum" 0 ["value", "letter_count"] = some [] := phi_kwo (f := fn_law_amount) (by decide) k10_is_sum
theorem k12_is_sum : P12.kw "is_sum" 0 ["value", "letter_count"] = some [] := phi_kwo (f := fn_law_tuple) (by decide) k11_is_sum
theorem k13_is_sum : P13.kw "is_sum" 0 ["value", "letter_count"] = some [] := phi_kwo (f := fn_law_worth) (by decide) k12_is_sum
theorem k14_is_sum : P14.kw "is_sum" 0 ["value", "letter_count"] = some [] := phi_kwo (f := fn_law_subsets) (by decide) k13_is_sum
theorem k15_is_sum : P15.kw "is_sum" 0 ["value", "letter_count"] = some [] := phi_kwo (f := fn_law_drawn_sum) (by decide) k14_is_sum
theorem k16_is_sum : P16.kw "is_sum" 0 ["value", "letter_count"] = some [] := phi_kwo (f := fn_law_odd) (by decide) k15_is_sum
theorem k17_is_sum : P17.kw "is_sum" 0 ["value", "letter_count"] = some [] := phi_kwo (f := fn_law_is_letter) (by decide) k16_is_sum
theorem k18_is_sum : P18.kw "is_sum" 0 ["value", "letter_count"] = some [] := phi_kwo (f := fn_law_is_sum) (by decide) k17_is_sum
theorem k19_is_sum : P19.kw "is_sum" 0 ["value", "letter_count"] = some [] := phi_kwo (f := fn_law_bent) (by decide) k18_is_sum
theorem law_run : ∀ ns : List Int, ns.length ≤ 63 → LawOk (phiAll (phi0 (glI [("MOST_LETTERS", 3)])) fns) fn_law.n fn_law.m fn_law.sem ns :=
  law20 P19 f19__law_draws f19__law_take f19__law_tuple f19__law_drawn_sum f19_added f19_worth_at f19__law_worth f19_is_sum f19__law_is_sum f19__law_bent k19_added k19_worth_at k19_is_sum



abbrev faL : List He.Fa := faOf (fns ++ [fn_law]) ++ faI [("MOST_LETTERS", 3)]
abbrev fnL : List He.DefD := (fns ++ [fn_law]).map Fn.dd
abbrev RL : PySem.W.OpenRow := PySem.W.OpenLaw.row PySem.Challenge.rw_cutorall_k20_sums_added
abbrev hkL : PySem.W.Hook := He.hookD 4 faL fnL
def obL (s : PySem.W.SharedT) : He.AlD := He.obsDG 4 faL fnL (HandSHeadRun.getT s)
theorem obL_eq (s : PySem.W.SharedT) : obL s = hkL.obs s.abs := He.obsDG_eq (HandSHeadRun.getT_eq s)
theorem runL (w : World) : HandSHeadRun.RunEq RL (PySem.W.view RL.prog [23]) hkL obL 4000 ["is_below", "is_rising", "is_member", "is_sum", "worth_at", "sum_told", "added", "_law_draws", "_law_take", "_law_every", "_law_amount", "_law_tuple", "_law_worth", "_law_subsets", "_law_drawn_sum", "_law_odd", "_law_is_letter", "_law_is_sum", "_law_bent", "MOST_LETTERS"] w := by
  intro os
  kernel_rfl
theorem goodL : ∀ f ∈ fns ++ [fn_law], f.Good := fun f hf => by
  simp only [fns, List.cons_append, List.nil_append, List.mem_cons, List.not_mem_nil, or_false] at hf
  rcases hf with rfl | rfl | rfl | rfl | rfl | rfl | rfl | rfl | rfl | rfl | rfl | rfl | rfl | rfl | rfl | rfl | rfl | rfl | rfl | rfl
  · exact good_is_below
  · exact good_is_rising
  · exact good_is_member
  · exact good_is_sum
  · exact good_worth_at
  · exact good_sum_told
  · exact good_added
  · exact good_law_draws
  · exact good_law_take
  · exact good_law_every
  · exact good_law_amount
  · exact good_law_tuple
  · exact good_law_worth
  · exact good_law_subsets
  · exact good_law_drawn_sum
  · exact good_law_odd
  · exact good_law_is_letter
  · exact good_law_is_sum
  · exact good_law_bent
  · exact good_law
end Vi
open PySem PySem.W PySem.Calls PyProof.Rows
theorem PySem.Challenge.cw_cutorall_k20_sums_added_holds : PySem.Challenge.rw_cutorall_k20_sums_added.Holds := by
  w_on; o_law
  refine HandSHeadRun.head_any (r := OpenLaw.row PySem.Challenge.rw_cutorall_k20_sums_added) (q := view (OpenLaw.row PySem.Challenge.rw_cutorall_k20_sums_added).prog [23]) (H := Vi.hkL) (ob := Vi.obL) (M := 4000) (loose := ["is_below", "is_rising", "is_member", "is_sum", "worth_at", "sum_told", "added", "_law_draws", "_law_take", "_law_every", "_law_amount", "_law_tuple", "_law_worth", "_law_subsets", "_law_drawn_sum", "_law_odd", "_law_is_letter", "_law_is_sum", "_law_bent", "MOST_LETTERS"]) (d := HandSHeadRun.topDef (OpenLaw.row PySem.Challenge.rw_cutorall_k20_sums_added).prog 23) (kwd := []) Vi.obL_eq
    (by kernel_rfl) (fun s => by kernel_rfl) Vi.runL (by kernel_rfl) (by kernel_rfl) (by kernel_rfl) (by rfl) (by first | assumption | decide +kernel) (by decide +kernel) ⟨rfl, rfl, rfl, rfl, rfl, by decide +kernel⟩ ?hw ?hc
  case hw => w_witness2
  case hc =>
    refine Vi.walk_ofG (l := PySem.Challenge.rw_cutorall_k20_sums_added) (n := 63) (k := Vi.fns.length + 1) (x := "_law_script") rfl (by decide) (by kernel_rfl) ⟨rfl, by decide, by decide⟩ ?F
    intro w mg fa h Y G hmg0
    obtain ⟨K, KX, c⟩ := Y
    have hmg : mg ("law" : PySem.Str) = some (.ref fa) := by
      have e : (HandSHeadRun.topDef (OpenLaw.row PySem.Challenge.rw_cutorall_k20_sums_added).prog 23).name = ("law" : PySem.Str) := by kernel_rfl
      rw [← e]
      exact hmg0
    have c' : He.SaysD (Vi.faOf (Vi.fns ++ [Vi.fn_law]) ++ Vi.faI [("MOST_LETTERS", 3)]) ((Vi.fns ++ [Vi.fn_law]).map Vi.Fn.dd) K := c
    obtain ⟨fd, hb, hF⟩ := Vi.law_facts (P := (PySem.Challenge.rw_cutorall_k20_sums_added).prog) (w := w) (mx := 63) (gl := Vi.glI [("MOST_LETTERS", 3)]) KX G c' hmg rfl Vi.goodL (Vi.gl_ints KX G) Vi.law_run
    exact ⟨K, fd, KX, hb, hF⟩
end
