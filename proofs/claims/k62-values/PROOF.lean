import PyProof.Rows.All
import Wide.All
import OpenK.AllK
import Wide.FinOn
import HandS.ForMost
import HandS.Wide
import HandS.WideBits
import HandS.IsInst
import HandS.SetKeys
import HandS.Zip
import HandS.EndBits
import KE.KUnpackStar
import HandS.TupAny
import HandS.Deep
import HandS.TupLe
import HandS.ForExc
import KE.KItemsList
import KE.KDictZip
import HandS.ListItems
import HandS.FStr
import HandS.RaiseMore
import KE.IntTextLaws
import PyProof.Draws
import PyProof.EnumMake
import PyProof.StrLoop
import HandS.RevRange
import HandS.Codes
import HandS.WrittenGet
import HandS.Defaults
import HandS.More
import HandS.SortInts
import HandS.Conv
import HandS.Iter
import HandS.TryOnly
import HandS.Style
import HandS.SetFor
import HandS.Strs
import HandS.Lambda
import HandS.SortKw
import KE.DataMinMax
import ObjForm.LawKit
import PyProof.EqAt
import PyProof.NeKinds
import HandS.TryMany
import PyProof.StrBlock2
import HandS.ExcValue
import HandS.ExcIs
import HandS.List
import KE.KExcInit
import HandS.ExcInit
import HandS.ExcField
import KE.KExcLine
import PySem.Challenge.RW_leastmends_k62_values_written
set_option linter.all false
set_option maxRecDepth 100000
/-! A small language with explicit store: what the given defs compute, as total functions. -/
namespace Ir
/-- deep data, never changed -/
inductive D where
  | non | bool (b : Bool) | int (i : Int) | str (s : String) | tup (xs : List D) | lst (xs : List D) | ro (xs : List D)
  | oid (n : Nat) | fn (f : String)
  | exn (c : String) (ns : List String) (as : List D)
deriving Inhabited
inductive Val where
  | d (x : D) | ref (n : Nat)
deriving Inhabited
/-- what lives in the arena: instances, lists and dicts that they hold -/
inductive Obj where
  | inst (c : String) (fs : List (String × D)) | lst (xs : List D) | dic (kvs : List (D × D)) | dicT (kvs : List (List D × D))
deriving Inhabited
inductive Cell where
  | lst (xs : List D) | dic (kvs : List (D × D)) | dead | arena (os : List Obj)
deriving Inhabited
abbrev Store := List Cell
abbrev Env := List (Option Val)
inductive Res (α : Type) where
  | ok (a : α) (st : Store) | exc (c : String) (as : List (String × D)) (st : Store) | bad
def Res.bind {α β : Type} : Res α → (α → Store → Res β) → Res β
  | .ok a st, f => f a st
  | .exc c as st, _ => .exc c as st
  | .bad, _ => .bad
@[simp] theorem Res.bind_ok {α β : Type} (a : α) (st : Store) (f : α → Store → Res β) : (Res.ok a st).bind f = f a st := rfl
@[simp] theorem Res.bind_bad {α β : Type} (f : α → Store → Res β) : (Res.bad : Res α).bind f = .bad := rfl
@[simp] theorem Res.bind_exc {α β : Type} (c as st) (f : α → Store → Res β) : (Res.exc c as st : Res α).bind f = .exc c as st := rfl
theorem Res.bind_eq_ok {α β : Type} {r : Res α} {f : α → Store → Res β} {b : β} {st : Store} (h : r.bind f = .ok b st) : ∃ a s1, r = .ok a s1 ∧ f a s1 = .ok b st := by
  cases r with
  | ok a s1 => exact ⟨a, s1, rfl, h⟩
  | exc c as s1 => cases h
  | bad => cases h

theorem LIMx : ∃ n : Nat, n = 16777216 := ⟨_, rfl⟩
/-- a bound that is never counted out -/
noncomputable def LIM : Nat := Classical.choose LIMx
theorem LIM_eq : LIM = 16777216 := Classical.choose_spec LIMx
noncomputable section
/-! ### data -/
mutual
def D.dep : D → Nat
  | .tup xs | .lst xs => D.depAll xs + 1
  | .non | .bool _ | .int _ | .str _ => 0
  | .ro _ | .oid _ | .fn _ | .exn _ _ _ => 1000
def D.depAll : List D → Nat
  | [] => 0
  | x :: xs => max x.dep (D.depAll xs)
end
mutual
/-- Python's == -/
def D.eqv : D → D → Bool
  | .non, .non => true
  | .bool a, .bool b => a == b
  | .bool a, .int j => (if a then 1 else 0) == j
  | .int i, .bool b => i == (if b then 1 else 0)
  | .int i, .int j => i == j
  | .str x, .str y => decide (x = y)
  | .lst xs, .lst ys => D.eqvAll xs ys
  | .tup xs, .tup ys => D.eqvAll xs ys
  | _, _ => false
def D.eqvAll : List D → List D → Bool
  | [], [] => true
  | x :: xs, y :: ys => D.eqv x y && D.eqvAll xs ys
  | [], _ :: _ => false
  | _ :: _, [] => false
end
/-- an index: negative ones from behind -/
def ixN (n : Nat) (i : Int) : Option Nat := if 0 ≤ i then (if i < n then some i.toNat else none) else if -(n : Int) ≤ i then some (i + n).toNat else none
def atI {α : Type} (xs : List α) (i : Int) : Option α := (ixN xs.length i).bind fun j => xs[j]?
/-- a slice's bound: clamp -/
def sIx (n : Nat) (d : Nat) : Option Int → Nat
  | none => d
  | some i => if i < 0 then (i + n).toNat else min i.toNat n
def cut {α : Type} (xs : List α) (lo hi : Option Int) : List α := (xs.drop (sIx xs.length 0 lo)).take (sIx xs.length xs.length hi - sIx xs.length 0 lo)

inductive Op where | add | sub | mul | fdiv | mod | pow | lmul | smul
deriving DecidableEq
inductive Cmp where | eq | ne | lt | le | gt | ge | isin | notin | is | isnot | sin | snin
deriving DecidableEq
inductive Bi where | len | abs | tuple | list | all | any | sum | min | max | range | zip | lzip | int | str | enum | revR | chars | zipS | maxd | lrange | sorted | rngS | sset | revT
deriving DecidableEq
def Bi.name : Bi → String
  | .len => "len" | .abs => "abs" | .tuple => "tuple" | .list => "list" | .all => "all" | .any => "any" | .sum => "sum" | .min => "min" | .max => "max" | .range => "range" | .zip => "zip" | .lzip => "list" | .int => "int" | .str => "str" | .enum => "enumerate" | .revR => "reversed" | .chars => "" | .zipS => "zip" | .maxd => "max" | .lrange => "list" | .sorted => "sorted" | .rngS => "range" | .sset => "sorted" | .revT => ""
inductive Mt where | append | extend | pop | pop0 | setdefault | get | bit_length | join | reverse
deriving DecidableEq
inductive Ty where | bool | int | str | tuple | list
deriving DecidableEq
def Ty.name : Ty → String
  | .bool => "bool" | .int => "int" | .str => "str" | .tuple => "tuple" | .list => "list"
inductive Tg where
  | name (i : Nat) | tup (ts : List Tg) | star (pre : List Nat) (i : Nat) (post : List Nat)
/-- questions to a dict that is never changed -/
inductive Kq where | get | isin | notin | idx
deriving DecidableEq
/-- questions to an object's list or dict -/
inductive Oq where | len | isnil | notnil | idx | get | tup
deriving DecidableEq
/-- its changes -/
inductive Om where | append | extend | pop | reverse
deriving DecidableEq
/-- questions to a list that may be one of the arena or data -/
inductive Aq where
  | isi (ts : List Ty) | len | idx
inductive Ex where
  | var (i : Nat)
  | con (d : D)
  | tup (es : List Ex)
  | lst (es : List Ex)
  | newL (e : Ex)
  | newD
  | newDP (e : Ex)
  | newDd (es : List Ex)
  | frz (e : Ex)
  | bin (o : Op) (a b : Ex)
  | neg (a : Ex)
  | cmp (o : Cmp) (a b : Ex)
  | chain (o o' : Cmp) (a b c : Ex)
  | and (a b : Ex) | or (a b : Ex) | not (a : Ex)
  | ite (c a b : Ex)
  | idx (a b : Ex)
  | sli (a : Ex) (lo hi : Option Ex)
  | call (f : String) (es : List Ex)
  | callP (f : String) (es : List Ex) (perm : List Nat)
  | blt (f : Bi) (es : List Ex)
  | mth (m : Mt) (o : Ex) (es : List Ex)
  | isi (e : Ex) (ts : List Ty)
  | fs (es : List Ex)
  | kd (o : Kq) (kvs : List (String × D)) (e : Ex)
  | rev (e : Ex)
  | comp (elt : Ex) (tg : Tg) (it : Ex) (cs : List Ex)
  | newI (c : String)
  | newO (e : Ex)
  | newOD
  | fld (c : String) (o : Ex) (f : String)
  | meth (c m : String) (o : Ex) (es : List Ex)
  | oq (q : Oq) (o : Ex) (es : List Ex)
  | oin (neg : Bool) (k o : Ex)
  | om (m : Om) (o : Ex) (es : List Ex)
  | dkeys (e : Ex)
  | nn (e : Ex)
  | xfld (e : Ex) (f : String)
  | isx (e : Ex) (tb : List (String × Bool))
  | newX (c f : String) (e : Ex)
  | anyQ (q : Aq) (e : Ex) (es : List Ex)
  | kdd (kvs : List (String × D)) (e f : Ex)
  | frzT (e : Ex)
/-- expressions that may raise -/
inductive EX where
  | p (e : Ex)
  | call (f : String) (es : List EX)
  | callP (f : String) (es : List EX) (perm : List Nat)
  | ite (c : Ex) (a b : EX)
  | meth (c m : String) (o : Ex) (es : List EX)
  | methN (c m : String) (o : Ex) (es : List EX)
inductive Stm where
  | asg (t : Tg) (e : Ex)
  | par (i j : Nat) (a b : Ex)
  | set (o i e : Ex)
  | ex (e : Ex)
  | ret (e : Ex)
  | ite (c : Ex) (a b : List Stm)
  | loop (t : Tg) (it : Ex) (body : List Stm)
  | while (c : Ex) (body : List Stm)
  | aug (i : Nat) (o : Op) (e : Ex)
  | pass | brk | cnt
  | never
  | asgX (t : Tg) (e : EX)
  | exX (e : EX)
  | retX (e : EX)
  | raise (c : String)
  | tryX (body : List Stm) (c : String) (h : List Stm)
  | tryX2 (body : List Stm) (c : String) (h : List Stm) (c2 : String) (h2 : List Stm)
  | setf (c : String) (o : Ex) (f : String) (e : Ex)
  | augf (c : String) (o : Ex) (f : String) (p : Op) (e : Ex)
  | setO (o i e : Ex)
  | asgO (t : Tg) (e : Ex)
  | raiseA (c f : String) (e : Ex)
  | tryK (body : List Stm) (cs : List String) (i j : Nat) (cs2 : List String) (i2 j2 : Nat)
  | tryF (body : List Stm) (c : String) (i : Nat) (f : String)
/-- a def, a method, a class that is called -/
inductive Fk where
  | df | mt (c m : String) | ct (c : String) | dk
structure Fn where
  many : Nat            -- slots
  pars : Nat
  body : List Stm
  x : Bool              -- may raise
  k : Fk := .df
abbrev Calls := String → List Val → Store → Res Val

/-! ### operators -/
def bigOk (i : Int) : Bool := decide (i.natAbs < 2 ^ 4000)
def smallOk (i : Int) : Bool := decide (-(2 ^ 64) < i ∧ i < 2 ^ 64)
def D.bin : Op → D → D → Option D
  | .add, .int i, .int j => some (.int (i + j))
  | .add, .str x, .str y => if x.length + y.length ≤ LIM then some (.str (x ++ y)) else none
  | .add, .tup xs, .tup ys => if xs.length + ys.length ≤ LIM then some (.tup (xs ++ ys)) else none
  | .add, .lst xs, .lst ys => if xs.length + ys.length ≤ LIM then some (.lst (xs ++ ys)) else none
  | .sub, .int i, .int j => some (.int (i - j))
  | .mul, .int i, .int j => if (bigOk i && bigOk j) || (smallOk i || smallOk j) then some (.int (i * j)) else none
  | .fdiv, .int i, .int j => if 0 < j && bigOk j then some (.int (i / j)) else none
  | .mod, .int i, .int j => if 0 < j then some (.int (i % j)) else none
  | .smul, .str z, .int n => if 0 ≤ n && decide (n ≤ (LIM : Int)) && decide (z.length * n.toNat ≤ LIM) then some (.str (String.ofList (List.replicate n.toNat z.toList).flatten)) else none
  | .lmul, .lst xs, .int n => if 0 ≤ n && decide (n ≤ (LIM : Int)) && decide (xs.length * n.toNat ≤ LIM) then some (.lst (List.replicate n.toNat xs).flatten) else none
  | .pow, .int i, .int j => if 0 ≤ j && decide (j ≤ 100) && bigOk i then some (.int (i ^ j.toNat)) else none
  | _, _, _ => none
/-- the content of a value: a cell's list as data -/
def deref (st : Store) : Val → Option D
  | .d x => some x
  | .ref n => match st[n]? with
    | some (.lst xs) => some (.lst xs)
    | _ => none
def fine (x : D) : Bool := decide (x.dep ≤ 64)
def flat : D → Bool
  | .non | .bool _ | .int _ | .str _ => true
  | _ => false
def D.key : D → Bool
  | .int _ | .str _ => true
  | _ => false
def lookK (kvs : List (D × D)) (k : D) : Option D := (kvs.find? fun p => p.1.eqv k).map (·.2)
def putK (kvs : List (D × D)) (k v : D) : List (D × D) :=
  if kvs.any fun p => p.1.eqv k then kvs.map fun p => if p.1.eqv k then (p.1, v) else p else kvs ++ [(k, v)]
/-- pairs put into a dict, one by one -/
def mergeP : List (D × D) → List D → Option (List (D × D))
  | acc, [] => some acc
  | acc, .tup [k, v] :: r => if k.key then mergeP (putK acc k v) r else none
  | _, _ :: _ => none
/-- keys and values by turns -/
def mergeF : List (D × D) → List D → Option (List (D × D))
  | acc, [] => some acc
  | acc, k :: v :: r => if k.key then mergeF (putK acc k v) r else none
  | _, [_] => none
def D.cmp : Cmp → D → D → Option Bool
  | .eq, x, y => if fine x && fine y then some (x.eqv y) else none
  | .ne, x, y => if fine x && fine y then some (!x.eqv y) else none
  | .lt, .int i, .int j => some (decide (i < j))
  | .le, .int i, .int j => some (decide (i ≤ j))
  | .gt, .int i, .int j => some (decide (i > j))
  | .ge, .int i, .int j => some (decide (i ≥ j))
  | _, _, _ => none
def D.mem (x : D) : D → Option Bool
  | .lst ys => if fine x && fine (.lst ys) then some (ys.any fun y => y.eqv x) else none
  | .tup ys => if flat x && ys.all flat then some (ys.any fun y => y.eqv x) else none
  | _ => none
def inB (st : Store) (x c : Val) : Option Bool :=
  match x, c with
  | .d k, .ref n => match st[n]? with
    | some (.dic kvs) => if k.key then some (lookK kvs k).isSome else none
    | some (.lst xs) => k.mem (.lst xs)
    | _ => none
  | .d k, .d y => k.mem y
  | _, _ => none
def isNon : Val → Val → Option Bool
  | .ref _, .d .non => some false
  | .d x, .d .non => some (match x with | .non => true | _ => false)
  | .d (.bool b), .d (.bool c) => some (decide (b = c))
  | _, _ => none
/-- a sign in a text -/
def strIn : Val → Val → Option Bool
  | .d (.str y), .d (.str z) => match y.toList with
    | [c] => if z.length ≤ LIM then some (decide (c ∈ z.toList)) else none
    | _ => none
  | _, _ => none
def cmpV (o : Cmp) (st : Store) (x y : Val) : Option Bool :=
  match o with
  | .isin => inB st x y
  | .notin => (inB st x y).map (!·)
  | .is => isNon x y
  | .isnot => (isNon x y).map (!·)
  | .sin => strIn x y
  | .snin => (strIn x y).map (!·)
  | o => match deref st x, deref st y with
    | some a, some b => D.cmp o a b
    | _, _ => none
/-- a text of one sign -/
def sgn (c : Char) : D := .str (String.singleton c)
def D.index : D → D → Option D
  | .str z, .int i => if z.length ≤ LIM then (atI z.toList i).map sgn else none
  | .tup xs, .int i => atI xs i
  | .lst xs, .int i => atI xs i
  | .ro xs, .int i => atI xs i
  | _, _ => none
def indexV (st : Store) (x y : Val) : Option D :=
  match x, y with
  | .ref n, .d k => match st[n]? with
    | some (.lst xs) => D.index (.lst xs) k
    | some (.dic kvs) => if k.key then lookK kvs k else none
    | _ => none
  | .d a, .d k => a.index k
  | _, _ => none
def D.slice : D → Option Int → Option Int → Option D
  | .str z, lo, hi => if z.length ≤ LIM then some (.str (String.ofList (cut z.toList lo hi))) else none
  | .tup xs, lo, hi => some (.tup (cut xs lo hi))
  | .lst xs, lo, hi => some (.lst (cut xs lo hi))
  | .ro xs, lo, hi => some (.lst (cut xs lo hi))
  | _, _, _ => none
def D.seq : D → Option (List D)
  | .tup xs => some xs
  | .lst xs => some xs
  | _ => none
def D.tyOk : D → Ty → Bool
  | .bool _, .bool => true
  | .bool _, .int => true
  | .int _, .int => true
  | .str _, .str => true
  | .tup _, .tuple => true
  | .lst _, .list => true
  | .ro _, .list => true
  | _, _ => false
/-- no object, no function -/
def D.plain : D → Bool
  | .oid _ | .fn _ | .exn _ _ _ => false
  | _ => true
def isiV (ts : List Ty) (p : D) : Option D := if p.plain then some (.bool (ts.any fun t => p.tyOk t)) else none
@[simp] theorem plain_non : D.plain .non = true := rfl
@[simp] theorem plain_bool (b : Bool) : D.plain (.bool b) = true := rfl
@[simp] theorem plain_int (b : Int) : D.plain (.int b) = true := rfl
@[simp] theorem plain_str (b : String) : D.plain (.str b) = true := rfl
@[simp] theorem plain_tup (b : List D) : D.plain (.tup b) = true := rfl
@[simp] theorem plain_lst (b : List D) : D.plain (.lst b) = true := rfl
@[simp] theorem plain_ro (b : List D) : D.plain (.ro b) = true := rfl
@[simp] theorem isiV_non {ts : List Ty} : isiV ts .non = some (.bool (ts.any fun t => D.tyOk .non t)) := rfl
@[simp] theorem isiV_bool {ts : List Ty} {b : Bool} : isiV ts (.bool b) = some (.bool (ts.any fun t => D.tyOk (.bool b) t)) := rfl
@[simp] theorem isiV_int {ts : List Ty} {b : Int} : isiV ts (.int b) = some (.bool (ts.any fun t => D.tyOk (.int b) t)) := rfl
@[simp] theorem isiV_str {ts : List Ty} {b : String} : isiV ts (.str b) = some (.bool (ts.any fun t => D.tyOk (.str b) t)) := rfl
@[simp] theorem isiV_tup {ts : List Ty} {b : List D} : isiV ts (.tup b) = some (.bool (ts.any fun t => D.tyOk (.tup b) t)) := rfl
@[simp] theorem isiV_lst {ts : List Ty} {b : List D} : isiV ts (.lst b) = some (.bool (ts.any fun t => D.tyOk (.lst b) t)) := rfl
@[simp] theorem isiV_ro {ts : List Ty} {b : List D} : isiV ts (.ro b) = some (.bool (ts.any fun t => D.tyOk (.ro b) t)) := rfl
def D.bools : List D → Option (List Bool)
  | [] => some []
  | .bool b :: r => (D.bools r).map (b :: ·)
  | _ :: _ => none
def D.ints : List D → Option (List Int)
  | [] => some []
  | .int b :: r => (D.ints r).map (b :: ·)
  | _ :: _ => none
def intBits (i : Int) : Nat := if i.natAbs = 0 then 0 else i.natAbs.log2 + 1
def rangeL (lo : Int) (n : Nat) : List D := (List.range n).map fun i => .int (lo + (i : Nat))
/-- by steps of two -/
def rangeS (lo : Int) (n : Nat) : List D := (List.range n).map fun i => .int (lo + (i : Nat) * 2)
def stepN (i j : Int) : Nat := if i < j then ((j - i - 1) / 2 + 1).toNat else 0
def zipL (xs ys : List D) : List D := (xs.zip ys).map fun p => .tup [p.1, p.2]
/-- built-in calls upon data -/
def D.bLen : List D → Option D
  | [.ro xs] => some (.int xs.length)
  | [.tup xs] => some (.int xs.length)
  | [.lst xs] => some (.int xs.length)
  | [.str z] => if z.length ≤ LIM then some (.int z.length) else none
  | _ => none
def D.bAbs : List D → Option D
  | [.int i] => some (.int (if i < 0 then -i else i))
  | _ => none
def D.bTuple : List D → Option D
  | [.tup xs] => some (.tup xs)
  | [.lst xs] => some (.tup xs)
  | _ => none
def D.bList : List D → Option D
  | [.tup xs] => some (.lst xs)
  | [.lst xs] => some (.lst xs)
  | _ => none
def D.bAll : List D → Option D
  | [.lst xs] => (D.bools xs).map fun bs => .bool (bs.all id)
  | _ => none
def D.bAny : List D → Option D
  | [.lst xs] => (D.bools xs).map fun bs => .bool (bs.any id)
  | _ => none
def D.bSum : List D → Option D
  | [.lst xs] => (D.ints xs).map fun bs => .int bs.sum
  | _ => none
def D.bMin : List D → Option D
  | [.int i, .int j] => some (.int (if j < i then j else i))
  | _ => none
def D.bMax : List D → Option D
  | [.int i, .int j] => some (.int (if j > i then j else i))
  | _ => none
def D.bRange : List D → Option D
  | [.int n] => if -(LIM : Int) ≤ n ∧ n ≤ (LIM : Int) then some (.lst (rangeL 0 n.toNat)) else none
  | [.int i, .int j] => if -(LIM : Int) ≤ i ∧ i ≤ (LIM : Int) ∧ -(LIM : Int) ≤ j ∧ j ≤ (LIM : Int) ∧ j - i ≤ (LIM : Int) then some (.lst (rangeL i (j - i).toNat)) else none
  | _ => none
def D.bZip : List D → Option D
  | [.lst xs, .lst ys] => some (.lst (zipL xs ys))
  | [.tup xs, .tup ys] => some (.lst (zipL xs ys))
  | [.lst xs, .tup ys] => some (.lst (zipL xs ys))
  | _ => none
/-- the number that figures write -/
def digV (cs : List Char) : Nat := cs.foldl (fun a c => a * 10 + (c.toNat - 48)) 0
def isDig (c : Char) : Bool := decide (48 ≤ c.toNat ∧ c.toNat ≤ 57)
def txtInt (cs : List Char) : Option Int :=
  if cs.length ≤ 600 then (match cs with
    | '-' :: r => if r ≠ [] ∧ r.all isDig = true then some (-((digV r : Nat) : Int)) else none
    | r => if r ≠ [] ∧ r.all isDig = true then some ((digV r : Nat) : Int) else none) else none
def D.bInt : List D → Option D
  | [.int i] => some (.int i)
  | [.bool b] => some (.int (if b then 1 else 0))
  | [.str z] => (txtInt z.toList).map .int
  | _ => none
def D.bStr : List D → Option D
  | [.int i] => if i.natAbs.log2 < 1920 then some (.str (toString i)) else none
  | [.str z] => if z.length ≤ LIM then some (.str z) else none
  | _ => none
/-- list(zip(a, b)) -/
def D.bLzip : List D → Option D
  | [.tup xs, .tup ys] => some (.lst (zipL xs ys))
  | _ => none
/-- enumerate(xs) -/
def enumL (xs : List D) : List D := (List.range xs.length).zip xs |>.map fun p => .tup [.int (p.1 : Nat), p.2]
def D.bEnum : List D → Option D
  | [.tup xs] => some (.lst (enumL xs))
  | [.lst xs] => some (.lst (enumL xs))
  | _ => none
/-- reversed(range(..)) -/
def D.bRevR : List D → Option D
  | [.int n] => if -(LIM : Int) ≤ n ∧ n ≤ (LIM : Int) then some (.lst (rangeL 0 n.toNat).reverse) else none
  | [.int i, .int j] => if -(LIM : Int) ≤ i ∧ i ≤ (LIM : Int) ∧ -(LIM : Int) ≤ j ∧ j ≤ (LIM : Int) ∧ j - i ≤ (LIM : Int) then some (.lst (rangeL i (j - i).toNat).reverse) else none
  | _ => none
def D.bChars : List D → Option D
  | [.str z] => if z.length ≤ LIM then some (.lst (z.toList.map sgn)) else none
  | _ => none
def D.bZipS : List D → Option D
  | [.lst xs, .str z] => if z.length ≤ LIM then some (.lst (zipL xs (z.toList.map sgn))) else none
  | _ => none
/-- max(xs, default=d) -/
def D.bMaxd : List D → Option D
  | [.lst xs, .int d] => (D.ints xs).map fun bs => .int (match bs with | [] => d | b :: r => r.foldl (fun m x => if x > m then x else m) b)
  | _ => none
/-- list(range(..)) -/
def D.bLrange : List D → Option D
  | [.int n] => if -(LIM : Int) ≤ n ∧ n ≤ (LIM : Int) then some (.lst (rangeL 0 n.toNat)) else none
  | _ => none
/-- ints in order -/
def insI (x : Int) : List Int → List Int
  | [] => [x]
  | y :: l => if x ≤ y then x :: y :: l else y :: insI x l
def sortI : List Int → List Int
  | [] => []
  | x :: l => insI x (sortI l)
def D.bRngS : List D → Option D
  | [.int i, .int j, .int c] => if c = 2 ∧ 0 ≤ i ∧ i ≤ (LIM : Int) ∧ -(LIM : Int) ≤ j ∧ j ≤ (LIM : Int) then some (.lst (rangeS i (stepN i j))) else none
  | _ => none
def D.bSorted : List D → Option D
  | [.lst xs] => (D.ints xs).map fun l => .lst ((sortI l).map .int)
  | _ => none
/-- sorted(set(xs)), of ints -/
def insD (x : Int) : List Int → List Int
  | [] => [x]
  | y :: l => if x < y then x :: y :: l else if x = y then y :: l else y :: insD x l
def ssetI : List Int → List Int
  | [] => []
  | x :: l => insD x (ssetI l)
def D.bSset : List D → Option D
  | [.lst xs] => (D.ints xs).bind fun l => if l.length ≤ 1000 ∧ (ssetI l).length < 64 then some (.lst ((ssetI l).map .int)) else none
  | _ => none
/-- t[::-1] -/
def D.bRevT : List D → Option D
  | [.tup xs] => some (.tup xs.reverse)
  | _ => none
def D.blt : Bi → List D → Option D
  | .len => D.bLen
  | .abs => D.bAbs
  | .tuple => D.bTuple
  | .list => D.bList
  | .all => D.bAll
  | .any => D.bAny
  | .sum => D.bSum
  | .min => D.bMin
  | .max => D.bMax
  | .range => D.bRange
  | .zip => D.bZip
  | .lzip => D.bLzip
  | .int => D.bInt
  | .str => D.bStr
  | .enum => D.bEnum
  | .revR => D.bRevR
  | .chars => D.bChars
  | .zipS => D.bZipS
  | .maxd => D.bMaxd
  | .lrange => D.bLrange
  | .sorted => D.bSorted
  | .rngS => D.bRngS
  | .sset => D.bSset
  | .revT => D.bRevT
def derefs (st : Store) : List Val → Option (List D)
  | [] => some []
  | v :: r => match deref st v, derefs st r with
    | some d, some ds => some (d :: ds)
    | _, _ => none
def asDs : List Val → Option (List D)
  | [] => some []
  | .d x :: r => (asDs r).map (x :: ·)
  | .ref _ :: _ => none
def bltD (f : Bi) (vs : List Val) (st : Store) : Res Val :=
  match derefs st vs with
  | some ds => match D.blt f ds with
    | some r => .ok (.d r) st
    | none => .bad
  | none => .bad
def lenDic (vs : List Val) (st : Store) : Option Nat :=
  match vs with
  | [.ref n] => match st[n]? with
    | some (.dic kvs) => some kvs.length
    | _ => none
  | _ => none
def bltV (f : Bi) (vs : List Val) (st : Store) : Res Val :=
  match f with
  | .len => match lenDic vs st with
    | some n => .ok (.d (.int n)) st
    | none => bltD .len vs st
  | .zip => match asDs vs with
    | some _ => bltD .zip vs st
    | none => .bad
  | .enum => match asDs vs with
    | some _ => bltD .enum vs st
    | none => .bad
  | .zipS => match asDs vs with
    | some _ => bltD .zipS vs st
    | none => .bad
  | f => bltD f vs st
/-- methods of cells and data -/
def mAppend (n : Nat) (st : Store) : List Val → Res Val
  | [.d x] => match st[n]? with
    | some (.lst xs) => if xs.length < LIM then .ok (.d .non) (st.set n (.lst (xs ++ [x]))) else .bad
    | _ => .bad
  | _ => .bad
def mExtend (n : Nat) (st : Store) : List Val → Res Val
  | [.d (.lst ys)] => match st[n]? with
    | some (.lst xs) => if xs.length + ys.length ≤ LIM then .ok (.d .non) (st.set n (.lst (xs ++ ys))) else .bad
    | _ => .bad
  | _ => .bad
def mPop (n : Nat) (st : Store) : List Val → Res Val
  | [] => match st[n]? with
    | some (.lst xs) => match xs[xs.length - 1]? with
      | some y => .ok (.d y) (st.set n (.lst xs.dropLast))
      | none => .bad
    | _ => .bad
  | _ => .bad
def mPop0 (n : Nat) (st : Store) : List Val → Res Val
  | [] => match st[n]? with
    | some (.lst (y :: ys)) => .ok (.d y) (st.set n (.lst ys))
    | _ => .bad
  | _ => .bad
def mSetdefault (n : Nat) (st : Store) : List Val → Res Val
  | [.d k, .d v] => match st[n]? with
    | some (.dic kvs) => if k.key && decide (kvs.length < LIM) then (match lookK kvs k with
      | some w => .ok (.d w) st
      | none => .ok (.d v) (st.set n (.dic (putK kvs k v)))) else .bad
    | _ => .bad
  | _ => .bad
def mGet (n : Nat) (st : Store) : List Val → Res Val
  | [.d k, .d v] => match st[n]? with
    | some (.dic kvs) => if k.key then .ok (.d ((lookK kvs k).getD v)) st else .bad
    | _ => .bad
  | _ => .bad
def mBits (st : Store) : D → List Val → Res Val
  | .int i, [] => .ok (.d (.int (intBits i))) st
  | _, _ => .bad
def D.strs : List D → Option (List String)
  | [] => some []
  | .str x :: r => (D.strs r).map (x :: ·)
  | _ :: _ => none
def joinS (a : String) : List String → String
  | [] => ""
  | [x] => x
  | x :: y :: r => x ++ a ++ joinS a (y :: r)
def mJoin (st : Store) : D → List Val → Res Val
  | .str a, [.d (.lst xs)] => match D.strs xs with
    | some ys => if (ys.map (·.length)).sum + ys.length * a.length ≤ LIM then .ok (.d (.str (joinS a ys))) st else .bad
    | none => .bad
  | _, _ => .bad
def mReverse (n : Nat) (st : Store) : List Val → Res Val
  | [] => match st[n]? with
    | some (.lst xs) => .ok (.d .non) (st.set n (.lst xs.reverse))
    | _ => .bad
  | _ => .bad
def mthV (m : Mt) (o : Val) (vs : List Val) (st : Store) : Res Val :=
  match m, o with
  | .append, .ref n => mAppend n st vs
  | .extend, .ref n => mExtend n st vs
  | .pop, .ref n => mPop n st vs
  | .pop0, .ref n => mPop0 n st vs
  | .reverse, .ref n => mReverse n st vs
  | .setdefault, .ref n => mSetdefault n st vs
  | .get, .ref n => mGet n st vs
  | .bit_length, .d x => mBits st x vs
  | .join, .d x => mJoin st x vs
  | _, _ => .bad
/-- the receiver's kind, ahead of the arguments -/
def mthOk (m : Mt) (o : Val) (st : Store) : Bool :=
  match m, o with
  | .append, .ref n | .extend, .ref n | .pop, .ref n | .pop0, .ref n | .reverse, .ref n => match st[n]? with
    | some (.lst _) => true
    | _ => false
  | .setdefault, .ref n | .get, .ref n => match st[n]? with
    | some (.dic _) => true
    | _ => false
  | .bit_length, .d (.int _) => true
  | .join, .d (.str _) => true
  | _, _ => false
/-- what a dict that is never changed tells of a text -/
def kdV (o : Kq) (kvs : List (String × D)) : Val → Option D
  | .d (.str z) => match o with
    | .get => some ((kvs.lookup z).getD .non)
    | .isin => some (.bool (kvs.lookup z).isSome)
    | .notin => some (.bool (!(kvs.lookup z).isSome))
    | .idx => kvs.lookup z
  | _ => none
def kddV (kvs : List (String × D)) : Val → Val → Option D
  | .d (.str z), .d v => some ((kvs.lookup z).getD v)
  | _, _ => none
def revV : D → Option D
  | .lst xs => some (.lst xs.reverse)
  | _ => none
def optR {α : Type} (o : Option α) (st : Store) : Res α :=
  match o with
  | some a => .ok a st
  | none => .bad
@[simp] theorem optR_some {α : Type} (a : α) (st : Store) : optR (some a) st = .ok a st := rfl
@[simp] theorem optR_none {α : Type} (st : Store) : optR (none : Option α) st = .bad := rfl
theorem optR_ok {α : Type} {o : Option α} {st st' : Store} {a : α} (h : optR o st = .ok a st') : o = some a ∧ st' = st := by
  cases o with
  | none => cases h
  | some b => cases h; exact ⟨rfl, rfl⟩

/-! ### the arena -/
def arenaOf (st : Store) : Option (List Obj) :=
  match st[(0 : Nat)]? with
  | some (.arena os) => some os
  | _ => none
def getO (st : Store) : Val → Option (Nat × Obj)
  | .d (.oid n) => match arenaOf st with
    | some os => (os[n]?).map fun o => (n, o)
    | none => none
  | _ => none
def putO (st : Store) (n : Nat) (o : Obj) : Store :=
  match arenaOf st with
  | some os => st.set 0 (.arena (os.set n o))
  | none => st
def pushO (st : Store) (o : Obj) : Res Val :=
  match arenaOf st with
  | some os => .ok (.d (.oid os.length)) (st.set 0 (.arena (os ++ [o])))
  | none => .bad
def lookF (f : String) : List (String × D) → Option D
  | [] => none
  | (g, x) :: r => if f = g then some x else lookF f r
def putFd (f : String) (x : D) : List (String × D) → List (String × D)
  | [] => [(f, x)]
  | (g, y) :: r => if g = f then (g, x) :: r else (g, y) :: putFd f x r
def fldV (st : Store) (v : Val) (c f : String) : Option D :=
  match getO st v with
  | some (_, .inst c' fs) => if c' = c then lookF f fs else none
  | _ => none
def setFV (st : Store) (v : Val) (c f : String) (x : D) : Option Store :=
  match getO st v with
  | some (n, .inst c' fs) => if c' = c ∧ fs.length < 1000 then some (putO st n (.inst c (putFd f x fs))) else none
  | _ => none
/-- what a list of the arena holds -/
def lstO (st : Store) (v : Val) : Option D :=
  match getO st v with
  | some (_, .lst xs) => some (.lst xs)
  | _ => none
/-- the content of a list, be it of the arena or not -/
def anyD (st : Store) (v : Val) : Option D :=
  match lstO st v with
  | some d => some d
  | none => deref st v
def anyV (q : Aq) (st : Store) (v : Val) (vs : List Val) : Option D :=
  match anyD st v with
  | some d => match q, vs with
    | .isi ts, [] => isiV ts d
    | .len, [] => D.bLen [d]
    | .idx, [.d k] => d.index k
    | _, _ => none
  | none => none
/-- it is of this class, and has no such attribute -/
def methOk (st : Store) (v : Val) (c m : String) : Bool :=
  match getO st v with
  | some (_, .inst c' fs) => decide (c' = c) && (lookF m fs).isNone
  | _ => false
def oqV (q : Oq) (st : Store) (v : Val) (vs : List Val) : Option D :=
  match getO st v with
  | some (_, .lst xs) => match q, vs with
    | .len, [] => some (.int xs.length)
    | .tup, [] => some (.tup xs)
    | .isnil, [] => some (.bool xs.isEmpty)
    | .notnil, [] => some (.bool (!xs.isEmpty))
    | .idx, [.d (.int i)] => atI xs i
    | _, _ => none
  | some (_, .dic kvs) => match q, vs with
    | .len, [] => some (.int kvs.length)
    | .idx, [.d k] => if k.key then lookK kvs k else none
    | .get, [.d k, .d v] => if k.key then some ((lookK kvs k).getD v) else none
    | _, _ => none
  | _ => none
def oinV (st : Store) (k v : Val) : Option Bool :=
  match k, getO st v with
  | .d k, some (_, .dic kvs) => if k.key then some (lookK kvs k).isSome else none
  | _, _ => none
def omV (m : Om) (st : Store) (v : Val) (vs : List Val) : Res Val :=
  match getO st v with
  | some (n, .lst xs) => match m, vs with
    | .append, [.d x] => if xs.length < LIM then .ok (.d .non) (putO st n (.lst (xs ++ [x]))) else .bad
    | .extend, [.d (.lst ys)] => if xs.length + ys.length ≤ LIM then .ok (.d .non) (putO st n (.lst (xs ++ ys))) else .bad
    | .pop, [] => match xs[xs.length - 1]? with
      | some y => .ok (.d y) (putO st n (.lst xs.dropLast))
      | none => .bad
    | .reverse, [] => .ok (.d .non) (putO st n (.lst xs.reverse))
    | _, _ => .bad
  | _ => .bad
def omOk (st : Store) (v : Val) : Bool :=
  match getO st v with
  | some (_, .lst _) => true
  | _ => false
/-- the keys of a dict, in order -/
def dkeysV (st : Store) : Val → Option D
  | .ref n => match st[n]? with
    | some (.dic kvs) => (D.ints (kvs.map (·.1))).bind fun l => if l.length < 64 then some (.lst ((sortI l).map .int)) else none
    | _ => none
  | v => match getO st v with
    | some (_, .dic kvs) => (D.ints (kvs.map (·.1))).bind fun l => if l.length < 64 then some (.lst ((sortI l).map .int)) else none
    | _ => none
/-- whether a list is not empty -/
def nnV (st : Store) : Val → Option D
  | .ref n => match st[n]? with
    | some (.lst xs) => some (.bool (!xs.isEmpty))
    | _ => none
  | _ => none
/-- an error's field -/
def xfldV (f : String) : Val → Option D
  | .d (.exn _ ns as) => lookF f (ns.zip as)
  | _ => none
/-- whether an error is of a class, by its own -/
def isxV (tb : List (String × Bool)) : Val → Option D
  | .d (.exn c [] []) => (tb.lookup c).map .bool
  | _ => none
def exnOf (c : String) (as : List (String × D)) : D := .exn c (as.map (·.1)) (as.map (·.2))
def setOV (st : Store) (o i : Val) (x : D) : Option Store :=
  match getO st o, i with
  | some (n, .dic kvs), .d k => if k.key && decide (kvs.length < LIM) then some (putO st n (.dic (putK kvs k x))) else none
  | _, _ => none
/-! ### targets -/
def wipe (σ : Env) : List Nat → Env
  | [] => σ
  | v :: vs => (wipe σ vs).set v none
mutual
def Tg.slots : Tg → List Nat
  | .name i => [i]
  | .tup ts => Tg.slotss ts
  | .star pre i post => pre ++ i :: post
def Tg.slotss : List Tg → List Nat
  | [] => []
  | t :: r => t.slots ++ Tg.slotss r
end
def setAll : List Nat → List D → Env → Option Env
  | [], [], σ => some σ
  | i :: is, x :: xs, σ => setAll is xs (σ.set i (some (.d x)))
  | _, _, _ => none
mutual
def Tg.put : Tg → D → Env → Option Env
  | .name i, x, σ => some (σ.set i (some (.d x)))
  | .tup ts, .tup xs, σ => Tg.puts ts xs σ
  | .tup ts, .lst xs, σ => Tg.puts ts xs σ
  | .tup _, _, _ => none
  | .star pre i post, x, σ => match x.seq with
    | none => none
    | some xs => if xs.length < pre.length + post.length then none else
      match setAll pre (xs.take pre.length) σ with
      | none => none
      | some σ1 => setAll post (xs.drop (xs.length - post.length)) (σ1.set i (some (.d (.lst ((xs.drop pre.length).take (xs.length - pre.length - post.length))))))
def Tg.puts : List Tg → List D → Env → Option Env
  | [], [], σ => some σ
  | t :: ts, x :: xs, σ => (t.put x σ).bind fun σ1 => Tg.puts ts xs σ1
  | [], _ :: _, _ => none
  | _ :: _, [], _ => none
end
def Tg.putV (t : Tg) (v : Val) (σ : Env) : Option Env :=
  match t, v with
  | .name i, v => some (σ.set i (some v))
  | t, .d x => t.put x σ
  | _, _ => none
def Tg.putF (t : Tg) : D → Env → Option Env := t.put
theorem Tg.putF_eq (t : Tg) (y : D) (σ : Env) : t.putF y σ = t.put y σ := rfl
/-- a comprehension's turns -/
def compL (f : D → Store → Res (Option D)) : List D → Store → Res (List D)
  | [], st => .ok [] st
  | x :: r, st => (f x st).bind fun y s1 => (compL f r s1).bind fun ys s2 => .ok (match y with | some y => y :: ys | none => ys) s2
def asD : Val → Option D
  | .d x => some x
  | .ref _ => none
def asB : Val → Option Bool
  | .d (.bool b) => some b
  | _ => none
def asI : Val → Option Int
  | .d (.int i) => some i
  | _ => none

/-- one turn of a comprehension -/
def compStep (f : Env → Store → Res Val) (g : Env → Store → Res Bool) (tg : Tg) (σ : Env) (y : D) (s : Store) : Res (Option D) :=
  (optR (tg.put y σ) s).bind fun σ1 s4 => (g σ1 s4).bind fun b s5 => if b then (f σ1 s5).bind fun z s6 => (optR (asD z) s6).bind fun d s7 => .ok (some d) s7 else .ok none s5
/-- a test -/
def condB (f : Env → Store → Res Val) (σ : Env) (st : Store) : Res Bool := (f σ st).bind fun x s1 => optR (asB x) s1
mutual
def eval (C : Calls) : Ex → Env → Store → Res Val
  | .var i, σ, st => match σ[i]? with
    | some (some v) => .ok v st
    | _ => .bad
  | .con d, _, st => .ok (.d d) st
  | .tup es, σ, st => (evals C es σ st).bind fun vs s1 => (optR (asDs vs) s1).bind fun ds s2 => .ok (.d (.tup ds)) s2
  | .lst es, σ, st => (evals C es σ st).bind fun vs s1 => (optR (asDs vs) s1).bind fun ds s2 => .ok (.d (.lst ds)) s2
  | .newL e, σ, st => (eval C e σ st).bind fun v s1 => match v with
    | .d (.lst xs) => .ok (.ref s1.length) (s1 ++ [.lst xs])
    | _ => .bad
  | .newD, _, st => .ok (.ref st.length) (st ++ [.dic []])
  | .newDP e, σ, st => (eval C e σ st).bind fun v s1 => match v with
    | .d (.lst xs) => match mergeP [] xs with
      | some kvs => .ok (.ref s1.length) (s1 ++ [.dic kvs])
      | none => .bad
    | _ => .bad
  | .newDd es, σ, st => (evals C es σ st).bind fun us s1 => (optR (asDs us) s1).bind fun ds s2 => match mergeF [] ds with
    | some kvs => .ok (.ref s2.length) (s2 ++ [.dic kvs])
    | none => .bad
  | .frz e, σ, st => (eval C e σ st).bind fun v s1 => match v with
    | .ref n => match s1[n]? with
      | some (.lst xs) => .ok (.d (.lst xs)) (s1.set n .dead)
      | _ => .bad
    | _ => .bad
  | .frzT e, σ, st => (eval C e σ st).bind fun v s1 => match v with
    | .ref n => if st.length ≤ n then match s1[n]? with
      | some (.lst xs) => .ok (.d (.lst xs)) (s1.take st.length)
      | _ => .bad
      else .bad
    | _ => .bad
  | .bin o a b, σ, st => (eval C a σ st).bind fun x s1 => (eval C b σ s1).bind fun y s2 => (optR (deref s2 x) s2).bind fun p s3 => (optR (deref s2 y) s3).bind fun q s4 => (optR (D.bin o p q) s4).bind fun r s5 => .ok (.d r) s5
  | .neg a, σ, st => (eval C a σ st).bind fun x s1 => (optR (asI x) s1).bind fun i s2 => .ok (.d (.int (-i))) s2
  | .cmp o a b, σ, st => (eval C a σ st).bind fun x s1 => (eval C b σ s1).bind fun y s2 => (optR (cmpV o s2 x y) s2).bind fun r s3 => .ok (.d (.bool r)) s3
  | .chain o o' a b c, σ, st => (eval C a σ st).bind fun x s1 => (eval C b σ s1).bind fun y s2 => (optR (cmpV o s2 x y) s2).bind fun r s3 =>
      if r then (eval C c σ s3).bind fun z s4 => (optR (cmpV o' s4 y z) s4).bind fun q s5 => .ok (.d (.bool q)) s5 else .ok (.d (.bool false)) s3
  | .and a b, σ, st => (eval C a σ st).bind fun x s1 => (optR (asB x) s1).bind fun c s2 => if c then eval C b σ s2 else .ok (.d (.bool false)) s2
  | .or a b, σ, st => (eval C a σ st).bind fun x s1 => (optR (asB x) s1).bind fun c s2 => if c then .ok (.d (.bool true)) s2 else eval C b σ s2
  | .not a, σ, st => (eval C a σ st).bind fun x s1 => (optR (asB x) s1).bind fun c s2 => .ok (.d (.bool (!c))) s2
  | .ite c a b, σ, st => (eval C c σ st).bind fun x s1 => (optR (asB x) s1).bind fun c s2 => if c then eval C a σ s2 else eval C b σ s2
  | .idx a b, σ, st => (eval C a σ st).bind fun x s1 => (eval C b σ s1).bind fun y s2 => (optR (indexV s2 x y) s2).bind fun r s3 => .ok (.d r) s3
  | .sli a lo hi, σ, st => (eval C a σ st).bind fun x s1 => (evalO C lo σ s1).bind fun l s2 => (evalO C hi σ s2).bind fun h s3 => (optR (deref s3 x) s3).bind fun p s4 => (optR (p.slice l h) s4).bind fun r s5 => .ok (.d r) s5
  | .call f es, σ, st => (evals C es σ st).bind fun vs s1 => C f vs s1
  | .callP f es perm, σ, st => (evals C es σ st).bind fun vs s1 => C f (perm.filterMap fun i => vs[i]?) s1
  | .blt f es, σ, st => (evals C es σ st).bind fun vs s1 => bltV f vs s1
  | .mth m o es, σ, st => (eval C o σ st).bind fun x s1 => if mthOk m x s1 then (evals C es σ s1).bind fun vs s2 => mthV m x vs s2 else .bad
  | .isi e ts, σ, st => (eval C e σ st).bind fun x s1 => (optR (deref s1 x) s1).bind fun p s2 => (optR (isiV ts p) s2).bind fun r s3 => .ok (.d r) s3
  | .fs es, σ, st => (evals C es σ st).bind fun vs s1 => (optR (asDs vs) s1).bind fun ds s2 => (optR (D.strs ds) s2).bind fun ys s3 => if (ys.map (·.length)).sum ≤ LIM then .ok (.d (.str (joinS "" ys))) s3 else .bad
  | .kd o kvs e, σ, st => (eval C e σ st).bind fun x s1 => (optR (kdV o kvs x) s1).bind fun r s2 => .ok (.d r) s2
  | .rev e, σ, st => (eval C e σ st).bind fun x s1 => (optR (deref s1 x) s1).bind fun p s2 => (optR (revV p) s2).bind fun r s3 => .ok (.d r) s3
  | .comp elt tg it cs, σ, st => (eval C it σ st).bind fun x s1 => (optR (asD x) s1).bind fun p s2 => (optR p.seq s2).bind fun xs s3 =>
      (compL (compStep (eval C elt) (conds C cs) tg (wipe σ tg.slots)) xs s3).bind fun ys s8 => .ok (.d (.lst ys)) s8
  | .newI c, σ, st => pushO st (.inst c [])
  | .newO e, σ, st => (eval C e σ st).bind fun v s1 => match v with
    | .d (.lst xs) => pushO s1 (.lst xs)
    | _ => .bad
  | .newOD, σ, st => pushO st (.dic [])
  | .fld c o f, σ, st => (eval C o σ st).bind fun x s1 => (optR (fldV s1 x c f) s1).bind fun r s2 => .ok (.d r) s2
  | .meth c m o es, σ, st => (eval C o σ st).bind fun x s1 => if methOk s1 x c m then (evals C es σ s1).bind fun vs s2 => C (c ++ "." ++ m) (x :: vs) s2 else .bad
  | .oq q o es, σ, st => (eval C o σ st).bind fun x s1 => (evals C es σ s1).bind fun vs s2 => (optR (oqV q s2 x vs) s2).bind fun r s3 => .ok (.d r) s3
  | .oin b k o, σ, st => (eval C k σ st).bind fun y s1 => (eval C o σ s1).bind fun x s2 => (optR (oinV s2 y x) s2).bind fun r s3 => .ok (.d (.bool (r != b))) s3
  | .om m o es, σ, st => (eval C o σ st).bind fun x s1 => if omOk s1 x then (evals C es σ s1).bind fun vs s2 => omV m s2 x vs else .bad
  | .dkeys e, σ, st => (eval C e σ st).bind fun x s1 => (optR (dkeysV s1 x) s1).bind fun r s2 => .ok (.d r) s2
  | .nn e, σ, st => (eval C e σ st).bind fun x s1 => (optR (nnV s1 x) s1).bind fun r s2 => .ok (.d r) s2
  | .xfld e f, σ, st => (eval C e σ st).bind fun x s1 => (optR (xfldV f x) s1).bind fun r s2 => .ok (.d r) s2
  | .isx e tb, σ, st => (eval C e σ st).bind fun x s1 => (optR (isxV tb x) s1).bind fun r s2 => .ok (.d r) s2
  | .anyQ q e es, σ, st => (eval C e σ st).bind fun x s1 => (evals C es σ s1).bind fun vs s2 => (optR (anyV q s2 x vs) s2).bind fun r s3 => .ok (.d r) s3
  | .kdd kvs e f, σ, st => (eval C e σ st).bind fun x s1 => (eval C f σ s1).bind fun y s2 => (optR (kddV kvs x y) s2).bind fun r s3 => .ok (.d r) s3
  | .newX c f e, σ, st => (eval C e σ st).bind fun x s1 => (optR (asD x) s1).bind fun d s2 => .ok (.d (exnOf c [(f, d)])) s2
def evals (C : Calls) : List Ex → Env → Store → Res (List Val)
  | [], _, st => .ok [] st
  | e :: es, σ, st => (eval C e σ st).bind fun v s1 => (evals C es σ s1).bind fun vs s2 => .ok (v :: vs) s2
def evalO (C : Calls) : Option Ex → Env → Store → Res (Option Int)
  | none, _, st => .ok none st
  | some e, σ, st => (eval C e σ st).bind fun v s1 => (optR (asI v) s1).bind fun i s2 => .ok (some i) s2
def conds (C : Calls) : List Ex → Env → Store → Res Bool
  | [], _, st => .ok true st
  | e :: es, σ, st => (eval C e σ st).bind fun v s1 => (optR (asB v) s1).bind fun c s2 => if c then conds C es σ s2 else .ok false s2
end

/-! ### statements -/
inductive Out where
  | nx (σ : Env) | ret (v : Val) | brk (σ : Env) | cnt (σ : Env) | thr (c : String) (as : List (String × D)) (σ : Env)
/-- a for's turns -/
def loopL (g : D → Env → Option Env) (f : Env → Store → Res Out) : List D → Env → Store → Res Out
  | [], σ, st => .ok (.nx σ) st
  | x :: r, σ, st => (optR (g x σ) st).bind fun σ1 s1 => (f σ1 s1).bind fun o s2 => match o with
    | .nx σ2 => loopL g f r σ2 s2
    | .cnt σ2 => loopL g f r σ2 s2
    | .brk σ2 => .ok (.nx σ2) s2
    | .ret v => .ok (.ret v) s2
    | .thr c as σ2 => .ok (.thr c as σ2) s2
/-- a while's turns -/
def whileL (c : Env → Store → Res Bool) (f : Env → Store → Res Out) : Nat → Env → Store → Res Out
  | 0, _, _ => .bad
  | n + 1, σ, st => (c σ st).bind fun b s1 => if b then (f σ s1).bind fun o s2 => (match o with
    | .nx σ2 => whileL c f n σ2 s2
    | .cnt σ2 => whileL c f n σ2 s2
    | .brk σ2 => .ok (.nx σ2) s2
    | .ret v => .ok (.ret v) s2
    | .thr c as σ2 => .ok (.thr c as σ2) s2) else .ok (.nx σ) s1
def setV (o i : Val) (x : D) (st : Store) : Option Store :=
  match o, i with
  | .ref n, .d (.int k) => match st[n]? with
    | some (.lst xs) => (ixN xs.length k).map fun j => st.set n (.lst (xs.set j x))
    | some (.dic kvs) => if kvs.length < LIM then some (st.set n (.dic (putK kvs (.int k) x))) else none
    | _ => none
  | .ref n, .d (.str k) => match st[n]? with
    | some (.dic kvs) => if kvs.length < LIM then some (st.set n (.dic (putK kvs (.str k) x))) else none
    | _ => none
  | _, _ => none
def augI : Op → Int → Int → Option Int
  | .add, i, j => some (i + j)
  | .sub, i, j => some (i - j)
  | _, _, _ => none
theorem whileL_mono {c : Env → Store → Res Bool} {f : Env → Store → Res Out} : ∀ {n m : Nat} {σ : Env} {st : Store} {r : Out} {s : Store}, n ≤ m → whileL c f n σ st = .ok r s → whileL c f m σ st = .ok r s
  | 0, _, _, _, _, _, _, h => by simp [whileL] at h
  | n + 1, 0, _, _, _, _, hl, _ => by omega
  | n + 1, m + 1, σ, st, r, s, hl, h => by
    rw [whileL] at h ⊢
    obtain ⟨b, s1, e1, h1⟩ := Res.bind_eq_ok h
    rw [e1, Res.bind_ok]
    cases b with
    | false => simpa using h1
    | true =>
      simp only [if_true] at h1 ⊢
      obtain ⟨o, s2, e2, h2⟩ := Res.bind_eq_ok h1
      rw [e2, Res.bind_ok]
      cases o with
      | nx σ2 => exact whileL_mono (by omega) h2
      | cnt σ2 => exact whileL_mono (by omega) h2
      | brk σ2 => exact h2
      | ret v => exact h2
      | thr c as σ2 => exact h2
open Classical in
/-- a while: as many turns as it takes -/
noncomputable def whileU (c : Env → Store → Res Bool) (f : Env → Store → Res Out) (σ : Env) (st : Store) : Res Out :=
  if h : ∃ n r s, whileL c f n σ st = .ok r s then whileL c f h.choose σ st else .bad
theorem whileU_of {c : Env → Store → Res Bool} {f : Env → Store → Res Out} {n : Nat} {σ : Env} {st : Store} {r : Out} {s : Store} (h : whileL c f n σ st = .ok r s) : whileU c f σ st = .ok r s := by
  have hx : ∃ n r s, whileL c f n σ st = .ok r s := ⟨n, r, s, h⟩
  unfold whileU
  rw [dif_pos hx]
  obtain ⟨r', s', e⟩ := hx.choose_spec
  rw [e]
  have h1 := whileL_mono (Nat.le_max_left n hx.choose) h
  have h2 := whileL_mono (Nat.le_max_right n hx.choose) e
  rw [h1] at h2
  exact h2.symm
theorem whileU_ok {c : Env → Store → Res Bool} {f : Env → Store → Res Out} {σ : Env} {st : Store} {r : Out} {s : Store} (h : whileU c f σ st = .ok r s) : ∃ n, whileL c f n σ st = .ok r s := by
  unfold whileU at h
  split at h
  · exact ⟨_, h⟩
  · cases h
/-- a handler throws nothing -/
def noThr (o : Out) (s : Store) : Res Out :=
  match o with
  | .thr _ _ _ => .bad
  | o => .ok o s
@[simp] theorem noThr_nx (σ : Env) (s : Store) : noThr (.nx σ) s = .ok (.nx σ) s := rfl
@[simp] theorem noThr_ret (v : Val) (s : Store) : noThr (.ret v) s = .ok (.ret v) s := rfl
/-- nothing raised -/
def noexc {α : Type} : Res α → Res α
  | .ok a st => .ok a st
  | _ => .bad
@[simp] theorem noexc_ok {α : Type} (a : α) (st : Store) : noexc (.ok a st) = .ok a st := rfl
@[simp] theorem noexc_bad {α : Type} : noexc (.bad : Res α) = .bad := rfl
theorem noexc_inv {α : Type} {r : Res α} {a : α} {st : Store} (h : noexc r = .ok a st) : r = .ok a st := by
  cases r with
  | ok b s => exact h
  | exc c as s => cases h
  | bad => cases h
theorem noexc_not {α : Type} {r : Res α} {c : String} {as : List (String × D)} {st : Store} (h : noexc r = .exc c as st) : False := by
  cases r <;> cases h
/-- what is raised goes on as a way out -/
def catchX {α : Type} (r : Res α) (σ : Env) (f : α → Store → Res Out) : Res Out :=
  match r with
  | .ok a st => f a st
  | .exc c as st => .ok (.thr c as σ) st
  | .bad => .bad
@[simp] theorem catchX_ok {α : Type} (a : α) (st : Store) (σ : Env) (f : α → Store → Res Out) : catchX (.ok a st) σ f = f a st := rfl
@[simp] theorem catchX_exc {α : Type} (c as) (st : Store) (σ : Env) (f : α → Store → Res Out) : catchX (.exc c as st) σ f = .ok (.thr c as σ) st := rfl
@[simp] theorem catchX_bad {α : Type} (σ : Env) (f : α → Store → Res Out) : catchX .bad σ f = .bad := rfl
mutual
def evalX (C : Calls) : EX → Env → Store → Res Val
  | .p e, σ, st => noexc (eval C e σ st)
  | .call f es, σ, st => (evalXs C es σ st).bind fun vs s1 => C f vs s1
  | .callP f es perm, σ, st => (evalXs C es σ st).bind fun vs s1 => C f (perm.filterMap fun i => vs[i]?) s1
  | .ite c a b, σ, st => (noexc (eval C c σ st)).bind fun x s1 => (optR (asB x) s1).bind fun c s2 => if c then evalX C a σ s2 else evalX C b σ s2
  | .meth c m o es, σ, st => (noexc (eval C o σ st)).bind fun x s1 => if methOk s1 x c m then (evalXs C es σ s1).bind fun vs s2 => C (c ++ "." ++ m) (x :: vs) s2 else .bad
  | .methN c m o es, σ, st => (noexc (eval C o σ st)).bind fun x s1 => if methOk s1 x c m then (evalXs C es σ s1).bind fun vs s2 => noexc (C (c ++ "." ++ m) (x :: vs) s2) else .bad
def evalXs (C : Calls) : List EX → Env → Store → Res (List Val)
  | [], _, st => .ok [] st
  | e :: es, σ, st => (evalX C e σ st).bind fun v s1 => (evalXs C es σ s1).bind fun vs s2 => .ok (v :: vs) s2
end
mutual
noncomputable def exec (C : Calls) : Stm → Env → Store → Res Out
  | .asg t e, σ, st => (eval C e σ st).bind fun v s1 => (optR (t.putV v σ) s1).bind fun σ1 s2 => .ok (.nx σ1) s2
  | .par i j a b, σ, st => (eval C a σ st).bind fun x s1 => (eval C b σ s1).bind fun y s2 => .ok (.nx ((σ.set i (some x)).set j (some y))) s2
  | .set o i e, σ, st => (eval C e σ st).bind fun v s1 => (eval C o σ s1).bind fun x s2 => (eval C i σ s2).bind fun k s3 => (optR (asD v) s3).bind fun d s4 => (optR (setV x k d s4) s4).bind fun s5 _ => .ok (.nx σ) s5
  | .ex e, σ, st => (eval C e σ st).bind fun _ s1 => .ok (.nx σ) s1
  | .ret e, σ, st => (eval C e σ st).bind fun v s1 => .ok (.ret v) s1
  | .ite c a b, σ, st => (eval C c σ st).bind fun x s1 => (optR (asB x) s1).bind fun c s2 => if c then execs C a σ s2 else execs C b σ s2
  | .loop t it body, σ, st => (eval C it σ st).bind fun x s1 => (optR (asD x) s1).bind fun p s2 => (optR p.seq s2).bind fun xs s3 => loopL t.putF (execs C body) xs σ s3
  | .while c body, σ, st => whileU (condB (eval C c)) (execs C body) σ st
  | .aug i o e, σ, st => match σ[i]? with
    | some (some x) => (eval C e σ st).bind fun y s1 => (optR (asI x) s1).bind fun p s2 => (optR (asI y) s2).bind fun q s3 => (optR (augI o p q) s3).bind fun r s4 => .ok (.nx (σ.set i (some (.d (.int r))))) s4
    | _ => .bad
  | .pass, σ, st => .ok (.nx σ) st
  | .brk, σ, st => .ok (.brk σ) st
  | .cnt, σ, st => .ok (.cnt σ) st
  | .never, _, _ => .bad
  | .asgX t e, σ, st => catchX (evalX C e σ st) σ fun v s1 => (optR (t.putV v σ) s1).bind fun σ1 s2 => .ok (.nx σ1) s2
  | .exX e, σ, st => catchX (evalX C e σ st) σ fun _ s1 => .ok (.nx σ) s1
  | .retX e, σ, st => catchX (evalX C e σ st) σ fun v s1 => .ok (.ret v) s1
  | .raise c, σ, st => .ok (.thr c [] σ) st
  | .tryX body c h, σ, st => (execs C body σ st).bind fun o s1 => match o with
    | .thr c' as σ1 => if c' = c then (execs C h σ1 s1).bind noThr else .bad
    | o => .ok o s1
  | .tryX2 body c h c2 h2, σ, st => (execs C body σ st).bind fun o s1 => match o with
    | .thr c' as σ1 => if c' = c then (execs C h σ1 s1).bind noThr else if c' = c2 then (execs C h2 σ1 s1).bind noThr else .bad
    | o => .ok o s1
  | .setf c o f e, σ, st => (eval C e σ st).bind fun v s1 => (eval C o σ s1).bind fun x s2 => (optR (asD v) s2).bind fun d s3 => (optR (setFV s3 x c f d) s3).bind fun s4 _ => .ok (.nx σ) s4
  | .augf c o f p e, σ, st => (eval C o σ st).bind fun x s1 => (optR (fldV s1 x c f) s1).bind fun a s2 => (optR (asI (.d a)) s2).bind fun i s3 => (eval C e σ s3).bind fun y s4 => (optR (asI y) s4).bind fun j s5 => (optR (augI p i j) s5).bind fun r s6 => (optR (setFV s6 x c f (.int r)) s6).bind fun s7 _ => .ok (.nx σ) s7
  | .setO o i e, σ, st => (eval C e σ st).bind fun v s1 => (eval C o σ s1).bind fun x s2 => (eval C i σ s2).bind fun k s3 => (optR (asD v) s3).bind fun d s4 => (optR (setOV s4 x k d) s4).bind fun s5 _ => .ok (.nx σ) s5
  | .asgO t e, σ, st => (eval C e σ st).bind fun v s1 => (optR (lstO s1 v) s1).bind fun d s2 => (optR (t.put d σ) s2).bind fun σ1 s3 => .ok (.nx σ1) s3
  | .raiseA c f e, σ, st => (eval C e σ st).bind fun x s1 => (optR (asD x) s1).bind fun d s2 => .ok (.thr c [(f, d)] σ) s2
  | .tryK body cs i j cs2 i2 j2, σ, st => (execs C body σ st).bind fun o s1 => match o with
    | .thr c' as σ1 => if c' ∈ cs then .ok (.nx ((σ1.set j (some (.d (exnOf c' as)))).set i none)) s1 else if c' ∈ cs2 then .ok (.nx ((σ1.set j2 (some (.d (exnOf c' as)))).set i2 none)) s1 else .bad
    | o => .ok o s1
  | .tryF body c i f, σ, st => (execs C body σ st).bind fun o s1 => match o with
    | .thr c' as σ1 => if c' = c then (optR (lookF f as) s1).bind fun v s2 => .ok (.ret (.d v)) s2 else .bad
    | o => .ok o s1
noncomputable def execs (C : Calls) : List Stm → Env → Store → Res Out
  | [], σ, st => .ok (.nx σ) st
  | s :: r, σ, st => (exec C s σ st).bind fun o s1 => match o with
    | .nx σ1 => execs C r σ1 s1
    | o => .ok o s1
end
/-! ### the equations, for whole applications alone -/
set_option autoImplicit true in
@[simp] theorem eval_var {C : Calls} {σ : Env} {st : Store} : eval C (Ex.var i) σ st = (match σ[i]? with
    | some (some v) => .ok v st
    | _ => .bad) := rfl
set_option autoImplicit true in
@[simp] theorem eval_con {C : Calls} {σ : Env} {st : Store} : eval C (Ex.con d) σ st = (.ok (.d d) st) := rfl
set_option autoImplicit true in
@[simp] theorem eval_tup {C : Calls} {σ : Env} {st : Store} : eval C (Ex.tup es) σ st = ((evals C es σ st).bind fun vs s1 => (optR (asDs vs) s1).bind fun ds s2 => .ok (.d (.tup ds)) s2) := rfl
set_option autoImplicit true in
@[simp] theorem eval_lst {C : Calls} {σ : Env} {st : Store} : eval C (Ex.lst es) σ st = ((evals C es σ st).bind fun vs s1 => (optR (asDs vs) s1).bind fun ds s2 => .ok (.d (.lst ds)) s2) := rfl
set_option autoImplicit true in
@[simp] theorem eval_newL {C : Calls} {σ : Env} {st : Store} : eval C (Ex.newL e) σ st = ((eval C e σ st).bind fun v s1 => match v with
    | .d (.lst xs) => .ok (.ref s1.length) (s1 ++ [.lst xs])
    | _ => .bad) := rfl
set_option autoImplicit true in
@[simp] theorem eval_newD {C : Calls} {σ : Env} {st : Store} : eval C (Ex.newD) σ st = (.ok (.ref st.length) (st ++ [.dic []])) := rfl
set_option autoImplicit true in
@[simp] theorem eval_newDP {C : Calls} {σ : Env} {st : Store} : eval C (Ex.newDP e) σ st = ((eval C e σ st).bind fun v s1 => match v with
    | .d (.lst xs) => match mergeP [] xs with
      | some kvs => .ok (.ref s1.length) (s1 ++ [.dic kvs])
      | none => .bad
    | _ => .bad) := rfl
set_option autoImplicit true in
@[simp] theorem eval_newDd {C : Calls} {σ : Env} {st : Store} : eval C (Ex.newDd es) σ st = ((evals C es σ st).bind fun us s1 => (optR (asDs us) s1).bind fun ds s2 => match mergeF [] ds with
    | some kvs => .ok (.ref s2.length) (s2 ++ [.dic kvs])
    | none => .bad) := rfl
set_option autoImplicit true in
@[simp] theorem eval_frz {C : Calls} {σ : Env} {st : Store} : eval C (Ex.frz e) σ st = ((eval C e σ st).bind fun v s1 => match v with
    | .ref n => match s1[n]? with
      | some (.lst xs) => .ok (.d (.lst xs)) (s1.set n .dead)
      | _ => .bad
    | _ => .bad) := rfl
set_option autoImplicit true in
@[simp] theorem eval_frzT {C : Calls} {σ : Env} {st : Store} : eval C (Ex.frzT e) σ st = ((eval C e σ st).bind fun v s1 => match v with
    | .ref n => if st.length ≤ n then match s1[n]? with
      | some (.lst xs) => .ok (.d (.lst xs)) (s1.take st.length)
      | _ => .bad
      else .bad
    | _ => .bad) := rfl
set_option autoImplicit true in
@[simp] theorem eval_bin {C : Calls} {σ : Env} {st : Store} : eval C (Ex.bin o a b) σ st = ((eval C a σ st).bind fun x s1 => (eval C b σ s1).bind fun y s2 => (optR (deref s2 x) s2).bind fun p s3 => (optR (deref s2 y) s3).bind fun q s4 => (optR (D.bin o p q) s4).bind fun r s5 => .ok (.d r) s5) := rfl
set_option autoImplicit true in
@[simp] theorem eval_neg {C : Calls} {σ : Env} {st : Store} : eval C (Ex.neg a) σ st = ((eval C a σ st).bind fun x s1 => (optR (asI x) s1).bind fun i s2 => .ok (.d (.int (-i))) s2) := rfl
set_option autoImplicit true in
@[simp] theorem eval_cmp {C : Calls} {σ : Env} {st : Store} : eval C (Ex.cmp o a b) σ st = ((eval C a σ st).bind fun x s1 => (eval C b σ s1).bind fun y s2 => (optR (cmpV o s2 x y) s2).bind fun r s3 => .ok (.d (.bool r)) s3) := rfl
set_option autoImplicit true in
@[simp] theorem eval_chain {C : Calls} {σ : Env} {st : Store} : eval C (Ex.chain o o' a b c) σ st = ((eval C a σ st).bind fun x s1 => (eval C b σ s1).bind fun y s2 => (optR (cmpV o s2 x y) s2).bind fun r s3 =>
      if r then (eval C c σ s3).bind fun z s4 => (optR (cmpV o' s4 y z) s4).bind fun q s5 => .ok (.d (.bool q)) s5 else .ok (.d (.bool false)) s3) := rfl
set_option autoImplicit true in
@[simp] theorem eval_and {C : Calls} {σ : Env} {st : Store} : eval C (Ex.and a b) σ st = ((eval C a σ st).bind fun x s1 => (optR (asB x) s1).bind fun c s2 => if c then eval C b σ s2 else .ok (.d (.bool false)) s2) := rfl
set_option autoImplicit true in
@[simp] theorem eval_or {C : Calls} {σ : Env} {st : Store} : eval C (Ex.or a b) σ st = ((eval C a σ st).bind fun x s1 => (optR (asB x) s1).bind fun c s2 => if c then .ok (.d (.bool true)) s2 else eval C b σ s2) := rfl
set_option autoImplicit true in
@[simp] theorem eval_not {C : Calls} {σ : Env} {st : Store} : eval C (Ex.not a) σ st = ((eval C a σ st).bind fun x s1 => (optR (asB x) s1).bind fun c s2 => .ok (.d (.bool (!c))) s2) := rfl
set_option autoImplicit true in
@[simp] theorem eval_ite {C : Calls} {σ : Env} {st : Store} : eval C (Ex.ite c a b) σ st = ((eval C c σ st).bind fun x s1 => (optR (asB x) s1).bind fun c s2 => if c then eval C a σ s2 else eval C b σ s2) := rfl
set_option autoImplicit true in
@[simp] theorem eval_idx {C : Calls} {σ : Env} {st : Store} : eval C (Ex.idx a b) σ st = ((eval C a σ st).bind fun x s1 => (eval C b σ s1).bind fun y s2 => (optR (indexV s2 x y) s2).bind fun r s3 => .ok (.d r) s3) := rfl
set_option autoImplicit true in
@[simp] theorem eval_sli {C : Calls} {σ : Env} {st : Store} : eval C (Ex.sli a lo hi) σ st = ((eval C a σ st).bind fun x s1 => (evalO C lo σ s1).bind fun l s2 => (evalO C hi σ s2).bind fun h s3 => (optR (deref s3 x) s3).bind fun p s4 => (optR (p.slice l h) s4).bind fun r s5 => .ok (.d r) s5) := rfl
set_option autoImplicit true in
@[simp] theorem eval_call {C : Calls} {σ : Env} {st : Store} : eval C (Ex.call f es) σ st = ((evals C es σ st).bind fun vs s1 => C f vs s1) := rfl
set_option autoImplicit true in
@[simp] theorem eval_callP {C : Calls} {σ : Env} {st : Store} : eval C (Ex.callP f es perm) σ st = ((evals C es σ st).bind fun vs s1 => C f (perm.filterMap fun i => vs[i]?) s1) := rfl
set_option autoImplicit true in
@[simp] theorem eval_blt {C : Calls} {σ : Env} {st : Store} : eval C (Ex.blt f es) σ st = ((evals C es σ st).bind fun vs s1 => bltV f vs s1) := rfl
set_option autoImplicit true in
@[simp] theorem eval_mth {C : Calls} {σ : Env} {st : Store} : eval C (Ex.mth m o es) σ st = ((eval C o σ st).bind fun x s1 => if mthOk m x s1 then (evals C es σ s1).bind fun vs s2 => mthV m x vs s2 else .bad) := rfl
set_option autoImplicit true in
@[simp] theorem eval_isi {C : Calls} {σ : Env} {st : Store} : eval C (Ex.isi e ts) σ st = ((eval C e σ st).bind fun x s1 => (optR (deref s1 x) s1).bind fun p s2 => (optR (isiV ts p) s2).bind fun r s3 => .ok (.d r) s3) := rfl
set_option autoImplicit true in
@[simp] theorem eval_fs {C : Calls} {σ : Env} {st : Store} : eval C (Ex.fs es) σ st = ((evals C es σ st).bind fun vs s1 => (optR (asDs vs) s1).bind fun ds s2 => (optR (D.strs ds) s2).bind fun ys s3 => if (ys.map (·.length)).sum ≤ LIM then .ok (.d (.str (joinS "" ys))) s3 else .bad) := rfl
set_option autoImplicit true in
@[simp] theorem eval_kd {C : Calls} {σ : Env} {st : Store} : eval C (Ex.kd o kvs e) σ st = ((eval C e σ st).bind fun x s1 => (optR (kdV o kvs x) s1).bind fun r s2 => .ok (.d r) s2) := rfl
set_option autoImplicit true in
@[simp] theorem eval_rev {C : Calls} {σ : Env} {st : Store} : eval C (Ex.rev e) σ st = ((eval C e σ st).bind fun x s1 => (optR (deref s1 x) s1).bind fun p s2 => (optR (revV p) s2).bind fun r s3 => .ok (.d r) s3) := rfl
set_option autoImplicit true in
@[simp] theorem eval_comp {C : Calls} {σ : Env} {st : Store} : eval C (Ex.comp elt tg it cs) σ st = ((eval C it σ st).bind fun x s1 => (optR (asD x) s1).bind fun p s2 => (optR p.seq s2).bind fun xs s3 =>
      (compL (compStep (eval C elt) (conds C cs) tg (wipe σ tg.slots)) xs s3).bind fun ys s8 => .ok (.d (.lst ys)) s8) := rfl
set_option autoImplicit true in
@[simp] theorem eval_newI {C : Calls} {σ : Env} {st : Store} : eval C (Ex.newI c) σ st = (pushO st (.inst c [])) := rfl
set_option autoImplicit true in
@[simp] theorem eval_newO {C : Calls} {σ : Env} {st : Store} : eval C (Ex.newO e) σ st = ((eval C e σ st).bind fun v s1 => match v with
    | .d (.lst xs) => pushO s1 (.lst xs)
    | _ => .bad) := rfl
set_option autoImplicit true in
@[simp] theorem eval_newOD {C : Calls} {σ : Env} {st : Store} : eval C (Ex.newOD) σ st = (pushO st (.dic [])) := rfl
set_option autoImplicit true in
@[simp] theorem eval_fld {C : Calls} {σ : Env} {st : Store} : eval C (Ex.fld c o f) σ st = ((eval C o σ st).bind fun x s1 => (optR (fldV s1 x c f) s1).bind fun r s2 => .ok (.d r) s2) := rfl
set_option autoImplicit true in
@[simp] theorem eval_meth {C : Calls} {σ : Env} {st : Store} : eval C (Ex.meth c m o es) σ st = ((eval C o σ st).bind fun x s1 => if methOk s1 x c m then (evals C es σ s1).bind fun vs s2 => C (c ++ "." ++ m) (x :: vs) s2 else .bad) := rfl
set_option autoImplicit true in
@[simp] theorem eval_oq {C : Calls} {σ : Env} {st : Store} : eval C (Ex.oq q o es) σ st = ((eval C o σ st).bind fun x s1 => (evals C es σ s1).bind fun vs s2 => (optR (oqV q s2 x vs) s2).bind fun r s3 => .ok (.d r) s3) := rfl
set_option autoImplicit true in
@[simp] theorem eval_oin {C : Calls} {σ : Env} {st : Store} : eval C (Ex.oin b k o) σ st = ((eval C k σ st).bind fun y s1 => (eval C o σ s1).bind fun x s2 => (optR (oinV s2 y x) s2).bind fun r s3 => .ok (.d (.bool (r != b))) s3) := rfl
set_option autoImplicit true in
@[simp] theorem eval_om {C : Calls} {σ : Env} {st : Store} : eval C (Ex.om m o es) σ st = ((eval C o σ st).bind fun x s1 => if omOk s1 x then (evals C es σ s1).bind fun vs s2 => omV m s2 x vs else .bad) := rfl
set_option autoImplicit true in
@[simp] theorem eval_dkeys {C : Calls} {σ : Env} {st : Store} : eval C (Ex.dkeys e) σ st = ((eval C e σ st).bind fun x s1 => (optR (dkeysV s1 x) s1).bind fun r s2 => .ok (.d r) s2) := rfl
set_option autoImplicit true in
@[simp] theorem eval_nn {C : Calls} {σ : Env} {st : Store} : eval C (Ex.nn e) σ st = ((eval C e σ st).bind fun x s1 => (optR (nnV s1 x) s1).bind fun r s2 => .ok (.d r) s2) := rfl
set_option autoImplicit true in
@[simp] theorem eval_xfld {C : Calls} {σ : Env} {st : Store} : eval C (Ex.xfld e f) σ st = ((eval C e σ st).bind fun x s1 => (optR (xfldV f x) s1).bind fun r s2 => .ok (.d r) s2) := rfl
set_option autoImplicit true in
@[simp] theorem eval_kdd {C : Calls} {σ : Env} {st : Store} : eval C (Ex.kdd kvs e f) σ st = ((eval C e σ st).bind fun x s1 => (eval C f σ s1).bind fun y s2 => (optR (kddV kvs x y) s2).bind fun r s3 => .ok (.d r) s3) := rfl
set_option autoImplicit true in
@[simp] theorem eval_anyQ {C : Calls} {σ : Env} {st : Store} : eval C (Ex.anyQ q e es) σ st = ((eval C e σ st).bind fun x s1 => (evals C es σ s1).bind fun vs s2 => (optR (anyV q s2 x vs) s2).bind fun r s3 => .ok (.d r) s3) := rfl
set_option autoImplicit true in
@[simp] theorem eval_isx {C : Calls} {σ : Env} {st : Store} : eval C (Ex.isx e tb) σ st = ((eval C e σ st).bind fun x s1 => (optR (isxV tb x) s1).bind fun r s2 => .ok (.d r) s2) := rfl
set_option autoImplicit true in
@[simp] theorem eval_newX {C : Calls} {σ : Env} {st : Store} : eval C (Ex.newX c f e) σ st = ((eval C e σ st).bind fun x s1 => (optR (asD x) s1).bind fun d s2 => .ok (.d (exnOf c [(f, d)])) s2) := rfl
set_option autoImplicit true in
@[simp] theorem evals_nil {C : Calls} {σ : Env} {st : Store} : evals C ([]) σ st = (.ok [] st) := rfl
set_option autoImplicit true in
@[simp] theorem evals_cons {C : Calls} {σ : Env} {st : Store} : evals C (e :: es) σ st = ((eval C e σ st).bind fun v s1 => (evals C es σ s1).bind fun vs s2 => .ok (v :: vs) s2) := rfl
set_option autoImplicit true in
@[simp] theorem evalO_none {C : Calls} {σ : Env} {st : Store} : evalO C (none) σ st = (.ok none st) := rfl
set_option autoImplicit true in
@[simp] theorem evalO_some {C : Calls} {σ : Env} {st : Store} : evalO C (some e) σ st = ((eval C e σ st).bind fun v s1 => (optR (asI v) s1).bind fun i s2 => .ok (some i) s2) := rfl
set_option autoImplicit true in
@[simp] theorem conds_nil {C : Calls} {σ : Env} {st : Store} : conds C ([]) σ st = (.ok true st) := rfl
set_option autoImplicit true in
@[simp] theorem conds_cons {C : Calls} {σ : Env} {st : Store} : conds C (e :: es) σ st = ((eval C e σ st).bind fun v s1 => (optR (asB v) s1).bind fun c s2 => if c then conds C es σ s2 else .ok false s2) := rfl
set_option autoImplicit true in
@[simp] theorem exec_asg {C : Calls} {σ : Env} {st : Store} : exec C (Stm.asg t e) σ st = ((eval C e σ st).bind fun v s1 => (optR (t.putV v σ) s1).bind fun σ1 s2 => .ok (.nx σ1) s2) := rfl
set_option autoImplicit true in
@[simp] theorem exec_par {C : Calls} {σ : Env} {st : Store} : exec C (Stm.par i j a b) σ st = ((eval C a σ st).bind fun x s1 => (eval C b σ s1).bind fun y s2 => .ok (.nx ((σ.set i (some x)).set j (some y))) s2) := rfl
set_option autoImplicit true in
@[simp] theorem exec_set {C : Calls} {σ : Env} {st : Store} : exec C (Stm.set o i e) σ st = ((eval C e σ st).bind fun v s1 => (eval C o σ s1).bind fun x s2 => (eval C i σ s2).bind fun k s3 => (optR (asD v) s3).bind fun d s4 => (optR (setV x k d s4) s4).bind fun s5 _ => .ok (.nx σ) s5) := rfl
set_option autoImplicit true in
@[simp] theorem exec_ex {C : Calls} {σ : Env} {st : Store} : exec C (Stm.ex e) σ st = ((eval C e σ st).bind fun _ s1 => .ok (.nx σ) s1) := rfl
set_option autoImplicit true in
@[simp] theorem exec_ret {C : Calls} {σ : Env} {st : Store} : exec C (Stm.ret e) σ st = ((eval C e σ st).bind fun v s1 => .ok (.ret v) s1) := rfl
set_option autoImplicit true in
@[simp] theorem exec_ite {C : Calls} {σ : Env} {st : Store} : exec C (Stm.ite c a b) σ st = ((eval C c σ st).bind fun x s1 => (optR (asB x) s1).bind fun c s2 => if c then execs C a σ s2 else execs C b σ s2) := rfl
set_option autoImplicit true in
@[simp] theorem exec_loop {C : Calls} {σ : Env} {st : Store} : exec C (Stm.loop t it body) σ st = ((eval C it σ st).bind fun x s1 => (optR (asD x) s1).bind fun p s2 => (optR p.seq s2).bind fun xs s3 => loopL t.putF (execs C body) xs σ s3) := rfl
set_option autoImplicit true in
@[simp] theorem exec_while {C : Calls} {σ : Env} {st : Store} : exec C (Stm.while c body) σ st = (whileU (condB (eval C c)) (execs C body) σ st) := rfl
set_option autoImplicit true in
@[simp] theorem exec_aug {C : Calls} {σ : Env} {st : Store} : exec C (Stm.aug i o e) σ st = (match σ[i]? with
    | some (some x) => (eval C e σ st).bind fun y s1 => (optR (asI x) s1).bind fun p s2 => (optR (asI y) s2).bind fun q s3 => (optR (augI o p q) s3).bind fun r s4 => .ok (.nx (σ.set i (some (.d (.int r))))) s4
    | _ => .bad) := rfl
set_option autoImplicit true in
@[simp] theorem exec_pass {C : Calls} {σ : Env} {st : Store} : exec C (Stm.pass) σ st = (.ok (.nx σ) st) := rfl
set_option autoImplicit true in
@[simp] theorem exec_brk {C : Calls} {σ : Env} {st : Store} : exec C (Stm.brk) σ st = (.ok (.brk σ) st) := rfl
set_option autoImplicit true in
@[simp] theorem exec_cnt {C : Calls} {σ : Env} {st : Store} : exec C (Stm.cnt) σ st = (.ok (.cnt σ) st) := rfl
set_option autoImplicit true in
@[simp] theorem exec_never {C : Calls} {σ : Env} {st : Store} : exec C (Stm.never) σ st = (.bad) := rfl
set_option autoImplicit true in
@[simp] theorem exec_asgX {C : Calls} {σ : Env} {st : Store} : exec C (Stm.asgX t e) σ st = (catchX (evalX C e σ st) σ fun v s1 => (optR (t.putV v σ) s1).bind fun σ1 s2 => .ok (.nx σ1) s2) := rfl
set_option autoImplicit true in
@[simp] theorem exec_exX {C : Calls} {σ : Env} {st : Store} : exec C (Stm.exX e) σ st = (catchX (evalX C e σ st) σ fun _ s1 => .ok (.nx σ) s1) := rfl
set_option autoImplicit true in
@[simp] theorem exec_retX {C : Calls} {σ : Env} {st : Store} : exec C (Stm.retX e) σ st = (catchX (evalX C e σ st) σ fun v s1 => .ok (.ret v) s1) := rfl
set_option autoImplicit true in
@[simp] theorem exec_raise {C : Calls} {σ : Env} {st : Store} : exec C (Stm.raise c) σ st = (.ok (.thr c [] σ) st) := rfl
set_option autoImplicit true in
@[simp] theorem exec_tryX {C : Calls} {σ : Env} {st : Store} : exec C (Stm.tryX body c h) σ st = ((execs C body σ st).bind fun o s1 => match o with
    | .thr c' as σ1 => if c' = c then (execs C h σ1 s1).bind noThr else .bad
    | o => .ok o s1) := rfl
set_option autoImplicit true in
@[simp] theorem exec_tryX2 {C : Calls} {σ : Env} {st : Store} : exec C (Stm.tryX2 body c h c2 h2) σ st = ((execs C body σ st).bind fun o s1 => match o with
    | .thr c' as σ1 => if c' = c then (execs C h σ1 s1).bind noThr else if c' = c2 then (execs C h2 σ1 s1).bind noThr else .bad
    | o => .ok o s1) := rfl
set_option autoImplicit true in
@[simp] theorem exec_setf {C : Calls} {σ : Env} {st : Store} : exec C (Stm.setf c o f e) σ st = ((eval C e σ st).bind fun v s1 => (eval C o σ s1).bind fun x s2 => (optR (asD v) s2).bind fun d s3 => (optR (setFV s3 x c f d) s3).bind fun s4 _ => .ok (.nx σ) s4) := rfl
set_option autoImplicit true in
@[simp] theorem exec_augf {C : Calls} {σ : Env} {st : Store} : exec C (Stm.augf c o f p e) σ st = ((eval C o σ st).bind fun x s1 => (optR (fldV s1 x c f) s1).bind fun a s2 => (optR (asI (.d a)) s2).bind fun i s3 => (eval C e σ s3).bind fun y s4 => (optR (asI y) s4).bind fun j s5 => (optR (augI p i j) s5).bind fun r s6 => (optR (setFV s6 x c f (.int r)) s6).bind fun s7 _ => .ok (.nx σ) s7) := rfl
set_option autoImplicit true in
@[simp] theorem exec_asgO {C : Calls} {σ : Env} {st : Store} : exec C (Stm.asgO t e) σ st = ((eval C e σ st).bind fun v s1 => (optR (lstO s1 v) s1).bind fun d s2 => (optR (t.put d σ) s2).bind fun σ1 s3 => .ok (.nx σ1) s3) := rfl
set_option autoImplicit true in
@[simp] theorem exec_setO {C : Calls} {σ : Env} {st : Store} : exec C (Stm.setO o i e) σ st = ((eval C e σ st).bind fun v s1 => (eval C o σ s1).bind fun x s2 => (eval C i σ s2).bind fun k s3 => (optR (asD v) s3).bind fun d s4 => (optR (setOV s4 x k d) s4).bind fun s5 _ => .ok (.nx σ) s5) := rfl
set_option autoImplicit true in
@[simp] theorem exec_raiseA {C : Calls} {σ : Env} {st : Store} : exec C (Stm.raiseA c f e) σ st = ((eval C e σ st).bind fun x s1 => (optR (asD x) s1).bind fun d s2 => .ok (.thr c [(f, d)] σ) s2) := rfl
set_option autoImplicit true in
@[simp] theorem exec_tryK {C : Calls} {σ : Env} {st : Store} : exec C (Stm.tryK body cs i j cs2 i2 j2) σ st = ((execs C body σ st).bind fun o s1 => match o with
    | .thr c' as σ1 => if c' ∈ cs then .ok (.nx ((σ1.set j (some (.d (exnOf c' as)))).set i none)) s1 else if c' ∈ cs2 then .ok (.nx ((σ1.set j2 (some (.d (exnOf c' as)))).set i2 none)) s1 else .bad
    | o => .ok o s1) := rfl
set_option autoImplicit true in
@[simp] theorem exec_tryF {C : Calls} {σ : Env} {st : Store} : exec C (Stm.tryF body c i f) σ st = ((execs C body σ st).bind fun o s1 => match o with
    | .thr c' as σ1 => if c' = c then (optR (lookF f as) s1).bind fun v s2 => .ok (.ret (.d v)) s2 else .bad
    | o => .ok o s1) := rfl
set_option autoImplicit true in
@[simp] theorem evalX_p {C : Calls} {σ : Env} {st : Store} : evalX C (EX.p e) σ st = noexc (eval C e σ st) := rfl
set_option autoImplicit true in
@[simp] theorem evalX_call {C : Calls} {σ : Env} {st : Store} : evalX C (EX.call f es) σ st = ((evalXs C es σ st).bind fun vs s1 => C f vs s1) := rfl
set_option autoImplicit true in
@[simp] theorem evalX_callP {C : Calls} {σ : Env} {st : Store} : evalX C (EX.callP f es perm) σ st = ((evalXs C es σ st).bind fun vs s1 => C f (perm.filterMap fun i => vs[i]?) s1) := rfl
set_option autoImplicit true in
@[simp] theorem evalX_ite {C : Calls} {σ : Env} {st : Store} : evalX C (EX.ite c a b) σ st = ((noexc (eval C c σ st)).bind fun x s1 => (optR (asB x) s1).bind fun c s2 => if c then evalX C a σ s2 else evalX C b σ s2) := rfl
set_option autoImplicit true in
@[simp] theorem evalX_meth {C : Calls} {σ : Env} {st : Store} : evalX C (EX.meth c m o es) σ st = ((noexc (eval C o σ st)).bind fun x s1 => if methOk s1 x c m then (evalXs C es σ s1).bind fun vs s2 => C (c ++ "." ++ m) (x :: vs) s2 else .bad) := rfl
set_option autoImplicit true in
@[simp] theorem evalX_methN {C : Calls} {σ : Env} {st : Store} : evalX C (EX.methN c m o es) σ st = ((noexc (eval C o σ st)).bind fun x s1 => if methOk s1 x c m then (evalXs C es σ s1).bind fun vs s2 => noexc (C (c ++ "." ++ m) (x :: vs) s2) else .bad) := rfl
set_option autoImplicit true in
@[simp] theorem evalXs_nil {C : Calls} {σ : Env} {st : Store} : evalXs C ([]) σ st = (.ok [] st) := rfl
set_option autoImplicit true in
@[simp] theorem evalXs_cons {C : Calls} {σ : Env} {st : Store} : evalXs C (e :: es) σ st = ((evalX C e σ st).bind fun v s1 => (evalXs C es σ s1).bind fun vs s2 => .ok (v :: vs) s2) := rfl
set_option autoImplicit true in
@[simp] theorem execs_nil {C : Calls} {σ : Env} {st : Store} : execs C ([]) σ st = (.ok (.nx σ) st) := rfl
set_option autoImplicit true in
@[simp] theorem execs_cons {C : Calls} {σ : Env} {st : Store} : execs C (s :: r) σ st = ((exec C s σ st).bind fun o s1 => match o with
    | .nx σ1 => execs C r σ1 s1
    | o => .ok o s1) := rfl
/-- what a def leaves: its own cells are dropped, but one that it hands back -/
def leave (m : Nat) (v : Val) (st : Store) : Res Val :=
  match v with
  | .d x => .ok (.d x) (st.take m)
  | .ref n => if n < m then .ok (.ref n) (st.take m) else match st[n]? with
    | some (.lst xs) => .ok (.ref m) (st.take m ++ [.lst xs])
    | some (.dic kvs) => .ok (.ref m) (st.take m ++ [.dic kvs])
    | _ => .bad
noncomputable def runFn (C : Calls) (f : Fn) (vs : List Val) (st : Store) : Res Val :=
  if vs.length = f.pars ∧ f.pars ≤ f.many then
    (noexc (execs C f.body (vs.map some ++ List.replicate (f.many - f.pars) none) st)).bind fun o s1 => match o with
      | .nx _ => leave st.length (.d .non) s1
      | .ret v => leave st.length v s1
      | .thr c as _ => .exc c as (s1.take st.length)
      | _ => .bad
  else .bad
abbrev Tab := String → Option Fn
noncomputable def callN (T : Tab) : Nat → Calls
  | 0, _, _, _ => .bad
  | n + 1, f, vs, st => match T f with
    | some fn => runFn (callN T n) fn vs st
    | none => .bad
theorem callN_run {T : Tab} {f : String} {fn : Fn} (h : T f = some fn) (n : Nat) (vs : List Val) (st : Store) : callN T (n + 1) f vs st = runFn (callN T n) fn vs st := by rw [callN, h]
/-- a table by a list -/
def tabOf (l : List (String × Fn)) : Tab := fun s => l.lookup s
theorem tab_mem {l : List (String × Fn)} {f : String} {fn : Fn} (h : tabOf l f = some fn) : (f, fn) ∈ l := by
  unfold tabOf at h
  induction l with
  | nil => cases h
  | cons p l ih =>
    obtain ⟨g, gn⟩ := p
    simp only [List.lookup] at h
    split at h
    · rename_i e
      cases h
      rw [eq_of_beq e]
      exact List.mem_cons_self
    · exact List.mem_cons_of_mem _ (ih h)
end
end Ir

set_option Elab.async false
namespace Snd
open PySem PySem.Spec PyProof.Rows L2
/-! ### what stands for what -/
/-- the cells' addresses by number; addresses that are kept for a list that is being made -/
structure Rho where
  ix : List (Option Addr)
  res : List Addr := []
  ob : List Addr := []
def Rho.own (ρ : Rho) (a : Addr) : Prop := some a ∈ ρ.ix ∨ a ∈ ρ.res ∨ a ∈ ρ.ob
def TpAt (ρ : Rho) (K : PySem.W.Frag) (H : Hp) (a : Addr) (ys : List V) : Prop :=
  (Rd H a (.tup ys) ∧ ¬ ρ.own a) ∨
    ∃ (o : Obj) (its : Array Value) (n : Nat), K.lookup a = some o ∧ o.cls = .type "tuple" ∧ o.data = .seq its n ∧ its.size ≤ sizeLine ∧ Vals ys its.toList
theorem TpAt.sq {ρ : Rho} {K : PySem.W.Frag} {H : Hp} {a : Addr} {ys : List V} (h : TpAt ρ K H a ys) : SqT K H a ys := by
  rcases h with ⟨h, _⟩ | h
  · exact .inl h
  · exact .inr h
def LrAt (ρ : Rho) (K : PySem.W.Frag) (H : Hp) (a : Addr) (ys : List V) : Prop :=
  ((∃ o, H a = some (.frz o (.lst ys))) ∧ ¬ ρ.own a) ∨
    ∃ (o : Obj) (its : Array Value) (n : Nat), K.lookup a = some o ∧ o.cls = .type "list" ∧ o.dict = none ∧ o.data = .seq its n ∧ its.size ≤ sizeLine ∧ Vals ys its.toList
theorem LrAt.sq {ρ : Rho} {K : PySem.W.Frag} {H : Hp} {a : Addr} {ys : List V} (h : LrAt ρ K H a ys) : SqL K H a ys := by
  rcases h with ⟨h, _⟩ | h
  · exact .inl (.inr h)
  · exact .inr h
/-- an error that is kept: of the class at C, its dict at d -/
def ExK (C : Addr) (d : Option Addr) (a : Addr) : HO := .ext fun h => ∃ (oe : Obj) (vs : Array Value), h.get? a = some oe ∧ oe.cls = .ref C ∧ oe.dict = d ∧ oe.data = .fields vs
/-- an error's dict -/
def XD (ρ : Rho) (H : Hp) (d : Option Addr) (gs : List (Str × V)) : Prop := (d = none ∧ gs = []) ∨ ∃ dd, d = some dd ∧ H dd = some (.xd gs) ∧ ¬ ρ.own dd ∧ gs ≠ []
def XnAt (ρ : Rho) (K : PySem.W.Frag) (H : Hp) (c : String) (ns : List String) (a : Addr) (ys : List V) : Prop :=
  ∃ C d, PySem.W.nsIn K mainGlobals (Str.ofString c) = some (some (.ref C)) ∧ H a = some (ExK C d a) ∧ ¬ ρ.own a ∧ XD ρ H d ((ns.map Str.ofString).zip ys)
mutual
inductive RD (ρ : Rho) (K : PySem.W.Frag) (H : Hp) : Ir.D → V → Prop
  | non : RD ρ K H .non .non
  | bool (b : Bool) : RD ρ K H (.bool b) (.bl b)
  | int (i : Int) : RD ρ K H (.int i) (.int i)
  | str (s : String) : RD ρ K H (.str s) (.str (Str.ofString s))
  | tup {a : Addr} {xs : List Ir.D} {ys : List V} : TpAt ρ K H a ys → ys.length ≤ sizeLine → RDs ρ K H xs ys → RD ρ K H (.tup xs) (.ref a)
  | lst {a : Addr} {xs : List Ir.D} {ys : List V} : H a = some (.lst ys) → ¬ ρ.own a → ys.length ≤ sizeLine → RDs ρ K H xs ys → RD ρ K H (.lst xs) (.ref a)
  | ro {a : Addr} {xs : List Ir.D} {ys : List V} : LrAt ρ K H a ys → ys.length ≤ sizeLine → RDs ρ K H xs ys → RD ρ K H (.ro xs) (.ref a)
  | oid {n : Nat} {a : Addr} : ρ.ob[n]? = some a → RD ρ K H (.oid n) (.ref a)
  | fn {f : String} {a : Addr} : PySem.W.nsIn K mainGlobals (Str.ofString f) = some (some (.ref a)) → RD ρ K H (.fn f) (.ref a)
  | exn {c : String} {ns : List String} {as : List Ir.D} {a : Addr} {ys : List V} : XnAt ρ K H c ns a ys → ns.length = ys.length → RDs ρ K H as ys → RD ρ K H (.exn c ns as) (.ref a)
inductive RDs (ρ : Rho) (K : PySem.W.Frag) (H : Hp) : List Ir.D → List V → Prop
  | nil : RDs ρ K H [] []
  | cons {x : Ir.D} {xs : List Ir.D} {y : V} {ys : List V} : RD ρ K H x y → RDs ρ K H xs ys → RDs ρ K H (x :: xs) (y :: ys)
end
structure Ext (ρ : Rho) (H : Hp) (ρ' : Rho) (H' : Hp) : Prop where
  fr : ∀ a o, H a = some o → some a ∉ ρ.ix → a ∉ ρ.ob → H' a = some o
  nw : ∀ a, ρ'.own a → ρ.own a ∨ H a = none
  len : ρ.ix.length ≤ ρ'.ix.length
  ix : ∀ (n : Nat) (a : Addr), ρ'.ix[n]? = some (some a) → n < ρ.ix.length → ρ.ix[n]? = some (some a)
  rs : ∀ a ∈ ρ.res, a ∈ ρ'.res
  rn : ∀ a ∈ ρ.res, some a ∉ ρ.ix → a ∉ ρ.ob → some a ∉ ρ'.ix ∧ a ∉ ρ'.ob
  al : ∀ a, H' a = none → H a = none
  ob : ∀ (n : Nat) (a : Addr), ρ.ob[n]? = some a → ρ'.ob[n]? = some a
theorem Ext.refl (ρ : Rho) (H : Hp) : Ext ρ H ρ H := ⟨fun _ _ h _ _ => h, fun _ h => .inl h, Nat.le_refl _, fun _ _ h _ => h, fun _ h => h, fun _ _ h k => ⟨h, k⟩, fun _ h => h, fun _ _ h => h⟩
theorem own_no {ρ : Rho} {a : Addr} (h : ¬ ρ.own a) : some a ∉ ρ.ix := fun z => h (.inl z)
theorem own_nob {ρ : Rho} {a : Addr} (h : ¬ ρ.own a) : a ∉ ρ.ob := fun z => h (.inr (.inr z))
theorem Ext.notin {ρ ρ' : Rho} {H H' : Hp} (e : Ext ρ H ρ' H') {a : Addr} {o : HO} (h : H a = some o) (n : ¬ ρ.own a) : ¬ ρ'.own a := fun z => by
  rcases e.nw a z with q | q
  · exact n q
  · rw [h] at q; cases q
theorem Ext.notix {ρ ρ' : Rho} {H H' : Hp} (e : Ext ρ H ρ' H') {a : Addr} {o : HO} (h : H a = some o) (n : some a ∉ ρ.ix) (m : a ∉ ρ.ob) : some a ∉ ρ'.ix ∧ a ∉ ρ'.ob := by
  by_cases hr : a ∈ ρ.res
  · exact e.rn a hr n m
  · have q := e.notin h (fun z => z.elim n fun z => z.elim hr m)
    exact ⟨own_no q, own_nob q⟩
theorem Ext.trans {ρ ρ1 ρ2 : Rho} {H H1 H2 : Hp} (e : Ext ρ H ρ1 H1) (f : Ext ρ1 H1 ρ2 H2) : Ext ρ H ρ2 H2 where
  fr := fun a o h n m => f.fr a o (e.fr a o h n m) (e.notix h n m).1 (e.notix h n m).2
  nw := fun a h => by
    rcases f.nw a h with q | q
    · exact e.nw a q
    · by_cases ha : some a ∈ ρ.ix
      · exact .inl (.inl ha)
      · by_cases hb : a ∈ ρ.ob
        · exact .inl (.inr (.inr hb))
        · cases hh : H a with
          | none => exact .inr rfl
          | some o => rw [e.fr a o hh ha hb] at q; cases q
  len := Nat.le_trans e.len f.len
  ix := fun n a h hn => e.ix n a (f.ix n a h (Nat.lt_of_lt_of_le hn e.len)) hn
  rs := fun a h => f.rs a (e.rs a h)
  rn := fun a h n m => f.rn a (e.rs a h) (e.rn a h n m).1 (e.rn a h n m).2
  al := fun a h => e.al a (f.al a h)
  ob := fun n a h => f.ob n a (e.ob n a h)
theorem upd_al {H : Hp} {p : Addr} {o : HO} (a : Addr) (h : upd H p o a = none) : H a = none := by
  by_cases e : a = p
  · subst e; rw [upd_same] at h; cases h
  · rw [upd_ne e] at h; exact h
theorem TpAt.mono {ρ ρ' : Rho} {K : PySem.W.Frag} {H H' : Hp} (e : Ext ρ H ρ' H') {a : Addr} {ys : List V} (h : TpAt ρ K H a ys) : TpAt ρ' K H' a ys := by
  rcases h with ⟨h, n⟩ | h
  · rcases h with h | ⟨o, h⟩
    · exact .inl ⟨.inl (e.fr _ _ h (own_no n) (own_nob n)), e.notin h n⟩
    · exact .inl ⟨.inr ⟨o, e.fr _ _ h (own_no n) (own_nob n)⟩, e.notin h n⟩
  · exact .inr h
theorem LrAt.mono {ρ ρ' : Rho} {K : PySem.W.Frag} {H H' : Hp} (e : Ext ρ H ρ' H') {a : Addr} {ys : List V} (h : LrAt ρ K H a ys) : LrAt ρ' K H' a ys := by
  rcases h with ⟨⟨o, h⟩, n⟩ | h
  · exact .inl ⟨⟨o, e.fr _ _ h (own_no n) (own_nob n)⟩, e.notin h n⟩
  · exact .inr h
theorem XD.mono {ρ ρ' : Rho} {H H' : Hp} (e : Ext ρ H ρ' H') {d : Option Addr} {gs : List (Str × V)} (h : XD ρ H d gs) : XD ρ' H' d gs := by
  rcases h with h | ⟨dd, h1, h2, h3, h5⟩
  · exact .inl h
  · exact .inr ⟨dd, h1, e.fr _ _ h2 (own_no h3) (own_nob h3), e.notin h2 h3, h5⟩
theorem XnAt.mono {ρ ρ' : Rho} {K : PySem.W.Frag} {H H' : Hp} (e : Ext ρ H ρ' H') {c : String} {ns : List String} {a : Addr} {ys : List V} (h : XnAt ρ K H c ns a ys) : XnAt ρ' K H' c ns a ys := by
  obtain ⟨C, d, h1, h2, h3, h4⟩ := h
  exact ⟨C, d, h1, e.fr _ _ h2 (own_no h3) (own_nob h3), e.notin h2 h3, h4.mono e⟩
mutual
theorem RD.mono {ρ ρ' : Rho} {K : PySem.W.Frag} {H H' : Hp} (e : Ext ρ H ρ' H') : ∀ {x : Ir.D} {v : V}, RD ρ K H x v → RD ρ' K H' x v
  | _, _, .non => .non
  | _, _, .bool b => .bool b
  | _, _, .int i => .int i
  | _, _, .str s => .str s
  | _, _, .tup h z r => .tup (h.mono e) z (RDs.mono e r)
  | _, _, .ro h z r => .ro (h.mono e) z (RDs.mono e r)
  | _, _, .lst h n z r => .lst (e.fr _ _ h (own_no n) (own_nob n)) (e.notin h n) z (RDs.mono e r)
  | _, _, .oid h => .oid (e.ob _ _ h)
  | _, _, .fn h => .fn h
  | _, _, .exn h z r => .exn (h.mono e) z (RDs.mono e r)
theorem RDs.mono {ρ ρ' : Rho} {K : PySem.W.Frag} {H H' : Hp} (e : Ext ρ H ρ' H') : ∀ {xs : List Ir.D} {vs : List V}, RDs ρ K H xs vs → RDs ρ' K H' xs vs
  | _, _, .nil => .nil
  | _, _, .cons h r => .cons (RD.mono e h) (RDs.mono e r)
end
section
variable {ρ : Rho} {K : PySem.W.Frag} {H : Hp}
theorem RDs.length : ∀ {xs : List Ir.D} {vs : List V}, RDs ρ K H xs vs → xs.length = vs.length
  | _, _, .nil => rfl
  | _, _, .cons _ r => congrArg (· + 1) r.length
theorem RDs.get : ∀ {xs : List Ir.D} {vs : List V} {i : Nat} {x : Ir.D}, RDs ρ K H xs vs → xs[i]? = some x → ∃ v, vs[i]? = some v ∧ RD ρ K H x v
  | _, _, _, _, .nil, h => by simp at h
  | _, _, 0, _, .cons h _, e => by simp at e; subst e; exact ⟨_, rfl, h⟩
  | _, _, i + 1, _, .cons _ r, e => by
    obtain ⟨v, h1, h2⟩ := RDs.get (i := i) r (by simpa using e)
    exact ⟨v, by simpa using h1, h2⟩
theorem RDs.append : ∀ {xs ys : List Ir.D} {vs ws : List V}, RDs ρ K H xs vs → RDs ρ K H ys ws → RDs ρ K H (xs ++ ys) (vs ++ ws)
  | _, _, _, _, .nil, s => s
  | _, _, _, _, .cons h r, s => .cons h (RDs.append r s)
theorem RDs.drop : ∀ (n : Nat) {xs : List Ir.D} {vs : List V}, RDs ρ K H xs vs → RDs ρ K H (xs.drop n) (vs.drop n)
  | 0, _, _, r => r
  | _ + 1, _, _, .nil => .nil
  | n + 1, _, _, .cons _ r => RDs.drop n r
theorem RDs.take : ∀ (n : Nat) {xs : List Ir.D} {vs : List V}, RDs ρ K H xs vs → RDs ρ K H (xs.take n) (vs.take n)
  | 0, _, _, _ => .nil
  | _ + 1, _, _, .nil => .nil
  | n + 1, _, _, .cons h r => .cons h (RDs.take n r)
theorem RDs.set {x : Ir.D} {v : V} (h : RD ρ K H x v) : ∀ (n : Nat) {xs : List Ir.D} {vs : List V}, RDs ρ K H xs vs → RDs ρ K H (xs.set n x) (vs.set n v)
  | _, _, _, .nil => .nil
  | 0, _, _, .cons _ r => .cons h r
  | n + 1, _, _, .cons q r => .cons q (RDs.set h n r)
end
def RV (ρ : Rho) (K : PySem.W.Frag) (H : Hp) : Ir.Val → V → Prop
  | .d x, v => RD ρ K H x v
  | .ref n, v => n < ρ.ix.length ∧ ∃ a, v = .ref a ∧ ∀ b, ρ.ix[n]? = some (some b) → b = a
theorem RV.mono {ρ ρ' : Rho} {K : PySem.W.Frag} {H H' : Hp} (e : Ext ρ H ρ' H') : ∀ {x : Ir.Val} {v : V}, RV ρ K H x v → RV ρ' K H' x v
  | .d _, _, h => RD.mono e h
  | .ref n, _, ⟨h1, a, h2, h3⟩ => ⟨Nat.lt_of_lt_of_le h1 e.len, a, h2, fun b q => h3 b (e.ix n b q h1)⟩
inductive RVs (ρ : Rho) (K : PySem.W.Frag) (H : Hp) : List Ir.Val → List V → Prop
  | nil : RVs ρ K H [] []
  | cons {x : Ir.Val} {xs : List Ir.Val} {y : V} {ys : List V} : RV ρ K H x y → RVs ρ K H xs ys → RVs ρ K H (x :: xs) (y :: ys)
theorem RVs.mono {ρ ρ' : Rho} {K : PySem.W.Frag} {H H' : Hp} (e : Ext ρ H ρ' H') : ∀ {xs : List Ir.Val} {vs : List V}, RVs ρ K H xs vs → RVs ρ' K H' xs vs
  | _, _, .nil => .nil
  | _, _, .cons h r => .cons (RV.mono e h) (RVs.mono e r)
theorem RVs.length {ρ : Rho} {K : PySem.W.Frag} {H : Hp} : ∀ {xs : List Ir.Val} {vs : List V}, RVs ρ K H xs vs → xs.length = vs.length
  | _, _, .nil => rfl
  | _, _, .cons _ r => congrArg (· + 1) r.length
theorem RVs.ds {ρ : Rho} {K : PySem.W.Frag} {H : Hp} : ∀ {xs : List Ir.Val} {vs : List V} {ds : List Ir.D}, RVs ρ K H xs vs → Ir.asDs xs = some ds → RDs ρ K H ds vs
  | _, _, _, .nil, h => by simp [Ir.asDs] at h; subst h; exact .nil
  | .d x :: xs, _, _, .cons h r, e => by
    simp only [Ir.asDs, Option.map_eq_some_iff] at e
    obtain ⟨ds, e1, e2⟩ := e
    subst e2
    exact .cons h (RVs.ds r e1)
  | .ref n :: xs, _, _, .cons h r, e => by simp [Ir.asDs] at e
def RK : Ir.D → Key → Prop
  | .int i, k => k = .inl i
  | .str s, k => k = .inr (Str.ofString s)
  | _, _ => False
inductive RKs (ρ : Rho) (K : PySem.W.Frag) (H : Hp) : List (Ir.D × Ir.D) → List (Key × V) → Prop
  | nil : RKs ρ K H [] []
  | cons {k v : Ir.D} {xs : List (Ir.D × Ir.D)} {k' : Key} {v' : V} {ys : List (Key × V)} : RK k k' → RD ρ K H v v' → RKs ρ K H xs ys → RKs ρ K H ((k, v) :: xs) ((k', v') :: ys)
theorem RKs.mono {ρ ρ' : Rho} {K : PySem.W.Frag} {H H' : Hp} (e : Ext ρ H ρ' H') : ∀ {xs : List (Ir.D × Ir.D)} {vs : List (Key × V)}, RKs ρ K H xs vs → RKs ρ' K H' xs vs
  | _, _, .nil => .nil
  | _, _, .cons h q r => .cons h (RD.mono e q) (RKs.mono e r)
theorem RKs.length {ρ : Rho} {K : PySem.W.Frag} {H : Hp} : ∀ {xs : List (Ir.D × Ir.D)} {vs : List (Key × V)}, RKs ρ K H xs vs → xs.length = vs.length
  | _, _, .nil => rfl
  | _, _, .cons _ _ r => congrArg (· + 1) r.length
def RC (ρ : Rho) (K : PySem.W.Frag) (H : Hp) (a : Addr) : Ir.Cell → Prop
  | .lst xs => ∃ ys, H a = some (.lst ys) ∧ ys.length ≤ sizeLine ∧ RDs ρ K H xs ys
  | .dic kvs => ∃ ks, H a = some (.dK ks) ∧ ks.length ≤ sizeLine ∧ RKs ρ K H kvs ks
  | .dead => False
  | .arena _ => False
/-- a class by its name -/
def CN (K : PySem.W.Frag) (c : String) (C : Addr) : Prop := PySem.W.nsIn K mainGlobals (Str.ofString c) = some (some (.ref C))
theorem CN.inj {K : PySem.W.Frag} {c : String} {C D : Addr} (h : CN K c C) (g : CN K c D) : C = D := by
  unfold CN at h g; rw [h] at g; cases g; rfl
inductive RFs (ρ : Rho) (K : PySem.W.Frag) (H : Hp) : List (String × Ir.D) → List (Str × V) → Prop
  | nil : RFs ρ K H [] []
  | cons {f : String} {x : Ir.D} {xs : List (String × Ir.D)} {y : V} {ys : List (Str × V)} : RD ρ K H x y → RFs ρ K H xs ys → RFs ρ K H ((f, x) :: xs) ((Str.ofString f, y) :: ys)
inductive RTk : List Ir.D → List Key → Prop
  | nil : RTk [] []
  | cons {x : Ir.D} {xs : List Ir.D} {y : Key} {ys : List Key} : RK x y → RTk xs ys → RTk (x :: xs) (y :: ys)
inductive RTs (ρ : Rho) (K : PySem.W.Frag) (H : Hp) : List (List Ir.D × Ir.D) → List (List Key × V) → Prop
  | nil : RTs ρ K H [] []
  | cons {k : List Ir.D} {v : Ir.D} {xs : List (List Ir.D × Ir.D)} {k' : List Key} {v' : V} {ys : List (List Key × V)} : RTk k k' → RD ρ K H v v' → RTs ρ K H xs ys → RTs ρ K H ((k, v) :: xs) ((k', v') :: ys)
/-- an object of the arena, at its address -/
def RO (ρ : Rho) (K : PySem.W.Frag) (H : Hp) (a : Addr) : Ir.Obj → Prop
  | .inst c fs => ∃ C dx gs, CN K c C ∧ H a = some (.ins C dx gs) ∧ RFs ρ K H fs gs
  | .lst xs => ∃ ys, H a = some (.lst ys) ∧ ys.length ≤ sizeLine ∧ RDs ρ K H xs ys
  | .dic kvs => ∃ ks, H a = some (.dK ks) ∧ ks.length ≤ sizeLine ∧ RKs ρ K H kvs ks
  | .dicT kvs => ∃ ks, H a = some (.dT ks) ∧ ks.length ≤ sizeLine ∧ RTs ρ K H kvs ks
theorem RFs.map {ρ ρ' : Rho} {K : PySem.W.Frag} {H H' : Hp} (w : ∀ {x : Ir.D} {v : V}, RD ρ K H x v → RD ρ' K H' x v) : ∀ {xs : List (String × Ir.D)} {vs : List (Str × V)}, RFs ρ K H xs vs → RFs ρ' K H' xs vs
  | _, _, .nil => .nil
  | _, _, .cons h r => .cons (w h) (RFs.map w r)
theorem RTs.map {ρ ρ' : Rho} {K : PySem.W.Frag} {H H' : Hp} (w : ∀ {x : Ir.D} {v : V}, RD ρ K H x v → RD ρ' K H' x v) : ∀ {xs : List (List Ir.D × Ir.D)} {vs : List (List Key × V)}, RTs ρ K H xs vs → RTs ρ' K H' xs vs
  | _, _, .nil => .nil
  | _, _, .cons k h r => .cons k (w h) (RTs.map w r)
theorem RKs.map {ρ ρ' : Rho} {K : PySem.W.Frag} {H H' : Hp} (w : ∀ {x : Ir.D} {v : V}, RD ρ K H x v → RD ρ' K H' x v) : ∀ {xs : List (Ir.D × Ir.D)} {vs : List (Key × V)}, RKs ρ K H xs vs → RKs ρ' K H' xs vs
  | _, _, .nil => .nil
  | _, _, .cons k h r => .cons k (w h) (RKs.map w r)
theorem RDs.map {ρ ρ' : Rho} {K : PySem.W.Frag} {H H' : Hp} (w : ∀ {x : Ir.D} {v : V}, RD ρ K H x v → RD ρ' K H' x v) : ∀ {xs : List Ir.D} {vs : List V}, RDs ρ K H xs vs → RDs ρ' K H' xs vs
  | _, _, .nil => .nil
  | _, _, .cons h r => .cons (w h) (RDs.map w r)
theorem RO.map {ρ ρ' : Rho} {K : PySem.W.Frag} {H H' : Hp} (w : ∀ {x : Ir.D} {v : V}, RD ρ K H x v → RD ρ' K H' x v) {a : Addr} {o : Ir.Obj} (s : H' a = H a) (h : RO ρ K H a o) : RO ρ' K H' a o := by
  cases o with
  | inst c fs => obtain ⟨C, dx, gs, h0, h1, h2⟩ := h; exact ⟨C, dx, gs, h0, s.trans h1, h2.map w⟩
  | lst xs => obtain ⟨ys, h1, h2, h3⟩ := h; exact ⟨ys, s.trans h1, h2, h3.map w⟩
  | dic xs => obtain ⟨ys, h1, h2, h3⟩ := h; exact ⟨ys, s.trans h1, h2, h3.map w⟩
  | dicT xs => obtain ⟨ys, h1, h2, h3⟩ := h; exact ⟨ys, s.trans h1, h2, h3.map w⟩
theorem RO.mono {ρ ρ' : Rho} {K : PySem.W.Frag} {H H' : Hp} (e : Ext ρ H ρ' H') {a : Addr} {o : Ir.Obj} (h : RO ρ K H a o) (s : H' a = H a) : RO ρ' K H' a o := h.map (fun h => RD.mono e h) s
theorem RO.some {ρ : Rho} {K : PySem.W.Frag} {H : Hp} {a : Addr} {o : Ir.Obj} (h : RO ρ K H a o) : ∃ u, H a = Option.some u ∧ Mut (Option.some u) := by
  cases o with
  | inst c fs => obtain ⟨C, dx, gs, h0, h1, h2⟩ := h; exact ⟨_, h1, trivial⟩
  | lst xs => obtain ⟨ys, h1, h2, h3⟩ := h; exact ⟨_, h1, trivial⟩
  | dic xs => obtain ⟨ys, h1, h2, h3⟩ := h; exact ⟨_, h1, trivial⟩
  | dicT xs => obtain ⟨ys, h1, h2, h3⟩ := h; exact ⟨_, h1, trivial⟩
/-- what is true of the arena -/
structure RA (ρ : Rho) (K : PySem.W.Frag) (st : Ir.Store) (H : Hp) : Prop where
  obj : ∀ os, Ir.arenaOf st = some os → ρ.ob.length = os.length ∧ ∀ (n : Nat) (a : Addr), ρ.ob[n]? = some a → ∃ o, os[n]? = some o ∧ RO ρ K H a o
  inj : ∀ (i j : Nat) (a : Addr), ρ.ob[i]? = some a → ρ.ob[j]? = some a → i = j
  kept : ∀ a ∈ ρ.ob, ∃ o, H a = some o
  nix : ∀ a ∈ ρ.ob, some a ∉ ρ.ix
  nres : ∀ a ∈ ρ.res, a ∉ ρ.ob
theorem RA.step {ρ ρ' : Rho} {K : PySem.W.Frag} {st st' : Ir.Store} {H H' : Hp} (r : RA ρ K st H) (w : ∀ {x : Ir.D} {v : V}, RD ρ K H x v → RD ρ' K H' x v) (eo : ρ'.ob = ρ.ob) (hs : ∀ os, Ir.arenaOf st' = some os → Ir.arenaOf st = some os)
    (hh : ∀ a ∈ ρ.ob, H' a = H a) (hi : ∀ a ∈ ρ.ob, some a ∉ ρ'.ix) (hr : ∀ a ∈ ρ'.res, a ∉ ρ.ob) : RA ρ' K st' H' := by
  refine ⟨fun os h => ?_, by rw [eo]; exact r.inj, by rw [eo]; intro a ha; rw [hh a ha]; exact r.kept a ha, by rw [eo]; exact hi, by rw [eo]; exact hr⟩
  obtain ⟨h1, h2⟩ := r.obj os (hs os h)
  rw [eo]
  refine ⟨h1, fun n a q => ?_⟩
  obtain ⟨o, h3, h4⟩ := h2 n a q
  exact ⟨o, h3, h4.map w (hh a (List.mem_of_getElem? q))⟩
theorem arena_iff {st : Ir.Store} {os : List Ir.Obj} : Ir.arenaOf st = some os ↔ st[(0 : Nat)]? = some (.arena os) := by
  unfold Ir.arenaOf
  split
  · rename_i h; rw [h]; simp
  · rename_i h; constructor
    · intro z; cases z
    · intro z; exact absurd z (h os)
theorem arena_set {st : Ir.Store} {n : Nat} {c : Ir.Cell} (hc : ∀ os, c ≠ .arena os) : ∀ os, Ir.arenaOf (st.set n c) = some os → Ir.arenaOf st = some os := fun os h => by
  rw [arena_iff] at h ⊢
  rw [List.getElem?_set] at h
  split at h
  · split at h
    · cases h; exact absurd rfl (hc os)
    · cases h
  · exact h
theorem arena_push {st : Ir.Store} {c : Ir.Cell} (hc : ∀ os, c ≠ .arena os) : ∀ os, Ir.arenaOf (st ++ [c]) = some os → Ir.arenaOf st = some os := fun os h => by
  rw [arena_iff] at h ⊢
  cases st with
  | nil => simp at h; exact absurd h (hc os)
  | cons d r => simpa using h
theorem arena_take {st : Ir.Store} {m : Nat} : ∀ os, Ir.arenaOf (st.take m) = some os → Ir.arenaOf st = some os := fun os h => by
  rw [arena_iff] at h ⊢
  rw [List.getElem?_take] at h
  split at h
  · exact h
  · cases h
structure RS (ρ : Rho) (K : PySem.W.Frag) (st : Ir.Store) (H : Hp) : Prop where
  len : st.length = ρ.ix.length
  inj : ∀ (i j : Nat) (a : Addr), ρ.ix[i]? = some (some a) → ρ.ix[j]? = some (some a) → i = j
  cell : ∀ (n : Nat) (a : Addr), ρ.ix[n]? = some (some a) → ∃ c, st[n]? = some c ∧ RC ρ K H a c
  dd : ∀ (n : Nat), ρ.ix[n]? = some none → st[n]? = some .dead ∨ ∃ os, n = 0 ∧ st[n]? = some (.arena os)
  kept : ∀ a ∈ ρ.res, ∃ o, H a = some o
  disj : ∀ a ∈ ρ.res, some a ∉ ρ.ix
  ra : RA ρ K st H
section
variable {ρ : Rho} {K : PySem.W.Frag} {st : Ir.Store} {H : Hp}
theorem RS.get (r : RS ρ K st H) {n : Nat} {c : Ir.Cell} (h : st[n]? = some c) (d : c ≠ .dead ∧ ∀ os, c ≠ .arena os) : ∃ a, ρ.ix[n]? = some (some a) ∧ RC ρ K H a c := by
  have hn : n < ρ.ix.length := by rw [← r.len]; exact (List.getElem?_eq_some_iff.mp h).1
  cases q : ρ.ix[n]? with
  | none => rw [List.getElem?_eq_none_iff] at q; omega
  | some o =>
    cases o with
    | none =>
      rcases r.dd n q with this | ⟨os, _, this⟩
      · rw [h] at this; cases this
        exact absurd rfl d.1
      · rw [h] at this; cases this
        exact absurd rfl (d.2 os)
    | some a =>
      obtain ⟨c', h1, h2⟩ := r.cell n a q
      rw [h] at h1; cases h1
      exact ⟨a, rfl, h2⟩
theorem RC.some {a : Addr} {c : Ir.Cell} (h : RC ρ K H a c) : ∃ o, H a = Option.some o ∧ Mut (Option.some o) := by
  cases c with
  | lst xs => obtain ⟨ys, h, _⟩ := h; exact ⟨_, h, trivial⟩
  | dic xs => obtain ⟨ys, h, _⟩ := h; exact ⟨_, h, trivial⟩
  | dead => exact False.elim h
  | arena os => exact False.elim h
theorem RC.nar {a : Addr} {c : Ir.Cell} (h : RC ρ K H a c) : ∀ os, c ≠ .arena os := fun os e => by subst e; exact h
theorem RS.mem (r : RS ρ K st H) {a : Addr} (h : some a ∈ ρ.ix) : ∃ (n : Nat) (c : Ir.Cell), ρ.ix[n]? = some (some a) ∧ st[n]? = some c ∧ RC ρ K H a c := by
  obtain ⟨n, hn⟩ := List.getElem?_of_mem h
  obtain ⟨c, h1, h2⟩ := r.cell n a hn
  exact ⟨n, c, hn, h1, h2⟩
theorem RS.fresh (r : RS ρ K st H) {p : Addr} (h : H p = none) : ¬ ρ.own p := fun z => by
  rcases z with z | z
  · obtain ⟨n, c, _, _, q⟩ := r.mem z
    obtain ⟨o, e, _⟩ := q.some
    rw [h] at e; cases e
  · rcases z with z | z
    · obtain ⟨o, e⟩ := r.kept p z
      rw [h] at e; cases e
    · obtain ⟨o, e⟩ := r.ra.kept p z
      rw [h] at e; cases e
theorem RC.mono {ρ' : Rho} {H' : Hp} (e : Ext ρ H ρ' H') {a : Addr} {c : Ir.Cell} (h : RC ρ K H a c) (s : H' a = H a) : RC ρ' K H' a c := by
  cases c with
  | lst xs => obtain ⟨ys, h1, h2, h3⟩ := h; exact ⟨ys, s.trans h1, h2, h3.mono e⟩
  | dic xs => obtain ⟨ys, h1, h2, h3⟩ := h; exact ⟨ys, s.trans h1, h2, h3.mono e⟩
  | dead => exact h
  | arena os => exact h
/-- a new thing that no cell is -/
theorem Ext.grow (r : RS ρ K st H) {p : Addr} (h : H p = none) (o : HO) : Ext ρ H ρ (upd H p o) :=
  ⟨fun a u q _ _ => by rw [upd_ne (ne_of_none q h)]; exact q, fun _ q => .inl q, Nat.le_refl _, fun _ _ q _ => q, fun _ q => q, fun _ _ q q' => ⟨q, q'⟩, upd_al, fun _ _ q => q⟩
theorem RS.ext (r : RS ρ K st H) {H' : Hp} (e : Ext ρ H ρ H') (s : ∀ a, some a ∈ ρ.ix → H' a = H a) (so : ∀ a ∈ ρ.ob, H' a = H a) : RS ρ K st H' :=
  ⟨r.len, r.inj, fun n a q => let ⟨c, h1, h2⟩ := r.cell n a q; ⟨c, h1, h2.mono e (s a (List.mem_of_getElem? q))⟩, r.dd, fun a q => let ⟨o, h⟩ := r.kept a q; ⟨o, e.fr a o h (r.disj a q) (r.ra.nres a q)⟩, r.disj,
    r.ra.step (fun h => RD.mono e h) rfl (fun _ h => h) so r.ra.nix r.ra.nres⟩
theorem RS.grow (r : RS ρ K st H) {p : Addr} (h : H p = none) (o : HO) : RS ρ K st (upd H p o) :=
  r.ext (.grow r h o) (fun a q => upd_ne fun z => r.fresh h (.inl (by rw [← z]; exact q))) fun a q => upd_ne fun z => r.fresh h (.inr (.inr (by rw [← z]; exact q)))
/-- a cell changed -/
theorem Ext.write (r : RS ρ K st H) {n : Nat} {a : Addr} (h : ρ.ix[n]? = some (some a)) (o : HO) : Ext ρ H ρ (upd H a o) :=
  ⟨fun b u q z _ => by rw [upd_ne (fun e => z (by rw [e]; exact List.mem_of_getElem? h))]; exact q, fun _ q => .inl q, Nat.le_refl _, fun _ _ q _ => q, fun _ q => q, fun _ _ q q' => ⟨q, q'⟩, upd_al, fun _ _ q => q⟩
theorem RS.write (r : RS ρ K st H) {n : Nat} {a : Addr} (h : ρ.ix[n]? = some (some a)) {o : HO} {c : Ir.Cell} (q : RC ρ K (upd H a o) a c) : RS ρ K (st.set n c) (upd H a o) := by
  have hn : n < st.length := by rw [r.len]; exact (List.getElem?_eq_some_iff.mp h).1
  refine ⟨by rw [List.length_set]; exact r.len, r.inj, fun m b hm => ?_, fun m hm => ?_, fun b hb => ?_, r.disj,
    r.ra.step (fun h' => RD.mono (Ext.write r h o) h') rfl (arena_set q.nar) (fun b hb => upd_ne fun e => r.ra.nix b hb (by rw [e]; exact List.mem_of_getElem? h)) r.ra.nix r.ra.nres⟩
  · by_cases e : m = n
    · subst e
      rw [h] at hm; cases hm
      exact ⟨c, List.getElem?_set_self hn, q⟩
    · obtain ⟨c', h1, h2⟩ := r.cell m b hm
      refine ⟨c', by rw [List.getElem?_set_ne (Ne.symm e)]; exact h1, h2.mono (.write r h o) (upd_ne fun z => e (r.inj m n b hm (by rw [z]; exact h)))⟩
  · have e : m ≠ n := fun e => by subst e; rw [h] at hm; cases hm
    rw [List.getElem?_set_ne (Ne.symm e)]
    exact r.dd m hm
  · obtain ⟨u, hu⟩ := r.kept b hb
    exact ⟨u, (Ext.write r h o).fr b u hu (r.disj b hb) (r.ra.nres b hb)⟩
/-- a new cell -/
def Rho.push (ρ : Rho) (p : Addr) : Rho := ⟨ρ.ix ++ [some p], ρ.res, ρ.ob⟩
theorem Ext.push (r : RS ρ K st H) {p : Addr} (h : H p = none) (o : HO) : Ext ρ H (ρ.push p) (upd H p o) := by
  refine ⟨fun a u q _ _ => by rw [upd_ne (ne_of_none q h)]; exact q, fun a q => ?_, by simp [Rho.push], fun n a q hn => ?_, fun _ q => q, fun a ha hn hb => ⟨fun z => ?_, hb⟩, upd_al, fun _ _ q => q⟩
  · rcases q with q | q
    · rcases List.mem_append.mp q with z | z
      · exact .inl (.inl z)
      · simp at z; subst z; exact .inr h
    · exact .inl (.inr q)
  · simp only [Rho.push] at q
    rw [List.getElem?_append_left hn] at q; exact q
  · rcases List.mem_append.mp z with z | z
    · exact hn z
    · simp at z
      subst z
      exact r.fresh h (.inr (.inl ha))
theorem RS.dd_push (r : RS ρ K st H) {p : Addr} {c : Ir.Cell} {n : Nat} (hn : (ρ.ix ++ [some p])[n]? = some none) : (st ++ [c])[n]? = some .dead ∨ ∃ os, n = 0 ∧ (st ++ [c])[n]? = some (.arena os) := by
  by_cases hl : n < ρ.ix.length
  · rw [List.getElem?_append_left hl] at hn
    rcases r.dd n hn with this | ⟨os, e, this⟩
    · rw [List.getElem?_append_left (List.getElem?_eq_some_iff.mp this).1]; exact .inl this
    · rw [List.getElem?_append_left (List.getElem?_eq_some_iff.mp this).1]; exact .inr ⟨os, e, this⟩
  · rw [List.getElem?_append_right (by omega)] at hn
    cases z : n - ρ.ix.length with
    | zero => rw [z] at hn; simp at hn
    | succ k => rw [z] at hn; simp at hn
theorem RS.push (r : RS ρ K st H) {p : Addr} (h : H p = none) {o : HO} {c : Ir.Cell} (q : RC (ρ.push p) K (upd H p o) p c) : RS (ρ.push p) K (st ++ [c]) (upd H p o) := by
  have np : some p ∉ ρ.ix := fun z => r.fresh h (.inl z)
  have npo : p ∉ ρ.ob := fun z => r.fresh h (.inr (.inr z))
  have key : ∀ (i : Nat) (a : Addr), (ρ.ix ++ [some p])[i]? = some (some a) → (ρ.ix[i]? = some (some a) ∧ a ≠ p) ∨ (i = ρ.ix.length ∧ a = p) := fun i a hi => by
    by_cases hl : i < ρ.ix.length
    · rw [List.getElem?_append_left hl] at hi
      exact .inl ⟨hi, fun e => np (by rw [← e]; exact List.mem_of_getElem? hi)⟩
    · rw [List.getElem?_append_right (by omega)] at hi
      have : i - ρ.ix.length = 0 := by
        by_cases z : i - ρ.ix.length = 0
        · exact z
        · rw [List.getElem?_eq_none (by simp; omega)] at hi; cases hi
      rw [this] at hi
      simp at hi
      exact .inr ⟨by omega, hi.symm⟩
  refine ⟨by simp [Rho.push, r.len], fun i j a hi hj => ?_, fun n a hn => ?_, fun n hn => r.dd_push hn, fun a ha => ?_, fun a ha z => ?_,
    r.ra.step (fun h' => RD.mono (Ext.push r h o) h') rfl (arena_push q.nar) (fun b hb => upd_ne fun e => npo (by rw [← e]; exact hb)) (fun b hb z => ?_) r.ra.nres⟩
  · rcases key i a hi with ⟨h1, n1⟩ | ⟨h1, n1⟩ <;> rcases key j a hj with ⟨h2, n2⟩ | ⟨h2, n2⟩
    · exact r.inj i j a h1 h2
    · exact absurd n2 n1
    · exact absurd n1 n2
    · omega
  · rcases key n a hn with ⟨h1, n1⟩ | ⟨h1, n1⟩
    · obtain ⟨c', h2, h3⟩ := r.cell n a h1
      refine ⟨c', ?_, h3.mono (.push r h o) (upd_ne n1)⟩
      rw [List.getElem?_append_left (List.getElem?_eq_some_iff.mp h2).1]; exact h2
    · subst h1 n1
      refine ⟨c, ?_, q⟩
      rw [← r.len, List.getElem?_append_right (Nat.le_refl _)]; simp
  · obtain ⟨u, hu⟩ := r.kept a ha
    exact ⟨u, (Ext.push r h o).fr a u hu (r.disj a ha) (r.ra.nres a ha)⟩
  · exact ((Ext.push r h o).rn a ha (r.disj a ha) (r.ra.nres a ha)).1 z
  · rcases List.mem_append.mp z with z | z
    · exact r.ra.nix b hb z
    · simp at z; subst z; exact npo hb
/-- a cell that is not changed any more -/
def Rho.kill (ρ : Rho) (n : Nat) : Rho := ⟨ρ.ix.set n none, ρ.res, ρ.ob⟩
theorem kill_mem {ρ : Rho} {n : Nat} {a : Addr} (q : some a ∈ (ρ.kill n).ix) : ∃ m : Nat, m ≠ n ∧ ρ.ix[m]? = some (some a) := by
  obtain ⟨m, hm⟩ := List.getElem?_of_mem q
  have hm : (ρ.ix.set n none)[m]? = some (some a) := hm
  by_cases e : m = n
  · subst e
    rw [List.getElem?_set] at hm
    simp at hm
  · rw [List.getElem?_set_ne (Ne.symm e)] at hm
    exact ⟨m, e, hm⟩
theorem Ext.kill (ρ : Rho) (H : Hp) (n : Nat) : Ext ρ H (ρ.kill n) H := by
  refine ⟨fun _ _ q _ _ => q, fun a q => ?_, by simp [Rho.kill], fun m a q hm => ?_, fun _ q => q, fun a _ hn hb => ⟨fun z => ?_, hb⟩, fun _ q => q, fun _ _ q => q⟩
  · rcases q with q | q
    · obtain ⟨m, _, hm⟩ := kill_mem q
      exact .inl (.inl (List.mem_of_getElem? hm))
    · exact .inl (.inr q)
  · have q : (ρ.ix.set n none)[m]? = some (some a) := q
    by_cases e : m = n
    · subst e
      rw [List.getElem?_set] at q
      simp at q
    · rw [List.getElem?_set_ne (Ne.symm e)] at q; exact q
  · obtain ⟨m, _, hm⟩ := kill_mem z
    exact hn (List.mem_of_getElem? hm)
theorem RS.kill (r : RS ρ K st H) {n : Nat} (h : n < ρ.ix.length) : RS (ρ.kill n) K (st.set n .dead) H := by
  have hs : n < st.length := by rw [r.len]; exact h
  refine ⟨by simp [Rho.kill, r.len], fun i j a hi hj => ?_, fun m a hm => ?_, fun m hm => ?_, r.kept, fun a ha z => ?_,
    r.ra.step (fun h' => RD.mono (Ext.kill ρ H n) h') rfl (arena_set (fun _ e => by cases e)) (fun _ _ => rfl) (fun b hb z => ?_) r.ra.nres⟩
  · have key : ∀ i : Nat, (ρ.kill n).ix[i]? = some (some a) → ρ.ix[i]? = some (some a) := fun i hi => (Ext.kill ρ H n).ix i a hi (by
      have := (List.getElem?_eq_some_iff.mp hi).1
      simpa [Rho.kill] using this)
    exact r.inj i j a (key i hi) (key j hj)
  · have hm : (ρ.ix.set n none)[m]? = some (some a) := hm
    have e : m ≠ n := fun e => by
      subst e
      rw [List.getElem?_set] at hm
      simp at hm
    have hm' := hm
    rw [List.getElem?_set_ne (Ne.symm e)] at hm'
    obtain ⟨c, h1, h2⟩ := r.cell m a hm'
    exact ⟨c, by rw [List.getElem?_set_ne (Ne.symm e)]; exact h1, h2.mono (.kill ρ H n) rfl⟩
  · have hm : (ρ.ix.set n none)[m]? = some none := hm
    by_cases e : m = n
    · subst e; exact .inl (List.getElem?_set_self hs)
    · rw [List.getElem?_set_ne (Ne.symm e)] at hm ⊢
      exact r.dd m hm
  · obtain ⟨m, _, hm⟩ := kill_mem z
    exact r.disj a ha (List.mem_of_getElem? hm)
  · obtain ⟨m, _, hm⟩ := kill_mem z
    exact r.ra.nix b hb (List.mem_of_getElem? hm)
theorem kill_notin (r : RS ρ K st H) {n : Nat} {a : Addr} (h : ρ.ix[n]? = some (some a)) : ¬ (ρ.kill n).own a := fun z => by
  rcases z with z | z | z
  · obtain ⟨m, e, hm⟩ := kill_mem z
    exact e (r.inj m n a hm h)
  · exact r.disj a z (List.mem_of_getElem? h)
  · exact r.ra.nix a z (List.mem_of_getElem? h)
/-- an address kept aside -/
def Rho.keep (ρ : Rho) (p : Addr) : Rho := ⟨ρ.ix, p :: ρ.res, ρ.ob⟩
theorem Ext.keep (r : RS ρ K st H) {p : Addr} (h : H p = none) (o : HO) : Ext ρ H (ρ.keep p) (upd H p o) := by
  refine ⟨fun a u q _ _ => by rw [upd_ne (ne_of_none q h)]; exact q, fun a q => ?_, Nat.le_refl _, fun _ _ q _ => q, fun _ q => List.mem_cons_of_mem _ q, fun _ _ q q' => ⟨q, q'⟩, upd_al, fun _ _ q => q⟩
  rcases q with q | q | q
  · exact .inl (.inl q)
  · rcases List.mem_cons.mp q with e | q
    · subst e; exact .inr h
    · exact .inl (.inr (.inl q))
  · exact .inl (.inr (.inr q))
theorem RS.keep (r : RS ρ K st H) {p : Addr} (h : H p = none) (o : HO) : RS (ρ.keep p) K st (upd H p o) := by
  have np : some p ∉ ρ.ix := fun z => r.fresh h (.inl z)
  have npo : p ∉ ρ.ob := fun z => r.fresh h (.inr (.inr z))
  refine ⟨r.len, r.inj, fun n a q => ?_, r.dd, fun a ha => ?_, fun a ha => ?_,
    r.ra.step (fun h' => RD.mono (Ext.keep r h o) h') rfl (fun _ h => h) (fun b hb => upd_ne fun e => npo (by rw [← e]; exact hb)) r.ra.nix (fun b hb => ?_)⟩
  · obtain ⟨c, h1, h2⟩ := r.cell n a q
    exact ⟨c, h1, h2.mono (.keep r h o) (upd_ne fun z => np (by rw [← z]; exact List.mem_of_getElem? q))⟩
  · rcases List.mem_cons.mp ha with e | ha
    · subst e; exact ⟨o, upd_same⟩
    · obtain ⟨u, hu⟩ := r.kept a ha
      exact ⟨u, by rw [upd_ne (ne_of_none hu h)]; exact hu⟩
  · rcases List.mem_cons.mp ha with e | ha
    · subst e; exact np
    · exact r.disj a ha
  · rcases List.mem_cons.mp hb with e | hb
    · subst e; exact npo
    · exact r.ra.nres b hb
end
/-- what was kept aside changes: nothing else leans on it -/
theorem TpAt.aside {ρ : Rho} {K : PySem.W.Frag} {H : Hp} {a p : Addr} {o : HO} {ys : List V} (hp : p ∈ ρ.res) (h : TpAt ρ K H a ys) : TpAt ρ K (upd H p o) a ys := by
  rcases h with ⟨h, n⟩ | h
  · have e : a ≠ p := fun e => n (.inr (.inl (by rw [e]; exact hp)))
    refine .inl ⟨?_, n⟩
    rcases h with h | ⟨u, h⟩
    · exact .inl (by rw [upd_ne e]; exact h)
    · exact .inr ⟨u, by rw [upd_ne e]; exact h⟩
  · exact .inr h
theorem LrAt.aside {ρ : Rho} {K : PySem.W.Frag} {H : Hp} {a p : Addr} {o : HO} {ys : List V} (hp : p ∈ ρ.res) (h : LrAt ρ K H a ys) : LrAt ρ K (upd H p o) a ys := by
  rcases h with ⟨⟨u, h⟩, n⟩ | h
  · have e : a ≠ p := fun e => n (.inr (.inl (by rw [e]; exact hp)))
    exact .inl ⟨⟨u, by rw [upd_ne e]; exact h⟩, n⟩
  · exact .inr h
theorem XD.aside {ρ : Rho} {H : Hp} {p : Addr} {o : HO} (hp : p ∈ ρ.res) {d : Option Addr} {gs : List (Str × V)} (h : XD ρ H d gs) : XD ρ (upd H p o) d gs := by
  rcases h with h | ⟨dd, h1, h2, h3, h5⟩
  · exact .inl h
  · exact .inr ⟨dd, h1, by rw [upd_ne (fun e => h3 (.inr (.inl (by rw [e]; exact hp))))]; exact h2, h3, h5⟩
theorem XnAt.aside {ρ : Rho} {K : PySem.W.Frag} {H : Hp} {p : Addr} {o : HO} (hp : p ∈ ρ.res) {c : String} {ns : List String} {a : Addr} {ys : List V} (h : XnAt ρ K H c ns a ys) : XnAt ρ K (upd H p o) c ns a ys := by
  obtain ⟨C, d, h1, h2, h3, h4⟩ := h
  exact ⟨C, d, h1, by rw [upd_ne (fun e => h3 (.inr (.inl (by rw [e]; exact hp))))]; exact h2, h3, h4.aside hp⟩
mutual
theorem RD.aside {ρ : Rho} {K : PySem.W.Frag} {H : Hp} {p : Addr} {o : HO} (hp : p ∈ ρ.res) : ∀ {x : Ir.D} {v : V}, RD ρ K H x v → RD ρ K (upd H p o) x v
  | _, _, .non => .non
  | _, _, .bool b => .bool b
  | _, _, .int i => .int i
  | _, _, .str s => .str s
  | _, _, .tup h z r => .tup (h.aside hp) z (RDs.aside hp r)
  | _, _, .ro h z r => .ro (h.aside hp) z (RDs.aside hp r)
  | _, _, .lst h n z r => .lst (by rw [upd_ne (fun e => n (.inr (.inl (by rw [e]; exact hp))))]; exact h) n z (RDs.aside hp r)
  | _, _, .oid h => .oid h
  | _, _, .fn h => .fn h
  | _, _, .exn h z r => .exn (h.aside hp) z (RDs.aside hp r)
theorem RDs.aside {ρ : Rho} {K : PySem.W.Frag} {H : Hp} {p : Addr} {o : HO} (hp : p ∈ ρ.res) : ∀ {xs : List Ir.D} {vs : List V}, RDs ρ K H xs vs → RDs ρ K (upd H p o) xs vs
  | _, _, .nil => .nil
  | _, _, .cons h r => .cons (RD.aside hp h) (RDs.aside hp r)
end
theorem RKs.aside {ρ : Rho} {K : PySem.W.Frag} {H : Hp} {p : Addr} {o : HO} (hp : p ∈ ρ.res) : ∀ {xs : List (Ir.D × Ir.D)} {vs : List (Key × V)}, RKs ρ K H xs vs → RKs ρ K (upd H p o) xs vs
  | _, _, .nil => .nil
  | _, _, .cons h q r => .cons h (RD.aside hp q) (RKs.aside hp r)
theorem RC.aside {ρ : Rho} {K : PySem.W.Frag} {H : Hp} {a p : Addr} {o : HO} {c : Ir.Cell} (hp : p ∈ ρ.res) (h : RC ρ K H a c) (e : a ≠ p) : RC ρ K (upd H p o) a c := by
  cases c with
  | lst xs => obtain ⟨ys, h1, h2, h3⟩ := h; exact ⟨ys, by rw [upd_ne e]; exact h1, h2, h3.aside hp⟩
  | dic xs => obtain ⟨ys, h1, h2, h3⟩ := h; exact ⟨ys, by rw [upd_ne e]; exact h1, h2, h3.aside hp⟩
  | dead => exact h
  | arena os => exact h
theorem RS.aside {ρ : Rho} {K : PySem.W.Frag} {st : Ir.Store} {H : Hp} {p : Addr} {o : HO} (r : RS ρ K st H) (hp : p ∈ ρ.res) : RS ρ K st (upd H p o) := by
  refine ⟨r.len, r.inj, fun n a q => ?_, r.dd, fun a ha => ?_, r.disj,
    r.ra.step (fun h' => RD.aside hp h') rfl (fun _ h => h) (fun b hb => upd_ne fun e => r.ra.nres p hp (by rw [← e]; exact hb)) r.ra.nix r.ra.nres⟩
  · obtain ⟨c, h1, h2⟩ := r.cell n a q
    exact ⟨c, h1, h2.aside hp fun e => r.disj p hp (by rw [← e]; exact List.mem_of_getElem? q)⟩
  · by_cases e : a = p
    · subst e; exact ⟨o, upd_same⟩
    · obtain ⟨u, hu⟩ := r.kept a ha
      exact ⟨u, by rw [upd_ne e]; exact hu⟩
/-- what was free ahead may be anything behind -/
theorem Ext.aside {ρ ρ' : Rho} {H H' : Hp} {p : Addr} {o : HO} (e : Ext ρ H ρ' H') (h : H p = none) : Ext ρ H ρ' (upd H' p o) :=
  ⟨fun a u q n m => by rw [upd_ne (ne_of_none q h)]; exact e.fr a u q n m, e.nw, e.len, e.ix, e.rs, e.rn, fun a q => e.al a (upd_al a q), e.ob⟩
/-- an address is given free -/
def Rho.drop (ρ : Rho) (rs : List Addr) : Rho := ⟨ρ.ix, rs, ρ.ob⟩
theorem own_drop {ρ : Rho} {rs : List Addr} (hs : ∀ a ∈ rs, a ∈ ρ.res) {a : Addr} (h : ¬ ρ.own a) : ¬ (ρ.drop rs).own a := fun z => h (z.elim .inl fun z => .inr (z.elim (fun z => .inl (hs a z)) .inr))
theorem XD.less {ρ ρ' : Rho} {H : Hp} (hs : ∀ b, ρ'.own b → ρ.own b) {d : Option Addr} {gs : List (Str × V)} (h : XD ρ H d gs) : XD ρ' H d gs := by
  rcases h with h | ⟨dd, h1, h2, h3, h5⟩
  · exact .inl h
  · exact .inr ⟨dd, h1, h2, fun z => h3 (hs _ z), h5⟩
theorem XnAt.less {ρ ρ' : Rho} {K : PySem.W.Frag} {H : Hp} (hs : ∀ b, ρ'.own b → ρ.own b) {c : String} {ns : List String} {a : Addr} {ys : List V} (h : XnAt ρ K H c ns a ys) : XnAt ρ' K H c ns a ys := by
  obtain ⟨C, d, h1, h2, h3, h4⟩ := h
  exact ⟨C, d, h1, h2, fun z => h3 (hs _ z), h4.less hs⟩
theorem own_dropS {ρ : Rho} {rs : List Addr} (hs : ∀ a ∈ rs, a ∈ ρ.res) (b : Addr) (q : (ρ.drop rs).own b) : ρ.own b := by
  rcases q with q | q | q
  · exact .inl q
  · exact .inr (.inl (hs b q))
  · exact .inr (.inr q)
mutual
theorem RD.drop {ρ : Rho} {K : PySem.W.Frag} {H : Hp} {rs : List Addr} (hs : ∀ a ∈ rs, a ∈ ρ.res) : ∀ {x : Ir.D} {v : V}, RD ρ K H x v → RD (ρ.drop rs) K H x v
  | _, _, .non => .non
  | _, _, .bool b => .bool b
  | _, _, .int i => .int i
  | _, _, .str s => .str s
  | _, _, .tup h z r => .tup (h.elim (fun q => .inl ⟨q.1, own_drop hs q.2⟩) .inr) z (RDs.drop' hs r)
  | _, _, .ro h z r => .ro (h.elim (fun q => .inl ⟨q.1, own_drop hs q.2⟩) .inr) z (RDs.drop' hs r)
  | _, _, .lst h n z r => .lst h (own_drop hs n) z (RDs.drop' hs r)
  | _, _, .oid h => .oid h
  | _, _, .fn h => .fn h
  | _, _, .exn h z r => .exn (h.less (own_dropS hs)) z (RDs.drop' hs r)
theorem RDs.drop' {ρ : Rho} {K : PySem.W.Frag} {H : Hp} {rs : List Addr} (hs : ∀ a ∈ rs, a ∈ ρ.res) : ∀ {xs : List Ir.D} {vs : List V}, RDs ρ K H xs vs → RDs (ρ.drop rs) K H xs vs
  | _, _, .nil => .nil
  | _, _, .cons h r => .cons (RD.drop hs h) (RDs.drop' hs r)
end
theorem RKs.drop {ρ : Rho} {K : PySem.W.Frag} {H : Hp} {rs : List Addr} (hs : ∀ a ∈ rs, a ∈ ρ.res) : ∀ {xs : List (Ir.D × Ir.D)} {vs : List (Key × V)}, RKs ρ K H xs vs → RKs (ρ.drop rs) K H xs vs
  | _, _, .nil => .nil
  | _, _, .cons h q r => .cons h (RD.drop hs q) (RKs.drop hs r)
theorem RC.drop {ρ : Rho} {K : PySem.W.Frag} {H : Hp} {rs : List Addr} {a : Addr} {c : Ir.Cell} (hs : ∀ a ∈ rs, a ∈ ρ.res) (h : RC ρ K H a c) : RC (ρ.drop rs) K H a c := by
  cases c with
  | lst xs => obtain ⟨ys, h1, h2, h3⟩ := h; exact ⟨ys, h1, h2, h3.drop' hs⟩
  | dic xs => obtain ⟨ys, h1, h2, h3⟩ := h; exact ⟨ys, h1, h2, h3.drop hs⟩
  | dead => exact h
  | arena os => exact h
theorem RS.drop {ρ : Rho} {K : PySem.W.Frag} {st : Ir.Store} {H : Hp} {rs : List Addr} (r : RS ρ K st H) (hs : ∀ a ∈ rs, a ∈ ρ.res) : RS (ρ.drop rs) K st H :=
  ⟨r.len, r.inj, fun n a q => let ⟨c, h1, h2⟩ := r.cell n a q; ⟨c, h1, h2.drop hs⟩, r.dd, fun a q => r.kept a (hs a q), fun a q => r.disj a (hs a q), r.ra.step (fun h' => RD.drop hs h') rfl (fun _ h => h) (fun _ _ => rfl) r.ra.nix fun a q => r.ra.nres a (hs a q)⟩
/-- less is owned: what stood stands -/
theorem own_sub {ρ ρ' : Rho} (hs : ∀ b, ρ'.own b → ρ.own b) {a : Addr} (h : ¬ ρ.own a) : ¬ ρ'.own a := fun z => h (hs a z)
mutual
theorem RD.sub {ρ ρ' : Rho} {K : PySem.W.Frag} {H : Hp} (hs : ∀ b, ρ'.own b → ρ.own b) (ho : ∀ (n : Nat) (b : Addr), ρ.ob[n]? = some b → ρ'.ob[n]? = some b) : ∀ {x : Ir.D} {v : V}, RD ρ K H x v → RD ρ' K H x v
  | _, _, .non => .non
  | _, _, .bool b => .bool b
  | _, _, .int i => .int i
  | _, _, .str s => .str s
  | _, _, .tup h z r => .tup (h.elim (fun q => .inl ⟨q.1, own_sub hs q.2⟩) .inr) z (RDs.sub hs ho r)
  | _, _, .ro h z r => .ro (h.elim (fun q => .inl ⟨q.1, own_sub hs q.2⟩) .inr) z (RDs.sub hs ho r)
  | _, _, .lst h n z r => .lst h (own_sub hs n) z (RDs.sub hs ho r)
  | _, _, .oid h => .oid (ho _ _ h)
  | _, _, .fn h => .fn h
  | _, _, .exn h z r => .exn (h.less hs) z (RDs.sub hs ho r)
theorem RDs.sub {ρ ρ' : Rho} {K : PySem.W.Frag} {H : Hp} (hs : ∀ b, ρ'.own b → ρ.own b) (ho : ∀ (n : Nat) (b : Addr), ρ.ob[n]? = some b → ρ'.ob[n]? = some b) : ∀ {xs : List Ir.D} {vs : List V}, RDs ρ K H xs vs → RDs ρ' K H xs vs
  | _, _, .nil => .nil
  | _, _, .cons h r => .cons (RD.sub hs ho h) (RDs.sub hs ho r)
end
theorem RKs.sub {ρ ρ' : Rho} {K : PySem.W.Frag} {H : Hp} (hs : ∀ b, ρ'.own b → ρ.own b) (ho : ∀ (n : Nat) (b : Addr), ρ.ob[n]? = some b → ρ'.ob[n]? = some b) : ∀ {xs : List (Ir.D × Ir.D)} {vs : List (Key × V)}, RKs ρ K H xs vs → RKs ρ' K H xs vs
  | _, _, .nil => .nil
  | _, _, .cons h q r => .cons h (RD.sub hs ho q) (RKs.sub hs ho r)
theorem RC.sub {ρ ρ' : Rho} {K : PySem.W.Frag} {H : Hp} (hs : ∀ b, ρ'.own b → ρ.own b) (ho : ∀ (n : Nat) (b : Addr), ρ.ob[n]? = Option.some b → ρ'.ob[n]? = Option.some b) {a : Addr} {c : Ir.Cell} (h : RC ρ K H a c) : RC ρ' K H a c := by
  cases c with
  | lst xs => obtain ⟨ys, h1, h2, h3⟩ := h; exact ⟨ys, h1, h2, h3.sub hs ho⟩
  | dic xs => obtain ⟨ys, h1, h2, h3⟩ := h; exact ⟨ys, h1, h2, h3.sub hs ho⟩
  | dead => exact h
  | arena os => exact h
/-- what is kept aside becomes a cell -/
theorem RS.cellOf {ρ : Rho} {K : PySem.W.Frag} {st : Ir.Store} {H : Hp} {rs : List Addr} {a : Addr} {c : Ir.Cell} (r : RS ρ K st H) (hs : ∀ b ∈ rs, b ∈ ρ.res) (ha : a ∈ ρ.res) (hn : a ∉ rs) (q : RC ⟨ρ.ix ++ [some a], rs, ρ.ob⟩ K H a c) : RS ⟨ρ.ix ++ [some a], rs, ρ.ob⟩ K (st ++ [c]) H := by
  have sub : ∀ b, Rho.own ⟨ρ.ix ++ [some a], rs, ρ.ob⟩ b → ρ.own b := fun b z => by
    rcases z with z | z | z
    · rcases List.mem_append.mp z with z | z
      · exact .inl z
      · simp at z; subst z; exact .inr (.inl ha)
    · exact .inr (.inl (hs b z))
    · exact .inr (.inr z)
  have np : some a ∉ ρ.ix := r.disj a ha
  have key : ∀ (i : Nat) (b : Addr), (ρ.ix ++ [some a])[i]? = some (some b) → (ρ.ix[i]? = some (some b) ∧ b ≠ a) ∨ (i = ρ.ix.length ∧ b = a) := fun i b hi => by
    by_cases hl : i < ρ.ix.length
    · rw [List.getElem?_append_left hl] at hi
      exact .inl ⟨hi, fun e => np (by rw [← e]; exact List.mem_of_getElem? hi)⟩
    · rw [List.getElem?_append_right (by omega)] at hi
      have : i - ρ.ix.length = 0 := by
        by_cases z : i - ρ.ix.length = 0
        · exact z
        · rw [List.getElem?_eq_none (by simp; omega)] at hi; cases hi
      rw [this] at hi
      simp at hi
      exact .inr ⟨by omega, hi.symm⟩
  refine ⟨by simp [r.len], fun i j b hi hj => ?_, fun n b hb => ?_, fun n hb => r.dd_push hb, fun b hb => r.kept b (hs b hb), fun b hb z => ?_,
    r.ra.step (fun h' => RD.sub sub (fun _ _ q => q) h') rfl (arena_push q.nar) (fun _ _ => rfl) (fun b hb z => ?_) fun b hb => r.ra.nres b (hs b hb)⟩
  · rcases key i b hi with ⟨h1, n1⟩ | ⟨h1, n1⟩ <;> rcases key j b hj with ⟨h2, n2⟩ | ⟨h2, n2⟩
    · exact r.inj i j b h1 h2
    · exact absurd n2 n1
    · exact absurd n1 n2
    · omega
  · rcases key n b hb with ⟨h1, n1⟩ | ⟨h1, n1⟩
    · obtain ⟨c', h2, h3⟩ := r.cell n b h1
      exact ⟨c', by rw [List.getElem?_append_left (List.getElem?_eq_some_iff.mp h2).1]; exact h2, h3.sub sub fun _ _ q => q⟩
    · subst h1 n1
      refine ⟨c, ?_, q⟩
      rw [← r.len, List.getElem?_append_right (Nat.le_refl _)]; simp
  · rcases List.mem_append.mp z with z | z
    · exact r.disj b (hs b hb) z
    · simp at z; subst z; exact hn hb
  · rcases List.mem_append.mp z with z | z
    · exact r.ra.nix b hb z
    · simp at z; subst z; exact r.ra.nres _ ha hb
theorem Ext.cellOf {ρ ρ' : Rho} {H H' : Hp} {a : Addr} (e : Ext ρ H ρ' H') (ha : H a = none) (hn : a ∉ ρ.res) : Ext ρ H ⟨ρ'.ix ++ [some a], ρ.res, ρ'.ob⟩ H' := by
  refine ⟨e.fr, fun b q => ?_, by have := e.len; simp; omega, fun n b q hl => ?_, fun _ q => q, fun b hb n m => ⟨fun z => ?_, (e.rn b hb n m).2⟩, e.al, e.ob⟩
  · rcases q with q | q | q
    · rcases List.mem_append.mp q with z | z
      · exact e.nw b (.inl z)
      · simp at z; subst z; exact .inr ha
    · exact .inl (.inr (.inl q))
    · exact e.nw b (.inr (.inr q))
  · have q : (ρ'.ix ++ [some a])[n]? = some (some b) := q
    rw [List.getElem?_append_left (Nat.lt_of_lt_of_le hl e.len)] at q
    exact e.ix n b q hl
  · rcases List.mem_append.mp z with z | z
    · exact (e.rn b hb n m).1 z
    · simp at z; subst z; exact hn hb
theorem Ext.drop {ρ ρ' : Rho} {H H' : Hp} (e : Ext ρ H ρ' H') : Ext ρ H (ρ'.drop ρ.res) H' :=
  ⟨e.fr, fun a q => q.elim (fun z => e.nw a (.inl z)) fun z => z.elim (fun z => .inl (.inr (.inl z))) fun z => e.nw a (.inr (.inr z)), e.len, e.ix, fun _ q => q, e.rn, e.al, e.ob⟩
/-! ### objects -/
section
variable {ρ : Rho} {K : PySem.W.Frag} {st : Ir.Store} {H : Hp}
theorem arena_lt {os : List Ir.Obj} (h : Ir.arenaOf st = some os) : 0 < st.length := (List.getElem?_eq_some_iff.mp (arena_iff.mp h)).1
theorem arena_put {os os' : List Ir.Obj} (h : Ir.arenaOf st = some os) : Ir.arenaOf (st.set 0 (.arena os')) = some os' := by
  rw [arena_iff, List.getElem?_set_self (arena_lt h)]
theorem RS.arena_ix (r : RS ρ K st H) {os : List Ir.Obj} (h : Ir.arenaOf st = some os) : ρ.ix[(0 : Nat)]? = some none := by
  have h0 := arena_iff.mp h
  have hl : 0 < ρ.ix.length := by rw [← r.len]; exact arena_lt h
  cases q : ρ.ix[(0 : Nat)]? with
  | none => rw [List.getElem?_eq_none_iff] at q; omega
  | some o =>
    cases o with
    | none => rfl
    | some a =>
      obtain ⟨c, h1, h2⟩ := r.cell 0 a q
      rw [h0] at h1; cases h1
      exact h2.elim
/-- the arena's cell is set: what is true of the cells stays -/
theorem RS.set0 {ρ' : Rho} {H' : Hp} (r : RS ρ K st H) (e : Ext ρ H ρ' H') (hix : ρ'.ix = ρ.ix) {os os' : List Ir.Obj} (h : Ir.arenaOf st = some os) (s : ∀ a, some a ∈ ρ.ix → H' a = H a) (hk : ∀ a ∈ ρ'.res, ∃ o, H' a = some o) (hd : ∀ a ∈ ρ'.res, some a ∉ ρ.ix) (ra : RA ρ' K (st.set 0 (.arena os')) H') : RS ρ' K (st.set 0 (.arena os')) H' := by
  have h0 := r.arena_ix h
  refine ⟨by rw [List.length_set, hix]; exact r.len, by rw [hix]; exact r.inj, fun n a q => ?_, fun n q => ?_, hk, by rw [hix]; exact hd, ra⟩
  · rw [hix] at q
    obtain ⟨c, h1, h2⟩ := r.cell n a q
    have hn : 0 ≠ n := fun z => by subst z; rw [h0] at q; cases q
    exact ⟨c, by rw [List.getElem?_set_ne hn]; exact h1, h2.mono e (s a (List.mem_of_getElem? q))⟩
  · rw [hix] at q
    by_cases hn : n = 0
    · subst hn
      exact .inr ⟨os', rfl, List.getElem?_set_self (arena_lt h)⟩
    · rw [List.getElem?_set_ne (Ne.symm hn)]
      rcases r.dd n q with this | ⟨_, e, _⟩
      · exact .inl this
      · exact absurd e hn
theorem RS.getO (r : RS ρ K st H) {os : List Ir.Obj} (h : Ir.arenaOf st = some os) {n : Nat} {o : Ir.Obj} (ho : os[n]? = some o) : ∃ a, ρ.ob[n]? = some a ∧ RO ρ K H a o := by
  obtain ⟨h1, h2⟩ := r.ra.obj os h
  have hn : n < ρ.ob.length := by rw [h1]; exact (List.getElem?_eq_some_iff.mp ho).1
  have hb := List.getElem?_eq_getElem hn
  obtain ⟨o', h3, h4⟩ := h2 n _ hb
  rw [ho] at h3; cases h3
  exact ⟨_, hb, h4⟩
/-- an object changed -/
theorem Ext.writeO (r : RS ρ K st H) {n : Nat} {a : Addr} (h : ρ.ob[n]? = some a) (o : HO) : Ext ρ H ρ (upd H a o) :=
  ⟨fun b u q _ z => by rw [upd_ne (fun e => z (by rw [e]; exact List.mem_of_getElem? h))]; exact q, fun _ q => .inl q, Nat.le_refl _, fun _ _ q _ => q, fun _ q => q, fun _ _ q q' => ⟨q, q'⟩, upd_al, fun _ _ q => q⟩
theorem RS.writeO (r : RS ρ K st H) {os : List Ir.Obj} (h : Ir.arenaOf st = some os) {n : Nat} {a : Addr} (ha : ρ.ob[n]? = some a) {o : HO} {c : Ir.Obj} (q : RO ρ K (upd H a o) a c) : RS ρ K (st.set 0 (.arena (os.set n c))) (upd H a o) := by
  have ex := Ext.writeO r ha o
  have hm := List.mem_of_getElem? ha
  refine r.set0 ex rfl h (fun b hb => upd_ne fun e => r.ra.nix a hm (by rw [← e]; exact hb)) (fun b hb => ?_) r.disj ⟨fun os' h' => ?_, r.ra.inj, fun b hb => ?_, r.ra.nix, r.ra.nres⟩
  · obtain ⟨u, hu⟩ := r.kept b hb
    exact ⟨u, ex.fr b u hu (r.disj b hb) (r.ra.nres b hb)⟩
  · rw [arena_put h] at h'; cases h'
    obtain ⟨h1, h2⟩ := r.ra.obj os h
    refine ⟨by rw [List.length_set]; exact h1, fun m b hb => ?_⟩
    obtain ⟨o', h3, h4⟩ := h2 m b hb
    by_cases e : m = n
    · subst e
      rw [ha] at hb; cases hb
      exact ⟨c, List.getElem?_set_self (List.getElem?_eq_some_iff.mp h3).1, q⟩
    · exact ⟨o', by rw [List.getElem?_set_ne (Ne.symm e)]; exact h3, h4.mono ex (upd_ne fun z => e (r.ra.inj m n b hb (by rw [z]; exact ha)))⟩
  · by_cases e : b = a
    · subst e; exact ⟨o, upd_same⟩
    · rw [upd_ne e]; exact r.ra.kept b hb
/-- a new object -/
def Rho.pushO (ρ : Rho) (p : Addr) : Rho := ⟨ρ.ix, ρ.res, ρ.ob ++ [p]⟩
theorem ob_push {l : List Addr} {p : Addr} {n : Nat} {a : Addr} (h : (l ++ [p])[n]? = some a) : l[n]? = some a ∨ (n = l.length ∧ a = p) := by
  by_cases hl : n < l.length
  · rw [List.getElem?_append_left hl] at h; exact .inl h
  · rw [List.getElem?_append_right (by omega)] at h
    have : n - l.length = 0 := by
      by_cases z : n - l.length = 0
      · exact z
      · rw [List.getElem?_eq_none (by simp; omega)] at h; cases h
    rw [this] at h
    simp at h
    exact .inr ⟨by omega, h.symm⟩
theorem Ext.pushO (r : RS ρ K st H) {p : Addr} (h : H p = none) (o : HO) : Ext ρ H (ρ.pushO p) (upd H p o) := by
  refine ⟨fun a u q _ _ => by rw [upd_ne (ne_of_none q h)]; exact q, fun a q => ?_, Nat.le_refl _, fun n a q _ => q, fun _ q => q, fun a ha hn hb => ⟨hn, fun z => ?_⟩, upd_al, fun n a q => ?_⟩
  · rcases q with q | q | q
    · exact .inl (.inl q)
    · exact .inl (.inr (.inl q))
    · rcases List.mem_append.mp q with z | z
      · exact .inl (.inr (.inr z))
      · simp at z; subst z; exact .inr h
  · rcases List.mem_append.mp z with z | z
    · exact hb z
    · simp at z
      subst z
      exact r.fresh h (.inr (.inl ha))
  · show (ρ.ob ++ [p])[n]? = some a
    rw [List.getElem?_append_left (List.getElem?_eq_some_iff.mp q).1]; exact q
/-- what is at hand of a new object: its address is none of the others -/
theorem RS.addO {ρ' : Rho} {H' : Hp} (r : RS ρ K st H) (e : Ext ρ H ρ' H') {p : Addr} (hix : ρ'.ix = ρ.ix) (hob : ρ'.ob = ρ.ob ++ [p]) {os : List Ir.Obj} (h : Ir.arenaOf st = some os) (np : some p ∉ ρ.ix) (npo : p ∉ ρ.ob) (s : ∀ a, a ≠ p → (some a ∈ ρ.ix ∨ a ∈ ρ.ob) → H' a = H a)
    (hk : ∀ a ∈ ρ'.res, ∃ o, H' a = some o) (hd : ∀ a ∈ ρ'.res, some a ∉ ρ.ix ∧ a ∉ ρ.ob ∧ a ≠ p) {c : Ir.Obj} (q : RO ρ' K H' p c) : RS ρ' K (st.set 0 (.arena (os ++ [c]))) H' := by
  refine r.set0 e hix h (fun a ha => s a (fun z => np (by rw [← z]; exact ha)) (.inl ha)) hk (fun a ha => (hd a ha).1) ⟨fun os' h' => ?_, fun i j a hi hj => ?_, fun b hb => ?_, fun b hb z => ?_, fun b hb z => ?_⟩
  · rw [arena_put h] at h'; cases h'
    obtain ⟨h1, h2⟩ := r.ra.obj os h
    refine ⟨by rw [hob]; simp [h1], fun m b hb => ?_⟩
    rw [hob] at hb
    rcases ob_push hb with hb | ⟨e1, e2⟩
    · obtain ⟨o', h3, h4⟩ := h2 m b hb
      have hm := List.mem_of_getElem? hb
      exact ⟨o', by rw [List.getElem?_append_left (List.getElem?_eq_some_iff.mp h3).1]; exact h3, h4.mono e (s b (fun z => npo (by rw [← z]; exact hm)) (.inr hm))⟩
    · subst e1 e2
      exact ⟨c, by rw [h1]; simp, q⟩
  · rw [hob] at hi hj
    rcases ob_push hi with h1 | ⟨h1, n1⟩ <;> rcases ob_push hj with h2 | ⟨h2, n2⟩
    · exact r.ra.inj i j a h1 h2
    · exact absurd (by rw [← n2]; exact List.mem_of_getElem? h1) npo
    · exact absurd (by rw [← n1]; exact List.mem_of_getElem? h2) npo
    · omega
  · rw [hob] at hb
    rcases List.mem_append.mp hb with hb | hb
    · rw [s b (fun z => npo (by rw [← z]; exact hb)) (.inr hb)]; exact r.ra.kept b hb
    · simp at hb; subst hb
      obtain ⟨u, hu, _⟩ := q.some
      exact ⟨u, hu⟩
  · rw [hob] at hb; rw [hix] at z
    rcases List.mem_append.mp hb with hb | hb
    · exact r.ra.nix b hb z
    · simp at hb; subst hb; exact np z
  · rw [hob] at z
    rcases List.mem_append.mp z with z | z
    · exact (hd b hb).2.1 z
    · simp at z; exact (hd b hb).2.2 z
theorem RS.pushO (r : RS ρ K st H) {os : List Ir.Obj} (ha : Ir.arenaOf st = some os) {p : Addr} (h : H p = none) {o : HO} {c : Ir.Obj} (q : RO (ρ.pushO p) K (upd H p o) p c) : RS (ρ.pushO p) K (st.set 0 (.arena (os ++ [c]))) (upd H p o) := by
  have nf := r.fresh h
  have ex := Ext.pushO r h o
  refine r.addO ex rfl rfl ha (own_no nf) (own_nob nf) (fun a hne _ => upd_ne hne) (fun a hr => ?_) (fun a hr => ⟨r.disj a hr, r.ra.nres a hr, fun z => nf (.inr (.inl (by rw [← z]; exact hr)))⟩) q
  obtain ⟨u, hu⟩ := r.kept a hr
  exact ⟨u, ex.fr a u hu (r.disj a hr) (r.ra.nres a hr)⟩
/-- what is kept aside becomes an object -/
theorem RS.objOf {rs : List Addr} {a : Addr} {c : Ir.Obj} (r : RS ρ K st H) {os : List Ir.Obj} (hA : Ir.arenaOf st = some os) (hs : ∀ b ∈ rs, b ∈ ρ.res) (ha : a ∈ ρ.res) (hn : a ∉ rs) (q : RO ⟨ρ.ix, rs, ρ.ob ++ [a]⟩ K H a c) : RS ⟨ρ.ix, rs, ρ.ob ++ [a]⟩ K (st.set 0 (.arena (os ++ [c]))) H := by
  have sub : ∀ b, Rho.own ⟨ρ.ix, rs, ρ.ob ++ [a]⟩ b → ρ.own b := fun b z => by
    rcases z with z | z | z
    · exact .inl z
    · exact .inr (.inl (hs b z))
    · rcases List.mem_append.mp z with z | z
      · exact .inr (.inr z)
      · simp at z; subst z; exact .inr (.inl ha)
  have obs : ∀ (n : Nat) (b : Addr), ρ.ob[n]? = some b → (ρ.ob ++ [a])[n]? = some b := fun n b q => by rw [List.getElem?_append_left (List.getElem?_eq_some_iff.mp q).1]; exact q
  have r1 := r.drop (rs := rs) hs
  have ex : Ext (ρ.drop rs) H ⟨ρ.ix, rs, ρ.ob ++ [a]⟩ H ∨ True := .inr trivial
  have np := r.disj a ha
  have npo := r.ra.nres a ha
  have h0 := r.arena_ix hA
  refine ⟨by rw [List.length_set]; exact r.len, r.inj, fun n b hb => ?_, fun n hb => ?_, fun b hb => r.kept b (hs b hb), fun b hb => r.disj b (hs b hb), ⟨fun os' h' => ?_, fun i j b hi hj => ?_, fun b hb => ?_, fun b hb z => ?_, fun b hb z => ?_⟩⟩
  · obtain ⟨c', h1, h2⟩ := r.cell n b hb
    have hn0 : 0 ≠ n := fun z => by subst z; rw [h0] at hb; cases hb
    exact ⟨c', by rw [List.getElem?_set_ne hn0]; exact h1, h2.sub sub obs⟩
  · by_cases hn0 : n = 0
    · subst hn0
      exact .inr ⟨_, rfl, List.getElem?_set_self (arena_lt hA)⟩
    · rw [List.getElem?_set_ne (Ne.symm hn0)]
      rcases r.dd n hb with this | ⟨_, e, _⟩
      · exact .inl this
      · exact absurd e hn0
  · rw [arena_put hA] at h'; cases h'
    obtain ⟨h1, h2⟩ := r.ra.obj os hA
    refine ⟨by simp [h1], fun m b hb => ?_⟩
    rcases ob_push hb with hb | ⟨e1, e2⟩
    · obtain ⟨o', h3, h4⟩ := h2 m b hb
      exact ⟨o', by rw [List.getElem?_append_left (List.getElem?_eq_some_iff.mp h3).1]; exact h3, h4.map (fun h' => RD.sub sub obs h') rfl⟩
    · subst e1 e2
      exact ⟨c, by rw [h1]; simp, q⟩
  · rcases ob_push hi with h1 | ⟨h1, n1⟩ <;> rcases ob_push hj with h2 | ⟨h2, n2⟩
    · exact r.ra.inj i j b h1 h2
    · exact absurd (by rw [← n2]; exact List.mem_of_getElem? h1) npo
    · exact absurd (by rw [← n1]; exact List.mem_of_getElem? h2) npo
    · omega
  · rcases List.mem_append.mp hb with hb | hb
    · exact r.ra.kept b hb
    · simp at hb; subst hb; exact r.kept _ ha
  · rcases List.mem_append.mp hb with hb | hb
    · exact r.ra.nix b hb z
    · simp at hb; subst hb; exact np z
  · rcases List.mem_append.mp z with z | z
    · exact r.ra.nres b (hs b hb) z
    · simp at z; subst z; exact hn hb
theorem Ext.objOf {ρ ρ' : Rho} {H H' : Hp} {a : Addr} (e : Ext ρ H ρ' H') (ha : H a = none) (hn : a ∉ ρ.res) : Ext ρ H ⟨ρ'.ix, ρ.res, ρ'.ob ++ [a]⟩ H' := by
  refine ⟨e.fr, fun b q => ?_, e.len, fun n b q hl => e.ix n b q hl, fun _ q => q, fun b hb n m => ⟨(e.rn b hb n m).1, fun z => ?_⟩, e.al, fun n b q => ?_⟩
  · rcases q with q | q | q
    · exact e.nw b (.inl q)
    · exact .inl (.inr (.inl q))
    · rcases List.mem_append.mp q with z | z
      · exact e.nw b (.inr (.inr z))
      · simp at z; subst z; exact .inr ha
  · rcases List.mem_append.mp z with z | z
    · exact (e.rn b hb n m).2 z
    · simp at z; subst z; exact hn hb
  · have := e.ob n b q
    show (ρ'.ob ++ [a])[n]? = some b
    rw [List.getElem?_append_left (List.getElem?_eq_some_iff.mp this).1]; exact this
end
end Snd

namespace Snd
open PySem PySem.Spec PyProof.Rows L2
/-! ### readings -/
def REnv (ρ : Rho) (K : PySem.W.Frag) (H : Hp) (env : Ir.Env) (σ : L2.St) : Prop :=
  env.length = σ.length ∧ ∀ (i : Nat) (v : Ir.Val), env[i]? = some (some v) → ∃ x, σ[i]? = some (some x) ∧ RV ρ K H v x
theorem REnv.mono {ρ ρ' : Rho} {K : PySem.W.Frag} {H H' : Hp} {env : Ir.Env} {σ : L2.St} (h : REnv ρ K H env σ) (e : Ext ρ H ρ' H') : REnv ρ' K H' env σ :=
  ⟨h.1, fun i v q => let ⟨x, h1, h2⟩ := h.2 i v q; ⟨x, h1, h2.mono e⟩⟩
theorem REnv.set {ρ : Rho} {K : PySem.W.Frag} {H : Hp} {env : Ir.Env} {σ : L2.St} (h : REnv ρ K H env σ) {v : Ir.Val} {x : V} (r : RV ρ K H v x) (i : Nat) : REnv ρ K H (env.set i (some v)) (σ.set i (some x)) := by
  refine ⟨by simp [h.1], fun j u q => ?_⟩
  by_cases e : i = j
  · subst e
    rw [List.getElem?_set] at q ⊢
    simp only [if_true] at q ⊢
    split at q
    · rename_i hl
      rw [if_pos (by rw [← h.1]; exact hl)]
      cases q
      exact ⟨x, rfl, r⟩
    · cases q
  · rw [List.getElem?_set_ne e] at q ⊢
    exact h.2 j u q
theorem REnv.wipe {ρ : Rho} {K : PySem.W.Frag} {H : Hp} {env : Ir.Env} {σ : L2.St} (h : REnv ρ K H env σ) : ∀ vs : List Nat, REnv ρ K H (Ir.wipe env vs) (L2.wipe σ vs)
  | [] => h
  | v :: vs => by
    have ih := REnv.wipe h vs
    refine ⟨by simp [Ir.wipe, L2.wipe, ih.1], fun j u q => ?_⟩
    simp only [Ir.wipe, L2.wipe] at q ⊢
    by_cases e : v = j
    · subst e
      rw [List.getElem?_set] at q
      simp at q
    · rw [List.getElem?_set_ne e] at q ⊢
      exact ih.2 j u q
/-- data that may be a cell's list -/
def VD (ρ : Rho) (K : PySem.W.Frag) (H : Hp) : Ir.D → V → Prop
  | .lst xs, v => ∃ a ys, v = .ref a ∧ H a = some (.lst ys) ∧ ys.length ≤ sizeLine ∧ RDs ρ K H xs ys
  | x, v => RD ρ K H x v
theorem VD.of {ρ : Rho} {K : PySem.W.Frag} {H : Hp} {x : Ir.D} {v : V} (h : RD ρ K H x v) : VD ρ K H x v := by
  cases h with
  | lst h n z r => exact ⟨_, _, rfl, h, z, r⟩
  | non => exact .non
  | bool b => exact .bool b
  | int i => exact .int i
  | str s => exact .str s
  | tup h z r => exact RD.tup h z r
  | ro h z r => exact RD.ro h z r
  | oid h => exact RD.oid h
  | fn h => exact RD.fn h
  | exn h z r => exact RD.exn h z r
theorem RV.cell {ρ : Rho} {K : PySem.W.Frag} {H : Hp} {st : Ir.Store} {n : Nat} {c : Ir.Cell} {x : V} (r : RS ρ K st H) (h : RV ρ K H (.ref n) x) (e : st[n]? = some c) (d : c ≠ .dead ∧ ∀ os, c ≠ .arena os) : ∃ a, x = .ref a ∧ ρ.ix[n]? = some (some a) ∧ RC ρ K H a c := by
  obtain ⟨a, h1, h2⟩ := r.get e d
  obtain ⟨_, b, h3, h4⟩ := h
  have := h4 a h1
  subst this
  exact ⟨a, h3, h1, h2⟩
theorem VD.deref {ρ : Rho} {K : PySem.W.Frag} {H : Hp} {st : Ir.Store} {v : Ir.Val} {x : V} {p : Ir.D} (r : RS ρ K st H) (h : RV ρ K H v x) (e : Ir.deref st v = some p) : VD ρ K H p x := by
  cases v with
  | d y =>
    simp only [Ir.deref, Option.some.injEq] at e
    subst e
    exact .of h
  | ref n =>
    simp only [Ir.deref] at e
    split at e
    · rename_i xs hx
      cases e
      obtain ⟨a, e1, e2, ys, h1, h2, h3⟩ := RV.cell r h hx (by simp)
      exact ⟨a, ys, e1, h1, h2, h3⟩
    · cases e

variable {X : Cx} {C : Ir.Calls}
def tI (C : Ir.Calls) (K : PySem.W.Frag) (e : Ir.Ex) : TE := fun σ H Q => ∃ ρ env st v st', RS ρ K st H ∧ REnv ρ K H env σ ∧ Ir.eval C e env st = .ok v st' ∧
  ∀ ρ' H' x, Ext ρ H ρ' H' → RS ρ' K st' H' → RV ρ' K H' v x → Q x H'
def tIs (C : Ir.Calls) (K : PySem.W.Frag) (es : List Ir.Ex) : TA := fun σ H Q => ∃ ρ env st vs st', RS ρ K st H ∧ REnv ρ K H env σ ∧ Ir.evals C es env st = .ok vs st' ∧
  ∀ ρ' H' xs, Ext ρ H ρ' H' → RS ρ' K st' H' → RVs ρ' K H' vs xs → Q xs H'
def tIT (C : Ir.Calls) (K : PySem.W.Frag) (e : Ir.Ex) : TT := fun σ H Q => ∃ ρ env st b st', RS ρ K st H ∧ REnv ρ K H env σ ∧ Ir.eval C e env st = .ok (.d (.bool b)) st' ∧
  ∀ ρ' H', Ext ρ H ρ' H' → RS ρ' K st' H' → Q b H'
def tIO (C : Ir.Calls) (K : PySem.W.Frag) (e : Option Ir.Ex) : TO := fun σ H Q => ∃ ρ env st v st', RS ρ K st H ∧ REnv ρ K H env σ ∧ Ir.evalO C e env st = .ok v st' ∧
  ∀ ρ' H', Ext ρ H ρ' H' → RS ρ' K st' H' → Q v H'
def tICs (C : Ir.Calls) (K : PySem.W.Frag) (es : List Ir.Ex) : TT := fun σ H Q => ∃ ρ env st b st', RS ρ K st H ∧ REnv ρ K H env σ ∧ Ir.conds C es env st = .ok b st' ∧
  ∀ ρ' H', Ext ρ H ρ' H' → RS ρ' K st' H' → Q b H'
abbrev SE (X : Cx) (C : Ir.Calls) (e : Expr) (ir : Ir.Ex) : Prop := PE X e (tI C X.K ir)
abbrev SEs (X : Cx) (C : Ir.Calls) (es : List Expr) (ir : List Ir.Ex) : Prop := PA X es (tIs C X.K ir)
abbrev ST (X : Cx) (C : Ir.Calls) (e : Expr) (ir : Ir.Ex) : Prop := PT X e (tIT C X.K ir)
abbrev SW (X : Cx) (C : Ir.Calls) (e : Expr) (ir : Ir.Ex) : Prop := PW X e (tIT C X.K ir)
abbrev SO (X : Cx) (C : Ir.Calls) (e : Option Expr) (ir : Option Ir.Ex) : Prop := PO X e (tIO C X.K ir)
abbrev SCs (X : Cx) (C : Ir.Calls) (es : List Expr) (ir : List Ir.Ex) : Prop := PTs X es (tICs C X.K ir)
theorem pe_imp {e : Expr} {t t' : TE} (h : PE X e t) (w : ∀ σ H Q, t' σ H Q → t σ H Q) : PE X e t' := ⟨fun pins s σ H Q I q => h.run pins s σ H Q I (w σ H Q q)⟩
theorem pt_imp {e : Expr} {t t' : TT} (h : PT X e t) (w : ∀ σ H Q, t' σ H Q → t σ H Q) : PT X e t' := ⟨fun pins s σ H Q I q => h.run pins s σ H Q I (w σ H Q q)⟩
theorem pw_imp {e : Expr} {t t' : TT} (h : PW X e t) (w : ∀ σ H Q, t' σ H Q → t σ H Q) : PW X e t' := ⟨fun wh pins s σ H Q I q => h.run wh pins s σ H Q I (w σ H Q q)⟩
theorem pa_imp {es : List Expr} {t t' : TA} (h : PA X es t) (w : ∀ σ H Q, t' σ H Q → t σ H Q) : PA X es t' := ⟨fun p pins s σ H Q I q => h.run p pins s σ H Q I (w σ H Q q)⟩
theorem po_imp {e : Option Expr} {t t' : TO} (h : PO X e t) (w : ∀ σ H Q, t' σ H Q → t σ H Q) : PO X e t' := ⟨fun pins s σ H Q I q => h.run pins s σ H Q I (w σ H Q q)⟩
theorem pts_imp {es : List Expr} {t t' : TT} (h : PTs X es t) (w : ∀ σ H Q, t' σ H Q → t σ H Q) : PTs X es t' := ⟨fun pins s σ H Q I q => h.run pins s σ H Q I (w σ H Q q)⟩

theorem bok {α β : Type} {r : Ir.Res α} {f : α → Ir.Store → Ir.Res β} {b : β} {st : Ir.Store} (h : r.bind f = .ok b st) : ∃ a s1, r = .ok a s1 ∧ f a s1 = .ok b st := Ir.Res.bind_eq_ok h
theorem ook {α β : Type} {o : Option α} {s : Ir.Store} {f : α → Ir.Store → Ir.Res β} {b : β} {st : Ir.Store} (h : (Ir.optR o s).bind f = .ok b st) : ∃ a, o = some a ∧ f a s = .ok b st := by
  obtain ⟨a, s1, h1, h2⟩ := bok h
  obtain ⟨e, rfl⟩ := Ir.optR_ok h1
  exact ⟨a, e, h2⟩
/-! ### names, constants -/
theorem se_var (i : Nat) {x : Str} {pos : Pos} (hN : X.N[i]? = some x := by rfl) (hv : Vis X.env.scope x := by first | exact Or.inl rfl | exact Or.inr (Or.inl rfl) | exact Or.inr (Or.inr rfl)) (hd : (x == ("__debug__" : Str)) = false := by decide) (hcd : (x == ("__classdict__" : Str)) = false := by decide) : SE X C (.Name x pos) (.var i) := by
  refine pe_imp (pe_var (i := i) hN hv hd hcd) fun σ H Q ⟨ρ, env, st, v, st', rs, re, ev, k⟩ => ?_
  simp only [Ir.eval] at ev
  split at ev
  · rename_i w hw
    cases ev
    obtain ⟨x, h1, h2⟩ := re.2 i _ hw
    exact ⟨x, h1, k ρ H x (.refl _ _) rs h2⟩
  · cases ev
theorem se_int {i j pos} : SE X C (.Constant (.int i) j pos) (.con (.int i)) := pe_imp pe_int fun σ H Q ⟨ρ, env, st, v, st', rs, re, ev, k⟩ => by
  simp only [Ir.eval] at ev; cases ev; exact k ρ H _ (.refl _ _) rs (.int i)
theorem se_bool {b j pos} : SE X C (.Constant (.bool b) j pos) (.con (.bool b)) := pe_imp pe_bl fun σ H Q ⟨ρ, env, st, v, st', rs, re, ev, k⟩ => by
  simp only [Ir.eval] at ev; cases ev; exact k ρ H _ (.refl _ _) rs (.bool b)
theorem se_non {j pos} : SE X C (.Constant .none j pos) (.con .non) := pe_imp pe_non fun σ H Q ⟨ρ, env, st, v, st', rs, re, ev, k⟩ => by
  simp only [Ir.eval] at ev; cases ev; exact k ρ H _ (.refl _ _) rs .non
theorem se_str {s : String} {j pos} : SE X C (.Constant (.str (Str.ofString s)) j pos) (.con (.str s)) := pe_imp pe_str fun σ H Q ⟨ρ, env, st, v, st', rs, re, ev, k⟩ => by
  simp only [Ir.eval] at ev; cases ev; exact k ρ H _ (.refl _ _) rs (.str s)
/-! ### lists of expressions -/
theorem ses_nil : SEs X C [] [] := pa_imp pa_nil fun σ H Q ⟨ρ, env, st, v, st', rs, re, ev, k⟩ => by
  simp only [Ir.evals] at ev; cases ev; exact k ρ H _ (.refl _ _) rs .nil
theorem ses_cons {e : Expr} {es : List Expr} {i : Ir.Ex} {is : List Ir.Ex} (h : SE X C e i) (hs : SEs X C es is) (hst : starEach (e :: es) X.env = (false, eval e X.env) :: starEach es X.env := by rfl) : SEs X C (e :: es) (i :: is) := by
  refine pa_imp (pa_cons h hs hst) fun σ H Q ⟨ρ, env, st, v, st', rs, re, ev, k⟩ => ?_
  simp only [Ir.evals] at ev
  obtain ⟨x, s1, e1, ev⟩ := bok ev
  obtain ⟨xs, s2, e2, ev⟩ := bok ev
  cases ev
  exact ⟨ρ, env, st, x, s1, rs, re, e1, fun ρ1 H1 X1 x1 rs1 rx => ⟨ρ1, env, s1, xs, st', rs1, re.mono x1, e2, fun ρ2 H2 XS x2 rs2 rxs => k ρ2 H2 (X1 :: XS) (x1.trans x2) rs2 (.cons (rx.mono x2) rxs)⟩⟩
/-- a new tuple, list -/
theorem grow_tup {ρ : Rho} {K : PySem.W.Frag} {st : Ir.Store} {H : Hp} {xs : List Ir.D} {ys : List V} (rs : RS ρ K st H) (r : RDs ρ K H xs ys) (z : ys.length ≤ sizeLine) {p : Addr} (hp : H p = none) : RD ρ K (upd H p (.tup ys)) (.tup xs) (.ref p) :=
  .tup (.inl ⟨.inl upd_same, rs.fresh hp⟩) z (r.mono (.grow rs hp _))
theorem grow_lst {ρ : Rho} {K : PySem.W.Frag} {st : Ir.Store} {H : Hp} {xs : List Ir.D} {ys : List V} (rs : RS ρ K st H) (r : RDs ρ K H xs ys) (z : ys.length ≤ sizeLine) {p : Addr} (hp : H p = none) : RD ρ K (upd H p (.lst ys)) (.lst xs) (.ref p) :=
  .lst upd_same (rs.fresh hp) z (r.mono (.grow rs hp _))
theorem se_tup {es : List Expr} {is : List Ir.Ex} {x1} {pos : Pos} (hs : SEs X C es is) (hl : is.length ≤ sizeLine := by decide) : SE X C (.Tuple es x1 pos) (.tup is) := by
  refine pe_imp (pe_tup hs) fun σ H Q ⟨ρ, env, st, v, st', rs, re, ev, k⟩ => ?_
  simp only [Ir.eval] at ev
  obtain ⟨vs, s1, e1, ev⟩ := bok ev
  obtain ⟨ds, e2, ev⟩ := ook ev
  cases ev
  refine ⟨ρ, env, st, vs, st', rs, re, e1, fun ρ1 H1 XS x1 rs1 rx => ?_⟩
  have hlen : XS.length ≤ sizeLine := by
    have : ∀ (es : List Ir.Ex) (env : Ir.Env) (st st' : Ir.Store) (vs : List Ir.Val), Ir.evals C es env st = .ok vs st' → vs.length = es.length := by
      intro es
      induction es with
      | nil => intro env st st' vs h; simp only [Ir.evals] at h; cases h; rfl
      | cons e es ih =>
        intro env st st' vs h
        simp only [Ir.evals] at h
        obtain ⟨x, s1, e1, h⟩ := bok h
        obtain ⟨xs, s2, e2, h⟩ := bok h
        cases h
        simp [ih _ _ _ _ e2]
    rw [← rx.length, this _ _ _ _ _ e1]; exact hl
  refine ⟨hlen, fun p hp => k ρ1 _ _ (x1.trans (.grow rs1 hp _)) (rs1.grow hp _) (grow_tup rs1 (rx.ds e2) hlen hp)⟩
theorem evals_len : ∀ (es : List Ir.Ex) (env : Ir.Env) (st st' : Ir.Store) (vs : List Ir.Val), Ir.evals C es env st = .ok vs st' → vs.length = es.length := by
  intro es
  induction es with
  | nil => intro env st st' vs h; simp only [Ir.evals] at h; cases h; rfl
  | cons e es ih =>
    intro env st st' vs h
    simp only [Ir.evals] at h
    obtain ⟨x, s1, e1, h⟩ := bok h
    obtain ⟨xs, s2, e2, h⟩ := bok h
    cases h
    simp [ih _ _ _ _ e2]
/-! ### expressions that make a new list: as data, or as a cell -/
/-- ir makes a list of data at an address that was free -/
def tN (C : Ir.Calls) (K : PySem.W.Frag) (e : Ir.Ex) : TE := fun σ H Q => ∃ ρ env st xs st', RS ρ K st H ∧ REnv ρ K H env σ ∧ Ir.eval C e env st = .ok (.d (.lst xs)) st' ∧
  ∀ ρ' H' a ys, Ext ρ H ρ' H' → RS ρ' K st' H' → H a = none → a ∈ ρ'.res → H' a = some (.lst ys) → ys.length ≤ sizeLine → RDs ρ' K H' xs ys → Q (.ref a) H'
abbrev SN (X : Cx) (C : Ir.Calls) (e : Expr) (ir : Ir.Ex) : Prop := PE X e (tN C X.K ir)
theorem tI_list {K : PySem.W.Frag} {ir : Ir.Ex} (hl : ∀ env st v st', Ir.eval C ir env st = .ok v st' → ∃ xs, v = .d (.lst xs)) : ∀ σ H Q, tI C K ir σ H Q → tN C K ir σ H Q := by
  intro σ H Q ⟨ρ, env, st, v, st', rs, re, ev, k⟩
  obtain ⟨xs, rfl⟩ := hl _ _ _ _ ev
  refine ⟨ρ, env, st, xs, st', rs, re, ev, fun ρ' H' a ys x rs' ha hr hh z r => k (ρ'.drop ρ.res) H' _ x.drop (rs'.drop x.rs) (RD.lst hh ?_ z (r.drop' x.rs))⟩
  rintro (q | q | q)
  · exact rs'.disj a hr q
  · exact rs.fresh ha (.inr (.inl q))
  · exact rs'.ra.nres a hr q
theorem tI_newL {K : PySem.W.Frag} {ir : Ir.Ex} : ∀ σ H Q, tI C K (.newL ir) σ H Q → tN C K ir σ H Q := by
  intro σ H Q ⟨ρ, env, st, v, st', rs, re, ev, k⟩
  simp only [Ir.eval] at ev
  obtain ⟨x, s1, e1, ev⟩ := bok ev
  split at ev
  · rename_i xs
    cases ev
    refine ⟨ρ, env, st, xs, s1, rs, re, e1, fun ρ' H' a ys x rs' ha hr hh z r => ?_⟩
    have hn : a ∉ ρ.res := fun q => rs.fresh ha (.inr (.inl q))
    have sub : ∀ b, Rho.own ⟨ρ'.ix ++ [some a], ρ.res, ρ'.ob⟩ b → ρ'.own b := fun b q => by
      rcases q with q | q | q
      · rcases List.mem_append.mp q with q | q
        · exact .inl q
        · simp at q; subst q; exact .inr (.inl hr)
      · exact .inr (.inl (x.rs b q))
      · exact .inr (.inr q)
    refine k ⟨ρ'.ix ++ [some a], ρ.res, ρ'.ob⟩ _ _ (x.cellOf ha hn) (rs'.cellOf x.rs hr hn ⟨ys, hh, z, r.sub sub fun _ _ q => q⟩) ⟨by simp [rs'.len], a, rfl, fun b hb => ?_⟩
    have hb : (ρ'.ix ++ [some a])[s1.length]? = some (some b) := hb
    rw [rs'.len, List.getElem?_append_right (Nat.le_refl _)] at hb
    simp at hb
    exact hb.symm
  · cases ev
theorem se_list {e : Expr} {ir : Ir.Ex} (hl : ∀ env st v st', Ir.eval C ir env st = .ok v st' → ∃ xs, v = .d (.lst xs)) (h : SN X C e ir) : SE X C e ir := pe_imp h (tI_list hl)
theorem se_newL {e : Expr} {ir : Ir.Ex} (h : SN X C e ir) : SE X C e (.newL ir) := pe_imp h tI_newL
/-- a new list, kept aside -/
theorem sn_fin {K : PySem.W.Frag} {ρ ρ1 : Rho} {H H1 : Hp} {st : Ir.Store} {xs : List Ir.D} {ys : List V} {Q : VK} (x : Ext ρ H ρ1 H1) (rs : RS ρ1 K st H1) (r : RDs ρ1 K H1 xs ys) (z : ys.length ≤ sizeLine) {p : Addr} (hp : H1 p = none)
    (k : ∀ ρ' H' a ys, Ext ρ H ρ' H' → RS ρ' K st H' → H a = none → a ∈ ρ'.res → H' a = some (.lst ys) → ys.length ≤ sizeLine → RDs ρ' K H' xs ys → Q (.ref a) H') : Q (.ref p) (upd H1 p (.lst ys)) :=
  k (ρ1.keep p) _ p ys (x.trans (.keep rs hp _)) (rs.keep hp _) (x.al p hp) List.mem_cons_self upd_same z (r.mono (.keep rs hp _))
theorem sn_lst {es : List Expr} {is : List Ir.Ex} {pos : Pos} (hs : SEs X C es is) (hl : is.length ≤ sizeLine := by decide) : SN X C (.List es pos) (.lst is) := by
  refine pe_imp (pe_lst hs) fun σ H Q ⟨ρ, env, st, v, st', rs, re, ev, k⟩ => ?_
  simp only [Ir.eval] at ev
  obtain ⟨vs, s1, e1, ev⟩ := bok ev
  obtain ⟨ds, e2, ev⟩ := ook ev
  cases ev
  refine ⟨ρ, env, st, vs, st', rs, re, e1, fun ρ1 H1 XS x1 rs1 rx => ?_⟩
  have hlen : XS.length ≤ sizeLine := by rw [← rx.length, evals_len _ _ _ _ _ e1]; exact hl
  exact ⟨hlen, fun p hp => sn_fin x1 rs1 (rx.ds e2) hlen hp k⟩
theorem is_lst {is : List Ir.Ex} : ∀ env st v st', Ir.eval C (.lst is) env st = .ok v st' → ∃ xs, v = .d (.lst xs) := fun env st v st' ev => by
  simp only [Ir.eval] at ev
  obtain ⟨vs, s1, e1, ev⟩ := bok ev
  obtain ⟨ds, e2, ev⟩ := ook ev
  cases ev
  exact ⟨_, rfl⟩
theorem se_newD {pos : Pos} : SE X C (.Dict [] [] pos) .newD := by
  refine pe_imp pe_dnewK fun σ H Q ⟨ρ, env, st, v, st', rs, re, ev, k⟩ => fun p hp => ?_
  simp only [Ir.eval] at ev
  cases ev
  refine k (ρ.push p) _ _ (.push rs hp _) (rs.push hp ⟨[], upd_same, Nat.zero_le _, .nil⟩) ⟨by simp [Rho.push, rs.len], p, rfl, fun b hb => ?_⟩
  simp only [Rho.push] at hb
  rw [rs.len, List.getElem?_append_right (Nat.le_refl _)] at hb
  simp at hb
  exact hb.symm
/-- a cell given out as data -/
theorem se_frz {e : Expr} {ir : Ir.Ex} (h : SE X C e ir) : SE X C e (.frz ir) := by
  refine pe_imp h fun σ H Q ⟨ρ, env, st, v, st', rs, re, ev, k⟩ => ?_
  simp only [Ir.eval] at ev
  obtain ⟨x, s1, e1, ev⟩ := bok ev
  split at ev
  · rename_i n
    split at ev
    · rename_i xs hx
      cases ev
      refine ⟨ρ, env, st, _, s1, rs, re, e1, fun ρ1 H1 X1 x1 rs1 rx => ?_⟩
      obtain ⟨a, e2, e3, ys, h1, h2, h3⟩ := RV.cell rs1 rx hx (by simp)
      subst e2
      have hn : n < ρ1.ix.length := (List.getElem?_eq_some_iff.mp e3).1
      exact k _ _ _ (x1.trans (.kill ρ1 H1 n)) (rs1.kill hn) (RD.lst h1 (kill_notin rs1 e3) h2 (h3.mono (.kill ρ1 H1 n)))
    · cases ev
  · cases ev
end Snd

namespace Snd
open PySem PySem.Spec PyProof.Rows L2
/-! ### data as the library's data -/
mutual
def toPy : Ir.D → PyData
  | .non => .none
  | .bool b => .bool b
  | .int i => .int i
  | .str s => .str (Str.ofString s)
  | .tup xs => .tuple (toPys xs)
  | .lst xs => .list (toPys xs)
  | .ro _ => .none
  | .oid _ => .none
  | .fn _ => .none
  | .exn _ _ _ => .none
def toPys : List Ir.D → List PyData
  | [] => []
  | x :: xs => toPy x :: toPys xs
end
theorem ofString_inj {x y : String} (h : Str.ofString x = Str.ofString y) : x = y := by
  rw [Str.ofString_eq_toList, Str.ofString_eq_toList] at h
  have h1 := congrArg (fun z : Str => z.cps.toList) h
  simp only at h1
  have h2 : x.toList.map Char.toNat = y.toList.map Char.toNat := by simpa using h1
  have inj : ∀ a b : Char, a.toNat = b.toNat → a = b := fun a b e => Char.ext (UInt32.toNat_inj.mp e)
  have h3 : x.toList = y.toList := (List.map_inj_right inj).mp h2
  exact String.toList_inj.mp h3
theorem ofString_beq (x y : String) : (Str.ofString x == Str.ofString y) = decide (x = y) := by
  by_cases e : x = y
  · subst e; simp
  · have : ¬ Str.ofString x = Str.ofString y := fun h => e (ofString_inj h)
    rw [decide_eq_false e]
    simpa using this
mutual
theorem eqv_toPy : ∀ (x y : Ir.D), x.dep < 1000 → y.dep < 1000 → PyData.eqv (toPy x) (toPy y) = x.eqv y
  | .tup xs, .tup ys, hx, hy => by
    simp only [Ir.D.dep] at hx hy
    simp only [toPy, PyData.eqv, Ir.D.eqv]
    exact eqv_toPys xs ys (by omega) (by omega)
  | .lst xs, .lst ys, hx, hy => by
    simp only [Ir.D.dep] at hx hy
    simp only [toPy, PyData.eqv, Ir.D.eqv]
    exact eqv_toPys xs ys (by omega) (by omega)
  | .str a, .str b, _, _ => by simp only [toPy, PyData.eqv, Ir.D.eqv, ofString_beq]
  | .ro _, _, hx, _ => by simp [Ir.D.dep] at hx
  | .oid _, _, hx, _ => by simp [Ir.D.dep] at hx
  | .fn _, _, hx, _ => by simp [Ir.D.dep] at hx
  | .exn _ _ _, _, hx, _ => by simp [Ir.D.dep] at hx
  | .non, .exn _ _ _, _, hy => by simp [Ir.D.dep] at hy
  | .bool _, .exn _ _ _, _, hy => by simp [Ir.D.dep] at hy
  | .int _, .exn _ _ _, _, hy => by simp [Ir.D.dep] at hy
  | .str _, .exn _ _ _, _, hy => by simp [Ir.D.dep] at hy
  | .tup _, .exn _ _ _, _, hy => by simp [Ir.D.dep] at hy
  | .lst _, .exn _ _ _, _, hy => by simp [Ir.D.dep] at hy
  | .non, .oid _, _, hy => by simp [Ir.D.dep] at hy
  | .non, .fn _, _, hy => by simp [Ir.D.dep] at hy
  | .bool _, .oid _, _, hy => by simp [Ir.D.dep] at hy
  | .bool _, .fn _, _, hy => by simp [Ir.D.dep] at hy
  | .int _, .oid _, _, hy => by simp [Ir.D.dep] at hy
  | .int _, .fn _, _, hy => by simp [Ir.D.dep] at hy
  | .str _, .oid _, _, hy => by simp [Ir.D.dep] at hy
  | .str _, .fn _, _, hy => by simp [Ir.D.dep] at hy
  | .tup _, .oid _, _, hy => by simp [Ir.D.dep] at hy
  | .tup _, .fn _, _, hy => by simp [Ir.D.dep] at hy
  | .lst _, .oid _, _, hy => by simp [Ir.D.dep] at hy
  | .lst _, .fn _, _, hy => by simp [Ir.D.dep] at hy
  | .non, .ro _, _, hy => by simp [Ir.D.dep] at hy
  | .bool _, .ro _, _, hy => by simp [Ir.D.dep] at hy
  | .int _, .ro _, _, hy => by simp [Ir.D.dep] at hy
  | .str _, .ro _, _, hy => by simp [Ir.D.dep] at hy
  | .tup _, .ro _, _, hy => by simp [Ir.D.dep] at hy
  | .lst _, .ro _, _, hy => by simp [Ir.D.dep] at hy
  | .non, .non, _, _ => by simp [toPy, PyData.eqv, Ir.D.eqv]
  | .non, .bool _, _, _ => by simp [toPy, PyData.eqv, Ir.D.eqv]
  | .non, .int _, _, _ => by simp [toPy, PyData.eqv, Ir.D.eqv]
  | .non, .str _, _, _ => by simp [toPy, PyData.eqv, Ir.D.eqv]
  | .non, .tup _, _, _ => by simp [toPy, PyData.eqv, Ir.D.eqv]
  | .non, .lst _, _, _ => by simp [toPy, PyData.eqv, Ir.D.eqv]
  | .bool _, .non, _, _ => by simp [toPy, PyData.eqv, Ir.D.eqv]
  | .bool _, .bool _, _, _ => by simp [toPy, PyData.eqv, Ir.D.eqv]
  | .bool _, .int _, _, _ => by simp [toPy, PyData.eqv, Ir.D.eqv]
  | .bool _, .str _, _, _ => by simp [toPy, PyData.eqv, Ir.D.eqv]
  | .bool _, .tup _, _, _ => by simp [toPy, PyData.eqv, Ir.D.eqv]
  | .bool _, .lst _, _, _ => by simp [toPy, PyData.eqv, Ir.D.eqv]
  | .int _, .non, _, _ => by simp [toPy, PyData.eqv, Ir.D.eqv]
  | .int _, .bool _, _, _ => by simp [toPy, PyData.eqv, Ir.D.eqv]
  | .int _, .int _, _, _ => by simp [toPy, PyData.eqv, Ir.D.eqv]
  | .int _, .str _, _, _ => by simp [toPy, PyData.eqv, Ir.D.eqv]
  | .int _, .tup _, _, _ => by simp [toPy, PyData.eqv, Ir.D.eqv]
  | .int _, .lst _, _, _ => by simp [toPy, PyData.eqv, Ir.D.eqv]
  | .str _, .non, _, _ => by simp [toPy, PyData.eqv, Ir.D.eqv]
  | .str _, .bool _, _, _ => by simp [toPy, PyData.eqv, Ir.D.eqv]
  | .str _, .int _, _, _ => by simp [toPy, PyData.eqv, Ir.D.eqv]
  | .str _, .tup _, _, _ => by simp [toPy, PyData.eqv, Ir.D.eqv]
  | .str _, .lst _, _, _ => by simp [toPy, PyData.eqv, Ir.D.eqv]
  | .tup _, .non, _, _ => by simp [toPy, PyData.eqv, Ir.D.eqv]
  | .tup _, .bool _, _, _ => by simp [toPy, PyData.eqv, Ir.D.eqv]
  | .tup _, .int _, _, _ => by simp [toPy, PyData.eqv, Ir.D.eqv]
  | .tup _, .str _, _, _ => by simp [toPy, PyData.eqv, Ir.D.eqv]
  | .tup _, .lst _, _, _ => by simp [toPy, PyData.eqv, Ir.D.eqv]
  | .lst _, .non, _, _ => by simp [toPy, PyData.eqv, Ir.D.eqv]
  | .lst _, .bool _, _, _ => by simp [toPy, PyData.eqv, Ir.D.eqv]
  | .lst _, .int _, _, _ => by simp [toPy, PyData.eqv, Ir.D.eqv]
  | .lst _, .str _, _, _ => by simp [toPy, PyData.eqv, Ir.D.eqv]
  | .lst _, .tup _, _, _ => by simp [toPy, PyData.eqv, Ir.D.eqv]
theorem eqv_toPys : ∀ (xs ys : List Ir.D), Ir.D.depAll xs < 1000 → Ir.D.depAll ys < 1000 → PyData.eqvAll (toPys xs) (toPys ys) = Ir.D.eqvAll xs ys
  | [], [], _, _ => by simp [toPys, PyData.eqvAll, Ir.D.eqvAll]
  | [], _ :: _, _, _ => by simp [toPys, PyData.eqvAll, Ir.D.eqvAll]
  | _ :: _, [], _, _ => by simp [toPys, PyData.eqvAll, Ir.D.eqvAll]
  | x :: xs, y :: ys, hx, hy => by
    simp only [Ir.D.depAll] at hx hy
    simp only [toPys, PyData.eqvAll, Ir.D.eqvAll]
    rw [eqv_toPy x y (by omega) (by omega), eqv_toPys xs ys (by omega) (by omega)]
end
mutual
theorem dep_toPy : ∀ x : Ir.D, x.dep < 1000 → (toPy x).depth = x.dep
  | .non, _ => by simp [toPy, PyData.depth, Ir.D.dep]
  | .bool _, _ => by simp [toPy, PyData.depth, Ir.D.dep]
  | .int _, _ => by simp [toPy, PyData.depth, Ir.D.dep]
  | .str _, _ => by simp [toPy, PyData.depth, Ir.D.dep]
  | .tup xs, h => by simp only [Ir.D.dep] at h; simp only [toPy, PyData.depth, Ir.D.dep]; rw [dep_toPys xs (by omega)]
  | .lst xs, h => by simp only [Ir.D.dep] at h; simp only [toPy, PyData.depth, Ir.D.dep]; rw [dep_toPys xs (by omega)]
  | .ro _, h => by simp [Ir.D.dep] at h
  | .oid _, h => by simp [Ir.D.dep] at h
  | .fn _, h => by simp [Ir.D.dep] at h
  | .exn _ _ _, h => by simp [Ir.D.dep] at h
theorem dep_toPys : ∀ xs : List Ir.D, Ir.D.depAll xs < 1000 → PyData.depthAll (toPys xs) = Ir.D.depAll xs
  | [], _ => by simp [toPys, PyData.depthAll, Ir.D.depAll]
  | x :: xs, h => by
    simp only [Ir.D.depAll] at h
    simp only [toPys, PyData.depthAll, Ir.D.depAll]
    rw [dep_toPy x (by omega), dep_toPys xs (by omega)]
end
theorem strOk_ofString (s : String) : PyData.strOk (Str.ofString s) = true := by
  rw [Str.ofString_eq_toList]
  unfold PyData.strOk
  simp only [List.all_toArray, List.all_eq_true]
  intro x hx
  simp only [List.mem_map] at hx
  obtain ⟨c, _, rfl⟩ := hx
  have h : c.toNat < 0xD800 ∨ (0xDFFF < c.toNat ∧ c.toNat < 0x110000) := c.valid
  have h2 : c.toNat < 0x110000 := by omega
  exact decide_eq_true h2
mutual
theorem lay_toPy : ∀ x : Ir.D, (toPy x).canLay0 = true
  | .non => by simp [toPy, PyData.canLay0]
  | .bool _ => by simp [toPy, PyData.canLay0]
  | .int _ => by simp [toPy, PyData.canLay0]
  | .str s => by simp [toPy, PyData.canLay0, strOk_ofString]
  | .tup xs => by simp only [toPy, PyData.canLay0]; exact lay_toPys xs
  | .lst xs => by simp only [toPy, PyData.canLay0]; exact lay_toPys xs
  | .ro _ => by simp [toPy, PyData.canLay0]
  | .oid _ => by simp [toPy, PyData.canLay0]
  | .fn _ => by simp [toPy, PyData.canLay0]
  | .exn _ _ _ => by simp [toPy, PyData.canLay0]
theorem lay_toPys : ∀ xs : List Ir.D, PyData.canLayAll0 (toPys xs) = true
  | [] => by simp [toPys, PyData.canLayAll0]
  | x :: xs => by simp [toPys, PyData.canLayAll0, lay_toPy x, lay_toPys xs]
end
theorem shaped_toPy {x : Ir.D} (h : Ir.fine x = true) : SeqAt.shaped (toPy x) = true := by
  have h1 : x.dep ≤ 64 := by simpa [Ir.fine] using h
  unfold SeqAt.shaped
  rw [lay_toPy, dep_toPy x (by omega)]
  simpa using h1
section
variable {ρ : Rho} {K : PySem.W.Frag} {H : Hp}
mutual
theorem RD.dp : ∀ {x : Ir.D} {v : V}, x.dep < 1000 → RD ρ K H x v → Dp K H v (toPy x)
  | _, _, _, .non => .non
  | _, _, _, .bool b => .bl b
  | _, _, _, .int i => .int i
  | _, _, _, .str s => .str _
  | _, _, h, .tup t z r => .tup t.sq (RDs.dp (by simp only [Ir.D.dep] at h; omega) r)
  | _, _, h, .lst t n z r => .lst (SqL.of t) (RDs.dp (by simp only [Ir.D.dep] at h; omega) r)
  | _, _, h, .ro _ _ _ => by simp [Ir.D.dep] at h
  | _, _, h, .oid _ => by simp [Ir.D.dep] at h
  | _, _, h, .fn _ => by simp [Ir.D.dep] at h
  | _, _, h, .exn _ _ _ => by simp [Ir.D.dep] at h
theorem RDs.dp : ∀ {xs : List Ir.D} {vs : List V}, Ir.D.depAll xs < 1000 → RDs ρ K H xs vs → DpAll K H vs (toPys xs)
  | _, _, _, .nil => .nil
  | _, _, h, .cons a r => .cons (RD.dp (by simp only [Ir.D.depAll] at h; omega) a) (RDs.dp (by simp only [Ir.D.depAll] at h; omega) r)
end
theorem VD.dp {x : Ir.D} {v : V} (h : x.dep < 1000) (r : VD ρ K H x v) : Dp K H v (toPy x) := by
  cases x with
  | lst xs =>
    obtain ⟨a, ys, rfl, h1, h2, h3⟩ := r
    exact .lst (SqL.of h1) (h3.dp (by simp only [Ir.D.dep] at h; omega))
  | non => exact RD.dp h r
  | bool b => exact RD.dp h r
  | int i => exact RD.dp h r
  | str s => exact RD.dp h r
  | tup xs => exact RD.dp h r
  | ro xs => exact RD.dp h r
  | oid n => exact RD.dp h r
  | fn n => exact RD.dp h r
  | exn c ns as => exact RD.dp h r
end
theorem fine_dep {x : Ir.D} (h : Ir.fine x = true) : x.dep < 1000 := by
  have h1 : x.dep ≤ 64 := by simpa [Ir.fine] using h
  omega
/-! ### operators -/
variable {X : Cx} {C : Ir.Calls}
theorem opR_or {f : Value → Value → Sem Value} {r r' : R2} (h : OpR X f r) (h' : OpR X f r') : OpR X f (fun x y H Q => r x y H Q ∨ r' x y H Q) := by
  intro pins s σ H x y v u Q I rx ry q
  rcases q with q | q
  · exact h pins s σ H x y v u Q I rx ry q
  · exact h' pins s σ H x y v u Q I rx ry q
theorem opR_imp {f : Value → Value → Sem Value} {r r' : R2} (h : OpR X f r) (w : ∀ x y H Q, r' x y H Q → r x y H Q) : OpR X f r' := fun pins s σ H x y v u Q I rx ry q => h pins s σ H x y v u Q I rx ry (w _ _ _ _ q)
/-- data in, data out -/
def rBin (K : PySem.W.Frag) (o : Ir.Op) : R2 := fun x y H Q => ∃ ρ st p q d, RS ρ K st H ∧ VD ρ K H p x ∧ VD ρ K H q y ∧ Ir.D.bin o p q = some d ∧ ∀ ρ' H' z, Ext ρ H ρ' H' → RS ρ' K st H' → RD ρ' K H' d z → Q z H'
theorem RD.int_inv {ρ : Rho} {K : PySem.W.Frag} {H : Hp} {i : Int} {v : V} (h : RD ρ K H (.int i) v) : v = .int i := by cases h; rfl
theorem RD.str_inv {ρ : Rho} {K : PySem.W.Frag} {H : Hp} {i : String} {v : V} (h : RD ρ K H (.str i) v) : v = .str (Str.ofString i) := by cases h; rfl
theorem RD.bool_inv {ρ : Rho} {K : PySem.W.Frag} {H : Hp} {i : Bool} {v : V} (h : RD ρ K H (.bool i) v) : v = .bl i := by cases h; rfl
theorem RD.non_inv {ρ : Rho} {K : PySem.W.Frag} {H : Hp} {v : V} (h : RD ρ K H .non v) : v = .non := by cases h; rfl
theorem RD.tup_inv {ρ : Rho} {K : PySem.W.Frag} {H : Hp} {xs : List Ir.D} {v : V} (h : RD ρ K H (.tup xs) v) : ∃ a ys, v = .ref a ∧ TpAt ρ K H a ys ∧ ys.length ≤ sizeLine ∧ RDs ρ K H xs ys := by
  cases h with
  | tup h z r => exact ⟨_, _, rfl, h, z, r⟩
theorem RD.ro_inv {ρ : Rho} {K : PySem.W.Frag} {H : Hp} {xs : List Ir.D} {v : V} (h : RD ρ K H (.ro xs) v) : ∃ a ys, v = .ref a ∧ LrAt ρ K H a ys ∧ ys.length ≤ sizeLine ∧ RDs ρ K H xs ys := by
  cases h with
  | ro h z r => exact ⟨_, _, rfl, h, z, r⟩
theorem lim_eq : Ir.LIM = sizeLine := by rw [Ir.LIM_eq]; decide
theorem bin_int {o : Ir.Op} {op : Operator} {g : Int → Int → Int} {Cd : Int → Int → Prop} (h : OpR X (binaryOp op) (rI Cd fun i j => .int (g i j)))
    (hd : ∀ p q d, Ir.D.bin o p q = some d → ∃ i j, p = .int i ∧ q = .int j ∧ Cd i j ∧ d = .int (g i j)) : OpR X (binaryOp op) (rBin X.K o) := by
  refine opR_imp h fun x y H Q ⟨ρ, st, p, q, d, rs, hp, hq, hb, k⟩ => ?_
  obtain ⟨i, j, rfl, rfl, hc, rfl⟩ := hd p q d hb
  exact ⟨i, j, RD.int_inv hp, RD.int_inv hq, hc, k ρ H _ (.refl _ _) rs (.int _)⟩
theorem op_sub0 : OpR X (binaryOp .Sub) (rI (fun _ _ => True) fun i j => .int (i - j)) := opI fun _ _ _ _ _ _ _ _ q => sub_int q
theorem op_add0 : OpR X (binaryOp .Add) (rI (fun _ _ => True) fun i j => .int (i + j)) := opI fun _ _ _ _ _ _ _ _ q => add_int q
theorem bin_sub : OpR X (binaryOp .Sub) (rBin X.K .sub) := bin_int op_sub0 fun p q d h => by
  cases p <;> cases q <;> simp [Ir.D.bin] at h
  exact ⟨_, _, rfl, rfl, trivial, h.symm⟩
theorem big_lt {i : Int} (h : Ir.bigOk i = true) : i.natAbs < 2 ^ 4000 := by
  unfold Ir.bigOk at h
  exact of_decide_eq_true h
theorem bin_mul : OpR X (binaryOp .Mult) (rBin X.K .mul) := by
  refine opR_imp (opR_or op_mulW op_mul) fun x y H Q ⟨ρ, st, p, q, d, rs, hp, hq, hb, k⟩ => ?_
  cases p <;> cases q <;> simp only [Ir.D.bin, reduceCtorEq] at hb
  rename_i i j
  split at hb
  · rename_i hc
    cases hb
    have kk := k ρ H _ (.refl _ _) rs (.int (i * j))
    rw [Bool.or_eq_true, Bool.and_eq_true, Bool.or_eq_true] at hc
    rcases hc with hc | hc | hc
    · exact .inl ⟨i, j, RD.int_inv hp, RD.int_inv hq, wide_mul (big_lt hc.1) (big_lt hc.2) (by decide) (by decide) (by decide), kk⟩
    · exact .inr ⟨i, j, RD.int_inv hp, RD.int_inv hq, .inl (of_decide_eq_true hc), kk⟩
    · exact .inr ⟨i, j, RD.int_inv hp, RD.int_inv hq, .inr (of_decide_eq_true hc), kk⟩
  · cases hb
theorem bin_fdiv : OpR X (binaryOp .FloorDiv) (rBin X.K .fdiv) := bin_int op_fdivW fun p q d h => by
  cases p <;> cases q <;> simp only [Ir.D.bin, reduceCtorEq] at h
  rename_i i j
  split at h
  · rename_i hc
    rw [Bool.and_eq_true] at hc
    cases h
    exact ⟨_, _, rfl, rfl, wide_div (of_decide_eq_true hc.1) (big_lt hc.2) (by decide) (by decide), rfl⟩
  · cases h
theorem bin_mod : OpR X (binaryOp .Mod) (rBin X.K .mod) := bin_int op_mod fun p q d h => by
  cases p <;> cases q <;> simp only [Ir.D.bin, reduceCtorEq] at h
  rename_i i j
  split at h
  · rename_i hc
    cases h
    exact ⟨_, _, rfl, rfl, hc, rfl⟩
  · cases h
theorem bits_of {i : Int} {n : Nat} (h : i.natAbs < 2 ^ n) : Builtin.Int.intBits i ≤ n := by
  unfold Builtin.Int.intBits
  split
  · exact Nat.zero_le _
  · rename_i h0
    have : i.natAbs ≠ 0 := by
      intro z
      apply h0
      simpa using z
    exact (Nat.log2_lt this).mpr h
theorem op_powB : OpR X (binaryOp .Pow) (rI (fun i j => 0 ≤ j ∧ j ≤ 100 ∧ i.natAbs < 2 ^ 4000) fun i j => .int (i ^ j.toNat)) := opI fun i j _ _ _ _ _ hc q => pow_int hc.1 (by
  have h1 := bits_of hc.2.2
  have h2 := hc.1
  have h3 := hc.2.1
  have h4 : (Builtin.Int.intBits i : Int) ≤ 4000 := by omega
  calc (Builtin.Int.intBits i : Int) * j ≤ 4000 * j := Int.mul_le_mul_of_nonneg_right h4 h2
    _ ≤ 2 ^ 27 := by omega) q
theorem bin_pow : OpR X (binaryOp .Pow) (rBin X.K .pow) := bin_int op_powB fun p q d h => by
  cases p <;> cases q <;> simp only [Ir.D.bin, reduceCtorEq] at h
  rename_i i j
  split at h
  · rename_i hc
    rw [Bool.and_eq_true, Bool.and_eq_true] at hc
    cases h
    exact ⟨_, _, rfl, rfl, ⟨of_decide_eq_true hc.1.1, of_decide_eq_true hc.1.2, big_lt hc.2⟩, rfl⟩
  · cases h
theorem ofString_app (x y : String) : Str.ofString x ++ Str.ofString y = Str.ofString (x ++ y) := by
  have h : ∀ a b : Str, a ++ b = ⟨a.cps ++ b.cps⟩ := fun a b => by first | rfl | (simp [HAppend.hAppend, Append.append]; rfl)
  rw [Str.ofString_eq_toList, Str.ofString_eq_toList, Str.ofString_eq_toList, h]
  simp
theorem ofString_len (x : String) : (Str.ofString x).length = x.length := by
  rw [Str.ofString_eq_toList]
  show ((x.toList.map Char.toNat).toArray).size = x.length
  simp [String.length_toList]
theorem bin_add : OpR X (binaryOp .Add) (rBin X.K .add) := by
  refine opR_imp (opR_or (opR_or op_add0 op_add_str) (opR_or op_catA op_cat)) fun x y H Q ⟨ρ, st, p, q, d, rs, hp, hq, hb, k⟩ => ?_
  cases p <;> cases q <;> simp only [Ir.D.bin, reduceCtorEq] at hb
  · cases hb
    exact .inl (.inl ⟨_, _, RD.int_inv hp, RD.int_inv hq, trivial, k ρ H _ (.refl _ _) rs (.int _)⟩)
  · rename_i a b
    split at hb
    · rename_i hl
      cases hb
      refine .inl (.inr ⟨_, _, RD.str_inv hp, RD.str_inv hq, by rw [ofString_len, ofString_len, ← lim_eq]; exact hl, ?_⟩)
      rw [ofString_app]
      exact k ρ H _ (.refl _ _) rs (.str _)
    · cases hb
  · rename_i xs ys
    split at hb
    · rename_i hl
      cases hb
      obtain ⟨a, as, rfl, ta, za, ra⟩ := RD.tup_inv hp
      obtain ⟨b, bs, rfl, tb, zb, rb⟩ := RD.tup_inv hq
      have hl2 : as.length + bs.length ≤ sizeLine := by rw [← ra.length, ← rb.length, ← lim_eq]; exact hl
      refine .inr (.inl ⟨a, b, as, bs, rfl, rfl, ta.sq, tb.sq, hl2, fun z => ?_, fun _ z => ?_, fun _ _ p hp => ?_⟩)
      · subst z
        cases ra
        exact k ρ H _ (.refl _ _) rs (.tup tb zb rb)
      · subst z
        cases rb
        rw [List.append_nil] at k
        exact k ρ H _ (.refl _ _) rs (.tup ta za ra)
      · exact k ρ _ _ (.grow rs hp _) (rs.grow hp _) (grow_tup rs (ra.append rb) (by rw [List.length_append]; exact hl2) hp)
    · cases hb
  · rename_i xs ys
    split at hb
    · rename_i hl
      cases hb
      obtain ⟨a, as, rfl, ha, za, ra⟩ := hp
      obtain ⟨b, bs, rfl, hb', zb, rb⟩ := hq
      have hl2 : as.length + bs.length ≤ sizeLine := by rw [← ra.length, ← rb.length, ← lim_eq]; exact hl
      refine .inr (.inr ⟨a, b, as, bs, rfl, rfl, ha, hb', hl2, fun p hp => ?_⟩)
      exact k ρ _ _ (.grow rs hp _) (rs.grow hp _) (grow_lst rs (ra.append rb) (by rw [List.length_append]; exact hl2) hp)
    · cases hb
theorem se_bin {a b : Expr} {op : Operator} {o : Ir.Op} {ia ib : Ir.Ex} {pos : Pos} (ho : OpR X (binaryOp op) (rBin X.K o)) (ha : SE X C a ia) (hb : SE X C b ib) : SE X C (.BinOp a op b pos) (.bin o ia ib) := by
  refine pe_imp (pe_op ho ha hb) fun σ H Q ⟨ρ, env, st, v, st', rs, re, ev, k⟩ => ?_
  simp only [Ir.eval] at ev
  obtain ⟨x, s1, e1, ev⟩ := bok ev
  obtain ⟨y, s2, e2, ev⟩ := bok ev
  obtain ⟨p, e3, ev⟩ := ook ev
  obtain ⟨q, e4, ev⟩ := ook ev
  obtain ⟨d, e5, ev⟩ := ook ev
  cases ev
  exact ⟨ρ, env, st, x, s1, rs, re, e1, fun ρ1 H1 X1 x1 rs1 rx => ⟨ρ1, env, s1, y, st', rs1, re.mono x1, e2, fun ρ2 H2 Y x2 rs2 ry =>
    ⟨ρ2, st', p, q, d, rs2, .deref rs2 (rx.mono x2) e3, .deref rs2 ry e4, e5, fun ρ' H' z x3 rs3 rz => k ρ' H' z ((x1.trans x2).trans x3) rs3 rz⟩⟩⟩
theorem se_neg {a : Expr} {ia : Ir.Ex} {pos : Pos} (ha : SE X C a ia) : SE X C (.UnaryOp .USub a pos) (.neg ia) := by
  refine pe_imp (pe_un un_neg ha) fun σ H Q ⟨ρ, env, st, v, st', rs, re, ev, k⟩ => ?_
  simp only [Ir.eval] at ev
  obtain ⟨x, s1, e1, ev⟩ := bok ev
  obtain ⟨i, e2, ev⟩ := ook ev
  cases ev
  refine ⟨ρ, env, st, x, st', rs, re, e1, fun ρ1 H1 X1 x1 rs1 rx => ?_⟩
  have : x = .d (.int i) := by
    cases x with
    | ref n => simp [Ir.asI] at e2
    | d y => cases y <;> simp [Ir.asI] at e2; subst e2; rfl
  subst this
  exact ⟨i, RD.int_inv rx, k ρ1 H1 _ x1 rs1 (.int _)⟩
end Snd

namespace Snd
open PySem PySem.Spec PyProof.Rows L2
variable {X : Cx} {C : Ir.Calls}
/-! ### comparisons -/
def rCmp (K : PySem.W.Frag) (o : Ir.Cmp) : R2 := fun x y H Q => ∃ ρ st p q b, RS ρ K st H ∧ RV ρ K H p x ∧ RV ρ K H q y ∧ Ir.cmpV o st p q = some b ∧ Q (.bl b) H
theorem cmpV_plain {o : Ir.Cmp} (h : o ≠ .isin ∧ o ≠ .notin ∧ o ≠ .is ∧ o ≠ .isnot ∧ o ≠ .sin ∧ o ≠ .snin) {st : Ir.Store} {p q : Ir.Val} {b : Bool} (e : Ir.cmpV o st p q = some b) : ∃ x y, Ir.deref st p = some x ∧ Ir.deref st q = some y ∧ Ir.D.cmp o x y = some b := by
  obtain ⟨h1, h2, h3, h4, h5, h6⟩ := h
  unfold Ir.cmpV at e
  split at e
  · exact absurd rfl h1
  · exact absurd rfl h2
  · exact absurd rfl h3
  · exact absurd rfl h4
  · exact absurd rfl h5
  · exact absurd rfl h6
  · split at e
    · rename_i a b' ha hb
      exact ⟨a, b', ha, hb, e⟩
    · cases e
theorem cmp_eq {n : Nat} (hr : Room n X.A) : OpR X (compareOp .Eq) (rCmp X.K .eq) := by
  refine opR_imp (op_eqD hr.units) fun x y H Q ⟨ρ, st, p, q, b, rs, hp, hq, hb, k⟩ => ?_
  obtain ⟨a, c, e1, e2, e3⟩ := cmpV_plain (by decide) hb
  simp only [Ir.D.cmp] at e3
  split at e3
  · rename_i hf
    rw [Bool.and_eq_true] at hf
    cases e3
    refine ⟨toPy a, toPy c, (VD.deref rs hp e1).dp (fine_dep hf.1), (VD.deref rs hq e2).dp (fine_dep hf.2), shaped_toPy hf.1, shaped_toPy hf.2, ?_⟩
    rw [eqv_toPy a c (fine_dep hf.1) (fine_dep hf.2)]
    exact k
  · cases e3
theorem cmp_ne {n : Nat} (hr : Room n X.A) : OpR X (compareOp .NotEq) (rCmp X.K .ne) := by
  refine opR_imp (op_neD hr.units) fun x y H Q ⟨ρ, st, p, q, b, rs, hp, hq, hb, k⟩ => ?_
  obtain ⟨a, c, e1, e2, e3⟩ := cmpV_plain (by decide) hb
  simp only [Ir.D.cmp] at e3
  split at e3
  · rename_i hf
    rw [Bool.and_eq_true] at hf
    cases e3
    refine ⟨toPy a, toPy c, (VD.deref rs hp e1).dp (fine_dep hf.1), (VD.deref rs hq e2).dp (fine_dep hf.2), shaped_toPy hf.1, shaped_toPy hf.2, ?_⟩
    rw [eqv_toPy a c (fine_dep hf.1) (fine_dep hf.2)]
    exact k
  · cases e3
theorem cmp_int {op : CmpOp} {o : Ir.Cmp} {g : Int → Int → Bool} (h : OpR X (compareOp op) (rI0 fun i j => .bl (g i j))) (hp : o ≠ .isin ∧ o ≠ .notin ∧ o ≠ .is ∧ o ≠ .isnot ∧ o ≠ .sin ∧ o ≠ .snin)
    (hd : ∀ p q b, Ir.D.cmp o p q = some b → ∃ i j, p = .int i ∧ q = .int j ∧ b = g i j) : OpR X (compareOp op) (rCmp X.K o) := by
  refine opR_imp h fun x y H Q ⟨ρ, st, p, q, b, rs, rp, rq, hb, k⟩ => ?_
  obtain ⟨a, c, e1, e2, e3⟩ := cmpV_plain hp hb
  obtain ⟨i, j, rfl, rfl, rfl⟩ := hd _ _ _ e3
  exact ⟨i, j, RD.int_inv (VD.deref rs rp e1), RD.int_inv (VD.deref rs rq e2), k⟩
theorem cmp_lt : OpR X (compareOp .Lt) (rCmp X.K .lt) := cmp_int op_lt (by decide) fun p q b h => by
  cases p <;> cases q <;> simp only [Ir.D.cmp, reduceCtorEq] at h
  cases h; exact ⟨_, _, rfl, rfl, rfl⟩
theorem cmp_le : OpR X (compareOp .LtE) (rCmp X.K .le) := cmp_int op_le (by decide) fun p q b h => by
  cases p <;> cases q <;> simp only [Ir.D.cmp, reduceCtorEq] at h
  cases h; exact ⟨_, _, rfl, rfl, rfl⟩
theorem cmp_gt : OpR X (compareOp .Gt) (rCmp X.K .gt) := cmp_int op_gt (by decide) fun p q b h => by
  cases p <;> cases q <;> simp only [Ir.D.cmp, reduceCtorEq] at h
  cases h; exact ⟨_, _, rfl, rfl, rfl⟩
theorem RD.non_iff {ρ : Rho} {K : PySem.W.Frag} {H : Hp} {x : Ir.D} {v : V} (h : RD ρ K H x v) : decide (v = .non) = (match x with | .non => true | _ => false) := by
  cases h <;> simp
theorem isNon_ok {p q : Ir.Val} {b : Bool} {ρ : Rho} {K : PySem.W.Frag} {H : Hp} {x y : V} (rp : RV ρ K H p x) (rq : RV ρ K H q y) (e : Ir.isNon p q = some b) : (y = .non ∧ b = decide (x = .non)) ∨ ∃ u w, x = .bl u ∧ y = .bl w ∧ b = decide (u = w) := by
  unfold Ir.isNon at e
  split at e
  · cases e
    obtain ⟨_, a, rfl, _⟩ := rp
    exact .inl ⟨RD.non_inv rq, by simp⟩
  · rename_i u
    refine .inl ⟨RD.non_inv rq, ?_⟩
    rw [RD.non_iff rp]
    cases u <;> simpa using e.symm
  · cases e
    exact .inr ⟨_, _, RD.bool_inv rp, RD.bool_inv rq, rfl⟩
  · cases e
theorem cmp_is : OpR X (compareOp .Is) (rCmp X.K .is) := opR_imp (opR_or op_isN op_is_bl) fun x y H Q ⟨ρ, st, p, q, b, rs, hp, hq, hb, k⟩ => by
  rcases isNon_ok hp hq (show Ir.isNon p q = some b from hb) with ⟨h1, h2⟩ | ⟨u, w, h1, h2, h3⟩
  · exact .inl ⟨h1, by rw [← h2]; exact k⟩
  · exact .inr ⟨u, w, h1, h2, by rw [← h3]; exact k⟩
theorem cmp_isnot : OpR X (compareOp .IsNot) (rCmp X.K .isnot) := opR_imp (opR_or op_notN op_isnot_bl) fun x y H Q ⟨ρ, st, p, q, b, rs, hp, hq, hb, k⟩ => by
  have hb : (Ir.isNon p q).map (!·) = some b := hb
  simp only [Option.map_eq_some_iff] at hb
  obtain ⟨c, hc, rfl⟩ := hb
  rcases isNon_ok hp hq hc with ⟨h1, h2⟩ | ⟨u, w, h1, h2, h3⟩
  · exact .inl ⟨h1, by rw [← h2]; exact k⟩
  · exact .inr ⟨u, w, h1, h2, by rw [← h3]; exact k⟩
/-- what two expressions give, then a relation over both -/
theorem tI_two {a b : Ir.Ex} {K : PySem.W.Frag} {R : V → V → Hp → Prop} {σ : L2.St} {H : Hp} {ρ : Rho} {env : Ir.Env} {st s1 s2 : Ir.Store} {x y : Ir.Val} (rs : RS ρ K st H) (re : REnv ρ K H env σ) (e1 : Ir.eval C a env st = .ok x s1) (e2 : Ir.eval C b env s1 = .ok y s2)
    (k : ∀ ρ' H' X Y, Ext ρ H ρ' H' → RS ρ' K s2 H' → RV ρ' K H' x X → RV ρ' K H' y Y → R X Y H') : tI C K a σ H fun X H1 => tI C K b σ H1 fun Y H2 => R X Y H2 :=
  ⟨ρ, env, st, x, s1, rs, re, e1, fun ρ1 H1 X1 x1 rs1 rx => ⟨ρ1, env, s1, y, s2, rs1, re.mono x1, e2, fun ρ2 H2 Y x2 rs2 ry => k ρ2 H2 X1 Y (x1.trans x2) rs2 (rx.mono x2) ry⟩⟩
theorem se_cmp {a b : Expr} {op : CmpOp} {o : Ir.Cmp} {ia ib : Ir.Ex} {pos : Pos} (ho : OpR X (compareOp op) (rCmp X.K o)) (ha : SE X C a ia) (hb : SE X C b ib) (hm : behindInMarks op b = false := by first | exact nomark _ | rfl) : SE X C (.Compare a [op] [b] pos) (.cmp o ia ib) := by
  refine pe_imp (pe_cmpR ho ha hb hm) fun σ H Q ⟨ρ, env, st, v, st', rs, re, ev, k⟩ => ?_
  simp only [Ir.eval] at ev
  obtain ⟨x, s1, e1, ev⟩ := bok ev
  obtain ⟨y, s2, e2, ev⟩ := bok ev
  obtain ⟨r, e3, ev⟩ := ook ev
  cases ev
  exact tI_two rs re e1 e2 fun ρ' H' X Y x1 rs1 rx ry => ⟨ρ', _, x, y, r, rs1, rx, ry, e3, k ρ' H' _ x1 rs1 (.bool r)⟩
theorem st_val {e : Expr} {ir : Ir.Ex} (h : SE X C e ir) (he : ∀ whole, isTrue e X.env whole = (do let v ← whole; standAt e.pos; holding [v] (truthy v)) := by intro _; rfl) : ST X C e ir :=
  pt_imp (pt_val h he) fun σ H Q ⟨ρ, env, st, b, st', rs, re, ev, k⟩ => ⟨ρ, env, st, _, st', rs, re, ev, fun ρ' H' x x1 rs1 rx => ⟨b, RD.bool_inv rx, k ρ' H' x1 rs1⟩⟩
theorem st_cmp {a b : Expr} {op : CmpOp} {o : Ir.Cmp} {ia ib : Ir.Ex} {pos : Pos} (ho : OpR X (compareOp op) (rCmp X.K o)) (ha : SE X C a ia) (hb : SE X C b ib) (hm : behindInMarks op b = false := by first | exact nomark _ | rfl) : ST X C (.Compare a [op] [b] pos) (.cmp o ia ib) := by
  refine pt_imp (pt_cmpR ho ha hb hm) fun σ H Q ⟨ρ, env, st, v, st', rs, re, ev, k⟩ => ?_
  simp only [Ir.eval] at ev
  obtain ⟨x, s1, e1, ev⟩ := bok ev
  obtain ⟨y, s2, e2, ev⟩ := bok ev
  obtain ⟨r, e3, ev⟩ := ook ev
  cases ev
  exact tI_two rs re e1 e2 fun ρ' H' X Y x1 rs1 rx ry => ⟨ρ', _, x, y, _, rs1, rx, ry, e3, _, rfl, k ρ' H' x1 rs1⟩
/-! ### in a list, a tuple, a dict -/
theorem RK.kv {ρ : Rho} {K : PySem.W.Frag} {H : Hp} {d : Ir.D} {v : V} (h : RD ρ K H d v) (k : d.key = true) : ∃ k', RK d k' ∧ v = kV k' := by
  cases h <;> simp only [Ir.D.key, Bool.false_eq_true] at k
  · exact ⟨.inl _, rfl, rfl⟩
  · exact ⟨.inr _, rfl, rfl⟩
theorem RK.beq : ∀ {a b : Ir.D} {x y : Key}, RK a x → RK b y → a.eqv b = decide (x = y)
  | .int i, .int j, _, _, rfl, rfl => by simp only [Ir.D.eqv]; rw [key_ll]
  | .int i, .str j, _, _, rfl, rfl => by simp only [Ir.D.eqv]; rw [key_lr]
  | .str i, .int j, _, _, rfl, rfl => by simp only [Ir.D.eqv]; rw [key_rl]
  | .str i, .str j, _, _, rfl, rfl => by
    simp only [Ir.D.eqv]; rw [key_rr]
    by_cases e : i = j
    · subst e; simp
    · have : ¬ Str.ofString i = Str.ofString j := fun h => e (ofString_inj h)
      simp [e, this]
  | .non, _, _, _, h, _ => h.elim
  | .bool _, _, _, _, h, _ => h.elim
  | .tup _, _, _, _, h, _ => h.elim
  | .lst _, _, _, _, h, _ => h.elim
  | .ro _, _, _, _, h, _ => h.elim
  | .int _, .non, _, _, _, h => h.elim
  | .int _, .bool _, _, _, _, h => h.elim
  | .int _, .tup _, _, _, _, h => h.elim
  | .int _, .lst _, _, _, _, h => h.elim
  | .int _, .ro _, _, _, _, h => h.elim
  | .str _, .non, _, _, _, h => h.elim
  | .str _, .bool _, _, _, _, h => h.elim
  | .str _, .tup _, _, _, _, h => h.elim
  | .str _, .lst _, _, _, _, h => h.elim
  | .str _, .ro _, _, _, _, h => h.elim
theorem RKs.look {ρ : Rho} {K : PySem.W.Frag} {H : Hp} {k : Ir.D} {k' : Key} (hk : RK k k') : ∀ {kvs : List (Ir.D × Ir.D)} {ks : List (Key × V)}, RKs ρ K H kvs ks →
    (Ir.lookK kvs k = none ∧ valV ks k' = none) ∨ ∃ v x, Ir.lookK kvs k = some v ∧ valV ks k' = some x ∧ RD ρ K H v x
  | _, _, .nil => .inl ⟨rfl, rfl⟩
  | (a, v) :: kvs, (b, x) :: ks, .cons h1 h2 r => by
    have e := RK.beq h1 hk
    by_cases c : b = k'
    · refine .inr ⟨v, x, ?_, valV_pos c, h2⟩
      simp [Ir.lookK, List.find?_cons, e, c]
    · rw [valV_neg (p := (b, x)) c]
      have : Ir.lookK ((a, v) :: kvs) k = Ir.lookK kvs k := by simp [Ir.lookK, List.find?_cons, e, c]
      rw [this]
      exact RKs.look hk r
theorem RKs.map_put {ρ : Rho} {K : PySem.W.Frag} {H : Hp} {k v : Ir.D} {k' : Key} {x : V} (hk : RK k k') (hv : RD ρ K H v x) : ∀ {kvs : List (Ir.D × Ir.D)} {ks : List (Key × V)}, RKs ρ K H kvs ks →
    RKs ρ K H (kvs.map fun p => if p.1.eqv k then (p.1, v) else p) (ks.map fun kv => if kv.1 = k' then (kv.1, x) else kv)
  | _, _, .nil => .nil
  | (a, w) :: kvs, (b, y) :: ks, .cons h1 h2 r => by
    have e := RK.beq h1 hk
    simp only [List.map_cons]
    by_cases c : b = k'
    · simp only [e, c, decide_true, if_true]
      exact .cons (by rw [← c]; exact h1) hv (RKs.map_put hk hv r)
    · simp only [e, c, decide_false, if_false, Bool.false_eq_true]
      exact .cons h1 h2 (RKs.map_put hk hv r)
theorem RKs.any {ρ : Rho} {K : PySem.W.Frag} {H : Hp} {k : Ir.D} {k' : Key} (hk : RK k k') : ∀ {kvs : List (Ir.D × Ir.D)} {ks : List (Key × V)}, RKs ρ K H kvs ks → (kvs.any fun p => p.1.eqv k) = (ks.any fun kv => decide (kv.1 = k'))
  | _, _, .nil => rfl
  | (a, v) :: kvs, (b, x) :: ks, .cons h1 h2 r => by
    simp only [List.any_cons, RK.beq h1 hk, RKs.any hk r]
theorem RKs.append {ρ : Rho} {K : PySem.W.Frag} {H : Hp} {k v : Ir.D} {k' : Key} {x : V} (hk : RK k k') (hv : RD ρ K H v x) : ∀ {kvs : List (Ir.D × Ir.D)} {ks : List (Key × V)}, RKs ρ K H kvs ks → RKs ρ K H (kvs ++ [(k, v)]) (ks ++ [(k', x)])
  | _, _, .nil => .cons hk hv .nil
  | _, _, .cons h1 h2 r => .cons h1 h2 (RKs.append hk hv r)
theorem RKs.put {ρ : Rho} {K : PySem.W.Frag} {H : Hp} {k v : Ir.D} {k' : Key} {x : V} (hk : RK k k') (hv : RD ρ K H v x) {kvs : List (Ir.D × Ir.D)} {ks : List (Key × V)} (r : RKs ρ K H kvs ks) : RKs ρ K H (Ir.putK kvs k v) (putK ks k' x) := by
  unfold Ir.putK putK
  rw [RKs.any hk r]
  split
  · exact RKs.map_put hk hv r
  · exact RKs.append hk hv r
theorem RD.flat {ρ : Rho} {K : PySem.W.Frag} {H : Hp} {d : Ir.D} {v : V} (h : RD ρ K H d v) (k : Ir.flat d = true) : flatV v = true := by
  cases h <;> simp_all [Ir.flat, flatV]
theorem RD.eqV {ρ : Rho} {K : PySem.W.Frag} {H : Hp} {d e : Ir.D} {v u : V} (h : RD ρ K H d v) (k : Ir.flat d = true) (h' : RD ρ K H e u) (k' : Ir.flat e = true) : L2.eqV v u = d.eqv e := by
  cases h <;> cases h' <;> simp_all [Ir.flat, L2.eqV, Ir.D.eqv, ofString_beq]
theorem RDs.inV {ρ : Rho} {K : PySem.W.Frag} {H : Hp} {d : Ir.D} {v : V} (h : RD ρ K H d v) (k : Ir.flat d = true) : ∀ {xs : List Ir.D} {ys : List V}, RDs ρ K H xs ys → xs.all Ir.flat = true → ys.all flatV = true ∧ L2.inV v ys = xs.any fun y => y.eqv d
  | _, _, .nil, _ => ⟨rfl, rfl⟩
  | _, _, .cons a r, hf => by
    simp only [List.all_cons, Bool.and_eq_true] at hf
    obtain ⟨h1, h2⟩ := RDs.inV h k r hf.2
    refine ⟨by simp only [List.all_cons, Bool.and_eq_true]; exact ⟨a.flat hf.1, h1⟩, ?_⟩
    unfold L2.inV at h2 ⊢
    simp only [List.any_cons, a.eqV hf.1 h k, h2]
theorem pe_or {e : Expr} {t t' : TE} (h : PE X e t) (h' : PE X e t') : PE X e (fun σ H Q => t σ H Q ∨ t' σ H Q) := ⟨fun pins s σ H Q I q => by
  rcases q with q | q
  · exact h.run pins s σ H Q I q
  · exact h'.run pins s σ H Q I q⟩
theorem pt_or {e : Expr} {t t' : TT} (h : PT X e t) (h' : PT X e t') : PT X e (fun σ H Q => t σ H Q ∨ t' σ H Q) := ⟨fun pins s σ H Q I q => by
  rcases q with q | q
  · exact h.run pins s σ H Q I q
  · exact h'.run pins s σ H Q I q⟩
theorem any_toPys (d : Ir.D) (hd : d.dep < 1000) : ∀ xs : List Ir.D, Ir.D.depAll xs < 1000 → ((toPys xs).any fun z => PyData.eqv z (toPy d)) = xs.any fun y => y.eqv d
  | [], _ => rfl
  | x :: xs, h => by
    simp only [Ir.D.depAll] at h
    simp only [toPys, List.any_cons, eqv_toPy x d (by omega) hd, any_toPys d hd xs (by omega)]
/-- in a list or a tuple, by values -/
theorem mem_seq {ρ : Rho} {K : PySem.W.Frag} {H : Hp} {d e : Ir.D} {x y : V} {b : Bool} (hd : RD ρ K H d x) (he : VD ρ K H e y) (h : Ir.D.mem d e = some b) :
    (∃ d' ds, Dp K H x d' ∧ Dp K H y (.list ds) ∧ SeqAt.shaped d' = true ∧ SeqAt.shaped (.list ds) = true ∧ (ds.any fun z => PyData.eqv z d') = b) ∨
    ∃ p xs, y = .ref p ∧ (SqL K H p xs ∨ SqT K H p xs) ∧ flatV x = true ∧ xs.all flatV = true ∧ L2.inV x xs = b := by
  cases e <;> simp only [Ir.D.mem, reduceCtorEq] at h
  · rename_i xs
    split at h
    · rename_i hf
      rw [Bool.and_eq_true] at hf
      cases h
      obtain ⟨a, ys, rfl, t, z, r⟩ := RD.tup_inv he
      obtain ⟨h1, h2⟩ := RDs.inV hd hf.1 r hf.2
      exact .inr ⟨a, ys, rfl, .inr t.sq, hd.flat hf.1, h1, h2⟩
    · cases h
  · rename_i xs
    split at h
    · rename_i hf
      rw [Bool.and_eq_true] at hf
      cases h
      have f2 := fine_dep hf.2
      exact .inl ⟨toPy d, toPys xs, hd.dp (fine_dep hf.1), VD.dp f2 he, shaped_toPy hf.1, shaped_toPy hf.2, any_toPys d (fine_dep hf.1) xs (by simp only [Ir.D.dep] at f2; omega)⟩
    · cases h
theorem inB_seq {ρ : Rho} {K : PySem.W.Frag} {H : Hp} {st : Ir.Store} {p q : Ir.Val} {x y : V} {b : Bool} (rs : RS ρ K st H) (rp : RV ρ K H p x) (rq : RV ρ K H q y) (hd : ¬ ∃ n kvs, q = .ref n ∧ st[n]? = some (.dic kvs)) (e : Ir.inB st p q = some b) :
    (∃ d' ds, Dp K H x d' ∧ Dp K H y (.list ds) ∧ SeqAt.shaped d' = true ∧ SeqAt.shaped (.list ds) = true ∧ (ds.any fun z => PyData.eqv z d') = b) ∨
    ∃ p xs, y = .ref p ∧ (SqL K H p xs ∨ SqT K H p xs) ∧ flatV x = true ∧ xs.all flatV = true ∧ L2.inV x xs = b := by
  unfold Ir.inB at e
  split at e
  · rename_i k n
    split at e
    · rename_i kvs hk
      exact absurd ⟨n, kvs, rfl, hk⟩ hd
    · rename_i xs hk
      obtain ⟨a, rfl, h1, ys, h2, h3, h4⟩ := RV.cell rs rq hk (by simp)
      exact mem_seq rp (show VD ρ K H (.lst xs) _ from ⟨a, ys, rfl, h2, h3, h4⟩) e
    · cases e
  · exact mem_seq rp (VD.of rq) e
  · cases e
theorem inB_dic {ρ : Rho} {K : PySem.W.Frag} {H : Hp} {st : Ir.Store} {p q : Ir.Val} {x y : V} {b : Bool} (rs : RS ρ K st H) (rp : RV ρ K H p x) (rq : RV ρ K H q y) (hd : ∃ n kvs, q = .ref n ∧ st[n]? = some (.dic kvs)) (e : Ir.inB st p q = some b) :
    ∃ a o, y = .ref a ∧ DGet H a x o ∧ o.isSome = b := by
  obtain ⟨n, kvs, rfl, hk⟩ := hd
  unfold Ir.inB at e
  split at e
  · rename_i d m e0
    cases e0
    rw [hk] at e
    simp only at e
    split at e
    · rename_i hkey
      cases e
      obtain ⟨a, rfl, h1, ks, h2, h3, h4⟩ := RV.cell rs rq hk (by simp)
      obtain ⟨k', hk1, rfl⟩ := RK.kv rp hkey
      refine ⟨a, _, rfl, .k h2, ?_⟩
      rcases RKs.look hk1 h4 with ⟨e1, e2⟩ | ⟨v, z, e1, e2, _⟩
      · rw [e1, e2]; rfl
      · rw [e1, e2]; rfl
    · cases e
  · rename_i e0
    cases e0
  · cases e
theorem units65 {n : Nat} {A : Around} (hr : Room n A) : A.units + 65 < cLine := by have := hr.un; omega
theorem se_in {a b : Expr} {ia ib : Ir.Ex} {pos : Pos} {n : Nat} (hr : Room n X.A) (ha : SE X C a ia) (hb : SE X C b ib) (hm : behindInMarks .In b = false := by first | rfl | with_unfolding_all rfl) : SE X C (.Compare a [.In] [b] pos) (.cmp .isin ia ib) := by
  refine pe_imp (pe_or (pe_cmpR (opR_or (op_inD (units65 hr)) op_in_seq) ha hb hm) (pe_cmp (pc_din (hu_of hr) ha hb) hm)) fun σ H Q ⟨ρ, env, st, v, st', rs, re, ev, k⟩ => ?_
  simp only [Ir.eval] at ev
  obtain ⟨x, s1, e1, ev⟩ := bok ev
  obtain ⟨y, s2, e2, ev⟩ := bok ev
  obtain ⟨r, e3, ev⟩ := ook ev
  cases ev
  have e3 : Ir.inB st' x y = some r := e3
  by_cases hd : ∃ n kvs, y = .ref n ∧ st'[n]? = some (.dic kvs)
  · refine .inr (tI_two rs re e1 e2 fun ρ' H' X Y x1 rs1 rx ry => ?_)
    obtain ⟨a, o, h1, h2, h3⟩ := inB_dic rs1 rx ry hd e3
    exact ⟨a, o, h1, h2, by rw [h3]; exact k ρ' H' _ x1 rs1 (.bool r)⟩
  · refine .inl (tI_two rs re e1 e2 fun ρ' H' X Y x1 rs1 rx ry => ?_)
    have kk := k ρ' H' _ x1 rs1 (.bool r)
    rcases inB_seq rs1 rx ry hd e3 with ⟨d, ds, h1, h2, h3, h4, h5⟩ | ⟨p, xs, h1, h2, h3, h4, h5⟩
    · exact .inl ⟨d, ds, h1, h2, h3, h4, by rw [h5]; exact kk⟩
    · exact .inr ⟨p, xs, h1, h2, h3, h4, by simp only [Bool.false_eq_true, if_false, h5]; exact kk⟩
/-- a comparison, as a test -/
theorem st_in {a b : Expr} {ia ib : Ir.Ex} {pos : Pos} {n : Nat} (hr : Room n X.A) (ha : SE X C a ia) (hb : SE X C b ib) (hm : behindInMarks .In b = false := by first | rfl | with_unfolding_all rfl) : ST X C (.Compare a [.In] [b] pos) (.cmp .isin ia ib) := by
  refine pt_imp (pt_or (pt_cmpR (opR_or (op_inD (units65 hr)) op_in_seq) ha hb hm) (pt_cmp (pc_din (hu_of hr) ha hb) hm)) fun σ H Q ⟨ρ, env, st, v, st', rs, re, ev, k⟩ => ?_
  simp only [Ir.eval] at ev
  obtain ⟨x, s1, e1, ev⟩ := bok ev
  obtain ⟨y, s2, e2, ev⟩ := bok ev
  obtain ⟨r, e3, ev⟩ := ook ev
  cases ev
  have e3 : Ir.inB st' x y = some v := e3
  by_cases hd : ∃ n kvs, y = .ref n ∧ st'[n]? = some (.dic kvs)
  · refine .inr (tI_two rs re e1 e2 fun ρ' H' X Y x1 rs1 rx ry => ?_)
    obtain ⟨a, o, h1, h2, h3⟩ := inB_dic rs1 rx ry hd e3
    exact ⟨a, o, h1, h2, _, rfl, by rw [h3]; exact k ρ' H' x1 rs1⟩
  · refine .inl (tI_two rs re e1 e2 fun ρ' H' X Y x1 rs1 rx ry => ?_)
    have kk := k ρ' H' x1 rs1
    rcases inB_seq rs1 rx ry hd e3 with ⟨d, ds, h1, h2, h3, h4, h5⟩ | ⟨p, xs, h1, h2, h3, h4, h5⟩
    · exact .inl ⟨d, ds, h1, h2, h3, h4, _, rfl, by rw [h5]; exact kk⟩
    · exact .inr ⟨p, xs, h1, h2, h3, h4, _, rfl, by simp only [Bool.false_eq_true, if_false, h5]; exact kk⟩
theorem st_notin {a b : Expr} {ia ib : Ir.Ex} {pos : Pos} {n : Nat} (hr : Room n X.A) (ha : SE X C a ia) (hb : SE X C b ib) (hm : behindInMarks .NotIn b = false := by first | rfl | with_unfolding_all rfl) : ST X C (.Compare a [.NotIn] [b] pos) (.cmp .notin ia ib) := by
  refine pt_imp (pt_or (pt_cmpR (opR_or (op_notInD (units65 hr)) op_notIn_seq) ha hb hm) (pt_cmp (pc_dnotin (hu_of hr) ha hb) hm)) fun σ H Q ⟨ρ, env, st, v, st', rs, re, ev, k⟩ => ?_
  simp only [Ir.eval] at ev
  obtain ⟨x, s1, e1, ev⟩ := bok ev
  obtain ⟨y, s2, e2, ev⟩ := bok ev
  obtain ⟨r, e3, ev⟩ := ook ev
  cases ev
  have e3 : (Ir.inB st' x y).map (!·) = some v := e3
  simp only [Option.map_eq_some_iff] at e3
  obtain ⟨c, e4, rfl⟩ := e3
  by_cases hd : ∃ n kvs, y = .ref n ∧ st'[n]? = some (.dic kvs)
  · refine .inr (tI_two rs re e1 e2 fun ρ' H' X Y x1 rs1 rx ry => ?_)
    obtain ⟨a, o, h1, h2, h3⟩ := inB_dic rs1 rx ry hd e4
    exact ⟨a, o, h1, h2, _, rfl, by rw [h3]; exact k ρ' H' x1 rs1⟩
  · refine .inl (tI_two rs re e1 e2 fun ρ' H' X Y x1 rs1 rx ry => ?_)
    have kk := k ρ' H' x1 rs1
    rcases inB_seq rs1 rx ry hd e4 with ⟨d, ds, h1, h2, h3, h4, h5⟩ | ⟨p, xs, h1, h2, h3, h4, h5⟩
    · exact .inl ⟨d, ds, h1, h2, h3, h4, _, rfl, by rw [h5]; exact kk⟩
    · exact .inr ⟨p, xs, h1, h2, h3, h4, _, rfl, by simp only [if_true, h5]; exact kk⟩
end Snd

namespace Snd
open PySem PySem.Spec PyProof.Rows L2
variable {X : Cx} {C : Ir.Calls}
theorem asB_ok {v : Ir.Val} {b : Bool} (h : Ir.asB v = some b) : v = .d (.bool b) := by
  cases v with
  | ref n => simp [Ir.asB] at h
  | d y => cases y <;> simp [Ir.asB] at h; subst h; rfl
theorem asI_ok {v : Ir.Val} {b : Int} (h : Ir.asI v = some b) : v = .d (.int b) := by
  cases v with
  | ref n => simp [Ir.asI] at h
  | d y => cases y <;> simp [Ir.asI] at h; subst h; rfl
theorem asD_ok {v : Ir.Val} {x : Ir.D} (h : Ir.asD v = some x) : v = .d x := by
  cases v with
  | ref n => simp [Ir.asD] at h
  | d y => simp [Ir.asD] at h; subst h; rfl
/-! ### and, or, not, if -/
section
variable {a b c : Expr} {rest : List Expr} {ia ib ic : Ir.Ex} {pos : Pos}
theorem se_one {op} (h : SE X C a ia) : SE X C (.BoolOp op [a] pos) ia := pe_one h
theorem se_and (ha : SE X C a ia) (hb : SE X C (.BoolOp .And (b :: rest) pos) ib) : SE X C (.BoolOp .And (a :: b :: rest) pos) (.and ia ib) := by
  refine pe_imp (pe_and ha hb) fun σ H Q ⟨ρ, env, st, v, st', rs, re, ev, k⟩ => ?_
  simp only [Ir.eval] at ev
  obtain ⟨x, s1, e1, ev⟩ := bok ev
  obtain ⟨c, e2, ev⟩ := ook ev
  obtain rfl := asB_ok e2
  refine ⟨ρ, env, st, _, s1, rs, re, e1, fun ρ1 H1 X1 x1 rs1 rx => ⟨c, RD.bool_inv rx, ?_⟩⟩
  cases c with
  | true =>
    simp only [if_true] at ev ⊢
    exact ⟨ρ1, env, s1, v, st', rs1, re.mono x1, ev, fun ρ2 H2 Y x2 rs2 ry => k ρ2 H2 Y (x1.trans x2) rs2 ry⟩
  | false =>
    simp only [Bool.false_eq_true, if_false] at ev ⊢
    cases ev
    exact k ρ1 H1 _ x1 rs1 (.bool false)
theorem se_or (ha : SE X C a ia) (hb : SE X C (.BoolOp .Or (b :: rest) pos) ib) : SE X C (.BoolOp .Or (a :: b :: rest) pos) (.or ia ib) := by
  refine pe_imp (L2.pe_or ha hb) fun σ H Q ⟨ρ, env, st, v, st', rs, re, ev, k⟩ => ?_
  simp only [Ir.eval] at ev
  obtain ⟨x, s1, e1, ev⟩ := bok ev
  obtain ⟨c, e2, ev⟩ := ook ev
  obtain rfl := asB_ok e2
  refine ⟨ρ, env, st, _, s1, rs, re, e1, fun ρ1 H1 X1 x1 rs1 rx => ⟨c, RD.bool_inv rx, ?_⟩⟩
  cases c with
  | false =>
    simp only [Bool.false_eq_true, if_false] at ev ⊢
    exact ⟨ρ1, env, s1, v, st', rs1, re.mono x1, ev, fun ρ2 H2 Y x2 rs2 ry => k ρ2 H2 Y (x1.trans x2) rs2 ry⟩
  | true =>
    simp only [if_true] at ev ⊢
    cases ev
    exact k ρ1 H1 _ x1 rs1 (.bool true)
theorem se_not (ha : SE X C a ia) : SE X C (.UnaryOp .Not a pos) (.not ia) := by
  refine pe_imp (pe_not ha) fun σ H Q ⟨ρ, env, st, v, st', rs, re, ev, k⟩ => ?_
  simp only [Ir.eval] at ev
  obtain ⟨x, s1, e1, ev⟩ := bok ev
  obtain ⟨c, e2, ev⟩ := ook ev
  obtain rfl := asB_ok e2
  cases ev
  exact ⟨ρ, env, st, _, _, rs, re, e1, fun ρ1 H1 X1 x1 rs1 rx => ⟨c, RD.bool_inv rx, k ρ1 H1 _ x1 rs1 (.bool _)⟩⟩
theorem sw_and1 (ha : ST X C a ia) : SW X C (.BoolOp .And [a] pos) ia := pw_and1 ha
theorem sw_or1 (ha : ST X C a ia) : SW X C (.BoolOp .Or [a] pos) ia := pw_or1 ha
theorem sw_and (ha : ST X C a ia) (hb : SW X C (.BoolOp .And (b :: rest) pos) ib) : SW X C (.BoolOp .And (a :: b :: rest) pos) (.and ia ib) := by
  refine pw_imp (pw_and ha hb) fun σ H Q ⟨ρ, env, st, v, st', rs, re, ev, k⟩ => ?_
  simp only [Ir.eval] at ev
  obtain ⟨x, s1, e1, ev⟩ := bok ev
  obtain ⟨c, e2, ev⟩ := ook ev
  obtain rfl := asB_ok e2
  refine ⟨ρ, env, st, _, s1, rs, re, e1, fun ρ1 H1 x1 rs1 => ?_⟩
  cases c with
  | true =>
    simp only [if_true] at ev ⊢
    exact ⟨ρ1, env, s1, v, st', rs1, re.mono x1, ev, fun ρ2 H2 x2 rs2 => k ρ2 H2 (x1.trans x2) rs2⟩
  | false =>
    simp only [Bool.false_eq_true, if_false] at ev ⊢
    cases ev
    exact k ρ1 H1 x1 rs1
theorem sw_or (ha : ST X C a ia) (hb : SW X C (.BoolOp .Or (b :: rest) pos) ib) : SW X C (.BoolOp .Or (a :: b :: rest) pos) (.or ia ib) := by
  refine pw_imp (pw_or ha hb) fun σ H Q ⟨ρ, env, st, v, st', rs, re, ev, k⟩ => ?_
  simp only [Ir.eval] at ev
  obtain ⟨x, s1, e1, ev⟩ := bok ev
  obtain ⟨c, e2, ev⟩ := ook ev
  obtain rfl := asB_ok e2
  refine ⟨ρ, env, st, _, s1, rs, re, e1, fun ρ1 H1 x1 rs1 => ?_⟩
  cases c with
  | false =>
    simp only [Bool.false_eq_true, if_false] at ev ⊢
    exact ⟨ρ1, env, s1, v, st', rs1, re.mono x1, ev, fun ρ2 H2 x2 rs2 => k ρ2 H2 (x1.trans x2) rs2⟩
  | true =>
    simp only [if_true] at ev ⊢
    cases ev
    exact k ρ1 H1 x1 rs1
theorem st_w {e : Expr} {i : Ir.Ex} (h : SW X C e i) : ST X C e i := h.pt
theorem st_not (ha : ST X C a ia) : ST X C (.UnaryOp .Not a pos) (.not ia) := by
  refine pt_imp (pt_not ha) fun σ H Q ⟨ρ, env, st, v, st', rs, re, ev, k⟩ => ?_
  simp only [Ir.eval] at ev
  obtain ⟨x, s1, e1, ev⟩ := bok ev
  obtain ⟨c, e2, ev⟩ := ook ev
  obtain rfl := asB_ok e2
  cases ev
  exact ⟨ρ, env, st, _, _, rs, re, e1, fun ρ1 H1 x1 rs1 => k ρ1 H1 x1 rs1⟩
theorem se_ite (hc : ST X C c ic) (ha : SE X C a ia) (hb : SE X C b ib) : SE X C (.IfExp c a b pos) (.ite ic ia ib) := by
  refine pe_imp (pe_ifExp hc ha hb) fun σ H Q ⟨ρ, env, st, v, st', rs, re, ev, k⟩ => ?_
  simp only [Ir.eval] at ev
  obtain ⟨x, s1, e1, ev⟩ := bok ev
  obtain ⟨c, e2, ev⟩ := ook ev
  obtain rfl := asB_ok e2
  refine ⟨ρ, env, st, c, s1, rs, re, e1, fun ρ1 H1 x1 rs1 => ?_⟩
  cases c with
  | false =>
    simp only [Bool.false_eq_true, if_false] at ev ⊢
    exact ⟨ρ1, env, s1, v, st', rs1, re.mono x1, ev, fun ρ2 H2 Y x2 rs2 ry => k ρ2 H2 Y (x1.trans x2) rs2 ry⟩
  | true =>
    simp only [if_true] at ev ⊢
    exact ⟨ρ1, env, s1, v, st', rs1, re.mono x1, ev, fun ρ2 H2 Y x2 rs2 ry => k ρ2 H2 Y (x1.trans x2) rs2 ry⟩
end
/-! ### subscripts -/
theorem atI_rel {ρ : Rho} {K : PySem.W.Frag} {H : Hp} {xs : List Ir.D} {ys : List V} {i : Int} {d : Ir.D} (r : RDs ρ K H xs ys) (h : Ir.atI xs i = some d) : ∃ v, L2.atI ys i = some v ∧ RD ρ K H d v := by
  unfold Ir.atI at h
  unfold L2.atI
  have e : Ir.ixN xs.length i = L2.ixN ys.length i := by rw [r.length]; rfl
  rw [← e]
  cases q : Ir.ixN xs.length i with
  | none => rw [q] at h; cases h
  | some j =>
    rw [q] at h
    exact r.get h
theorem ofString_cps (z : String) : (Str.ofString z).cps.toList = z.toList.map Char.toNat := by
  rw [Str.ofString_eq_toList]
theorem ofString_sgn (c : Char) : (⟨#[c.toNat]⟩ : Str) = Str.ofString (String.singleton c) := by
  rw [Str.ofString_eq_toList]; simp
theorem atI_str {z : String} {i : Int} {c : Char} (h : Ir.atI z.toList i = some c) : L2.atI (Str.ofString z).cps.toList i = some c.toNat := by
  unfold Ir.atI at h
  unfold L2.atI
  rw [ofString_cps]
  have e : Ir.ixN z.toList.length i = L2.ixN (z.toList.map Char.toNat).length i := by rw [List.length_map]; rfl
  rw [← e]
  cases q : Ir.ixN z.toList.length i with
  | none => rw [q] at h; cases h
  | some j =>
    rw [q] at h
    have h : z.toList[j]? = some c := h
    show (z.toList.map Char.toNat)[j]? = _
    rw [List.getElem?_map, h]; rfl
theorem index_ok {ρ : Rho} {K : PySem.W.Frag} {H : Hp} {d k r : Ir.D} {x y : V} {Q : VK} (hd : VD ρ K H d x) (hk : RD ρ K H k y) (h : d.index k = some r) (q : ∀ z, RD ρ K H r z → Q z H) : rIx K x y H Q := by
  cases d <;> cases k <;> simp only [Ir.D.index, reduceCtorEq] at h
  · rename_i z i
    split at h
    · rename_i hl
      obtain ⟨c, h1, rfl⟩ := Option.map_eq_some_iff.mp h
      exact .inr (.inr ⟨_, i, c.toNat, RD.str_inv hd, RD.int_inv hk, by rw [ofString_len, ← lim_eq]; exact hl, atI_str h1, by rw [ofString_sgn]; exact q _ (.str _)⟩)
    · cases h
  · obtain ⟨a, ys, rfl, t, z, rr⟩ := RD.tup_inv hd
    obtain ⟨v, h1, h2⟩ := atI_rel rr h
    exact .inr (.inl ⟨a, ys, _, v, rfl, RD.int_inv hk, t.sq, h1, q v h2⟩)
  · obtain ⟨a, ys, rfl, t, z, rr⟩ := hd
    obtain ⟨v, h1, h2⟩ := atI_rel rr h
    exact .inl ⟨a, ys, _, v, rfl, RD.int_inv hk, SqL.of t, h1, q v h2⟩
  · obtain ⟨a, ys, rfl, t, z, rr⟩ := RD.ro_inv hd
    obtain ⟨v, h1, h2⟩ := atI_rel rr h
    exact .inl ⟨a, ys, _, v, rfl, RD.int_inv hk, t.sq, h1, q v h2⟩
theorem se_idx {a b : Expr} {ia ib : Ir.Ex} {pos : Pos} {n : Nat} (hr : Room n X.A) (ha : SE X C a ia) (hb : SE X C b ib) (hs : PlainIx b := by exact fun _ _ => rfl) : SE X C (.Subscript a b pos) (.idx ia ib) := by
  refine pe_imp (pe_or (pe_ix ix_seq ha hb hs) (pe_dget (hu_of hr) ha hb hs)) fun σ H Q ⟨ρ, env, st, v, st', rs, re, ev, k⟩ => ?_
  simp only [Ir.eval] at ev
  obtain ⟨x, s1, e1, ev⟩ := bok ev
  obtain ⟨y, s2, e2, ev⟩ := bok ev
  obtain ⟨r, e3, ev⟩ := ook ev
  cases ev
  by_cases hd : ∃ n kvs, x = .ref n ∧ st'[n]? = some (.dic kvs)
  · refine .inr (tI_two rs re e1 e2 fun ρ1 H1 X Y x1 rs1 rx ry => ?_)
    obtain ⟨n, kvs, rfl, hk⟩ := hd
    cases y with
    | ref m => simp [Ir.indexV] at e3
    | d key =>
      simp only [Ir.indexV, hk] at e3
      split at e3
      · rename_i hkey
        obtain ⟨a, rfl, h1, ks, h2, h3, h4⟩ := RV.cell rs1 rx hk (by simp)
        obtain ⟨k', hk1, rfl⟩ := RK.kv ry hkey
        rcases RKs.look hk1 h4 with ⟨z1, z2⟩ | ⟨w, z, z1, z2, z3⟩
        · rw [z1] at e3; cases e3
        · rw [z1] at e3; cases e3
          exact ⟨a, z, rfl, by rw [← z2]; exact .k h2, k ρ1 H1 z x1 rs1 z3⟩
      · cases e3
  · refine .inl (tI_two rs re e1 e2 fun ρ1 H1 X Y x1 rs1 rx ry => ?_)
    cases y with
    | ref m => cases x <;> simp [Ir.indexV] at e3
    | d key =>
      cases x with
      | d w =>
        simp only [Ir.indexV] at e3
        exact index_ok (VD.of rx) ry e3 fun z hz => k ρ1 H1 z x1 rs1 hz
      | ref n =>
        simp only [Ir.indexV] at e3
        split at e3
        · rename_i xs hx
          obtain ⟨a, rfl, h1, ys, h2, h3, h4⟩ := RV.cell rs1 rx hx (by simp)
          exact index_ok (show VD ρ1 _ H1 (.lst xs) _ from ⟨a, ys, rfl, h2, h3, h4⟩) ry e3 fun z hz => k ρ1 H1 z x1 rs1 hz
        · rename_i kvs hk
          exact absurd ⟨n, kvs, rfl, hk⟩ hd
        · cases e3
theorem so_none : SO X C none none := po_imp po_none fun σ H Q ⟨ρ, env, st, v, st', rs, re, ev, k⟩ => by
  simp only [Ir.evalO] at ev; cases ev; exact k ρ H (.refl _ _) rs
theorem so_some {e : Expr} {i : Ir.Ex} (h : SE X C e i) : SO X C (some e) (some i) := po_imp (po_some h) fun σ H Q ⟨ρ, env, st, v, st', rs, re, ev, k⟩ => by
  simp only [Ir.evalO] at ev
  obtain ⟨x, s1, e1, ev⟩ := bok ev
  obtain ⟨c, e2, ev⟩ := ook ev
  obtain rfl := asI_ok e2
  cases ev
  exact ⟨ρ, env, st, _, _, rs, re, e1, fun ρ1 H1 X1 x1 rs1 rx => ⟨c, RD.int_inv rx, k ρ1 H1 x1 rs1⟩⟩
theorem cut_rel {ρ : Rho} {K : PySem.W.Frag} {H : Hp} {xs : List Ir.D} {ys : List V} {lo hi : Option Int} (r : RDs ρ K H xs ys) : RDs ρ K H (Ir.cut xs lo hi) (cutV ys lo hi) := by
  unfold Ir.cut cutV
  rw [r.length]
  exact (r.drop _).take _
theorem sIx_same (n d : Nat) (o : Option Int) : Ir.sIx n d o = HT.sIx n d o := by cases o <;> rfl
theorem ofString_cut (z : String) (lo hi : Option Int) : cutS (Str.ofString z) lo hi = Str.ofString (String.ofList (Ir.cut z.toList lo hi)) := by
  unfold cutS Ir.cut
  rw [ofString_cps, ofString_len, Str.ofString_eq_toList, sIx_same, sIx_same, String.length_toList]
  simp [List.map_take, List.map_drop]
theorem cut_len (ys : List V) (lo hi : Option Int) (z : ys.length ≤ sizeLine) : (cutV ys lo hi).length ≤ sizeLine := Nat.le_trans (cutV_length ys lo hi) z
theorem slice_ok {ρ : Rho} {K : PySem.W.Frag} {H : Hp} {st : Ir.Store} {d r : Ir.D} {lo hi : Option Int} {x : V} {Q : VK} (rs : RS ρ K st H) (hd : VD ρ K H d x) (h : d.slice lo hi = some r) (q : ∀ H' z, Ext ρ H ρ H' → RS ρ K st H' → RD ρ K H' r z → Q z H') : (rSlL K x lo hi H Q ∨ rSlA K x lo hi H Q) ∨ rSlS x lo hi H Q := by
  cases d <;> simp only [Ir.D.slice, reduceCtorEq] at h
  · split at h
    · rename_i z hl
      cases h
      exact .inr ⟨_, RD.str_inv hd, by rw [ofString_len, ← lim_eq]; exact hl, by rw [ofString_cut]; exact q H _ (.refl _ _) rs (.str _)⟩
    · cases h
  · cases h
    obtain ⟨a, ys, rfl, t, z, rr⟩ := RD.tup_inv hd
    refine .inl (.inr ⟨a, ys, rfl, t.sq, fun hw => ?_, fun _ p hp => ?_⟩)
    · refine q H _ (.refl _ _) rs ?_
      have e : ∀ {α : Type} (l : List α), l.length = ys.length → Ir.cut l lo hi = l := fun l hl => by
        unfold Ir.cut
        rw [hl, sIx_same, sIx_same, hw.1, hw.2, List.drop_zero, Nat.sub_zero, ← hl, List.take_length]
      rw [e _ rr.length]
      exact .tup t z rr
    · exact q _ _ (.grow rs hp _) (rs.grow hp _) (grow_tup rs (cut_rel rr) (cut_len _ _ _ z) hp)
  · cases h
    obtain ⟨a, ys, rfl, t, z, rr⟩ := hd
    exact .inl (.inl ⟨a, ys, rfl, SqL.of t, fun p hp => q _ _ (.grow rs hp _) (rs.grow hp _) (grow_lst rs (cut_rel rr) (cut_len _ _ _ z) hp)⟩)
  · cases h
    obtain ⟨a, ys, rfl, t, z, rr⟩ := RD.ro_inv hd
    exact .inl (.inl ⟨a, ys, rfl, t.sq, fun p hp => q _ _ (.grow rs hp _) (rs.grow hp _) (grow_lst rs (cut_rel rr) (cut_len _ _ _ z) hp)⟩)
theorem se_sli {a : Expr} {lo hi : Option Expr} {ia : Ir.Ex} {il ih : Option Ir.Ex} {pos p2 : Pos} (ha : SE X C a ia) (hl : SO X C lo il) (hh : SO X C hi ih) : SE X C (.Subscript a (.Slice lo hi none p2) pos) (.sli ia il ih) := by
  refine pe_imp (pe_slice (SlR.or (SlR.or sl_list sl_tupA) sl_str) ha hl hh) fun σ H Q ⟨ρ, env, st, v, st', rs, re, ev, k⟩ => ?_
  simp only [Ir.eval] at ev
  obtain ⟨x, s1, e1, ev⟩ := bok ev
  obtain ⟨l, s2, e2, ev⟩ := bok ev
  obtain ⟨h, s3, e3, ev⟩ := bok ev
  obtain ⟨p, e4, ev⟩ := ook ev
  obtain ⟨r, e5, ev⟩ := ook ev
  cases ev
  exact ⟨ρ, env, st, x, s1, rs, re, e1, fun ρ1 H1 X1 x1 rs1 rx => ⟨ρ1, env, s1, l, s2, rs1, re.mono x1, e2, fun ρ2 H2 x2 rs2 => ⟨ρ2, env, s2, h, _, rs2, re.mono (x1.trans x2), e3, fun ρ3 H3 x3 rs3 =>
    slice_ok rs3 (.deref rs3 (rx.mono (x2.trans x3)) e4) e5 fun H' z x4 rs4 rz => k ρ3 H' z (((x1.trans x2).trans x3).trans x4) rs4 rz⟩⟩⟩
/-! ### calls of own defs -/
def spI (T : Ir.Tab) (n : Nat) (K : PySem.W.Frag) (f : String) : Sp := fun vs H Q _ => ∃ ρ st args v st', RS ρ K st H ∧ RVs ρ K H args vs ∧ Ir.callN T n f args st = .ok v st' ∧ ∀ ρ' H' x, Ext ρ H ρ' H' → RS ρ' K st' H' → RV ρ' K H' v x → Q x H'
/-- what stands for a raised thing -/
def RXc (ρ : Rho) (K : PySem.W.Frag) (H : Hp) (mg : Str → Option Value) (c : String) (as : List (String × Ir.D)) (cls : Value) (d : Option Addr) : Prop := mg (Str.ofString c) = some cls ∧ ∃ gs, XD ρ H d gs ∧ RFs ρ K H as gs
/-- what is wanted of a run that may raise -/
def GX (K : PySem.W.Frag) (mg : Str → Option Value) (ρ : Rho) (H : Hp) (Q : VK) (E : XK) : Ir.Res Ir.Val → Prop
  | .ok v st' => ∀ ρ' H' x, Ext ρ H ρ' H' → RS ρ' K st' H' → RV ρ' K H' v x → Q x H'
  | .exc c as st' => ∀ ρ' H' cls d, Ext ρ H ρ' H' → RS ρ' K st' H' → RXc ρ' K H' mg c as cls d → E cls d H'
  | .bad => False
theorem GX.mono {K : PySem.W.Frag} {mg : Str → Option Value} {ρ ρ1 : Rho} {H H1 : Hp} {Q : VK} {E : XK} {r : Ir.Res Ir.Val} (x : Ext ρ H ρ1 H1) (h : GX K mg ρ H Q E r) : GX K mg ρ1 H1 Q E r := by
  cases r with
  | ok v s => exact fun ρ' H' y x1 rs ry => h ρ' H' y (x.trans x1) rs ry
  | exc c as s => exact fun ρ' H' cls d x1 rs rx => h ρ' H' cls d (x.trans x1) rs rx
  | bad => exact h
def spX (T : Ir.Tab) (n : Nat) (K : PySem.W.Frag) (mg : Str → Option Value) (f : String) : Sp := fun vs H Q E => ∃ ρ st args r, RS ρ K st H ∧ RVs ρ K H args vs ∧ Ir.callN T n f args st = r ∧ GX K mg ρ H Q E r
/-- how a call with keywords binds: a positional arguments, the keywords ks, the parameters' order perm -/
abbrev Kw := String × Nat × List Str × List Nat × List Ir.D
def permV {α : Type} (perm : List Nat) (vs : List α) : List α := perm.filterMap fun i => vs[i]?
def KwOk (K : PySem.W.Frag) (fd : FuncData) (ps : List Str) (q : Kw) : Prop := ∃ (dv : List Value) (dvs : List V), Vals dvs dv ∧ (∀ ρ H, RDs ρ K H q.2.2.2.2 dvs) ∧ ∀ (s : Shared) (us ws : List Value), K.In s.heap → us.length = q.2.1 → ws.length = q.2.2.1.length → BindsTo s fd ⟨us, q.2.2.1.zip ws⟩ (ps.zip (permV q.2.2.2.1 (us ++ ws ++ dv)))
/-- a class that is called: a new instance, then its __init__ -/
def ctorFn (c : String) (p : Nat) : Ir.Fn := ⟨p + 2, p, [.asg (.name p) (.newI c), .asg (.name (p + 1)) (.call (c ++ ".__init__") (.var p :: (List.range p).map .var)), .ite (.cmp .is (.var (p + 1)) (.con .non)) [.ret (.var p)] [.never]], false, .ct c⟩
structure FT (T : Ir.Tab) (KW : List Kw) (n : Nat) (P : Program) (w : World) (K : PySem.W.Frag) (mg : Str → Option Value) (base : Heap) : Prop where
  ok : ∀ f fn, T f = some fn → fn.x = false → fn.k = .df → ∃ a fd ps, FnOk P w K mg base CX0 (n + 2) a fd ps (spI T n K f) ∧ mg (Str.ofString f) = some (.ref a) ∧ PySem.W.keepIn K (.ref a) = true ∧ Binds K fd ps [] ∧ ∀ q ∈ KW, q.1 = f → KwOk K fd ps q
  okX : ∀ f fn, T f = some fn → fn.x = true → fn.k = .df → ∃ a fd ps, FnOk P w K mg base (CX P w) (n + 2) a fd ps (spX T n K mg f) ∧ mg (Str.ofString f) = some (.ref a) ∧ PySem.W.keepIn K (.ref a) = true ∧ Binds K fd ps [] ∧ ∀ q ∈ KW, q.1 = f → KwOk K fd ps q
  okM : ∀ f fn, T f = some fn → fn.x = false → ∀ c m, fn.k = .mt c m → ∃ Cc a fd ps, CN K c Cc ∧ Cls K Cc ∧ Meth K Cc (Str.ofString m) a ∧ FnOk P w K mg base CX0 (n + 2) a fd ps (spI T n K f) ∧ Binds K fd ps []
  okMX : ∀ f fn, T f = some fn → fn.x = true → ∀ c m, fn.k = .mt c m → ∃ Cc a fd ps, CN K c Cc ∧ Cls K Cc ∧ Meth K Cc (Str.ofString m) a ∧ FnOk P w K mg base (CX P w) (n + 2) a fd ps (spX T n K mg f) ∧ Binds K fd ps []
  okC : ∀ f fn, T f = some fn → ∀ c, fn.k = .ct c → ∃ Cc a fd ps, mg (Str.ofString f) = some (.ref Cc) ∧ CN K c Cc ∧ Mk K Cc a ∧ (∀ m, n = m + 1 → FnOk P w K mg base CX0 (m + 2) a fd ps (spI T m K (c ++ ".__init__"))) ∧ Binds K fd ps [] ∧ f = c ∧ fn = ctorFn c fn.pars
  okK : ∀ f fn, T f = some fn → fn.x = false → fn.k = .dk → ∃ a fd ps, FnOk P w K mg base CX0 (n + 2) a fd ps (spI T n K f) ∧ mg (Str.ofString f) = some (.ref a) ∧ PySem.W.keepIn K (.ref a) = true ∧ ∀ q ∈ KW, q.1 = f → KwOk K fd ps q
theorem FT.okA {T : Ir.Tab} {KW : List Kw} {n : Nat} {P : Program} {w : World} {K : PySem.W.Frag} {mg : Str → Option Value} {base : Heap} (ft : FT T KW n P w K mg base) (f : String) (fn : Ir.Fn) (hT : T f = some fn) (hx : fn.x = false) (hk : fn.k = .df ∨ fn.k = .dk) : ∃ a fd ps, FnOk P w K mg base CX0 (n + 2) a fd ps (spI T n K f) ∧ mg (Str.ofString f) = some (.ref a) ∧ PySem.W.keepIn K (.ref a) = true ∧ ∀ q ∈ KW, q.1 = f → KwOk K fd ps q := by
  rcases hk with h | h
  · obtain ⟨a, fd, ps, h1, h2, h3, _, h4⟩ := ft.ok f fn hT hx h
    exact ⟨a, fd, ps, h1, h2, h3, h4⟩
  · exact ft.okK f fn hT hx h
theorem se_call {T : Ir.Tab} {KW : List Kw} {n : Nat} {f : String} {fn : Ir.Fn} {e : Expr} {es : List Expr} {is : List Ir.Ex} {p pos : Pos} (ft : FT T KW n X.prog X.w X.K X.mg X.base) (hT : T f = some fn) (hr : Room (n + 2) X.A) (hs : SEs X (Ir.callN T n) (e :: es) is) (hg : Gl X (Str.ofString f) := by rfl)
    (hx : fn.x = false := by rfl) (hkd : fn.k = .df := by rfl) (hdb : (Str.ofString f == ("__debug__" : Str)) = false := by decide) (he : starEach (e :: es) X.env = (false, eval e X.env) :: starEach es X.env := by rfl) (hpl : (backTo pos (starEach es X.env)).any (·.1) = false := by rfl) :
    SE X (Ir.callN T n) (.Call (.Name (Str.ofString f) p) (e :: es) [] pos) (.call f is) := by
  obtain ⟨a, fd, ps, F, hm, hk, hb, _⟩ := ft.ok f fn hT hx hkd
  refine pe_imp (pe_call F hr hg hm hk hb .nil pass0 hs hdb he hpl) fun σ H Q ⟨ρ, env, st, v, st', rs, re, ev, k⟩ => ?_
  simp only [Ir.eval] at ev
  obtain ⟨vs, s1, e1, ev⟩ := bok ev
  refine ⟨ρ, env, st, vs, s1, rs, re, e1, fun ρ1 H1 XS x1 rs1 rx => ?_⟩
  show spI T n X.K f (XS ++ []) H1 Q E0
  rw [List.append_nil]
  exact ⟨ρ1, s1, vs, v, st', rs1, rx, ev, fun ρ' H' x x2 rs2 r2 => k ρ' H' x (x1.trans x2) rs2 r2⟩
/-! ### calls with keywords -/
theorem permV_vals {xs : List V} {us : List Value} (h : Vals xs us) : ∀ perm : List Nat, Vals (permV perm xs) (permV perm us)
  | [] => .nil
  | i :: perm => by
    unfold permV
    have ih := permV_vals h perm
    unfold permV at ih
    simp only [List.filterMap_cons]
    cases q : xs[i]? with
    | none => rw [h.none_of q]; exact ih
    | some x =>
      obtain ⟨u, e, r⟩ := h.get q
      rw [e]
      exact .cons r ih
theorem RVs.get {ρ : Rho} {K : PySem.W.Frag} {H : Hp} : ∀ {xs : List Ir.Val} {vs : List V}, RVs ρ K H xs vs → ∀ i : Nat, (xs[i]? = none ∧ vs[i]? = none) ∨ ∃ x v, xs[i]? = some x ∧ vs[i]? = some v ∧ RV ρ K H x v
  | _, _, .nil, i => .inl ⟨by simp, by simp⟩
  | _, _, .cons h _, 0 => .inr ⟨_, _, rfl, rfl, h⟩
  | _, _, .cons _ r, i + 1 => by simpa using RVs.get r i
theorem permV_rvs {ρ : Rho} {K : PySem.W.Frag} {H : Hp} {xs : List Ir.Val} {vs : List V} (h : RVs ρ K H xs vs) : ∀ perm : List Nat, RVs ρ K H (permV perm xs) (permV perm vs)
  | [] => .nil
  | i :: perm => by
    unfold permV
    have ih := permV_rvs h perm
    unfold permV at ih
    simp only [List.filterMap_cons]
    rcases RVs.get h i with ⟨e1, e2⟩ | ⟨x, v, e1, e2, r⟩
    · rw [e1, e2]; exact ih
    · rw [e1, e2]; exact .cons r ih
theorem RVs.append {ρ : Rho} {K : PySem.W.Frag} {H : Hp} : ∀ {xs ys : List Ir.Val} {vs ws : List V}, RVs ρ K H xs vs → RVs ρ K H ys ws → RVs ρ K H (xs ++ ys) (vs ++ ws)
  | _, _, _, _, .nil, s => s
  | _, _, _, _, .cons h r, s => .cons h (RVs.append r s)
theorem evals_append {is js : List Ir.Ex} {env : Ir.Env} : ∀ {st st' : Ir.Store} {vs : List Ir.Val}, Ir.evals C (is ++ js) env st = .ok vs st' → ∃ us ws s1, Ir.evals C is env st = .ok us s1 ∧ Ir.evals C js env s1 = .ok ws st' ∧ vs = us ++ ws := by
  induction is with
  | nil => intro st st' vs h; exact ⟨[], vs, st, by simp [Ir.evals], h, rfl⟩
  | cons i is ih =>
    intro st st' vs h
    simp only [List.cons_append, Ir.evals] at h ⊢
    obtain ⟨v, s1, e1, h1⟩ := bok h
    obtain ⟨vs1, s2, e2, h2⟩ := bok h1
    cases h2
    obtain ⟨us, ws, s3, e3, e4, rfl⟩ := ih e2
    exact ⟨v :: us, ws, s3, by rw [e1]; simp [e3], e4, rfl⟩
theorem run_kwD {k : Nat} {f : Addr} {fd : FuncData} {ps : List Str} {sp : Sp} {pins : List (Addr × Obj)} {σ : L2.St} {H : Hp} {s : Shared} {Q : VK} {us ws : List Value} {vs zs : List V} {q : Kw} (F : FnOk X.prog X.w X.K X.mg X.base CX0 k f fd ps sp) (hr : Room k X.A) (hb : KwOk X.K fd ps q) (h1 : us.length = q.2.1) (h2 : ws.length = q.2.2.1.length)
    (I : Inv X pins σ H s) (r : Vals vs us) (rz : Vals zs ws) (h : ∀ dvs, (∀ ρ H, RDs ρ X.K H q.2.2.2.2 dvs) → sp (permV q.2.2.2.1 (vs ++ zs ++ dvs)) H Q E0) : wpAny (model X.prog X.w) X.A (call (.ref f) us (q.2.2.1.zip ws)) (EP X pins σ Q) X.xe s := by
  obtain ⟨dv, dvs, rd, rds, hb⟩ := hb
  have r2 := permV_vals ((r.append rz).append rd) q.2.2.2.1
  refine wpAny_call (codeAny_mono (F.run X.A X.stack s H ⟨us, q.2.2.1.zip ws⟩ _ _ Q E0 hr I.env0 (hb s us ws I.kIn h1 h2) r2 (h dvs rds)) fun r s' hq => ?_)
  cases r with
  | error e => exact (show False from hq).elim
  | ok fl =>
    cases fl with
    | ret u => exact I.after hq
    | next => exact False.elim hq
    | brk => exact False.elim hq
    | cont => exact False.elim hq
theorem kw_end {T : Ir.Tab} {n : Nat} {f : String} {K : PySem.W.Frag} {ρ1 : Rho} {H1 : Hp} {s1 st' : Ir.Store} {vs : List Ir.Val} {XS : List V} {v : Ir.Val} {perm : List Nat} {Q : VK} (rs1 : RS ρ1 K s1 H1) (rx : RVs ρ1 K H1 vs XS) (ev : Ir.callN T n f (permV perm vs) s1 = .ok v st') (k : ∀ ρ' H' x, Ext ρ1 H1 ρ' H' → RS ρ' K st' H' → RV ρ' K H' v x → Q x H') : spI T n K f (permV perm XS) H1 Q E0 :=
  ⟨ρ1, s1, _, v, st', rs1, permV_rvs rx perm, ev, k⟩
/-! ### calls that leave defaults -/
theorem evals_cons_con {env : Ir.Env} {st : Ir.Store} : ∀ ds : List Ir.D, Ir.evals C (ds.map Ir.Ex.con) env st = .ok (ds.map Ir.Val.d) st
  | [] => by simp [Ir.evals]
  | d :: ds => by
    have ih := evals_cons_con (env := env) (st := st) ds
    simp [Ir.evals, Ir.eval, ih]
theorem RDs.rvs {ρ : Rho} {K : PySem.W.Frag} {H : Hp} : ∀ {ds : List Ir.D} {vs : List V}, RDs ρ K H ds vs → RVs ρ K H (ds.map Ir.Val.d) vs
  | _, _, .nil => .nil
  | _, _, .cons h r => .cons (show RV ρ K H (.d _) _ from h) (RDs.rvs r)
theorem se_callD {T : Ir.Tab} {KW : List Kw} {n m : Nat} {f : String} {fn : Ir.Fn} {perm : List Nat} {ds : List Ir.D} {e : Expr} {es : List Expr} {is js : List Ir.Ex} {p pos : Pos} (ft : FT T KW n X.prog X.w X.K X.mg X.base) (hT : T f = some fn) (hq : (f, m, [], perm, ds) ∈ KW) (hr : Room (n + 2) X.A) (ha : SEs X (Ir.callN T n) (e :: es) is) (hl0 : is.length = m := by rfl) (hj : js = ds.map Ir.Ex.con := by rfl) (hg : Gl X (Str.ofString f) := by rfl)
    (hx : fn.x = false := by rfl) (hkd : fn.k = .df ∨ fn.k = .dk := by first | exact .inl rfl | exact .inr rfl) (hdb : (Str.ofString f == ("__debug__" : Str)) = false := by decide) (he : starEach (e :: es) X.env = (false, eval e X.env) :: starEach es X.env := by rfl) (hpl : (backTo pos (starEach es X.env)).any (·.1) = false := by rfl) :
    SE X (Ir.callN T n) (.Call (.Name (Str.ofString f) p) (e :: es) [] pos) (.callP f (is ++ js) perm) := by
  subst hj
  obtain ⟨a, fd, ps, F, hm, hk, hkw⟩ := ft.okA f fn hT hx hkd
  refine ⟨fun pins s σ H Q I h => ?_⟩
  obtain ⟨ρ, env, st, v, st', rs, re, ev, k⟩ := h
  simp only [Ir.eval] at ev
  obtain ⟨vs, s1, e1, ev⟩ := bok ev
  obtain ⟨us, ws, s0, f1, f2, rfl⟩ := evals_append e1
  rw [evals_cons_con] at f2
  cases f2
  refine wpAny_Call_Name_kw (ld_glob I hg hm ?_ hdb)
  refine PySem.W.callWith_K (h₀ := X.base) I.ok.mod.kin hk (thn (ha.run pos pins s σ H (fun xs H1 => xs.length = m ∧ ∀ dvs, (∀ ρ H, RDs ρ X.K H ds dvs) → spI T n X.K f (permV perm (xs ++ [] ++ dvs)) H1 Q E0) I
    ⟨ρ, env, st, us, _, rs, re, f1, fun ρ1 H1 XS x1 rs1 rx => ⟨?_, fun dvs hd => ?_⟩⟩) fun uv s2 ⟨xs, H1, I1, r1, hxl, q1⟩ => ⟨I1.kIn, ?_⟩) he hpl
  · rw [← rx.length, evals_len _ _ _ _ _ f1, hl0]
  · rw [List.append_nil]
    exact kw_end rs1 (rx.append (RDs.rvs (hd ρ1 H1))) ev fun ρ' H' x x3 rs3 r3 => k ρ' H' x (x1.trans x3) rs3 r3
  · exact run_kwD (q := (f, m, [], perm, ds)) (ws := []) (zs := []) F hr (hkw _ hq rfl) (show uv.length = m by rw [← r1.length]; exact hxl) rfl I1 r1 .nil q1
end Snd

namespace Snd
open PySem PySem.Spec PyProof.Rows L2
variable {X : Cx} {C : Ir.Calls}
/-! ### built-in calls -/
theorem callR_or {f : Value} {r r' : List V → Hp → VK → Prop} (h : CallR X f r) (h' : CallR X f r') : CallR X f (fun xs H Q => r xs H Q ∨ r' xs H Q) := by
  intro pins s σ H xs us Q I r q
  rcases q with q | q
  · exact h pins s σ H xs us Q I r q
  · exact h' pins s σ H xs us Q I r q
theorem callR_imp {f : Value} {r r' : List V → Hp → VK → Prop} (h : CallR X f r) (w : ∀ xs H Q, r' xs H Q → r xs H Q) : CallR X f r' := fun pins s σ H xs us Q I r q => h pins s σ H xs us Q I r (w _ _ _ q)
def rB (K : PySem.W.Frag) (f : Ir.Bi) : List V → Hp → VK → Prop := fun xs H Q => ∃ ρ st vs v st', RS ρ K st H ∧ RVs ρ K H vs xs ∧ Ir.bltV f vs st = .ok v st' ∧ ∀ ρ' H' x, Ext ρ H ρ' H' → RS ρ' K st' H' → RV ρ' K H' v x → Q x H'
inductive VDs (ρ : Rho) (K : PySem.W.Frag) (H : Hp) : List Ir.D → List V → Prop
  | nil : VDs ρ K H [] []
  | cons {x : Ir.D} {xs : List Ir.D} {y : V} {ys : List V} : VD ρ K H x y → VDs ρ K H xs ys → VDs ρ K H (x :: xs) (y :: ys)
theorem VDs.derefs {ρ : Rho} {K : PySem.W.Frag} {H : Hp} {st : Ir.Store} (rs : RS ρ K st H) : ∀ {vs : List Ir.Val} {xs : List V} {ds : List Ir.D}, RVs ρ K H vs xs → Ir.derefs st vs = some ds → VDs ρ K H ds xs
  | [], _, _, .nil, e => by simp [Ir.derefs] at e; subst e; exact .nil
  | v :: vs, _, _, .cons h r, e => by
    simp only [Ir.derefs] at e
    split at e
    · rename_i d ds h1 h2
      cases e
      exact .cons (.deref rs h h1) (VDs.derefs rs r h2)
    · cases e
theorem bltD_inv {f : Ir.Bi} {vs : List Ir.Val} {st st' : Ir.Store} {v : Ir.Val} (h : Ir.bltD f vs st = .ok v st') : st' = st ∧ ∃ ds r, Ir.derefs st vs = some ds ∧ Ir.D.blt f ds = some r ∧ v = .d r := by
  unfold Ir.bltD at h
  split at h
  · rename_i ds hds
    split at h
    · rename_i r hr
      cases h
      exact ⟨rfl, ds, r, hds, hr, rfl⟩
    · cases h
  · cases h
theorem not_len {f : Ir.Bi} (h : f ≠ .len ∧ f ≠ .zip ∧ f ≠ .enum ∧ f ≠ .zipS) {vs : List Ir.Val} {st st' : Ir.Store} {v : Ir.Val} (e : Ir.bltV f vs st = .ok v st') : st' = st ∧ ∃ ds r, Ir.derefs st vs = some ds ∧ Ir.D.blt f ds = some r ∧ v = .d r := by
  unfold Ir.bltV at e
  split at e
  · exact absurd rfl h.1
  · exact absurd rfl h.2.1
  · exact absurd rfl h.2.2.1
  · exact absurd rfl h.2.2.2
  · exact bltD_inv e
theorem zip_inv {vs : List Ir.Val} {st st' : Ir.Store} {v : Ir.Val} (e : Ir.bltV .zip vs st = .ok v st') : st' = st ∧ ∃ ds r, Ir.asDs vs = some ds ∧ Ir.D.bZip ds = some r ∧ v = .d r := by
  have e : (match Ir.asDs vs with | some _ => Ir.bltD .zip vs st | none => Ir.Res.bad) = .ok v st' := e
  split at e
  · rename_i ds hds
    obtain ⟨h1, ds', r, h2, h3, h4⟩ := bltD_inv e
    have : ∀ {vs : List Ir.Val} {ds : List Ir.D}, Ir.asDs vs = some ds → Ir.derefs st vs = some ds := by
      intro vs
      induction vs with
      | nil => intro ds h; simp [Ir.asDs] at h; subst h; rfl
      | cons v vs ih =>
        intro ds h
        cases v with
        | ref _ => simp [Ir.asDs] at h
        | d x =>
          simp only [Ir.asDs, Option.map_eq_some_iff] at h
          obtain ⟨ds, h1, rfl⟩ := h
          simp [Ir.derefs, Ir.deref, ih h1]
    rw [this hds] at h2
    cases h2
    exact ⟨h1, _, r, hds, h3, h4⟩
  · cases e
theorem blt_len : CallR X (.builtin "len") (rB X.K .len) := by
  refine callR_imp (callR_or (callR_or call_len_seq call_lenD) call_len_str) fun xs H Q ⟨ρ, st, vs, v, st', rs, rv, ev, k⟩ => ?_
  have ev : (match Ir.lenDic vs st with | some n => Ir.Res.ok (Ir.Val.d (.int n)) st | none => Ir.bltD .len vs st) = .ok v st' := ev
  split at ev
  · rename_i n hn
    cases ev
    unfold Ir.lenDic at hn
    split at hn
    · rename_i m
      split at hn
      · rename_i kvs hk
        cases hn
        cases rv with
        | cons rv t =>
          cases t
          obtain ⟨a, rfl, _, ks, h2, h3, h4⟩ := RV.cell rs rv hk (by simp)
          refine .inl (.inr ⟨a, ks, rfl, h2, ?_⟩)
          rw [← h4.length]
          exact k ρ H _ (.refl _ _) rs (.int _)
      · cases hn
    · cases hn
  · obtain ⟨rfl, ds, r, h1, h2, rfl⟩ := bltD_inv ev
    have vd := VDs.derefs rs rv h1
    simp only [Ir.D.blt] at h2
    unfold Ir.D.bLen at h2
    split at h2
    · cases h2
      cases vd with
      | cons vd t =>
        cases t
        obtain ⟨a, ys, rfl, t, z, r⟩ := RD.ro_inv vd
        refine .inl (.inl ⟨a, ys, rfl, .inl t.sq, ?_⟩)
        rw [← r.length]
        exact k ρ H _ (.refl _ _) rs (.int _)
    · cases h2
      cases vd with
      | cons vd t =>
        cases t
        obtain ⟨a, ys, rfl, t, z, r⟩ := RD.tup_inv vd
        refine .inl (.inl ⟨a, ys, rfl, .inr t.sq, ?_⟩)
        rw [← r.length]
        exact k ρ H _ (.refl _ _) rs (.int _)
    · cases h2
      cases vd with
      | cons vd t =>
        cases t
        obtain ⟨a, ys, rfl, t, z, r⟩ := vd
        refine .inl (.inl ⟨a, ys, rfl, .inl (SqL.of t), ?_⟩)
        rw [← r.length]
        exact k ρ H _ (.refl _ _) rs (.int _)
    · rename_i z
      split at h2
      · rename_i hl
        cases h2
        cases vd with
        | cons vd t =>
          cases t
          refine .inr ⟨_, by rw [RD.str_inv vd], by rw [ofString_len, ← lim_eq]; exact hl, ?_⟩
          rw [ofString_len]
          exact k ρ H _ (.refl _ _) rs (.int _)
      · cases h2
    · cases h2
theorem blt_abs : CallR X (.builtin "abs") (rB X.K .abs) := by
  refine callR_imp call_abs fun xs H Q ⟨ρ, st, vs, v, st', rs, rv, ev, k⟩ => ?_
  obtain ⟨rfl, ds, r, h1, h2, rfl⟩ := not_len (by decide) ev
  have vd := VDs.derefs rs rv h1
  simp only [Ir.D.blt] at h2
  unfold Ir.D.bAbs at h2
  split at h2
  · cases h2
    cases vd with
    | cons vd t =>
      cases t
      exact ⟨_, by rw [RD.int_inv vd], k ρ H _ (.refl _ _) rs (.int _)⟩
  · cases h2
theorem blt_tuple : CallR X (.type "tuple") (rB X.K .tuple) := by
  refine callR_imp call_tuple_of fun xs H Q ⟨ρ, st, vs, v, st', rs, rv, ev, k⟩ => ?_
  obtain ⟨rfl, ds, r, h1, h2, rfl⟩ := not_len (by decide) ev
  have vd := VDs.derefs rs rv h1
  simp only [Ir.D.blt] at h2
  unfold Ir.D.bTuple at h2
  split at h2
  · cases h2
    cases vd with
    | cons vd t =>
      cases t
      obtain ⟨a, ys, rfl, t, z, r⟩ := RD.tup_inv vd
      exact ⟨a, ys, rfl, .inr ⟨t.sq, k ρ H _ (.refl _ _) rs (RD.tup t z r)⟩⟩
  · cases h2
    cases vd with
    | cons vd t =>
      cases t
      obtain ⟨a, ys, rfl, t, z, r⟩ := vd
      exact ⟨a, ys, rfl, .inl ⟨SqL.of t, fun p hp => k ρ _ _ (.grow rs hp _) (rs.grow hp _) (grow_tup rs r z hp)⟩⟩
  · cases h2
theorem bools_ok {ρ : Rho} {K : PySem.W.Frag} {H : Hp} : ∀ {xs : List Ir.D} {ys : List V} {bs : List Bool}, RDs ρ K H xs ys → Ir.D.bools xs = some bs → ys = bs.map V.bl
  | [], _, _, .nil, e => by simp [Ir.D.bools] at e; subst e; rfl
  | x :: xs, _, _, .cons h r, e => by
    cases x <;> simp [Ir.D.bools] at e
    obtain ⟨bs, e1, rfl⟩ := e
    rw [RD.bool_inv h, bools_ok r e1]; rfl
theorem blt_all (hc : X.calm = true) : CallR X (.builtin "all") (rB X.K .all) := by
  refine callR_imp (cr_all hc) fun xs H Q ⟨ρ, st, vs, v, st', rs, rv, ev, k⟩ => ?_
  obtain ⟨rfl, ds, r, h1, h2, rfl⟩ := not_len (by decide) ev
  have vd := VDs.derefs rs rv h1
  simp only [Ir.D.blt] at h2
  unfold Ir.D.bAll at h2
  split at h2
  · simp only [Option.map_eq_some_iff] at h2
    obtain ⟨bs, e1, rfl⟩ := h2
    cases vd with
    | cons vd t =>
      cases t
      obtain ⟨a, ys, rfl, t, z, r⟩ := vd
      exact ⟨a, bs, rfl, by rw [← bools_ok r e1]; exact SqL.of t, k ρ H _ (.refl _ _) rs (.bool _)⟩
  · cases h2
theorem blt_any (hc : X.calm = true) : CallR X (.builtin "any") (rB X.K .any) := by
  refine callR_imp (cr_any hc) fun xs H Q ⟨ρ, st, vs, v, st', rs, rv, ev, k⟩ => ?_
  obtain ⟨rfl, ds, r, h1, h2, rfl⟩ := not_len (by decide) ev
  have vd := VDs.derefs rs rv h1
  simp only [Ir.D.blt] at h2
  unfold Ir.D.bAny at h2
  split at h2
  · simp only [Option.map_eq_some_iff] at h2
    obtain ⟨bs, e1, rfl⟩ := h2
    cases vd with
    | cons vd t =>
      cases t
      obtain ⟨a, ys, rfl, t, z, r⟩ := vd
      exact ⟨a, bs, rfl, by rw [← bools_ok r e1]; exact SqL.of t, k ρ H _ (.refl _ _) rs (.bool _)⟩
  · cases h2
theorem blt_min (hc : X.calm = true) : CallR X (.builtin "min") (rB X.K .min) := by
  refine callR_imp (call_min2 hc) fun xs H Q ⟨ρ, st, vs, v, st', rs, rv, ev, k⟩ => ?_
  obtain ⟨rfl, ds, r, h1, h2, rfl⟩ := not_len (by decide) ev
  have vd := VDs.derefs rs rv h1
  simp only [Ir.D.blt] at h2
  unfold Ir.D.bMin at h2
  split at h2
  · cases h2
    cases vd with
    | cons vd t =>
      cases t with
      | cons vd2 t =>
        cases t
        exact ⟨_, _, by rw [RD.int_inv vd, RD.int_inv vd2], k ρ H _ (.refl _ _) rs (.int _)⟩
  · cases h2
theorem blt_max (hc : X.calm = true) : CallR X (.builtin "max") (rB X.K .max) := by
  refine callR_imp (call_max2 hc) fun xs H Q ⟨ρ, st, vs, v, st', rs, rv, ev, k⟩ => ?_
  obtain ⟨rfl, ds, r, h1, h2, rfl⟩ := not_len (by decide) ev
  have vd := VDs.derefs rs rv h1
  simp only [Ir.D.blt] at h2
  unfold Ir.D.bMax at h2
  split at h2
  · cases h2
    cases vd with
    | cons vd t =>
      cases t with
      | cons vd2 t =>
        cases t
        exact ⟨_, _, by rw [RD.int_inv vd, RD.int_inv vd2], k ρ H _ (.refl _ _) rs (.int _)⟩
  · cases h2
theorem se_blt {f : Ir.Bi} {x : String} {e : Expr} {es : List Expr} {is : List Ir.Ex} {p pos : Pos} (hc : CallR X (.builtin x) (rB X.K f)) (hs : SEs X C (e :: es) is) (hm : X.mg (Str.ofString x) = none) (hv : bootBuiltins (Str.ofString x) = some (.builtin x)) (hg : Gl X (Str.ofString x) := by rfl)
    (hn : Str.ofString x ≠ "__name__" := by decide) (hdb : (Str.ofString x == ("__debug__" : Str)) = false := by decide) (he : starEach (e :: es) X.env = (false, eval e X.env) :: starEach es X.env := by rfl) (hpl : (backTo pos (starEach es X.env)).any (·.1) = false := by rfl) :
    SE X C (.Call (.Name (Str.ofString x) p) (e :: es) [] pos) (.blt f is) := by
  refine pe_imp (pe_callB hc hg hm hv hs hn hdb he hpl) fun σ H Q ⟨ρ, env, st, v, st', rs, re, ev, k⟩ => ?_
  simp only [Ir.eval] at ev
  obtain ⟨vs, s1, e1, ev⟩ := bok ev
  exact ⟨ρ, env, st, vs, s1, rs, re, e1, fun ρ1 H1 XS x1 rs1 rx => ⟨ρ1, s1, vs, v, st', rs1, rx, ev, fun ρ' H' x x2 rs2 r2 => k ρ' H' x (x1.trans x2) rs2 r2⟩⟩
theorem se_bltT {f : Ir.Bi} {x : String} {e : Expr} {es : List Expr} {is : List Ir.Ex} {p pos : Pos} (hc : CallR X (.type x) (rB X.K f)) (hs : SEs X C (e :: es) is) (hm : X.mg (Str.ofString x) = none) (hv : bootBuiltins (Str.ofString x) = some (.type x)) (hg : Gl X (Str.ofString x) := by rfl)
    (hn : Str.ofString x ≠ "__name__" := by decide) (hdb : (Str.ofString x == ("__debug__" : Str)) = false := by decide) (he : starEach (e :: es) X.env = (false, eval e X.env) :: starEach es X.env := by rfl) (hpl : (backTo pos (starEach es X.env)).any (·.1) = false := by rfl) :
    SE X C (.Call (.Name (Str.ofString x) p) (e :: es) [] pos) (.blt f is) := by
  refine pe_imp (pe_callTy hc hg hm hv hs hn hdb he hpl) fun σ H Q ⟨ρ, env, st, v, st', rs, re, ev, k⟩ => ?_
  simp only [Ir.eval] at ev
  obtain ⟨vs, s1, e1, ev⟩ := bok ev
  exact ⟨ρ, env, st, vs, s1, rs, re, e1, fun ρ1 H1 XS x1 rs1 rx => ⟨ρ1, s1, vs, v, st', rs1, rx, ev, fun ρ' H' x x2 rs2 r2 => k ρ' H' x (x1.trans x2) rs2 r2⟩⟩
/-- list(x): a new list -/
theorem sn_list {e : Expr} {i : Ir.Ex} {p pos : Pos} (h : SE X C e i) (hm : X.mg (Str.ofString "list") = none) (hv : bootBuiltins (Str.ofString "list") = some (.type "list")) (hg : Gl X (Str.ofString "list") := by rfl)
    (he : starEach [e] X.env = (false, eval e X.env) :: starEach [] X.env := by rfl) (hpl : (backTo pos (starEach [] X.env)).any (·.1) = false := by rfl) :
    SN X C (.Call (.Name (Str.ofString "list") p) [e] [] pos) (.blt .list [i]) := by
  refine pe_imp (pe_callTy call_list_of hg hm hv (pa_cons h pa_nil he) (by decide) (by decide) he hpl) fun σ H Q ⟨ρ, env, st, xs, st', rs, re, ev, k⟩ => ?_
  simp only [Ir.eval, Ir.evals] at ev
  obtain ⟨vs, s1, e1, ev⟩ := bok ev
  obtain ⟨v, s2, e2, e1⟩ := bok e1
  simp only [Ir.Res.bind_ok] at e1
  cases e1
  obtain ⟨rfl, ds, r, h1, h2, h3⟩ := not_len (by decide) ev
  cases h3
  refine ⟨ρ, env, st, v, _, rs, re, e2, fun ρ1 H1 V1 x1 rs1 rv => ?_⟩
  have vd := VDs.derefs rs1 (.cons rv .nil) h1
  simp only [Ir.D.blt] at h2
  unfold Ir.D.bList at h2
  split at h2
  · cases h2
    cases vd with
    | cons vd t =>
      cases t
      obtain ⟨a, ys, rfl, t, z, r⟩ := RD.tup_inv vd
      exact ⟨a, ys, rfl, .inr t.sq, fun l hl => sn_fin x1 rs1 r z hl k⟩
  · cases h2
    cases vd with
    | cons vd t =>
      cases t
      obtain ⟨a, ys, rfl, t, z, r⟩ := vd
      exact ⟨a, ys, rfl, .inl (SqL.of t), fun l hl => sn_fin x1 rs1 r z hl k⟩
  · cases h2
theorem is_list {is : List Ir.Ex} : ∀ env st v st', Ir.eval C (.blt .list is) env st = .ok v st' → ∃ xs, v = .d (.lst xs) := fun env st v st' ev => by
  simp only [Ir.eval] at ev
  obtain ⟨vs, s1, e1, ev⟩ := bok ev
  obtain ⟨_, ds, r, _, h2, rfl⟩ := not_len (by decide) ev
  simp only [Ir.D.blt] at h2
  unfold Ir.D.bList at h2
  split at h2
  · cases h2; exact ⟨_, rfl⟩
  · cases h2; exact ⟨_, rfl⟩
  · cases h2
/-! ### isinstance -/
def dTy : Ir.D → String
  | .non => "NoneType" | .bool _ => "bool" | .int _ => "int" | .str _ => "str" | .tup _ => "tuple" | .lst _ => "list" | .ro _ => "list" | _ => ""
theorem VD.ty {ρ : Rho} {K : PySem.W.Frag} {H : Hp} {d : Ir.D} {x : V} (hp : d.plain = true) (h : VD ρ K H d x) : TyX K H x (.type (dTy d)) := by
  cases d with
  | non => rw [RD.non_inv h]; exact .base .non
  | bool b => rw [RD.bool_inv h]; exact .base (.bl b)
  | int i => rw [RD.int_inv h]; exact .base (.int i)
  | str s => rw [RD.str_inv h]; exact .base (.str _)
  | tup xs =>
    obtain ⟨a, ys, rfl, t, z, r⟩ := RD.tup_inv h
    rcases t with ⟨t, _⟩ | ⟨o, its, n, h1, h2, _⟩
    · rcases t with t | ⟨o, t⟩
      · exact .base (.tup t)
      · exact .fTuple t
    · exact .kTuple h1 h2
  | lst xs =>
    obtain ⟨a, ys, rfl, t, z, r⟩ := h
    exact .base (.lst t)
  | ro xs =>
    obtain ⟨a, ys, rfl, t, z, r⟩ := RD.ro_inv h
    rcases t with ⟨⟨o, t⟩, _⟩ | ⟨o, its, n, h1, h2, _⟩
    · exact .base (.frz t)
    · exact .kList h1 h2
  | oid n => cases hp
  | fn n => cases hp
  | exn c ns as => cases hp
theorem kit_dTy (d : Ir.D) (hp : d.plain = true) (c : Ir.Ty) : kitB (dTy d) c.name = some (d.tyOk c) := by
  cases d <;> first | (cases hp; done) | (cases c <;> simp only [dTy, Ir.Ty.name, Ir.D.tyOk] <;> decide +kernel)
theorem isi_ok {ts : List Ir.Ty} {p r : Ir.D} (h : Ir.isiV ts p = some r) : p.plain = true ∧ r = .bool (ts.any fun t => p.tyOk t) := by
  unfold Ir.isiV at h
  split at h
  · cases h; exact ⟨by assumption, rfl⟩
  · cases h
end Snd

namespace Snd
open PySem PySem.Spec PyProof.Rows L2
variable {X : Cx} {C : Ir.Calls}
/-! ### isinstance -/
abbrev STy (X : Cx) (es : List Expr) (ts : List Ir.Ty) : Prop := PA X es (fun _ H Q => Q (ts.map fun t => V.ty t.name) H)
theorem sty_nil : STy X [] [] := pa_nil
theorem sty_cons {es : List Expr} {ts : List Ir.Ty} {t : Ir.Ty} {p : Pos} (hs : STy X es ts) (hm : X.mg (Str.ofString t.name) = none) (hv : bootBuiltins (Str.ofString t.name) = some (.type t.name)) (hg : Gl X (Str.ofString t.name) := by rfl) (hn : Str.ofString t.name ≠ "__name__" := by decide) (hd : (Str.ofString t.name == ("__debug__" : Str)) = false := by decide)
    (hst : starEach (.Name (Str.ofString t.name) p :: es) X.env = (false, eval (.Name (Str.ofString t.name) p) X.env) :: starEach es X.env := by rfl) : STy X (.Name (Str.ofString t.name) p :: es) (t :: ts) :=
  pa_imp (pa_cons (pe_bltn (v := .ty t.name) hg hm hv rfl hn hd) hs hst) fun σ H Q q => q
theorem kitAny_ok {K : PySem.W.Frag} (d : Ir.D) (hp : d.plain = true) : ∀ ts : List Ir.Ty, PySem.W.kitAny K (.type (dTy d)) (ts.map fun t => Value.type t.name) = some (ts.any fun t => d.tyOk t)
  | [] => rfl
  | t :: ts => by
    simp only [List.map_cons, List.any_cons]
    refine kitAny_cons (b := d.tyOk t) (kit_ty (kit_dTy d hp t)) (fun h => ?_) (fun h => ?_)
    · rw [h]; simpa using kitAny_ok d hp ts
    · rw [h]; rfl
theorem cls_all : ∀ ts : List Ir.Ty, Paired ClsV (ts.map fun t => V.ty t.name) (ts.map fun t => Value.type t.name)
  | [] => .nil
  | t :: ts => .cons (.ty _) (cls_all ts)
theorem se_isiT {e : Expr} {es : List Expr} {i : Ir.Ex} {ts : List Ir.Ty} {p pos p1 : Pos} {k1} (h : SE X C e i) (hs : STy X es ts) (hm : X.mg (Str.ofString "isinstance") = none) (hl : ts.length ≤ sizeLine := by decide) (hg : Gl X (Str.ofString "isinstance") := by rfl)
    (hv : bootBuiltins (Str.ofString "isinstance") = some (.builtin "isinstance") := by decide +kernel)
    (hst : starEach [e, .Tuple es k1 p1] X.env = (false, eval e X.env) :: starEach [.Tuple es k1 p1] X.env := by rfl) (hst2 : starEach [.Tuple es k1 p1] X.env = (false, eval (.Tuple es k1 p1) X.env) :: starEach [] X.env := by rfl) (hpl : (backTo pos (starEach [.Tuple es k1 p1] X.env)).any (·.1) = false := by rfl) :
    SE X C (.Call (.Name (Str.ofString "isinstance") p) [e, .Tuple es k1 p1] [] pos) (.isi i ts) := by
  refine pe_imp (pe_callB call_isiT hg hm hv (pa_cons h (pa_cons (pe_tup hs) pa_nil hst2) hst) (by decide) (by decide) hst hpl) fun σ H Q ⟨ρ, env, st, v, st', rs, re, ev, k⟩ => ?_
  simp only [Ir.eval] at ev
  obtain ⟨x, s1, e1, ev⟩ := bok ev
  obtain ⟨d, e2, ev⟩ := ook ev
  obtain ⟨d', e3, ev⟩ := ook ev
  obtain ⟨hpd, rfl⟩ := isi_ok e3
  cases ev
  refine ⟨ρ, env, st, x, _, rs, re, e1, fun ρ1 H1 X1 x1 rs1 rx => ⟨by simpa using hl, fun tp hp => ?_⟩⟩
  have x2 : Ext ρ1 H1 ρ1 (upd H1 tp (.tup (ts.map fun t => V.ty t.name))) := .grow rs1 hp _
  have rs2 := rs1.grow hp (.tup (ts.map fun t => V.ty t.name))
  have vd : VD ρ1 X.K _ d X1 := VD.deref rs2 (rx.mono x2) e2
  exact ⟨X1, tp, _, _, _, _, rfl, upd_same, cls_all ts, VD.ty hpd vd, kitAny_ok d hpd ts, k ρ1 _ _ (x1.trans x2) rs2 (.bool _)⟩
theorem se_isi {e : Expr} {i : Ir.Ex} {t : Ir.Ty} {p pos p1 : Pos} (h : SE X C e i) (hs : STy X [.Name (Str.ofString t.name) p1] [t]) (hm : X.mg (Str.ofString "isinstance") = none) (hg : Gl X (Str.ofString "isinstance") := by rfl)
    (hv : bootBuiltins (Str.ofString "isinstance") = some (.builtin "isinstance") := by decide +kernel)
    (hst : starEach [e, .Name (Str.ofString t.name) p1] X.env = (false, eval e X.env) :: starEach [.Name (Str.ofString t.name) p1] X.env := by rfl) (hpl : (backTo pos (starEach [.Name (Str.ofString t.name) p1] X.env)).any (·.1) = false := by rfl) :
    SE X C (.Call (.Name (Str.ofString "isinstance") p) [e, .Name (Str.ofString t.name) p1] [] pos) (.isi i [t]) := by
  refine pe_imp (pe_callB call_isi hg hm hv (pa_cons h hs hst) (by decide) (by decide) hst hpl) fun σ H Q ⟨ρ, env, st, v, st', rs, re, ev, k⟩ => ?_
  simp only [Ir.eval] at ev
  obtain ⟨x, s1, e1, ev⟩ := bok ev
  obtain ⟨d, e2, ev⟩ := ook ev
  obtain ⟨d', e3, ev⟩ := ook ev
  obtain ⟨hpd, rfl⟩ := isi_ok e3
  cases ev
  refine ⟨ρ, env, st, x, _, rs, re, e1, fun ρ1 H1 X1 x1 rs1 rx => ?_⟩
  have vd : VD ρ1 X.K _ d X1 := VD.deref rs1 rx e2
  have := k ρ1 _ _ x1 rs1 (.bool _)
  simp only [List.any_cons, List.any_nil, Bool.or_false] at this
  exact ⟨X1, _, _, _, _, rfl, .ty _, VD.ty hpd vd, kit_ty (kit_dTy d hpd t), this⟩
/-! ### methods -/
theorem mthOk_lst {m : Ir.Mt} {o : Ir.Val} {st : Ir.Store} (hm : m = .append ∨ m = .extend ∨ m = .pop) (h : Ir.mthOk m o st = true) : ∃ n xs, o = .ref n ∧ st[n]? = some (.lst xs) := by
  unfold Ir.mthOk at h
  split at h
  all_goals first
    | (cases h; done)
    | (split at h
       · rename_i n _ xs hx; exact ⟨_, xs, rfl, hx⟩
       · cases h)
    | (rcases hm with hm | hm | hm <;> cases hm)
theorem mthOk_dic {m : Ir.Mt} {o : Ir.Val} {st : Ir.Store} (hm : m = .setdefault ∨ m = .get) (h : Ir.mthOk m o st = true) : ∃ n kvs, o = .ref n ∧ st[n]? = some (.dic kvs) := by
  unfold Ir.mthOk at h
  split at h
  all_goals first
    | (cases h; done)
    | (split at h
       · rename_i n _ xs hx; exact ⟨_, xs, rfl, hx⟩
       · cases h)
    | (rcases hm with hm | hm <;> cases hm)
theorem tyV_lst {ρ : Rho} {K : PySem.W.Frag} {H : Hp} {st : Ir.Store} {n : Nat} {xs : List Ir.D} {x : V} (rs : RS ρ K st H) (r : RV ρ K H (.ref n) x) (h : st[n]? = some (.lst xs)) : tyV K "list" x H := by
  obtain ⟨a, rfl, h1, ys, h2, h3, h4⟩ := RV.cell rs r h (by simp)
  exact .inl ⟨rfl, ys, SqL.of h2⟩
theorem mth_ev {m : Ir.Mt} {io : Ir.Ex} {is : List Ir.Ex} {env : Ir.Env} {st st' : Ir.Store} {v : Ir.Val} (ev : Ir.eval C (.mth m io is) env st = .ok v st') : ∃ x s1 vs s2, Ir.eval C io env st = .ok x s1 ∧ Ir.mthOk m x s1 = true ∧ Ir.evals C is env s1 = .ok vs s2 ∧ Ir.mthV m x vs s2 = .ok v st' := by
  simp only [Ir.eval] at ev
  obtain ⟨x, s1, e1, ev⟩ := bok ev
  split at ev
  · rename_i hk
    obtain ⟨vs, s2, e2, ev⟩ := bok ev
    exact ⟨x, s1, vs, s2, e1, hk, e2, ev⟩
  · cases ev
section
variable {o e : Expr} {io ie : Ir.Ex} {apos cpos : Pos}
theorem se_append (ho : SE X C o io) (he : SE X C e ie) (hbase : attributeBase o (Str.ofString "append") X.env (eval o X.env) = eval o X.env := by rfl)
    (hfew : ((backTo cpos (starEach [e] X.env)).all (fun x => !x.1) && (backToKw cpos (keywordEach [] X.env)).all (fun x => x.1.isSome) && decide (([e] : List Expr).length + ([] : List Keyword).length + (if ([] : List Keyword).isEmpty then 0 else 1) < 30)) = true := by rfl)
    (hline : (apos.endLine == cpos.line) = true := by rfl) (hs : starEach [e] X.env = (false, eval e X.env) :: starEach [] X.env := by rfl) (hpl : (backTo cpos (starEach [] X.env)).any (·.1) = false := by rfl) :
    SE X C (.Call (.Attribute o (Str.ofString "append") apos) [e] [] cpos) (.mth .append io [ie]) := by
  refine pe_imp (pe_bm PySem.F.plainAttrs_list PySem.F.slot_list_append PySem.F.type_list_append mt_append ho (pa_cons he pa_nil hs) hbase hfew hline hs hpl) fun σ H Q ⟨ρ, env, st, v, st', rs, re, ev, k⟩ => ?_
  obtain ⟨x, s1, vs, s2, e1, hk, e2, ev⟩ := mth_ev ev
  obtain ⟨n, ys, rfl, hn⟩ := mthOk_lst (.inl rfl) hk
  simp only [Ir.evals] at e2
  obtain ⟨y, s3, e2, e3⟩ := bok e2
  simp only [Ir.Res.bind_ok] at e3
  cases e3
  refine ⟨ρ, env, st, _, s1, rs, re, e1, fun ρ1 H1 X1 x1 rs1 rx => ⟨tyV_lst rs1 rx hn, ρ1, env, s1, y, _, rs1, re.mono x1, e2, fun ρ2 H2 Y x2 rs2 ry => ?_⟩⟩
  have w0 : Ir.mAppend n s2 [y] = .ok v st' := ev
  clear ev
  unfold Ir.mAppend at w0
  split at w0
  · rename_i d hd
    cases hd
    split at w0
    · rename_i xs hx
      split at w0
      · rename_i hl
        cases w0
        obtain ⟨a, rfl, h1, zs, h2, h3, h4⟩ := RV.cell rs2 (rx.mono x2) hx (by simp)
        have hz : zs.length < sizeLine := by rw [← h4.length, ← lim_eq]; exact hl
        refine ⟨a, zs, Y, rfl, rfl, h2, hz, ?_⟩
        have w : Ext ρ2 H2 ρ2 (upd H2 a (.lst (zs ++ [Y]))) := .write rs2 h1 _
        exact k ρ2 _ _ ((x1.trans x2).trans w) (rs2.write h1 ⟨_, upd_same, by rw [List.length_append]; exact hz, (h4.mono w).append (.cons (ry.mono w) .nil)⟩) .non
      · cases w0
    · cases w0
  · cases w0
theorem RDs.dropLast {ρ : Rho} {K : PySem.W.Frag} {H : Hp} {xs : List Ir.D} {ys : List V} (r : RDs ρ K H xs ys) : RDs ρ K H xs.dropLast ys.dropLast := by
  rw [List.dropLast_eq_take, List.dropLast_eq_take, r.length]
  exact r.take _
theorem se_pop (ho : SE X C o io) (hbase : attributeBase o (Str.ofString "pop") X.env (eval o X.env) = eval o X.env := by rfl) (hline : (apos.endLine == cpos.line) = true := by rfl) :
    SE X C (.Call (.Attribute o (Str.ofString "pop") apos) [] [] cpos) (.mth .pop io []) := by
  refine pe_imp (pe_bm0 PySem.F.plainAttrs_list PySem.F.slot_list_pop PySem.F.type_list_pop mt_pop ho hbase hline) fun σ H Q ⟨ρ, env, st, v, st', rs, re, ev, k⟩ => ?_
  obtain ⟨x, s1, vs, s2, e1, hk, e2, ev⟩ := mth_ev ev
  obtain ⟨n, ys, rfl, hn⟩ := mthOk_lst (.inr (.inr rfl)) hk
  simp only [Ir.evals] at e2
  cases e2
  refine ⟨ρ, env, st, _, _, rs, re, e1, fun ρ1 H1 X1 x1 rs1 rx => ⟨tyV_lst rs1 rx hn, ?_⟩⟩
  have w0 : Ir.mPop n s1 [] = .ok v st' := ev
  clear ev
  simp only [Ir.mPop] at w0
  split at w0
  · rename_i xs hx
    split at w0
    · rename_i y hy
      cases w0
      obtain ⟨a, rfl, h1, zs, h2, h3, h4⟩ := RV.cell rs1 rx hx (by simp)
      obtain ⟨w, hw1, hw2⟩ := h4.get hy
      rw [h4.length] at hw1
      refine ⟨a, zs, w, rfl, rfl, h2, hw1, ?_⟩
      have wr : Ext ρ1 H1 ρ1 (upd H1 a (.lst zs.dropLast)) := .write rs1 h1 _
      exact k ρ1 _ _ (x1.trans wr) (rs1.write h1 ⟨_, upd_same, by rw [List.length_dropLast]; omega, h4.dropLast.mono wr⟩) (hw2.mono wr)
    · cases w0
  · cases w0
theorem se_get {f : Expr} {jf : Ir.Ex} {n0 : Nat} (hr : Room n0 X.A) (ho : SE X C o io) (he : SE X C e ie) (hf : SE X C f jf) (m : M2 X o (Str.ofString "get") apos e f cpos := by exact ⟨rfl, rfl, rfl, rfl⟩) :
    SE X C (.Call (.Attribute o (Str.ofString "get") apos) [e, f] [] cpos) (.mth .get io [ie, jf]) := by
  refine pe_imp (pe_dget2 (hu_of hr) ho he hf m) fun σ H Q ⟨ρ, env, st, v, st', rs, re, ev, k⟩ => ?_
  obtain ⟨x, s1, vs, s2, e1, hk, e2, ev⟩ := mth_ev ev
  obtain ⟨n, ys, rfl, hn⟩ := mthOk_dic (.inr rfl) hk
  simp only [Ir.evals] at e2
  obtain ⟨y, s3, f2, e3⟩ := bok e2
  obtain ⟨zs, s4, e3, e4⟩ := bok e3
  obtain ⟨z, s5, f3, e5⟩ := bok e3
  simp only [Ir.Res.bind_ok] at e5
  cases e5
  cases e4
  refine ⟨ρ, env, st, _, s1, rs, re, e1, fun ρ1 H1 X1 x1 rs1 rx => ?_⟩
  obtain ⟨a, rfl, h1, ks, h2, h3, h4⟩ := RV.cell rs1 rx hn (by simp)
  refine ⟨a, rfl, .inl ⟨ks, .inl h2⟩, ρ1, env, s1, y, s3, rs1, re.mono x1, f2, fun ρ2 H2 Y x2 rs2 ry => ⟨ρ2, env, s3, z, _, rs2, re.mono (x1.trans x2), f3, fun ρ3 H3 Z x3 rs3 rz => ?_⟩⟩
  have w0 : Ir.mGet n s2 [y, z] = .ok v st' := ev
  clear ev
  unfold Ir.mGet at w0
  split at w0
  · rename_i kd vd hd
    cases hd
    split at w0
    · rename_i kvs hx
      split at w0
      · rename_i hc
        cases w0
        obtain ⟨a', e', h1', ks', h2', h3', h4'⟩ := RV.cell rs3 (rx.mono (x2.trans x3)) hx (by simp)
        cases e'
        obtain ⟨k', hk1, rfl⟩ := RK.kv (ry.mono x3) hc
        refine ⟨_, .k h2', ?_⟩
        rcases RKs.look hk1 h4' with ⟨z1, z2⟩ | ⟨u, q, z1, z2, z3⟩
        · rw [z2]; rw [z1] at k
          exact k ρ3 H3 _ ((x1.trans x2).trans x3) rs3 rz
        · rw [z2]; rw [z1] at k
          exact k ρ3 H3 _ ((x1.trans x2).trans x3) rs3 z3
      · cases w0
    · cases w0
  · cases w0
theorem intBits_same (i : Int) : Ir.intBits i = Builtin.Int.intBits i := by
  unfold Ir.intBits Builtin.Int.intBits
  by_cases h : i = 0
  · subst h; rfl
  · have h1 : ¬ i.natAbs = 0 := by omega
    rw [if_neg h1, if_neg (by simpa using h)]
theorem se_bits (ho : SE X C o io) (hbase : attributeBase o (Str.ofString "bit_length") X.env (eval o X.env) = eval o X.env := by rfl) (hline : (apos.endLine == cpos.line) = true := by rfl) :
    SE X C (.Call (.Attribute o (Str.ofString "bit_length") apos) [] [] cpos) (.mth .bit_length io []) := by
  refine pe_imp (pe_bits ho hbase hline) fun σ H Q ⟨ρ, env, st, v, st', rs, re, ev, k⟩ => ?_
  obtain ⟨x, s1, vs, s2, e1, hk, e2, ev⟩ := mth_ev ev
  simp only [Ir.evals] at e2
  cases e2
  cases x with
  | ref n => cases ev
  | d y =>
    have ev : Ir.mBits s1 y [] = .ok v st' := ev
    cases y <;> simp only [Ir.mBits, reduceCtorEq] at ev
    cases ev
    refine ⟨ρ, env, st, _, _, rs, re, e1, fun ρ1 H1 X1 x1 rs1 rx => ⟨_, RD.int_inv rx, ?_⟩⟩
    rw [← intBits_same]
    exact k ρ1 H1 _ x1 rs1 (.int _)
end
end Snd

namespace Snd
open PySem PySem.Spec PyProof.Rows L2
/-! ### targets -/
section
variable {prog : Program} {w : World} {A : Around} {E : Value → Shared → Prop} {s : Shared}
theorem star_T {l : Addr} {items : Array Value} {n i : Nat} {Q : List Value → Shared → Prop} (hl : IsTup s.heap l items) (hh : A.handled = none) (hi : i < n) (hn : n ≤ items.size + 1) (hz : items.size ≤ sizeLine)
    (h : ∀ (h' : Heap) (tk : Nat), (∀ b o, s.heap.get? b = some o → h'.get? b = some o) → Q (items.toList.take i ++ [.ref h'.objs.size] ++ (items.toList.drop i).drop (items.size + 1 - n)) { s with heap := h'.push { cls := .type "list", data := .seq ((items.toList.drop i).take (items.size + 1 - n)).toArray }, toks := tk }) :
    wpAny (model prog w) A (unpackItems (.ref l) n (some i)) Q E s := by
  have hlt : l ≠ s.heap.objs.size := by obtain ⟨o, ho, _⟩ := hl; exact Nat.ne_of_lt (Heap.lt_size ho)
  unfold unpackItems
  refine wpAny_bind ?_
  unfold notIterableAtAll
  refine wpAny_bind (wpAny_specialOf hl.typeIs slot_tuple_iter.lookup ?_)
  refine wpAny_pure ?_
  simp only [Bool.false_eq_true, if_false]
  refine wpAny_bind (wpAny_holding (iter_tuple hl ?_))
  refine wpAny_bind (wpAny_holding (draw_tuple hlt i 0 _ _ ⟨_, Heap.get?_push_size _ rfl, rfl, rfl⟩ (hl.push _) (by omega) fun h₁ hit₁ hs₁ => ?_))
  have hl₁ : IsTup h₁ l items := (hl.push _).extBut hs₁.extBut hlt
  rw [Nat.zero_add] at hit₁
  have hit₁' := hit₁
  obtain ⟨oi, hoi, _⟩ := hit₁'
  have hl₁' := hl₁
  obtain ⟨ol, hol, _⟩ := hl₁'
  rw [List.drop_zero]
  have hfl : (items.toList.take i).length = i := by rw [List.length_take, Array.length_toList]; omega
  rw [if_neg (show ¬ ((items.toList.take i).length < i) by rw [hfl]; omega)]
  refine wpAny_bind (wpAny_holding (PySem.W.kun_collect (s := { s with heap := h₁ }) (T := "tuple_iterator") (.inr (.inr (.inr rfl))) (Walks.tuple (A := A.in1) hh s.heap.objs.size l hlt items) (fun j u st => st.1.typeIs) (k := i) (by omega) ⟨hit₁, hl₁⟩ (Heap.lt_size hoi) (Heap.lt_size hol) (fun h₂ tk hk => ?_) hz))
  have hrl : (items.toList.drop i).length = items.size - i := by rw [List.length_drop, Array.length_toList]
  have hmid : (items.toList.drop i).length - (n - 1 - i) = items.size + 1 - n := by rw [hrl]; omega
  show wpAny _ _ (if (items.toList.drop i).length < n - 1 - i then _ else _) _ _ _
  rw [if_neg (by rw [hrl]; omega)]
  show wpAny _ _ (newList ((items.toList.drop i).take ((items.toList.drop i).length - (n - 1 - i))) >>= fun d => pure (items.toList.take i ++ [d] ++ (items.toList.drop i).drop ((items.toList.drop i).length - (n - 1 - i)))) _ _ _
  rw [hmid]
  have he : ∀ b o, s.heap.get? b = some o → h₂.get? b = some o := fun b o e => hk b o (Nat.ne_of_lt (Heap.lt_size e)) (hs₁.extBut b o (Nat.ne_of_lt (Heap.lt_size e)) (Heap.get?_push_of_some _ e))
  refine wpAny_bind (wpAny_newObj_type (wpAny_pure (h h₂ tk he)) ?_)
  show (((items.toList.drop i).take (items.size + 1 - n)).toArray).size ≤ sizeLine
  rw [List.size_toArray, List.length_take, hrl]
  omega
theorem unpackItems_list {t : Addr} {items : Array Value} {Q : List Value → Shared → Prop} (hh : A.handled = none) (hl : s.heap.IsList t items)
    (hQ : ∀ h', Heap.ExtBut s.heap.objs.size s.heap h' → Q items.toList { s with heap := h' }) : wpAny (model prog w) A (unpackItems (.ref t) items.size none) Q E s := by
  have hlt : t ≠ s.heap.objs.size := by obtain ⟨o, ho, _⟩ := hl; exact Nat.ne_of_lt (Heap.lt_size ho)
  unfold unpackItems
  refine wpAny_bind ?_
  unfold notIterableAtAll
  refine wpAny_bind (wpAny_specialOf hl.typeIs slot_list_iter.lookup ?_)
  refine wpAny_pure ?_
  simp only [Bool.false_eq_true, if_false]
  refine wpAny_bind (wpAny_holding (wpAny_pyIter_list hl ?_))
  refine wpAny_bind (wpAny_holding (PySem.W.kun_draw hlt items.size 0 _ _ ⟨_, Heap.get?_push_size _ rfl, rfl, rfl⟩ (hl.push _) (by omega) fun h₁ hit₁ hs₁ => ?_))
  have hall : List.take items.size (List.drop 0 items.toList) = items.toList := by
    rw [List.drop_zero]; exact List.take_of_length_le (by simp)
  rw [hall]
  rw [if_neg (by simp)]
  have hl₁ : h₁.IsList t items := (hl.push _).extBut hs₁.extBut hlt
  refine wpAny_bind (wpAny_holding (wpAny_pyNext_list_end hh hit₁ hl₁ (by simp) fun h₂ he₂ => ?_))
  simp only [Option.isSome_none, Bool.false_eq_true, if_false]
  exact wpAny_pure (hQ h₂ fun b o hb e => he₂ b o hb (hs₁.extBut b o hb (Heap.get?_push_of_some _ e)))
theorem star_L {l : Addr} {items : Array Value} {n i : Nat} {Q : List Value → Shared → Prop} (hl : s.heap.IsList l items) (hh : A.handled = none) (hi : i < n) (hn : n ≤ items.size + 1) (hz : items.size ≤ sizeLine)
    (h : ∀ (h' : Heap) (tk : Nat), (∀ b o, s.heap.get? b = some o → h'.get? b = some o) → Q (items.toList.take i ++ [.ref h'.objs.size] ++ (items.toList.drop i).drop (items.size + 1 - n)) { s with heap := h'.push { cls := .type "list", data := .seq ((items.toList.drop i).take (items.size + 1 - n)).toArray }, toks := tk }) :
    wpAny (model prog w) A (unpackItems (.ref l) n (some i)) Q E s := by
  have hlt : l ≠ s.heap.objs.size := by obtain ⟨o, ho, _⟩ := hl; exact Nat.ne_of_lt (Heap.lt_size ho)
  unfold unpackItems
  refine wpAny_bind ?_
  unfold notIterableAtAll
  refine wpAny_bind (wpAny_specialOf hl.typeIs slot_list_iter.lookup ?_)
  refine wpAny_pure ?_
  simp only [Bool.false_eq_true, if_false]
  refine wpAny_bind (wpAny_holding (wpAny_pyIter_list hl ?_))
  refine wpAny_bind (wpAny_holding (PySem.W.kun_draw hlt i 0 _ _ ⟨_, Heap.get?_push_size _ rfl, rfl, rfl⟩ (hl.push _) (by omega) fun h₁ hit₁ hs₁ => ?_))
  have hl₁ : h₁.IsList l items := (hl.push _).extBut hs₁.extBut hlt
  rw [Nat.zero_add] at hit₁
  have hit₁' := hit₁
  obtain ⟨oi, hoi, _⟩ := hit₁'
  have hl₁' := hl₁
  obtain ⟨ol, hol, _⟩ := hl₁'
  rw [List.drop_zero]
  have hfl : (items.toList.take i).length = i := by rw [List.length_take, Array.length_toList]; omega
  rw [if_neg (show ¬ ((items.toList.take i).length < i) by rw [hfl]; omega)]
  refine wpAny_bind (wpAny_holding (PySem.W.kun_collect (s := { s with heap := h₁ }) (T := "list_iterator") (.inr (.inr (.inl rfl))) (Walks.list (A := A.in1) hh s.heap.objs.size l hlt items) (fun j u st => st.1.typeIs) (k := i) (by omega) ⟨hit₁, hl₁⟩ (Heap.lt_size hoi) (Heap.lt_size hol) (fun h₂ tk hk => ?_) hz))
  have hrl : (items.toList.drop i).length = items.size - i := by rw [List.length_drop, Array.length_toList]
  have hmid : (items.toList.drop i).length - (n - 1 - i) = items.size + 1 - n := by rw [hrl]; omega
  show wpAny _ _ (if (items.toList.drop i).length < n - 1 - i then _ else _) _ _ _
  rw [if_neg (by rw [hrl]; omega)]
  show wpAny _ _ (newList ((items.toList.drop i).take ((items.toList.drop i).length - (n - 1 - i))) >>= fun d => pure (items.toList.take i ++ [d] ++ (items.toList.drop i).drop ((items.toList.drop i).length - (n - 1 - i)))) _ _ _
  rw [hmid]
  have he : ∀ b o, s.heap.get? b = some o → h₂.get? b = some o := fun b o e => hk b o (Nat.ne_of_lt (Heap.lt_size e)) (hs₁.extBut b o (Nat.ne_of_lt (Heap.lt_size e)) (Heap.get?_push_of_some _ e))
  refine wpAny_bind (wpAny_newObj_type (wpAny_pure (h h₂ tk he)) ?_)
  show (((items.toList.drop i).take (items.size + 1 - n)).toArray).size ≤ sizeLine
  rw [List.size_toArray, List.length_take, hrl]
  omega
end
variable {X : Cx} {C : Ir.Calls}
/-- (a, .., *r, .., z) = a tuple or a list -/
def gStar (K : PySem.W.Frag) (n i : Nat) (t : TGs) : TG := fun v σ H Q => ∃ a xs, v = .ref a ∧ (SqT K H a xs ∨ SqL K H a xs) ∧ n ≤ xs.length + 1 ∧ ∀ p, H p = none → t (xs.take i ++ [.ref p] ++ (xs.drop i).drop (xs.length + 1 - n)) σ (upd H p (.lst ((xs.drop i).take (xs.length + 1 - n)))) Q
theorem pg_star {es : List Expr} {k : Nat} {t : TGs} {n i : Nat} {pos : Pos} (hc : X.calm = true) (h : PGs X es t) (hi : i < n) (hn : (assignEach es X.env).length = n := by rfl) (hst : (assignEach es X.env).findIdx? (·.1) = some i := by rfl) : PG X (.Tuple es k pos) (gStar X.K n i t) := by
  refine ⟨fun pins s σ H v u Q I r hw => ?_⟩
  obtain ⟨a, xs, e1, hq, hl, hw⟩ := hw
  subst e1
  cases r
  rw [assign_Tuple]
  refine wpAny_bind (wpAny_standAt ?_)
  unfold unpack
  rw [hn, hst]
  have core : ∀ its : List Value, Vals xs its → xs.length ≤ sizeLine → ∀ (h' : Heap) (tk : Nat), (∀ b o, s.heap.get? b = some o → h'.get? b = some o) →
      wpAny (model X.prog X.w) X.A (assignInOrder ((assignEach es X.env).map (·.2)) (its.toArray.toList.take i ++ [.ref h'.objs.size] ++ (its.toArray.toList.drop i).drop (its.toArray.size + 1 - n))) (fun _ s' => ∃ σ' H', Inv X pins σ' H' s' ∧ Q σ' H') X.xe
        { s with heap := h'.push { cls := .type "list", data := .seq ((its.toArray.toList.drop i).take (its.toArray.size + 1 - n)).toArray }, toks := tk } := fun its rv hz h' tk hk => by
    have I1 : Inv X pins σ H { s with heap := h', toks := tk } := I.kept (t' := tk) hk
    have hf : H h'.objs.size = none := I1.hok.fresh (Nat.le_refl _)
    have el : its.toArray.size = xs.length := by rw [List.size_toArray]; exact rv.length.symm
    have rm : Vals ((xs.drop i).take (xs.length + 1 - n)) ((its.toArray.toList.drop i).take (its.toArray.size + 1 - n)) := by
      rw [el]
      exact (Vals.drop i rv).take _
    have I2 : Inv X pins σ (upd H h'.objs.size (.lst ((xs.drop i).take (xs.length + 1 - n)))) { s with heap := h'.push { cls := .type "list", data := .seq ((its.toArray.toList.drop i).take (its.toArray.size + 1 - n)).toArray }, toks := tk } := by
      refine I1.laid (t' := tk) (fun b o e => Heap.get?_push_of_some _ e) (Nat.le_refl _) ⟨?_, _, 0, rm, Heap.get?_push_size _ rfl⟩
      rw [List.length_take, List.length_drop]
      omega
    refine h.run pins _ σ _ _ _ Q I2 ?_ (hw _ hf)
    refine Vals.append (Vals.append (Vals.take i rv) (.cons rfl .nil)) ?_
    rw [el]
    exact Vals.drop _ (Vals.drop i rv)
  rcases hq with hq | hq
  · obtain ⟨its, rv, ht, hz⟩ := I.tuple hq
    exact wpAny_bind (wpAny_holding (star_T ht (I.ok.hd hc) hi (by rw [List.size_toArray, ← rv.length]; omega) (by rw [List.size_toArray, ← rv.length]; exact hz) (core its rv hz)))
  · obtain ⟨its, rv, ht, hz⟩ := I.list hq
    exact wpAny_bind (wpAny_holding (star_L ht.isList (I.ok.hd hc) hi (by rw [List.size_toArray, ← rv.length]; omega) (by rw [List.size_toArray, ← rv.length]; exact hz) (core its rv hz)))
theorem pgs_star {e : Expr} {es : List Expr} {t : TG} {u : TGs} {p : Pos} (h1 : PG X e t) (h2 : PGs X es u)
    (hs : (assignEach (.Starred e p :: es) X.env).map (·.2) = assign e X.env :: (assignEach es X.env).map (·.2) := by rfl) : PGs X (.Starred e p :: es) (gCons t u) := by
  refine ⟨fun pins s σ H vs us Q I r h => ?_⟩
  obtain ⟨v, vr, e1, h⟩ := h
  subst e1
  cases r with
  | cons r rr =>
    rw [hs]
    refine assignInOrder_cons (thn (h1.run pins s σ H _ _ _ I r h) fun _ s1 ⟨σ1, H1, I1, q1⟩ => ?_)
    exact h2.run pins s1 σ1 H1 _ _ Q I1 rr q1
theorem pg_imp {e : Expr} {t t' : TG} (h : PG X e t) (w : ∀ v σ H Q, t' v σ H Q → t v σ H Q) : PG X e t' := ⟨fun pins s σ H v u Q I r q => h.run pins s σ H v u Q I r (w v σ H Q q)⟩
theorem pgs_imp {e : List Expr} {t t' : TGs} (h : PGs X e t) (w : ∀ v σ H Q, t' v σ H Q → t v σ H Q) : PGs X e t' := ⟨fun pins s σ H v u Q I r q => h.run pins s σ H v u Q I r (w v σ H Q q)⟩
theorem wipe_same {σ : L2.St} {i : Nat} {v : V} : ∀ {vs : List Nat}, i ∈ vs → L2.wipe (σ.set i (some v)) vs = L2.wipe σ vs
  | j :: vs, h => by
    simp only [L2.wipe]
    by_cases e : i ∈ vs
    · rw [wipe_same e]
    · have hj : i = j := by
        rcases List.mem_cons.mp h with q | q
        · exact q
        · exact absurd q e
      subst hj
      have : ∀ vs : List Nat, i ∉ vs → L2.wipe (σ.set i (some v)) vs = (L2.wipe σ vs).set i (some v) := by
        intro vs
        induction vs with
        | nil => intro _; rfl
        | cons j vs ih =>
          intro hn
          simp only [L2.wipe]
          rw [ih (fun q => hn (List.mem_cons_of_mem _ q)), List.set_comm _ _ (fun q => hn (by rw [q]; exact List.mem_cons_self))]
      rw [this vs e, List.set_set]
/-- nothing but these slots is changed -/
def OnlyS (is : List Nat) (σ σ' : L2.St) : Prop := ∀ vs : List Nat, (∀ i ∈ is, i ∈ vs) → L2.wipe σ' vs = L2.wipe σ vs
theorem OnlyS.one (i : Nat) (σ : L2.St) (v : V) : OnlyS [i] σ (σ.set i (some v)) := fun vs h => wipe_same (h i (by simp))
theorem OnlyS.trans {is js : List Nat} {σ σ1 σ2 : L2.St} (a : OnlyS is σ σ1) (b : OnlyS js σ1 σ2) : OnlyS (is ++ js) σ σ2 := fun vs h => (b vs fun i q => h i (List.mem_append_right _ q)).trans (a vs fun i q => h i (List.mem_append_left _ q))
theorem OnlyS.fold : ∀ (is : List Nat) (vs : List V) (σ : L2.St), OnlyS is σ ((is.zip vs).foldl (fun s p => s.set p.1 (some p.2)) σ)
  | [], _, σ => fun _ _ => rfl
  | _ :: _, [], σ => fun _ _ => rfl
  | i :: is, v :: vs, σ => OnlyS.trans (is := [i]) (OnlyS.one i σ v) (OnlyS.fold is vs _)
def tG (K : PySem.W.Frag) (t : Ir.Tg) : TG := fun v σ H Q => ∃ ρ env st x env', RS ρ K st H ∧ REnv ρ K H env σ ∧ RD ρ K H x v ∧ t.put x env = some env' ∧ ∀ ρ' H' σ', Ext ρ H ρ' H' → RS ρ' K st H' → REnv ρ' K H' env' σ' → OnlyS t.slots σ σ' → Q σ' H'
def tGs (K : PySem.W.Frag) (ts : List Ir.Tg) : TGs := fun vs σ H Q => ∃ ρ env st xs env', RS ρ K st H ∧ REnv ρ K H env σ ∧ RDs ρ K H xs vs ∧ Ir.Tg.puts ts xs env = some env' ∧ ∀ ρ' H' σ', Ext ρ H ρ' H' → RS ρ' K st H' → REnv ρ' K H' env' σ' → OnlyS (Ir.Tg.slotss ts) σ σ' → Q σ' H'
abbrev SG (X : Cx) (e : Expr) (t : Ir.Tg) : Prop := PG X e (tG X.K t)
abbrev SGs (X : Cx) (e : List Expr) (t : List Ir.Tg) : Prop := PGs X e (tGs X.K t)
theorem sg_name (i : Nat) {x : Str} {pos : Pos} (hN : X.N.Nodup) (hx : Loc X.env.scope x := by first | exact .inl rfl | exact .inr rfl) (hi : X.N[i]? = some x := by rfl) (hf : X.fn x = true ∨ X.env.scope.names.lookup x = some .local := by first | exact .inl rfl | exact .inr rfl | assumption) : SG X (.Name x pos) (.name i) :=
  pg_imp (pg_name hN hi hx hf) fun v σ H Q ⟨ρ, env, st, x, env', rs, re, rx, hp, k⟩ => by
    simp only [Ir.Tg.put, Option.some.injEq] at hp
    subst hp
    exact k ρ H _ (.refl _ _) rs (re.set (v := .d x) rx i) (by simp only [Ir.Tg.slots]; exact OnlyS.one i σ v)
theorem sgs_nil : SGs X [] [] := pgs_imp pgs_nil fun v σ H Q ⟨ρ, env, st, xs, env', rs, re, rx, hp, k⟩ => by
  cases rx with
  | nil =>
    simp only [Ir.Tg.puts, Option.some.injEq] at hp
    subst hp
    exact ⟨rfl, k ρ H _ (.refl _ _) rs re fun _ _ => rfl⟩
  | cons _ _ => simp [Ir.Tg.puts] at hp
theorem sgs_cons {e : Expr} {es : List Expr} {t : Ir.Tg} {ts : List Ir.Tg} (h1 : SG X e t) (h2 : SGs X es ts) (hs : (assignEach (e :: es) X.env).map (·.2) = assign e X.env :: (assignEach es X.env).map (·.2) := by rfl) : SGs X (e :: es) (t :: ts) :=
  pgs_imp (pgs_cons h1 h2 hs) fun v σ H Q ⟨ρ, env, st, xs, env', rs, re, rx, hp, k⟩ => by
    cases rx with
    | nil => simp [Ir.Tg.puts] at hp
    | cons rx rr =>
      simp only [Ir.Tg.puts, Option.bind_eq_some_iff] at hp
      obtain ⟨env1, hp1, hp2⟩ := hp
      exact ⟨_, _, rfl, ρ, env, st, _, env1, rs, re, rx, hp1, fun ρ1 H1 σ1 x1 rs1 re1 o1 => ⟨ρ1, env1, st, _, env', rs1, re1, rr.mono x1, hp2, fun ρ2 H2 σ2 x2 rs2 re2 o2 => k ρ2 H2 σ2 (x1.trans x2) rs2 re2 (by simp only [Ir.Tg.slotss]; exact o1.trans o2)⟩⟩
/-- (a, b, ..) = a list of that length -/
def gLst (K : PySem.W.Frag) (n : Nat) (t : TGs) : TG := fun v σ H Q => ∃ a xs, v = .ref a ∧ SqL K H a xs ∧ xs.length = n ∧ t xs σ H Q
theorem pg_lst {es : List Expr} {k : Nat} {pos : Pos} {t : TGs} {n : Nat} (hc : X.calm = true) (h : PGs X es t)
    (hn : (assignEach es X.env).length = n := by rfl) (hst : (assignEach es X.env).findIdx? (·.1) = none := by rfl) : PG X (.Tuple es k pos) (gLst X.K n t) := by
  refine ⟨fun pins s σ H v u Q I r hw => ?_⟩
  obtain ⟨a, xs, e1, hq, hl, hw⟩ := hw
  subst e1
  cases r
  obtain ⟨its, rv, ht, hz⟩ := I.list hq
  rw [assign_Tuple]
  refine wpAny_bind (wpAny_standAt ?_)
  unfold unpack
  rw [hn, hst]
  have hs : n = its.toArray.size := by simp [← hl, rv.length]
  rw [hs]
  refine wpAny_bind (wpAny_holding (unpackItems_list (I.ok.hd hc) ht.isList fun h' hx => ?_))
  have I1 : Inv X pins σ H { s with heap := h' } := I.kept (t' := s.toks) fun b o e => hx b o (Nat.ne_of_lt (Heap.lt_size e)) e
  exact h.run pins _ σ H xs _ Q I1 (by simpa using rv) hw
theorem pg_or {e : Expr} {t u : TG} (h1 : PG X e t) (h2 : PG X e u) : PG X e (fun v σ H Q => t v σ H Q ∨ u v σ H Q) :=
  ⟨fun pins s σ H v w Q I r h => h.elim (h1.run pins s σ H v w Q I r) (h2.run pins s σ H v w Q I r)⟩
theorem sg_tup {es : List Expr} {ts : List Ir.Tg} {k : Nat} {pos : Pos} (hc : X.calm = true) (h : SGs X es ts) (hl : ∀ xs env env', Ir.Tg.puts ts xs env = some env' → xs.length = ts.length) (hn : (assignEach es X.env).length = ts.length := by rfl) (hst : (assignEach es X.env).findIdx? (·.1) = none := by rfl) : SG X (.Tuple es k pos) (.tup ts) :=
  pg_imp (pg_or (pg_tup hc h hn hst) (pg_lst hc h hn hst)) fun v σ H Q ⟨ρ, env, st, x, env', rs, re, rx, hp, k⟩ => by
    cases x <;> simp only [Ir.Tg.put, reduceCtorEq] at hp
    · rename_i xs
      obtain ⟨a, ys, rfl, t, z, r⟩ := RD.tup_inv rx
      exact .inl ⟨a, ys, rfl, t.sq, by rw [← r.length]; exact hl _ _ _ hp, ρ, env, st, xs, env', rs, re, r, hp, by simpa only [Ir.Tg.slots] using k⟩
    · rename_i xs
      cases rx with
      | lst g1 g2 g3 g4 => exact .inr ⟨_, _, rfl, SqL.of g1, by rw [← g4.length]; exact hl _ _ _ hp, ρ, env, st, xs, env', rs, re, g4, hp, by simpa only [Ir.Tg.slots] using k⟩
theorem puts_len : ∀ (ts : List Ir.Tg) (xs : List Ir.D) (env env' : Ir.Env), Ir.Tg.puts ts xs env = some env' → xs.length = ts.length
  | [], [], _, _, _ => rfl
  | [], _ :: _, _, _, h => by simp [Ir.Tg.puts] at h
  | _ :: _, [], _, _, h => by simp [Ir.Tg.puts] at h
  | t :: ts, x :: xs, env, env', h => by
    simp only [Ir.Tg.puts, Option.bind_eq_some_iff] at h
    obtain ⟨e1, _, h2⟩ := h
    simp [puts_len ts xs e1 env' h2]
/-- names in a row -/
def gNames (is : List Nat) : TGs := fun vs σ H Q => vs.length = is.length ∧ Q ((is.zip vs).foldl (fun s p => s.set p.1 (some p.2)) σ) H
abbrev SNs (X : Cx) (es : List Expr) (is : List Nat) : Prop := PGs X es (gNames is)
theorem sns_nil : SNs X [] [] := pgs_imp pgs_nil fun v σ H Q ⟨h, q⟩ => by
  cases v with
  | nil => exact ⟨rfl, q⟩
  | cons _ _ => simp at h
theorem sns_cons (i : Nat) {x : Str} {pos : Pos} {es : List Expr} {is : List Nat} (hN : X.N.Nodup) (h : SNs X es is) (hx : Loc X.env.scope x := by first | exact .inl rfl | exact .inr rfl) (hi : X.N[i]? = some x := by rfl) (hf : X.fn x = true ∨ X.env.scope.names.lookup x = some .local := by first | exact .inl rfl | exact .inr rfl | assumption) (hs : (assignEach (.Name x pos :: es) X.env).map (·.2) = assign (.Name x pos) X.env :: (assignEach es X.env).map (·.2) := by rfl) : SNs X (.Name x pos :: es) (i :: is) :=
  pgs_imp (pgs_cons (pg_name hN hi hx hf) h hs) fun v σ H Q ⟨hl, q⟩ => by
    cases v with
    | nil => simp at hl
    | cons v vs => exact ⟨v, vs, rfl, by simpa using hl, q⟩
theorem sns_star (i : Nat) {x : Str} {pos p : Pos} {es : List Expr} {is : List Nat} (hN : X.N.Nodup) (h : SNs X es is) (hx : Loc X.env.scope x := by first | exact .inl rfl | exact .inr rfl) (hi : X.N[i]? = some x := by rfl) (hf : X.fn x = true ∨ X.env.scope.names.lookup x = some .local := by first | exact .inl rfl | exact .inr rfl | assumption) (hs : (assignEach (.Starred (.Name x pos) p :: es) X.env).map (·.2) = assign (.Name x pos) X.env :: (assignEach es X.env).map (·.2) := by rfl) : SNs X (.Starred (.Name x pos) p :: es) (i :: is) :=
  pgs_imp (pgs_star (pg_name hN hi hx hf) h hs) fun v σ H Q ⟨hl, q⟩ => by
    cases v with
    | nil => simp at hl
    | cons v vs => exact ⟨v, vs, rfl, by simpa using hl, q⟩
theorem setAll_ok {ρ : Rho} {K : PySem.W.Frag} {H : Hp} : ∀ {is : List Nat} {xs : List Ir.D} {vs : List V} {env env' : Ir.Env} {σ : L2.St}, RDs ρ K H xs vs → REnv ρ K H env σ → Ir.setAll is xs env = some env' → vs.length = is.length ∧ REnv ρ K H env' ((is.zip vs).foldl (fun s p => s.set p.1 (some p.2)) σ)
  | [], [], _, _, _, _, .nil, re, h => by simp only [Ir.setAll, Option.some.injEq] at h; subst h; exact ⟨rfl, re⟩
  | [], _ :: _, _, _, _, _, _, _, h => by simp [Ir.setAll] at h
  | _ :: _, [], _, _, _, _, _, _, h => by simp [Ir.setAll] at h
  | i :: is, x :: xs, _ :: vs, env, env', σ, .cons a r, re, h => by
    simp only [Ir.setAll] at h
    obtain ⟨h1, h2⟩ := setAll_ok r (re.set (v := .d x) a i) h
    exact ⟨by simp [h1], h2⟩
theorem foldl_zip_append (as bs : List Nat) (xs ys : List V) (σ : L2.St) (h : as.length = xs.length) : ((as ++ bs).zip (xs ++ ys)).foldl (fun (s : L2.St) p => s.set p.1 (some p.2)) σ = (bs.zip ys).foldl (fun s p => s.set p.1 (some p.2)) ((as.zip xs).foldl (fun s p => s.set p.1 (some p.2)) σ) := by
  rw [List.zip_append h, List.foldl_append]
/-- the same where the data may be a list of the arena -/
def tGV (K : PySem.W.Frag) (t : Ir.Tg) : TG := fun v σ H Q => ∃ ρ env st x env', RS ρ K st H ∧ REnv ρ K H env σ ∧ VD ρ K H x v ∧ t.put x env = some env' ∧ ∀ ρ' H' σ', Ext ρ H ρ' H' → RS ρ' K st H' → REnv ρ' K H' env' σ' → OnlyS t.slots σ σ' → Q σ' H'
theorem sg_starV {es : List Expr} {pre post : List Nat} {j : Nat} {k : Nat} {pos : Pos} (hc : X.calm = true) (h : SNs X es (pre ++ j :: post)) (hn : (assignEach es X.env).length = pre.length + 1 + post.length := by rfl) (hst : (assignEach es X.env).findIdx? (·.1) = some pre.length := by rfl) : PG X (.Tuple es k pos) (tGV X.K (.star pre j post)) :=
  pg_imp (pg_star hc h (by omega) hn hst) fun v σ H Q ⟨ρ, env, st, x, env', rs, re, rx, hp, k⟩ => by
    simp only [Ir.Tg.put] at hp
    cases hx : x.seq with
    | none => rw [hx] at hp; cases hp
    | some xs =>
      rw [hx] at hp
      simp only at hp
      split at hp
      · cases hp
      · rename_i hlen
        cases hs : Ir.setAll pre (xs.take pre.length) env with
        | none => rw [hs] at hp; cases hp
        | some env1 =>
          rw [hs] at hp
          simp only at hp
          have main : ∀ a ys, v = .ref a → (SqT X.K H a ys ∨ SqL X.K H a ys) → ys.length ≤ sizeLine → RDs ρ X.K H xs ys → gStar X.K (pre.length + 1 + post.length) pre.length (gNames (pre ++ j :: post)) v σ H Q := fun a ys hv hq hz r => by
            have hl := r.length
            refine ⟨a, ys, hv, hq, by omega, fun p hp0 => ?_⟩
            have x1 : Ext ρ H ρ (upd H p (.lst ((ys.drop pre.length).take (ys.length + 1 - (pre.length + 1 + post.length))))) := .grow rs hp0 _
            have rs1 := rs.grow hp0 (.lst ((ys.drop pre.length).take (ys.length + 1 - (pre.length + 1 + post.length))))
            have c1 : ys.length + 1 - (pre.length + 1 + post.length) = xs.length - pre.length - post.length := by omega
            have rm : RDs ρ X.K H ((xs.drop pre.length).take (xs.length - pre.length - post.length)) ((ys.drop pre.length).take (ys.length + 1 - (pre.length + 1 + post.length))) := by
              rw [c1]; exact (r.drop _).take _
            have rD := grow_lst rs rm (by rw [List.length_take, List.length_drop]; omega) hp0
            obtain ⟨g1, g2⟩ := setAll_ok ((r.take pre.length).mono x1) (re.mono x1) hs
            have ed : xs.drop (xs.length - post.length) = (xs.drop pre.length).drop (xs.length - pre.length - post.length) := by
              rw [List.drop_drop]; congr 1; omega
            have rl : RDs ρ X.K H (xs.drop (xs.length - post.length)) ((ys.drop pre.length).drop (ys.length + 1 - (pre.length + 1 + post.length))) := by
              rw [ed, c1]; exact (r.drop _).drop _
            obtain ⟨g3, g4⟩ := setAll_ok (rl.mono x1) (g2.set (v := .d (.lst _)) rD j) hp
            refine ⟨?_, ?_⟩
            · simp only [List.length_append, List.length_cons, List.length_nil, g3, g1]; omega
            · have := k ρ _ _ x1 rs1 g4 (by
                simp only [Ir.Tg.slots]
                have q := OnlyS.fold (pre ++ j :: post) (ys.take pre.length ++ (V.ref p :: (ys.drop pre.length).drop (ys.length + 1 - (pre.length + 1 + post.length)))) σ
                rw [foldl_zip_append _ _ _ _ _ g1.symm] at q
                exact q)
              have e2 : ys.take pre.length ++ [V.ref p] ++ (ys.drop pre.length).drop (ys.length + 1 - (pre.length + 1 + post.length)) = ys.take pre.length ++ (V.ref p :: (ys.drop pre.length).drop (ys.length + 1 - (pre.length + 1 + post.length))) := by simp
              rw [e2, foldl_zip_append _ _ _ _ _ g1.symm]
              exact this
          cases x <;> simp only [Ir.D.seq, reduceCtorEq, Option.some.injEq] at hx
          · subst hx
            obtain ⟨a, ys, rfl, t, z, r⟩ := RD.tup_inv rx
            exact main a ys rfl (.inl t.sq) z r
          · subst hx
            obtain ⟨a, ys, rfl, t, z, r⟩ := rx
            exact main a ys rfl (.inr (SqL.of t)) z r
theorem sg_star {es : List Expr} {pre post : List Nat} {j : Nat} {k : Nat} {pos : Pos} (hc : X.calm = true) (h : SNs X es (pre ++ j :: post)) (hn : (assignEach es X.env).length = pre.length + 1 + post.length := by rfl) (hst : (assignEach es X.env).findIdx? (·.1) = some pre.length := by rfl) : SG X (.Tuple es k pos) (.star pre j post) :=
  pg_imp (sg_starV hc h hn hst) fun v σ H Q ⟨ρ, env, st, x, env', rs, re, rx, hp, k⟩ => ⟨ρ, env, st, x, env', rs, re, VD.of rx, hp, k⟩
end Snd

set_option maxHeartbeats 1000000
namespace Snd
open PySem PySem.Spec PyProof.Rows L2
/-! zip of a list and a tuple: by what each of the two iterators does -/
/-- an iterator `it` over what stands at `l`: `P k h` tells that it is at place k -/
structure ItStep (prog : Program) (w : World) (it l : Addr) (P : Nat → Heap → Prop) (xs : Array Value) : Prop where
  next : ∀ {B : Around} {F : Value → Shared → Prop} {t : Shared} {k : Nat} {x : Value} {R : Value → Shared → Prop}, P k t.heap → xs[k]? = some x → (∀ g, P (k + 1) g → Heap.SameBut it t.heap g → R x { t with heap := g }) → wpAny (model prog w) B (Builtin.SmallTypes.nextOf (.ref it)) R F t
  over : ∀ {B : Around} {F : Value → Shared → Prop} {t : Shared} {k : Nat} {R : Value → Shared → Prop}, B.handled = none → P k t.heap → xs[k]? = none → (∀ g e, Heap.ExtBut it t.heap g → (∃ o, g.get? e = some o ∧ o.cls = .type "StopIteration") → F (.ref e) { t with heap := g }) → wpAny (model prog w) B (Builtin.SmallTypes.nextOf (.ref it)) R F t
  stay : ∀ {k : Nat} {g g' : Heap}, P k g → (∀ o, g.get? it = some o → g'.get? it = some o) → (∀ o, g.get? l = some o → g'.get? l = some o) → P k g'
section
variable {prog : Program} {w : World} {A : Around} {E : Value → Shared → Prop} {s : Shared}
variable {z TI TO i1 i2 l1 l2 : Addr} {P1 P2 : Nat → Heap → Prop} {xs ys : Array Value} {a b : Value}
/-- a zip at rest, its iterators at place k -/
structure ZpAt (h : Heap) (z TI TO i1 i2 : Addr) (P1 P2 : Nat → Heap → Prop) (a b : Value) (k : Nat) : Prop where
  zz : IsZip h z TI TO .none
  ti : IsPair h TI (.ref i1) (.ref i2)
  to : IsPair h TO a b
  p1 : P1 k h
  p2 : P2 k h
end
end Snd

set_option maxHeartbeats 1000000
namespace Snd
open PySem PySem.Spec PyProof.Rows L2
section
variable {prog : Program} {w : World} {A : Around} {E : Value → Shared → Prop} {s : Shared}
end
theorem five {c z TI TO i1 i2 : Addr} (h : c ∈ [z, TI, TO, i1, i2]) : c = z ∨ c = TI ∨ c = TO ∨ c = i1 ∨ c = i2 := by simpa using h
end Snd

namespace Snd
open PySem PySem.Spec PyProof.Rows L2
variable {X : Cx} {C : Ir.Calls}
/-! ### what is walked -/
structure Wk (K : PySem.W.Frag) (ρ0 : Rho) (H0 : Hp) (J : It) (xs : List Ir.D) : Prop where
  go : ∀ (i : Nat) (x : Ir.D) (ρ : Rho) (H : Hp) (st : Ir.Store), Ext ρ0 H0 ρ H → RS ρ K st H → xs[i]? = some x → J.go i H ∧ ∀ v H', J.yld i H v H' → Ext ρ H ρ H' ∧ RS ρ K st H' ∧ RD ρ K H' x v
  len : xs.length ≤ sizeLine
  stop : ∀ (i : Nat) (ρ : Rho) (H : Hp) (st : Ir.Store), Ext ρ0 H0 ρ H → RS ρ K st H → xs.length ≤ i → J.stop i H
theorem Wk.mono {K : PySem.W.Frag} {ρ ρ' : Rho} {H H' : Hp} {J : It} {xs : List Ir.D} (w : Wk K ρ H J xs) (e : Ext ρ H ρ' H') : Wk K ρ' H' J xs :=
  ⟨fun i x ρ1 H1 st e1 rs h => w.go i x ρ1 H1 st (e.trans e1) rs h, w.len, fun i ρ1 H1 st e1 rs h => w.stop i ρ1 H1 st (e.trans e1) rs h⟩
/-- data whose items are walked -/
def tSrc (C : Ir.Calls) (K : PySem.W.Frag) (e : Ir.Ex) : TI := fun σ H R => ∃ ρ env st p xs st', RS ρ K st H ∧ REnv ρ K H env σ ∧ Ir.eval C e env st = .ok (.d p) st' ∧ p.seq = some xs ∧ ∀ ρ' H' J, Ext ρ H ρ' H' → RS ρ' K st' H' → Wk K ρ' H' J xs → R J H'
abbrev SI (X : Cx) (C : Ir.Calls) (tg e : Expr) (ir : Ir.Ex) : Prop := PI X tg e (tSrc C X.K ir)
theorem pi_imp {tg e : Expr} {t t' : TI} (h : PI X tg e t) (w : ∀ σ H R, t' σ H R → t σ H R) : PI X tg e t' := ⟨fun pins s σ H R I q => h.run pins s σ H R I (w σ H R q)⟩
theorem pi_or {tg e : Expr} {t t' : TI} (h : PI X tg e t) (h' : PI X tg e t') : PI X tg e (fun σ H R => t σ H R ∨ t' σ H R) := ⟨fun pins s σ H R I q => by
  rcases q with q | q
  · exact h.run pins s σ H R I q
  · exact h'.run pins s σ H R I q⟩
theorem wk_list {K : PySem.W.Frag} {ρ : Rho} {H : Hp} {a : Addr} {xs : List Ir.D} {ys : List V} (h : H a = some (.lst ys)) (n : ¬ ρ.own a) (z : ys.length ≤ sizeLine) (r : RDs ρ K H xs ys) : Wk K ρ H (Itl K a) xs where
  len := by rw [r.length]; exact z
  go := fun i x ρ1 H1 st e rs hx => by
    obtain ⟨v, h1, h2⟩ := r.get hx
    have q : SqL K H1 a ys := SqL.of (e.fr _ _ h (own_no n) (own_nob n))
    refine ⟨⟨ys, v, q, h1⟩, fun w H' hy => ?_⟩
    obtain ⟨rfl, hw⟩ := hy
    have := hw ys q
    rw [h1] at this; cases this
    exact ⟨.refl _ _, rs, h2.mono e⟩
  stop := fun i ρ1 H1 st e rs hl => ⟨ys, SqL.of (e.fr _ _ h (own_no n) (own_nob n)), by rw [← r.length]; exact hl⟩
theorem wk_tup {K : PySem.W.Frag} {ρ : Rho} {H : Hp} {a : Addr} {xs : List Ir.D} {ys : List V} (h : TpAt ρ K H a ys) (z : ys.length ≤ sizeLine) (r : RDs ρ K H xs ys) : Wk K ρ H (Itt K a) xs where
  len := by rw [r.length]; exact z
  go := fun i x ρ1 H1 st e rs hx => by
    obtain ⟨v, h1, h2⟩ := r.get hx
    have q : SqT K H1 a ys := (h.mono e).sq
    refine ⟨⟨ys, v, q, h1⟩, fun w H' hy => ?_⟩
    obtain ⟨rfl, hw⟩ := hy
    have := hw ys q
    rw [h1] at this; cases this
    exact ⟨.refl _ _, rs, h2.mono e⟩
  stop := fun i ρ1 H1 st e rs hl => ⟨ys, (h.mono e).sq, by rw [← r.length]; exact hl⟩
theorem si_seq {tg e : Expr} {ir : Ir.Ex} (h : SE X C e ir) : SI X C tg e ir := by
  refine pi_imp (pi_or (pi_list h) (pi_tup h)) fun σ H R ⟨ρ, env, st, p, xs, st', rs, re, ev, hs, k⟩ => ?_
  cases p <;> simp only [Ir.D.seq, reduceCtorEq, Option.some.injEq] at hs
  · subst hs
    refine .inr ⟨ρ, env, st, _, st', rs, re, ev, fun ρ1 H1 X1 x1 rs1 rx => ?_⟩
    obtain ⟨a, ys, rfl, t, z, r⟩ := RD.tup_inv rx
    exact ⟨a, rfl, ⟨ys, t.sq⟩, k ρ1 H1 _ x1 rs1 (wk_tup t z r)⟩
  · subst hs
    refine .inl ⟨ρ, env, st, _, st', rs, re, ev, fun ρ1 H1 X1 x1 rs1 rx => ?_⟩
    cases rx with
    | lst h n z r => exact ⟨_, rfl, ⟨_, SqL.of h⟩, k ρ1 H1 _ x1 rs1 (wk_list h n z r)⟩
theorem wk_range {K : PySem.W.Frag} {ρ : Rho} {H : Hp} (lo : Int) (n : Nat) (z : n ≤ sizeLine) : Wk K ρ H (Itr lo n) (Ir.rangeL lo n) where
  len := by simpa [Ir.rangeL] using z
  go := fun i x ρ1 H1 st e rs hx => by
    have hi : i < n := by
      have := (List.getElem?_eq_some_iff.mp hx).1
      simpa [Ir.rangeL] using this
    have ex : x = .int (lo + (i : Nat)) := by
      simp only [Ir.rangeL, List.getElem?_map, List.getElem?_range hi, Option.map_some, Option.some.injEq] at hx
      exact hx.symm
    subst ex
    refine ⟨hi, fun w H' hy => ?_⟩
    obtain ⟨rfl, rfl⟩ := hy
    exact ⟨.refl _ _, rs, .int _⟩
  stop := fun i ρ1 H1 st e rs hl => by
    have : n ≤ i := by simpa [Ir.rangeL] using hl
    exact this
theorem si_range1 {tg e : Expr} {i : Ir.Ex} {p pos : Pos} (h : SE X C e i) (hm : X.mg (Str.ofString "range") = none) (hg : Gl X (Str.ofString "range") := by rfl) (hs : starEach [e] X.env = [(false, eval e X.env)] := by rfl) : SI X C tg (.Call (.Name (Str.ofString "range") p) [e] [] pos) (.blt .range [i]) := by
  refine pi_imp (pi_range1 hg hm (pa_cons h pa_nil hs) hs) fun σ H R ⟨ρ, env, st, q, xs, st', rs, re, ev, hseq, k⟩ => ?_
  simp only [Ir.eval, Ir.evals] at ev
  obtain ⟨vs, s1, e1, ev⟩ := bok ev
  obtain ⟨v, s2, e2, e1⟩ := bok e1
  simp only [Ir.Res.bind_ok] at e1
  cases e1
  obtain ⟨rfl, ds, r, h1, h2, h3⟩ := not_len (by decide) ev
  cases h3
  refine ⟨ρ, env, st, v, _, rs, re, e2, fun ρ1 H1 V1 x1 rs1 rv => ?_⟩
  have vd := VDs.derefs rs1 (.cons rv .nil) h1
  simp only [Ir.D.blt] at h2
  unfold Ir.D.bRange at h2
  split at h2
  · rename_i n
    split at h2
    · rename_i hn
      cases h2
      simp only [Ir.D.seq, Option.some.injEq] at hseq
      subst hseq
      cases vd with
      | cons vd t =>
        cases t
        have e0 : (Ir.LIM : Int) = 16777216 := by rw [Ir.LIM_eq]; rfl
        have e1 : sizeLine = 16777216 := by decide
        exact ⟨n, by rw [RD.int_inv vd], by omega, by omega, k ρ1 H1 _ x1 rs1 (wk_range 0 n.toNat (by omega))⟩
    · cases h2
  · cases vd with
    | cons _ t => cases t
  · cases h2
/-! ### comprehensions -/
/-! ### comprehensions -/
theorem sc_nil : SCs X C [] [] := pts_imp pts_nil fun σ H Q ⟨ρ, env, st, b, st', rs, re, ev, k⟩ => by
  simp only [Ir.conds] at ev; cases ev; exact k ρ H (.refl _ _) rs
theorem sc_one {e : Expr} {i : Ir.Ex} (h : ST X C e i) : SCs X C [e] [i] := pts_imp (pts_one h) fun σ H Q ⟨ρ, env, st, b, st', rs, re, ev, k⟩ => by
  simp only [Ir.conds] at ev
  obtain ⟨x, s1, e1, ev⟩ := bok ev
  obtain ⟨c, e2, ev2⟩ := ook ev
  obtain rfl := asB_ok e2
  have : b = c ∧ st' = s1 := by
    split at ev2
    · rename_i hc
      cases ev2
      exact ⟨hc.symm, rfl⟩
    · rename_i hc
      cases ev2
      exact ⟨by simpa using hc, rfl⟩
  obtain ⟨rfl, rfl⟩ := this
  exact ⟨ρ, env, st, b, st', rs, re, e1, k⟩
theorem wipe_get (σ : L2.St) (i : Nat) : ∀ vs : List Nat, (L2.wipe σ vs)[i]? = if i ∈ vs then (σ[i]?).map (fun _ => none) else σ[i]?
  | [] => by simp [L2.wipe]
  | v :: vs => by
    simp only [L2.wipe]
    by_cases e : v = i
    · subst e
      rw [List.getElem?_set, L2.wipe_length]
      simp only [if_true, List.mem_cons, true_or]
      by_cases h : v < σ.length
      · rw [if_pos h, List.getElem?_eq_getElem h]; rfl
      · rw [if_neg h, List.getElem?_eq_none (by omega)]; rfl
    · rw [List.getElem?_set_ne e, wipe_get σ i vs]
      have : i ∈ v :: vs ↔ i ∈ vs := by simp [Ne.symm e]
      simp only [this]
theorem wipe_idem (σ : L2.St) (vs : List Nat) : L2.wipe (L2.wipe σ vs) vs = L2.wipe σ vs := by
  apply List.ext_getElem?
  intro i
  rw [wipe_get, wipe_get]
  split
  · cases σ[i]? <;> rfl
  · rfl
/-- the turns of a comprehension -/
theorem comp_core {K : PySem.W.Frag} {J : It} {xs : List Ir.D} {tg : Ir.Tg} {cs : List Ir.Ex} {elt : Ir.Ex} {σ : L2.St} {env : Ir.Env} {ρ1 : Rho} {H1 : Hp} {s3 s8 : Ir.Store} {ys : List Ir.D} {D : Addr} {Qd : Hp → Prop} (rs1 : RS ρ1 K s3 H1) (re1 : REnv ρ1 K H1 env σ) (wk : Wk K ρ1 H1 J xs) (hD : H1 D = none)
    (ev : Ir.compL (Ir.compStep (Ir.eval C elt) (Ir.conds C cs) tg (Ir.wipe env tg.slots)) xs s3 = .ok ys s8)
    (k : ∀ ρ' H' zs, Ext ρ1 H1 ρ' H' → RS ρ' K s8 H' → D ∈ ρ'.res → H' D = some (.lst zs) → zs.length ≤ sizeLine → RDs ρ' K H' ys zs → Qd H') :
    ∃ W : Nat → Nat → Hp → Prop, (∃ m, W 0 m (upd H1 D (.lst []))) ∧ ∀ i m H, W i m H →
      (J.stop i H ∧ Qd H) ∨ (J.go i H ∧ ∃ Nx : Hp → Prop, (∀ H', Nx H' → ∃ m', m' < m ∧ W (i + 1) m' H') ∧ ∀ x H', J.yld i H x H' → tG K tg x (L2.wipe σ tg.slots) H' fun σ2 H2 => L2.wipe σ2 tg.slots = L2.wipe σ tg.slots ∧ tICs C K cs σ2 H2 fun b H3 =>
        if b = true then tI C K elt σ2 H3 fun y H4 => ∃ acc, H4 D = some (.lst acc) ∧ acc.length < sizeLine ∧ Nx (upd H4 D (.lst (acc ++ [y]))) else Nx H3) := by
  -- between the turns: D holds what is made so far; the rest of the run is known
  refine ⟨fun i m H => ∃ ρ st acc done rest, Ext ρ1 H1 ρ H ∧ RS ρ K st H ∧ D ∈ ρ.res ∧ H D = some (.lst acc) ∧ RDs ρ K H done acc ∧ acc.length ≤ i ∧ i ≤ xs.length ∧ m = xs.length - i ∧ ys = done ++ rest ∧
      Ir.compL (Ir.compStep (Ir.eval C elt) (Ir.conds C cs) tg (Ir.wipe env tg.slots)) (xs.drop i) st = .ok rest s8,
    ⟨xs.length, ρ1.keep D, s3, [], [], ys, .keep rs1 hD _, rs1.keep hD _, List.mem_cons_self, upd_same, .nil, Nat.zero_le _, Nat.zero_le _, by omega, rfl, ev⟩, ?_⟩
  rintro i m H ⟨ρ, st, acc, done, rest, x1, rs, hres, hacc, rd, hl, hi, rfl, rfl, ec⟩
  by_cases hlt : i < xs.length
  · have hx : xs[i]? = some xs[i] := List.getElem?_eq_getElem hlt
    have hdrop : xs.drop i = xs[i] :: xs.drop (i + 1) := List.drop_eq_getElem_cons hlt
    rw [hdrop] at ec
    simp only [Ir.compL] at ec
    obtain ⟨oy, s1, e1, ec⟩ := bok ec
    obtain ⟨rest1, s2, e2, ec⟩ := bok ec
    unfold Ir.compStep at e1
    obtain ⟨env1, e3, e1⟩ := ook e1
    obtain ⟨b, s5, e4, e1⟩ := bok e1
    obtain ⟨go, yl⟩ := wk.go i _ ρ H st x1 rs hx
    refine .inr ⟨go, fun H' => ∃ m', m' < xs.length - i ∧ ∃ ρ st acc done rest, Ext ρ1 H1 ρ H' ∧ RS ρ K st H' ∧ D ∈ ρ.res ∧ H' D = some (.lst acc) ∧ RDs ρ K H' done acc ∧ acc.length ≤ i + 1 ∧ i + 1 ≤ xs.length ∧ m' = xs.length - (i + 1) ∧ _ = done ++ rest ∧ _, fun H' h => h, fun v H2 hy => ?_⟩
    obtain ⟨x2, rs2, rx⟩ := yl v H2 hy
    have hacc2 : H2 D = some (.lst acc) := x2.fr _ _ hacc (rs.disj D hres) (rs.ra.nres D hres)
    refine ⟨ρ, _, st, _, env1, rs2, ((re1.mono (x1.trans x2)).wipe tg.slots), rx, e3, fun ρ3 H3 σ3 x3 rs3 re3 on => ⟨?_, ρ3, env1, st, b, s5, rs3, re3, e4, fun ρ4 H4 x4 rs4 => ?_⟩⟩
    · have := on tg.slots fun _ q => q
      rw [this, wipe_idem]
    have hres3 : D ∈ ρ3.res := x3.rs D hres
    have hacc3 : H3 D = some (.lst acc) := x3.fr _ _ hacc2 (rs2.disj D hres) (rs2.ra.nres D hres)
    have hres4 : D ∈ ρ4.res := x4.rs D hres3
    have hacc4 : H4 D = some (.lst acc) := x4.fr _ _ hacc3 (rs3.disj D hres3) (rs3.ra.nres D hres3)
    have x14 : Ext ρ1 H1 ρ4 H4 := ((x1.trans x2).trans x3).trans x4
    cases b with
    | false =>
      simp only [Bool.false_eq_true, if_false] at e1 ⊢
      cases e1
      simp only at ec
      cases ec
      exact ⟨xs.length - (i + 1), by omega, ρ4, _, acc, done, _, x14, rs4, hres4, hacc4, ((rd.mono x2).mono x3).mono x4, by omega, hlt, rfl, rfl, e2⟩
    | true =>
      simp only [if_true] at e1 ⊢
      obtain ⟨z, s6, e5, e1⟩ := bok e1
      obtain ⟨d, e6, e1⟩ := ook e1
      obtain rfl := asD_ok e6
      cases e1
      simp only at ec
      cases ec
      refine ⟨ρ4, env1, s5, _, _, rs4, re3.mono x4, e5, fun ρ5 H5 Y x5 rs5 ry => ?_⟩
      have hres5 : D ∈ ρ5.res := x5.rs D hres4
      have hacc5 : H5 D = some (.lst acc) := x5.fr _ _ hacc4 (rs4.disj D hres4) (rs4.ra.nres D hres4)
      have hlen := wk.len
      refine ⟨acc, hacc5, by omega, xs.length - (i + 1), by omega, ρ5, _, acc ++ [Y], done ++ [d], _, (x14.trans x5).aside hD, rs5.aside hres5, hres5, upd_same, ?_, ?_, hlt, rfl, by simp, e2⟩
      · exact RDs.aside hres5 (((((rd.mono x2).mono x3).mono x4).mono x5).append (.cons ry .nil))
      · rw [List.length_append]; simp; omega
  · have e : i = xs.length := by omega
    subst e
    rw [List.drop_length] at ec
    simp only [Ir.compL] at ec
    cases ec
    rw [List.append_nil] at k
    have hlen := wk.len
    exact .inl ⟨wk.stop _ ρ H _ x1 rs (Nat.le_refl _), k ρ H acc x1 rs hres hacc (by omega) rd⟩
end Snd

namespace Snd
open PySem PySem.Spec PyProof.Rows L2
variable {X : Cx} {C : Ir.Calls} {W : WX}
/-! ### comprehensions -/
theorem tLc_of {K : PySem.W.Frag} {elt it : Ir.Ex} {tg : Ir.Tg} {cs : List Ir.Ex} {vs : List Nat} (hvs : vs = tg.slots) : ∀ σ H Q, tN C K (.comp elt tg it cs) σ H Q → tLc (tSrc C K it) (tG K tg) (tICs C K cs) (tI C K elt) vs σ H Q := by
  intro σ H Q ⟨ρ, env, st, ys, st', rs, re, ev, k⟩
  subst hvs
  simp only [Ir.eval] at ev
  obtain ⟨x, s1, e1, ev⟩ := bok ev
  obtain ⟨p, e2, ev1⟩ := ook ev
  clear ev
  obtain ⟨xs, e3, ev2⟩ := ook ev1
  clear ev1
  obtain ⟨zs, s8, e4, ev3⟩ := bok ev2
  clear ev2
  obtain rfl := asD_ok e2
  cases ev3
  exact ⟨ρ, env, st, p, xs, s1, rs, re, e1, e3, fun ρ1 H1 J x1 rs1 wk D hD => comp_core rs1 (re.mono x1) wk hD e4 fun ρ' H' ws x2 rs2 hr hh z r => k ρ' H' D ws (x1.trans x2) rs2 (x1.al D hD) hr hh z r⟩
theorem is_comp {elt it : Ir.Ex} {tg : Ir.Tg} {cs : List Ir.Ex} : ∀ env st v st', Ir.eval C (.comp elt tg it cs) env st = .ok v st' → ∃ xs, v = .d (.lst xs) := fun env st v st' ev => by
  simp only [Ir.eval] at ev
  obtain ⟨x, s1, e1, ev⟩ := bok ev
  obtain ⟨p, e2, ev⟩ := ook ev
  obtain ⟨xs, e3, ev⟩ := ook ev
  obtain ⟨zs, s8, e4, ev⟩ := bok ev
  cases ev
  exact ⟨_, rfl⟩
theorem sn_comp {elt tg iter : Expr} {ifs : List Expr} {scope : Scope} (own : List (Str × Nat)) {pos : Pos} {ie it : Ir.Ex} {t : Ir.Tg} {cs : List Ir.Ex} (hc : X.calm = true) (hN : X.N.Nodup) (hi : SI X C tg iter it) (ok : BlkOk X.N X.env.scope scope own)
    (hg : ∀ (s : Shared) (H : Hp) (Cc : Addr) (cl : List (Str × Addr)) (fp : List Addr), SG (X.blk s H scope (compEnvC scope cl Cc X.env) fp) tg t) (ht : ∀ (s : Shared) (H : Hp) (Cc : Addr) (cl : List (Str × Addr)) (fp : List Addr), SCs (X.blk s H scope (compEnvC scope cl Cc X.env) fp) C ifs cs)
    (he : ∀ (s : Shared) (H : Hp) (Cc : Addr) (cl : List (Str × Addr)) (fp : List Addr), SE (X.blk s H scope (compEnvC scope cl Cc X.env) fp) C elt ie) (hvs : own.map (·.2) = t.slots := by rfl) (hs : ∀ x, foldedSetIterable iter X.env x = pure x := by intro _; rfl) :
    SN X C (.ListComp elt [⟨tg, iter, ifs, 0⟩] scope pos) (.comp ie t it cs) := pe_imp (pe_lc hc hN hi ok hg ht he hs) (tLc_of hvs)
/-! ### statements -/
def Post (K : PySem.W.Frag) (mg : Str → Option Value) (W : WX) (D : Ends) (ρ : Rho) (H : Hp) (st' : Ir.Store) : Ir.Out → Prop
  | .nx env' => ∀ ρ' H' σ', Ext ρ H ρ' H' → RS ρ' K st' H' → REnv ρ' K H' env' σ' → D.nx σ' H'
  | .ret v => ∀ ρ' H' x, Ext ρ H ρ' H' → RS ρ' K st' H' → RV ρ' K H' v x → D.rt x H'
  | .brk env' => ∀ ρ' H' σ', Ext ρ H ρ' H' → RS ρ' K st' H' → REnv ρ' K H' env' σ' → D.bk σ' H'
  | .cnt env' => ∀ ρ' H' σ', Ext ρ H ρ' H' → RS ρ' K st' H' → REnv ρ' K H' env' σ' → D.ct σ' H'
  | .thr c as env' => ∀ ρ' H' σ' cls d, Ext ρ H ρ' H' → RS ρ' K st' H' → REnv ρ' K H' env' σ' → RXc ρ' K H' mg c as cls d → W cls d σ' H'
theorem Post.mono {K : PySem.W.Frag} {mg : Str → Option Value} {W : WX} {D : Ends} {ρ ρ1 : Rho} {H H1 : Hp} {st' : Ir.Store} {o : Ir.Out} (x : Ext ρ H ρ1 H1) (h : Post K mg W D ρ H st' o) : Post K mg W D ρ1 H1 st' o := by
  cases o with
  | nx e => exact fun ρ' H' σ' x1 rs re => h ρ' H' σ' (x.trans x1) rs re
  | ret v => exact fun ρ' H' σ' x1 rs re => h ρ' H' σ' (x.trans x1) rs re
  | brk e => exact fun ρ' H' σ' x1 rs re => h ρ' H' σ' (x.trans x1) rs re
  | cnt e => exact fun ρ' H' σ' x1 rs re => h ρ' H' σ' (x.trans x1) rs re
  | thr c as e => exact fun ρ' H' σ' cls d x1 rs re rx => h ρ' H' σ' cls d (x.trans x1) rs re rx
def tS1 (C : Ir.Calls) (K : PySem.W.Frag) (mg : Str → Option Value) (W : WX) (s : Ir.Stm) : TS := fun D σ H => ∃ ρ env st o st', RS ρ K st H ∧ REnv ρ K H env σ ∧ Ir.exec C s env st = .ok o st' ∧ Post K mg W D ρ H st' o
def tS (C : Ir.Calls) (K : PySem.W.Frag) (mg : Str → Option Value) (W : WX) (s : List Ir.Stm) : TS := fun D σ H => ∃ ρ env st o st', RS ρ K st H ∧ REnv ρ K H env σ ∧ Ir.execs C s env st = .ok o st' ∧ Post K mg W D ρ H st' o
abbrev SS (X : Cx) (C : Ir.Calls) (W : WX) (st : Stmt) (s : Ir.Stm) : Prop := PS X st (tS1 C X.K X.mg W s)
abbrev SSs (X : Cx) (C : Ir.Calls) (W : WX) (st : List Stmt) (s : List Ir.Stm) : Prop := PSs X st (tS C X.K X.mg W s)
theorem ps_imp {st : Stmt} {t t' : TS} (h : PS X st t) (w : ∀ D σ H, t' D σ H → t D σ H) : PS X st t' := ⟨fun pins s σ H D I q => h.run pins s σ H D I (w D σ H q)⟩
theorem pss_imp {st : List Stmt} {t t' : TS} (h : PSs X st t) (w : ∀ D σ H, t' D σ H → t D σ H) : PSs X st t' := ⟨fun pins s σ H D I q => h.run pins s σ H D I (w D σ H q)⟩
theorem ps_or {st : Stmt} {t t' : TS} (h : PS X st t) (h' : PS X st t') : PS X st (fun D σ H => t D σ H ∨ t' D σ H) := ⟨fun pins s σ H D I q => by
  rcases q with q | q
  · exact h.run pins s σ H D I q
  · exact h'.run pins s σ H D I q⟩
theorem ss_nil : SSs X C W [] [] := pss_imp pss_nil fun D σ H ⟨ρ, env, st, o, st', rs, re, ev, k⟩ => by
  simp only [Ir.execs] at ev
  cases ev
  exact k ρ H σ (.refl _ _) rs re
theorem ss_cons {st : Stmt} {rest : List Stmt} {s : Ir.Stm} {ss : List Ir.Stm} (h1 : SS X C W st s) (h2 : SSs X C W rest ss) : SSs X C W (st :: rest) (s :: ss) := by
  refine pss_imp (pss_cons h1 h2) fun D σ H ⟨ρ, env, st, o, st', rs, re, ev, k⟩ => ?_
  simp only [Ir.execs] at ev
  obtain ⟨o1, s1, e1, ev⟩ := bok ev
  refine ⟨ρ, env, st, o1, s1, rs, re, e1, ?_⟩
  cases o1 with
  | nx env1 => exact fun ρ' H' σ' x1 rs1 re1 => ⟨ρ', env1, s1, o, st', rs1, re1, ev, k.mono x1⟩
  | ret v => simp only at ev; cases ev; exact k
  | brk v => simp only at ev; cases ev; exact k
  | cnt v => simp only at ev; cases ev; exact k
  | thr c as v => simp only at ev; cases ev; exact k
theorem ss_ex {e : Expr} {i : Ir.Ex} {pos : Pos} (h : SE X C e i) (hs : swapsWith e none pos.line X.env = pure false := by rfl) : SS X C W (.Expr e pos) (.ex i) := ps_imp (ps_expr h hs) fun D σ H ⟨ρ, env, st, o, st', rs, re, ev, k⟩ => by
  simp only [Ir.exec] at ev
  obtain ⟨v, s1, e1, ev⟩ := bok ev
  cases ev
  exact ⟨ρ, env, st, v, _, rs, re, e1, fun ρ1 H1 x x1 rs1 rx => k ρ1 H1 σ x1 rs1 (re.mono x1)⟩
theorem ss_ret {e : Expr} {i : Ir.Ex} {pos : Pos} (h : SE X C e i) : SS X C W (.Return (some e) pos) (.ret i) := ps_imp (ps_ret h) fun D σ H ⟨ρ, env, st, o, st', rs, re, ev, k⟩ => by
  simp only [Ir.exec] at ev
  obtain ⟨v, s1, e1, ev⟩ := bok ev
  cases ev
  exact ⟨ρ, env, st, v, _, rs, re, e1, fun ρ1 H1 x x1 rs1 rx => k ρ1 H1 x x1 rs1 rx⟩
theorem ss_if {c : Expr} {a b : List Stmt} {ic : Ir.Ex} {ia ib : List Ir.Stm} {pos : Pos} (hc : ST X C c ic) (ha : SSs X C W a ia) (hb : SSs X C W b ib) : SS X C W (.If c a b pos) (.ite ic ia ib) := by
  refine ps_imp (ps_if hc ha hb) fun D σ H ⟨ρ, env, st, o, st', rs, re, ev, k⟩ => ?_
  simp only [Ir.exec] at ev
  obtain ⟨x, s1, e1, ev⟩ := bok ev
  obtain ⟨c, e2, ev2⟩ := ook ev
  obtain rfl := asB_ok e2
  refine ⟨ρ, env, st, c, s1, rs, re, e1, fun ρ1 H1 x1 rs1 => ?_⟩
  cases c with
  | true =>
    simp only [if_true] at ev2 ⊢
    exact ⟨ρ1, env, s1, o, st', rs1, re.mono x1, ev2, k.mono x1⟩
  | false =>
    simp only [Bool.false_eq_true, if_false] at ev2 ⊢
    exact ⟨ρ1, env, s1, o, st', rs1, re.mono x1, ev2, k.mono x1⟩
theorem ss_set (i : Nat) {x : Str} {e : Expr} {ie : Ir.Ex} {pos pos' : Pos} (hN : X.N.Nodup) (he : SE X C e ie) (hx : Loc X.env.scope x := by first | exact .inl rfl | exact .inr rfl) (hi : X.N[i]? = some x := by rfl) (hs : swapsWith e (some (.Name x pos')) pos.line X.env = pure false := by rfl) (hf : X.fn x = true ∨ X.env.scope.names.lookup x = some .local := by first | exact .inl rfl | exact .inr rfl | assumption) :
    SS X C W (.Assign [.Name x pos'] e pos) (.asg (.name i) ie) := by
  refine ps_imp (ps_set hN hi hx he hs hf) fun D σ H ⟨ρ, env, st, o, st', rs, re, ev, k⟩ => ?_
  simp only [Ir.exec] at ev
  obtain ⟨v, s1, e1, ev⟩ := bok ev
  obtain ⟨env1, e2, ev⟩ := ook ev
  cases ev
  simp only [Ir.Tg.putV, Option.some.injEq] at e2
  subst e2
  exact ⟨ρ, env, st, v, _, rs, re, e1, fun ρ1 H1 x x1 rs1 rx => k ρ1 H1 _ x1 rs1 ((re.mono x1).set rx i)⟩
theorem ss_setLc (i : Nat) {y : Str} {py : Pos} {elt tg iter : Expr} {ifs : List Expr} {scope : Scope} (own : List (Str × Nat)) {pos spos : Pos} {ie it ir : Ir.Ex} {t : Ir.Tg} {cs : List Ir.Ex} (hw : ∀ σ H Q, tI C X.K ir σ H Q → tN C X.K (.comp ie t it cs) σ H Q) (hc : X.calm = true) (hN : X.N.Nodup) (hi : SI X C tg iter it) (ok : BlkOk X.N X.env.scope scope own)
    (hg : ∀ (s : Shared) (H : Hp) (Cc : Addr) (cl : List (Str × Addr)) (fp : List Addr), SG (X.blk s H scope (compEnvC scope cl Cc X.env) fp) tg t) (ht : ∀ (s : Shared) (H : Hp) (Cc : Addr) (cl : List (Str × Addr)) (fp : List Addr), SCs (X.blk s H scope (compEnvC scope cl Cc X.env) fp) C ifs cs)
    (he : ∀ (s : Shared) (H : Hp) (Cc : Addr) (cl : List (Str × Addr)) (fp : List Addr), SE (X.blk s H scope (compEnvC scope cl Cc X.env) fp) C elt ie)
    (hsw : swapsWith (.ListComp elt [⟨tg, iter, ifs, 0⟩] scope pos) (some (.Name y py)) spos.line X.env = pure true) (hyl : X.env.scope.names.lookup y = some .local := by rfl) (hy : X.N[i]? = some y := by rfl) (hvs : own.map (·.2) = t.slots := by rfl) (hs : ∀ x, foldedSetIterable iter X.env x = pure x := by intro _; rfl) :
    SS X C W (.Assign [.Name y py] (.ListComp elt [⟨tg, iter, ifs, 0⟩] scope pos) spos) (.asg (.name i) ir) := by
  refine ps_imp (ps_setLc (g := tG X.K t) (tt := tICs C X.K cs) (te := tI C X.K ie) hc hN hy hyl hsw hi ok hg ht he hs) fun D σ H ⟨ρ, env, st, o, st', rs, re, ev, k⟩ => ?_
  simp only [Ir.exec] at ev
  obtain ⟨v, s1, e1, ev⟩ := bok ev
  obtain ⟨env1, e2, ev⟩ := ook ev
  cases ev
  simp only [Ir.Tg.putV, Option.some.injEq] at e2
  subst e2
  refine tLc_of hvs σ H _ (hw σ H _ ⟨ρ, env, st, v, _, rs, re, e1, fun ρ1 H1 x x1 rs1 rx => ?_⟩)
  exact k ρ1 H1 _ x1 rs1 ((re.mono x1).set rx i)
theorem ss_asg {tg e : Expr} {t : Ir.Tg} {ie : Ir.Ex} {pos : Pos} (he : SE X C e ie) (hg : SG X tg t) (hn : ∀ i, t ≠ .name i := by intro i h; cases h) (hs : swapsWithSole [tg] e pos.line X.env = pure false := by rfl) (hw : swappedStores [tg] e X.env = pure none := by rfl) (h1 : (assignEach [tg] X.env).map (·.2) = [assign tg X.env] := by rfl) :
    SS X C W (.Assign [tg] e pos) (.asg t ie) := by
  refine ps_imp (ps_asg he hg hs hw h1) fun D σ H ⟨ρ, env, st, o, st', rs, re, ev, k⟩ => ?_
  simp only [Ir.exec] at ev
  obtain ⟨v, s1, e1, ev⟩ := bok ev
  obtain ⟨env1, e2, ev⟩ := ook ev
  cases ev
  refine ⟨ρ, env, st, v, _, rs, re, e1, fun ρ1 H1 x x1 rs1 rx => ?_⟩
  cases v with
  | ref n => cases t <;> simp [Ir.Tg.putV] at e2; exact absurd rfl (hn _)
  | d y =>
    have e3 : t.put y env = some env1 := by
      cases t with
      | name i => exact absurd rfl (hn i)
      | tup ts => exact e2
      | star a b c => exact e2
    exact ⟨ρ1, env, _, y, env1, rs1, re.mono x1, rx, e3, fun ρ2 H2 σ2 x2 rs2 re2 _ => k ρ2 H2 σ2 (x1.trans x2) rs2 re2⟩
theorem ss_par (i j : Nat) {x y : Str} {a b : Expr} {ia ib : Ir.Ex} {px py pt pos : Pos} {kt k2 pt2} (hc : X.calm = true) (hN : X.N.Nodup) (ha : SE X C a ia) (hb : SE X C b ib)
    (hw : swappedStores [.Tuple [.Name x px, .Name y py] kt pt] (.Tuple [a, b] k2 pt2) X.env = pure (some [x, y]) := by rfl) (hij : i ≠ j := by decide) (hi : X.N[i]? = some x := by rfl) (hj : X.N[j]? = some y := by rfl)
    (hx : X.env.scope.names.lookup x = some .local := by rfl) (hy : X.env.scope.names.lookup y = some .local := by rfl)
    (hst : starEach [a, b] X.env = (false, eval a X.env) :: starEach [b] X.env := by rfl) (hst2 : starEach [b] X.env = (false, eval b X.env) :: starEach [] X.env := by rfl)
    (hs : swapsWithSole [.Tuple [.Name x px, .Name y py] kt pt] (.Tuple [a, b] k2 pt2) pos.line X.env = pure false := by rfl) :
    SS X C W (.Assign [.Tuple [.Name x px, .Name y py] kt pt] (.Tuple [a, b] k2 pt2) pos) (.par i j ia ib) := by
  refine ps_imp (ps_par hc hN hi hj hij hx hy (pa_cons ha (pa_cons hb pa_nil hst2) hst) hw hs) fun D σ H ⟨ρ, env, st, o, st', rs, re, ev, k⟩ => ?_
  simp only [Ir.exec] at ev
  obtain ⟨v, s1, e1, ev⟩ := bok ev
  obtain ⟨u, s2, e2, ev⟩ := bok ev
  cases ev
  exact tI_two rs re e1 e2 fun ρ1 H1 X Y x1 rs1 rx ry => ⟨X, Y, rfl, k ρ1 H1 _ x1 rs1 (((re.mono x1).set rx i).set ry j)⟩
theorem aug_sub : ∀ p q r, Ir.augI .sub p q = some r → r = p - q := fun p q r h => by simp [Ir.augI] at h; exact h.symm
/-- o[i] = e, a list or a dict -/
theorem ss_sub {o i e : Expr} {io ii ie : Ir.Ex} {pos pos' : Pos} {n : Nat} (hr : Room n X.A) (he : SE X C e ie) (ho : SE X C o io) (hi : SE X C i ii) (hs : swapsWithSole [.Subscript o i pos'] e pos.line X.env = pure false := by rfl) (hs2 : swapsWith e (some (.Subscript o i pos')) pos.line X.env = pure false := by rfl) (hw : swappedStores [.Subscript o i pos'] e X.env = pure none := by rfl) (h1 : (assignEach [.Subscript o i pos'] X.env).map (·.2) = [assign (.Subscript o i pos') X.env] := by rfl)
    (hasg : ∀ v, assign (.Subscript o i pos') X.env v = (do
      let ov ← holding [v] (eval o X.env)
      let iv ← holding [v, ov] (eval i X.env)
      standAt pos'
      holding [v, ov, iv] (setItem ov iv v)
      release [v, ov, iv] []) := by intro _; rfl) :
    SS X C W (.Assign [.Subscript o i pos'] e pos) (.set io ii ie) := by
  refine ps_imp (ps_or (ps_asg he (pg_sub ho hi set_list hasg) hs hw h1) (ps_dput (hu_of hr) ho hi he hs2)) fun D σ H ⟨ρ, env, st, ou, st', rs, re, ev, k⟩ => ?_
  simp only [Ir.exec] at ev
  obtain ⟨v, s1, e1, ev⟩ := bok ev
  obtain ⟨x, s2, e2, ev⟩ := bok ev
  obtain ⟨y, s3, e3, ev⟩ := bok ev
  obtain ⟨d, e4, ev4⟩ := ook ev
  clear ev
  obtain ⟨s5, e5, ev5⟩ := ook ev4
  clear ev4
  obtain rfl := asD_ok e4
  cases ev5
  cases x with
  | d _ => simp [Ir.setV] at e5
  | ref m =>
    by_cases hd : ∃ kvs, s3[m]? = some (.dic kvs)
    · obtain ⟨kvs, hk⟩ := hd
      refine .inr ⟨ρ, env, st, _, s1, rs, re, e1, fun ρ1 H1 V1 x1 rs1 rv => ⟨ρ1, env, s1, _, s2, rs1, re.mono x1, e2, fun ρ2 H2 O x2 rs2 ro => ⟨ρ2, env, s2, y, s3, rs2, re.mono (x1.trans x2), e3, fun ρ3 H3 Y x3 rs3 ry => ?_⟩⟩⟩
      obtain ⟨a, rfl, h1, ks, h2, h3, h4⟩ := RV.cell rs3 (ro.mono x3) hk (by simp)
      cases y with
      | ref _ => simp [Ir.setV] at e5
      | d key =>
        have hkey : key.key = true ∧ kvs.length < Ir.LIM ∧ st' = s3.set m (.dic (Ir.putK kvs key d)) := by
          cases key <;> simp [Ir.setV, hk] at e5
          · exact ⟨rfl, e5.1, e5.2.symm⟩
          · exact ⟨rfl, e5.1, e5.2.symm⟩
        obtain ⟨hk1, hk2, rfl⟩ := hkey
        obtain ⟨k', hk3, rfl⟩ := RK.kv ry hk1
        have hlen : ks.length < sizeLine := by rw [← h4.length, ← lim_eq]; exact hk2
        have w : Ext ρ3 H3 ρ3 (upd H3 a (.dK (L2.putK ks k' V1))) := .write rs3 h1 _
        refine ⟨a, _, rfl, .k h2 hlen, ?_⟩
        refine k ρ3 _ _ (((x1.trans x2).trans x3).trans w) (rs3.write h1 ⟨_, upd_same, ?_, (h4.mono w).put hk3 (((rv.mono x2).mono x3).mono w)⟩) ((re.mono ((x1.trans x2).trans x3)).mono w)
        have := length_putK ks k' V1
        omega
    · refine .inl ⟨ρ, env, st, _, s1, rs, re, e1, fun ρ1 H1 V1 x1 rs1 rv => ⟨ρ1, env, s1, _, s2, rs1, re.mono x1, e2, fun ρ2 H2 O x2 rs2 ro => ⟨ρ2, env, s2, y, s3, rs2, re.mono (x1.trans x2), e3, fun ρ3 H3 Y x3 rs3 ry => ?_⟩⟩⟩
      cases y with
      | ref _ => simp [Ir.setV] at e5
      | d key =>
        cases key <;> simp only [Ir.setV, reduceCtorEq] at e5
        · rename_i z
          split at e5
          · rename_i xs hx
            simp only [Option.map_eq_some_iff] at e5
            obtain ⟨q, hq, rfl⟩ := e5
            obtain ⟨a, rfl, h1, ys, h2, h3, h4⟩ := RV.cell rs3 (ro.mono x3) hx (by simp)
            have w : Ext ρ3 H3 ρ3 (upd H3 a (.lst (ys.set q V1))) := .write rs3 h1 _
            refine ⟨a, ys, z, q, rfl, RD.int_inv ry, h2, by rw [← h4.length]; exact hq, ?_⟩
            exact k ρ3 _ _ (((x1.trans x2).trans x3).trans w) (rs3.write h1 ⟨_, upd_same, by rw [List.length_set]; exact h3, (h4.mono w).set (((rv.mono x2).mono x3).mono w) q⟩) ((re.mono ((x1.trans x2).trans x3)).mono w)
          · rename_i kvs hk
            exact absurd ⟨kvs, hk⟩ hd
          · cases e5
        · split at e5
          · rename_i kvs hk
            exact absurd ⟨kvs, hk⟩ hd
          · cases e5
end Snd

namespace Snd
open PySem PySem.Spec PyProof.Rows L2
variable {X : Cx} {C : Ir.Calls} {W : WX}
/-! ### loops -/
theorem ss_for {tg iter : Expr} {body : List Stmt} {t : Ir.Tg} {it : Ir.Ex} {ib : List Ir.Stm} {pos : Pos} (hp : PassesOwn (model X.prog X.w) X.A X.env X.xe) (hc : X.calm = true) (hi : SI X C tg iter it) (hg : SG X tg t) (hb : SSs X C W body ib)
    (hs : ∀ x, foldedSetIterable iter X.env x = pure x := by intro _; rfl) : SS X C W (.For tg iter body [] pos) (.loop t it ib) := by
  refine ps_imp (ps_for hp hc hi hg hb hs) fun D σ H ⟨ρ, env, st, o, st', rs, re, ev, k⟩ => ?_
  simp only [Ir.exec] at ev
  obtain ⟨x, s1, e1, ev1⟩ := bok ev
  clear ev
  obtain ⟨p, e2, ev2⟩ := ook ev1
  clear ev1
  obtain ⟨xs, e3, ev3⟩ := ook ev2
  clear ev2
  obtain rfl := asD_ok e2
  refine ⟨ρ, env, st, p, xs, s1, rs, re, e1, e3, fun ρ1 H1 J x1 rs1 wk => ?_⟩
  refine ⟨fun i m σ H' => ∃ ρ' env' st2, Ext ρ1 H1 ρ' H' ∧ RS ρ' X.K st2 H' ∧ REnv ρ' X.K H' env' σ ∧ i ≤ xs.length ∧ m = xs.length - i ∧ Ir.loopL t.putF (Ir.execs C ib) (xs.drop i) env' st2 = .ok o st',
    ⟨xs.length, ρ1, env, s1, .refl _ _, rs1, re.mono x1, Nat.zero_le _, by omega, ev3⟩, ?_⟩
  rintro i m σ2 H2 ⟨ρ2, env2, st2, x2, rs2, re2, hi2, rfl, el⟩
  by_cases hlt : i < xs.length
  · have hx : xs[i]? = some xs[i] := List.getElem?_eq_getElem hlt
    rw [List.drop_eq_getElem_cons hlt] at el
    simp only [Ir.loopL, Ir.Tg.putF_eq] at el
    obtain ⟨env3, e4, el1⟩ := ook el
    clear el
    obtain ⟨o1, s3, e5, el2⟩ := bok el1
    clear el1
    obtain ⟨go, yl⟩ := wk.go i _ ρ2 H2 st2 x2 rs2 hx
    refine .inr ⟨go, fun σ' H' => ∃ m', m' < xs.length - i ∧ ∃ ρ' env' st2, Ext ρ1 H1 ρ' H' ∧ RS ρ' X.K st2 H' ∧ REnv ρ' X.K H' env' σ' ∧ i + 1 ≤ xs.length ∧ m' = xs.length - (i + 1) ∧ Ir.loopL t.putF (Ir.execs C ib) (xs.drop (i + 1)) env' st2 = .ok o st', fun σ' H' h => h, fun v H3 hy => ?_⟩
    obtain ⟨x3, rs3, rx⟩ := yl v H3 hy
    refine ⟨ρ2, env2, st2, _, env3, rs3, re2.mono x3, rx, e4, fun ρ4 H4 σ4 x4 rs4 re4 _ => ⟨ρ4, env3, st2, o1, s3, rs4, re4, e5, ?_⟩⟩
    have x14 : Ext ρ1 H1 ρ4 H4 := (x2.trans x3).trans x4
    cases o1 with
    | nx env5 => exact fun ρ5 H5 σ5 x5 rs5 re5 => ⟨xs.length - (i + 1), by omega, ρ5, env5, s3, x14.trans x5, rs5, re5, hlt, rfl, el2⟩
    | cnt env5 => exact fun ρ5 H5 σ5 x5 rs5 re5 => ⟨xs.length - (i + 1), by omega, ρ5, env5, s3, x14.trans x5, rs5, re5, hlt, rfl, el2⟩
    | brk env5 =>
      simp only at el2
      cases el2
      exact fun ρ5 H5 σ5 x5 rs5 re5 => k ρ5 H5 σ5 ((x1.trans x14).trans x5) rs5 re5
    | ret w =>
      simp only at el2
      cases el2
      exact fun ρ5 H5 σ5 x5 rs5 re5 => k ρ5 H5 σ5 ((x1.trans x14).trans x5) rs5 re5
    | thr c as w =>
      simp only at el2
      cases el2
      exact fun ρ5 H5 σ5 cls d x5 rs5 re5 rx => k ρ5 H5 σ5 cls d ((x1.trans x14).trans x5) rs5 re5 rx
  · have e : i = xs.length := by omega
    subst e
    rw [List.drop_length] at el
    simp only [Ir.loopL] at el
    cases el
    exact .inl ⟨wk.stop _ ρ2 H2 _ x2 rs2 (Nat.le_refl _), k ρ2 H2 σ2 (x1.trans x2) rs2 re2⟩
theorem ss_while {c : Expr} {body : List Stmt} {ic : Ir.Ex} {ib : List Ir.Stm} {pos : Pos} (hp : PassesOwn (model X.prog X.w) X.A X.env X.xe) (hc : ST X C c ic) (hb : SSs X C W body ib) : SS X C W (.While c body [] pos) (.while ic ib) := by
  refine ps_imp (ps_while hp hc hb) fun D σ H ⟨ρ, env, st, o, st', rs, re, ev, k⟩ => ?_
  simp only [Ir.exec] at ev
  obtain ⟨nW, ev⟩ := Ir.whileU_ok ev
  refine ⟨fun m σ H' => ∃ ρ' env' st2, Ext ρ H ρ' H' ∧ RS ρ' X.K st2 H' ∧ REnv ρ' X.K H' env' σ ∧ Ir.whileL (Ir.condB (Ir.eval C ic)) (Ir.execs C ib) m env' st2 = .ok o st',
    ⟨nW, ρ, env, st, .refl _ _, rs, re, ev⟩, ?_⟩
  rintro m σ2 H2 ⟨ρ2, env2, st2, x2, rs2, re2, el⟩
  cases m with
  | zero => simp only [Ir.whileL] at el; cases el
  | succ m =>
    simp only [Ir.whileL] at el
    obtain ⟨b, s1, e1, el1⟩ := bok el
    clear el
    unfold Ir.condB at e1
    obtain ⟨x, s1', e2, e3⟩ := bok e1
    obtain ⟨e4, rfl⟩ := Ir.optR_ok e3
    obtain rfl := asB_ok e4
    refine ⟨ρ2, env2, st2, b, s1, rs2, re2, e2, fun ρ3 H3 x3 rs3 => ?_⟩
    cases b with
    | false =>
      simp only [Bool.false_eq_true, if_false] at el1 ⊢
      cases el1
      exact k ρ3 H3 σ2 (x2.trans x3) rs3 (re2.mono x3)
    | true =>
      simp only [if_true] at el1 ⊢
      obtain ⟨o1, s3, e5, el2⟩ := bok el1
      clear el1
      refine ⟨fun σ' H' => ∃ m', m' < m + 1 ∧ ∃ ρ' env' st2, Ext ρ H ρ' H' ∧ RS ρ' X.K st2 H' ∧ REnv ρ' X.K H' env' σ' ∧ Ir.whileL (Ir.condB (Ir.eval C ic)) (Ir.execs C ib) m' env' st2 = .ok o st', fun σ' H' h => h, ρ3, env2, s1, o1, s3, rs3, re2.mono x3, e5, ?_⟩
      have x13 := x2.trans x3
      cases o1 with
      | nx env5 => exact fun ρ5 H5 σ5 x5 rs5 re5 => ⟨m, Nat.lt_succ_self m, ρ5, env5, s3, x13.trans x5, rs5, re5, el2⟩
      | cnt env5 => exact fun ρ5 H5 σ5 x5 rs5 re5 => ⟨m, Nat.lt_succ_self m, ρ5, env5, s3, x13.trans x5, rs5, re5, el2⟩
      | brk env5 =>
        simp only at el2
        cases el2
        exact fun ρ5 H5 σ5 x5 rs5 re5 => k ρ5 H5 σ5 (x13.trans x5) rs5 re5
      | ret w =>
        simp only at el2
        cases el2
        exact fun ρ5 H5 σ5 x5 rs5 re5 => k ρ5 H5 σ5 (x13.trans x5) rs5 re5
      | thr c as w =>
        simp only at el2
        cases el2
        exact fun ρ5 H5 σ5 cls d x5 rs5 re5 rx => k ρ5 H5 σ5 cls d (x13.trans x5) rs5 re5 rx
/-! ### a def -/
theorem take_rs {ρ ρ1 : Rho} {K : PySem.W.Frag} {st1 : Ir.Store} {H H1 : Hp} (x : Ext ρ H ρ1 H1) (rs1 : RS ρ1 K st1 H1) : RS ⟨ρ1.ix.take ρ.ix.length, ρ.res, ρ1.ob⟩ K (st1.take ρ.ix.length) H1 ∧ Ext ρ H ⟨ρ1.ix.take ρ.ix.length, ρ.res, ρ1.ob⟩ H1 ∧ ∀ b, Rho.own ⟨ρ1.ix.take ρ.ix.length, ρ.res, ρ1.ob⟩ b → ρ1.own b := by
  have sub : ∀ b, Rho.own ⟨ρ1.ix.take ρ.ix.length, ρ.res, ρ1.ob⟩ b → ρ1.own b := fun b q => by
    rcases q with q | q | q
    · exact .inl (List.mem_of_mem_take q)
    · exact .inr (.inl (x.rs b q))
    · exact .inr (.inr q)
  have key : ∀ (n : Nat) (o : Option Addr), (ρ1.ix.take ρ.ix.length)[n]? = some o → n < ρ.ix.length ∧ ρ1.ix[n]? = some o := fun n o h => by
    rw [List.getElem?_take] at h
    split at h
    · exact ⟨by assumption, h⟩
    · cases h
  refine ⟨⟨?_, fun i j a hi hj => rs1.inj i j a (key i _ hi).2 (key j _ hj).2, fun n a hn => ?_, fun n hn => ?_, fun a ha => rs1.kept a (x.rs a ha), fun a ha q => rs1.disj a (x.rs a ha) (List.mem_of_mem_take q), rs1.ra.step (fun h' => RD.sub sub (fun _ _ q => q) h') rfl arena_take (fun _ _ => rfl) (fun b hb q => rs1.ra.nix b hb (List.mem_of_mem_take q)) fun b hb => rs1.ra.nres b (x.rs b hb)⟩, ⟨x.fr, fun b q => ?_, ?_, fun n a q hl => x.ix n a (key n _ q).2 hl, fun _ q => q, fun a ha hn hb => ⟨fun q => (x.rn a ha hn hb).1 (List.mem_of_mem_take q), (x.rn a ha hn hb).2⟩, x.al, x.ob⟩, sub⟩
  · simp [rs1.len]
  · obtain ⟨h1, h2⟩ := key n _ hn
    obtain ⟨c, h3, h4⟩ := rs1.cell n a h2
    exact ⟨c, by rw [List.getElem?_take_of_lt h1]; exact h3, h4.sub sub fun _ _ q => q⟩
  · obtain ⟨h1, h2⟩ := key n _ hn
    rw [List.getElem?_take_of_lt h1]
    exact rs1.dd n h2
  · rcases q with q | q | q
    · exact x.nw b (.inl (List.mem_of_mem_take q))
    · exact .inl (.inr (.inl q))
    · exact x.nw b (.inr (.inr q))
  · have := x.len
    simp
    omega
/-- the first m, and one more behind them -/
theorem pick_rs {ρ ρ1 : Rho} {K : PySem.W.Frag} {st1 : Ir.Store} {H H1 : Hp} {n : Nat} {oa : Option Addr} {c : Ir.Cell} (x : Ext ρ H ρ1 H1) (rs1 : RS ρ1 K st1 H1) (hn : ρ.ix.length ≤ n) (ho : ρ1.ix[n]? = some oa) (hc : st1[n]? = some c) (hna : ∀ os, c ≠ .arena os) :
    RS ⟨ρ1.ix.take ρ.ix.length ++ [oa], ρ.res, ρ1.ob⟩ K (st1.take ρ.ix.length ++ [c]) H1 ∧ Ext ρ H ⟨ρ1.ix.take ρ.ix.length ++ [oa], ρ.res, ρ1.ob⟩ H1 := by
  have hx := x.len
  have hlt : (ρ1.ix.take ρ.ix.length).length = ρ.ix.length := by simp; omega
  have hls : (st1.take ρ.ix.length).length = ρ.ix.length := by rw [List.length_take, rs1.len]; omega
  have mem : ∀ b : Addr, some b ∈ ρ1.ix.take ρ.ix.length ++ [oa] → some b ∈ ρ1.ix := fun b q => by
    rcases List.mem_append.mp q with q | q
    · exact List.mem_of_mem_take q
    · simp at q; rw [← q] at ho; exact List.mem_of_getElem? ho
  have sub : ∀ b, Rho.own ⟨ρ1.ix.take ρ.ix.length ++ [oa], ρ.res, ρ1.ob⟩ b → ρ1.own b := fun b q => by
    rcases q with q | q | q
    · exact .inl (mem b q)
    · exact .inr (.inl (x.rs b q))
    · exact .inr (.inr q)
  have key : ∀ (i : Nat) (o : Option Addr), (ρ1.ix.take ρ.ix.length ++ [oa])[i]? = some o → (i < ρ.ix.length ∧ ρ1.ix[i]? = some o) ∨ (i = ρ.ix.length ∧ o = oa) := fun i o hi => by
    by_cases hl : i < ρ.ix.length
    · rw [List.getElem?_append_left (by omega), List.getElem?_take_of_lt hl] at hi
      exact .inl ⟨hl, hi⟩
    · rw [List.getElem?_append_right (by omega), hlt] at hi
      cases z : i - ρ.ix.length with
      | zero => rw [z] at hi; simp at hi; exact .inr ⟨by omega, hi.symm⟩
      | succ k => rw [z] at hi; simp at hi
  have at1 : ∀ i : Nat, i < ρ.ix.length → (st1.take ρ.ix.length ++ [c])[i]? = st1[i]? := fun i hi => by
    rw [List.getElem?_append_left (by omega), List.getElem?_take_of_lt hi]
  have at2 : (st1.take ρ.ix.length ++ [c])[ρ.ix.length]? = some c := by
    rw [List.getElem?_append_right (by omega), hls]; simp
  refine ⟨⟨by simp [rs1.len], fun i j a hi hj => ?_, fun m a hm => ?_, fun m hm => ?_, fun a ha => rs1.kept a (x.rs a ha), fun a ha q => rs1.disj a (x.rs a ha) (mem a q), rs1.ra.step (fun h' => RD.sub sub (fun _ _ q => q) h') rfl (fun os h' => arena_take os (arena_push hna os h')) (fun _ _ => rfl) (fun b hb q => rs1.ra.nix b hb (mem b q)) fun b hb => rs1.ra.nres b (x.rs b hb)⟩, ⟨x.fr, fun b q => ?_, by simp; omega, fun m a q hl => ?_, fun _ q => q, fun a ha hn2 hb => ⟨fun q => (x.rn a ha hn2 hb).1 (mem a q), (x.rn a ha hn2 hb).2⟩, x.al, x.ob⟩⟩
  · rcases key i _ hi with ⟨h1, h2⟩ | ⟨h1, h2⟩ <;> rcases key j _ hj with ⟨h3, h4⟩ | ⟨h3, h4⟩
    · exact rs1.inj i j a h2 h4
    · rw [← h4] at ho
      have := rs1.inj i n a h2 ho
      omega
    · rw [← h2] at ho
      have := rs1.inj n j a ho h4
      omega
    · omega
  · rcases key m _ hm with ⟨h1, h2⟩ | ⟨h1, h2⟩
    · obtain ⟨c', h3, h4⟩ := rs1.cell m a h2
      exact ⟨c', (at1 m h1).trans h3, h4.sub sub fun _ _ q => q⟩
    · rw [← h2] at ho
      obtain ⟨c', h3, h4⟩ := rs1.cell n a ho
      rw [hc] at h3; cases h3
      subst h1
      exact ⟨c, at2, h4.sub sub fun _ _ q => q⟩
  · rcases key m _ hm with ⟨h1, h2⟩ | ⟨h1, h2⟩
    · rcases rs1.dd m h2 with q | ⟨os, e, q⟩
      · exact .inl ((at1 m h1).trans q)
      · exact .inr ⟨os, e, (at1 m h1).trans q⟩
    · rw [← h2] at ho
      rcases rs1.dd n ho with this | ⟨os, _, this⟩
      · rw [hc] at this; cases this
        subst h1
        exact .inl at2
      · rw [hc] at this; cases this
        exact absurd rfl (hna os)
  · rcases q with q | q | q
    · exact x.nw b (.inl (mem b q))
    · exact .inl (.inr (.inl q))
    · exact x.nw b (.inr (.inr q))
  · rcases key m _ q with ⟨h1, h2⟩ | ⟨h1, h2⟩
    · exact x.ix m a h2 hl
    · omega
theorem leave_ok {ρ ρ1 : Rho} {K : PySem.W.Frag} {st1 st' : Ir.Store} {H H1 : Hp} {v v' : Ir.Val} {y : V} (x : Ext ρ H ρ1 H1) (rs1 : RS ρ1 K st1 H1) (rv : RV ρ1 K H1 v y) (h : Ir.leave ρ.ix.length v st1 = .ok v' st') : ∃ ρ', Ext ρ H ρ' H1 ∧ RS ρ' K st' H1 ∧ RV ρ' K H1 v' y := by
  obtain ⟨t1, t2, sub⟩ := take_rs x rs1
  cases v with
  | d z =>
    simp only [Ir.leave] at h
    cases h
    exact ⟨_, t2, t1, RD.sub sub (fun _ _ q => q) rv⟩
  | ref n =>
    simp only [Ir.leave] at h
    obtain ⟨h1, a, h2, h3⟩ := rv
    have hx := x.len
    split at h
    · rename_i hn
      cases h
      refine ⟨_, t2, t1, ?_, a, h2, fun b hb => h3 b ?_⟩
      · simp; omega
      · have hb : (ρ1.ix.take ρ.ix.length)[n]? = some (some b) := hb
        rw [List.getElem?_take_of_lt hn] at hb
        exact hb
    · rename_i hn
      have fin : ∀ c : Ir.Cell, (∀ os, c ≠ .arena os) → st1[n]? = some c → ∃ ρ', Ext ρ H ρ' H1 ∧ RS ρ' K (st1.take ρ.ix.length ++ [c]) H1 ∧ RV ρ' K H1 (.ref ρ.ix.length) y := fun c hna hc => by
        have ho : ρ1.ix[n]? = some ρ1.ix[n] := List.getElem?_eq_getElem h1
        obtain ⟨q1, q2⟩ := pick_rs x rs1 (by omega) ho hc hna
        have hlt : (ρ1.ix.take ρ.ix.length).length = ρ.ix.length := by simp; omega
        refine ⟨_, q2, q1, by simp; omega, a, h2, fun b hb => h3 b ?_⟩
        have hb : (ρ1.ix.take ρ.ix.length ++ [ρ1.ix[n]])[ρ.ix.length]? = some (some b) := hb
        rw [List.getElem?_append_right (by omega), hlt] at hb
        simp at hb
        rw [ho, hb]
      split at h
      · rename_i xs hc
        cases h
        exact fin _ (fun _ e => by cases e) hc
      · rename_i xs hc
        cases h
        exact fin _ (fun _ e => by cases e) hc
      · cases h
theorem start_ok {ρ : Rho} {K : PySem.W.Frag} {H : Hp} {N : List Str} {args : List Ir.Val} {vs : List V} (h : RVs ρ K H args vs) (m : Nat) (hm : m = N.length) : REnv ρ K H (args.map some ++ List.replicate (m - args.length) none) (L2.start N vs) := by
  subst hm
  have hl := h.length
  refine ⟨by simp [L2.start, hl], fun i v q => ?_⟩
  have gen : ∀ {args : List Ir.Val} {vs : List V}, RVs ρ K H args vs → ∀ (i : Nat) (v : Ir.Val), (args.map some)[i]? = some (some v) → ∃ x, (vs.map some)[i]? = some (some x) ∧ RV ρ K H v x := by
    intro args vs h
    induction h with
    | nil => intro i v q; simp at q
    | cons a r ih =>
      intro i v q
      cases i with
      | zero => simp at q; subst q; exact ⟨_, rfl, a⟩
      | succ i => simpa using ih i v (by simpa using q)
  by_cases hi : i < args.length
  · rw [List.getElem?_append_left (by simpa using hi)] at q
    obtain ⟨x, h1, h2⟩ := gen h i v q
    refine ⟨x, ?_, h2⟩
    unfold L2.start
    rw [List.getElem?_append_left (by simp; omega)]
    exact h1
  · rw [List.getElem?_append_right (by simp; omega)] at q
    rw [List.getElem?_replicate] at q
    split at q <;> simp at q
theorem fn_ok {P : Program} {w : World} {K : PySem.W.Frag} {mg : Str → Option Value} {base : Heap} {x qual : Str} {st : Stmt} {f : Addr} {fd : FuncData} {N ps : List Str} {T : Ir.Tab} {n : Nat} {name : String} {fn : Ir.Fn}
    (F : Fun K x qual st f fd) (S : FnScope N ps (defScope st)) (hT : T name = some fn) (hp : fn.pars = ps.length) (hN : fn.many = N.length)
    (hb : ∀ (cdv : Value) (A : Around) (outer : List Env) (s : Shared) (H : Hp) (E : XK), Room (n + 2) (A.deeper (envOfC qual (defScope st) s.heap.objs.size f cdv)) → SSs (cxOf CX0 P w K mg base N qual (defScope st) f cdv A outer s H E).nox (Ir.callN T n) (fun _ _ _ _ => False) (defBody st) fn.body) :
    FnOk P w K mg base CX0 (n + 2 + 1) f fd ps (spI T (n + 1) K name) := by
  refine F.ok S (fun vs H Q E h => ?_) (fun cdv A outer s H vs Q E hr h => ?_)
  · obtain ⟨ρ, st, args, v, st', rs, ra, ev, k⟩ := h
    simp only [Ir.callN, hT, Ir.runFn] at ev
    split at ev
    · rename_i hc
      rw [← ra.length, hc.1, hp]
    · cases ev
  · obtain ⟨ρ, st, args, v, st', rs, ra, ev, k⟩ := h
    refine ⟨_, hb cdv A outer s H E hr, ?_⟩
    simp only [Ir.callN, hT, Ir.runFn] at ev
    split at ev
    · rename_i hc
      obtain ⟨o, s1, e1, ev1⟩ := bok ev
      have e1 := Ir.noexc_inv e1
      have re := start_ok (N := N) ra fn.many hN
      rw [hc.1] at re
      refine ⟨ρ, _, st, o, s1, rs, re, e1, ?_⟩
      have hlen : st.length = ρ.ix.length := rs.len
      cases o with
      | nx env' =>
        intro ρ1 H1 σ1 x1 rs1 _
        rw [hlen] at ev1
        obtain ⟨ρ', x2, rs2, rv2⟩ := leave_ok (v := .d .non) (y := V.non) x1 rs1 RD.non ev1
        exact k ρ' H1 _ x2 rs2 rv2
      | ret u =>
        intro ρ1 H1 y x1 rs1 ry
        rw [hlen] at ev1
        obtain ⟨ρ', x2, rs2, rv2⟩ := leave_ok x1 rs1 ry ev1
        exact k ρ' H1 _ x2 rs2 rv2
      | brk _ => simp only at ev1; cases ev1
      | cnt _ => simp only at ev1; cases ev1
      | thr c as _ => simp only at ev1; cases ev1
    · cases ev
/-- what is thrown leaves -/
theorem thr_ok {ρ ρ1 : Rho} {K : PySem.W.Frag} {st1 : Ir.Store} {H H1 : Hp} {mg : Str → Option Value} {c : String} {as : List (String × Ir.D)} {cls : Value} {d : Option Addr} (x : Ext ρ H ρ1 H1) (rs1 : RS ρ1 K st1 H1) (rx : RXc ρ1 K H1 mg c as cls d) : ∃ ρ', Ext ρ H ρ' H1 ∧ RS ρ' K (st1.take ρ.ix.length) H1 ∧ RXc ρ' K H1 mg c as cls d := by
  obtain ⟨h1, h2, sub⟩ := take_rs x rs1
  obtain ⟨r1, gs, r2, r3⟩ := rx
  exact ⟨_, h2, h1, r1, gs, r2.less sub, RFs.map (fun h => RD.sub sub (fun _ _ q => q) h) r3⟩
/-- a def that may raise -/
theorem fn_okX {P : Program} {w : World} {K : PySem.W.Frag} {mg : Str → Option Value} {base : Heap} {x qual : Str} {st : Stmt} {f : Addr} {fd : FuncData} {N ps : List Str} {T : Ir.Tab} {n : Nat} {name : String} {fn : Ir.Fn}
    (F : Fun K x qual st f fd) (S : FnScope N ps (defScope st)) (hT : T name = some fn) (hp : fn.pars = ps.length) (hN : fn.many = N.length)
    (hb : ∀ (cdv : Value) (A : Around) (outer : List Env) (s : Shared) (H : Hp) (E : XK), Room (n + 2) (A.deeper (envOfC qual (defScope st) s.heap.objs.size f cdv)) → SSs (cxOf (CX P w) P w K mg base N qual (defScope st) f cdv A outer s H E) (Ir.callN T n) (fun cls d _ H => E cls d H) (defBody st) fn.body) :
    FnOk P w K mg base (CX P w) (n + 2 + 1) f fd ps (spX T (n + 1) K mg name) := by
  refine F.okX S (fun vs H Q E h => ?_) (fun cdv A outer s H vs Q E hr h => ?_)
  · obtain ⟨ρ, st, args, r, rs, ra, ev, k⟩ := h
    simp only [Ir.callN, hT, Ir.runFn] at ev
    split at ev
    · rename_i hc
      rw [← ra.length, hc.1, hp]
    · subst ev; exact k.elim
  · obtain ⟨ρ, st, args, r, rs, ra, ev, k⟩ := h
    refine ⟨_, hb cdv A outer s H E hr, ?_⟩
    simp only [Ir.callN, hT, Ir.runFn] at ev
    split at ev
    · rename_i hc
      have re := start_ok (N := N) ra fn.many hN
      rw [hc.1] at re
      have hlen : st.length = ρ.ix.length := rs.len
      cases e1 : Ir.execs (Ir.callN T n) fn.body (args.map some ++ List.replicate (fn.many - fn.pars) none) st with
      | bad => rw [e1] at ev; simp at ev; subst ev; exact k.elim
      | exc c as s1 => rw [e1] at ev; have : r = .bad := ev.symm; subst this; exact k.elim
      | ok o s1 =>
        rw [e1] at ev
        simp only [Ir.noexc_ok, Ir.Res.bind_ok] at ev
        refine ⟨ρ, _, st, o, s1, rs, re, e1, ?_⟩
        cases o with
        | nx env' =>
          intro ρ1 H1 σ1 x1 rs1 _
          rw [hlen] at ev
          have ev : Ir.leave ρ.ix.length (.d .non) s1 = r := ev
          subst ev
          obtain ⟨ρ', x2, rs2, rv2⟩ := leave_ok (v := .d .non) (v' := .d .non) (st' := s1.take ρ.ix.length) (y := V.non) x1 rs1 RD.non rfl
          exact k ρ' H1 _ x2 rs2 rv2
        | ret u =>
          intro ρ1 H1 y x1 rs1 ry
          rw [hlen] at ev
          have ev : Ir.leave ρ.ix.length u s1 = r := ev
          cases r with
          | ok v' st' =>
            obtain ⟨ρ', x2, rs2, rv2⟩ := leave_ok x1 rs1 ry ev
            exact k ρ' H1 _ x2 rs2 rv2
          | exc c as s' =>
            unfold Ir.leave at ev
            split at ev
            · cases ev
            · split at ev
              · cases ev
              · split at ev <;> cases ev
          | bad => exact k.elim
        | brk _ => simp only at ev; subst ev; exact k.elim
        | cnt _ => simp only at ev; subst ev; exact k.elim
        | thr c as _ =>
          intro ρ1 H1 σ1 cls d x1 rs1 _ rx
          simp only at ev
          subst ev
          rw [hlen] at k
          obtain ⟨ρ', x2, rs2, rx2⟩ := thr_ok x1 rs1 rx
          exact k ρ' H1 cls d x2 rs2 rx2
    · subst ev; exact k.elim
/-- what is found of a def, a method, a class -/
def FKF (K : PySem.W.Frag) (mg : Str → Option Value) (KW : List Kw) (f : String) (fn : Ir.Fn) : Prop := match fn.k with
  | .df => ∃ a fd ps, mg (Str.ofString f) = some (.ref a) ∧ PySem.W.keepIn K (.ref a) = true ∧ Binds K fd ps [] ∧ ∀ q ∈ KW, q.1 = f → KwOk K fd ps q
  | .mt c m => ∃ Cc a fd ps, CN K c Cc ∧ Cls K Cc ∧ Meth K Cc (Str.ofString m) a ∧ Binds K fd ps []
  | .ct c => ∃ Cc a fd ps, mg (Str.ofString f) = some (.ref Cc) ∧ CN K c Cc ∧ Mk K Cc a ∧ Binds K fd ps [] ∧ f = c ∧ fn = ctorFn c fn.pars
  | .dk => ∃ a fd ps, mg (Str.ofString f) = some (.ref a) ∧ PySem.W.keepIn K (.ref a) = true ∧ ∀ q ∈ KW, q.1 = f → KwOk K fd ps q
theorem FKF.df {K : PySem.W.Frag} {mg : Str → Option Value} {KW : List Kw} {f : String} {fn : Ir.Fn} (hk : fn.k = .df) (h : ∃ a fd ps, mg (Str.ofString f) = some (.ref a) ∧ PySem.W.keepIn K (.ref a) = true ∧ Binds K fd ps [] ∧ ∀ q ∈ KW, q.1 = f → KwOk K fd ps q) : FKF K mg KW f fn := by
  unfold FKF; rw [hk]; exact h
theorem FKF.mt {K : PySem.W.Frag} {mg : Str → Option Value} {KW : List Kw} {f : String} {fn : Ir.Fn} {c m : String} (hk : fn.k = .mt c m) (h : ∃ Cc a fd ps, CN K c Cc ∧ Cls K Cc ∧ Meth K Cc (Str.ofString m) a ∧ Binds K fd ps []) : FKF K mg KW f fn := by
  unfold FKF; rw [hk]; exact h
theorem FKF.ct {K : PySem.W.Frag} {mg : Str → Option Value} {KW : List Kw} {f : String} {fn : Ir.Fn} {c : String} (hk : fn.k = .ct c) (h : ∃ Cc a fd ps, mg (Str.ofString f) = some (.ref Cc) ∧ CN K c Cc ∧ Mk K Cc a ∧ Binds K fd ps [] ∧ f = c ∧ fn = ctorFn c fn.pars) : FKF K mg KW f fn := by
  unfold FKF; rw [hk]; exact h
theorem FKF.dk {K : PySem.W.Frag} {mg : Str → Option Value} {KW : List Kw} {f : String} {fn : Ir.Fn} (hk : fn.k = .dk) (h : ∃ a fd ps, mg (Str.ofString f) = some (.ref a) ∧ PySem.W.keepIn K (.ref a) = true ∧ ∀ q ∈ KW, q.1 = f → KwOk K fd ps q) : FKF K mg KW f fn := by
  unfold FKF; rw [hk]; exact h
theorem fn_zero {k : Nat} {T : Ir.Tab} {P : Program} {w : World} {K : PySem.W.Frag} {mg : Str → Option Value} {base : Heap} {f : String} {a : Addr} {fd : FuncData} {ps : List Str} : FnOk P w K mg base CX0 k a fd ps (spI T 0 K f) := by
  have no : ∀ vs H Q E, ¬ spI T 0 K f vs H Q E := fun vs H Q E ⟨ρ, st, args, v, st', rs, ra, ev, k⟩ => by simp only [Ir.callN] at ev; cases ev
  exact ⟨fun vs H Q E h => absurd h (no vs H Q E), fun A outer s H args us vs Q E _ _ _ _ h => absurd h (no vs H Q E)⟩
theorem ft_zero {T : Ir.Tab} {KW : List Kw} {P : Program} {w : World} {K : PySem.W.Frag} {mg : Str → Option Value} {base : Heap} (h : ∀ f fn, T f = some fn → FKF K mg KW f fn) : FT T KW 0 P w K mg base := by
  have no : ∀ f vs H Q E, ¬ spI T 0 K f vs H Q E := fun f vs H Q E ⟨ρ, st, args, v, st', rs, ra, ev, k⟩ => by simp only [Ir.callN] at ev; cases ev
  have noX : ∀ f vs H Q E, ¬ spX T 0 K mg f vs H Q E := fun f vs H Q E ⟨ρ, st, args, r, rs, ra, ev, k⟩ => by simp only [Ir.callN] at ev; subst ev; exact k
  refine ⟨fun f fn hT _ hk => ?_, fun f fn hT _ hk => ?_, fun f fn hT _ c m hk => ?_, fun f fn hT _ c m hk => ?_, fun f fn hT c hk => ?_, fun f fn hT _ hk => ?_⟩
  · have q := h f fn hT
    unfold FKF at q; rw [hk] at q
    obtain ⟨a, fd, ps, h1, h2, h3⟩ := q
    exact ⟨a, fd, ps, ⟨fun vs H Q E h => absurd h (no f vs H Q E), fun A outer s H args us vs Q E _ _ _ _ h => absurd h (no f vs H Q E)⟩, h1, h2, h3⟩
  · have q := h f fn hT
    unfold FKF at q; rw [hk] at q
    obtain ⟨a, fd, ps, h1, h2, h3⟩ := q
    exact ⟨a, fd, ps, ⟨fun vs H Q E h => absurd h (noX f vs H Q E), fun A outer s H args us vs Q E _ _ _ _ h => absurd h (noX f vs H Q E)⟩, h1, h2, h3⟩
  · have q := h f fn hT
    unfold FKF at q; rw [hk] at q
    obtain ⟨Cc, a, fd, ps, h1, h2, h3, h4⟩ := q
    exact ⟨Cc, a, fd, ps, h1, h2, h3, ⟨fun vs H Q E h => absurd h (no f vs H Q E), fun A outer s H args us vs Q E _ _ _ _ h => absurd h (no f vs H Q E)⟩, h4⟩
  · have q := h f fn hT
    unfold FKF at q; rw [hk] at q
    obtain ⟨Cc, a, fd, ps, h1, h2, h3, h4⟩ := q
    exact ⟨Cc, a, fd, ps, h1, h2, h3, ⟨fun vs H Q E h => absurd h (noX f vs H Q E), fun A outer s H args us vs Q E _ _ _ _ h => absurd h (noX f vs H Q E)⟩, h4⟩
  · have q := h f fn hT
    unfold FKF at q; rw [hk] at q
    obtain ⟨Cc, a, fd, ps, h1, h2, h3, h4, h5, h6⟩ := q
    exact ⟨Cc, a, fd, ps, h1, h2, h3, fun m hm => (by cases hm), h4, h5, h6⟩
  · have q := h f fn hT
    unfold FKF at q; rw [hk] at q
    obtain ⟨a, fd, ps, h1, h2, h3⟩ := q
    exact ⟨a, fd, ps, ⟨fun vs H Q E h => absurd h (no f vs H Q E), fun A outer s H args us vs Q E _ _ _ _ h => absurd h (no f vs H Q E)⟩, h1, h2, h3⟩
/-! ### the law's own call -/
theorem law_spA {T : Ir.Tab} {n : Nat} {K : PySem.W.Frag} {H : Hp} {a : Addr} {ns : List Int} (hO : Only H) (hS : SqL K H a (ns.map V.int)) (hl : ns.length ≤ 63) {st' : Ir.Store} (ev : Ir.callN T n "law" [.d (.ro (ns.map Ir.D.int))] [.arena []] = .ok (.d (.bool true)) st') :
    spI T n K "law" [.ref a] H (fun v _ => v = .bl true) fun _ _ _ => False := by
  have r : RDs ⟨[none], [], []⟩ K H (ns.map Ir.D.int) (ns.map V.int) := by
    clear hl ev hS
    induction ns with
    | nil => exact .nil
    | cons i r ih => exact .cons (.int i) ih
  have hla : LrAt ⟨[none], [], []⟩ K H a (ns.map V.int) := by
    rcases hS with h | h
    · rcases h with h | ⟨o, h⟩
      · rcases hO a with q | ⟨o, xs, q⟩
        · rw [q] at h; cases h
        · rw [q] at h; cases h
      · exact .inl ⟨⟨o, h⟩, by rintro (q | q | q) <;> simp at q⟩
    · exact .inr h
  have hz : (ns.map V.int).length ≤ sizeLine := by
    rw [List.length_map]
    exact Nat.le_trans hl (by decide)
  refine ⟨⟨[none], [], []⟩, [.arena []], [.d (.ro (ns.map Ir.D.int))], _, st', ⟨rfl, fun i j b h => ?_, fun m b h => ?_, fun m h => ?_, fun b h => by simp at h, fun b h => by simp at h, ⟨fun os h => ?_, fun i j b h => by simp at h, fun b h => by simp at h, fun b h => by simp at h, fun b h => by simp at h⟩⟩, .cons (show RV _ K H (.d (.ro (ns.map Ir.D.int))) (.ref a) from RD.ro hla hz r) .nil, ev, fun ρ' H' x _ _ rx => RD.bool_inv rx⟩
  · cases i with
    | zero => simp at h
    | succ i => simp at h
  · cases m with
    | zero => simp at h
    | succ i => simp at h
  · cases m with
    | zero => exact .inr ⟨[], rfl, rfl⟩
    | succ i => simp at h
  · have : os = [] := by
      have := arena_iff.mp h
      simpa using this.symm
    subst this
    exact ⟨rfl, fun n a q => by simp at q⟩
end Snd

namespace Snd
open PySem PySem.Spec PyProof.Rows L2
/-! ### the built-in names -/
theorem bv_len : bootBuiltins (Str.ofString "len") = some (.builtin "len") := by decide +kernel
theorem bv_abs : bootBuiltins (Str.ofString "abs") = some (.builtin "abs") := by decide +kernel
theorem bv_all : bootBuiltins (Str.ofString "all") = some (.builtin "all") := by decide +kernel
theorem bv_any : bootBuiltins (Str.ofString "any") = some (.builtin "any") := by decide +kernel
theorem bv_min : bootBuiltins (Str.ofString "min") = some (.builtin "min") := by decide +kernel
theorem bv_max : bootBuiltins (Str.ofString "max") = some (.builtin "max") := by decide +kernel
theorem bv_tuple : bootBuiltins (Str.ofString "tuple") = some (.type "tuple") := by decide +kernel
theorem bv_list : bootBuiltins (Str.ofString "list") = some (.type "list") := by decide +kernel
theorem bv_int : bootBuiltins (Str.ofString "int") = some (.type "int") := by decide +kernel
theorem bv_bool : bootBuiltins (Str.ofString "bool") = some (.type "bool") := by decide +kernel
theorem bv_str : bootBuiltins (Str.ofString "str") = some (.type "str") := by decide +kernel
end Snd

namespace Snd
open PySem PySem.Spec PyProof.Rows L2
variable {X : Cx} {C : Ir.Calls}
/-! ### dict(pairs) -/
end Snd

set_option maxHeartbeats 2000000
namespace Snd
open PySem PySem.Spec PyProof.Rows L2
/-! list(zip(a, b)) of two tuples -/
section
variable {prog : Program} {w : World} {A : Around} {E : Value → Shared → Prop} {s : Shared}
variable {z TI TO i1 i2 l1 l2 : Addr} {P1 P2 : Nat → Heap → Prop} {xs ys : Array Value}
/-- the zip while a pair T that it gave out is still held -/
structure ZhAt (h : Heap) (z TI TO i1 i2 T : Addr) (f : Bool) (P1 P2 : Nat → Heap → Prop) (k : Nat) : Prop where
  zz : IsZipHeld h z TI TO T f
  tt : ∃ oT, h.get? T = some oT
  ti : IsPair h TI (.ref i1) (.ref i2)
  p1 : P1 k h
  p2 : P2 k h
/-- at any turn of the filling of S -/
def LzAt (h : Heap) (S z TI TO i1 i2 : Addr) (P1 P2 : Nat → Heap → Prop) (k : Nat) : Prop :=
  (k = 0 ∧ ZpAt h z TI TO i1 i2 P1 P2 .none .none k) ∨ ∃ T f, ZhAt h z TI TO i1 i2 T f P1 P2 k ∧ T ≠ S ∧ T ≠ z ∧ T ≠ i1 ∧ T ≠ i2
/-- what is laid: the pairs at their addresses -/
structure LzG (xs ys : Array Value) (lo : Addr) (h : Heap) (as : List Addr) : Prop where
  rise : as.Pairwise (· < ·)
  above : ∀ a ∈ as, lo < a
  pairs : ∀ (j : Nat) (a : Addr), as[j]? = some a → ∃ x y, xs[j]? = some x ∧ ys[j]? = some y ∧ h.get? a = some { cls := .type "tuple", data := .seq #[x, y] }
theorem LzG.there {lo : Addr} {h : Heap} {as : List Addr} (g : LzG xs ys lo h as) {a : Addr} (ha : a ∈ as) : a < h.objs.size := by
  obtain ⟨j, hj⟩ := List.mem_iff_getElem?.mp ha
  obtain ⟨_, _, _, _, e⟩ := g.pairs j a hj
  exact Heap.lt_size e
/-- the cells of the zip and of what it walks -/
structure LzOff (S z TI TO i1 i2 l1 l2 : Addr) : Prop where
  sz : S ≠ z
  sTI : S ≠ TI
  sTO : S ≠ TO
  si1 : S ≠ i1
  si2 : S ≠ i2
  sl1 : S ≠ l1
  sl2 : S ≠ l2
  b1 : i1 < z
  b2 : i2 < z
theorem LzAt.keep (S1 : ItStep prog w i1 l1 P1 xs) (S2 : ItStep prog w i2 l2 P2 ys) {S : Addr} (O : LzOff S z TI TO i1 i2 l1 l2) {h h' : Heap} {k : Nat} (Z : LzAt h S z TI TO i1 i2 P1 P2 k) (hk : ∀ b o, b ≠ S → h.get? b = some o → h'.get? b = some o) : LzAt h' S z TI TO i1 i2 P1 P2 k := by
  rcases Z with ⟨e, Z⟩ | ⟨T, f, Z, hTS, e⟩
  · exact .inl ⟨e, hk _ _ O.sz.symm Z.zz, hk _ _ O.sTI.symm Z.ti, hk _ _ O.sTO.symm Z.to, S1.stay Z.p1 (fun o q => hk _ _ O.si1.symm q) (fun o q => hk _ _ O.sl1.symm q), S2.stay Z.p2 (fun o q => hk _ _ O.si2.symm q) (fun o q => hk _ _ O.sl2.symm q)⟩
  · obtain ⟨oT, hT⟩ := Z.tt
    exact .inr ⟨T, f, ⟨hk _ _ O.sz.symm Z.zz, ⟨oT, hk _ _ hTS hT⟩, hk _ _ O.sTI.symm Z.ti, S1.stay Z.p1 (fun o q => hk _ _ O.si1.symm q) (fun o q => hk _ _ O.sl1.symm q), S2.stay Z.p2 (fun o q => hk _ _ O.si2.symm q) (fun o q => hk _ _ O.sl2.symm q)⟩, hTS, e⟩
theorem LzAt.zip {S : Addr} {h : Heap} {k : Nat} (Z : LzAt h S z TI TO i1 i2 P1 P2 k) : ∃ o, h.get? z = some o ∧ o.cls = .type "zip" := by
  rcases Z with ⟨e, Z⟩ | ⟨T, f, Z, hTS, e⟩
  · exact ⟨_, Z.zz, rfl⟩
  · exact ⟨_, Z.zz, rfl⟩
end
section
variable {prog : Program} {w : World} {A : Around} {s : Shared} {R : Result → Shared → Prop}
variable {z TI TO i1 i2 l1 l2 : Addr} {P1 P2 : Nat → Heap → Prop} {xs ys : Array Value}
end
end Snd

set_option maxHeartbeats 2000000
namespace Snd
open PySem PySem.Spec PyProof.Rows L2
section
variable {prog : Program} {w : World} {A : Around} {E : Value → Shared → Prop} {s : Shared}
end
section
variable {prog : Program} {w : World} {A : Around} {s : Shared} {R : Result → Shared → Prop}
variable {z TI TO i1 i2 l1 l2 : Addr} {P1 P2 : Nat → Heap → Prop} {xs ys : Array Value}
end
/-! ### the rule -/
end Snd

set_option maxHeartbeats 2000000
namespace Snd
open PySem PySem.Spec PyProof.Rows L2
section
variable {X : Cx} {e e2 : Expr} {ta : TA} {p p2 pos pos2 : Pos}
end
end Snd

namespace Snd
open PySem PySem.Spec PyProof.Rows L2
variable {X : Cx} {C : Ir.Calls}
/-! ### list(zip(a, b)) -/
end Snd

namespace Snd
open PySem PySem.Spec PyProof.Rows L2
variable {X : Cx} {C : Ir.Calls}
/-! ### a dict display -/
def flatP : List (V × V) → List V
  | [] => []
  | p :: ps => p.1 :: p.2 :: flatP ps
structure SPs (X : Cx) (C : Ir.Calls) (pos : Pos) (keys : List (Option Expr)) (values : List Expr) (is : List Ir.Ex) : Prop where
  ex : ∃ trs, PPs X pos keys values trs ∧ keys.all (·.isSome) = true ∧ keys.length = values.length ∧
    ∀ σ H ρ env st vs st' (Q : List (V × V) → Hp → Prop), RS ρ X.K st H → REnv ρ X.K H env σ → Ir.evals C is env st = .ok vs st' →
      (∀ ρ' H' ps, Ext ρ H ρ' H' → RS ρ' X.K st' H' → RVs ρ' X.K H' vs (flatP ps) → ps.length = keys.length → Q ps H') → tPairs trs σ H Q
theorem sps_nil {pos : Pos} : SPs X C pos [] [] [] := ⟨[], pps_nil, rfl, rfl, fun σ H ρ env st vs st' Q rs re ev k => by
  simp only [Ir.evals] at ev
  cases ev
  exact k ρ H [] (.refl _ _) rs .nil rfl⟩
theorem sps_cons {pos : Pos} {k v : Expr} {ks : List (Option Expr)} {vs : List Expr} {ik iv : Ir.Ex} {is : List Ir.Ex} (hk : SE X C k ik) (hv : SE X C v iv) (hr : SPs X C pos ks vs is) : SPs X C pos (some k :: ks) (v :: vs) (ik :: iv :: is) := by
  obtain ⟨trs, h1, h2, h3, h4⟩ := hr
  refine ⟨_, pps_cons hk hv h1, by simpa using h2, by simp [h3], fun σ H ρ env st ws st' Q rs re ev kk => ?_⟩
  simp only [Ir.evals] at ev
  obtain ⟨x, s1, e1, ev⟩ := bok ev
  obtain ⟨xs, s2, e2, ev⟩ := bok ev
  cases ev
  obtain ⟨y, s3, e3, e2⟩ := bok e2
  obtain ⟨ys, s4, e4, e2⟩ := bok e2
  cases e2
  refine ⟨ρ, env, st, x, s1, rs, re, e1, fun ρ1 H1 X1 x1 rs1 rx => ⟨ρ1, env, s1, y, s3, rs1, re.mono x1, e3, fun ρ2 H2 Y1 x2 rs2 ry => ?_⟩⟩
  refine h4 σ H2 ρ2 env s3 ys _ _ rs2 ((re.mono x1).mono x2) e4 fun ρ3 H3 ps x3 rs3 rr hl => ?_
  exact kk ρ3 H3 ((X1, Y1) :: ps) (x1.trans (x2.trans x3)) rs3 (.cons (rx.mono (x2.trans x3)) (.cons (ry.mono x3) rr)) (by simp [hl])
theorem merge_flat {ρ : Rho} {K : PySem.W.Frag} {H : Hp} : ∀ {ps : List (V × V)} {xs : List Ir.D} {acc kvs : List (Ir.D × Ir.D)} {ks : List (Key × V)}, RDs ρ K H xs (flatP ps) → Ir.mergeF acc xs = some kvs → RKs ρ K H acc ks →
    ∃ prs : List (Key × V), ps = prs.map (fun kv => (kV kv.1, kv.2)) ∧ RKs ρ K H kvs (mergeK ks prs)
  | [], _, acc, kvs, ks, .nil, e, r => by
    simp only [Ir.mergeF] at e
    cases e
    exact ⟨[], rfl, r⟩
  | p :: ps, _, acc, kvs, ks, .cons h (.cons h' t), e, r => by
    simp only [Ir.mergeF] at e
    split at e
    · rename_i hk
      obtain ⟨k', h1, h2⟩ := RK.kv h hk
      obtain ⟨prs, rfl, h3⟩ := merge_flat t e (r.put h1 h')
      refine ⟨(k', p.2) :: prs, ?_, h3⟩
      simp only [List.map_cons]
      rw [← h2]
    · cases e
theorem se_disp {pos : Pos} {keys : List (Option Expr)} {values : List Expr} {is : List Ir.Ex} (h : SPs X C pos keys values is) (h0 : keys ≠ [] := by simp) (h15 : keys.length ≤ 15 := by decide) : SE X C (.Dict keys values pos) (.newDd is) := by
  obtain ⟨trs, h1, h2, h3, h4⟩ := h
  refine pe_imp (pe_disp h1 h2 h3 h0 h15) fun σ H Q ⟨ρ, env, st, v, st', rs, re, ev, k⟩ p hp => ?_
  simp only [Ir.eval] at ev
  obtain ⟨us, s1, e1, ev⟩ := bok ev
  obtain ⟨ds, e2, ev⟩ := ook ev
  split at ev
  · rename_i kvs hm
    cases ev
    have w1 : Ext ρ H (ρ.keep p) (upd H p (.dK [])) := .keep rs hp _
    refine h4 σ _ (ρ.keep p) env st us s1 _ (rs.keep hp _) (re.mono w1) e1 fun ρ2 H2 ps x2 rs2 rv hl => ?_
    have hres : p ∈ ρ2.res := x2.rs p List.mem_cons_self
    have hp2 : H2 p = some (.dK []) := x2.fr p _ upd_same (fun z => rs.fresh hp (.inl z)) (fun z => rs.fresh hp (.inr (.inr z)))
    obtain ⟨prs, rfl, hk⟩ := merge_flat (rv.ds e2) hm .nil
    have hpl : prs.length ≤ 15 := by rw [List.length_map] at hl; omega
    have hz : (mergeK [] prs).length ≤ sizeLine := by
      refine Nat.le_trans (length_mergeK prs []) ?_
      simp only [List.length_nil, Nat.zero_add]
      exact Nat.le_trans hpl (by decide)
    refine ⟨hp2, prs, rfl, hpl, ?_⟩
    have x : Ext ρ H ρ2 H2 := w1.trans x2
    have hn : p ∉ ρ.res := fun q => rs.fresh hp (.inr (.inl q))
    have sub : ∀ b, Rho.own ⟨ρ2.ix ++ [some p], ρ.res, ρ2.ob⟩ b → ρ2.own b := fun b q => by
      rcases q with q | q | q
      · rcases List.mem_append.mp q with q | q
        · exact .inl q
        · simp at q; subst q; exact .inr (.inl hres)
      · exact .inr (.inl (x.rs b q))
      · exact .inr (.inr q)
    have xa : Ext ρ H ρ2 (upd H2 p (.dK (mergeK [] prs))) := x.aside hp
    have ra : RS ρ2 X.K s1 (upd H2 p (.dK (mergeK [] prs))) := rs2.aside hres
    refine k ⟨ρ2.ix ++ [some p], ρ.res, ρ2.ob⟩ _ _ (xa.cellOf hp hn) (ra.cellOf x.rs hres hn ⟨_, upd_same, hz, (hk.aside hres).sub sub fun _ _ q => q⟩) ⟨by simp [rs2.len], p, rfl, fun b hb => ?_⟩
    have hb : (ρ2.ix ++ [some p])[s1.length]? = some (some b) := hb
    rw [rs2.len, List.getElem?_append_right (Nat.le_refl _)] at hb
    simp at hb
    exact hb.symm
  · cases ev
/-! ### a list and a list -/
/-! ### pop(0) -/
end Snd

namespace Snd
open PySem PySem.Spec PyProof.Rows L2
variable {X : Cx} {C : Ir.Calls}
/-! ### int(b), str(i) -/
theorem txtInt_ok {z : String} {n : Int} (h : Ir.txtInt z.toList = some n) : PySem.intText? (Str.ofString z) = some n ∧ (Str.ofString z).length ≤ 640 := by
  have hc : (Str.ofString z).cps.toList = z.toList.map Char.toNat := by rw [Str.ofString_eq_toList]
  have hl : (Str.ofString z).length = z.toList.length := by
    show (Str.ofString z).cps.size = _
    rw [← Array.length_toList, hc, List.length_map]
  have dig : ∀ r : List Char, r.all Ir.isDig = true → PySem.NumText.AllDigits (r.map Char.toNat) := fun r h c hc => by
    obtain ⟨d, hd, rfl⟩ := List.mem_map.mp hc
    have := List.all_eq_true.mp h d hd
    simpa [Ir.isDig] using this
  have val : ∀ r : List Char, PySem.NumText.digitsVal (r.map Char.toNat) = Ir.digV r := fun r => by
    unfold PySem.NumText.digitsVal Ir.digV
    rw [List.foldl_map]
  unfold Ir.txtInt at h
  split at h
  · rename_i hle
    refine ⟨?_, by rw [hl]; omega⟩
    split at h
    · rename_i r hr
      split at h
      · rename_i hd
        cases h
        rw [hr] at hc
        rw [PySem.intText_neg (cs := r.map Char.toNat) hc (dig r hd.2) (by simpa using hd.1) (by rw [hl]; omega), val]
      · cases h
    · split at h
      · rename_i hd
        cases h
        have d := dig _ hd.2
        rw [← hc] at d
        rw [PySem.intText_digits d (by rw [hc]; simpa using hd.1) (by rw [hl]; omega), hc, val]
      · cases h
  · cases h
theorem blt_int : CallR X (.type "int") (rB X.K .int) := by
  refine callR_imp (callR_or call_int1 call_int_str) fun xs H Q ⟨ρ, st, vs, v, st', rs, rv, ev, k⟩ => ?_
  obtain ⟨rfl, ds, r, h1, h2, rfl⟩ := not_len (by decide) ev
  have vd := VDs.derefs rs rv h1
  simp only [Ir.D.blt] at h2
  unfold Ir.D.bInt at h2
  split at h2
  · cases h2
    cases vd with
    | cons vd t =>
      cases t
      exact .inl (.inl ⟨_, by rw [RD.int_inv vd], k ρ H _ (.refl _ _) rs (.int _)⟩)
  · cases h2
    cases vd with
    | cons vd t =>
      cases t
      exact .inl (.inr ⟨_, by rw [RD.bool_inv vd], k ρ H _ (.refl _ _) rs (.int _)⟩)
  · simp only [Option.map_eq_some_iff] at h2
    obtain ⟨n, h3, rfl⟩ := h2
    obtain ⟨g1, g2⟩ := txtInt_ok h3
    cases vd with
    | cons vd t =>
      cases t
      exact .inr ⟨_, n, by rw [RD.str_inv vd], g1, g2, k ρ H _ (.refl _ _) rs (.int _)⟩
  · cases h2
theorem blt_str : CallR X (.type "str") (rB X.K .str) := by
  refine callR_imp (callR_or call_str_int SkE.call_str_str) fun xs H Q ⟨ρ, st, vs, v, st', rs, rv, ev, k⟩ => ?_
  obtain ⟨rfl, ds, r, h1, h2, rfl⟩ := not_len (by decide) ev
  have vd := VDs.derefs rs rv h1
  simp only [Ir.D.blt] at h2
  unfold Ir.D.bStr at h2
  split at h2
  · split at h2
    · rename_i hl
      cases h2
      cases vd with
      | cons vd t =>
        cases t
        exact .inl ⟨_, by rw [RD.int_inv vd], hl, k ρ H _ (.refl _ _) rs (.str _)⟩
    · cases h2
  · split at h2
    · cases h2
      cases vd with
      | cons vd t =>
        cases t
        exact .inr ⟨_, by rw [RD.str_inv vd], k ρ H _ (.refl _ _) rs (.str _)⟩
    · cases h2
  · cases h2
/-! ### join -/
/-! ### f-strings -/
structure SFs (X : Cx) (C : Ir.Calls) (es : List Expr) (is : List Ir.Ex) : Prop where
  ex : ∃ ts, PJ X es ts ∧ ∀ (acc : String) σ H ρ env st vs st' ds ys (Q : Str → Hp → Prop), RS ρ X.K st H → REnv ρ X.K H env σ → Ir.evals C is env st = .ok vs st' → Ir.asDs vs = some ds → Ir.D.strs ds = some ys → acc.length + (ys.map (·.length)).sum ≤ Ir.LIM →
    (∀ ρ' H', Ext ρ H ρ' H' → RS ρ' X.K st' H' → Q (Str.ofString (acc ++ Ir.joinS "" ys)) H') → tJs ts (Str.ofString acc) σ H Q
theorem joinS_cons (y : String) (ys : List String) : Ir.joinS "" (y :: ys) = y ++ Ir.joinS "" ys := by
  cases ys <;> simp [Ir.joinS]
theorem sfs_nil : SFs X C [] [] := ⟨[], .nil, fun acc σ H ρ env st vs st' ds ys Q rs re ev h1 h2 hl k => by
  simp only [Ir.evals] at ev
  cases ev
  simp [Ir.asDs] at h1
  subst h1
  simp [Ir.D.strs] at h2
  subst h2
  have := k ρ H (.refl _ _) rs
  simpa [Ir.joinS, tJs] using this⟩
theorem sfs_step {e : Expr} {i : Ir.Ex} {es : List Expr} {is : List Ir.Ex} {t : TE} (he : PE X e t) (hi : ∀ σ H ρ env st z st' Q, RS ρ X.K st H → REnv ρ X.K H env σ → Ir.eval C i env st = .ok (.d (.str z)) st' → (∀ ρ' H', Ext ρ H ρ' H' → RS ρ' X.K st' H' → Q (.str (Str.ofString z)) H') → t σ H Q) (h : SFs X C es is) : SFs X C (e :: es) (i :: is) := by
  obtain ⟨ts, h1, h2⟩ := h
  refine ⟨_, .cons he h1, fun acc σ H ρ env st vs st' ds ys Q rs re ev hd hy hl k => ?_⟩
  simp only [Ir.evals] at ev
  obtain ⟨x, s1, e1, ev⟩ := bok ev
  obtain ⟨xs, s2, e2, ev⟩ := bok ev
  cases ev
  cases x with
  | ref n => simp [Ir.asDs] at hd
  | d y =>
    simp only [Ir.asDs, Option.map_eq_some_iff] at hd
    obtain ⟨ds', hd', rfl⟩ := hd
    obtain ⟨z, rfl⟩ : ∃ z, y = .str z := by cases y <;> simp [Ir.D.strs] at hy; exact ⟨_, rfl⟩
    simp only [Ir.D.strs, Option.map_eq_some_iff] at hy
    obtain ⟨ys', hy', rfl⟩ := hy
    simp only [List.map_cons, List.sum_cons] at hl
    show t σ H _
    refine hi σ H ρ env st z s1 _ rs re e1 fun ρ1 H1 x1 rs1 => ⟨_, rfl, ?_, ?_⟩
    · rw [ofString_app, ofString_len, ← lim_eq, String.length_append]; omega
    · rw [ofString_app]
      refine h2 (acc ++ z) σ H1 ρ1 env s1 xs st' ds' ys' Q rs1 (re.mono x1) e2 hd' hy' (by rw [String.length_append]; omega) fun ρ2 H2 x2 rs2 => ?_
      have := k ρ2 H2 (x1.trans x2) rs2
      rw [joinS_cons] at this
      rw [String.append_assoc]
      exact this
theorem sfs_con {z : String} {j pos} {es : List Expr} {is : List Ir.Ex} (h : SFs X C es is) : SFs X C (.Constant (.str (Str.ofString z)) j pos :: es) (.con (.str z) :: is) :=
  sfs_step (t := _) pe_str (fun σ H ρ env st z' st' Q rs re ev k => by
    simp only [Ir.eval] at ev
    cases ev
    exact k ρ H (.refl _ _) rs) h
theorem sfs_fmt {e : Expr} {i : Ir.Ex} {pos : Pos} {es : List Expr} {is : List Ir.Ex} (he : SE X C e i) (h : SFs X C es is) : SFs X C (.FormattedValue e (-1) none pos :: es) (.blt .str [i] :: is) :=
  sfs_step (pe_fmt he) (fun σ H ρ env st z st' Q rs re ev k => by
    simp only [Ir.eval, Ir.evals] at ev
    obtain ⟨vs, s1, e1, ev⟩ := bok ev
    obtain ⟨v, s2, e2, e1⟩ := bok e1
    simp only [Ir.Res.bind_ok] at e1
    cases e1
    obtain ⟨rfl, ds, r, h1, h2, h3⟩ := not_len (by decide) ev
    cases h3
    refine ⟨ρ, env, st, v, _, rs, re, e2, fun ρ1 H1 V1 x1 rs1 rv => ?_⟩
    have vd := VDs.derefs rs1 (.cons rv .nil) h1
    simp only [Ir.D.blt] at h2
    unfold Ir.D.bStr at h2
    split at h2
    · split at h2
      · rename_i hl
        cases h2
        cases vd with
        | cons vd t =>
          cases t
          exact .inr ⟨_, RD.int_inv vd, hl, k ρ1 H1 x1 rs1⟩
      · cases h2
    · split at h2
      · rename_i hl
        cases h2
        cases vd with
        | cons vd t =>
          cases t
          exact .inl ⟨_, RD.str_inv vd, by rw [ofString_len, ← lim_eq]; exact hl, k ρ1 H1 x1 rs1⟩
      · cases h2
    · cases h2) h
theorem se_fs {es : List Expr} {v1 v2 : Expr} {is : List Ir.Ex} {pos : Pos} (h : SFs X C (v1 :: v2 :: es) is) : SE X C (.JoinedStr (v1 :: v2 :: es) pos) (.fs is) := by
  obtain ⟨ts, h1, h2⟩ := h
  refine pe_imp (pe_joined h1) fun σ H Q ⟨ρ, env, st, v, st', rs, re, ev, k⟩ => ?_
  simp only [Ir.eval] at ev
  obtain ⟨vs, s1, e1, ev⟩ := bok ev
  obtain ⟨ds, e2, ev⟩ := ook ev
  obtain ⟨ys, e3, ev⟩ := ook ev
  split at ev
  · rename_i hl
    cases ev
    have := h2 "" σ H ρ env st vs _ ds ys (fun out H1 => Q (.str out) H1) rs re e1 e2 e3 (by simpa using hl) fun ρ' H' x rs' => by
      have := k ρ' H' _ x rs' (.str _)
      simpa using this
    exact this
  · cases ev
end Snd

set_option maxHeartbeats 2000000
namespace Snd
open PySem PySem.Spec PyProof.Rows L2
open AutoSeq1 (wpAny_loadPart')
/-! enumerate(tuple) -/
section
variable {prog : Program} {w : World} {A : Around} {E : Value → Shared → Prop} {s : Shared}
end
end Snd

set_option maxHeartbeats 1000000
namespace Snd
open PySem PySem.Spec PyProof.Rows L2
/-! zip of a list and a text -/
structure ItStepS (prog : Program) (w : World) (it : Addr) (P : Nat → Heap → Prop) (x : Str) : Prop where
  next : ∀ {B : Around} {F : Value → Shared → Prop} {t : Shared} {k c : Nat} {R : Value → Shared → Prop}, P k t.heap → x.cps[k]? = some c → (∀ g, P (k + 1) g → Heap.SameBut it t.heap g → R (.str ⟨#[c]⟩ t.toks) { t with heap := g, toks := t.toks + 1 }) → wpAny (model prog w) B (Builtin.SmallTypes.nextOf (.ref it)) R F t
  over : ∀ {B : Around} {F : Value → Shared → Prop} {t : Shared} {k : Nat} {R : Value → Shared → Prop}, B.handled = none → P k t.heap → x.cps[k]? = none → (∀ g e, Heap.ExtBut it t.heap g → (∃ o, g.get? e = some o ∧ o.cls = .type "StopIteration") → F (.ref e) { t with heap := g }) → wpAny (model prog w) B (Builtin.SmallTypes.nextOf (.ref it)) R F t
  stay : ∀ {k : Nat} {g g' : Heap}, P k g → (∀ o, g.get? it = some o → g'.get? it = some o) → P k g'
section
variable {prog : Program} {w : World} {A : Around} {E : Value → Shared → Prop} {s : Shared}
variable {z TI TO i1 i2 l1 : Addr} {P1 P2 : Nat → Heap → Prop} {xs : Array Value} {tx : Str} {a b : Value}
end
end Snd

set_option maxHeartbeats 1000000
namespace Snd
open PySem PySem.Spec PyProof.Rows L2
end Snd

set_option maxHeartbeats 1000000
namespace Snd
open PySem PySem.Spec PyProof.Rows L2
section
variable {prog : Program} {w : World} {A : Around} {E : Value → Shared → Prop} {s : Shared}
end
end Snd

namespace Snd
open PySem PySem.Spec PyProof.Rows L2
variable {X : Cx} {C : Ir.Calls}
/-! ### enumerate -/
/-! ### reversed(range(..)) -/
/-! ### the signs of a text -/
/-! ### a sign in a text -/
/-! ### zip of a list and a text -/
end Snd

namespace Snd
open PySem PySem.Spec PyProof.Rows L2
variable {X : Cx} {C : Ir.Calls}
/-! ### what the module holds -/
mutual
/-- a value of the module is some data -/
inductive KV (K : PySem.W.Frag) : Ir.D → Value → Prop
  | non : KV K .non .none
  | bool (b : Bool) : KV K (.bool b) (.bool b)
  | int (i : Int) (t : Tok) : KV K (.int i) (.int i t)
  | str (s : String) (t : Tok) : KV K (.str s) (.str (Str.ofString s) t)
  | tup {a : Addr} {xs : List Ir.D} {dd : Option Addr} {us : List Value} {n : Nat} {sl : Array (Option Value)} : K.lookup a = some ⟨.type "tuple", dd, .seq us.toArray n, sl⟩ → us.length ≤ sizeLine → KVs K xs us → KV K (.tup xs) (.ref a)
inductive KVs (K : PySem.W.Frag) : List Ir.D → List Value → Prop
  | nil : KVs K [] []
  | cons {x : Ir.D} {xs : List Ir.D} {u : Value} {us : List Value} : KV K x u → KVs K xs us → KVs K (x :: xs) (u :: us)
end
mutual
theorem KV.rel {K : PySem.W.Frag} {d : Ir.D} {u : Value} (h : KV K d u) : ∃ v, RelV v u ∧ ∀ ρ H, RD ρ K H d v := by
  cases h with
  | non => exact ⟨.non, rfl, fun _ _ => .non⟩
  | bool b => exact ⟨.bl b, rfl, fun _ _ => .bool b⟩
  | int i t => exact ⟨.int i, ⟨t, rfl⟩, fun _ _ => .int i⟩
  | str s t => exact ⟨.str (Str.ofString s), ⟨t, rfl⟩, fun _ _ => .str s⟩
  | tup hl hz hs =>
    obtain ⟨vs, h1, h2⟩ := hs.rel
    refine ⟨.ref _, rfl, fun ρ H => .tup (.inr ⟨_, _, _, hl, rfl, rfl, by simpa using hz, by simpa using h1⟩) (by rw [h1.length]; exact hz) (h2 ρ H)⟩
theorem KVs.rel {K : PySem.W.Frag} {ds : List Ir.D} {us : List Value} (h : KVs K ds us) : ∃ vs, Vals vs us ∧ ∀ ρ H, RDs ρ K H ds vs := by
  cases h with
  | nil => exact ⟨[], .nil, fun _ _ => .nil⟩
  | cons h hs =>
    obtain ⟨v, h1, h2⟩ := h.rel
    obtain ⟨vs, h3, h4⟩ := hs.rel
    exact ⟨v :: vs, .cons h1 h3, fun ρ H => .cons (h2 ρ H) (h4 ρ H)⟩
end
theorem se_glb {x : Str} {d : Ir.D} {pos : Pos} (h : ∃ u, X.mg x = some u ∧ KV X.K d u) (hg : Gl X x := by rfl) (hd : (x == ("__debug__" : Str)) = false := by decide) : SE X C (.Name x pos) (.con d) := by
  obtain ⟨u, hm, kv⟩ := h
  obtain ⟨v, rv, rd⟩ := kv.rel
  refine pe_imp (pe_glob hg hm rv hd) fun σ H Q ⟨ρ, env, st, w, st', rs, re, ev, k⟩ => ?_
  simp only [Ir.eval] at ev
  cases ev
  exact k ρ H _ (.refl _ _) rs (rd ρ H)
/-- the entries of a dict of the module -/
inductive KEs (K : PySem.W.Frag) (P : Params) : List (String × Ir.D) → List DictEntry → Prop
  | nil : KEs K P [] []
  | cons {z : String} {d : Ir.D} {kvs : List (String × Ir.D)} {e : DictEntry} {es : List DictEntry} {t : Tok} : e.key = .str (Str.ofString z) t → e.hash = PyData.keyHash P (Str.ofString z) → KV K d e.val → KEs K P kvs es → KEs K P ((z, d) :: kvs) (e :: es)
theorem KEs.lit {K : PySem.W.Frag} {P : Params} {kvs : List (String × Ir.D)} {es : List DictEntry} (h : KEs K P kvs es) : PySem.W.KeysLit P es := by
  induction h with
  | nil => trivial
  | cons h1 h2 h3 h4 ih => exact ⟨⟨_, _, h1, h2⟩, ih⟩
theorem KEs.find {K : PySem.W.Frag} {P : Params} {kvs : List (String × Ir.D)} {es : List DictEntry} (h : KEs K P kvs es) (z : String) :
    (∃ d e, kvs.lookup z = some d ∧ es.find? (·.key.isStr (Str.ofString z)) = some e ∧ KV K d e.val) ∨ (kvs.lookup z = none ∧ es.find? (·.key.isStr (Str.ofString z)) = none ∧ es.any (·.refKey) = false) := by
  induction h with
  | nil => exact .inr ⟨rfl, rfl, rfl⟩
  | @cons y d kvs e es t h1 h2 h3 h4 ih =>
    by_cases hz : z = y
    · subst hz
      refine .inl ⟨d, e, by simp [List.lookup], ?_, h3⟩
      rw [List.find?_cons_of_pos]
      rw [h1]; simp [Value.isStr]
    · have hb : (z == y) = false := by simpa using hz
      have hk : e.key.isStr (Str.ofString z) = false := by
        rw [h1]
        simp only [Value.isStr]
        simpa using fun e => hz (ofString_inj e.symm)
      have hr : e.refKey = false := by simp [DictEntry.refKey, h1]
      rw [List.find?_cons_of_neg (by simp [hk])]
      simp only [List.lookup, hb, List.any_cons, hr, Bool.false_or]
      exact ih
structure KD (K : PySem.W.Frag) (w : World) (kvs : List (String × Ir.D)) (a : Addr) : Prop where
  ex : ∃ es n, K.lookup a = some ⟨.type "dict", none, .dict es n, #[]⟩ ∧ KEs K w.params kvs es.toList ∧ (a == sysModules) = false
theorem KD.ns {K : PySem.W.Frag} {w : World} {kvs : List (String × Ir.D)} {a : Addr} (h : KD K w kvs a) (z : String) :
    (∃ d u, kvs.lookup z = some d ∧ PySem.W.nsIn K a (Str.ofString z) = some (some u) ∧ KV K d u) ∨ (kvs.lookup z = none ∧ PySem.W.nsIn K a (Str.ofString z) = some none) := by
  obtain ⟨es, n, hl, hk, hs⟩ := h.ex
  rcases hk.find z with ⟨d, e, h1, h2, h3⟩ | ⟨h1, h2, h3⟩
  · exact .inl ⟨d, e.val, h1, by unfold PySem.W.nsIn; rw [hl]; simp only [h2], h3⟩
  · exact .inr ⟨h1, by unfold PySem.W.nsIn; rw [hl]; simp only [h2, h3, Bool.false_eq_true, if_false]⟩
theorem KD.kd {w : World} {K : PySem.W.Frag} {kvs : List (String × Ir.D)} {a : Addr} (h : KD K w kvs a) : ∃ es n, KDict K w a es n := by
  obtain ⟨es, n, hl, hk, hs⟩ := h.ex
  exact ⟨es, n, hl, hk.lit, hs⟩
section
variable {a : Expr} {ia : Ir.Ex} {x : Str} {kvs : List (String × Ir.D)} {p' pos : Pos}
end
theorem RDs.rep {ρ : Rho} {K : PySem.W.Frag} {H : Hp} {xs : List Ir.D} {ys : List V} (r : RDs ρ K H xs ys) : ∀ n : Nat, RDs ρ K H (List.replicate n xs).flatten (List.replicate n ys).flatten
  | 0 => .nil
  | n + 1 => by
    rw [List.replicate_succ, List.replicate_succ, List.flatten_cons, List.flatten_cons]
    exact r.append (RDs.rep r n)
/-! ### a list some times over -/
theorem rep_len {α : Type} (l : List α) : ∀ n : Nat, (List.replicate n l).flatten.length = l.length * n
  | 0 => by simp
  | n + 1 => by rw [List.replicate_succ, List.flatten_cons, List.length_append, rep_len l n, Nat.mul_succ, Nat.add_comm]
theorem range_pick {α : Type} : ∀ l : List α, ((List.range l.length).filterMap fun i => l[i]?) = l
  | [] => rfl
  | x :: l => by
    rw [List.length_cons, List.range_succ_eq_map, List.filterMap_cons]
    simp only [List.getElem?_cons_zero, List.filterMap_map]
    have := range_pick l
    simpa [Function.comp_def] using this
theorem bin_lmul : OpR X (binaryOp .Mult) (rBin X.K .lmul) := by
  refine opR_imp op_rep fun x y H Q ⟨ρ, st, p, q, d, rs, hp, hq, hb, k⟩ => ?_
  cases p <;> cases q <;> simp only [Ir.D.bin, reduceCtorEq] at hb
  rename_i xs n
  split at hb
  · rename_i hc
    cases hb
    rw [Bool.and_eq_true, Bool.and_eq_true] at hc
    have h0 : 0 ≤ n := of_decide_eq_true hc.1.1
    have h2 : n ≤ 16777216 := (by have := of_decide_eq_true hc.1.2; rw [Ir.LIM_eq] at this; exact this)
    have h1 : xs.length * n.toNat ≤ Ir.LIM := of_decide_eq_true hc.2
    obtain ⟨a, as, rfl, g1, za, ra⟩ := hp
    have hl : as.length * n.toNat ≤ sizeLine := by rw [← ra.length, ← lim_eq]; exact h1
    have hl2 : (List.replicate n.toNat as).flatten.length ≤ sizeLine := by rw [rep_len]; exact hl
    exact ⟨a, n, as, rfl, RD.int_inv hq, g1, by omega, by omega, hl, fun p hp => k ρ _ _ (.grow rs hp _) (rs.grow hp _) (grow_lst rs (ra.rep n.toNat) hl2 hp)⟩
  · cases hb
/-! ### defs with defaults -/
theorem fn_okD {P : Program} {w : World} {K : PySem.W.Frag} {mg : Str → Option Value} {base : Heap} {x qual : Str} {st : Stmt} {f : Addr} {fd : FuncData} {N ps : List Str} {T : Ir.Tab} {n : Nat} {name : String} {fn : Ir.Fn} {dvs : List V} {kws : List (Str × V)}
    (F : FunD K x qual (defArgs st) (defBody st) (defScope st) dvs kws f fd) (S : FnScope N ps (defScope st)) (hT : T name = some fn) (hp : fn.pars = ps.length) (hN : fn.many = N.length)
    (hb : ∀ (cdv : Value) (A : Around) (outer : List Env) (s : Shared) (H : Hp) (E : XK), Room (n + 2) (A.deeper (envOfC qual (defScope st) s.heap.objs.size f cdv)) → SSs (cxOf CX0 P w K mg base N qual (defScope st) f cdv A outer s H E).nox (Ir.callN T n) (fun _ _ _ _ => False) (defBody st) fn.body) :
    FnOk P w K mg base CX0 (n + 2 + 1) f fd ps (spI T (n + 1) K name) := by
  refine F.ok S (fun vs H Q E h => ?_) (fun cdv A outer s H vs Q E hr h => ?_)
  · obtain ⟨ρ, st, args, v, st', rs, ra, ev, k⟩ := h
    simp only [Ir.callN, hT, Ir.runFn] at ev
    split at ev
    · rename_i hc
      rw [← ra.length, hc.1, hp]
    · cases ev
  · obtain ⟨ρ, st, args, v, st', rs, ra, ev, k⟩ := h
    refine ⟨_, (hb cdv A outer s H E hr).nox, ?_⟩
    simp only [Ir.callN, hT, Ir.runFn] at ev
    split at ev
    · rename_i hc
      obtain ⟨o, s1, e1, ev1⟩ := bok ev
      have e1 := Ir.noexc_inv e1
      have re := start_ok (N := N) ra fn.many hN
      rw [hc.1] at re
      refine ⟨ρ, _, st, o, s1, rs, re, e1, ?_⟩
      have hlen : st.length = ρ.ix.length := rs.len
      cases o with
      | nx env' =>
        intro ρ1 H1 σ1 x1 rs1 _
        rw [hlen] at ev1
        obtain ⟨ρ', x2, rs2, rv2⟩ := leave_ok (v := .d .non) (y := V.non) x1 rs1 RD.non ev1
        exact k ρ' H1 _ x2 rs2 rv2
      | ret u =>
        intro ρ1 H1 y x1 rs1 ry
        rw [hlen] at ev1
        obtain ⟨ρ', x2, rs2, rv2⟩ := leave_ok x1 rs1 ry ev1
        exact k ρ' H1 _ x2 rs2 rv2
      | brk _ => simp only at ev1; cases ev1
      | cnt _ => simp only at ev1; cases ev1
      | thr c as _ => simp only at ev1; cases ev1
    · cases ev
theorem KwOk.dfl {K : PySem.W.Frag} {fd : FuncData} {ps : List Str} {f : String} {m : Nat} {ds : List Ir.D} {perm : List Nat} {dvs : List V} (hr : ∀ ρ H, RDs ρ K H ds dvs) (hm : m + ds.length = ps.length) (hp : perm = List.range ps.length) (h : ∃ dv, Vals dvs dv ∧ Binds K fd ps dv) : KwOk K fd ps (f, m, [], perm, ds) := by
  obtain ⟨dv, h1, h2⟩ := h
  have hl := (hr ⟨[], [], []⟩ (fun _ => none)).length
  refine ⟨dv, dvs, h1, hr, fun s us ws hk hu hw => ?_⟩
  obtain rfl : ws = [] := List.eq_nil_of_length_eq_zero hw
  subst hp
  have h3 : (us ++ dv).length = ps.length := by rw [List.length_append, ← h1.length, ← hl]; have : us.length = m := hu; omega
  have h4 : permV (List.range ps.length) (us ++ [] ++ dv) = us ++ dv := by
    rw [List.append_nil, ← h3]
    exact range_pick _
  show BindsTo s fd ⟨us, []⟩ (ps.zip (permV (List.range ps.length) (us ++ [] ++ dv)))
  rw [h4]
  exact h2 s us hk h3
section
variable {K : PySem.W.Frag} {x qual : Str} {params : Arguments} {body : List Stmt} {scope : Scope} {dvs : List V} {kws : List (Str × V)} {f : Addr} {fd : FuncData} {ps : List Str}
end
end Snd

namespace Snd
open PySem PySem.Spec PyProof.Rows L2
variable {X : Cx} {C : Ir.Calls}
/-! ### list(range(..)) -/
theorem bv_sorted : bootBuiltins (Str.ofString "sorted") = some (.builtin "sorted") := by decide +kernel
/-! ### sorted, of ints -/
theorem ins_perm (x : Int) : ∀ l : List Int, (Ir.insI x l).Perm (x :: l)
  | [] => .refl _
  | y :: l => by
    unfold Ir.insI
    split
    · exact .refl _
    · exact ((ins_perm x l).cons y).trans (.swap x y l)
theorem ins_sorted (x : Int) : ∀ l : List Int, l.Pairwise (· ≤ ·) → (Ir.insI x l).Pairwise (· ≤ ·)
  | [], _ => by simp [Ir.insI]
  | y :: l, h => by
    unfold Ir.insI
    rw [List.pairwise_cons] at h
    split
    · rename_i c
      refine List.pairwise_cons.mpr ⟨fun z hz => ?_, List.pairwise_cons.mpr h⟩
      rcases List.mem_cons.mp hz with rfl | hz
      · exact c
      · exact Int.le_trans c (h.1 z hz)
    · rename_i c
      refine List.pairwise_cons.mpr ⟨fun z hz => ?_, ins_sorted x l h.2⟩
      rcases List.mem_cons.mp ((ins_perm x l).mem_iff.mp hz) with rfl | hz
      · omega
      · exact h.1 z hz
theorem sort_perm : ∀ l : List Int, (Ir.sortI l).Perm l
  | [] => .refl _
  | x :: l => (ins_perm x _).trans ((sort_perm l).cons x)
theorem sort_sorted : ∀ l : List Int, (Ir.sortI l).Pairwise (· ≤ ·)
  | [] => .nil
  | x :: l => ins_sorted x _ (sort_sorted l)
theorem ints_rds {ρ : Rho} {K : PySem.W.Frag} {H : Hp} : ∀ l : List Int, RDs ρ K H (l.map .int) (l.map V.int)
  | [] => .nil
  | i :: l => .cons (.int i) (ints_rds l)
/-! ### range by steps of two -/
/-! ### d.get(k) -/
end Snd

namespace Snd
open PySem PySem.Spec PyProof.Rows L2
variable {X : Cx} {C : Ir.Calls} {W : WX}
/-! ### expressions that may raise -/
def tX (C : Ir.Calls) (K : PySem.W.Frag) (mg : Str → Option Value) (W : WX) (e : Ir.EX) : TE := fun σ H Q => ∃ ρ env st r, RS ρ K st H ∧ REnv ρ K H env σ ∧ Ir.evalX C e env st = r ∧ GX K mg ρ H Q (WE W σ) r
def GXs (K : PySem.W.Frag) (mg : Str → Option Value) (ρ : Rho) (H : Hp) (Q : List V → Hp → Prop) (E : XK) : Ir.Res (List Ir.Val) → Prop
  | .ok v st' => ∀ ρ' H' x, Ext ρ H ρ' H' → RS ρ' K st' H' → RVs ρ' K H' v x → Q x H'
  | .exc c as st' => ∀ ρ' H' cls d, Ext ρ H ρ' H' → RS ρ' K st' H' → RXc ρ' K H' mg c as cls d → E cls d H'
  | .bad => False
def tXs (C : Ir.Calls) (K : PySem.W.Frag) (mg : Str → Option Value) (W : WX) (es : List Ir.EX) : TA := fun σ H Q => ∃ ρ env st r, RS ρ K st H ∧ REnv ρ K H env σ ∧ Ir.evalXs C es env st = r ∧ GXs K mg ρ H Q (WE W σ) r
abbrev SX (X : Cx) (C : Ir.Calls) (W : WX) (e : Expr) (ir : Ir.EX) : Prop := PE X e (tX C X.K X.mg W ir)
abbrev SXs (X : Cx) (C : Ir.Calls) (W : WX) (es : List Expr) (ir : List Ir.EX) : Prop := PA X es (tXs C X.K X.mg W ir)
theorem sx_p {e : Expr} {i : Ir.Ex} (h : SE X C e i) : SX X C W e (.p i) := pe_imp h fun σ H Q ⟨ρ, env, st, r, rs, re, ev, k⟩ => by
  simp only [Ir.evalX] at ev
  cases r with
  | ok v s => exact ⟨ρ, env, st, v, s, rs, re, Ir.noexc_inv ev, k⟩
  | exc c as s => exact (Ir.noexc_not ev).elim
  | bad => exact k.elim
theorem sxs_nil : SXs X C W [] [] := pa_imp pa_nil fun σ H Q ⟨ρ, env, st, r, rs, re, ev, k⟩ => by
  simp only [Ir.evalXs] at ev; subst ev; exact k ρ H _ (.refl _ _) rs .nil
theorem sxs_cons {e : Expr} {es : List Expr} {i : Ir.EX} {is : List Ir.EX} (h : SX X C W e i) (hs : SXs X C W es is) (hst : starEach (e :: es) X.env = (false, eval e X.env) :: starEach es X.env := by rfl) : SXs X C W (e :: es) (i :: is) := by
  refine pa_imp (pa_cons h hs hst) fun σ H Q ⟨ρ, env, st, r, rs, re, ev, k⟩ => ?_
  simp only [Ir.evalXs] at ev
  cases e1 : Ir.evalX C i env st with
  | bad => rw [e1] at ev; simp only [Ir.Res.bind_bad] at ev; subst ev; exact k.elim
  | exc c as s1 =>
    rw [e1] at ev; simp only [Ir.Res.bind_exc] at ev; subst ev
    exact ⟨ρ, env, st, _, rs, re, e1, k⟩
  | ok x s1 =>
    rw [e1] at ev
    simp only [Ir.Res.bind_ok] at ev
    refine ⟨ρ, env, st, _, rs, re, e1, fun ρ1 H1 X1 x1 rs1 rx => ?_⟩
    cases e2 : Ir.evalXs C is env s1 with
    | bad => rw [e2] at ev; simp only [Ir.Res.bind_bad] at ev; subst ev; exact k.elim
    | exc c as s2 =>
      rw [e2] at ev; simp only [Ir.Res.bind_exc] at ev; subst ev
      exact ⟨ρ1, env, s1, _, rs1, re.mono x1, e2, fun ρ2 H2 cls d x2 rs2 r2 => k ρ2 H2 cls d (x1.trans x2) rs2 r2⟩
    | ok xs s2 =>
      rw [e2] at ev; simp only [Ir.Res.bind_ok] at ev; subst ev
      exact ⟨ρ1, env, s1, _, rs1, re.mono x1, e2, fun ρ2 H2 XS x2 rs2 rxs => k ρ2 H2 (X1 :: XS) (x1.trans x2) rs2 (.cons (rx.mono x2) rxs)⟩
/-! ### statements -/
theorem catch_ok {α : Type} {r : Ir.Res α} {σ : Ir.Env} {f : α → Ir.Store → Ir.Res Ir.Out} {o : Ir.Out} {st' : Ir.Store} (h : Ir.catchX r σ f = .ok o st') : (∃ a s, r = .ok a s ∧ f a s = .ok o st') ∨ ∃ c as, r = .exc c as st' ∧ o = .thr c as σ := by
  cases r with
  | ok a s => exact .inl ⟨a, s, rfl, h⟩
  | exc c as s => cases h; exact .inr ⟨c, as, rfl, rfl⟩
  | bad => cases h
theorem ss_exX {e : Expr} {i : Ir.EX} {pos : Pos} (h : SX X C W e i) (hs : swapsWith e none pos.line X.env = pure false := by rfl) : SS X C W (.Expr e pos) (.exX i) := ps_imp (ps_expr h hs) fun D σ H ⟨ρ, env, st, o, st', rs, re, ev, k⟩ => by
  simp only [Ir.exec] at ev
  rcases catch_ok ev with ⟨v, s1, e1, ev⟩ | ⟨c, as, e1, rfl⟩
  · cases ev
    exact ⟨ρ, env, st, _, rs, re, e1, fun ρ1 H1 x x1 rs1 rx => k ρ1 H1 σ x1 rs1 (re.mono x1)⟩
  · exact ⟨ρ, env, st, _, rs, re, e1, fun ρ1 H1 cls d x1 rs1 rx => k ρ1 H1 σ cls d x1 rs1 (re.mono x1) rx⟩
theorem exm_refl {K : PySem.W.Frag} {S : Addr} (hb : PySem.W.subIn K (.ref S) (.type "BaseException") = some true) (hi : PySem.W.isClsIn K S = true) (ht : PySem.W.typeIn K (.ref S) = some (.type "type")) (hs : PySem.W.subIn K (.ref S) (.ref S) = some true) : PySem.W.exmOne K (.ref S) (.ref S) = some true := by
  have hi' : (PySem.W.clsIn K S).isSome = true := hi
  have c1 : (PySem.W.subIn K (.ref S) (.type "BaseException") == some true) = true := by rw [hb] <;> rfl
  have c2 : ((PySem.W.clsIn K S).isSome && PySem.W.typeIn K (.ref S) == some (.type "type")) = true := by rw [hi', ht] <;> rfl
  unfold PySem.W.exmOne
  first
    | rw [if_pos c1, if_pos c2]; exact hs
    | simp only [c1, c2, if_true]; exact hs
    | exact (if_pos c1).trans ((if_pos c2).trans hs)
/-! ### a list turned round -/
theorem RDs.reverse {ρ : Rho} {K : PySem.W.Frag} {H : Hp} : ∀ {xs : List Ir.D} {ys : List V}, RDs ρ K H xs ys → RDs ρ K H xs.reverse ys.reverse
  | _, _, .nil => .nil
  | _, _, .cons h r => by
    simp only [List.reverse_cons]
    exact (RDs.reverse r).append (.cons h .nil)
theorem sn_rev {e : Expr} {ie : Ir.Ex} {k : Nat} {p1 p2 p3 pos : Pos} (h : SE X C e ie) : SN X C (.Subscript e (.Slice none none (some (.UnaryOp .USub (.Constant (.int 1) k p1) p2)) p3) pos) (.rev ie) := by
  refine pe_imp (pe_revL h) fun σ H Q ⟨ρ, env, st, xs, st', rs, re, ev, k⟩ => ?_
  simp only [Ir.eval] at ev
  obtain ⟨x, s1, e1, ev⟩ := bok ev
  obtain ⟨q, e2, ev⟩ := ook ev
  obtain ⟨r, e3, ev⟩ := ook ev
  cases ev
  refine ⟨ρ, env, st, x, _, rs, re, e1, fun ρ1 H1 X1 x1 rs1 rx => ?_⟩
  have vd := VD.deref rs1 rx e2
  cases q <;> simp only [Ir.revV, reduceCtorEq] at e3
  · rename_i zs
    cases e3
    obtain ⟨a, ys, rfl, t, z, r⟩ := vd
    exact ⟨a, ys, rfl, SqL.of t, fun p hp => sn_fin x1 rs1 r.reverse (by rw [List.length_reverse]; exact z) hp k⟩
theorem is_rev {ie : Ir.Ex} : ∀ env st v st', Ir.eval C (.rev ie) env st = .ok v st' → ∃ xs, v = .d (.lst xs) := fun env st v st' ev => by
  simp only [Ir.eval] at ev
  obtain ⟨x, s1, e1, ev⟩ := bok ev
  obtain ⟨q, e2, ev⟩ := ook ev
  obtain ⟨r, e3, ev⟩ := ook ev
  cases ev
  cases q <;> simp only [Ir.revV, reduceCtorEq] at e3
  cases e3
  exact ⟨_, rfl⟩
end Snd

namespace Snd
open PySem PySem.Spec PyProof.Rows L2
/-! ### set(x), x a list of ints -/
abbrev Kept (g h : Heap) : Prop := ∀ b u, g.get? b = some u → h.get? b = some u
section
variable {P : Program} {w : World} {A : Around} {E : Value → Shared → Prop} {t : Shared}
end
section
variable {X : Cx} {C : Ir.Calls}
/-! ### a raising function called where it does not raise -/
end
end Snd

namespace HT
open PySem PySem.Spec PyProof.Rows
/-! ### t[::-1] -/
section
variable {prog : Program} {w : World} {A : Around} {E : Value → Shared → Prop} {s : Shared}
end
end HT
namespace Snd
open PySem PySem.Spec PyProof.Rows L2
variable {X : Cx} {C : Ir.Calls}
/-! ### max(xs, default=d) -/
end Snd

namespace Snd
open PySem PySem.Spec PyProof.Rows L2
/-! ### objects: fields, methods, lists and dicts that live in the arena -/
theorem getO_inv {st : Ir.Store} {v : Ir.Val} {n : Nat} {o : Ir.Obj} (h : Ir.getO st v = some (n, o)) : v = .d (.oid n) ∧ ∃ os, Ir.arenaOf st = some os ∧ os[n]? = some o := by
  unfold Ir.getO at h
  split at h
  · rename_i m
    split at h
    · rename_i os ho
      simp only [Option.map_eq_some_iff, Prod.mk.injEq] at h
      obtain ⟨o', h1, rfl, rfl⟩ := h
      exact ⟨rfl, os, ho, h1⟩
    · cases h
  · cases h
theorem putO_eq {st : Ir.Store} {os : List Ir.Obj} (h : Ir.arenaOf st = some os) (n : Nat) (o : Ir.Obj) : Ir.putO st n o = st.set 0 (.arena (os.set n o)) := by
  unfold Ir.putO; rw [h]
theorem obj_at {ρ : Rho} {K : PySem.W.Frag} {H : Hp} {st : Ir.Store} {v : Ir.Val} {x : V} {n : Nat} {o : Ir.Obj} (rs : RS ρ K st H) (r : RV ρ K H v x) (h : Ir.getO st v = some (n, o)) : ∃ a os, x = .ref a ∧ ρ.ob[n]? = some a ∧ Ir.arenaOf st = some os ∧ RO ρ K H a o := by
  obtain ⟨rfl, os, h1, h2⟩ := getO_inv h
  obtain ⟨a, h3, h4⟩ := rs.getO h1 h2
  have r : RD ρ K H (.oid n) x := r
  cases r with
  | oid q => rw [h3] at q; cases q; exact ⟨a, os, rfl, h3, h1, h4⟩
section
variable {ρ : Rho} {K : PySem.W.Frag} {H : Hp}
theorem RFs.length : ∀ {fs : List (String × Ir.D)} {gs : List (Str × V)}, RFs ρ K H fs gs → fs.length = gs.length
  | _, _, .nil => rfl
  | _, _, .cons _ r => congrArg (· + 1) r.length
theorem RFs.look {f : String} : ∀ {fs : List (String × Ir.D)} {gs : List (Str × V)}, RFs ρ K H fs gs → (Ir.lookF f fs = none ∧ gs.lookup (Str.ofString f) = none) ∨ ∃ d v, Ir.lookF f fs = some d ∧ gs.lookup (Str.ofString f) = some v ∧ RD ρ K H d v
  | _, _, .nil => .inl ⟨rfl, rfl⟩
  | _, _, .cons (f := g) (x := x) (y := y) h r => by
    have hb := ofString_beq f g
    by_cases e : f = g
    · subst e
      refine .inr ⟨x, y, ?_, ?_, h⟩
      · simp [Ir.lookF]
      · simp [List.lookup]
    · have hb : (Str.ofString f == Str.ofString g) = false := by rw [hb]; simpa using e
      rcases RFs.look (f := f) r with ⟨h1, h2⟩ | ⟨d, v, h1, h2, h3⟩
      · exact .inl ⟨by simp [Ir.lookF, e, h1], by simp [List.lookup, hb, h2]⟩
      · exact .inr ⟨d, v, by simp [Ir.lookF, e, h1], by simp [List.lookup, hb, h2], h3⟩
theorem RFs.put {f : String} {d : Ir.D} {v : V} (h : RD ρ K H d v) : ∀ {fs : List (String × Ir.D)} {gs : List (Str × V)}, RFs ρ K H fs gs → RFs ρ K H (Ir.putFd f d fs) (L2.putF (Str.ofString f) v gs)
  | _, _, .nil => .cons h .nil
  | _, _, .cons (f := g) q r => by
    unfold Ir.putFd L2.putF
    by_cases e : g = f
    · subst e
      simp only [if_true]
      exact .cons h r
    · have : ¬ Str.ofString g = Str.ofString f := fun z => e (ofString_inj z)
      rw [if_neg e, if_neg this]
      exact .cons q (RFs.put h r)
end
/-- the facts of a class -/
def ClsF (K : PySem.W.Frag) (c : String) (fs : List String) : Prop := ∃ C, CN K c C ∧ Cls K C ∧ ∀ f ∈ fs, NoAttr K C (Str.ofString f)
variable {X : Cx} {C : Ir.Calls} {W : WX}
theorem fldV_inv {st : Ir.Store} {v : Ir.Val} {c f : String} {d : Ir.D} (h : Ir.fldV st v c f = some d) : ∃ n fs, Ir.getO st v = some (n, .inst c fs) ∧ Ir.lookF f fs = some d := by
  unfold Ir.fldV at h
  split at h
  · rename_i n c' fs hg
    split at h
    · rename_i e; subst e; exact ⟨_, _, hg, h⟩
    · cases h
  · cases h
theorem setFV_inv {st s' : Ir.Store} {v : Ir.Val} {c f : String} {d : Ir.D} (h : Ir.setFV st v c f d = some s') : ∃ n fs, Ir.getO st v = some (n, .inst c fs) ∧ fs.length < 1000 ∧ s' = Ir.putO st n (.inst c (Ir.putFd f d fs)) := by
  unfold Ir.setFV at h
  split at h
  · rename_i n c' fs hg
    split at h
    · rename_i e
      obtain ⟨e1, e2⟩ := e
      subst e1
      cases h
      exact ⟨_, _, hg, e2, rfl⟩
    · cases h
  · cases h
theorem se_fld {c f : String} {L : List String} {o : Expr} {io : Ir.Ex} {pos : Pos} (cf : ClsF X.K c L) (hf : f ∈ L) (h : SE X C o io) (hb : attributeBase o (Str.ofString f) X.env (eval o X.env) = eval o X.env := by rfl) : SE X C (.Attribute o (Str.ofString f) pos) (.fld c io f) := by
  obtain ⟨Cc, n1, cl, na⟩ := cf
  refine pe_imp (pe_fld h hb) fun σ H Q ⟨ρ, env, st, v, st', rs, re, ev, k⟩ => ?_
  simp only [Ir.eval] at ev
  obtain ⟨x, s1, e1, ev⟩ := bok ev
  obtain ⟨d, e2, ev⟩ := ook ev
  cases ev
  refine ⟨ρ, env, st, x, _, rs, re, e1, fun ρ1 H1 X1 x1 rs1 rx => ?_⟩
  obtain ⟨n, fs, hg, hl⟩ := fldV_inv e2
  obtain ⟨a, os, rfl, ha, hA, ⟨C', dx, gs, hn, hH, hF⟩⟩ := obj_at rs1 rx hg
  obtain rfl := hn.inj n1
  rcases hF.look (f := f) with ⟨z, _⟩ | ⟨d', w, z1, z2, z3⟩
  · rw [hl] at z; cases z
  · rw [hl] at z1; cases z1
    exact ⟨a, C', dx, gs, w, rfl, hH, cl, na f hf, z2, k ρ1 H1 w x1 rs1 z3⟩
/-- an object's new content -/
theorem put_obj {ρ : Rho} {K : PySem.W.Frag} {st : Ir.Store} {H : Hp} (rs : RS ρ K st H) {os : List Ir.Obj} (hA : Ir.arenaOf st = some os) {n : Nat} {a : Addr} (ha : ρ.ob[n]? = some a) {u : HO} {o : Ir.Obj} (q : RO ρ K (upd H a u) a o) : Ext ρ H ρ (upd H a u) ∧ RS ρ K (Ir.putO st n o) (upd H a u) := by
  rw [putO_eq hA]
  exact ⟨Ext.writeO rs ha u, rs.writeO hA ha q⟩
theorem ss_setf {c f : String} {L : List String} {o e : Expr} {io ie : Ir.Ex} {pos pos' : Pos} (cf : ClsF X.K c L) (hf : f ∈ L) (he : SE X C e ie) (ho : SE X C o io) (hs : swapsWith e (some (.Attribute o (Str.ofString f) pos')) pos.line X.env = pure false := by rfl) :
    SS X C W (.Assign [.Attribute o (Str.ofString f) pos'] e pos) (.setf c io f ie) := by
  obtain ⟨Cc, n1, cl, na⟩ := cf
  refine ps_imp (ps_fld ho he hs) fun D σ H ⟨ρ, env, st, ou, st', rs, re, ev, k⟩ => ?_
  simp only [Ir.exec] at ev
  obtain ⟨v, s1, e1, ev⟩ := bok ev
  obtain ⟨x, s2, e2, ev⟩ := bok ev
  obtain ⟨d, e3, ev3⟩ := ook ev
  clear ev
  obtain ⟨s4, e4, ev4⟩ := ook ev3
  clear ev3
  obtain rfl := asD_ok e3
  cases ev4
  refine ⟨ρ, env, st, _, s1, rs, re, e1, fun ρ1 H1 V1 x1 rs1 rv => ⟨ρ1, env, s1, _, s2, rs1, re.mono x1, e2, fun ρ2 H2 O x2 rs2 ro => ?_⟩⟩
  obtain ⟨n, fs, hg, hl, rfl⟩ := setFV_inv e4
  obtain ⟨a, os, rfl, ha, hA, ⟨C', dx, gs, hn, hH, hF⟩⟩ := obj_at rs2 ro hg
  obtain rfl := hn.inj n1
  have w : Ext ρ2 H2 ρ2 (upd H2 a (.ins C' dx (L2.putF (Str.ofString f) V1 gs))) := .writeO rs2 ha _
  have rw' : RD ρ2 X.K _ d V1 := (RD.mono x2 rv)
  obtain ⟨w1, w2⟩ := put_obj (o := .inst c (Ir.putFd f d fs)) rs2 hA ha ⟨C', dx, _, hn, upd_same, (RFs.map (fun h => RD.mono w h) hF).put (RD.mono w rw')⟩
  exact ⟨a, C', dx, gs, rfl, hH, cl, na f hf, by rw [← hF.length]; exact hl, k ρ2 _ σ ((x1.trans x2).trans w1) w2 ((re.mono (x1.trans x2)).mono w1)⟩
theorem ss_augf {c f : String} {L : List String} {o e : Expr} {io ie : Ir.Ex} {op : Operator} {p : Ir.Op} {g : Int → Int → Int} {pos pos' : Pos} (cf : ClsF X.K c L) (hf : f ∈ L) (hop : InOp X op (ipI g)) (hg : ∀ i j r, Ir.augI p i j = some r → r = g i j) (he : SE X C e ie) (ho : SE X C o io) :
    SS X C W (.AugAssign (.Attribute o (Str.ofString f) pos') op e pos) (.augf c io f p ie) := by
  obtain ⟨Cc, n1, cl, na⟩ := cf
  refine ps_imp (ps_fldaug ho he hop) fun D σ H ⟨ρ, env, st, ou, st', rs, re, ev, k⟩ => ?_
  simp only [Ir.exec] at ev
  obtain ⟨x, s1, e1, ev1⟩ := bok ev
  clear ev
  obtain ⟨ad, e2, ev2⟩ := ook ev1
  clear ev1
  obtain ⟨i, e3, ev3⟩ := ook ev2
  clear ev2
  obtain ⟨y, s4, e4, ev4⟩ := bok ev3
  clear ev3
  obtain ⟨j, e5, ev5⟩ := ook ev4
  clear ev4
  obtain ⟨r, e6, ev6⟩ := ook ev5
  clear ev5
  obtain ⟨s7, e7, ev7⟩ := ook ev6
  clear ev6
  have e3 := asI_ok e3
  cases e3
  obtain rfl := asI_ok e5
  obtain rfl := hg _ _ _ e6
  cases ev7
  refine ⟨ρ, env, st, x, _, rs, re, e1, fun ρ1 H1 X1 x1 rs1 rx => ?_⟩
  obtain ⟨n, fs, hgo, hl⟩ := fldV_inv e2
  obtain ⟨a, os, rfl, ha, hA, ⟨C', dx, gs, hn, hH, hF⟩⟩ := obj_at rs1 rx hgo
  obtain rfl := hn.inj n1
  rcases hF.look (f := f) with ⟨z, _⟩ | ⟨d', w, z1, z2, z3⟩
  · rw [hl] at z; cases z
  rw [hl] at z1; cases z1
  refine ⟨a, C', dx, gs, w, rfl, hH, cl, na f hf, z2, ρ1, env, _, _, _, rs1, re.mono x1, e4, fun ρ2 H2 Y x2 rs2 ry => ⟨i, j, RD.int_inv z3, RD.int_inv ry, ?_⟩⟩
  obtain ⟨n', fs', hg', hl', rfl⟩ := setFV_inv e7
  obtain ⟨a', os', e', ha', hA', ⟨C2, dx', gs', hn', hH', hF'⟩⟩ := obj_at rs2 (rx.mono x2) hg'
  cases e'
  obtain rfl := hn'.inj hn
  have w : Ext ρ2 H2 ρ2 (upd H2 a (.ins C2 dx' (L2.putF (Str.ofString f) (.int (g i j)) gs'))) := .writeO rs2 ha' _
  obtain ⟨w1, w2⟩ := put_obj (o := .inst c (Ir.putFd f (.int (g i j)) fs')) rs2 hA' ha' ⟨C2, dx', _, hn', upd_same, (RFs.map (fun h => RD.mono w h) hF').put (.int _)⟩
  exact ⟨dx', gs', hH', by rw [← hF'.length]; exact hl', k ρ2 _ σ ((x1.trans x2).trans w1) w2 ((re.mono (x1.trans x2)).mono w1)⟩
/-! ### new objects -/
theorem tI_newO {K : PySem.W.Frag} {ir : Ir.Ex} : ∀ σ H Q, tI C K (.newO ir) σ H Q → tN C K ir σ H Q := by
  intro σ H Q ⟨ρ, env, st, v, st', rs, re, ev, k⟩
  simp only [Ir.eval] at ev
  obtain ⟨x, s1, e1, ev⟩ := bok ev
  split at ev
  · rename_i xs
    unfold Ir.pushO at ev
    split at ev
    · rename_i os hA
      cases ev
      refine ⟨ρ, env, st, xs, s1, rs, re, e1, fun ρ' H' a ys x rs' ha hr hh z r => ?_⟩
      have hn : a ∉ ρ.res := fun q => rs.fresh ha (.inr (.inl q))
      have sub : ∀ b, Rho.own ⟨ρ'.ix, ρ.res, ρ'.ob ++ [a]⟩ b → ρ'.own b := fun b q => by
        rcases q with q | q | q
        · exact .inl q
        · exact .inr (.inl (x.rs b q))
        · rcases List.mem_append.mp q with q | q
          · exact .inr (.inr q)
          · simp at q; subst q; exact .inr (.inl hr)
      have obs : ∀ (n : Nat) (b : Addr), ρ'.ob[n]? = some b → (ρ'.ob ++ [a])[n]? = some b := fun n b q => by rw [List.getElem?_append_left (List.getElem?_eq_some_iff.mp q).1]; exact q
      have hlen := (rs'.ra.obj os hA).1
      exact k ⟨ρ'.ix, ρ.res, ρ'.ob ++ [a]⟩ _ _ (x.objOf ha hn) (rs'.objOf hA x.rs hr hn ⟨ys, hh, z, RDs.map (fun h => RD.sub sub obs h) r⟩) (show RD _ K H' (.oid os.length) (.ref a) from .oid (by rw [← hlen]; simp))
    · cases ev
  · cases ev
theorem se_newO {e : Expr} {ir : Ir.Ex} (h : SN X C e ir) : SE X C e (.newO ir) := pe_imp h tI_newO
theorem se_newOD {pos : Pos} : SE X C (.Dict [] [] pos) .newOD := by
  refine pe_imp pe_dnewK fun σ H Q ⟨ρ, env, st, v, st', rs, re, ev, k⟩ => fun p hp => ?_
  simp only [Ir.eval] at ev
  unfold Ir.pushO at ev
  split at ev
  · rename_i os hA
    cases ev
    have hlen := (rs.ra.obj os hA).1
    exact k (ρ.pushO p) _ _ (.pushO rs hp _) (rs.pushO hA hp ⟨[], upd_same, Nat.zero_le _, .nil⟩) (show RD _ X.K _ (.oid os.length) (.ref p) from .oid (by rw [← hlen]; simp [Rho.pushO]))
  · cases ev
/-! ### methods -/
theorem methOk_inv {st : Ir.Store} {v : Ir.Val} {c m : String} (h : Ir.methOk st v c m = true) : ∃ n fs, Ir.getO st v = some (n, .inst c fs) ∧ Ir.lookF m fs = none := by
  unfold Ir.methOk at h
  split at h
  · rename_i n c' fs hg
    rw [Bool.and_eq_true] at h
    have := of_decide_eq_true h.1
    subst this
    exact ⟨_, _, hg, by simpa using h.2⟩
  · cases h
theorem meth_at {ρ : Rho} {K : PySem.W.Frag} {H : Hp} {st : Ir.Store} {v : Ir.Val} {x : V} {c m : String} {Cc : Addr} (rs : RS ρ K st H) (r : RV ρ K H v x) (n1 : CN K c Cc) (h : Ir.methOk st v c m = true) : ∃ a dx gs, x = .ref a ∧ H a = some (.ins Cc dx gs) ∧ gs.lookup (Str.ofString m) = none := by
  obtain ⟨n, fs, hg, hl⟩ := methOk_inv h
  obtain ⟨a, os, rfl, ha, hA, ⟨C', dx, gs, hn, hH, hF⟩⟩ := obj_at rs r hg
  obtain rfl := hn.inj n1
  rcases hF.look (f := m) with ⟨_, z⟩ | ⟨d', w, z1, _, _⟩
  · exact ⟨a, dx, gs, rfl, hH, z⟩
  · rw [hl] at z1; cases z1
theorem se_meth {T : Ir.Tab} {KW : List Kw} {n : Nat} {c m : String} {fn : Ir.Fn} {e o : Expr} {es : List Expr} {io : Ir.Ex} {is : List Ir.Ex} {pos apos : Pos} {pl : Sem Bool} (ft : FT T KW n X.prog X.w X.K X.mg X.base) (hT : T (c ++ "." ++ m) = some fn) (hr : Room (n + 2) X.A) (ho : SE X (Ir.callN T n) o io) (hs : SEs X (Ir.callN T n) (e :: es) is)
    (hx : fn.x = false := by rfl) (hkd : fn.k = .mt c m := by rfl) (hst : starEach (e :: es) X.env = (false, eval e X.env) :: starEach es X.env := by rfl) (hpl : (backTo pos (starEach es X.env)).any (·.1) = false := by rfl)
    (ht : eval (.Call (.Attribute o (Str.ofString m) apos) (e :: es) [] pos) X.env = (do
      let ov ← eval o X.env
      standAt apos.atName
      let (f, first) ← holding [ov] (getMethod ov (Str.ofString m) pl)
      callWith pos f first (backTo pos (starEach (e :: es) X.env)) (backToKw pos (keywordEach [] X.env))) := by rfl) :
    SE X (Ir.callN T n) (.Call (.Attribute o (Str.ofString m) apos) (e :: es) [] pos) (.meth c m io is) := by
  obtain ⟨Cc, a, fd, ps, n1, cl, hm, F, hb⟩ := ft.okM _ fn hT hx c m hkd
  refine pe_imp (pe_meth ho cl hm F hr hb .nil pass0 hs hst hpl ht) fun σ H Q ⟨ρ, env, st, v, st', rs, re, ev, k⟩ => ?_
  simp only [Ir.eval] at ev
  obtain ⟨x, s1, e1, ev⟩ := bok ev
  split at ev
  · rename_i hok
    obtain ⟨vs, s2, e2, ev⟩ := bok ev
    refine ⟨ρ, env, st, x, s1, rs, re, e1, fun ρ1 H1 X1 x1 rs1 rx => ?_⟩
    obtain ⟨b, dx, gs, rfl, hH, hl⟩ := meth_at rs1 rx n1 hok
    refine ⟨b, dx, gs, rfl, hH, hl, ρ1, env, s1, vs, s2, rs1, re.mono x1, e2, fun ρ2 H2 XS x2 rs2 rxs => ?_⟩
    show spI T n X.K (c ++ "." ++ m) (.ref b :: (XS ++ [])) H2 Q E0
    rw [List.append_nil]
    exact ⟨ρ2, s2, x :: vs, v, st', rs2, .cons (rx.mono x2) rxs, ev, fun ρ' H' y x3 rs3 r3 => k ρ' H' y ((x1.trans x2).trans x3) rs3 r3⟩
  · cases ev
theorem se_meth0 {T : Ir.Tab} {KW : List Kw} {n : Nat} {c m : String} {fn : Ir.Fn} {o : Expr} {io : Ir.Ex} {pos apos : Pos} {pl : Sem Bool} (ft : FT T KW n X.prog X.w X.K X.mg X.base) (hT : T (c ++ "." ++ m) = some fn) (hr : Room (n + 2) X.A) (ho : SE X (Ir.callN T n) o io)
    (hx : fn.x = false := by rfl) (hkd : fn.k = .mt c m := by rfl)
    (ht : eval (.Call (.Attribute o (Str.ofString m) apos) [] [] pos) X.env = (do
      let ov ← eval o X.env
      standAt apos.atName
      let (f, first) ← holding [ov] (getMethod ov (Str.ofString m) pl)
      callWith pos f first (backTo pos (starEach [] X.env)) (backToKw pos (keywordEach [] X.env))) := by rfl) :
    SE X (Ir.callN T n) (.Call (.Attribute o (Str.ofString m) apos) [] [] pos) (.meth c m io []) := by
  obtain ⟨Cc, a, fd, ps, n1, cl, hm, F, hb⟩ := ft.okM _ fn hT hx c m hkd
  refine pe_imp (pe_meth0 ho cl hm F hr hb .nil pass0 ht) fun σ H Q ⟨ρ, env, st, v, st', rs, re, ev, k⟩ => ?_
  simp only [Ir.eval] at ev
  obtain ⟨x, s1, e1, ev⟩ := bok ev
  split at ev
  · rename_i hok
    simp only [Ir.evals, Ir.Res.bind_ok] at ev
    refine ⟨ρ, env, st, x, s1, rs, re, e1, fun ρ1 H1 X1 x1 rs1 rx => ?_⟩
    obtain ⟨b, dx, gs, rfl, hH, hl⟩ := meth_at rs1 rx n1 hok
    exact ⟨b, dx, gs, rfl, hH, hl, show spI T n X.K (c ++ "." ++ m) [.ref b] H1 Q E0 from ⟨ρ1, s1, [x], v, st', rs1, .cons rx .nil, ev, fun ρ' H' y x3 rs3 r3 => k ρ' H' y (x1.trans x3) rs3 r3⟩⟩
  · cases ev
end Snd

namespace Snd
open PySem PySem.Spec PyProof.Rows L2
variable {X : Cx} {C : Ir.Calls} {W : WX}
/-! ### a class that is called -/
theorem evals_vars {env : Ir.Env} {st : Ir.Store} : ∀ (vs : List Ir.Val) (k : Nat), (∀ i, i < vs.length → env[k + i]? = some (vs[i]?)) → Ir.evals C ((List.range' k vs.length).map Ir.Ex.var) env st = .ok vs st
  | [], k, _ => by simp [Ir.evals]
  | v :: vs, k, h => by
    have h0 := h 0 (by simp)
    have ih := evals_vars (env := env) (st := st) vs (k + 1) fun i hi => by
      have := h (i + 1) (by simpa using hi)
      rw [show k + 1 + i = k + (i + 1) by omega]
      simpa using this
    simp at h0
    simp [List.range'_succ, Ir.evals, Ir.eval, h0, ih]
theorem ctor_inv {c : String} {p : Nat} {vs : List Ir.Val} {st st' : Ir.Store} {v : Ir.Val} (ev : Ir.runFn C (ctorFn c p) vs st = .ok v st') : ∃ os s2, Ir.arenaOf st = some os ∧ C (c ++ ".__init__") (.d (.oid os.length) :: vs) (st.set 0 (.arena (os ++ [.inst c []]))) = .ok (.d .non) s2 ∧ v = .d (.oid os.length) ∧ st' = s2.take st.length := by
  unfold Ir.runFn at ev
  split at ev
  · rename_i hc
    have hl : vs.length = p := hc.1
    obtain ⟨o, s1, e1, ev1⟩ := bok ev
    clear ev
    have e1 := Ir.noexc_inv e1
    have hE : vs.map some ++ List.replicate ((ctorFn c p).many - (ctorFn c p).pars) none = vs.map some ++ [none, none] := by
      have : (ctorFn c p).many - (ctorFn c p).pars = 2 := by simp [ctorFn]
      rw [this]; rfl
    rw [hE] at e1
    simp only [ctorFn, Ir.execs_cons, Ir.exec_asg, Ir.eval_newI] at e1
    unfold Ir.pushO at e1
    cases hA : Ir.arenaOf st with
    | none => rw [hA] at e1; cases e1
    | some os =>
      rw [hA] at e1
      simp only [Ir.Res.bind_ok, Ir.Tg.putV, Ir.optR_some, Ir.eval_call, Ir.evals_cons, Ir.eval_var] at e1
      have hp : ((vs.map some ++ [none, none]).set p (some (Ir.Val.d (.oid os.length))))[p]? = some (some (.d (.oid os.length))) := by
        rw [List.getElem?_set_self (by simp; omega)]
      rw [hp] at e1
      simp only [Ir.Res.bind_ok] at e1
      have hev := evals_vars (C := C) (env := (vs.map some ++ [none, none]).set p (some (Ir.Val.d (.oid os.length)))) (st := st.set 0 (.arena (os ++ [.inst c []]))) vs 0 fun i hi => by
        rw [Nat.zero_add, List.getElem?_set_ne (by omega), List.getElem?_append_left (by simpa using hi), List.getElem?_map, List.getElem?_eq_getElem hi]
        rfl
      rw [hl, ← List.range_eq_range'] at hev
      rw [hev] at e1
      simp only [Ir.Res.bind_ok] at e1
      cases hr : C (c ++ ".__init__") (.d (.oid os.length) :: vs) (st.set 0 (.arena (os ++ [.inst c []]))) with
      | bad => rw [hr] at e1; cases e1
      | exc cc as s => rw [hr] at e1; cases e1
      | ok w s2 =>
        rw [hr] at e1
        simp only [Ir.Res.bind_ok, Ir.optR_some, Ir.exec_ite, Ir.eval_cmp, Ir.eval_var, Ir.eval_con] at e1
        have hq : (((vs.map some ++ [none, none]).set p (some (Ir.Val.d (.oid os.length)))).set (p + 1) (some w))[p + 1]? = some (some w) := by
          rw [List.getElem?_set_self (by simp; omega)]
        have hq0 : (((vs.map some ++ [none, none]).set p (some (Ir.Val.d (.oid os.length)))).set (p + 1) (some w))[p]? = some (some (.d (.oid os.length))) := by
          rw [List.getElem?_set_ne (by omega)]; exact hp
        rw [hq] at e1
        simp only [Ir.Res.bind_ok] at e1
        have hw : w = .d .non := by
          cases w with
          | ref n => simp [Ir.cmpV, Ir.isNon, Ir.asB] at e1
          | d x => cases x <;> simp [Ir.cmpV, Ir.isNon, Ir.asB] at e1 <;> rfl
        subst hw
        simp [Ir.cmpV, Ir.isNon, Ir.asB, hq0] at e1
        obtain ⟨rfl, rfl⟩ := e1
        simp only [Ir.leave] at ev1
        cases ev1
        exact ⟨os, _, rfl, hr, rfl, rfl⟩
  · cases ev
theorem se_make {T : Ir.Tab} {KW : List Kw} {n : Nat} {c : String} {fn : Ir.Fn} {e : Expr} {es : List Expr} {is : List Ir.Ex} {p pos : Pos} (ft : FT T KW n X.prog X.w X.K X.mg X.base) (hT : T c = some fn) (hr : Room (n + 2) X.A) (hs : SEs X (Ir.callN T n) (e :: es) is) (hg : Gl X (Str.ofString c) := by rfl) (hkd : fn.k = .ct c := by rfl)
    (hdb : (Str.ofString c == ("__debug__" : Str)) = false := by decide) (he : starEach (e :: es) X.env = (false, eval e X.env) :: starEach es X.env := by rfl) (hpl : (backTo pos (starEach es X.env)).any (·.1) = false := by rfl) :
    SE X (Ir.callN T n) (.Call (.Name (Str.ofString c) p) (e :: es) [] pos) (.call c is) := by
  obtain ⟨Cc, a, fd, ps, hm, n1, M, F, hb, _, hfn⟩ := ft.okC c fn hT c hkd
  cases n with
  | zero =>
    refine ⟨fun pins s σ H Q I h => ?_⟩
    obtain ⟨ρ, env, st, v, st', rs, re, ev, k⟩ := h
    simp only [Ir.eval] at ev
    obtain ⟨vs, s1, e1, ev⟩ := bok ev
    simp only [Ir.callN] at ev
    cases ev
  | succ n =>
    have F := F n rfl
    refine pe_imp (pe_make M F hr hg hm hb .nil pass0 hs hdb he hpl) fun σ H Q ⟨ρ, env, st, v, st', rs, re, ev, k⟩ => ?_
    simp only [Ir.eval] at ev
    obtain ⟨vs, s1, e1, ev⟩ := bok ev
    simp only [Ir.callN, hT] at ev
    rw [hfn] at ev
    obtain ⟨os, s2, hA, hc, rfl, rfl⟩ := ctor_inv ev
    refine ⟨ρ, env, st, vs, s1, rs, re, e1, fun ρ1 H1 XS x1 rs1 rx => fun x dx hx hdx hne => ?_⟩
    show spI T n X.K (c ++ ".__init__") (.ref x :: (XS ++ [])) _ _ E0
    rw [List.append_nil]
    have xA : Ext ρ1 H1 ρ1 (upd H1 dx (.own x)) := .grow rs1 hdx _
    have rA := rs1.grow hdx (.own x)
    have hxA : upd H1 dx (.own x) x = none := by rw [upd_ne (Ne.symm hne)]; exact hx
    have xB := Ext.pushO rA hxA (.ins Cc dx [])
    have rB := rA.pushO (c := .inst c []) hA hxA (o := .ins Cc dx []) ⟨Cc, dx, [], n1, upd_same, .nil⟩
    have hlen := (rs1.ra.obj os hA).1
    have hob : (ρ1.pushO x).ob[os.length]? = some x := by rw [← hlen]; simp [Rho.pushO]
    refine ⟨ρ1.pushO x, _, _, _, s2, rB, .cons (x := .d (.oid os.length)) (RD.oid hob) (rx.mono (xA.trans xB)), hc, fun ρ2 H2 y x2 rs2 ry => ⟨RD.non_inv ry, ?_⟩⟩
    have xx := (xA.trans xB).trans x2
    have hl1 : s1.length = ρ1.ix.length := rs1.len
    obtain ⟨r1, r2, _⟩ := take_rs xx rs2
    rw [hl1] at k
    exact k _ H2 (.ref x) (x1.trans r2) r1 (RD.oid (x2.ob _ _ hob))
/-! ### methods that may raise -/
def tMethS (C : Addr) (m : Str) (sp : Sp) (E : L2.St → XK) (ta : TE) (t : TA) : TE := fun σ H Q => ta σ H fun x H1 => ∃ a dx fs, x = .ref a ∧ H1 a = some (.ins C dx fs) ∧ fs.lookup m = none ∧ t σ H1 fun vs H2 => sp (x :: vs) H2 Q (E σ)
theorem pe_methS {k : Nat} {f Cc : Addr} {fd : FuncData} {ps : List Str} {sp : Sp} {E : L2.St → XK} {m : Str} {pos apos : Pos} {e o : Expr} {es : List Expr} {ta : TE} {t : TA} {pl : Sem Bool} (he : PE X o ta) (c : Cls X.K Cc) (hm : Meth X.K Cc m f)
    (F : FnOk X.prog X.w X.K X.mg X.base (CX X.prog X.w) k f fd ps sp) (hr : Room k X.A) (hb : Binds X.K fd ps []) (hx : ∀ σ, PassesAt (CX X.prog X.w) X σ (E σ)) (ha : PA X (e :: es) t)
    (hst : starEach (e :: es) X.env = (false, eval e X.env) :: starEach es X.env) (hpl : (backTo pos (starEach es X.env)).any (·.1) = false)
    (ht : eval (.Call (.Attribute o m apos) (e :: es) [] pos) X.env = (do
      let ov ← eval o X.env
      standAt apos.atName
      let (f, first) ← holding [ov] (getMethod ov m pl)
      callWith pos f first (backTo pos (starEach (e :: es) X.env)) (backToKw pos (keywordEach [] X.env)))) :
    PE X (.Call (.Attribute o m apos) (e :: es) [] pos) (tMethS Cc m sp E ta t) := ⟨fun pins s σ H Q I h =>
  PySem.W.methodCall_KW (pl := pl) (thn (he.run pins s σ H _ I h) fun u s1 ⟨x, H1, I1, rx, a, dx, fs, ex, ea, l, q⟩ => by
    subst ex
    obtain rfl : u = Value.ref a := rx
    exact getmeth_ok I1 ea c hm l (PySem.W.callWith_K (first := [.ref a]) (h₀ := X.base) I.ok.mod.kin hm.kp (thn (ha.run pos pins s1 σ H1 _ I1 q) fun us s2 ⟨vs, H2, I2, r, q2⟩ => ⟨I2.kIn, run_fnS (us := .ref a :: us) (vs := .ref a :: vs) F hr hb (hx σ) I2 (.cons rfl r) q2⟩) hst hpl)) ht⟩
theorem noexc_bind {α β : Type} {r : Ir.Res α} {f : α → Ir.Store → Ir.Res β} {z : Ir.Res β} (h : (Ir.noexc r).bind f = z) (hz : z ≠ .bad) : ∃ a s, r = .ok a s ∧ f a s = z := by
  cases r with
  | ok a s => exact ⟨a, s, rfl, h⟩
  | exc c as s => exact absurd h.symm hz
  | bad => exact absurd h.symm hz
theorem GX.ne {K : PySem.W.Frag} {mg : Str → Option Value} {ρ : Rho} {H : Hp} {Q : VK} {E : XK} {r : Ir.Res Ir.Val} (h : GX K mg ρ H Q E r) : r ≠ .bad := fun e => by subst e; exact h
theorem sx_meth {T : Ir.Tab} {KW : List Kw} {n : Nat} {c m : String} {fn : Ir.Fn} {e o : Expr} {es : List Expr} {io : Ir.Ex} {is : List Ir.EX} {pos apos : Pos} {pl : Sem Bool} (tk : Takes X W) (ft : FT T KW n X.prog X.w X.K X.mg X.base) (hT : T (c ++ "." ++ m) = some fn) (hr : Room (n + 2) X.A) (ho : SE X (Ir.callN T n) o io) (hs : SXs X (Ir.callN T n) W (e :: es) is)
    (hx : fn.x = true := by rfl) (hkd : fn.k = .mt c m := by rfl) (hst : starEach (e :: es) X.env = (false, eval e X.env) :: starEach es X.env := by rfl) (hpl : (backTo pos (starEach es X.env)).any (·.1) = false := by rfl)
    (ht : eval (.Call (.Attribute o (Str.ofString m) apos) (e :: es) [] pos) X.env = (do
      let ov ← eval o X.env
      standAt apos.atName
      let (f, first) ← holding [ov] (getMethod ov (Str.ofString m) pl)
      callWith pos f first (backTo pos (starEach (e :: es) X.env)) (backToKw pos (keywordEach [] X.env))) := by rfl) :
    SX X (Ir.callN T n) W (.Call (.Attribute o (Str.ofString m) apos) (e :: es) [] pos) (.meth c m io is) := by
  obtain ⟨Cc, a, fd, ps, n1, cl, hm, F, hb⟩ := ft.okMX _ fn hT hx c m hkd
  refine pe_imp (pe_methS ho cl hm F hr hb (fun σ => passAt tk σ) hs hst hpl ht) fun σ H Q ⟨ρ, env, st, r, rs, re, ev, k⟩ => ?_
  simp only [Ir.evalX] at ev
  obtain ⟨x, s1, e1, ev⟩ := noexc_bind ev k.ne
  by_cases hok : Ir.methOk s1 x c m = true
  · rw [if_pos hok] at ev
    refine ⟨ρ, env, st, x, s1, rs, re, e1, fun ρ1 H1 X1 x1 rs1 rx => ?_⟩
    obtain ⟨b, dx, gs, rfl, hH, hl⟩ := meth_at rs1 rx n1 hok
    refine ⟨b, dx, gs, rfl, hH, hl, ?_⟩
    cases e2 : Ir.evalXs (Ir.callN T n) is env s1 with
    | bad => rw [e2] at ev; simp only [Ir.Res.bind_bad] at ev; subst ev; exact k.elim
    | exc c as s2 =>
      rw [e2] at ev; simp only [Ir.Res.bind_exc] at ev; subst ev
      exact ⟨ρ1, env, s1, _, rs1, re.mono x1, e2, fun ρ2 H2 cls d x2 rs2 r2 => k ρ2 H2 cls d (x1.trans x2) rs2 r2⟩
    | ok vs s2 =>
      rw [e2] at ev
      simp only [Ir.Res.bind_ok] at ev
      exact ⟨ρ1, env, s1, _, rs1, re.mono x1, e2, fun ρ2 H2 XS x2 rs2 rxs => ⟨ρ2, s2, x :: vs, r, rs2, .cons (rx.mono x2) rxs, ev, k.mono (x1.trans x2)⟩⟩
  · rw [if_neg hok] at ev
    subst ev; exact k.elim
end Snd

namespace Snd
open PySem PySem.Spec PyProof.Rows L2
variable {X : Cx} {C : Ir.Calls} {W : WX}
/-! ### lists and dicts of the arena -/
theorem omOk_inv {st : Ir.Store} {v : Ir.Val} (h : Ir.omOk st v = true) : ∃ n xs, Ir.getO st v = some (n, .lst xs) := by
  unfold Ir.omOk at h
  split at h
  · rename_i n xs hg; exact ⟨n, xs, hg⟩
  · cases h
theorem om_ev {m : Ir.Om} {io : Ir.Ex} {is : List Ir.Ex} {env : Ir.Env} {st st' : Ir.Store} {v : Ir.Val} (ev : Ir.eval C (.om m io is) env st = .ok v st') : ∃ x s1 vs s2, Ir.eval C io env st = .ok x s1 ∧ Ir.omOk s1 x = true ∧ Ir.evals C is env s1 = .ok vs s2 ∧ Ir.omV m s2 x vs = .ok v st' := by
  simp only [Ir.eval] at ev
  obtain ⟨x, s1, e1, ev⟩ := bok ev
  split at ev
  · rename_i hk
    obtain ⟨vs, s2, e2, ev⟩ := bok ev
    exact ⟨x, s1, vs, s2, e1, hk, e2, ev⟩
  · cases ev
theorem tyV_obj {ρ : Rho} {K : PySem.W.Frag} {H : Hp} {st : Ir.Store} {v : Ir.Val} {x : V} (rs : RS ρ K st H) (r : RV ρ K H v x) (h : Ir.omOk st v = true) : tyV K "list" x H := by
  obtain ⟨n, xs, hg⟩ := omOk_inv h
  obtain ⟨a, os, rfl, ha, hA, ⟨ys, h1, h2, h3⟩⟩ := obj_at rs r hg
  exact .inl ⟨rfl, ys, SqL.of h1⟩
theorem omA_inv {s2 st' : Ir.Store} {x y v : Ir.Val} (h : Ir.omV .append s2 x [y] = .ok v st') : ∃ n xs d, Ir.getO s2 x = some (n, .lst xs) ∧ y = .d d ∧ xs.length < Ir.LIM ∧ v = .d .non ∧ st' = Ir.putO s2 n (.lst (xs ++ [d])) := by
  unfold Ir.omV at h
  rcases hg : Ir.getO s2 x with _ | ⟨n, o⟩
  · rw [hg] at h; cases h
  · rw [hg] at h
    cases o with
    | lst xs =>
      cases y with
      | ref m => cases h
      | d d =>
        simp only at h
        split at h
        · rename_i hl
          cases h
          exact ⟨n, xs, d, rfl, rfl, hl, rfl, rfl⟩
        · cases h
    | inst c fs => cases h
    | dic kvs => cases h
    | dicT kvs => cases h
theorem omE_inv {s2 st' : Ir.Store} {x y v : Ir.Val} (h : Ir.omV .extend s2 x [y] = .ok v st') : ∃ n xs ds, Ir.getO s2 x = some (n, .lst xs) ∧ y = .d (.lst ds) ∧ xs.length + ds.length ≤ Ir.LIM ∧ v = .d .non ∧ st' = Ir.putO s2 n (.lst (xs ++ ds)) := by
  unfold Ir.omV at h
  rcases hg : Ir.getO s2 x with _ | ⟨n, o⟩
  · rw [hg] at h; cases h
  · rw [hg] at h
    cases o with
    | lst xs =>
      cases y with
      | ref m => cases h
      | d d =>
        cases d with
        | lst ds =>
          simp only at h
          split at h
          · rename_i hl
            cases h
            exact ⟨n, xs, ds, rfl, rfl, hl, rfl, rfl⟩
          · cases h
        | _ => cases h
    | inst c fs => cases h
    | dic kvs => cases h
    | dicT kvs => cases h
theorem omP_inv {s2 st' : Ir.Store} {x v : Ir.Val} (h : Ir.omV .pop s2 x [] = .ok v st') : ∃ n xs y, Ir.getO s2 x = some (n, .lst xs) ∧ xs[xs.length - 1]? = some y ∧ v = .d y ∧ st' = Ir.putO s2 n (.lst xs.dropLast) := by
  unfold Ir.omV at h
  rcases hg : Ir.getO s2 x with _ | ⟨n, o⟩
  · rw [hg] at h; cases h
  · rw [hg] at h
    cases o with
    | lst xs =>
      simp only at h
      split at h
      · rename_i y hy
        cases h
        exact ⟨n, xs, y, rfl, hy, rfl, rfl⟩
      · cases h
    | inst c fs => cases h
    | dic kvs => cases h
    | dicT kvs => cases h
section
variable {o e : Expr} {io ie : Ir.Ex} {apos cpos : Pos}
theorem se_oappend (ho : SE X C o io) (he : SE X C e ie) (hbase : attributeBase o (Str.ofString "append") X.env (eval o X.env) = eval o X.env := by rfl)
    (hfew : ((backTo cpos (starEach [e] X.env)).all (fun x => !x.1) && (backToKw cpos (keywordEach [] X.env)).all (fun x => x.1.isSome) && decide (([e] : List Expr).length + ([] : List Keyword).length + (if ([] : List Keyword).isEmpty then 0 else 1) < 30)) = true := by rfl)
    (hline : (apos.endLine == cpos.line) = true := by rfl) (hs : starEach [e] X.env = (false, eval e X.env) :: starEach [] X.env := by rfl) (hpl : (backTo cpos (starEach [] X.env)).any (·.1) = false := by rfl) :
    SE X C (.Call (.Attribute o (Str.ofString "append") apos) [e] [] cpos) (.om .append io [ie]) := by
  refine pe_imp (pe_bm PySem.F.plainAttrs_list PySem.F.slot_list_append PySem.F.type_list_append mt_append ho (pa_cons he pa_nil hs) hbase hfew hline hs hpl) fun σ H Q ⟨ρ, env, st, v, st', rs, re, ev, k⟩ => ?_
  obtain ⟨x, s1, vs, s2, e1, hk, e2, ev⟩ := om_ev ev
  simp only [Ir.evals] at e2
  obtain ⟨y, s3, e2, e3⟩ := bok e2
  simp only [Ir.Res.bind_ok] at e3
  cases e3
  refine ⟨ρ, env, st, _, s1, rs, re, e1, fun ρ1 H1 X1 x1 rs1 rx => ⟨tyV_obj rs1 rx hk, ρ1, env, s1, y, _, rs1, re.mono x1, e2, fun ρ2 H2 Y x2 rs2 ry => ?_⟩⟩
  obtain ⟨n, xs, d, hg, rfl, hl, rfl, rfl⟩ := omA_inv ev
  obtain ⟨a, os, rfl, ha, hA, ⟨zs, h2, h3, h4⟩⟩ := obj_at rs2 (rx.mono x2) hg
  have hz : zs.length < sizeLine := by rw [← h4.length, ← lim_eq]; exact hl
  refine ⟨a, zs, Y, rfl, rfl, h2, hz, ?_⟩
  have w : Ext ρ2 H2 ρ2 (upd H2 a (.lst (zs ++ [Y]))) := .writeO rs2 ha _
  obtain ⟨w1, w2⟩ := put_obj (o := .lst (xs ++ [d])) rs2 hA ha ⟨_, upd_same, by rw [List.length_append]; exact hz, (h4.mono w).append (.cons (RD.mono w ry) .nil)⟩
  exact k ρ2 _ _ ((x1.trans x2).trans w1) w2 .non
theorem se_oextend (ho : SE X C o io) (he : SE X C e ie) (hbase : attributeBase o (Str.ofString "extend") X.env (eval o X.env) = eval o X.env := by rfl)
    (hfew : ((backTo cpos (starEach [e] X.env)).all (fun x => !x.1) && (backToKw cpos (keywordEach [] X.env)).all (fun x => x.1.isSome) && decide (([e] : List Expr).length + ([] : List Keyword).length + (if ([] : List Keyword).isEmpty then 0 else 1) < 30)) = true := by rfl)
    (hline : (apos.endLine == cpos.line) = true := by rfl) (hs : starEach [e] X.env = (false, eval e X.env) :: starEach [] X.env := by rfl) (hpl : (backTo cpos (starEach [] X.env)).any (·.1) = false := by rfl) :
    SE X C (.Call (.Attribute o (Str.ofString "extend") apos) [e] [] cpos) (.om .extend io [ie]) := by
  refine pe_imp (pe_bm PySem.F.plainAttrs_list PySem.F.slot_list_extend PySem.F.type_list_extend mt_extend ho (pa_cons he pa_nil hs) hbase hfew hline hs hpl) fun σ H Q ⟨ρ, env, st, v, st', rs, re, ev, k⟩ => ?_
  obtain ⟨x, s1, vs, s2, e1, hk, e2, ev⟩ := om_ev ev
  simp only [Ir.evals] at e2
  obtain ⟨y, s3, e2, e3⟩ := bok e2
  simp only [Ir.Res.bind_ok] at e3
  cases e3
  refine ⟨ρ, env, st, _, s1, rs, re, e1, fun ρ1 H1 X1 x1 rs1 rx => ⟨tyV_obj rs1 rx hk, ρ1, env, s1, y, _, rs1, re.mono x1, e2, fun ρ2 H2 Y x2 rs2 ry => ?_⟩⟩
  obtain ⟨n, xs, ds, hg, rfl, hl, rfl, rfl⟩ := omE_inv ev
  obtain ⟨a, os, rfl, ha, hA, ⟨zs, h2, h3, h4⟩⟩ := obj_at rs2 (rx.mono x2) hg
  obtain ⟨b, ws, rfl, g1, g2, g3⟩ := VD.of (x := .lst ds) ry
  have hz : zs.length + ws.length ≤ sizeLine := by rw [← h4.length, ← g3.length, ← lim_eq]; exact hl
  refine ⟨a, b, zs, ws, rfl, rfl, h2, g1, hz, ?_⟩
  have w : Ext ρ2 H2 ρ2 (upd H2 a (.lst (zs ++ ws))) := .writeO rs2 ha _
  obtain ⟨w1, w2⟩ := put_obj (o := .lst (xs ++ ds)) rs2 hA ha ⟨_, upd_same, by rw [List.length_append]; exact hz, (h4.mono w).append (g3.mono w)⟩
  exact k ρ2 _ _ ((x1.trans x2).trans w1) w2 .non
theorem se_opop (ho : SE X C o io) (hbase : attributeBase o (Str.ofString "pop") X.env (eval o X.env) = eval o X.env := by rfl) (hline : (apos.endLine == cpos.line) = true := by rfl) :
    SE X C (.Call (.Attribute o (Str.ofString "pop") apos) [] [] cpos) (.om .pop io []) := by
  refine pe_imp (pe_bm0 PySem.F.plainAttrs_list PySem.F.slot_list_pop PySem.F.type_list_pop mt_pop ho hbase hline) fun σ H Q ⟨ρ, env, st, v, st', rs, re, ev, k⟩ => ?_
  obtain ⟨x, s1, vs, s2, e1, hk, e2, ev⟩ := om_ev ev
  simp only [Ir.evals] at e2
  cases e2
  refine ⟨ρ, env, st, _, _, rs, re, e1, fun ρ1 H1 X1 x1 rs1 rx => ⟨tyV_obj rs1 rx hk, ?_⟩⟩
  obtain ⟨n, xs, y, hg, hy, rfl, rfl⟩ := omP_inv ev
  obtain ⟨a, os, rfl, ha, hA, ⟨zs, h2, h3, h4⟩⟩ := obj_at rs1 rx hg
  obtain ⟨w, hw1, hw2⟩ := h4.get hy
  rw [h4.length] at hw1
  refine ⟨a, zs, w, rfl, rfl, h2, hw1, ?_⟩
  have wr : Ext ρ1 H1 ρ1 (upd H1 a (.lst zs.dropLast)) := .writeO rs1 ha _
  obtain ⟨w1, w2⟩ := put_obj (o := .lst xs.dropLast) rs1 hA ha ⟨_, upd_same, by rw [List.length_dropLast]; omega, h4.dropLast.mono wr⟩
  exact k ρ1 _ _ (x1.trans w1) w2 (RD.mono w1 hw2)
end
/-! ### is it empty -/
def rNil (K : PySem.W.Frag) (ng : Bool) : R2 := fun x y H Q => ∃ a b xs, x = .ref a ∧ y = .ref b ∧ SqL K H a xs ∧ SqL K H b [] ∧ Q (.bl (xs.isEmpty != ng)) H
theorem op_isnil {n : Nat} (hr : Room n X.A) : OpR X (compareOp .Eq) (rNil X.K false) := by
  intro pins s σ H x y v u Q I rx ry ⟨a, b, xs, ex, ey, h1, h2, q⟩
  subst ex ey
  cases rx; cases ry
  obtain ⟨its, r, ⟨o1, n1, g1, c1, _, d1⟩, hz⟩ := I.list h1
  obtain ⟨its2, r2, ⟨o2, n2, g2, c2, _, d2⟩, hz2⟩ := I.list h2
  have pl : s.heap.IsList a its.toArray := ⟨o1, g1, c1, n1, d1⟩
  have pl2 : s.heap.IsList b its2.toArray := ⟨o2, g2, c2, n2, d2⟩
  have hl := r.length
  have hl2 := r2.length
  have hu : X.A.units < cLine := by have := hr.un; omega
  cases xs with
  | nil =>
    refine SeqAt.eq_listAt (e := fun _ => true) pl pl2 (by simp only [List.size_toArray]; omega) hu (fun j g1 g2 => ?_) ⟨.bl true, H, I, ?_, q⟩
    · simp only [List.size_toArray] at g1; simp at hl; omega
    · show Value.bool _ = Value.bool true
      simp
  | cons z zs =>
    refine SeqAt.eq_list_lengthsAt pl pl2 ?_ hu ⟨.bl false, H, I, rfl, q⟩
    simp only [List.size_toArray]
    simp at hl hl2
    simp; omega
theorem op_notnil {n : Nat} (hr : Room n X.A) : OpR X (compareOp .NotEq) (rNil X.K true) := by
  intro pins s σ H x y v u Q I rx ry ⟨a, b, xs, ex, ey, h1, h2, q⟩
  subst ex ey
  cases rx; cases ry
  obtain ⟨its, r, ⟨o1, n1, g1, c1, _, d1⟩, hz⟩ := I.list h1
  obtain ⟨its2, r2, ⟨o2, n2, g2, c2, _, d2⟩, hz2⟩ := I.list h2
  have pl : s.heap.IsList a its.toArray := ⟨o1, g1, c1, n1, d1⟩
  have pl2 : s.heap.IsList b its2.toArray := ⟨o2, g2, c2, n2, d2⟩
  have hl := r.length
  have hl2 := r2.length
  have hu : X.A.units < cLine := by have := hr.un; omega
  cases xs with
  | nil =>
    refine SeqAt.RcNeAt.lists (e := fun _ => true) pl pl2 (by simp only [List.size_toArray]; omega) hu (fun j g1 g2 => ?_) _ _ _ _ ⟨.bl false, H, I, ?_, q⟩
    · simp only [List.size_toArray] at g1; simp at hl; omega
    · show Value.bool _ = Value.bool false
      simp
  | cons z zs =>
    refine SeqAt.RcNeAt.lists_lengths pl pl2 ?_ hu _ _ _ _ ⟨.bl true, H, I, rfl, q⟩
    simp only [List.size_toArray]
    simp at hl hl2
    simp; omega
theorem oqV_lst {q : Ir.Oq} {st : Ir.Store} {x : Ir.Val} {vs : List Ir.Val} {d : Ir.D} (h : Ir.oqV q st x vs = some d) : (∃ n xs, Ir.getO st x = some (n, .lst xs)) ∨ ∃ n kvs, Ir.getO st x = some (n, .dic kvs) := by
  unfold Ir.oqV at h
  rcases hg : Ir.getO st x with _ | ⟨n, o⟩
  · rw [hg] at h; cases h
  · cases o with
    | lst xs => exact .inl ⟨n, xs, rfl⟩
    | dic kvs => exact .inr ⟨n, kvs, rfl⟩
    | inst c fs => rw [hg] at h; cases h
    | dicT kvs => rw [hg] at h; cases h
theorem setOV_inv {st s' : Ir.Store} {o i : Ir.Val} {x : Ir.D} (h : Ir.setOV st o i x = some s') : ∃ d n kvs, i = .d d ∧ Ir.getO st o = some (n, .dic kvs) ∧ d.key = true ∧ kvs.length < Ir.LIM ∧ s' = Ir.putO st n (.dic (Ir.putK kvs d x)) := by
  unfold Ir.setOV at h
  rcases hg : Ir.getO st o with _ | ⟨n, ob⟩
  · rw [hg] at h; cases h
  · rw [hg] at h
    cases ob with
    | dic kvs =>
      cases i with
      | ref m => cases h
      | d d =>
        simp only at h
        split at h
        · rename_i hc
          rw [Bool.and_eq_true] at hc
          cases h; exact ⟨d, n, kvs, rfl, rfl, hc.1, of_decide_eq_true hc.2, rfl⟩
        · cases h
    | lst xs => cases h
    | inst c fs => cases h
    | dicT kvs => cases h
theorem ss_setO {o i e : Expr} {io ii ie : Ir.Ex} {pos pos' : Pos} {n : Nat} (hr : Room n X.A) (he : SE X C e ie) (ho : SE X C o io) (hi : SE X C i ii) (hs2 : swapsWith e (some (.Subscript o i pos')) pos.line X.env = pure false := by rfl) :
    SS X C W (.Assign [.Subscript o i pos'] e pos) (.setO io ii ie) := by
  refine ps_imp (ps_dput (hu_of hr) ho hi he hs2) fun D σ H ⟨ρ, env, st, ou, st', rs, re, ev, k⟩ => ?_
  simp only [Ir.exec] at ev
  obtain ⟨v, s1, e1, ev⟩ := bok ev
  obtain ⟨x, s2, e2, ev⟩ := bok ev
  obtain ⟨y, s3, e3, ev⟩ := bok ev
  obtain ⟨d, e4, ev4⟩ := ook ev
  clear ev
  obtain ⟨s5, e5, ev5⟩ := ook ev4
  clear ev4
  obtain rfl := asD_ok e4
  cases ev5
  refine ⟨ρ, env, st, _, s1, rs, re, e1, fun ρ1 H1 V1 x1 rs1 rv => ⟨ρ1, env, s1, _, s2, rs1, re.mono x1, e2, fun ρ2 H2 O x2 rs2 ro => ⟨ρ2, env, s2, y, s3, rs2, re.mono (x1.trans x2), e3, fun ρ3 H3 Y x3 rs3 ry => ?_⟩⟩⟩
  obtain ⟨key, n, kvs, rfl, hg, hk, hl, rfl⟩ := setOV_inv e5
  obtain ⟨a, os, rfl, ha, hA, ⟨ks, h2, h3, h4⟩⟩ := obj_at rs3 (ro.mono x3) hg
  obtain ⟨k', hk3, rfl⟩ := RK.kv ry hk
  have hlen : ks.length < sizeLine := by rw [← h4.length, ← lim_eq]; exact hl
  have w : Ext ρ3 H3 ρ3 (upd H3 a (.dK (L2.putK ks k' V1))) := .writeO rs3 ha _
  have rv3 : RD ρ3 X.K H3 d V1 := RD.mono x3 (RD.mono x2 rv)
  obtain ⟨w1, w2⟩ := put_obj (o := .dic (Ir.putK kvs key d)) rs3 hA ha ⟨_, upd_same, by have := length_putK ks k' V1; omega, (h4.mono w).put hk3 (RD.mono w rv3)⟩
  exact ⟨a, _, rfl, .k h2 hlen, k ρ3 _ _ (((x1.trans x2).trans x3).trans w1) w2 ((re.mono ((x1.trans x2).trans x3)).mono w1)⟩
theorem st_notnil {a : Expr} {ia : Ir.Ex} {pos p : Pos} {n : Nat} (hr : Room n X.A) (ha : SE X C a ia) (hm : behindInMarks .NotEq (.List [] p) = false := by first | exact nomark _ | rfl) : ST X C (.Compare a [.NotEq] [.List [] p] pos) (.oq .notnil ia []) := by
  refine pt_imp (pt_cmpR (op_notnil hr) ha (pe_lst pa_nil) hm) fun σ H Q ⟨ρ, env, st, v, st', rs, re, ev, k⟩ => ?_
  simp only [Ir.eval, Ir.evals, Ir.Res.bind_ok] at ev
  obtain ⟨x, s1, e1, ev⟩ := bok ev
  obtain ⟨d, e2, ev⟩ := ook ev
  cases ev
  refine ⟨ρ, env, st, x, _, rs, re, e1, fun ρ1 H1 X1 x1 rs1 rx => ⟨Nat.zero_le _, fun p hp => ?_⟩⟩
  rcases oqV_lst e2 with ⟨n, xs, hg⟩ | ⟨n, kvs, hg⟩
  · obtain ⟨b, os, rfl, hb, hA, ⟨zs, h2, h3, h4⟩⟩ := obj_at rs1 rx hg
    have w : Ext ρ1 H1 ρ1 (upd H1 p (.lst [])) := .grow rs1 hp _
    have hne : b ≠ p := ne_of_none h2 hp
    unfold Ir.oqV at e2; rw [hg] at e2
    have e2 : some (Ir.D.bool (!xs.isEmpty)) = some (.bool v) := e2
    cases e2
    refine ⟨b, p, zs, rfl, rfl, SqL.of (by rw [upd_ne hne]; exact h2), SqL.of upd_same, ?_⟩
    have hz : (zs.isEmpty != true) = !xs.isEmpty := by
      have := h4.length
      cases xs <;> cases zs <;> simp at this <;> rfl
    rw [hz]
    exact ⟨_, rfl, k ρ1 _ (x1.trans w) (rs1.grow hp _)⟩
  · unfold Ir.oqV at e2; rw [hg] at e2; cases e2
/-! ### a raising function called where it does not raise -/
end Snd

namespace Snd
open PySem PySem.Spec PyProof.Rows L2
variable {X : Cx} {C : Ir.Calls} {W : WX}
/-! ### a text times a number -/
end Snd

namespace Snd
open PySem PySem.Spec PyProof.Rows L2
variable {X : Cx} {C : Ir.Calls} {W : WX}
/-! ### names in brackets out of a list of the arena; a tuple of such a list -/
end Snd

set_option maxHeartbeats 2000000
namespace Snd
open PySem PySem.Spec PyProof.Rows L2
/-! ### an error that is kept behind its except clause -/
/-- the clauses: a class, the slot of the clause's name, the slot that keeps -/
abbrev KcL := List (Value × Nat × Nat)
/-- the clause keeps its error: n is stored as m -/
inductive KcOk (X : Cx) : List ExceptHandler → KcL → Prop
  | nil : KcOk X [] []
  | cons {x n : Str} {c : Value} {i j : Nat} {b₀ : Stmt} {np pos' : Pos} {rest : List ExceptHandler} {l : KcL} (hc : Names X x c) (hi : X.N[i]? = some n) (hl : X.env.kindOf n = some .local)
      (hsu : ∀ (a : Addr) (oe : Obj) (pn : List (Addr × Obj)), PSs (X.suite a ((a, oe) :: pn)) [b₀] (fun D σ H => ∃ v, σ[i]? = some (some v) ∧ D.nx (σ.set j (some v)) H)) (r : KcOk X rest l) :
      KcOk X (.ExceptHandler (some (.Name x np)) (some n) [b₀] pos' :: rest) ((c, i, j) :: l)
end Snd

set_option maxHeartbeats 2000000
namespace Snd
open PySem PySem.Spec PyProof.Rows L2
variable {X : Cx} {C : Ir.Calls} {W : WX}
/-! ### except C as n: m = n -/
end Snd

set_option maxHeartbeats 2000000
namespace Snd
open PySem PySem.Spec PyProof.Rows L2
variable {X : Cx} {C : Ir.Calls} {W : WX}
/-! ### isinstance of an error that is kept -/
/-- classes by their names: own ones, built-in ones -/
inductive ClsAs (mg : Str → Option Value) : List String → List V → List Value → Prop
  | nil : ClsAs mg [] [] []
  | own {n : String} {a : Addr} {ns vs us} : mg (Str.ofString n) = some (.ref a) → ClsAs mg ns vs us → ClsAs mg (n :: ns) (.ref a :: vs) (.ref a :: us)
  | ty {n t : String} {ns vs us} : mg (Str.ofString n) = none → bootBuiltins (Str.ofString n) = some (.type t) → ClsAs mg ns vs us → ClsAs mg (n :: ns) (.ty t :: vs) (.type t :: us)
theorem ClsAs.pair {mg : Str → Option Value} : ∀ {ns : List String} {vs : List V} {us : List Value}, ClsAs mg ns vs us → Paired ClsV vs us
  | _, _, _, .nil => .nil
  | _, _, _, .own _ r => .cons (.own _) r.pair
  | _, _, _, .ty _ _ r => .cons (.ty _) r.pair
/-- the names of classes, told -/
inductive ClE (X : Cx) : List Expr → List String → Prop
  | nil : ClE X [] []
  | cons {n : String} {ns : List String} {es : List Expr} {p : Pos} (hg : Gl X (Str.ofString n)) (hn : Str.ofString n ≠ "__name__") (hd : (Str.ofString n == ("__debug__" : Str)) = false)
      (hst : starEach (.Name (Str.ofString n) p :: es) X.env = (false, eval (.Name (Str.ofString n) p) X.env) :: starEach es X.env) (r : ClE X es ns) : ClE X (.Name (Str.ofString n) p :: es) (n :: ns)
theorem ClsAs.len {mg : Str → Option Value} : ∀ {ns : List String} {vs : List V} {us : List Value}, ClsAs mg ns vs us → vs.length = ns.length
  | _, _, _, .nil => rfl
  | _, _, _, .own _ r => congrArg (· + 1) r.len
  | _, _, _, .ty _ _ r => congrArg (· + 1) r.len
/-! ### the answers, out of the written part -/
theorem kits_nil {K : PySem.W.Frag} {t : Value} : PySem.W.kitAny K t [] = some false := rfl
end Snd

namespace Snd
open PySem PySem.Spec PyProof.Rows L2
variable {X : Cx} {C : Ir.Calls} {W : WX}
/-! ### lists that may be of the arena -/
theorem VD.any {ρ : Rho} {K : PySem.W.Frag} {H : Hp} {st : Ir.Store} {v : Ir.Val} {x : V} {d : Ir.D} (rs : RS ρ K st H) (h : RV ρ K H v x) (e : Ir.anyD st v = some d) : VD ρ K H d x := by
  unfold Ir.anyD at e
  split at e
  · rename_i d' hl
    cases e
    unfold Ir.lstO at hl
    split at hl
    · rename_i n xs hg
      cases hl
      obtain ⟨a, os, rfl, ha, hA, ⟨zs, h2, h3, h4⟩⟩ := obj_at rs h hg
      exact ⟨a, zs, rfl, h2, h3, h4⟩
    · cases hl
  · exact VD.deref rs h e
/-! ### a list of the arena turned round -/
/-! ### a raising def called by keywords alone -/
/-! ### a comprehension within another one, that captures nothing -/
/-! ### a dict that is never changed, asked with a default -/
theorem se_kdget2 {a b : Expr} {ia ib : Ir.Ex} {x : Str} {kvs : List (String × Ir.D)} {p' : Pos} {apos cpos : Pos} (h : ∃ p, X.mg x = some (.ref p) ∧ KD X.K X.w kvs p) (ha : SE X C a ia) (hb : SE X C b ib) (hg : Gl X x := by rfl) (hd : (x == ("__debug__" : Str)) = false := by decide) (m : M2 X (.Name x p') (Str.ofString "get") apos a b cpos := by exact ⟨rfl, rfl, rfl, rfl⟩) :
    SE X C (.Call (.Attribute (.Name x p') (Str.ofString "get") apos) [a, b] [] cpos) (.kdd kvs ia ib) := by
  obtain ⟨q, hq, kd⟩ := h
  obtain ⟨es, n, D⟩ := kd.kd
  refine ⟨fun pins s σ H Q I ⟨ρ, env, st, v, st', rs, re, ev, k⟩ => ?_⟩
  simp only [Ir.eval] at ev
  obtain ⟨y, t1, e1, ev⟩ := bok ev
  obtain ⟨y2, t2, e2, ev⟩ := bok ev
  obtain ⟨r, e3, ev⟩ := ook ev
  cases ev
  obtain ⟨z, dv, rfl, rfl, rfl⟩ : ∃ z dv, y = .d (.str z) ∧ y2 = .d dv ∧ r = ((kvs.lookup z).getD dv) := by
    unfold Ir.kddV at e3
    split at e3
    · cases e3; exact ⟨_, _, rfl, rfl, rfl⟩
    · cases e3
  refine wpAny_Call_method m.base m.few m.line PySem.F.plainAttrs_dict PySem.F.slot_dict_get PySem.F.type_dict_get (thn ((pe_glob (v := .ref q) hg hq rfl hd).run pins s σ H (fun x H1 => x = .ref q ∧ H1 = H) I ⟨rfl, rfl⟩) fun u s1 ⟨x, H1, I1, rx, ex, eh⟩ => ?_)
  subst ex eh
  obtain rfl : u = Value.ref q := rx
  have hm := PySem.W.mapOf_K (prog := X.prog) (w := X.w) I1.kIn D.at_ D.lit
  refine ⟨hm.typeIs, fun b e => ?_, ?_⟩
  · cases e
    exact ⟨_, I1.kIn _ _ D.at_, rfl⟩
  rw [m.trees]
  refine wpAny_dict_get2 (knd := strKind X.prog X.w) D.low (thn (ha.run pins s1 σ H1 (fun y H2 => y = .str (Str.ofString z) ∧ tI C X.K ib σ H2 (fun w H3 => (∀ d, kvs.lookup z = some d → ∀ zz, (∀ ρ1 : Rho, RD ρ1 X.K H3 d zz) → Q zz H3) ∧ (kvs.lookup z = none → Q w H3))) I1
    ⟨ρ, env, st, _, _, rs, re, e1, fun ρ1 H2 X1 x1 rs1 rx => ⟨RD.str_inv rx, ρ1, env, t1, _, _, rs1, re.mono x1, e2, fun ρ3 H3 w x3 rs3 rw' => ⟨fun d hd zz rd => k ρ3 H3 zz (x1.trans x3) rs3 (by rw [hd]; exact rd ρ3), fun hn => k ρ3 H3 w (x1.trans x3) rs3 (by rw [hn]; exact rw')⟩⟩⟩) fun iv s2 ⟨y, H2, I2, ry, ey, q2⟩ => ?_)
  subst ey
  obtain ⟨t, rfl⟩ := ry
  refine thn (hb.run pins s2 σ H2 _ I2 q2) fun wv s3 ⟨w, H3, I3, rw', q3, q4⟩ => ?_
  refine ⟨_, _, strKind_is X.prog X.w _ t, PySem.W.mapOf_K (prog := X.prog) (w := X.w) I3.kIn D.at_ D.lit, ?_⟩
  rcases kd.ns z with ⟨d, u, h1, h2, h3⟩ | ⟨h1, h2⟩
  · obtain ⟨v, rv, rd⟩ := h3.rel
    rw [PySem.W.find_K D.at_ h2]
    exact ⟨v, H3, I3.tok _, rv, q3 d h1 v fun ρ1 => rd ρ1 H3⟩
  · rw [PySem.W.find_K D.at_ h2]
    exact ⟨w, H3, I3.tok _, rw', q4 h1⟩
end Snd

namespace Snd
open PySem PySem.Spec PyProof.Rows L2
/-! ### the table of a law: what each entry brings, and the step for all -/
theorem kw_no {KW : List Kw} {f : String} {K : PySem.W.Frag} {fd : FuncData} {ps : List Str} (h : KW.all (fun q => q.1 != f) = true) : ∀ q ∈ KW, q.1 = f → KwOk K fd ps q := fun q hq e => by
  have := List.all_eq_true.mp h q hq
  simp [e] at this
theorem kw_hd {KW : List Kw} {f : String} {K : PySem.W.Frag} {fd : FuncData} {ps : List Str} {p : Kw} (h : KwOk K fd ps p) (r : ∀ q ∈ KW, q.1 = f → KwOk K fd ps q) : ∀ q ∈ p :: KW, q.1 = f → KwOk K fd ps q := fun q hq e => by
  rcases List.mem_cons.mp hq with rfl | hq
  · exact h
  · exact r q hq e
inductive Ent (T : Ir.Tab) (KW : List Kw) (P : Program) (w : World) (K : PySem.W.Frag) (mg : Str → Option Value) (base : Heap) : String → Ir.Fn → Prop
  | df {f fn a fd ps} (hk : fn.k = .df) (hx : fn.x = false) (ok : ∀ n, FT T KW n P w K mg base → FnOk P w K mg base CX0 (n + 2 + 1) a fd ps (spI T (n + 1) K f)) (m : mg (Str.ofString f) = some (.ref a)) (kp : PySem.W.keepIn K (.ref a) = true) (b : Binds K fd ps []) (kw : ∀ q ∈ KW, q.1 = f → KwOk K fd ps q) : Ent T KW P w K mg base f fn
  | dk {f fn a fd ps} (hk : fn.k = .dk) (hx : fn.x = false) (ok : ∀ n, FT T KW n P w K mg base → FnOk P w K mg base CX0 (n + 2 + 1) a fd ps (spI T (n + 1) K f)) (m : mg (Str.ofString f) = some (.ref a)) (kp : PySem.W.keepIn K (.ref a) = true) (kw : ∀ q ∈ KW, q.1 = f → KwOk K fd ps q) : Ent T KW P w K mg base f fn
  | dx {f fn a fd ps} (hk : fn.k = .df) (hx : fn.x = true) (ok : ∀ n, FT T KW n P w K mg base → FnOk P w K mg base (CX P w) (n + 2 + 1) a fd ps (spX T (n + 1) K mg f)) (m : mg (Str.ofString f) = some (.ref a)) (kp : PySem.W.keepIn K (.ref a) = true) (b : Binds K fd ps []) (kw : ∀ q ∈ KW, q.1 = f → KwOk K fd ps q) : Ent T KW P w K mg base f fn
  | mt {f fn c m Cc a fd ps} (hk : fn.k = .mt c m) (hx : fn.x = false) (ok : ∀ n, FT T KW n P w K mg base → FnOk P w K mg base CX0 (n + 2 + 1) a fd ps (spI T (n + 1) K f)) (cn : CN K c Cc) (cl : Cls K Cc) (me : Meth K Cc (Str.ofString m) a) (b : Binds K fd ps []) : Ent T KW P w K mg base f fn
  | mx {f fn c m Cc a fd ps} (hk : fn.k = .mt c m) (hx : fn.x = true) (ok : ∀ n, FT T KW n P w K mg base → FnOk P w K mg base (CX P w) (n + 2 + 1) a fd ps (spX T (n + 1) K mg f)) (cn : CN K c Cc) (cl : Cls K Cc) (me : Meth K Cc (Str.ofString m) a) (b : Binds K fd ps []) : Ent T KW P w K mg base f fn
  | ct {f ci fn Cc a fd ps} (hk : fn.k = .ct f) (hc : (f ++ ".__init__" : String) = ci) (ok : ∀ n, FT T KW n P w K mg base → FnOk P w K mg base CX0 (n + 2 + 1) a fd ps (spI T (n + 1) K ci)) (mc : mg (Str.ofString f) = some (.ref Cc)) (cn : CN K f Cc) (mk : Mk K Cc a) (b : Binds K fd ps []) (e : fn = ctorFn f fn.pars) : Ent T KW P w K mg base f fn
def Ents (T : Ir.Tab) (KW : List Kw) (P : Program) (w : World) (K : PySem.W.Frag) (mg : Str → Option Value) (base : Heap) : List (String × Ir.Fn) → Prop
  | [] => True
  | p :: r => Ent T KW P w K mg base p.1 p.2 ∧ Ents T KW P w K mg base r
theorem Ents.of {T : Ir.Tab} {KW : List Kw} {P : Program} {w : World} {K : PySem.W.Frag} {mg : Str → Option Value} {base : Heap} {f : String} {fn : Ir.Fn} : ∀ {l : List (String × Ir.Fn)}, Ents T KW P w K mg base l → (f, fn) ∈ l → Ent T KW P w K mg base f fn
  | [], _, h => nomatch h
  | _ :: _, ⟨h1, h2⟩, h => by
    rcases List.mem_cons.mp h with rfl | h
    · exact h1
    · exact h2.of h
theorem ft_ind {tab : List (String × Ir.Fn)} {KW : List Kw} {P : Program} {w : World} {K : PySem.W.Frag} {mg : Str → Option Value} {base : Heap} (h : Ents (Ir.tabOf tab) KW P w K mg base tab) : ∀ n, FT (Ir.tabOf tab) KW n P w K mg base
  | 0 => ft_zero fun f fn hT => by
    cases h.of (Ir.tab_mem hT) with
    | df hk hx ok m kp b kw => exact .df hk ⟨_, _, _, m, kp, b, kw⟩
    | dx hk hx ok m kp b kw => exact .df hk ⟨_, _, _, m, kp, b, kw⟩
    | dk hk hx ok m kp kw => exact .dk hk ⟨_, _, _, m, kp, kw⟩
    | mt hk hx ok cn cl me b => exact .mt hk ⟨_, _, _, _, cn, cl, me, b⟩
    | mx hk hx ok cn cl me b => exact .mt hk ⟨_, _, _, _, cn, cl, me, b⟩
    | ct hk hc ok mc cn mk b e => exact .ct hk ⟨_, _, _, _, mc, cn, mk, b, rfl, e⟩
  | n + 1 => by
    have ih := ft_ind h n
    refine ⟨fun f fn hT hx hk => ?_, fun f fn hT hx hk => ?_, fun f fn hT hx c m hk => ?_, fun f fn hT hx c m hk => ?_, fun f fn hT c hk => ?_, fun f fn hT hx hk => ?_⟩
    · cases h.of (Ir.tab_mem hT) with
      | df _ _ ok m kp b kw => exact ⟨_, _, _, ok n ih, m, kp, b, kw⟩
      | dx _ hx' => rw [hx] at hx'; cases hx'
      | mt hk' | mx hk' | ct hk' | dk hk' => rw [hk] at hk'; cases hk'
    · cases h.of (Ir.tab_mem hT) with
      | dx _ _ ok m kp b kw => exact ⟨_, _, _, ok n ih, m, kp, b, kw⟩
      | df _ hx' => rw [hx] at hx'; cases hx'
      | mt hk' | mx hk' | ct hk' | dk hk' => rw [hk] at hk'; cases hk'
    · cases h.of (Ir.tab_mem hT) with
      | mt hk' _ ok cn cl me b => rw [hk] at hk'; cases hk'; exact ⟨_, _, _, _, cn, cl, me, ok n ih, b⟩
      | mx _ hx' => rw [hx] at hx'; cases hx'
      | df hk' | dx hk' | ct hk' | dk hk' => rw [hk] at hk'; cases hk'
    · cases h.of (Ir.tab_mem hT) with
      | mx hk' _ ok cn cl me b => rw [hk] at hk'; cases hk'; exact ⟨_, _, _, _, cn, cl, me, ok n ih, b⟩
      | mt _ hx' => rw [hx] at hx'; cases hx'
      | df hk' | dx hk' | ct hk' | dk hk' => rw [hk] at hk'; cases hk'
    · cases h.of (Ir.tab_mem hT) with
      | ct hk' hc ok mc cn mk b e =>
        rw [hk] at hk'; cases hk'
        refine ⟨_, _, _, _, mc, cn, mk, fun m hm => ?_, b, rfl, e⟩
        rw [hc]
        cases hm
        cases n with
        | zero => exact fn_zero
        | succ k => exact ok k (ft_ind h k)
      | df hk' | dx hk' | mt hk' | mx hk' | dk hk' => rw [hk] at hk'; cases hk'
    · cases h.of (Ir.tab_mem hT) with
      | dk _ _ ok m kp kw => exact ⟨_, _, _, ok n ih, m, kp, kw⟩
      | df hk' | dx hk' | mt hk' | mx hk' | ct hk' => rw [hk] at hk'; cases hk'
termination_by n => n
end Snd

set_option maxHeartbeats 4000000
namespace Snd
open PySem PySem.Spec PyProof.Rows L2
open Builtin Builtin.ObjectAttr
/-! ### classes of errors of one's own whose __init__ keeps one thing: over any base -/
structure OxC (K : PySem.W.Frag) (C : Addr) (bmB : List Value) (newId : String) : Prop where
  init : PySem.W.excInitIn K C bmB newId = true
  ov : PySem.W.excOver K C bmB = true
  sa : PySem.W.findIn K (.ref C) "__setattr__" = some (some (.builtin "object.__setattr__"))
  hd : PySem.W.hasDictIn K C = true
  ex : PySem.W.subIn K (.ref C) (.type "BaseException") = some true
  ty : PySem.W.typeIn K (.ref C) = some (.type "type")
  kp : PySem.W.keepIn K (.ref C) = true
section
variable {X : Cx} {pins : List (Addr × Obj)} {σ : L2.St} {H : Hp} {s : Shared} {a C : Addr} {f : Str} {y : V} {u : Value} {Q : Unit → Shared → Prop} {E : Value → Shared → Prop} {A : Around} {B newId initId : String} {bmB : List Value}
theorem xset {prog : Program} {w : World} {R : Result → Shared → Prop} {hp : Heap} {g : Array GenState} {d : Drawn} {t : Nat} {os : OsState} {K : PySem.W.Frag} {tk : Tok} {v : Value} {x t0 : Addr}
    (SF : StoreFacts B bmB "object.__setattr__" "object") (T : OxC K C bmB newId) (hK : K.In hp) (hx : hp.get? x = some (HandSPX.excO C t0)) (ht : PySem.W.takerIn K C f = some none)
    (hq : ∀ h' tk' dx, (∀ b o, b ≠ x → hp.get? b = some o → h'.get? b = some o) → hp.objs.size ≤ dx → dx ≠ x → h'.get? x = some { HandSPX.excO C t0 with dict := some dx } → h'.Ns1 dx (fun y => if y = f then some v else none) → R (.ok (.ret .none)) ⟨h', g, d, tk', os⟩) :
    codeAny (model prog w) A (.call (.builtin "object.__setattr__") ⟨[.ref x, .str f tk, v], []⟩) R ⟨hp, g, d, t, os⟩ := by
  refine PySem.W.osa_openX (od := none) SF hK ⟨hx, rfl, rfl, trivial⟩ T.ov ht fun b => ?_
  obtain ⟨cd, hc, hd'⟩ := PySem.W.any_some T.hd
  have hcls : W.Looks (model prog w) hp (classData C) cd := W.looks_clsIn hK hc
  have hxs : x ≠ hp.objs.size := Nat.ne_of_lt (Heap.lt_size hx)
  obtain ⟨nm, bs, mro, ns, qn, hd, sn, sb, ab, col, del⟩ := cd
  dsimp only at hd'
  subst hd'
  show wpAny _ _ (storeInOwnDict _ _ _ _ _ _) _ _ _
  unfold storeInOwnDict ownDictForStores
  repeat (first | with_reducible refine HandSPX.store_in_new ?_ ?_ | with_reducible refine wpAny_loadPart_at hx ?_ | with_reducible refine hcls.at ?_ | wp_step)
  · exact ⟨_, #[], _, (Heap.get?_update_ne _ _ _ _ hxs.symm).trans (Heap.get?_push_at rfl rfl), rfl, fun e he => absurd he (by simp), fun _ => rfl⟩
  · intro h' tk' hn' hs
    refine hq h' tk' hp.objs.size (fun b o hb ho => (hs.2 b (Nat.ne_of_lt (Heap.lt_size ho))).trans ((Heap.get?_update_ne _ _ _ _ hb).trans (Heap.get?_push_of_some _ ho))) (Nat.le_refl _) hxs.symm ((hs.2 x hxs).trans (Heap.get?_update_self _ (Heap.get?_push_of_some _ hx) rfl)) hn'
theorem ox_set (SF : StoreFacts B bmB "object.__setattr__" "object") (T : OxC X.K C bmB newId) (I : Inv X pins σ H s) (e : H a = some (exo a C none)) (ht : PySem.W.takerIn X.K C f = some none) (ry : RelV y u)
    (h : ∀ dx s', H dx = none → dx ≠ a → Inv X pins σ (upd (upd H dx (exd dx [(f, y)])) a (exo a C (some dx))) s' → Q () s') : wpAny (model X.prog X.w) A (setAttr (.ref a) f u) Q E s := by
  obtain ⟨t1, ho⟩ := exo_at I.hok e
  obtain ⟨hp, g, d, t, os⟩ := s
  refine PySem.W.set_plain I.kIn (ox := HandSPX.excO C t1) (od := none) ⟨ho, rfl, rfl, trivial⟩ T.sa ?_
  refine xset SF T I.kIn ho ht fun h' tk' dx k dn dne hx hn => ?_
  have z0 : H dx = none := I.hok.fresh dn
  have z1 : ∀ {b : Addr} {o : Obj}, hp.get? b = some o → b ≠ dx := fun q => Nat.ne_of_lt (Nat.lt_of_lt_of_le (Heap.lt_size q) dn)
  have z2 : ∀ {b : Addr}, H b = none → b ≠ a := fun {b} n z => by rw [z, e] at n; cases n
  have U : Un X.fs [] H (upd (upd H dx (exd dx [(f, y)])) a (exo a C (some dx))) hp h' := by
    refine { keep := fun b o q n _ _ => k b o (z2 n) q, slot := fun b o q n _ _ => ⟨o.slots, k b o (z2 n) q⟩, free := fun b o q n _ => by rw [upd_ne (z2 n), upd_ne (z1 q)]; exact n, there := fun b o q _ => ?_, tups := fun b xs q => ?_, frzs := fun b o v q => ?_, tbls := fun b ps q => ?_ }
    · by_cases hb : b = a
      · exact ⟨_, by rw [hb]; exact hx⟩
      · exact ⟨o, k b o hb q⟩
    · rw [upd_ne (at_ne e q exo_tup), upd_ne (ne_of_none q z0)]; exact q
    · rw [upd_ne (at_ne e q exo_frz), upd_ne (ne_of_none q z0)]; exact q
    · exact ⟨#[], by rw [upd_ne (at_ne e q exo_tbl), upd_ne (ne_of_none q z0), q]; simp⟩
  refine h dx _ z0 dne (I.un (t' := tk') U fun b o q => ?_)
  by_cases hb : b = a
  · subst hb; rw [upd_same] at q; cases q; exact exo_ok hx
  rw [upd_ne hb] at q
  by_cases hd : b = dx
  · subst hd; rw [upd_same] at q; cases q; exact exd_ok hn (relO_put (fs := []) ry fun g => True.intro)
  rw [upd_ne hd] at q
  refine (I.hok b o q).stay (fun c v hc z => k c v ?_ z) (fun c hc => ?_) fun c xs hc => ?_
  · rcases hc with hc | hc
    · rw [hc]; exact hb
    · exact at_ne e hc exo_own
  · rw [upd_ne (at_ne e hc exo_own), upd_ne (ne_of_none hc z0)]; exact hc
  · rw [upd_ne (at_ne e hc exo_tup), upd_ne (ne_of_none hc z0)]; exact hc
theorem ox_init {us : List Value} {Q : Value → Shared → Prop} (FB : ExcBaseFacts B newId initId bmB) (T : OxC X.K C bmB newId) (I : Inv X pins σ H s) (e : H a = some (exo a C none)) (hl : us.length ≤ sizeLine) (h : ∀ s', Inv X pins σ H s' → Q .none s') :
    wpAny (model X.prog X.w) A (call (.builtin initId) (.ref a :: us)) Q E s := by
  obtain ⟨nm, N', qn, bs, bm, hdct, sn, sub, ab, col, dd, k0, k1, k2, k3, k5, hC, hT⟩ := PySem.W.excInit_of I.kIn T.init
  obtain ⟨t1, ho⟩ := exo_at I.hok e
  obtain ⟨hp, g, d, t, os⟩ := s
  refine wpAny_call (HandSPX.init_base FB hT hC ho hl fun h' t2 k hx => ?_)
  have J := I.write (t' := t) (x := a) (e := a) (o := exo a C none) (by rw [e]; exact True.intro) (.inl rfl) k ⟨_, hx⟩ (exo_ok hx)
  have eu : upd H a (exo a C none) = H := funext fun b => by
    by_cases hb : b = a
    · rw [hb, upd_same, e]
    · rw [upd_ne hb]
  rw [eu] at J
  exact h _ J
end
/-! ### its __init__ -/
/-- a kind of error that one of one's own stands on -/
structure OxB (K : PySem.W.Frag) (B newId initId : String) (bmB : List Value) : Prop where
  fb : ExcBaseFacts B newId initId bmB
  sf : StoreFacts B bmB "object.__setattr__" "object"
  ty : typeOf (.type B) = pure (.type "type")
  st : Manifest.isStub B = false
  fi : PySem.W.findCls K (.type B) (.type "type") "__init__" = some (.val (.builtin initId))
  ha : PySem.W.handedIn (.builtin initId) = true
  bo : bootBuiltins (Str.ofString B) = some (.type B)
section
variable {X : Cx} {B newId initId : String} {bmB : List Value}
/-- B.__init__(self, ..) -/
def tOxI (K : PySem.W.Frag) (bmB : List Value) (newId : String) (ta : TA) : TE := fun σ H Q => ta σ H fun vs H1 => ∃ (a C : Addr) (ws : List V), vs = .ref a :: ws ∧ ws.length ≤ 1000 ∧ OxC K C bmB newId ∧ H1 a = some (exo a C none) ∧ Q .non H1
theorem pe_oxinit {pl : Sem Bool} {x : Str} {e : Expr} {es : List Expr} {ta : TA} {p1 p2 pos : Pos} (O : OxB X.K B newId initId bmB) (hx : x = Str.ofString B) (hg : Gl X x) (hm : X.mg x = none) (ha : PA X (e :: es) ta)
    (hc : eval (.Call (.Attribute (.Name x p1) "__init__" p2) (e :: es) [] pos) X.env = (eval (.Name x p1) X.env >>= fun ov => standAt p2.atName >>= fun _ => holding [ov] (getMethod ov "__init__" pl) >>= fun y => callWith pos y.1 y.2 (backTo pos (starEach (e :: es) X.env)) (backToKw pos (keywordEach [] X.env))) := by rfl)
    (he : starEach (e :: es) X.env = (false, eval e X.env) :: starEach es X.env := by rfl) (hpl : (backTo pos (starEach es X.env)).any (·.1) = false := by rfl) (hn : x ≠ "__name__" := by decide) (hd : (x == ("__debug__" : Str)) = false := by decide) :
    PE X (.Call (.Attribute (.Name x p1) "__init__" p2) (e :: es) [] pos) (tOxI X.K bmB newId ta) := by
  refine ⟨fun pins s σ H Q I h => PySem.W.methodCall_KW (ld_blt I hg hm (by rw [hx]; exact O.bo) ?_ hn hd) hc⟩
  obtain ⟨m, fr⟩ := I.fr
  refine PySem.W.method_type fr I.ok.mod.kin O.ty O.st O.fi O.ha ?_
  show wpAny _ _ (callWith pos (Value.builtin initId) [] (backTo pos (starEach (e :: es) X.env)) []) _ _ _
  refine PyProof.Rows.callWith_method1 (thn (ha.run pos pins _ σ H _ (I.tok _) h) fun us s1 ⟨vs, H1, I1, r1, a, C, ws, ev, hl, T, ea, q⟩ => ?_) he hpl
  subst ev
  cases r1 with
  | @cons _ u0 _ ur ra rw' =>
    obtain rfl : u0 = Value.ref a := ra
    exact ox_init O.fb T I1 ea (by rw [← Paired.length rw', sizeLine_eq]; omega) fun s' J => ⟨.non, H1, J, rfl, q⟩
/-- self.f = e, the one thing kept -/
def tOxS (K : PySem.W.Frag) (bmB : List Value) (newId : String) (f : Str) (to te : TE) : TS := fun D σ H => te σ H fun y H1 => to σ H1 fun x H2 => ∃ a C : Addr, x = .ref a ∧ OxC K C bmB newId ∧ PySem.W.takerIn K C f = some none ∧ H2 a = some (exo a C none) ∧ ∀ dx, H2 dx = none → dx ≠ a → D.nx σ (upd (upd H2 dx (exd dx [(f, y)])) a (exo a C (some dx)))
theorem ps_oxset {o e : Expr} {to te : TE} {f : Str} {p' pos : Pos} (O : OxB X.K B newId initId bmB) (ho : PE X o to) (he : PE X e te) (hs : swapsWith e (some (.Attribute o f p')) pos.line X.env = pure false := by rfl) : PS X (.Assign [.Attribute o f p'] e pos) (tOxS X.K bmB newId f to te) :=
  ⟨fun pins s σ H D I h => plainObj_wpAny_Assign_Attribute (thn (he.run pins s σ H _ I h) fun v s1 ⟨y, H1, I1, r1, q1⟩ => thn (ho.run pins s1 σ H1 _ I1 q1) fun u s2 ⟨x, H2, I2, r2, a, C, ex, T, hno, ea, q⟩ => by
    subst ex
    obtain rfl : u = Value.ref a := r2
    exact ox_set O.sf T I2 ea hno r1 fun dx s' n ne J => ⟨σ, _, J, q dx n ne⟩) hs⟩
/-- what its __init__ does -/
def spOx (K : PySem.W.Frag) (bmB : List Value) (newId : String) (f : Str) : Sp := fun vs H Q _ => ∃ (a C : Addr) (v : V), vs = [.ref a, v] ∧ OxC K C bmB newId ∧ PySem.W.takerIn K C f = some none ∧ H a = some (exo a C none) ∧ ∀ dx, H dx = none → dx ≠ a → Q .non (upd (upd H dx (exd dx [(f, v)])) a (exo a C (some dx)))
theorem ox_fn {P : Program} {w : World} {K : PySem.W.Frag} {mg : Str → Option Value} {base : Heap} {qual : Str} {st : Stmt} {a : Addr} {fd : FuncData} {self f m : Str} (F : Fun K "__init__" qual st a fd) (S : FnScope [self, f] [self, f] (defScope st))
    (hps : ∀ (cdv : Value) (A : Around) (outer : List Env) (s : Shared) (H : Hp) (E : XK), PSs (cxOf CX0 P w K mg base [self, f] qual (defScope st) a cdv A outer s H E).nox (defBody st) (tSeq (tDrop (tOxI K bmB newId (tCons (tVar 0) (tCons (tC (.str m)) tNil)))) (tSeq (tOxS K bmB newId f (tVar 0) (tVar 1)) tNext))) :
    FnOk P w K mg base CX0 1 a fd [self, f] (spOx K bmB newId f) := by
  refine F.ok S (fun vs H Q E ⟨a, C, v, e, _⟩ => by rw [e]; rfl) fun cdv A outer s H vs Q E hr ⟨b, C, v, e, T, ht, he, h⟩ => ⟨_, hps cdv A outer s H E, ?_⟩
  subst e
  refine ⟨.ref b, rfl, ⟨b, C, [.str m], rfl, by simp, T, he, ?_⟩⟩
  exact ⟨v, rfl, .ref b, rfl, b, C, rfl, T, ht, he, h⟩
end
/-! ### C(e): made, and raised -/
/-- all that is known of such a class -/
def ExcO (P : Program) (w : World) (K : PySem.W.Frag) (mg : Str → Option Value) (base : Heap) (c f : String) (bmB : List Value) (newId : String) : Prop :=
  ∃ (C fI : Addr) (fd : FuncData) (ps : List Str), mg (Str.ofString c) = some (.ref C) ∧ OxC K C bmB newId ∧ PySem.W.findIn K (.ref C) "__init__" = some (some (.ref fI)) ∧ PySem.W.typeIn K (.ref fI) = some (.type "function") ∧ PySem.W.takerIn K C (Str.ofString f) = some none ∧
    FnOk P w K mg base CX0 1 fI fd ps (spOx K bmB newId (Str.ofString f)) ∧ Binds K fd ps []
theorem ox_at {H : Hp} {a C dx : Addr} {f : Str} {v : V} (ha : H a = none) (hd : H dx = none) (hne : dx ≠ a) : upd (del (upd (upd (upd H a (exo a C none)) dx (exd dx [(f, v)])) a (exo a C (some dx))) a) dx (.xd [(f, v)]) = upd H dx (.xd [(f, v)]) := by
  funext b
  by_cases h1 : b = dx
  · subst h1; rw [upd_same, upd_same]
  · rw [upd_ne h1, upd_ne h1]
    by_cases h2 : b = a
    · subst h2; rw [del_same, ha]
    · rw [del_ne h2, upd_ne h2, upd_ne h1, upd_ne h2]
section
variable {X : Cx} {C : Ir.Calls} {W : WX} {B newId initId : String} {bmB : List Value}
/-- C(e) -/
theorem pmk_ox {c f : String} {e : Expr} {ta : TA} {p pos : Pos} (O : OxB X.K B newId initId bmB) (F : ExcO X.prog X.w X.K X.mg X.base c f bmB newId) (hr : Room 2 X.A) (hg : Gl X (Str.ofString c)) (ha : PA X [e] ta)
    (hdb : (Str.ofString c == ("__debug__" : Str)) = false := by decide) (hst : starEach [e] X.env = (false, eval e X.env) :: starEach [] X.env := by rfl) (hpl : (backTo pos (starEach [] X.env)).any (·.1) = false := by rfl) :
    PMk X (.Call (.Name (Str.ofString c) p) [e] [] pos) (fun σ H Q => ta σ H fun vs H1 => ∃ v, vs = [v] ∧ ∀ Cc d, X.mg (Str.ofString c) = some (.ref Cc) → H1 d = none → Q (.ref Cc) (some d) (upd H1 d (.xd [(Str.ofString f, v)]))) := by
  obtain ⟨Cc, fI, fd, ps, hm, T, iC, tI, htk, F1, hb⟩ := F
  intro pins s σ H Q I h
  refine wpAny_Call_Name_kw (ld_glob I hg hm ?_ hdb)
  refine PySem.W.callWith_K (h₀ := X.base) I.ok.mod.kin T.kp (thn (ha.run pos pins s σ H _ I h) fun us s1 ⟨vs, H1, I1, r1, v, hv, q1⟩ => ⟨I1.kIn, ?_⟩) hst hpl
  subst hv
  show wpAny _ _ (call (.ref Cc) us) _ _ _
  obtain ⟨hp, g, dr, tk, os⟩ := s1
  obtain ⟨nm, N', qn, bs, bm, hdct, sn, sub, ab, col, dd, k0, k1, k2, k3, k5, hC, hT⟩ := PySem.W.excInit_of I1.kIn T.init
  have z : hp.objs.size ≤ hp.objs.size + 1 := Nat.le_succ _
  have hn : H1 (hp.objs.size + 1) = none := I1.hok.fresh z
  have kk : ∀ b o, hp.get? b = some o → ((hp.push (PySem.W.kdv_tup us)).push (HandSPX.excO Cc hp.objs.size)).get? b = some o := fun b o e => Heap.get?_push_of_some _ (Heap.get?_push_of_some _ e)
  have I2 := I1.laid (t' := tk) (a := hp.objs.size + 1) (o := exo (hp.objs.size + 1) Cc none) (h' := (hp.push (PySem.W.kdv_tup us)).push (HandSPX.excO Cc hp.objs.size)) kk z (exo_ok (by heap_get))
  have r2 : Vals [V.ref (hp.objs.size + 1), v] (Value.ref (hp.objs.size + 1) :: us ++ []) := by rw [List.append_nil]; exact .cons rfl r1
  have hsp : spOx X.K bmB newId (Str.ofString f) [V.ref (hp.objs.size + 1), v] (upd H1 (hp.objs.size + 1) (exo (hp.objs.size + 1) Cc none)) (fun u H2 => u = .non ∧ ∃ d, H1 d = none ∧ d ≠ hp.objs.size + 1 ∧ H2 = upd (upd (upd H1 (hp.objs.size + 1) (exo (hp.objs.size + 1) Cc none)) d (exd d [(Str.ofString f, v)])) (hp.objs.size + 1) (exo (hp.objs.size + 1) Cc (some d))) (fun _ _ _ => False) :=
    ⟨_, Cc, v, rfl, T, htk, upd_same, fun dx n ne => ⟨rfl, dx, by rw [← n]; exact (upd_ne ne).symm, ne, rfl⟩⟩
  have hl : (Value.ref (hp.objs.size + 1) :: us).length = ps.length := by
    have e1 := r2.length
    rw [F1.len _ _ _ _ hsp, List.append_nil] at e1
    exact e1.symm
  have hl2 : (Value.ref (hp.objs.size + 1) :: us ++ []).length = ps.length := by rw [List.append_nil]; exact hl
  have hus : us.length ≤ sizeLine := by rw [← Paired.length r1, sizeLine_eq]; simp
  refine wpAny_call (HandSPX.call_own O.fb hT hC (PySem.W.looks_findIn I1.kIn iC) (fun self => PySem.W.bind_fn I1.kIn self tI) hus
    (codeAny_mono (F1.run _ X.stack _ _ ⟨Value.ref (hp.objs.size + 1) :: us, []⟩ (Value.ref (hp.objs.size + 1) :: us ++ []) _ _ (fun _ _ _ => False) (hr.make Cc us []) (I2.env0.make Cc us []) (hb _ (Value.ref (hp.objs.size + 1) :: us) I2.kIn hl2) r2 hsp) fun r s' hq' => ?_))
  cases r with
  | error er => exact hq'.elim
  | ok fl =>
    cases fl with
    | ret u =>
      obtain ⟨v2, H2, os2, bare2, un2, hok2, rv, ev, d, hd, hne, eH⟩ := hq'
      subst ev
      subst eH
      obtain ⟨h2, g2, d2, t2, os'⟩ := s'
      refine ⟨rv, mk_end (raises_own T.ex T.ty) I1 z kk un2 hok2 os2 bare2 upd_same (by rw [upd_ne hne, upd_same]) hd ?_⟩
      rw [ox_at hn hd hne]
      exact q1 Cc d hm hd
    | next => exact False.elim hq'
    | brk => exact False.elim hq'
    | cont => exact False.elim hq'
/-- raise C(e) -/
theorem ss_raiseA {c f : String} {e : Expr} {i : Ir.Ex} {p pos pos2 : Pos} (hc : X.calm = true) (tk : Takes X W) (O : OxB X.K B newId initId bmB) (F : ExcO X.prog X.w X.K X.mg X.base c f bmB newId) (hr : Room 2 X.A) (he : SE X C e i) (hg : Gl X (Str.ofString c) := by rfl)
    (hdb : (Str.ofString c == ("__debug__" : Str)) = false := by decide) (hst : starEach [e] X.env = (false, eval e X.env) :: starEach [] X.env := by rfl) (hpl : (backTo pos (starEach [] X.env)).any (·.1) = false := by rfl) :
    SS X C W (.Raise (some (.Call (.Name (Str.ofString c) p) [e] [] pos)) none pos2) (.raiseA c f i) := by
  refine ps_imp (ps_raise hc tk (pmk_ox O F hr hg (pa_cons he pa_nil hst) hdb hst hpl)) fun D σ H ⟨ρ, env, st, o, st', rs, re, ev, k⟩ => ?_
  simp only [Ir.exec] at ev
  obtain ⟨x, s1, e1, ev⟩ := bok ev
  obtain ⟨d, e2, ev⟩ := ook ev
  cases ev
  refine ⟨ρ, env, st, x, _, rs, re, e1, fun ρ1 H1 y x1 rs1 ry => ?_⟩
  refine ⟨y, rfl, fun Cc dd hm hd => ?_⟩
  obtain rfl := asD_ok e2
  have rd : RD ρ1 X.K H1 d y := ry
  exact k ρ1 _ σ _ _ (x1.trans (.grow rs1 hd _)) (rs1.grow hd _) ((re.mono x1).mono (.grow rs1 hd _)) ⟨hm, _, .inr ⟨dd, rfl, upd_same, rs1.fresh hd, by simp⟩, .cons (rd.mono (.grow rs1 hd _)) .nil⟩
end
/-! ### except C as e: return e.f -/
/-- what must be known of a class whose errors' fields are read -/
def ExcG (K : PySem.W.Frag) (mg : Str → Option Value) (c f : String) : Prop :=
  ∃ C : Addr, mg (Str.ofString c) = some (.ref C) ∧ XfC K C ∧ PySem.W.findIn K (.ref C) (Str.ofString f) = some none ∧ PySem.W.exmOne K (.ref C) (.ref C) = some true
theorem pe_len {X : Cx} {e : Expr} {te : TE} (h : PE X e te) : PE X e (fun σ H Q => σ.length = X.N.length → te σ H Q) := ⟨fun pins s σ H Q I q => h.run pins s σ H Q I (q I.len)⟩
theorem ss_tryF {X : Cx} {C : Ir.Calls} {W : WX} {c f : String} {body : List Stmt} {n : Str} {i : Nat} {np p1 p2 p3 pos pos' : Pos} {ib : List Ir.Stm} (tk : Takes X W) (hN : X.N.Nodup) (hF : ExcG X.K X.mg c f)
    (hb : ∀ (W' : WX) (pn : List (Addr × Obj)) (xe : Value → Shared → Prop), Takes (X.tr pn xe) W' → PassesOwn (model X.prog X.w) X.A X.env xe → SSs (X.tr pn xe) C W' body ib)
    (hi : X.N[i]? = some n := by rfl) (hl : X.env.kindOf n = some .local := by rfl) (hv : Vis X.env.scope n := by first | exact Or.inl rfl | exact Or.inr (Or.inl rfl) | exact Or.inr (Or.inr rfl))
    (hd : (n == ("__debug__" : Str)) = false := by decide) (hcd : (n == ("__classdict__" : Str)) = false := by decide)
    (hat : attributeBase (.Name n p1) (Str.ofString f) X.env (eval (.Name n p1) X.env) = eval (.Name n p1) X.env := by rfl)
    (hg : Gl X (Str.ofString c) := by rfl) (hdb : (Str.ofString c == ("__debug__" : Str)) = false := by decide) (hs : X.stack = X.env :: X.outer := by rfl) (hf : X.env.frame = some X.env.locals := by rfl) :
    SS X C W (.Try body [.ExceptHandler (some (.Name (Str.ofString c) np)) (some n) [.Return (some (.Attribute (.Name n p1) (Str.ofString f) p2)) p3] pos'] [] [] pos) (.tryF ib c i f) := by
  obtain ⟨Cc, hm, T, hno, he⟩ := hF
  refine ps_imp (ps_try_as (Wout := W) (c := .ref Cc) (tb := fun W' => tS C X.K X.mg W' ib) (ts := fun a cls d D σ H => tXf a cls d Cc (Str.ofString f) (fun σ H Q => σ.length = X.N.length → tVar i σ H Q) σ H (fun v H' => D.rt v H')) hs hf hN hi hl ⟨hg, hdb, .inl hm⟩ tk (fun W' pn xe tk' hp => hb W' pn xe tk' hp)
    fun a oe cls d pn hz hfs => pss_imp (pss_cons (ps_ret (pe_xf T hno hz hfs (pe_len (X := X.suite a ((a, oe) :: pn)) (pe_var hi hv hd hcd)) hat)) pss_nil) fun D σ H q => q) fun D σ H ⟨ρ, env, st, o, st', rs, re, ev, k⟩ => ?_
  simp only [Ir.exec] at ev
  obtain ⟨o1, s1, e1, ev1⟩ := bok ev
  clear ev
  refine ⟨ρ, env, st, o1, s1, rs, re, e1, ?_⟩
  cases o1 with
  | nx v => simp only at ev1; cases ev1; exact k
  | ret v => simp only at ev1; cases ev1; exact k
  | brk v => simp only at ev1; cases ev1; exact k
  | cnt v => simp only at ev1; cases ev1; exact k
  | thr c' as v =>
    simp only at ev1
    intro ρ1 H1 σ1 cls d x1 rs1 re1 rx
    split at ev1
    · rename_i hc
      subst hc
      obtain ⟨r1, gs, xd, fs⟩ := rx
      rw [hm] at r1
      cases r1
      obtain ⟨v1, e2, ev2⟩ := ook ev1
      cases ev2
      rcases fs.look (f := f) with ⟨q, _⟩ | ⟨d1, y, q1, q2, q3⟩
      · rw [q] at e2; cases e2
      rw [q1] at e2
      cases e2
      refine ⟨true, he, fun _ a ha => ?_, fun q => Bool.noConfusion q⟩
      refine fun hlen => ⟨.ref a, ?_, rfl, rfl, ?_⟩
      · have hi' := (List.getElem?_eq_some_iff.mp hi).1
        rw [List.length_set] at hlen
        rw [List.getElem?_set_self (by omega)]
      · rcases xd with ⟨rfl, rfl⟩ | ⟨dd, rfl, hdd, _⟩
        · cases q2
        · exact ⟨dd, gs, y, rfl, hdd, q2, k ρ1 H1 y x1 rs1 q3⟩
    · cases ev1
theorem oxb_Exception {K : PySem.W.Frag} (h : PySem.W.findCls K (.type "Exception") (.type "type") "__init__" = some (.val (.builtin "Exception.__init__"))) : OxB K "Exception" "Exception.__new__" "Exception.__init__" [.type "Exception", .type "BaseException", .type "object"] :=
  ⟨PySem.F.excBase_Exception, PySem.F.store_Exception, by kernel_rfl, by decide +kernel, h, by kernel_rfl, by decide +kernel⟩
end Snd

namespace Snd
open PySem PySem.Spec PyProof.Rows L2
/-! ### sorted(d): a dict's keys, all whole numbers, fewer than 64 -/
theorem rks_ints {ρ : Rho} {K : PySem.W.Frag} {H : Hp} : ∀ {kvs : List (Ir.D × Ir.D)} {ks : List (Key × V)} {l : List Int}, RKs ρ K H kvs ks → Ir.D.ints (kvs.map (·.1)) = some l → ks.map (·.1) = l.map Sum.inl
  | _, _, _, .nil, h => by simp [Ir.D.ints] at h; subst h; rfl
  | _, _, _, .cons (k := k) h1 _ r, h => by
    cases k with
    | int i =>
      simp only [List.map_cons, Ir.D.ints, Option.map_eq_some_iff] at h
      obtain ⟨l', e1, rfl⟩ := h
      have q := rks_ints r e1
      cases h1
      rw [List.map_cons, q]; rfl
    | _ => simp [Ir.D.ints] at h
theorem dkeysV_inv {st : Ir.Store} {x : Ir.Val} {d : Ir.D} (h : Ir.dkeysV st x = some d) : ∃ kvs l, ((∃ n, x = .ref n ∧ st[n]? = some (.dic kvs)) ∨ ∃ n, Ir.getO st x = some (n, .dic kvs)) ∧ Ir.D.ints (kvs.map (·.1)) = some l ∧ l.length < 64 ∧ d = .lst ((Ir.sortI l).map .int) := by
  have fin : ∀ {kvs : List (Ir.D × Ir.D)}, ((Ir.D.ints (kvs.map (·.1))).bind fun l => if l.length < 64 then some (Ir.D.lst ((Ir.sortI l).map .int)) else none) = some d → ∃ l, Ir.D.ints (kvs.map (·.1)) = some l ∧ l.length < 64 ∧ d = .lst ((Ir.sortI l).map .int) := fun {kvs} q => by
    obtain ⟨l, q1, q2⟩ := Option.bind_eq_some_iff.mp q
    split at q2
    · cases q2; exact ⟨l, q1, by assumption, rfl⟩
    · cases q2
  unfold Ir.dkeysV at h
  split at h
  · split at h
    · rename_i n _ kvs hn
      obtain ⟨l, q⟩ := fin h
      exact ⟨kvs, l, .inl ⟨n, rfl, hn⟩, q⟩
    · cases h
  · split at h
    · rename_i n kvs hn
      obtain ⟨l, q⟩ := fin h
      exact ⟨kvs, l, .inr ⟨n, hn⟩, q⟩
    · cases h
theorem is_dkeys {C : Ir.Calls} {i : Ir.Ex} : ∀ {env st v st'}, Ir.eval C (.dkeys i) env st = .ok v st' → ∃ xs, v = .d (.lst xs) := fun {env st v st'} ev => by
  simp only [Ir.eval] at ev
  obtain ⟨x, s1, e1, ev⟩ := bok ev
  obtain ⟨d, e2, ev⟩ := ook ev
  cases ev
  obtain ⟨_, l, _, _, _, rfl⟩ := dkeysV_inv e2
  exact ⟨_, rfl⟩
variable {X : Cx} {C : Ir.Calls}
theorem sn_dkeys {e : Expr} {i : Ir.Ex} {p pos : Pos} (hc : X.calm = true) (h : SE X C e i) (hm : X.mg (Str.ofString "sorted") = none) (hg : Gl X (Str.ofString "sorted") := by rfl)
    (he : starEach [e] X.env = (false, eval e X.env) :: starEach [] X.env := by rfl) (hpl : (backTo pos (starEach [] X.env)).any (·.1) = false := by rfl) :
    SN X C (.Call (.Name (Str.ofString "sorted") p) [e] [] pos) (.dkeys i) := by
  refine pe_imp (pe_callB (call_sortedDI hc) hg hm bv_sorted (pa_cons h pa_nil he) (by decide) (by decide) he hpl) fun σ H Q ⟨ρ, env, st, xs, st', rs, re, ev, k⟩ => ?_
  simp only [Ir.eval] at ev
  obtain ⟨x, s1, e1, ev⟩ := bok ev
  obtain ⟨d, e2, ev⟩ := ook ev
  obtain ⟨kvs, l, hx, hl, h64, e3⟩ := dkeysV_inv e2
  subst e3
  cases ev
  refine ⟨ρ, env, st, x, _, rs, re, e1, fun ρ1 H1 V1 x1 rs1 rv => ?_⟩
  have hh : ∃ a ks, V1 = .ref a ∧ H1 a = some (.dK ks) ∧ RKs ρ1 X.K H1 kvs ks := by
    rcases hx with ⟨n, rfl, hn⟩ | ⟨n, hn⟩
    · obtain ⟨a, rfl, h1, ks, h2, h3, h4⟩ := RV.cell rs1 rv hn (by simp)
      exact ⟨a, ks, rfl, h2, h4⟩
    · obtain ⟨a, os, rfl, ha, hA, ⟨ks, h2, h3, h4⟩⟩ := obj_at rs1 rv hn
      exact ⟨a, ks, rfl, h2, h4⟩
  obtain ⟨a, ks, rfl, h2, h4⟩ := hh
  refine ⟨a, ks, l, rfl, .inl h2, rks_ints h4 hl, h64, fun ys p hp hs hn => ?_⟩
  have e : ys = Ir.sortI l := List.Perm.eq_of_pairwise (fun a b _ _ h1 h2 => Int.le_antisymm h1 h2) hs (sort_sorted l) (hp.trans (sort_perm l).symm)
  subst e
  exact sn_fin x1 rs1 (ints_rds _) (by rw [List.length_map, (sort_perm l).length_eq, sizeLine_eq]; omega) hn k
theorem se_dkeys {e : Expr} {i : Ir.Ex} {p pos : Pos} (hc : X.calm = true) (h : SE X C e i) (hm : X.mg (Str.ofString "sorted") = none) (hg : Gl X (Str.ofString "sorted") := by rfl)
    (he : starEach [e] X.env = (false, eval e X.env) :: starEach [] X.env := by rfl) (hpl : (backTo pos (starEach [] X.env)).any (·.1) = false := by rfl) :
    SE X C (.Call (.Name (Str.ofString "sorted") p) [e] [] pos) (.dkeys i) := se_list (fun _ _ _ _ ev => is_dkeys ev) (sn_dkeys hc h hm hg he hpl)
/-! ### three names at once -/
/-! ### a new list, given out as data at once -/
theorem se_frzT {e : Expr} {ir : Ir.Ex} (h : SE X C e ir) : SE X C e (.frzT ir) := by
  refine pe_imp h fun σ H Q ⟨ρ, env, st, v, st', rs, re, ev, k⟩ => ?_
  simp only [Ir.eval] at ev
  obtain ⟨x, s1, e1, ev⟩ := bok ev
  split at ev
  · rename_i n
    split at ev
    · rename_i hle
      split at ev
      · rename_i xs hx
        cases ev
        refine ⟨ρ, env, st, _, s1, rs, re, e1, fun ρ1 H1 X1 x1 rs1 rx => ?_⟩
        obtain ⟨a, e2, e3, ys, h1, h2, h3⟩ := RV.cell rs1 rx hx (by simp)
        subst e2
        have hn : n < ρ1.ix.length := (List.getElem?_eq_some_iff.mp e3).1
        obtain ⟨t1, t2, sub⟩ := take_rs (x1.trans (.kill ρ1 H1 n)) (rs1.kill hn)
        have el : ρ.ix.length = st.length := rs.len.symm
        have es : (s1.set n Ir.Cell.dead).take ρ.ix.length = s1.take st.length := by
          rw [el]
          apply List.ext_getElem?
          intro i
          by_cases hi : i < st.length
          · rw [List.getElem?_take, List.getElem?_take, if_pos hi, if_pos hi, List.getElem?_set_ne (by omega)]
          · rw [List.getElem?_take, List.getElem?_take, if_neg hi, if_neg hi]
        rw [es] at t1
        exact k _ _ _ t2 t1 (RD.sub sub (fun _ _ q => q) (RD.lst h1 (kill_notin rs1 e3) h2 (h3.mono (.kill ρ1 H1 n))))
      · cases ev
    · cases ev
  · cases ev
/-! ### a test by a choice -/
theorem pt_ifExp {c a b : Expr} {pos : Pos} {tc ta tb : TT} (hc : PT X c tc) (ha : PT X a ta) (hb : PT X b tb) : PT X (.IfExp c a b pos) (fun σ H Q => tc σ H fun d H1 => if d = true then ta σ H1 Q else tb σ H1 Q) := by
  refine ⟨fun pins s σ H Q I h => ?_⟩
  rw [arm_isTrue_IfExp]
  refine wpAny_bind (thn (hc.run pins s σ H _ I h) fun d s1 ⟨H1, I1, q1⟩ => ?_)
  cases d with
  | true => exact ha.run pins s1 σ H1 Q I1 q1
  | false => exact hb.run pins s1 σ H1 Q I1 q1
theorem st_ite {c a b : Expr} {ic ia ib : Ir.Ex} {pos : Pos} (hc : ST X C c ic) (ha : ST X C a ia) (hb : ST X C b ib) : ST X C (.IfExp c a b pos) (.ite ic ia ib) := by
  refine pt_imp (pt_ifExp hc ha hb) fun σ H Q ⟨ρ, env, st, v, st', rs, re, ev, k⟩ => ?_
  simp only [Ir.eval] at ev
  obtain ⟨x, s1, e1, ev⟩ := bok ev
  obtain ⟨c, e2, ev⟩ := ook ev
  obtain rfl := asB_ok e2
  refine ⟨ρ, env, st, c, s1, rs, re, e1, fun ρ1 H1 x1 rs1 => ?_⟩
  cases c with
  | false =>
    simp only [Bool.false_eq_true, if_false] at ev ⊢
    exact ⟨ρ1, env, s1, v, st', rs1, re.mono x1, ev, fun ρ2 H2 x2 rs2 => k ρ2 H2 (x1.trans x2) rs2⟩
  | true =>
    simp only [if_true] at ev ⊢
    exact ⟨ρ1, env, s1, v, st', rs1, re.mono x1, ev, fun ρ2 H2 x2 rs2 => k ρ2 H2 (x1.trans x2) rs2⟩
/-! ### a list of one's own: is it not empty -/
theorem st_cnn {a : Expr} {ia : Ir.Ex} {pos p : Pos} {n : Nat} (hr : Room n X.A) (ha : SE X C a ia) (hm : behindInMarks .NotEq (.List [] p) = false := by first | exact nomark _ | rfl) : ST X C (.Compare a [.NotEq] [.List [] p] pos) (.nn ia) := by
  refine pt_imp (pt_cmpR (op_notnil hr) ha (pe_lst pa_nil) hm) fun σ H Q ⟨ρ, env, st, v, st', rs, re, ev, k⟩ => ?_
  simp only [Ir.eval] at ev
  obtain ⟨x, s1, e1, ev⟩ := bok ev
  obtain ⟨d, e2, ev⟩ := ook ev
  cases ev
  refine ⟨ρ, env, st, x, _, rs, re, e1, fun ρ1 H1 X1 x1 rs1 rx => ⟨Nat.zero_le _, fun p hp => ?_⟩⟩
  unfold Ir.nnV at e2
  split at e2
  · rename_i m _
    split at e2
    · rename_i xs hn
      obtain ⟨b, rfl, h1, h2⟩ := RV.cell rs1 rx hn (by simp)
      obtain ⟨zs, h2, h3, h4⟩ := h2
      have w : Ext ρ1 H1 ρ1 (upd H1 p (.lst [])) := .grow rs1 hp _
      have hne : b ≠ p := ne_of_none h2 hp
      cases e2
      refine ⟨b, p, zs, rfl, rfl, SqL.of (by rw [upd_ne hne]; exact h2), SqL.of upd_same, ?_⟩
      have hz : (zs.isEmpty != true) = !xs.isEmpty := by
        have := h4.length
        cases xs <;> cases zs <;> simp at this <;> rfl
      rw [hz]
      exact ⟨_, rfl, k ρ1 _ (x1.trans w) (rs1.grow hp _)⟩
    · cases e2
  · cases e2
/-! ### calls of defs with keyword-only parameters -/
theorem funK_mk {K : PySem.W.Frag} {x qual n : Str} {st : Stmt} {f D : Addr} {oc u : Value} {od an : Option Addr} {osl : Array (Option Value)} {doc pm cdv ct : Value} {d : Ir.D}
    (l : K.lookup f = some ⟨oc, od, .func (PySem.W.fnOf x qual (defArgs st) (defBody st) (defScope st) .none (.ref D) doc pm an cdv ct), osl⟩)
    (c : PySem.W.codeIn K cdv qual = true) (k : PySem.W.keepIn K (.ref f) = true) (hu : PySem.W.nsIn K D n = some (some u)) (hd : KVs K [d] [u]) :
    ∃ v, (∀ ρ H, RDs ρ K H [d] [v]) ∧ FunD K x qual (defArgs st) (defBody st) (defScope st) [] [(n, v)] f (PySem.W.fnOf x qual (defArgs st) (defBody st) (defScope st) .none (.ref D) doc pm an cdv ct) := by
  obtain ⟨vs, h1, h2⟩ := hd.rel
  cases h1 with
  | cons r t =>
    cases t
    exact ⟨_, h2, ⟨⟨oc, od, .none, .ref D, doc, pm, an, cdv, ct, osl, rfl, l, c, .inl ⟨rfl, rfl⟩, .inr ⟨D, rfl, fun q hq => by
      rw [List.mem_singleton] at hq
      subst hq
      exact ⟨u, hu, r⟩⟩⟩, k⟩⟩
section
variable {K : PySem.W.Frag} {x qual : Str} {params : Arguments} {body : List Stmt} {scope : Scope} {kws : List (Str × V)} {f : Addr} {fd : FuncData} {ps : List Str}
end
end Snd

namespace Prog
abbrev f_numbered_b0 : List Ir.Stm := [.asg (.tup [.name 8, .name 5]) (.call "numbered" [.var 7, .var 5]),
    .ex (.mth .append (.var 6) [.var 8])]
def f_numbered : Ir.Fn := ⟨9, 2, [.asg (.star [2] 3 []) (.var 0),
    .ite (.cmp .eq (.var 2) (.con (.str "off"))) [.ret (.call "numbered" [.idx (.var 3) (.con (.int 0)), .var 1])] [],
    .ite (.or (.cmp .isin (.var 2) (.con (.tup [.str "num", .str "truth", .str "nil"]))) (.cmp .eq (.var 2) (.con (.str "name")))) [.ret (.tup [.tup [.var 1, .var 2, .var 3, .lst []], .bin .add (.var 1) (.con (.int 1))])] [],
    .asg (.name 4) (.sli (.var 3) none (some (.kdd [("fn", .int 1), ("rec", .int 2), ("let", .int 1)] (.var 2) (.con (.int 0))))),
    .asg (.name 5) (.bin .add (.var 1) (.con (.int 1))),
    .asg (.name 6) (.newL (.lst [])),
    .loop (.name 7) (.sli (.var 3) (some (.blt .len [.var 4])) none) f_numbered_b0,
    .ret (.tup [.tup [.var 1, .var 2, .var 4, .frz (.var 6)], .var 5])], false, .df⟩
def f_size_of : Ir.Fn := ⟨1, 1, [.ret (.ite (.cmp .isin (.idx (.var 0) (.con (.int 0))) (.tup [.con (.str "pair"), .con (.str "cons")])) (.idx (.var 0) (.con (.int 3))) (.con (.int 1)))], false, .df⟩
def f_joined : Ir.Fn := ⟨3, 3, [.ret (.tup [.var 0, .var 1, .var 2, .bin .add (.bin .add (.con (.int 1)) (.call "size_of" [.var 1])) (.call "size_of" [.var 2])])], false, .df⟩
def f_shown : Ir.Fn := ⟨3, 1, [.asg (.star [1] 2 []) (.var 0),
    .ite (.cmp .eq (.var 1) (.con (.str "num"))) [.ret (.blt .str [.idx (.var 2) (.con (.int 0))])] [],
    .ite (.cmp .eq (.var 1) (.con (.str "truth"))) [.ret (.ite (.idx (.var 2) (.con (.int 0))) (.con (.str "true")) (.con (.str "false")))] [],
    .ite (.cmp .isin (.var 1) (.tup [.con (.str "pair"), .con (.str "cons")])) [.ret (.fs [.con (.str "("), .blt .str [.var 1], .con (.str " "), .blt .str [.call "shown" [.idx (.var 2) (.con (.int 0))]], .con (.str " "), .blt .str [.call "shown" [.idx (.var 2) (.con (.int 1))]], .con (.str ")")])] [],
    .ret (.var 1)], false, .df⟩
def f_is_list : Ir.Fn := ⟨1, 1, [.ret (.cmp .isin (.idx (.var 0) (.con (.int 0))) (.tup [.con (.str "nil"), .con (.str "cons")]))], false, .df⟩
def f_Runner___init__ : Ir.Fn := ⟨5, 3, [.asg (.tup [.name 3, .name 4]) (.call "numbered" [.var 1, .con (.int 0)]),
    .setf "Runner" (.var 0) "tasks" (.newO (.lst [.tup [.var 3, .con .non, .con (.bool false)]])),
    .setf "Runner" (.var 0) "told" (.newO (.lst [])),
    .setf "Runner" (.var 0) "begun" (.newOD),
    .setf "Runner" (.var 0) "left" (.var 2)], false, .mt "Runner" "__init__"⟩
abbrev f_Runner_looked_up_b0 : List Ir.Stm := [.asg (.name 2) (.idx (.var 2) (.con (.int 2)))]
abbrev f_Runner_looked_up_w0 : Ir.Ex := .cmp .ne (.idx (.var 2) (.con (.int 0))) (.var 1)
def f_Runner_looked_up : Ir.Fn := ⟨3, 3, [.while (f_Runner_looked_up_w0) f_Runner_looked_up_b0,
    .ret (.idx (.var 2) (.con (.int 1)))], false, .mt "Runner" "looked_up"⟩
abbrev f_Runner_begin_c0 : Ir.Ex := .tup [.var 8, .var 2, .con (.bool false)]
def f_Runner_begin : Ir.Fn := ⟨9, 3, [.asg (.tup [.name 3, .name 4, .name 5, .name 6]) (.var 1),
    .ite (.cmp .eq (.fld "Runner" (.var 0) "left") (.con (.int 0))) [.raiseA "Ended" "end" (.tup [.con (.str "far")])] [],
    .augf "Runner" (.var 0) "left" .sub (.con (.int 1)),
    .setO (.fld "Runner" (.var 0) "begun") (.var 3) (.con (.bool true)),
    .ite (.cmp .isin (.var 4) (.con (.tup [.str "num", .str "truth", .str "nil"]))) [.ex (.om .append (.fld "Runner" (.var 0) "told") [.blt .tuple [.bin .add (.lst [.var 4]) (.var 5)]])] [.ite (.cmp .eq (.var 4) (.con (.str "name"))) [.ex (.om .append (.fld "Runner" (.var 0) "told") [.meth "Runner" "looked_up" (.var 0) [.idx (.var 5) (.con (.int 0)), .var 2]])] [.ite (.cmp .isin (.var 4) (.tup [.con (.str "fn"), .con (.str "rec")])) [.ex (.om .append (.fld "Runner" (.var 0) "told") [.tup [.con (.str "fn"), .var 5, .idx (.var 6) (.con (.int 0)), .var 2]])] [.ex (.om .append (.fld "Runner" (.var 0) "tasks") [.tup [.var 1, .var 2, .con (.bool true)]]),
    .asg (.name 7) (.ite (.cmp .isin (.var 4) (.tup [.con (.str "let"), .con (.str "if")])) (.con (.int 1)) (.blt .len [.var 6])),
    .ex (.om .extend (.fld "Runner" (.var 0) "tasks") [.comp (f_Runner_begin_c0) (.name 8) (.rev (.sli (.var 6) none (some (.var 7)))) []])]]]], true, .mt "Runner" "begin"⟩
def f_Runner_called : Ir.Fn := ⟨8, 2, [.par 2 3 (.om .pop (.fld "Runner" (.var 0) "told") []) (.om .pop (.fld "Runner" (.var 0) "told") []),
    .ite (.cmp .ne (.idx (.var 3) (.con (.int 0))) (.con (.str "fn"))) [.raiseA "Ended" "end" (.tup [.con (.str "stuck"), .var 1])] [],
    .asg (.tup [.name 4, .name 5, .name 6, .name 7]) (.var 3),
    .ite (.cmp .eq (.blt .len [.var 5]) (.con (.int 2))) [.asg (.name 7) (.tup [.idx (.var 5) (.con (.int 0)), .var 3, .var 7])] [],
    .ex (.om .append (.fld "Runner" (.var 0) "tasks") [.tup [.var 6, .tup [.idx (.var 5) (.neg (.con (.int 1))), .var 2, .var 7], .con (.bool false)]])], true, .mt "Runner" "called"⟩
def f_Runner_numbers : Ir.Fn := ⟨5, 3, [.par 3 4 (.om .pop (.fld "Runner" (.var 0) "told") []) (.om .pop (.fld "Runner" (.var 0) "told") []),
    .ite (.or (.cmp .ne (.idx (.var 4) (.con (.int 0))) (.con (.str "num"))) (.cmp .ne (.idx (.var 3) (.con (.int 0))) (.con (.str "num")))) [.raiseA "Ended" "end" (.tup [.con (.str "stuck"), .var 1])] [],
    .ex (.om .append (.fld "Runner" (.var 0) "told") [.ite (.cmp .eq (.var 2) (.con (.str "plus"))) (.tup [.con (.str "num"), .bin .add (.idx (.var 4) (.con (.int 1))) (.idx (.var 3) (.con (.int 1)))]) (.tup [.con (.str "truth"), .cmp .lt (.idx (.var 4) (.con (.int 1))) (.idx (.var 3) (.con (.int 1)))])])], true, .mt "Runner" "numbers"⟩
def f_Runner_put_together : Ir.Fn := ⟨5, 3, [.par 3 4 (.om .pop (.fld "Runner" (.var 0) "told") []) (.om .pop (.fld "Runner" (.var 0) "told") []),
    .ite (.and (.cmp .eq (.var 2) (.con (.str "cons"))) (.not (.call "is_list" [.var 3]))) [.raiseA "Ended" "end" (.tup [.con (.str "stuck"), .var 1])] [],
    .ex (.om .append (.fld "Runner" (.var 0) "told") [.call "joined" [.var 2, .var 4, .var 3]])], true, .mt "Runner" "put_together"⟩
def f_Runner_part_of : Ir.Fn := ⟨4, 3, [.asg (.name 3) (.om .pop (.fld "Runner" (.var 0) "told") []),
    .ite (.ite (.cmp .isin (.var 2) (.tup [.con (.str "head"), .con (.str "tail"), .con (.str "none")])) (.not (.call "is_list" [.var 3])) (.cmp .ne (.idx (.var 3) (.con (.int 0))) (.con (.str "pair")))) [.raiseA "Ended" "end" (.tup [.con (.str "stuck"), .var 1])] [],
    .ite (.cmp .eq (.var 2) (.con (.str "none"))) [.ex (.om .append (.fld "Runner" (.var 0) "told") [.tup [.con (.str "truth"), .cmp .eq (.idx (.var 3) (.con (.int 0))) (.con (.str "nil"))]])] [.ite (.cmp .eq (.idx (.var 3) (.con (.int 0))) (.con (.str "nil"))) [.raiseA "Ended" "end" (.tup [.con (.str "empty"), .var 1])] [.ex (.om .append (.fld "Runner" (.var 0) "told") [.ite (.cmp .isin (.var 2) (.tup [.con (.str "first"), .con (.str "head")])) (.idx (.var 3) (.con (.int 1))) (.idx (.var 3) (.con (.int 2)))])]]], true, .mt "Runner" "part_of"⟩
def f_Runner_finish : Ir.Fn := ⟨8, 3, [.asg (.tup [.name 3, .name 4, .name 5, .name 6]) (.var 1),
    .ite (.cmp .eq (.var 4) (.con (.str "call"))) [.exX (.meth "Runner" "called" (.var 0) [.p (.var 3)])] [.ite (.cmp .eq (.var 4) (.con (.str "let"))) [.ex (.om .append (.fld "Runner" (.var 0) "tasks") [.tup [.idx (.var 6) (.con (.int 1)), .tup [.idx (.var 5) (.con (.int 0)), .om .pop (.fld "Runner" (.var 0) "told") [], .var 2], .con (.bool false)]])] [.ite (.cmp .eq (.var 4) (.con (.str "if"))) [.asg (.name 7) (.om .pop (.fld "Runner" (.var 0) "told") []),
    .ite (.cmp .ne (.idx (.var 7) (.con (.int 0))) (.con (.str "truth"))) [.raiseA "Ended" "end" (.tup [.con (.str "stuck"), .var 3])] [],
    .ex (.om .append (.fld "Runner" (.var 0) "tasks") [.tup [.ite (.idx (.var 7) (.con (.int 1))) (.idx (.var 6) (.con (.int 1))) (.idx (.var 6) (.con (.int 2))), .var 2, .con (.bool false)]])] [.ite (.cmp .isin (.var 4) (.tup [.con (.str "plus"), .con (.str "less")])) [.exX (.meth "Runner" "numbers" (.var 0) [.p (.var 3), .p (.var 4)])] [.ite (.cmp .isin (.var 4) (.tup [.con (.str "pair"), .con (.str "cons")])) [.exX (.meth "Runner" "put_together" (.var 0) [.p (.var 3), .p (.var 4)])] [.exX (.meth "Runner" "part_of" (.var 0) [.p (.var 3), .p (.var 4)])]]]]]], true, .mt "Runner" "finish"⟩
abbrev f_Runner_go_on_b0 : List Ir.Stm := [.asg (.tup [.name 2, .name 3, .name 4]) (.om .pop (.fld "Runner" (.var 0) "tasks") []),
    .ite (.var 4) [.exX (.meth "Runner" "finish" (.var 0) [.p (.var 2), .p (.var 3)])] [.exX (.meth "Runner" "begin" (.var 0) [.p (.var 2), .p (.var 3)])]]
abbrev f_Runner_go_on_w0 : Ir.Ex := .oq .notnil (.fld "Runner" (.var 0) "tasks") []
def f_Runner_go_on : Ir.Fn := ⟨6, 1, [.tryF [.while (f_Runner_go_on_w0) f_Runner_go_on_b0] "Ended" 5 "end",
    .asg (.name 1) (.om .pop (.fld "Runner" (.var 0) "told") []),
    .ret (.tup [.con (.str "value"), .ite (.cmp .gt (.call "size_of" [.var 1]) (.con (.int 200))) (.con (.str "large")) (.call "shown" [.var 1])])], false, .mt "Runner" "go_on"⟩
def f_run : Ir.Fn := ⟨4, 2, [.asg (.name 2) (.call "Runner" [.var 0, .var 1]),
    .asg (.name 3) (.meth "Runner" "go_on" (.var 2) []),
    .ret (.tup [.var 3, .dkeys (.fld "Runner" (.var 2) "begun")])], false, .dk⟩
abbrev f_law_bag_b0 : List Ir.Stm := [.asg (.name 1) (.bin .mod (.bin .add (.bin .add (.bin .mul (.var 1) (.con (.int 48271))) (.bin .mod (.var 2) (.con (.int 2147483629)))) (.con (.int 1))) (.con (.int 2147483647)))]
abbrev f_law_bag_c0 : Ir.Ex := .bin .mod (.blt .abs [.var 2]) (.bin .pow (.bin .pow (.con (.int 10)) (.con (.int 60))) (.con (.int 10)))
def f_law_bag : Ir.Fn := ⟨3, 1, [.asg (.name 1) (.con (.int 29)),
    .loop (.name 2) (.sli (.var 0) none (some (.con (.int 63)))) f_law_bag_b0,
    .ret (.newL (.lst [.comp (f_law_bag_c0) (.name 2) (.sli (.var 0) none (some (.con (.int 63)))) [], .con (.int 0), .con (.int 0), .var 1, .con (.int 0)]))], false, .df⟩
abbrev f_law_stirred_b0 : List Ir.Stm := [.set (.var 0) (.con (.int 4)) (.bin .add (.idx (.var 0) (.con (.int 4))) (.con (.int 1))),
    .set (.var 0) (.con (.int 3)) (.bin .mod (.bin .add (.bin .add (.bin .add (.bin .pow (.idx (.var 0) (.con (.int 3))) (.con (.int 3))) (.bin .mul (.con (.int 69621)) (.idx (.var 0) (.con (.int 3))))) (.bin .mul (.con (.int 1031)) (.idx (.var 0) (.con (.int 4))))) (.con (.int 1))) (.con (.int 2147483647))),
    .asg (.name 2) (.bin .add (.bin .mul (.var 2) (.con (.int 134217728))) (.bin .fdiv (.idx (.var 0) (.con (.int 3))) (.con (.int 16))))]
def f_law_stirred : Ir.Fn := ⟨4, 2, [.asg (.name 2) (.con (.int 0)),
    .loop (.name 3) (.blt .range [.bin .add (.con (.int 1)) (.bin .fdiv (.mth .bit_length (.var 1) []) (.con (.int 27)))]) f_law_stirred_b0,
    .ret (.bin .mod (.var 2) (.var 1))], false, .df⟩
def f_law_draw : Ir.Fn := ⟨3, 2, [.ite (.and (.cmp .eq (.idx (.var 0) (.con (.int 2))) (.con (.int 0))) (.cmp .lt (.idx (.var 0) (.con (.int 1))) (.blt .len [.idx (.var 0) (.con (.int 0))]))) [.set (.var 0) (.con (.int 2)) (.idx (.idx (.var 0) (.con (.int 0))) (.idx (.var 0) (.con (.int 1)))),
    .set (.var 0) (.con (.int 1)) (.bin .add (.idx (.var 0) (.con (.int 1))) (.con (.int 1)))] [.ite (.cmp .eq (.idx (.var 0) (.con (.int 2))) (.con (.int 0))) [.ret (.call "_law_stirred" [.var 0, .var 1])] []],
    .asg (.name 2) (.bin .mod (.idx (.var 0) (.con (.int 2))) (.var 1)),
    .set (.var 0) (.con (.int 2)) (.bin .fdiv (.idx (.var 0) (.con (.int 2))) (.var 1)),
    .ret (.var 2)], false, .df⟩
def f_law_binds : Ir.Fn := ⟨1, 1, [.ret (.mth .get (.newDd [.con (.str "fn"), .con (.int 1), .con (.str "rec"), .con (.int 2), .con (.str "let"), .con (.int 1)]) [.idx (.var 0) (.con (.int 0)), .con (.int 0)])], false, .df⟩
def f_law_parts : Ir.Fn := ⟨1, 1, [.ite (.cmp .isin (.idx (.var 0) (.con (.int 0))) (.lst [.con (.str "num"), .con (.str "truth"), .con (.str "name"), .con (.str "nil")])) [.ret (.newL (.lst []))] [],
    .ret (.newL (.blt .list [.sli (.var 0) (some (.bin .add (.con (.int 1)) (.call "_law_binds" [.var 0]))) none]))], false, .df⟩
abbrev f_law_bounded_c0 : Ir.Ex := .tup [.idx (.var 7) (.var 8), .or (.var 6) (.and (.cmp .eq (.idx (.var 5) (.con (.int 0))) (.con (.str "let"))) (.cmp .eq (.var 8) (.con (.int 0))))]
abbrev f_law_bounded_b0 : List Ir.Stm := [.asg (.name 5) (.ite (.cmp .eq (.idx (.var 5) (.con (.int 0))) (.con (.str "off"))) (.idx (.var 5) (.con (.int 1))) (.var 5)),
    .asg (.name 7) (.frzT (.call "_law_parts" [.var 5])),
    .ex (.mth .append (.var 2) [.and (.var 6) (.cmp .isin (.idx (.var 5) (.con (.int 0))) (.lst [.con (.str "fn"), .con (.str "rec")]))]),
    .asg (.name 4) (.bin .add (.var 4) (.comp (f_law_bounded_c0) (.name 8) (.blt .range [.blt .len [.var 7]]) []))]
abbrev f_law_bounded_b1 : List Ir.Stm := [.asg (.name 4) (.lst []),
    .loop (.tup [.name 5, .name 6]) (.var 1) f_law_bounded_b0,
    .asg (.name 1) (.var 4),
    .asg (.name 3) (.bin .add (.var 3) (.con (.int 1)))]
abbrev f_law_bounded_w0 : Ir.Ex := .cmp .ne (.var 1) (.lst [])
def f_law_bounded : Ir.Fn := ⟨9, 1, [.asg (.name 1) (.lst [.tup [.var 0, .con (.bool false)]]),
    .asg (.name 2) (.newL (.lst [])),
    .asg (.name 3) (.con (.int 0)),
    .while (f_law_bounded_w0) f_law_bounded_b1,
    .ret (.and (.cmp .le (.blt .len [.var 2]) (.con (.int 40))) (.and (.cmp .le (.var 3) (.con (.int 30))) (.or (.cmp .le (.blt .len [.var 2]) (.con (.int 16))) (.not (.blt .any [.var 2])))))], false, .df⟩
abbrev f_law_rows_c0 : Ir.Ex := .call "_law_rows" [.var 4, .var 1]
def f_law_rows : Ir.Fn := ⟨5, 2, [.asg (.name 0) (.ite (.cmp .eq (.idx (.var 0) (.con (.int 0))) (.con (.str "off"))) (.idx (.var 0) (.con (.int 1))) (.var 0)),
    .asg (.name 2) (.blt .len [.var 1]),
    .ex (.mth .append (.var 1) [.con .non]),
    .asg (.name 3) (.comp (f_law_rows_c0) (.name 4) (.frzT (.call "_law_parts" [.var 0])) []),
    .set (.var 1) (.var 2) (.tup [.idx (.var 0) (.con (.int 0)), .blt .list [.sli (.var 0) (some (.con (.int 1))) (some (.bin .sub (.blt .len [.var 0]) (.blt .len [.var 3])))], .var 3]),
    .ret (.var 2)], false, .df⟩
def f_law_size : Ir.Fn := ⟨1, 1, [.ret (.ite (.cmp .isin (.idx (.var 0) (.con (.int 0))) (.lst [.con (.str "pair"), .con (.str "cons")])) (.idx (.var 0) (.con (.int 3))) (.con (.int 1)))], false, .df⟩
def f_law_told : Ir.Fn := ⟨3, 2, [.asg (.name 2) (.idx (.var 1) (.con (.int 0))),
    .ite (.cmp .isin (.var 0) (.lst [.con (.str "plus"), .con (.str "less")])) [.ite (.or (.cmp .ne (.idx (.var 2) (.con (.int 0))) (.con (.str "num"))) (.cmp .ne (.idx (.idx (.var 1) (.con (.int 1))) (.con (.int 0))) (.con (.str "num")))) [.ret (.tup [.con (.str "stuck")])] [],
    .ret (.tup [.con (.str "value"), .ite (.cmp .eq (.var 0) (.con (.str "plus"))) (.tup [.con (.str "num"), .bin .add (.idx (.var 2) (.con (.int 1))) (.idx (.idx (.var 1) (.con (.int 1))) (.con (.int 1)))]) (.tup [.con (.str "truth"), .cmp .lt (.idx (.var 2) (.con (.int 1))) (.idx (.idx (.var 1) (.con (.int 1))) (.con (.int 1)))])])] [],
    .ite (.cmp .isin (.var 0) (.lst [.con (.str "pair"), .con (.str "cons")])) [.ite (.and (.cmp .eq (.var 0) (.con (.str "cons"))) (.cmp .notin (.idx (.idx (.var 1) (.con (.int 1))) (.con (.int 0))) (.lst [.con (.str "nil"), .con (.str "cons")]))) [.ret (.tup [.con (.str "stuck")])] [],
    .ret (.tup [.con (.str "value"), .tup [.var 0, .var 2, .idx (.var 1) (.con (.int 1)), .bin .add (.bin .add (.con (.int 1)) (.call "_law_size" [.var 2])) (.call "_law_size" [.idx (.var 1) (.con (.int 1))])]])] [],
    .ite (.cmp .isin (.var 0) (.lst [.con (.str "first"), .con (.str "second")])) [.ret (.ite (.cmp .eq (.idx (.var 2) (.con (.int 0))) (.con (.str "pair"))) (.tup [.con (.str "value"), .idx (.var 2) (.bin .add (.con (.int 1)) (.blt .int [.cmp .eq (.var 0) (.con (.str "second"))]))]) (.tup [.con (.str "stuck")]))] [],
    .ite (.cmp .notin (.idx (.var 2) (.con (.int 0))) (.lst [.con (.str "nil"), .con (.str "cons")])) [.ret (.tup [.con (.str "stuck")])] [],
    .ite (.cmp .eq (.var 0) (.con (.str "none"))) [.ret (.tup [.con (.str "value"), .tup [.con (.str "truth"), .cmp .eq (.idx (.var 2) (.con (.int 0))) (.con (.str "nil"))]])] [],
    .ret (.ite (.cmp .eq (.idx (.var 2) (.con (.int 0))) (.con (.str "nil"))) (.tup [.con (.str "empty")]) (.tup [.con (.str "value"), .idx (.var 2) (.bin .add (.con (.int 1)) (.blt .int [.cmp .eq (.var 0) (.con (.str "tail"))]))]))], false, .df⟩
def f_law_entered : Ir.Fn := ⟨11, 4, [.asg (.tup [.name 4, .name 5, .name 6]) (.idx (.var 0) (.var 1)),
    .ite (.cmp .eq (.var 4) (.con (.str "let"))) [.ret (.lst [.idx (.var 6) (.con (.int 1)), .bin .add (.var 2) (.lst [.tup [.idx (.var 5) (.con (.int 0)), .idx (.var 3) (.con (.int 0))]])])] [],
    .ite (.cmp .eq (.var 4) (.con (.str "if"))) [.ret (.ite (.cmp .eq (.idx (.idx (.var 3) (.con (.int 0))) (.con (.int 0))) (.con (.str "truth"))) (.lst [.idx (.var 6) (.bin .sub (.con (.int 2)) (.blt .int [.idx (.idx (.var 3) (.con (.int 0))) (.con (.int 1))])), .var 2]) (.con .non))] [],
    .ite (.cmp .ne (.idx (.idx (.var 3) (.con (.int 0))) (.con (.int 0))) (.con (.str "fn"))) [.ret (.con .non)] [],
    .asg (.tup [.name 7, .name 8, .name 9]) (.sli (.idx (.var 3) (.con (.int 0))) (some (.con (.int 1))) none),
    .asg (.name 10) (.bin .add (.bin .lmul (.lst [.tup [.idx (.var 7) (.con (.int 0)), .idx (.var 3) (.con (.int 0))]]) (.blt .int [.cmp .eq (.blt .len [.var 7]) (.con (.int 2))])) (.lst [.tup [.idx (.var 7) (.neg (.con (.int 1))), .idx (.var 3) (.con (.int 1))]])),
    .ret (.lst [.var 8, .bin .add (.var 9) (.var 10)])], false, .df⟩
def f_law_shown : Ir.Fn := ⟨1, 1, [.ite (.cmp .gt (.call "_law_size" [.var 0]) (.con (.int 200))) [.ret (.con (.str "large"))] [],
    .ite (.cmp .isin (.idx (.var 0) (.con (.int 0))) (.lst [.con (.str "pair"), .con (.str "cons")])) [.ret (.bin .add (.bin .add (.bin .add (.bin .add (.bin .add (.bin .add (.con (.str "(")) (.idx (.var 0) (.con (.int 0)))) (.con (.str " "))) (.call "_law_shown" [.idx (.var 0) (.con (.int 1))])) (.con (.str " "))) (.call "_law_shown" [.idx (.var 0) (.con (.int 2))])) (.con (.str ")")))] [],
    .ite (.cmp .eq (.idx (.var 0) (.con (.int 0))) (.con (.str "truth"))) [.ret (.ite (.idx (.var 0) (.con (.int 1))) (.con (.str "true")) (.con (.str "false")))] [],
    .ret (.ite (.cmp .eq (.idx (.var 0) (.con (.int 0))) (.con (.str "num"))) (.blt .str [.idx (.var 0) (.con (.int 1))]) (.idx (.var 0) (.con (.int 0))))], false, .df⟩
abbrev f_law_run_c0 : Ir.Ex := .idx (.var 19) (.con (.int 1))
abbrev f_law_run_k0 : List Ir.Ex := [.cmp .eq (.idx (.var 19) (.con (.int 0))) (.idx (.var 11) (.con (.int 0)))]
abbrev f_law_run_b0 : List Ir.Stm := [.ex (.mth .append (.var 3) [.tup [.var 17, .var 8, .con (.bool false)]])]
abbrev f_law_run_c1 : Ir.Ex := .mth .pop (.var 4) []
abbrev f_law_run_b1 : List Ir.Stm := [.asg (.tup [.name 7, .name 8, .name 9]) (.mth .pop (.var 3) []),
    .asg (.tup [.name 10, .name 11, .name 12]) (.idx (.var 2) (.var 7)),
    .asg (.name 13) (.mth .get (.newDd [.con (.str "let"), .con (.int 1), .con (.str "if"), .con (.int 1)]) [.var 10, .blt .len [.var 12]]),
    .ite (.and (.not (.var 9)) (.cmp .eq (.var 6) (.var 1))) [.ret (.tup [.tup [.con (.str "far")], .dkeys (.var 5), .var 6])] [],
    .ite (.not (.var 9)) [.asg (.name 6) (.bin .add (.var 6) (.con (.int 1))),
    .set (.var 5) (.var 7) (.con (.bool true)),
    .ite (.cmp .isin (.var 10) (.lst [.con (.str "num"), .con (.str "truth"), .con (.str "nil")])) [.ex (.mth .append (.var 4) [.blt .tuple [.bin .add (.lst [.var 10]) (.var 11)]])] [.ite (.cmp .eq (.var 10) (.con (.str "name"))) [.ex (.mth .append (.var 4) [.idx (.comp (f_law_run_c0) (.name 19) (.var 8) f_law_run_k0) (.neg (.con (.int 1)))])] [.ite (.cmp .isin (.var 10) (.lst [.con (.str "fn"), .con (.str "rec")])) [.ex (.mth .append (.var 4) [.tup [.con (.str "fn"), .var 11, .idx (.var 12) (.con (.int 0)), .var 8]])] [.ex (.mth .append (.var 3) [.tup [.var 7, .var 8, .con (.bool true)]]),
    .loop (.name 17) (.rev (.sli (.var 12) none (some (.var 13)))) f_law_run_b0]]]] [.asg (.name 14) (.rev (.comp (f_law_run_c1) (.name 18) (.blt .range [.var 13]) [])),
    .ite (.cmp .isin (.var 10) (.lst [.con (.str "let"), .con (.str "if"), .con (.str "call")])) [.asg (.name 15) (.call "_law_entered" [.var 2, .var 7, .var 8, .var 14]),
    .ite (.cmp .is (.var 15) (.con .non)) [.ret (.tup [.tup [.con (.str "stuck"), .var 7], .dkeys (.var 5), .var 6])] [],
    .ex (.mth .append (.var 3) [.tup [.idx (.var 15) (.con (.int 0)), .idx (.var 15) (.con (.int 1)), .con (.bool false)]])] [.asg (.name 16) (.call "_law_told" [.var 10, .var 14]),
    .ite (.cmp .ne (.idx (.var 16) (.con (.int 0))) (.con (.str "value"))) [.ret (.tup [.tup [.idx (.var 16) (.con (.int 0)), .var 7], .dkeys (.var 5), .var 6])] [],
    .ex (.mth .append (.var 4) [.idx (.var 16) (.con (.int 1))])]]]
abbrev f_law_run_w0 : Ir.Ex := .nn (.var 3)
def f_law_run : Ir.Fn := ⟨20, 2, [.asg (.name 2) (.newL (.lst [])),
    .ex (.call "_law_rows" [.var 0, .var 2]),
    .asg (.name 3) (.newL (.lst [.tup [.con (.int 0), .lst [], .con (.bool false)]])),
    .asg (.name 4) (.newL (.lst [])),
    .asg (.name 5) (.newD),
    .asg (.name 6) (.con (.int 0)),
    .while (f_law_run_w0) f_law_run_b1,
    .ret (.tup [.tup [.con (.str "value"), .call "_law_shown" [.idx (.var 4) (.con (.int 0))]], .dkeys (.var 5), .var 6])], false, .df⟩
abbrev f_law_alike_c0 : Ir.Ex := .call "_law_alike" [.idx (.var 0) (.var 2), .idx (.var 1) (.var 2)]
def f_law_alike : Ir.Fn := ⟨3, 2, [.ite (.isi (.var 1) [.list, .tuple]) [.ite (.or (.not (.isi (.var 0) [.list, .tuple])) (.cmp .ne (.isi (.var 0) [.list]) (.isi (.var 1) [.list]))) [.ret (.con (.bool false))] [],
    .ite (.cmp .ne (.blt .len [.var 0]) (.blt .len [.var 1])) [.ret (.con (.bool false))] [],
    .ret (.blt .all [.comp (f_law_alike_c0) (.name 2) (.blt .range [.blt .len [.var 1]]) []])] [],
    .ite (.or (.cmp .ne (.isi (.var 0) [.bool]) (.isi (.var 1) [.bool])) (.cmp .ne (.isi (.var 0) [.int]) (.isi (.var 1) [.int]))) [.ret (.con (.bool false))] [],
    .ret (.and (.cmp .eq (.isi (.var 0) [.str]) (.isi (.var 1) [.str])) (.cmp .eq (.var 0) (.var 1)))], false, .df⟩
abbrev f_law_worth_b0 : List Ir.Stm := [.asg (.tup [.name 10, .name 11]) (.call "_law_worth" [.var 0, .con (.int 1)]),
    .par 5 6 (.tup [.con (.str "cons"), .var 10, .var 5]) (.bin .add (.bin .add (.bin .add (.bin .add (.con (.str "(cons ")) (.var 11)) (.con (.str " "))) (.var 6)) (.con (.str ")")))]
def f_law_worth : Ir.Fn := ⟨12, 2, [.asg (.name 2) (.call "_law_draw" [.var 0, .con (.int 8)]),
    .ite (.or (.cmp .lt (.var 1) (.con (.int 3))) (.cmp .lt (.var 2) (.con (.int 3)))) [.asg (.name 8) (.idx (.lst [.bin .sub (.call "_law_draw" [.var 0, .con (.int 11)]) (.con (.int 5)), .call "_law_draw" [.var 0, .bin .pow (.con (.int 10)) (.con (.int 60))], .bin .sub (.con (.int 1)) (.call "_law_draw" [.var 0, .bin .pow (.con (.int 10)) (.con (.int 60))])]) (.call "_law_draw" [.var 0, .con (.int 3)])),
    .asg (.name 9) (.lst [.tup [.tup [.con (.str "num"), .var 8], .blt .str [.var 8]], .tup [.tup [.con (.str "truth"), .con (.bool true)], .con (.str "true")], .tup [.tup [.con (.str "truth"), .con (.bool false)], .con (.str "false")], .tup [.tup [.con (.str "nil")], .con (.str "nil")]]),
    .ret (.idx (.bin .add (.var 9) (.lst [.tup [.tup [.con (.str "fn"), .con (.str "x"), .tup [.con (.str "name"), .con (.str "x")]], .con (.str "fn")], .tup [.tup [.con (.str "num"), .var 8], .blt .str [.var 8]]])) (.call "_law_draw" [.var 0, .con (.int 6)]))] [],
    .asg (.tup [.name 3, .name 4]) (.call "_law_worth" [.var 0, .bin .fdiv (.var 1) (.con (.int 2))]),
    .ite (.cmp .lt (.var 2) (.con (.int 6))) [.asg (.tup [.name 5, .name 6]) (.call "_law_worth" [.var 0, .bin .sub (.bin .sub (.var 1) (.con (.int 1))) (.bin .fdiv (.var 1) (.con (.int 2)))]),
    .ret (.tup [.tup [.con (.str "pair"), .var 3, .var 5], .bin .add (.bin .add (.bin .add (.bin .add (.con (.str "(pair ")) (.var 4)) (.con (.str " "))) (.var 6)) (.con (.str ")"))])] [],
    .asg (.tup [.name 5, .name 6]) (.tup [.tup [.con (.str "nil")], .con (.str "nil")]),
    .loop (.name 7) (.blt .range [.call "_law_draw" [.var 0, .blt .max [.con (.int 1), .bin .fdiv (.var 1) (.con (.int 4))]]]) f_law_worth_b0,
    .ret (.tup [.tup [.con (.str "cons"), .var 3, .var 5], .bin .add (.bin .add (.bin .add (.bin .add (.con (.str "(cons ")) (.var 4)) (.con (.str " "))) (.var 6)) (.con (.str ")"))])], false, .df⟩
def f_law_told_otherwise : Ir.Fn := ⟨4, 2, [.asg (.name 2) (.call "_law_draw" [.var 0, .con (.int 8)]),
    .asg (.name 3) (.newL (.lst [.var 1, .tup [.con (.str "let"), .con (.str "v"), .var 1, .tup [.con (.str "name"), .con (.str "v")]], .tup [.con (.str "call"), .tup [.con (.str "fn"), .con (.str "y"), .tup [.con (.str "name"), .con (.str "y")]], .var 1]])),
    .ex (.mth .append (.var 3) [.tup [.con (.str "if"), .tup [.con (.str "less"), .tup [.con (.str "num"), .con (.int 1)], .tup [.con (.str "num"), .con (.int 2)]], .var 1, .tup [.con (.str "nil")]]]),
    .ex (.mth .append (.var 3) [.tup [.con (.str "first"), .tup [.con (.str "pair"), .var 1, .tup [.con (.str "num"), .con (.int 1)]]]]),
    .ex (.mth .append (.var 3) [.tup [.con (.str "second"), .tup [.con (.str "pair"), .tup [.con (.str "nil")], .var 1]]]),
    .ex (.mth .append (.var 3) [.tup [.con (.str "head"), .tup [.con (.str "cons"), .var 1, .tup [.con (.str "nil")]]]]),
    .ex (.mth .append (.var 3) [.tup [.con (.str "call"), .tup [.con (.str "call"), .tup [.con (.str "fn"), .con (.str "x"), .tup [.con (.str "fn"), .con (.str "y"), .tup [.con (.str "name"), .con (.str "x")]]], .var 1], .tup [.con (.str "nil")]]]),
    .ret (.idx (.var 3) (.var 2))], false, .df⟩
abbrev f_law_b0 : List Ir.Stm := [.asg (.name 3) (.call "_law_told_otherwise" [.var 1, .var 3])]
abbrev f_law_b1 : List Ir.Stm := [.asg (.tup [.name 3, .name 4]) (.call "_law_worth" [.var 1, .bin .add (.con (.int 1)) (.call "_law_draw" [.var 1, .con (.int 24)])]),
    .loop (.name 5) (.blt .range [.call "_law_draw" [.var 1, .con (.int 3)]]) f_law_b0,
    .ite (.call "_law_bounded" [.var 3]) [.asg (.name 6) (.idx (.call "_law_run" [.var 3, .con (.int 400)]) (.con (.int 1))),
    .ite (.not (.call "_law_alike" [.callP "run" ([.var 3] ++ [.con (.int 400)]) [0, 1], .tup [.tup [.con (.str "value"), .var 4], .var 6]])) [.ret (.con (.bool false))] []] []]
def f_law : Ir.Fn := ⟨7, 1, [.asg (.name 1) (.call "_law_bag" [.var 0]),
    .loop (.name 2) (.blt .range [.bin .add (.con (.int 1)) (.blt .min [.bin .fdiv (.blt .len [.var 0]) (.con (.int 4)), .con (.int 5)])]) f_law_b1,
    .ret (.con (.bool true))], false, .df⟩
def f_Runner : Ir.Fn := ⟨4, 2, [.asg (.name 2) (.newI "Runner"), .asg (.name 3) (.call "Runner.__init__" [.var 2, .var 0, .var 1]), .ite (.cmp .is (.var 3) (.con .non)) [.ret (.var 2)] [.never]], false, .ct "Runner"⟩
def tab : List (String × Ir.Fn) := [("numbered", f_numbered), ("size_of", f_size_of), ("joined", f_joined), ("shown", f_shown), ("is_list", f_is_list), ("Runner.__init__", f_Runner___init__), ("Runner.looked_up", f_Runner_looked_up), ("Runner.begin", f_Runner_begin), ("Runner.called", f_Runner_called), ("Runner.numbers", f_Runner_numbers), ("Runner.put_together", f_Runner_put_together), ("Runner.part_of", f_Runner_part_of), ("Runner.finish", f_Runner_finish), ("Runner.go_on", f_Runner_go_on), ("run", f_run), ("_law_bag", f_law_bag), ("_law_stirred", f_law_stirred), ("_law_draw", f_law_draw), ("_law_binds", f_law_binds), ("_law_parts", f_law_parts), ("_law_bounded", f_law_bounded), ("_law_rows", f_law_rows), ("_law_size", f_law_size), ("_law_told", f_law_told), ("_law_entered", f_law_entered), ("_law_shown", f_law_shown), ("_law_run", f_law_run), ("_law_alike", f_law_alike), ("_law_worth", f_law_worth), ("_law_told_otherwise", f_law_told_otherwise), ("law", f_law), ("Runner", f_Runner)]
/-- names drawn are kept in a list of the arena -/
def poolA : Bool := false
def T : Ir.Tab := Ir.tabOf tab
theorem T_f_numbered : T "numbered" = some f_numbered := by simp [T, Ir.tabOf, tab, List.lookup]
theorem T_f_size_of : T "size_of" = some f_size_of := by simp [T, Ir.tabOf, tab, List.lookup]
theorem T_f_joined : T "joined" = some f_joined := by simp [T, Ir.tabOf, tab, List.lookup]
theorem T_f_shown : T "shown" = some f_shown := by simp [T, Ir.tabOf, tab, List.lookup]
theorem T_f_is_list : T "is_list" = some f_is_list := by simp [T, Ir.tabOf, tab, List.lookup]
theorem T_f_Runner___init__ : T "Runner.__init__" = some f_Runner___init__ := by simp [T, Ir.tabOf, tab, List.lookup]
theorem T_f_Runner_looked_up : T "Runner.looked_up" = some f_Runner_looked_up := by simp [T, Ir.tabOf, tab, List.lookup]
theorem T_f_Runner_begin : T "Runner.begin" = some f_Runner_begin := by simp [T, Ir.tabOf, tab, List.lookup]
theorem T_f_Runner_called : T "Runner.called" = some f_Runner_called := by simp [T, Ir.tabOf, tab, List.lookup]
theorem T_f_Runner_numbers : T "Runner.numbers" = some f_Runner_numbers := by simp [T, Ir.tabOf, tab, List.lookup]
theorem T_f_Runner_put_together : T "Runner.put_together" = some f_Runner_put_together := by simp [T, Ir.tabOf, tab, List.lookup]
theorem T_f_Runner_part_of : T "Runner.part_of" = some f_Runner_part_of := by simp [T, Ir.tabOf, tab, List.lookup]
theorem T_f_Runner_finish : T "Runner.finish" = some f_Runner_finish := by simp [T, Ir.tabOf, tab, List.lookup]
theorem T_f_Runner_go_on : T "Runner.go_on" = some f_Runner_go_on := by simp [T, Ir.tabOf, tab, List.lookup]
theorem T_f_run : T "run" = some f_run := by simp [T, Ir.tabOf, tab, List.lookup]
theorem T_f_law_bag : T "_law_bag" = some f_law_bag := by simp [T, Ir.tabOf, tab, List.lookup]
theorem T_f_law_stirred : T "_law_stirred" = some f_law_stirred := by simp [T, Ir.tabOf, tab, List.lookup]
theorem T_f_law_draw : T "_law_draw" = some f_law_draw := by simp [T, Ir.tabOf, tab, List.lookup]
theorem T_f_law_binds : T "_law_binds" = some f_law_binds := by simp [T, Ir.tabOf, tab, List.lookup]
theorem T_f_law_parts : T "_law_parts" = some f_law_parts := by simp [T, Ir.tabOf, tab, List.lookup]
theorem T_f_law_bounded : T "_law_bounded" = some f_law_bounded := by simp [T, Ir.tabOf, tab, List.lookup]
theorem T_f_law_rows : T "_law_rows" = some f_law_rows := by simp [T, Ir.tabOf, tab, List.lookup]
theorem T_f_law_size : T "_law_size" = some f_law_size := by simp [T, Ir.tabOf, tab, List.lookup]
theorem T_f_law_told : T "_law_told" = some f_law_told := by simp [T, Ir.tabOf, tab, List.lookup]
theorem T_f_law_entered : T "_law_entered" = some f_law_entered := by simp [T, Ir.tabOf, tab, List.lookup]
theorem T_f_law_shown : T "_law_shown" = some f_law_shown := by simp [T, Ir.tabOf, tab, List.lookup]
theorem T_f_law_run : T "_law_run" = some f_law_run := by simp [T, Ir.tabOf, tab, List.lookup]
theorem T_f_law_alike : T "_law_alike" = some f_law_alike := by simp [T, Ir.tabOf, tab, List.lookup]
theorem T_f_law_worth : T "_law_worth" = some f_law_worth := by simp [T, Ir.tabOf, tab, List.lookup]
theorem T_f_law_told_otherwise : T "_law_told_otherwise" = some f_law_told_otherwise := by simp [T, Ir.tabOf, tab, List.lookup]
theorem T_f_law : T "law" = some f_law := by simp [T, Ir.tabOf, tab, List.lookup]
theorem T_f_Runner : T "Runner" = some f_Runner := by simp [T, Ir.tabOf, tab, List.lookup]
theorem TM_f_Runner_looked_up : T ("Runner" ++ "." ++ "looked_up") = some f_Runner_looked_up := by simpa using T_f_Runner_looked_up
theorem TM_f_Runner_begin : T ("Runner" ++ "." ++ "begin") = some f_Runner_begin := by simpa using T_f_Runner_begin
theorem TM_f_Runner_called : T ("Runner" ++ "." ++ "called") = some f_Runner_called := by simpa using T_f_Runner_called
theorem TM_f_Runner_numbers : T ("Runner" ++ "." ++ "numbers") = some f_Runner_numbers := by simpa using T_f_Runner_numbers
theorem TM_f_Runner_put_together : T ("Runner" ++ "." ++ "put_together") = some f_Runner_put_together := by simpa using T_f_Runner_put_together
theorem TM_f_Runner_part_of : T ("Runner" ++ "." ++ "part_of") = some f_Runner_part_of := by simpa using T_f_Runner_part_of
theorem TM_f_Runner_finish : T ("Runner" ++ "." ++ "finish") = some f_Runner_finish := by simpa using T_f_Runner_finish
theorem TM_f_Runner_go_on : T ("Runner" ++ "." ++ "go_on") = some f_Runner_go_on := by simpa using T_f_Runner_go_on
end Prog

namespace Prog
open PySem PySem.Spec PyProof.Rows L2 Snd
/-! ### the text by places -/
def topS (i : Nat) : Stmt := PySem.Challenge.pw_leastmends_k62_values_written.main.body.getD i (.Pass ⟨0, 0, 0, 0⟩)
abbrev sf_numbered : Stmt := topS 6
abbrev sf_size_of : Stmt := topS 7
abbrev sf_joined : Stmt := topS 8
abbrev sf_shown : Stmt := topS 9
abbrev sf_is_list : Stmt := topS 10
abbrev sf_Runner___init__ : Stmt := inClass (topS 11) 0
abbrev sf_Runner_looked_up : Stmt := inClass (topS 11) 1
abbrev sf_Runner_begin : Stmt := inClass (topS 11) 2
abbrev sf_Runner_called : Stmt := inClass (topS 11) 3
abbrev sf_Runner_numbers : Stmt := inClass (topS 11) 4
abbrev sf_Runner_put_together : Stmt := inClass (topS 11) 5
abbrev sf_Runner_part_of : Stmt := inClass (topS 11) 6
abbrev sf_Runner_finish : Stmt := inClass (topS 11) 7
abbrev sf_Runner_go_on : Stmt := inClass (topS 11) 8
abbrev sf_run : Stmt := topS 12
abbrev sf_law_bag : Stmt := topS 14
abbrev sf_law_stirred : Stmt := topS 15
abbrev sf_law_draw : Stmt := topS 16
abbrev sf_law_binds : Stmt := topS 17
abbrev sf_law_parts : Stmt := topS 18
abbrev sf_law_bounded : Stmt := topS 19
abbrev sf_law_rows : Stmt := topS 20
abbrev sf_law_size : Stmt := topS 21
abbrev sf_law_told : Stmt := topS 22
abbrev sf_law_entered : Stmt := topS 23
abbrev sf_law_shown : Stmt := topS 24
abbrev sf_law_run : Stmt := topS 25
abbrev sf_law_alike : Stmt := topS 26
abbrev sf_law_worth : Stmt := topS 27
abbrev sf_law_told_otherwise : Stmt := topS 28
abbrev sf_law : Stmt := topS 29
abbrev sx_Ended : Stmt := inClass (topS 5) 0
def bn : List String := ["Exception", "abs", "all", "any", "bool", "int", "isinstance", "len", "list", "max", "min", "range", "sorted", "str", "tuple"]
def KW : List Kw := [("run", 1, [], [0, 1], [.int 400])]
structure GC (w : World) (K : PySem.W.Frag) (mg : Str → Option Value) : Prop where
  tt : True
  c_PLAIN : ∃ u, mg (Str.ofString "PLAIN") = some u ∧ KV K (.tup [.str "num", .str "truth", .str "nil"]) u
  c_BINDERS : ∃ p, mg (Str.ofString "BINDERS") = some (.ref p) ∧ KD K w [("fn", .int 1), ("rec", .int 2), ("let", .int 1)] p
  c_MOST_PARTS : ∃ u, mg (Str.ofString "MOST_PARTS") = some u ∧ KV K (.int 200) u
  ob_Ended : OxB K "Exception" "Exception.__new__" "Exception.__init__" [.type "Exception", .type "BaseException", .type "object"]
  o_Ended : ∀ (P : Program) (base : Heap), ExcO P w K mg base "Ended" "end" [.type "Exception", .type "BaseException", .type "object"] "Exception.__new__"
  g_Ended : ExcG K mg "Ended" "end"
  k_Runner : ClsF K "Runner" ["tasks", "told", "begun", "left"]
end Prog

namespace Prog
open PySem PySem.Spec PyProof.Rows L2 Snd
section
variable {P : Program} {w : World} {K : PySem.W.Frag} {mg : Str → Option Value} {base : Heap}
theorem okx_Ended {a : Addr} {fd : FuncData} (F : Fun K "__init__" "Ended.__init__" sx_Ended a fd) (mE : mg (Str.ofString "Exception") = none) (O : OxB K "Exception" "Exception.__new__" "Exception.__init__" [.type "Exception", .type "BaseException", .type "object"]) : FnOk P w K mg base CX0 1 a fd ["self", "end"] (spOx K [.type "Exception", .type "BaseException", .type "object"] "Exception.__new__" "end") :=
  ox_fn (m := "ended") F ⟨rfl, rfl, rfl, by decide +kernel, rfl, by decide +kernel, by decide +kernel⟩ fun cdv A outer s H E =>
    pss_cons (ps_expr (pe_oxinit O rfl rfl mE (pa_cons (pe_var (i := 0) rfl (by first | exact Or.inl rfl | exact Or.inr (Or.inl rfl) | exact Or.inr (Or.inr rfl))) (pa_cons pe_str pa_nil rfl) rfl))) (pss_cons (ps_oxset O (pe_var (i := 0) rfl (by first | exact Or.inl rfl | exact Or.inr (Or.inl rfl) | exact Or.inr (Or.inr rfl))) (pe_var (i := 1) rfl (by first | exact Or.inl rfl | exact Or.inr (Or.inl rfl) | exact Or.inr (Or.inr rfl)))) pss_nil)
end
end Prog

namespace Prog
open PySem PySem.Spec PyProof.Rows L2 Snd
section
variable {P : Program} {w : World} {K : PySem.W.Frag} {mg : Str → Option Value} {base : Heap}
theorem scf_numbered : FnScope ["part", "place", "word", "rest", "names", "later", "parts", "one", "made"] ["part", "place"] (defScope sf_numbered) := ⟨rfl, rfl, rfl, by decide +kernel, rfl, by decide +kernel, by decide +kernel⟩
theorem okf_numbered {n : Nat} {a : Addr} {fd : FuncData} (F : Fun K "numbered" "numbered" sf_numbered a fd) (ft : FT T KW n P w K mg base) (mb : ∀ s ∈ bn, mg (Str.ofString s) = none) (gc : GC w K mg) : FnOk P w K mg base CX0 (n + 2 + 1) a fd ["part", "place"] (spI T (n + 1) K "numbered") :=
  have nd := (scf_numbered).nd
  fn_ok F scf_numbered T_f_numbered rfl rfl fun cdv A outer s H E hr =>
    (ss_cons (ss_asg (se_var 0) (sg_star (pre := [2]) (post := []) rfl (sns_cons 2 nd (sns_star 3 nd sns_nil))))
      (ss_cons (ss_if (st_cmp (cmp_eq hr) (se_var 2) se_str) (ss_cons (ss_ret (se_call ft T_f_numbered hr (ses_cons (se_idx hr (se_var 3) se_int) (ses_cons (se_var 1) ses_nil))))
      ss_nil) ss_nil)
      (ss_cons (ss_if (st_w (sw_or (st_in hr (se_var 2) (se_glb gc.c_PLAIN)) (sw_or1 (st_cmp (cmp_eq hr) (se_var 2) se_str)))) (ss_cons (ss_ret (se_tup (ses_cons (se_tup (ses_cons (se_var 1) (ses_cons (se_var 2) (ses_cons (se_var 3) (ses_cons (se_list is_lst (sn_lst ses_nil)) ses_nil))))) (ses_cons (se_bin bin_add (se_var 1) se_int) ses_nil))))
      ss_nil) ss_nil)
      (ss_cons (ss_set 4 nd (se_sli (se_var 3) so_none (so_some (se_kdget2 gc.c_BINDERS (se_var 2) se_int))))
      (ss_cons (ss_set 5 nd (se_bin bin_add (se_var 1) se_int))
      (ss_cons (ss_set 6 nd (se_newL (sn_lst ses_nil)))
      (ss_cons (ss_for PassesOwn.never rfl (si_seq (se_sli (se_var 3) (so_some (se_blt blt_len (ses_cons (se_var 4) ses_nil) (mb "len" (by decide)) bv_len)) so_none)) (sg_name 7 nd) (ss_cons (ss_asg (se_call ft T_f_numbered hr (ses_cons (se_var 7) (ses_cons (se_var 5) ses_nil))) (sg_tup rfl (sgs_cons (sg_name 8 nd) (sgs_cons (sg_name 5 nd) sgs_nil)) (puts_len _)))
      (ss_cons (ss_ex (se_append (se_var 6) (se_var 8)))
      ss_nil)))
      (ss_cons (ss_ret (se_tup (ses_cons (se_tup (ses_cons (se_var 1) (ses_cons (se_var 2) (ses_cons (se_var 4) (ses_cons (se_frz (se_var 6)) ses_nil))))) (ses_cons (se_var 5) ses_nil))))
      ss_nil))))))))
end
end Prog

namespace Prog
open PySem PySem.Spec PyProof.Rows L2 Snd
section
variable {P : Program} {w : World} {K : PySem.W.Frag} {mg : Str → Option Value} {base : Heap}
theorem scf_size_of : FnScope ["value"] ["value"] (defScope sf_size_of) := ⟨rfl, rfl, rfl, by decide +kernel, rfl, by decide +kernel, by decide +kernel⟩
theorem okf_size_of {n : Nat} {a : Addr} {fd : FuncData} (F : Fun K "size_of" "size_of" sf_size_of a fd) (ft : FT T KW n P w K mg base) (mb : ∀ s ∈ bn, mg (Str.ofString s) = none) (gc : GC w K mg) : FnOk P w K mg base CX0 (n + 2 + 1) a fd ["value"] (spI T (n + 1) K "size_of") :=
  have nd := (scf_size_of).nd
  fn_ok F scf_size_of T_f_size_of rfl rfl fun cdv A outer s H E hr =>
    (ss_cons (ss_ret (se_ite (st_in hr (se_idx hr (se_var 0) se_int) (se_tup (ses_cons se_str (ses_cons se_str ses_nil)))) (se_idx hr (se_var 0) se_int) se_int))
      ss_nil)
end
end Prog

namespace Prog
open PySem PySem.Spec PyProof.Rows L2 Snd
section
variable {P : Program} {w : World} {K : PySem.W.Frag} {mg : Str → Option Value} {base : Heap}
theorem scf_joined : FnScope ["word", "one", "two"] ["word", "one", "two"] (defScope sf_joined) := ⟨rfl, rfl, rfl, by decide +kernel, rfl, by decide +kernel, by decide +kernel⟩
theorem okf_joined {n : Nat} {a : Addr} {fd : FuncData} (F : Fun K "joined" "joined" sf_joined a fd) (ft : FT T KW n P w K mg base) (mb : ∀ s ∈ bn, mg (Str.ofString s) = none) (gc : GC w K mg) : FnOk P w K mg base CX0 (n + 2 + 1) a fd ["word", "one", "two"] (spI T (n + 1) K "joined") :=
  have nd := (scf_joined).nd
  fn_ok F scf_joined T_f_joined rfl rfl fun cdv A outer s H E hr =>
    (ss_cons (ss_ret (se_tup (ses_cons (se_var 0) (ses_cons (se_var 1) (ses_cons (se_var 2) (ses_cons (se_bin bin_add (se_bin bin_add se_int (se_call ft T_f_size_of hr (ses_cons (se_var 1) ses_nil))) (se_call ft T_f_size_of hr (ses_cons (se_var 2) ses_nil))) ses_nil))))))
      ss_nil)
end
end Prog

namespace Prog
open PySem PySem.Spec PyProof.Rows L2 Snd
section
variable {P : Program} {w : World} {K : PySem.W.Frag} {mg : Str → Option Value} {base : Heap}
theorem scf_shown : FnScope ["value", "word", "rest"] ["value"] (defScope sf_shown) := ⟨rfl, rfl, rfl, by decide +kernel, rfl, by decide +kernel, by decide +kernel⟩
theorem okf_shown {n : Nat} {a : Addr} {fd : FuncData} (F : Fun K "shown" "shown" sf_shown a fd) (ft : FT T KW n P w K mg base) (mb : ∀ s ∈ bn, mg (Str.ofString s) = none) (gc : GC w K mg) : FnOk P w K mg base CX0 (n + 2 + 1) a fd ["value"] (spI T (n + 1) K "shown") :=
  have nd := (scf_shown).nd
  fn_ok F scf_shown T_f_shown rfl rfl fun cdv A outer s H E hr =>
    (ss_cons (ss_asg (se_var 0) (sg_star (pre := [1]) (post := []) rfl (sns_cons 1 nd (sns_star 2 nd sns_nil))))
      (ss_cons (ss_if (st_cmp (cmp_eq hr) (se_var 1) se_str) (ss_cons (ss_ret (se_bltT blt_str (ses_cons (se_idx hr (se_var 2) se_int) ses_nil) (mb "str" (by decide)) bv_str))
      ss_nil) ss_nil)
      (ss_cons (ss_if (st_cmp (cmp_eq hr) (se_var 1) se_str) (ss_cons (ss_ret (se_ite (st_val (se_idx hr (se_var 2) se_int)) se_str se_str))
      ss_nil) ss_nil)
      (ss_cons (ss_if (st_in hr (se_var 1) (se_tup (ses_cons se_str (ses_cons se_str ses_nil)))) (ss_cons (ss_ret (se_fs (sfs_con (sfs_fmt (se_var 1) (sfs_con (sfs_fmt (se_call ft T_f_shown hr (ses_cons (se_idx hr (se_var 2) se_int) ses_nil)) (sfs_con (sfs_fmt (se_call ft T_f_shown hr (ses_cons (se_idx hr (se_var 2) se_int) ses_nil)) (sfs_con sfs_nil)))))))))
      ss_nil) ss_nil)
      (ss_cons (ss_ret (se_var 1))
      ss_nil)))))
end
end Prog

namespace Prog
open PySem PySem.Spec PyProof.Rows L2 Snd
section
variable {P : Program} {w : World} {K : PySem.W.Frag} {mg : Str → Option Value} {base : Heap}
theorem scf_is_list : FnScope ["value"] ["value"] (defScope sf_is_list) := ⟨rfl, rfl, rfl, by decide +kernel, rfl, by decide +kernel, by decide +kernel⟩
theorem okf_is_list {n : Nat} {a : Addr} {fd : FuncData} (F : Fun K "is_list" "is_list" sf_is_list a fd) (ft : FT T KW n P w K mg base) (mb : ∀ s ∈ bn, mg (Str.ofString s) = none) (gc : GC w K mg) : FnOk P w K mg base CX0 (n + 2 + 1) a fd ["value"] (spI T (n + 1) K "is_list") :=
  have nd := (scf_is_list).nd
  fn_ok F scf_is_list T_f_is_list rfl rfl fun cdv A outer s H E hr =>
    (ss_cons (ss_ret (se_in hr (se_idx hr (se_var 0) se_int) (se_tup (ses_cons se_str (ses_cons se_str ses_nil)))))
      ss_nil)
end
end Prog

namespace Prog
open PySem PySem.Spec PyProof.Rows L2 Snd
section
variable {P : Program} {w : World} {K : PySem.W.Frag} {mg : Str → Option Value} {base : Heap}
theorem scf_Runner___init__ : FnScope ["self", "program", "most", "node", "later"] ["self", "program", "most"] (defScope sf_Runner___init__) := ⟨rfl, rfl, rfl, by decide +kernel, rfl, by decide +kernel, by decide +kernel⟩
theorem okf_Runner___init__ {n : Nat} {a : Addr} {fd : FuncData} (F : Fun K "__init__" "Runner.__init__" sf_Runner___init__ a fd) (ft : FT T KW n P w K mg base) (mb : ∀ s ∈ bn, mg (Str.ofString s) = none) (gc : GC w K mg) : FnOk P w K mg base CX0 (n + 2 + 1) a fd ["self", "program", "most"] (spI T (n + 1) K "Runner.__init__") :=
  have nd := (scf_Runner___init__).nd
  fn_ok F scf_Runner___init__ T_f_Runner___init__ rfl rfl fun cdv A outer s H E hr =>
    (ss_cons (ss_asg (se_call ft T_f_numbered hr (ses_cons (se_var 1) (ses_cons se_int ses_nil))) (sg_tup rfl (sgs_cons (sg_name 3 nd) (sgs_cons (sg_name 4 nd) sgs_nil)) (puts_len _)))
      (ss_cons (ss_setf gc.k_Runner (by decide) (se_newO (sn_lst (ses_cons (se_tup (ses_cons (se_var 3) (ses_cons se_non (ses_cons se_bool ses_nil)))) ses_nil))) (se_var 0))
      (ss_cons (ss_setf gc.k_Runner (by decide) (se_newO (sn_lst ses_nil)) (se_var 0))
      (ss_cons (ss_setf gc.k_Runner (by decide) se_newOD (se_var 0))
      (ss_cons (ss_setf gc.k_Runner (by decide) (se_var 2) (se_var 0))
      ss_nil)))))
end
end Prog

namespace Prog
open PySem PySem.Spec PyProof.Rows L2 Snd
section
variable {P : Program} {w : World} {K : PySem.W.Frag} {mg : Str → Option Value} {base : Heap}
theorem scf_Runner_looked_up : FnScope ["self", "name", "around"] ["self", "name", "around"] (defScope sf_Runner_looked_up) := ⟨rfl, rfl, rfl, by decide +kernel, rfl, by decide +kernel, by decide +kernel⟩
theorem okf_Runner_looked_up {n : Nat} {a : Addr} {fd : FuncData} (F : Fun K "looked_up" "Runner.looked_up" sf_Runner_looked_up a fd) (ft : FT T KW n P w K mg base) (mb : ∀ s ∈ bn, mg (Str.ofString s) = none) (gc : GC w K mg) : FnOk P w K mg base CX0 (n + 2 + 1) a fd ["self", "name", "around"] (spI T (n + 1) K "Runner.looked_up") :=
  have nd := (scf_Runner_looked_up).nd
  fn_ok F scf_Runner_looked_up T_f_Runner_looked_up rfl rfl fun cdv A outer s H E hr =>
    (ss_cons (ss_while PassesOwn.never (st_cmp (cmp_ne hr) (se_idx hr (se_var 2) se_int) (se_var 1)) (ss_cons (ss_set 2 nd (se_idx hr (se_var 2) se_int))
      ss_nil))
      (ss_cons (ss_ret (se_idx hr (se_var 2) se_int))
      ss_nil))
end
end Prog

namespace Prog
open PySem PySem.Spec PyProof.Rows L2 Snd
section
variable {P : Program} {w : World} {K : PySem.W.Frag} {mg : Str → Option Value} {base : Heap}
theorem scf_Runner_begin : FnScope ["self", "node", "around", "place", "word", "rest", "parts", "many", "part"] ["self", "node", "around"] (defScope sf_Runner_begin) := ⟨rfl, rfl, rfl, by decide +kernel, rfl, by decide +kernel, by decide +kernel⟩
theorem okf_Runner_begin {n : Nat} {a : Addr} {fd : FuncData} (F : Fun K "begin" "Runner.begin" sf_Runner_begin a fd) (ft : FT T KW n P w K mg base) (mb : ∀ s ∈ bn, mg (Str.ofString s) = none) (gc : GC w K mg) : FnOk P w K mg base (L2.CX P w) (n + 2 + 1) a fd ["self", "node", "around"] (spX T (n + 1) K mg "Runner.begin") :=
  have nd := (scf_Runner_begin).nd
  fn_okX F scf_Runner_begin T_f_Runner_begin rfl rfl fun cdv A outer s H E hr =>
    have tk := takes_of rfl rfl rfl rfl
    (ss_cons (ss_asg (se_var 1) (sg_tup rfl (sgs_cons (sg_name 3 nd) (sgs_cons (sg_name 4 nd) (sgs_cons (sg_name 5 nd) (sgs_cons (sg_name 6 nd) sgs_nil)))) (puts_len _)))
      (ss_cons (ss_if (st_cmp (cmp_eq hr) (se_fld gc.k_Runner (by decide) (se_var 0)) se_int) (ss_cons (ss_raiseA rfl tk gc.ob_Ended (gc.o_Ended _ _) (hr.mono (Nat.le_add_left 2 n)) (se_tup (ses_cons se_str ses_nil)))
      ss_nil) ss_nil)
      (ss_cons (ss_augf gc.k_Runner (by decide) ip_sub aug_sub se_int (se_var 0))
      (ss_cons (ss_setO hr se_bool (se_fld gc.k_Runner (by decide) (se_var 0)) (se_var 3))
      (ss_cons (ss_if (st_in hr (se_var 4) (se_glb gc.c_PLAIN)) (ss_cons (ss_ex (se_oappend (se_fld gc.k_Runner (by decide) (se_var 0)) (se_bltT blt_tuple (ses_cons (se_bin bin_add (se_list is_lst (sn_lst (ses_cons (se_var 4) ses_nil))) (se_var 5)) ses_nil) (mb "tuple" (by decide)) bv_tuple)))
      ss_nil) (ss_cons (ss_if (st_cmp (cmp_eq hr) (se_var 4) se_str) (ss_cons (ss_ex (se_oappend (se_fld gc.k_Runner (by decide) (se_var 0)) (se_meth (c := "Runner") (m := "looked_up") ft TM_f_Runner_looked_up hr (se_var 0) (ses_cons (se_idx hr (se_var 5) se_int) (ses_cons (se_var 2) ses_nil)))))
      ss_nil) (ss_cons (ss_if (st_in hr (se_var 4) (se_tup (ses_cons se_str (ses_cons se_str ses_nil)))) (ss_cons (ss_ex (se_oappend (se_fld gc.k_Runner (by decide) (se_var 0)) (se_tup (ses_cons se_str (ses_cons (se_var 5) (ses_cons (se_idx hr (se_var 6) se_int) (ses_cons (se_var 2) ses_nil)))))))
      ss_nil) (ss_cons (ss_ex (se_oappend (se_fld gc.k_Runner (by decide) (se_var 0)) (se_tup (ses_cons (se_var 1) (ses_cons (se_var 2) (ses_cons se_bool ses_nil))))))
      (ss_cons (ss_set 7 nd (se_ite (st_in hr (se_var 4) (se_tup (ses_cons se_str (ses_cons se_str ses_nil)))) se_int (se_blt blt_len (ses_cons (se_var 6) ses_nil) (mb "len" (by decide)) bv_len)))
      (ss_cons (ss_ex (se_oextend (se_fld gc.k_Runner (by decide) (se_var 0)) (se_list is_comp (sn_comp [("part", 8)] rfl nd (si_seq (se_list is_rev (sn_rev (se_sli (se_var 6) so_none (so_some (se_var 7)))))) (blkOk_by (N := ["self", "node", "around", "place", "word", "rest", "parts", "many", "part"]) (sc := defScope sf_Runner_begin) (by decide +kernel)) (fun _ _ _ _ _ => (sg_name 8 nd)) (fun _ _ _ _ _ => sc_nil) (fun _ _ _ _ _ => (se_tup (ses_cons (se_var 8) (ses_cons (se_var 2) (ses_cons se_bool ses_nil)))))))))
      ss_nil))))
      ss_nil))
      ss_nil))
      ss_nil)))))
end
end Prog

namespace Prog
open PySem PySem.Spec PyProof.Rows L2 Snd
section
variable {P : Program} {w : World} {K : PySem.W.Frag} {mg : Str → Option Value} {base : Heap}
theorem scf_Runner_called : FnScope ["self", "place", "given", "function", "word", "names", "body", "around"] ["self", "place"] (defScope sf_Runner_called) := ⟨rfl, rfl, rfl, by decide +kernel, rfl, by decide +kernel, by decide +kernel⟩
theorem okf_Runner_called {n : Nat} {a : Addr} {fd : FuncData} (F : Fun K "called" "Runner.called" sf_Runner_called a fd) (ft : FT T KW n P w K mg base) (mb : ∀ s ∈ bn, mg (Str.ofString s) = none) (gc : GC w K mg) : FnOk P w K mg base (L2.CX P w) (n + 2 + 1) a fd ["self", "place"] (spX T (n + 1) K mg "Runner.called") :=
  have nd := (scf_Runner_called).nd
  fn_okX F scf_Runner_called T_f_Runner_called rfl rfl fun cdv A outer s H E hr =>
    have tk := takes_of rfl rfl rfl rfl
    (ss_cons (ss_par 2 3 rfl nd (se_opop (se_fld gc.k_Runner (by decide) (se_var 0))) (se_opop (se_fld gc.k_Runner (by decide) (se_var 0))))
      (ss_cons (ss_if (st_cmp (cmp_ne hr) (se_idx hr (se_var 3) se_int) se_str) (ss_cons (ss_raiseA rfl tk gc.ob_Ended (gc.o_Ended _ _) (hr.mono (Nat.le_add_left 2 n)) (se_tup (ses_cons se_str (ses_cons (se_var 1) ses_nil))))
      ss_nil) ss_nil)
      (ss_cons (ss_asg (se_var 3) (sg_tup rfl (sgs_cons (sg_name 4 nd) (sgs_cons (sg_name 5 nd) (sgs_cons (sg_name 6 nd) (sgs_cons (sg_name 7 nd) sgs_nil)))) (puts_len _)))
      (ss_cons (ss_if (st_cmp (cmp_eq hr) (se_blt blt_len (ses_cons (se_var 5) ses_nil) (mb "len" (by decide)) bv_len) se_int) (ss_cons (ss_set 7 nd (se_tup (ses_cons (se_idx hr (se_var 5) se_int) (ses_cons (se_var 3) (ses_cons (se_var 7) ses_nil)))))
      ss_nil) ss_nil)
      (ss_cons (ss_ex (se_oappend (se_fld gc.k_Runner (by decide) (se_var 0)) (se_tup (ses_cons (se_var 6) (ses_cons (se_tup (ses_cons (se_idx hr (se_var 5) (se_neg se_int)) (ses_cons (se_var 2) (ses_cons (se_var 7) ses_nil)))) (ses_cons se_bool ses_nil))))))
      ss_nil)))))
end
end Prog

namespace Prog
open PySem PySem.Spec PyProof.Rows L2 Snd
section
variable {P : Program} {w : World} {K : PySem.W.Frag} {mg : Str → Option Value} {base : Heap}
theorem scf_Runner_numbers : FnScope ["self", "place", "word", "two", "one"] ["self", "place", "word"] (defScope sf_Runner_numbers) := ⟨rfl, rfl, rfl, by decide +kernel, rfl, by decide +kernel, by decide +kernel⟩
theorem okf_Runner_numbers {n : Nat} {a : Addr} {fd : FuncData} (F : Fun K "numbers" "Runner.numbers" sf_Runner_numbers a fd) (ft : FT T KW n P w K mg base) (mb : ∀ s ∈ bn, mg (Str.ofString s) = none) (gc : GC w K mg) : FnOk P w K mg base (L2.CX P w) (n + 2 + 1) a fd ["self", "place", "word"] (spX T (n + 1) K mg "Runner.numbers") :=
  have nd := (scf_Runner_numbers).nd
  fn_okX F scf_Runner_numbers T_f_Runner_numbers rfl rfl fun cdv A outer s H E hr =>
    have tk := takes_of rfl rfl rfl rfl
    (ss_cons (ss_par 3 4 rfl nd (se_opop (se_fld gc.k_Runner (by decide) (se_var 0))) (se_opop (se_fld gc.k_Runner (by decide) (se_var 0))))
      (ss_cons (ss_if (st_w (sw_or (st_cmp (cmp_ne hr) (se_idx hr (se_var 4) se_int) se_str) (sw_or1 (st_cmp (cmp_ne hr) (se_idx hr (se_var 3) se_int) se_str)))) (ss_cons (ss_raiseA rfl tk gc.ob_Ended (gc.o_Ended _ _) (hr.mono (Nat.le_add_left 2 n)) (se_tup (ses_cons se_str (ses_cons (se_var 1) ses_nil))))
      ss_nil) ss_nil)
      (ss_cons (ss_ex (se_oappend (se_fld gc.k_Runner (by decide) (se_var 0)) (se_ite (st_cmp (cmp_eq hr) (se_var 2) se_str) (se_tup (ses_cons se_str (ses_cons (se_bin bin_add (se_idx hr (se_var 4) se_int) (se_idx hr (se_var 3) se_int)) ses_nil))) (se_tup (ses_cons se_str (ses_cons (se_cmp cmp_lt (se_idx hr (se_var 4) se_int) (se_idx hr (se_var 3) se_int)) ses_nil))))))
      ss_nil)))
end
end Prog

namespace Prog
open PySem PySem.Spec PyProof.Rows L2 Snd
section
variable {P : Program} {w : World} {K : PySem.W.Frag} {mg : Str → Option Value} {base : Heap}
theorem scf_Runner_put_together : FnScope ["self", "place", "word", "two", "one"] ["self", "place", "word"] (defScope sf_Runner_put_together) := ⟨rfl, rfl, rfl, by decide +kernel, rfl, by decide +kernel, by decide +kernel⟩
theorem okf_Runner_put_together {n : Nat} {a : Addr} {fd : FuncData} (F : Fun K "put_together" "Runner.put_together" sf_Runner_put_together a fd) (ft : FT T KW n P w K mg base) (mb : ∀ s ∈ bn, mg (Str.ofString s) = none) (gc : GC w K mg) : FnOk P w K mg base (L2.CX P w) (n + 2 + 1) a fd ["self", "place", "word"] (spX T (n + 1) K mg "Runner.put_together") :=
  have nd := (scf_Runner_put_together).nd
  fn_okX F scf_Runner_put_together T_f_Runner_put_together rfl rfl fun cdv A outer s H E hr =>
    have tk := takes_of rfl rfl rfl rfl
    (ss_cons (ss_par 3 4 rfl nd (se_opop (se_fld gc.k_Runner (by decide) (se_var 0))) (se_opop (se_fld gc.k_Runner (by decide) (se_var 0))))
      (ss_cons (ss_if (st_w (sw_and (st_cmp (cmp_eq hr) (se_var 2) se_str) (sw_and1 (st_not (st_val (se_call ft T_f_is_list hr (ses_cons (se_var 3) ses_nil))))))) (ss_cons (ss_raiseA rfl tk gc.ob_Ended (gc.o_Ended _ _) (hr.mono (Nat.le_add_left 2 n)) (se_tup (ses_cons se_str (ses_cons (se_var 1) ses_nil))))
      ss_nil) ss_nil)
      (ss_cons (ss_ex (se_oappend (se_fld gc.k_Runner (by decide) (se_var 0)) (se_call ft T_f_joined hr (ses_cons (se_var 2) (ses_cons (se_var 4) (ses_cons (se_var 3) ses_nil))))))
      ss_nil)))
end
end Prog

namespace Prog
open PySem PySem.Spec PyProof.Rows L2 Snd
section
variable {P : Program} {w : World} {K : PySem.W.Frag} {mg : Str → Option Value} {base : Heap}
theorem scf_Runner_part_of : FnScope ["self", "place", "word", "value"] ["self", "place", "word"] (defScope sf_Runner_part_of) := ⟨rfl, rfl, rfl, by decide +kernel, rfl, by decide +kernel, by decide +kernel⟩
theorem okf_Runner_part_of {n : Nat} {a : Addr} {fd : FuncData} (F : Fun K "part_of" "Runner.part_of" sf_Runner_part_of a fd) (ft : FT T KW n P w K mg base) (mb : ∀ s ∈ bn, mg (Str.ofString s) = none) (gc : GC w K mg) : FnOk P w K mg base (L2.CX P w) (n + 2 + 1) a fd ["self", "place", "word"] (spX T (n + 1) K mg "Runner.part_of") :=
  have nd := (scf_Runner_part_of).nd
  fn_okX F scf_Runner_part_of T_f_Runner_part_of rfl rfl fun cdv A outer s H E hr =>
    have tk := takes_of rfl rfl rfl rfl
    (ss_cons (ss_set 3 nd (se_opop (se_fld gc.k_Runner (by decide) (se_var 0))))
      (ss_cons (ss_if (st_ite (st_in hr (se_var 2) (se_tup (ses_cons se_str (ses_cons se_str (ses_cons se_str ses_nil))))) (st_not (st_val (se_call ft T_f_is_list hr (ses_cons (se_var 3) ses_nil)))) (st_cmp (cmp_ne hr) (se_idx hr (se_var 3) se_int) se_str)) (ss_cons (ss_raiseA rfl tk gc.ob_Ended (gc.o_Ended _ _) (hr.mono (Nat.le_add_left 2 n)) (se_tup (ses_cons se_str (ses_cons (se_var 1) ses_nil))))
      ss_nil) ss_nil)
      (ss_cons (ss_if (st_cmp (cmp_eq hr) (se_var 2) se_str) (ss_cons (ss_ex (se_oappend (se_fld gc.k_Runner (by decide) (se_var 0)) (se_tup (ses_cons se_str (ses_cons (se_cmp (cmp_eq hr) (se_idx hr (se_var 3) se_int) se_str) ses_nil)))))
      ss_nil) (ss_cons (ss_if (st_cmp (cmp_eq hr) (se_idx hr (se_var 3) se_int) se_str) (ss_cons (ss_raiseA rfl tk gc.ob_Ended (gc.o_Ended _ _) (hr.mono (Nat.le_add_left 2 n)) (se_tup (ses_cons se_str (ses_cons (se_var 1) ses_nil))))
      ss_nil) (ss_cons (ss_ex (se_oappend (se_fld gc.k_Runner (by decide) (se_var 0)) (se_ite (st_in hr (se_var 2) (se_tup (ses_cons se_str (ses_cons se_str ses_nil)))) (se_idx hr (se_var 3) se_int) (se_idx hr (se_var 3) se_int))))
      ss_nil))
      ss_nil))
      ss_nil)))
end
end Prog

namespace Prog
open PySem PySem.Spec PyProof.Rows L2 Snd
section
variable {P : Program} {w : World} {K : PySem.W.Frag} {mg : Str → Option Value} {base : Heap}
theorem scf_Runner_finish : FnScope ["self", "node", "around", "place", "word", "names", "parts", "value"] ["self", "node", "around"] (defScope sf_Runner_finish) := ⟨rfl, rfl, rfl, by decide +kernel, rfl, by decide +kernel, by decide +kernel⟩
theorem okf_Runner_finish {n : Nat} {a : Addr} {fd : FuncData} (F : Fun K "finish" "Runner.finish" sf_Runner_finish a fd) (ft : FT T KW n P w K mg base) (mb : ∀ s ∈ bn, mg (Str.ofString s) = none) (gc : GC w K mg) : FnOk P w K mg base (L2.CX P w) (n + 2 + 1) a fd ["self", "node", "around"] (spX T (n + 1) K mg "Runner.finish") :=
  have nd := (scf_Runner_finish).nd
  fn_okX F scf_Runner_finish T_f_Runner_finish rfl rfl fun cdv A outer s H E hr =>
    have tk := takes_of rfl rfl rfl rfl
    (ss_cons (ss_asg (se_var 1) (sg_tup rfl (sgs_cons (sg_name 3 nd) (sgs_cons (sg_name 4 nd) (sgs_cons (sg_name 5 nd) (sgs_cons (sg_name 6 nd) sgs_nil)))) (puts_len _)))
      (ss_cons (ss_if (st_cmp (cmp_eq hr) (se_var 4) se_str) (ss_cons (ss_exX (sx_meth (c := "Runner") (m := "called") tk ft TM_f_Runner_called hr (se_var 0) (sxs_cons (sx_p (se_var 3)) sxs_nil)))
      ss_nil) (ss_cons (ss_if (st_cmp (cmp_eq hr) (se_var 4) se_str) (ss_cons (ss_ex (se_oappend (se_fld gc.k_Runner (by decide) (se_var 0)) (se_tup (ses_cons (se_idx hr (se_var 6) se_int) (ses_cons (se_tup (ses_cons (se_idx hr (se_var 5) se_int) (ses_cons (se_opop (se_fld gc.k_Runner (by decide) (se_var 0))) (ses_cons (se_var 2) ses_nil)))) (ses_cons se_bool ses_nil))))))
      ss_nil) (ss_cons (ss_if (st_cmp (cmp_eq hr) (se_var 4) se_str) (ss_cons (ss_set 7 nd (se_opop (se_fld gc.k_Runner (by decide) (se_var 0))))
      (ss_cons (ss_if (st_cmp (cmp_ne hr) (se_idx hr (se_var 7) se_int) se_str) (ss_cons (ss_raiseA rfl tk gc.ob_Ended (gc.o_Ended _ _) (hr.mono (Nat.le_add_left 2 n)) (se_tup (ses_cons se_str (ses_cons (se_var 3) ses_nil))))
      ss_nil) ss_nil)
      (ss_cons (ss_ex (se_oappend (se_fld gc.k_Runner (by decide) (se_var 0)) (se_tup (ses_cons (se_ite (st_val (se_idx hr (se_var 7) se_int)) (se_idx hr (se_var 6) se_int) (se_idx hr (se_var 6) se_int)) (ses_cons (se_var 2) (ses_cons se_bool ses_nil))))))
      ss_nil))) (ss_cons (ss_if (st_in hr (se_var 4) (se_tup (ses_cons se_str (ses_cons se_str ses_nil)))) (ss_cons (ss_exX (sx_meth (c := "Runner") (m := "numbers") tk ft TM_f_Runner_numbers hr (se_var 0) (sxs_cons (sx_p (se_var 3)) (sxs_cons (sx_p (se_var 4)) sxs_nil))))
      ss_nil) (ss_cons (ss_if (st_in hr (se_var 4) (se_tup (ses_cons se_str (ses_cons se_str ses_nil)))) (ss_cons (ss_exX (sx_meth (c := "Runner") (m := "put_together") tk ft TM_f_Runner_put_together hr (se_var 0) (sxs_cons (sx_p (se_var 3)) (sxs_cons (sx_p (se_var 4)) sxs_nil))))
      ss_nil) (ss_cons (ss_exX (sx_meth (c := "Runner") (m := "part_of") tk ft TM_f_Runner_part_of hr (se_var 0) (sxs_cons (sx_p (se_var 3)) (sxs_cons (sx_p (se_var 4)) sxs_nil))))
      ss_nil))
      ss_nil))
      ss_nil))
      ss_nil))
      ss_nil))
      ss_nil))
end
end Prog

namespace Prog
open PySem PySem.Spec PyProof.Rows L2 Snd
section
variable {P : Program} {w : World} {K : PySem.W.Frag} {mg : Str → Option Value} {base : Heap}
theorem scf_Runner_go_on : FnScope ["self", "value", "node", "around", "ready", "e"] ["self"] (defScope sf_Runner_go_on) := ⟨rfl, rfl, rfl, by decide +kernel, rfl, by decide +kernel, by decide +kernel⟩
theorem okf_Runner_go_on {n : Nat} {a : Addr} {fd : FuncData} (F : Fun K "go_on" "Runner.go_on" sf_Runner_go_on a fd) (ft : FT T KW n P w K mg base) (mb : ∀ s ∈ bn, mg (Str.ofString s) = none) (gc : GC w K mg) : FnOk P w K mg base CX0 (n + 2 + 1) a fd ["self"] (spI T (n + 1) K "Runner.go_on") :=
  have nd := (scf_Runner_go_on).nd
  fn_ok F scf_Runner_go_on T_f_Runner_go_on rfl rfl fun cdv A outer s H E hr =>
    (ss_cons (ss_tryF takes0 nd gc.g_Ended (fun W pn xe tk hp => (ss_cons (ss_while hp (st_notnil hr (se_fld gc.k_Runner (by decide) (se_var 0))) (ss_cons (ss_asg (se_opop (se_fld gc.k_Runner (by decide) (se_var 0))) (sg_tup rfl (sgs_cons (sg_name 2 nd) (sgs_cons (sg_name 3 nd) (sgs_cons (sg_name 4 nd) sgs_nil))) (puts_len _)))
      (ss_cons (ss_if (st_val (se_var 4)) (ss_cons (ss_exX (sx_meth (c := "Runner") (m := "finish") tk ft TM_f_Runner_finish hr (se_var 0) (sxs_cons (sx_p (se_var 2)) (sxs_cons (sx_p (se_var 3)) sxs_nil))))
      ss_nil) (ss_cons (ss_exX (sx_meth (c := "Runner") (m := "begin") tk ft TM_f_Runner_begin hr (se_var 0) (sxs_cons (sx_p (se_var 2)) (sxs_cons (sx_p (se_var 3)) sxs_nil))))
      ss_nil))
      ss_nil)))
      ss_nil)))
      (ss_cons (ss_set 1 nd (se_opop (se_fld gc.k_Runner (by decide) (se_var 0))))
      (ss_cons (ss_ret (se_tup (ses_cons se_str (ses_cons (se_ite (st_cmp cmp_gt (se_call ft T_f_size_of hr (ses_cons (se_var 1) ses_nil)) (se_glb gc.c_MOST_PARTS)) se_str (se_call ft T_f_shown hr (ses_cons (se_var 1) ses_nil))) ses_nil))))
      ss_nil)))
end
end Prog

namespace Prog
open PySem PySem.Spec PyProof.Rows L2 Snd
section
variable {P : Program} {w : World} {K : PySem.W.Frag} {mg : Str → Option Value} {base : Heap}
theorem scf_run : FnScope ["program", "most", "runner", "end"] ["program", "most"] (defScope sf_run) := ⟨rfl, rfl, rfl, by decide +kernel, rfl, by decide +kernel, by decide +kernel⟩
theorem okf_run {n : Nat} {a : Addr} {fd : FuncData} {kws : List (Str × V)} (F : FunD K "run" "run" (defArgs sf_run) (defBody sf_run) (defScope sf_run) [] kws a fd) (ft : FT T KW n P w K mg base) (mb : ∀ s ∈ bn, mg (Str.ofString s) = none) (gc : GC w K mg) : FnOk P w K mg base CX0 (n + 2 + 1) a fd ["program", "most"] (spI T (n + 1) K "run") :=
  have nd := (scf_run).nd
  fn_okD F scf_run T_f_run rfl rfl fun cdv A outer s H E hr =>
    (ss_cons (ss_set 2 nd (se_make ft T_f_Runner hr (ses_cons (se_var 0) (ses_cons (se_var 1) ses_nil))))
      (ss_cons (ss_set 3 nd (se_meth0 (c := "Runner") (m := "go_on") ft TM_f_Runner_go_on hr (se_var 2)))
      (ss_cons (ss_ret (se_tup (ses_cons (se_var 3) (ses_cons (se_dkeys rfl (se_fld gc.k_Runner (by decide) (se_var 2)) (mb "sorted" (by decide))) ses_nil))))
      ss_nil)))
end
end Prog

namespace Prog
open PySem PySem.Spec PyProof.Rows L2 Snd
section
variable {P : Program} {w : World} {K : PySem.W.Frag} {mg : Str → Option Value} {base : Heap}
theorem scf_law_bag : FnScope ["_law_script", "_law_stir", "_law_cell"] ["_law_script"] (defScope sf_law_bag) := ⟨rfl, rfl, rfl, by decide +kernel, rfl, by decide +kernel, by decide +kernel⟩
theorem okf_law_bag {n : Nat} {a : Addr} {fd : FuncData} (F : Fun K "_law_bag" "_law_bag" sf_law_bag a fd) (ft : FT T KW n P w K mg base) (mb : ∀ s ∈ bn, mg (Str.ofString s) = none) (gc : GC w K mg) : FnOk P w K mg base CX0 (n + 2 + 1) a fd ["_law_script"] (spI T (n + 1) K "_law_bag") :=
  have nd := (scf_law_bag).nd
  fn_ok F scf_law_bag T_f_law_bag rfl rfl fun cdv A outer s H E hr =>
    (ss_cons (ss_set 1 nd se_int)
      (ss_cons (ss_for PassesOwn.never rfl (si_seq (se_sli (se_var 0) so_none (so_some se_int))) (sg_name 2 nd) (ss_cons (ss_set 1 nd (se_bin bin_mod (se_bin bin_add (se_bin bin_add (se_bin bin_mul (se_var 1) se_int) (se_bin bin_mod (se_var 2) se_int)) se_int) se_int))
      ss_nil))
      (ss_cons (ss_ret (se_newL (sn_lst (ses_cons (se_list is_comp (sn_comp [("_law_cell", 2)] rfl nd (si_seq (se_sli (se_var 0) so_none (so_some se_int))) (blkOk_by (N := ["_law_script", "_law_stir", "_law_cell"]) (sc := defScope sf_law_bag) (by decide +kernel)) (fun _ _ _ _ _ => (sg_name 2 nd)) (fun _ _ _ _ _ => sc_nil) (fun _ _ _ _ _ => (se_bin bin_mod (se_blt blt_abs (ses_cons (se_var 2) ses_nil) (mb "abs" (by decide)) bv_abs) (se_bin bin_pow (se_bin bin_pow se_int se_int) se_int))))) (ses_cons se_int (ses_cons se_int (ses_cons (se_var 1) (ses_cons se_int ses_nil))))))))
      ss_nil)))
end
end Prog

namespace Prog
open PySem PySem.Spec PyProof.Rows L2 Snd
section
variable {P : Program} {w : World} {K : PySem.W.Frag} {mg : Str → Option Value} {base : Heap}
theorem scf_law_stirred : FnScope ["_law_bag_here", "_law_many", "_law_got", "_law_k"] ["_law_bag_here", "_law_many"] (defScope sf_law_stirred) := ⟨rfl, rfl, rfl, by decide +kernel, rfl, by decide +kernel, by decide +kernel⟩
theorem okf_law_stirred {n : Nat} {a : Addr} {fd : FuncData} (F : Fun K "_law_stirred" "_law_stirred" sf_law_stirred a fd) (ft : FT T KW n P w K mg base) (mb : ∀ s ∈ bn, mg (Str.ofString s) = none) (gc : GC w K mg) : FnOk P w K mg base CX0 (n + 2 + 1) a fd ["_law_bag_here", "_law_many"] (spI T (n + 1) K "_law_stirred") :=
  have nd := (scf_law_stirred).nd
  fn_ok F scf_law_stirred T_f_law_stirred rfl rfl fun cdv A outer s H E hr =>
    (ss_cons (ss_set 2 nd se_int)
      (ss_cons (ss_for PassesOwn.never rfl (si_range1 (se_bin bin_add se_int (se_bin bin_fdiv (se_bits (se_var 1)) se_int)) (mb "range" (by decide))) (sg_name 3 nd) (ss_cons (ss_sub hr (se_bin bin_add (se_idx hr (se_var 0) se_int) se_int) (se_var 0) se_int)
      (ss_cons (ss_sub hr (se_bin bin_mod (se_bin bin_add (se_bin bin_add (se_bin bin_add (se_bin bin_pow (se_idx hr (se_var 0) se_int) se_int) (se_bin bin_mul se_int (se_idx hr (se_var 0) se_int))) (se_bin bin_mul se_int (se_idx hr (se_var 0) se_int))) se_int) se_int) (se_var 0) se_int)
      (ss_cons (ss_set 2 nd (se_bin bin_add (se_bin bin_mul (se_var 2) se_int) (se_bin bin_fdiv (se_idx hr (se_var 0) se_int) se_int)))
      ss_nil))))
      (ss_cons (ss_ret (se_bin bin_mod (se_var 2) (se_var 1)))
      ss_nil)))
end
end Prog

namespace Prog
open PySem PySem.Spec PyProof.Rows L2 Snd
section
variable {P : Program} {w : World} {K : PySem.W.Frag} {mg : Str → Option Value} {base : Heap}
theorem scf_law_draw : FnScope ["_law_bag_here", "_law_many", "_law_got"] ["_law_bag_here", "_law_many"] (defScope sf_law_draw) := ⟨rfl, rfl, rfl, by decide +kernel, rfl, by decide +kernel, by decide +kernel⟩
theorem okf_law_draw {n : Nat} {a : Addr} {fd : FuncData} (F : Fun K "_law_draw" "_law_draw" sf_law_draw a fd) (ft : FT T KW n P w K mg base) (mb : ∀ s ∈ bn, mg (Str.ofString s) = none) (gc : GC w K mg) : FnOk P w K mg base CX0 (n + 2 + 1) a fd ["_law_bag_here", "_law_many"] (spI T (n + 1) K "_law_draw") :=
  have nd := (scf_law_draw).nd
  fn_ok F scf_law_draw T_f_law_draw rfl rfl fun cdv A outer s H E hr =>
    (ss_cons (ss_if (st_w (sw_and (st_cmp (cmp_eq hr) (se_idx hr (se_var 0) se_int) se_int) (sw_and1 (st_cmp cmp_lt (se_idx hr (se_var 0) se_int) (se_blt blt_len (ses_cons (se_idx hr (se_var 0) se_int) ses_nil) (mb "len" (by decide)) bv_len))))) (ss_cons (ss_sub hr (se_idx hr (se_idx hr (se_var 0) se_int) (se_idx hr (se_var 0) se_int)) (se_var 0) se_int)
      (ss_cons (ss_sub hr (se_bin bin_add (se_idx hr (se_var 0) se_int) se_int) (se_var 0) se_int)
      ss_nil)) (ss_cons (ss_if (st_cmp (cmp_eq hr) (se_idx hr (se_var 0) se_int) se_int) (ss_cons (ss_ret (se_call ft T_f_law_stirred hr (ses_cons (se_var 0) (ses_cons (se_var 1) ses_nil))))
      ss_nil) ss_nil)
      ss_nil))
      (ss_cons (ss_set 2 nd (se_bin bin_mod (se_idx hr (se_var 0) se_int) (se_var 1)))
      (ss_cons (ss_sub hr (se_bin bin_fdiv (se_idx hr (se_var 0) se_int) (se_var 1)) (se_var 0) se_int)
      (ss_cons (ss_ret (se_var 2))
      ss_nil))))
end
end Prog

namespace Prog
open PySem PySem.Spec PyProof.Rows L2 Snd
section
variable {P : Program} {w : World} {K : PySem.W.Frag} {mg : Str → Option Value} {base : Heap}
theorem scf_law_binds : FnScope ["_law_prog"] ["_law_prog"] (defScope sf_law_binds) := ⟨rfl, rfl, rfl, by decide +kernel, rfl, by decide +kernel, by decide +kernel⟩
theorem okf_law_binds {n : Nat} {a : Addr} {fd : FuncData} (F : Fun K "_law_binds" "_law_binds" sf_law_binds a fd) (ft : FT T KW n P w K mg base) (mb : ∀ s ∈ bn, mg (Str.ofString s) = none) (gc : GC w K mg) : FnOk P w K mg base CX0 (n + 2 + 1) a fd ["_law_prog"] (spI T (n + 1) K "_law_binds") :=
  have nd := (scf_law_binds).nd
  fn_ok F scf_law_binds T_f_law_binds rfl rfl fun cdv A outer s H E hr =>
    (ss_cons (ss_ret (se_get hr (se_disp (sps_cons se_str se_int (sps_cons se_str se_int (sps_cons se_str se_int sps_nil)))) (se_idx hr (se_var 0) se_int) se_int))
      ss_nil)
end
end Prog

namespace Prog
open PySem PySem.Spec PyProof.Rows L2 Snd
section
variable {P : Program} {w : World} {K : PySem.W.Frag} {mg : Str → Option Value} {base : Heap}
theorem scf_law_parts : FnScope ["_law_prog"] ["_law_prog"] (defScope sf_law_parts) := ⟨rfl, rfl, rfl, by decide +kernel, rfl, by decide +kernel, by decide +kernel⟩
theorem okf_law_parts {n : Nat} {a : Addr} {fd : FuncData} (F : Fun K "_law_parts" "_law_parts" sf_law_parts a fd) (ft : FT T KW n P w K mg base) (mb : ∀ s ∈ bn, mg (Str.ofString s) = none) (gc : GC w K mg) : FnOk P w K mg base CX0 (n + 2 + 1) a fd ["_law_prog"] (spI T (n + 1) K "_law_parts") :=
  have nd := (scf_law_parts).nd
  fn_ok F scf_law_parts T_f_law_parts rfl rfl fun cdv A outer s H E hr =>
    (ss_cons (ss_if (st_in hr (se_idx hr (se_var 0) se_int) (se_list is_lst (sn_lst (ses_cons se_str (ses_cons se_str (ses_cons se_str (ses_cons se_str ses_nil))))))) (ss_cons (ss_ret (se_newL (sn_lst ses_nil)))
      ss_nil) ss_nil)
      (ss_cons (ss_ret (se_newL (sn_list (se_sli (se_var 0) (so_some (se_bin bin_add se_int (se_call ft T_f_law_binds hr (ses_cons (se_var 0) ses_nil)))) so_none) (mb "list" (by decide)) bv_list)))
      ss_nil))
end
end Prog

namespace Prog
open PySem PySem.Spec PyProof.Rows L2 Snd
section
variable {P : Program} {w : World} {K : PySem.W.Frag} {mg : Str → Option Value} {base : Heap}
theorem scf_law_bounded : FnScope ["_law_prog", "_law_layer", "_law_some", "_law_deep", "_law_later", "_law_part", "_law_first", "_law_parts_here", "_law_k"] ["_law_prog"] (defScope sf_law_bounded) := ⟨rfl, rfl, rfl, by decide +kernel, rfl, by decide +kernel, by decide +kernel⟩
theorem okf_law_bounded {n : Nat} {a : Addr} {fd : FuncData} (F : Fun K "_law_bounded" "_law_bounded" sf_law_bounded a fd) (ft : FT T KW n P w K mg base) (mb : ∀ s ∈ bn, mg (Str.ofString s) = none) (gc : GC w K mg) : FnOk P w K mg base CX0 (n + 2 + 1) a fd ["_law_prog"] (spI T (n + 1) K "_law_bounded") :=
  have nd := (scf_law_bounded).nd
  fn_ok F scf_law_bounded T_f_law_bounded rfl rfl fun cdv A outer s H E hr =>
    (ss_cons (ss_set 1 nd (se_list is_lst (sn_lst (ses_cons (se_tup (ses_cons (se_var 0) (ses_cons se_bool ses_nil))) ses_nil))))
      (ss_cons (ss_set 2 nd (se_newL (sn_lst ses_nil)))
      (ss_cons (ss_set 3 nd se_int)
      (ss_cons (ss_while PassesOwn.never (st_cmp (cmp_ne hr) (se_var 1) (se_list is_lst (sn_lst ses_nil))) (ss_cons (ss_set 4 nd (se_list is_lst (sn_lst ses_nil)))
      (ss_cons (ss_for PassesOwn.never rfl (si_seq (se_var 1)) (sg_tup rfl (sgs_cons (sg_name 5 nd) (sgs_cons (sg_name 6 nd) sgs_nil)) (puts_len _)) (ss_cons (ss_set 5 nd (se_ite (st_cmp (cmp_eq hr) (se_idx hr (se_var 5) se_int) se_str) (se_idx hr (se_var 5) se_int) (se_var 5)))
      (ss_cons (ss_set 7 nd (se_frzT (se_call ft T_f_law_parts hr (ses_cons (se_var 5) ses_nil))))
      (ss_cons (ss_ex (se_append (se_var 2) (se_and (se_var 6) (se_one (se_in hr (se_idx hr (se_var 5) se_int) (se_list is_lst (sn_lst (ses_cons se_str (ses_cons se_str ses_nil)))))))))
      (ss_cons (ss_set 4 nd (se_bin bin_add (se_var 4) (se_list is_comp (sn_comp [("_law_k", 8)] rfl nd (si_range1 (se_blt blt_len (ses_cons (se_var 7) ses_nil) (mb "len" (by decide)) bv_len) (mb "range" (by decide))) (blkOk_by (N := ["_law_prog", "_law_layer", "_law_some", "_law_deep", "_law_later", "_law_part", "_law_first", "_law_parts_here", "_law_k"]) (sc := defScope sf_law_bounded) (by decide +kernel)) (fun _ _ _ _ _ => (sg_name 8 nd)) (fun _ _ _ _ _ => sc_nil) (fun _ _ _ _ _ => (se_tup (ses_cons (se_idx hr (se_var 7) (se_var 8)) (ses_cons (se_or (se_var 6) (se_one (se_and (se_cmp (cmp_eq hr) (se_idx hr (se_var 5) se_int) se_str) (se_one (se_cmp (cmp_eq hr) (se_var 8) se_int))))) ses_nil))))))))
      ss_nil)))))
      (ss_cons (ss_set 1 nd (se_var 4))
      (ss_cons (ss_set 3 nd (se_bin bin_add (se_var 3) se_int))
      ss_nil)))))
      (ss_cons (ss_ret (se_and (se_cmp cmp_le (se_blt blt_len (ses_cons (se_var 2) ses_nil) (mb "len" (by decide)) bv_len) se_int) (se_and (se_cmp cmp_le (se_var 3) se_int) (se_one (se_or (se_cmp cmp_le (se_blt blt_len (ses_cons (se_var 2) ses_nil) (mb "len" (by decide)) bv_len) se_int) (se_one (se_not (se_blt (blt_any rfl) (ses_cons (se_var 2) ses_nil) (mb "any" (by decide)) bv_any))))))))
      ss_nil)))))
end
end Prog

namespace Prog
open PySem PySem.Spec PyProof.Rows L2 Snd
section
variable {P : Program} {w : World} {K : PySem.W.Frag} {mg : Str → Option Value} {base : Heap}
theorem scf_law_rows : FnScope ["_law_part", "_law_rows_here", "_law_at", "_law_kids", "_law_one"] ["_law_part", "_law_rows_here"] (defScope sf_law_rows) := ⟨rfl, rfl, rfl, by decide +kernel, rfl, by decide +kernel, by decide +kernel⟩
theorem okf_law_rows {n : Nat} {a : Addr} {fd : FuncData} (F : Fun K "_law_rows" "_law_rows" sf_law_rows a fd) (ft : FT T KW n P w K mg base) (mb : ∀ s ∈ bn, mg (Str.ofString s) = none) (gc : GC w K mg) : FnOk P w K mg base CX0 (n + 2 + 1) a fd ["_law_part", "_law_rows_here"] (spI T (n + 1) K "_law_rows") :=
  have nd := (scf_law_rows).nd
  fn_ok F scf_law_rows T_f_law_rows rfl rfl fun cdv A outer s H E hr =>
    (ss_cons (ss_set 0 nd (se_ite (st_cmp (cmp_eq hr) (se_idx hr (se_var 0) se_int) se_str) (se_idx hr (se_var 0) se_int) (se_var 0)))
      (ss_cons (ss_set 2 nd (se_blt blt_len (ses_cons (se_var 1) ses_nil) (mb "len" (by decide)) bv_len))
      (ss_cons (ss_ex (se_append (se_var 1) se_non))
      (ss_cons (ss_setLc 3 [("_law_one", 4)] (tI_list is_comp) rfl nd (si_seq (se_frzT (se_call ft T_f_law_parts hr (ses_cons (se_var 0) ses_nil)))) (blkOk_by (N := ["_law_part", "_law_rows_here", "_law_at", "_law_kids", "_law_one"]) (sc := defScope sf_law_rows) (by decide +kernel)) (fun _ _ _ _ _ => (sg_name 4 nd)) (fun _ _ _ _ _ => sc_nil) (fun _ _ _ _ _ => (se_call ft T_f_law_rows hr (ses_cons (se_var 4) (ses_cons (se_var 1) ses_nil)))) (sw_true rfl rfl rfl (by decide +kernel)))
      (ss_cons (ss_sub hr (se_tup (ses_cons (se_idx hr (se_var 0) se_int) (ses_cons (se_list is_list (sn_list (se_sli (se_var 0) (so_some se_int) (so_some (se_bin bin_sub (se_blt blt_len (ses_cons (se_var 0) ses_nil) (mb "len" (by decide)) bv_len) (se_blt blt_len (ses_cons (se_var 3) ses_nil) (mb "len" (by decide)) bv_len)))) (mb "list" (by decide)) bv_list)) (ses_cons (se_var 3) ses_nil)))) (se_var 1) (se_var 2))
      (ss_cons (ss_ret (se_var 2))
      ss_nil))))))
end
end Prog

namespace Prog
open PySem PySem.Spec PyProof.Rows L2 Snd
section
variable {P : Program} {w : World} {K : PySem.W.Frag} {mg : Str → Option Value} {base : Heap}
theorem scf_law_size : FnScope ["_law_value"] ["_law_value"] (defScope sf_law_size) := ⟨rfl, rfl, rfl, by decide +kernel, rfl, by decide +kernel, by decide +kernel⟩
theorem okf_law_size {n : Nat} {a : Addr} {fd : FuncData} (F : Fun K "_law_size" "_law_size" sf_law_size a fd) (ft : FT T KW n P w K mg base) (mb : ∀ s ∈ bn, mg (Str.ofString s) = none) (gc : GC w K mg) : FnOk P w K mg base CX0 (n + 2 + 1) a fd ["_law_value"] (spI T (n + 1) K "_law_size") :=
  have nd := (scf_law_size).nd
  fn_ok F scf_law_size T_f_law_size rfl rfl fun cdv A outer s H E hr =>
    (ss_cons (ss_ret (se_ite (st_in hr (se_idx hr (se_var 0) se_int) (se_list is_lst (sn_lst (ses_cons se_str (ses_cons se_str ses_nil))))) (se_idx hr (se_var 0) se_int) se_int))
      ss_nil)
end
end Prog

namespace Prog
open PySem PySem.Spec PyProof.Rows L2 Snd
section
variable {P : Program} {w : World} {K : PySem.W.Frag} {mg : Str → Option Value} {base : Heap}
theorem scf_law_told : FnScope ["_law_word", "_law_some", "_law_first"] ["_law_word", "_law_some"] (defScope sf_law_told) := ⟨rfl, rfl, rfl, by decide +kernel, rfl, by decide +kernel, by decide +kernel⟩
theorem okf_law_told {n : Nat} {a : Addr} {fd : FuncData} (F : Fun K "_law_told" "_law_told" sf_law_told a fd) (ft : FT T KW n P w K mg base) (mb : ∀ s ∈ bn, mg (Str.ofString s) = none) (gc : GC w K mg) : FnOk P w K mg base CX0 (n + 2 + 1) a fd ["_law_word", "_law_some"] (spI T (n + 1) K "_law_told") :=
  have nd := (scf_law_told).nd
  fn_ok F scf_law_told T_f_law_told rfl rfl fun cdv A outer s H E hr =>
    (ss_cons (ss_set 2 nd (se_idx hr (se_var 1) se_int))
      (ss_cons (ss_if (st_in hr (se_var 0) (se_list is_lst (sn_lst (ses_cons se_str (ses_cons se_str ses_nil))))) (ss_cons (ss_if (st_w (sw_or (st_cmp (cmp_ne hr) (se_idx hr (se_var 2) se_int) se_str) (sw_or1 (st_cmp (cmp_ne hr) (se_idx hr (se_idx hr (se_var 1) se_int) se_int) se_str)))) (ss_cons (ss_ret (se_tup (ses_cons se_str ses_nil)))
      ss_nil) ss_nil)
      (ss_cons (ss_ret (se_tup (ses_cons se_str (ses_cons (se_ite (st_cmp (cmp_eq hr) (se_var 0) se_str) (se_tup (ses_cons se_str (ses_cons (se_bin bin_add (se_idx hr (se_var 2) se_int) (se_idx hr (se_idx hr (se_var 1) se_int) se_int)) ses_nil))) (se_tup (ses_cons se_str (ses_cons (se_cmp cmp_lt (se_idx hr (se_var 2) se_int) (se_idx hr (se_idx hr (se_var 1) se_int) se_int)) ses_nil)))) ses_nil))))
      ss_nil)) ss_nil)
      (ss_cons (ss_if (st_in hr (se_var 0) (se_list is_lst (sn_lst (ses_cons se_str (ses_cons se_str ses_nil))))) (ss_cons (ss_if (st_w (sw_and (st_cmp (cmp_eq hr) (se_var 0) se_str) (sw_and1 (st_notin hr (se_idx hr (se_idx hr (se_var 1) se_int) se_int) (se_list is_lst (sn_lst (ses_cons se_str (ses_cons se_str ses_nil)))))))) (ss_cons (ss_ret (se_tup (ses_cons se_str ses_nil)))
      ss_nil) ss_nil)
      (ss_cons (ss_ret (se_tup (ses_cons se_str (ses_cons (se_tup (ses_cons (se_var 0) (ses_cons (se_var 2) (ses_cons (se_idx hr (se_var 1) se_int) (ses_cons (se_bin bin_add (se_bin bin_add se_int (se_call ft T_f_law_size hr (ses_cons (se_var 2) ses_nil))) (se_call ft T_f_law_size hr (ses_cons (se_idx hr (se_var 1) se_int) ses_nil))) ses_nil))))) ses_nil))))
      ss_nil)) ss_nil)
      (ss_cons (ss_if (st_in hr (se_var 0) (se_list is_lst (sn_lst (ses_cons se_str (ses_cons se_str ses_nil))))) (ss_cons (ss_ret (se_ite (st_cmp (cmp_eq hr) (se_idx hr (se_var 2) se_int) se_str) (se_tup (ses_cons se_str (ses_cons (se_idx hr (se_var 2) (se_bin bin_add se_int (se_bltT blt_int (ses_cons (se_cmp (cmp_eq hr) (se_var 0) se_str) ses_nil) (mb "int" (by decide)) bv_int))) ses_nil))) (se_tup (ses_cons se_str ses_nil))))
      ss_nil) ss_nil)
      (ss_cons (ss_if (st_notin hr (se_idx hr (se_var 2) se_int) (se_list is_lst (sn_lst (ses_cons se_str (ses_cons se_str ses_nil))))) (ss_cons (ss_ret (se_tup (ses_cons se_str ses_nil)))
      ss_nil) ss_nil)
      (ss_cons (ss_if (st_cmp (cmp_eq hr) (se_var 0) se_str) (ss_cons (ss_ret (se_tup (ses_cons se_str (ses_cons (se_tup (ses_cons se_str (ses_cons (se_cmp (cmp_eq hr) (se_idx hr (se_var 2) se_int) se_str) ses_nil))) ses_nil))))
      ss_nil) ss_nil)
      (ss_cons (ss_ret (se_ite (st_cmp (cmp_eq hr) (se_idx hr (se_var 2) se_int) se_str) (se_tup (ses_cons se_str ses_nil)) (se_tup (ses_cons se_str (ses_cons (se_idx hr (se_var 2) (se_bin bin_add se_int (se_bltT blt_int (ses_cons (se_cmp (cmp_eq hr) (se_var 0) se_str) ses_nil) (mb "int" (by decide)) bv_int))) ses_nil)))))
      ss_nil)))))))
end
end Prog

namespace Prog
open PySem PySem.Spec PyProof.Rows L2 Snd
section
variable {P : Program} {w : World} {K : PySem.W.Frag} {mg : Str → Option Value} {base : Heap}
theorem scf_law_entered : FnScope ["_law_rows_here", "_law_place", "_law_env", "_law_some", "_law_word", "_law_own", "_law_kids", "_law_names", "_law_body", "_law_around", "_law_more"] ["_law_rows_here", "_law_place", "_law_env", "_law_some"] (defScope sf_law_entered) := ⟨rfl, rfl, rfl, by decide +kernel, rfl, by decide +kernel, by decide +kernel⟩
theorem okf_law_entered {n : Nat} {a : Addr} {fd : FuncData} (F : Fun K "_law_entered" "_law_entered" sf_law_entered a fd) (ft : FT T KW n P w K mg base) (mb : ∀ s ∈ bn, mg (Str.ofString s) = none) (gc : GC w K mg) : FnOk P w K mg base CX0 (n + 2 + 1) a fd ["_law_rows_here", "_law_place", "_law_env", "_law_some"] (spI T (n + 1) K "_law_entered") :=
  have nd := (scf_law_entered).nd
  fn_ok F scf_law_entered T_f_law_entered rfl rfl fun cdv A outer s H E hr =>
    (ss_cons (ss_asg (se_idx hr (se_var 0) (se_var 1)) (sg_tup rfl (sgs_cons (sg_name 4 nd) (sgs_cons (sg_name 5 nd) (sgs_cons (sg_name 6 nd) sgs_nil))) (puts_len _)))
      (ss_cons (ss_if (st_cmp (cmp_eq hr) (se_var 4) se_str) (ss_cons (ss_ret (se_list is_lst (sn_lst (ses_cons (se_idx hr (se_var 6) se_int) (ses_cons (se_bin bin_add (se_var 2) (se_list is_lst (sn_lst (ses_cons (se_tup (ses_cons (se_idx hr (se_var 5) se_int) (ses_cons (se_idx hr (se_var 3) se_int) ses_nil))) ses_nil)))) ses_nil)))))
      ss_nil) ss_nil)
      (ss_cons (ss_if (st_cmp (cmp_eq hr) (se_var 4) se_str) (ss_cons (ss_ret (se_ite (st_cmp (cmp_eq hr) (se_idx hr (se_idx hr (se_var 3) se_int) se_int) se_str) (se_list is_lst (sn_lst (ses_cons (se_idx hr (se_var 6) (se_bin bin_sub se_int (se_bltT blt_int (ses_cons (se_idx hr (se_idx hr (se_var 3) se_int) se_int) ses_nil) (mb "int" (by decide)) bv_int))) (ses_cons (se_var 2) ses_nil)))) se_non))
      ss_nil) ss_nil)
      (ss_cons (ss_if (st_cmp (cmp_ne hr) (se_idx hr (se_idx hr (se_var 3) se_int) se_int) se_str) (ss_cons (ss_ret se_non)
      ss_nil) ss_nil)
      (ss_cons (ss_asg (se_sli (se_idx hr (se_var 3) se_int) (so_some se_int) so_none) (sg_tup rfl (sgs_cons (sg_name 7 nd) (sgs_cons (sg_name 8 nd) (sgs_cons (sg_name 9 nd) sgs_nil))) (puts_len _)))
      (ss_cons (ss_set 10 nd (se_bin bin_add (se_bin bin_lmul (se_list is_lst (sn_lst (ses_cons (se_tup (ses_cons (se_idx hr (se_var 7) se_int) (ses_cons (se_idx hr (se_var 3) se_int) ses_nil))) ses_nil))) (se_bltT blt_int (ses_cons (se_cmp (cmp_eq hr) (se_blt blt_len (ses_cons (se_var 7) ses_nil) (mb "len" (by decide)) bv_len) se_int) ses_nil) (mb "int" (by decide)) bv_int)) (se_list is_lst (sn_lst (ses_cons (se_tup (ses_cons (se_idx hr (se_var 7) (se_neg se_int)) (ses_cons (se_idx hr (se_var 3) se_int) ses_nil))) ses_nil)))))
      (ss_cons (ss_ret (se_list is_lst (sn_lst (ses_cons (se_var 8) (ses_cons (se_bin bin_add (se_var 9) (se_var 10)) ses_nil)))))
      ss_nil)))))))
end
end Prog

namespace Prog
open PySem PySem.Spec PyProof.Rows L2 Snd
section
variable {P : Program} {w : World} {K : PySem.W.Frag} {mg : Str → Option Value} {base : Heap}
theorem scf_law_shown : FnScope ["_law_value"] ["_law_value"] (defScope sf_law_shown) := ⟨rfl, rfl, rfl, by decide +kernel, rfl, by decide +kernel, by decide +kernel⟩
theorem okf_law_shown {n : Nat} {a : Addr} {fd : FuncData} (F : Fun K "_law_shown" "_law_shown" sf_law_shown a fd) (ft : FT T KW n P w K mg base) (mb : ∀ s ∈ bn, mg (Str.ofString s) = none) (gc : GC w K mg) : FnOk P w K mg base CX0 (n + 2 + 1) a fd ["_law_value"] (spI T (n + 1) K "_law_shown") :=
  have nd := (scf_law_shown).nd
  fn_ok F scf_law_shown T_f_law_shown rfl rfl fun cdv A outer s H E hr =>
    (ss_cons (ss_if (st_cmp cmp_gt (se_call ft T_f_law_size hr (ses_cons (se_var 0) ses_nil)) se_int) (ss_cons (ss_ret se_str)
      ss_nil) ss_nil)
      (ss_cons (ss_if (st_in hr (se_idx hr (se_var 0) se_int) (se_list is_lst (sn_lst (ses_cons se_str (ses_cons se_str ses_nil))))) (ss_cons (ss_ret (se_bin bin_add (se_bin bin_add (se_bin bin_add (se_bin bin_add (se_bin bin_add (se_bin bin_add se_str (se_idx hr (se_var 0) se_int)) se_str) (se_call ft T_f_law_shown hr (ses_cons (se_idx hr (se_var 0) se_int) ses_nil))) se_str) (se_call ft T_f_law_shown hr (ses_cons (se_idx hr (se_var 0) se_int) ses_nil))) se_str))
      ss_nil) ss_nil)
      (ss_cons (ss_if (st_cmp (cmp_eq hr) (se_idx hr (se_var 0) se_int) se_str) (ss_cons (ss_ret (se_ite (st_val (se_idx hr (se_var 0) se_int)) se_str se_str))
      ss_nil) ss_nil)
      (ss_cons (ss_ret (se_ite (st_cmp (cmp_eq hr) (se_idx hr (se_var 0) se_int) se_str) (se_bltT blt_str (ses_cons (se_idx hr (se_var 0) se_int) ses_nil) (mb "str" (by decide)) bv_str) (se_idx hr (se_var 0) se_int)))
      ss_nil))))
end
end Prog

namespace Prog
open PySem PySem.Spec PyProof.Rows L2 Snd
section
variable {P : Program} {w : World} {K : PySem.W.Frag} {mg : Str → Option Value} {base : Heap}
theorem scf_law_run : FnScope ["_law_prog", "_law_limit", "_law_rows_here", "_law_todo", "_law_told_here", "_law_begun", "_law_gone", "_law_place", "_law_env", "_law_ready", "_law_word", "_law_own", "_law_kids", "_law_early", "_law_some", "_law_entered_here", "_law_one", "_law_kid", "_law_k", "_law_pair"] ["_law_prog", "_law_limit"] (defScope sf_law_run) := ⟨rfl, rfl, rfl, by decide +kernel, rfl, by decide +kernel, by decide +kernel⟩
theorem okf_law_run {n : Nat} {a : Addr} {fd : FuncData} (F : Fun K "_law_run" "_law_run" sf_law_run a fd) (ft : FT T KW n P w K mg base) (mb : ∀ s ∈ bn, mg (Str.ofString s) = none) (gc : GC w K mg) : FnOk P w K mg base CX0 (n + 2 + 1) a fd ["_law_prog", "_law_limit"] (spI T (n + 1) K "_law_run") :=
  have nd := (scf_law_run).nd
  fn_ok F scf_law_run T_f_law_run rfl rfl fun cdv A outer s H E hr =>
    (ss_cons (ss_set 2 nd (se_newL (sn_lst ses_nil)))
      (ss_cons (ss_ex (se_call ft T_f_law_rows hr (ses_cons (se_var 0) (ses_cons (se_var 2) ses_nil))))
      (ss_cons (ss_set 3 nd (se_newL (sn_lst (ses_cons (se_tup (ses_cons se_int (ses_cons (se_list is_lst (sn_lst ses_nil)) (ses_cons se_bool ses_nil)))) ses_nil))))
      (ss_cons (ss_set 4 nd (se_newL (sn_lst ses_nil)))
      (ss_cons (ss_set 5 nd se_newD)
      (ss_cons (ss_set 6 nd se_int)
      (ss_cons (ss_while PassesOwn.never (st_cnn hr (se_var 3)) (ss_cons (ss_asg (se_pop (se_var 3)) (sg_tup rfl (sgs_cons (sg_name 7 nd) (sgs_cons (sg_name 8 nd) (sgs_cons (sg_name 9 nd) sgs_nil))) (puts_len _)))
      (ss_cons (ss_asg (se_idx hr (se_var 2) (se_var 7)) (sg_tup rfl (sgs_cons (sg_name 10 nd) (sgs_cons (sg_name 11 nd) (sgs_cons (sg_name 12 nd) sgs_nil))) (puts_len _)))
      (ss_cons (ss_set 13 nd (se_get hr (se_disp (sps_cons se_str se_int (sps_cons se_str se_int sps_nil))) (se_var 10) (se_blt blt_len (ses_cons (se_var 12) ses_nil) (mb "len" (by decide)) bv_len)))
      (ss_cons (ss_if (st_w (sw_and (st_not (st_val (se_var 9))) (sw_and1 (st_cmp (cmp_eq hr) (se_var 6) (se_var 1))))) (ss_cons (ss_ret (se_tup (ses_cons (se_tup (ses_cons se_str ses_nil)) (ses_cons (se_dkeys rfl (se_var 5) (mb "sorted" (by decide))) (ses_cons (se_var 6) ses_nil)))))
      ss_nil) ss_nil)
      (ss_cons (ss_if (st_not (st_val (se_var 9))) (ss_cons (ss_set 6 nd (se_bin bin_add (se_var 6) se_int))
      (ss_cons (ss_sub hr se_bool (se_var 5) (se_var 7))
      (ss_cons (ss_if (st_in hr (se_var 10) (se_list is_lst (sn_lst (ses_cons se_str (ses_cons se_str (ses_cons se_str ses_nil)))))) (ss_cons (ss_ex (se_append (se_var 4) (se_bltT blt_tuple (ses_cons (se_bin bin_add (se_list is_lst (sn_lst (ses_cons (se_var 10) ses_nil))) (se_var 11)) ses_nil) (mb "tuple" (by decide)) bv_tuple)))
      ss_nil) (ss_cons (ss_if (st_cmp (cmp_eq hr) (se_var 10) se_str) (ss_cons (ss_ex (se_append (se_var 4) (se_idx hr (se_list is_comp (sn_comp [("_law_pair", 19)] rfl nd (si_seq (se_var 8)) (blkOk_by (N := ["_law_prog", "_law_limit", "_law_rows_here", "_law_todo", "_law_told_here", "_law_begun", "_law_gone", "_law_place", "_law_env", "_law_ready", "_law_word", "_law_own", "_law_kids", "_law_early", "_law_some", "_law_entered_here", "_law_one", "_law_kid", "_law_k", "_law_pair"]) (sc := defScope sf_law_run) (by decide +kernel)) (fun _ _ _ _ _ => (sg_name 19 nd)) (fun _ _ _ _ _ => (sc_one (st_cmp (cmp_eq hr) (se_idx hr (se_var 19) se_int) (se_idx hr (se_var 11) se_int)))) (fun _ _ _ _ _ => (se_idx hr (se_var 19) se_int)))) (se_neg se_int))))
      ss_nil) (ss_cons (ss_if (st_in hr (se_var 10) (se_list is_lst (sn_lst (ses_cons se_str (ses_cons se_str ses_nil))))) (ss_cons (ss_ex (se_append (se_var 4) (se_tup (ses_cons se_str (ses_cons (se_var 11) (ses_cons (se_idx hr (se_var 12) se_int) (ses_cons (se_var 8) ses_nil)))))))
      ss_nil) (ss_cons (ss_ex (se_append (se_var 3) (se_tup (ses_cons (se_var 7) (ses_cons (se_var 8) (ses_cons se_bool ses_nil))))))
      (ss_cons (ss_for PassesOwn.never rfl (si_seq (se_list is_rev (sn_rev (se_sli (se_var 12) so_none (so_some (se_var 13)))))) (sg_name 17 nd) (ss_cons (ss_ex (se_append (se_var 3) (se_tup (ses_cons (se_var 17) (ses_cons (se_var 8) (ses_cons se_bool ses_nil))))))
      ss_nil))
      ss_nil)))
      ss_nil))
      ss_nil))
      ss_nil))) (ss_cons (ss_set 14 nd (se_list is_rev (sn_rev (se_list is_comp (sn_comp [("_law_k", 18)] rfl nd (si_range1 (se_var 13) (mb "range" (by decide))) (blkOk_by (N := ["_law_prog", "_law_limit", "_law_rows_here", "_law_todo", "_law_told_here", "_law_begun", "_law_gone", "_law_place", "_law_env", "_law_ready", "_law_word", "_law_own", "_law_kids", "_law_early", "_law_some", "_law_entered_here", "_law_one", "_law_kid", "_law_k", "_law_pair"]) (sc := defScope sf_law_run) (by decide +kernel)) (fun _ _ _ _ _ => (sg_name 18 nd)) (fun _ _ _ _ _ => sc_nil) (fun _ _ _ _ _ => (se_pop (se_var 4))))))))
      (ss_cons (ss_if (st_in hr (se_var 10) (se_list is_lst (sn_lst (ses_cons se_str (ses_cons se_str (ses_cons se_str ses_nil)))))) (ss_cons (ss_set 15 nd (se_call ft T_f_law_entered hr (ses_cons (se_var 2) (ses_cons (se_var 7) (ses_cons (se_var 8) (ses_cons (se_var 14) ses_nil))))))
      (ss_cons (ss_if (st_cmp cmp_is (se_var 15) se_non) (ss_cons (ss_ret (se_tup (ses_cons (se_tup (ses_cons se_str (ses_cons (se_var 7) ses_nil))) (ses_cons (se_dkeys rfl (se_var 5) (mb "sorted" (by decide))) (ses_cons (se_var 6) ses_nil)))))
      ss_nil) ss_nil)
      (ss_cons (ss_ex (se_append (se_var 3) (se_tup (ses_cons (se_idx hr (se_var 15) se_int) (ses_cons (se_idx hr (se_var 15) se_int) (ses_cons se_bool ses_nil))))))
      ss_nil))) (ss_cons (ss_set 16 nd (se_call ft T_f_law_told hr (ses_cons (se_var 10) (ses_cons (se_var 14) ses_nil))))
      (ss_cons (ss_if (st_cmp (cmp_ne hr) (se_idx hr (se_var 16) se_int) se_str) (ss_cons (ss_ret (se_tup (ses_cons (se_tup (ses_cons (se_idx hr (se_var 16) se_int) (ses_cons (se_var 7) ses_nil))) (ses_cons (se_dkeys rfl (se_var 5) (mb "sorted" (by decide))) (ses_cons (se_var 6) ses_nil)))))
      ss_nil) ss_nil)
      (ss_cons (ss_ex (se_append (se_var 4) (se_idx hr (se_var 16) se_int)))
      ss_nil))))
      ss_nil)))
      ss_nil))))))
      (ss_cons (ss_ret (se_tup (ses_cons (se_tup (ses_cons se_str (ses_cons (se_call ft T_f_law_shown hr (ses_cons (se_idx hr (se_var 4) se_int) ses_nil)) ses_nil))) (ses_cons (se_dkeys rfl (se_var 5) (mb "sorted" (by decide))) (ses_cons (se_var 6) ses_nil)))))
      ss_nil))))))))
end
end Prog

namespace Prog
open PySem PySem.Spec PyProof.Rows L2 Snd
section
variable {P : Program} {w : World} {K : PySem.W.Frag} {mg : Str → Option Value} {base : Heap}
theorem scf_law_alike : FnScope ["_law_got", "_law_due", "_law_k"] ["_law_got", "_law_due"] (defScope sf_law_alike) := ⟨rfl, rfl, rfl, by decide +kernel, rfl, by decide +kernel, by decide +kernel⟩
theorem okf_law_alike {n : Nat} {a : Addr} {fd : FuncData} (F : Fun K "_law_alike" "_law_alike" sf_law_alike a fd) (ft : FT T KW n P w K mg base) (mb : ∀ s ∈ bn, mg (Str.ofString s) = none) (gc : GC w K mg) : FnOk P w K mg base CX0 (n + 2 + 1) a fd ["_law_got", "_law_due"] (spI T (n + 1) K "_law_alike") :=
  have nd := (scf_law_alike).nd
  fn_ok F scf_law_alike T_f_law_alike rfl rfl fun cdv A outer s H E hr =>
    (ss_cons (ss_if (st_val (se_isiT (se_var 1) (sty_cons (t := .list) (sty_cons (t := .tuple) sty_nil (mb "tuple" (by decide)) bv_tuple) (mb "list" (by decide)) bv_list) (mb "isinstance" (by decide)))) (ss_cons (ss_if (st_w (sw_or (st_not (st_val (se_isiT (se_var 0) (sty_cons (t := .list) (sty_cons (t := .tuple) sty_nil (mb "tuple" (by decide)) bv_tuple) (mb "list" (by decide)) bv_list) (mb "isinstance" (by decide))))) (sw_or1 (st_cmp (cmp_ne hr) (se_isi (t := .list) (se_var 0) (sty_cons (t := .list) sty_nil (mb "list" (by decide)) bv_list) (mb "isinstance" (by decide))) (se_isi (t := .list) (se_var 1) (sty_cons (t := .list) sty_nil (mb "list" (by decide)) bv_list) (mb "isinstance" (by decide))))))) (ss_cons (ss_ret se_bool)
      ss_nil) ss_nil)
      (ss_cons (ss_if (st_cmp (cmp_ne hr) (se_blt blt_len (ses_cons (se_var 0) ses_nil) (mb "len" (by decide)) bv_len) (se_blt blt_len (ses_cons (se_var 1) ses_nil) (mb "len" (by decide)) bv_len)) (ss_cons (ss_ret se_bool)
      ss_nil) ss_nil)
      (ss_cons (ss_ret (se_blt (blt_all rfl) (ses_cons (se_list is_comp (sn_comp [("_law_k", 2)] rfl nd (si_range1 (se_blt blt_len (ses_cons (se_var 1) ses_nil) (mb "len" (by decide)) bv_len) (mb "range" (by decide))) (blkOk_by (N := ["_law_got", "_law_due", "_law_k"]) (sc := defScope sf_law_alike) (by decide +kernel)) (fun _ _ _ _ _ => (sg_name 2 nd)) (fun _ _ _ _ _ => sc_nil) (fun _ _ _ _ _ => (se_call ft T_f_law_alike hr (ses_cons (se_idx hr (se_var 0) (se_var 2)) (ses_cons (se_idx hr (se_var 1) (se_var 2)) ses_nil)))))) ses_nil) (mb "all" (by decide)) bv_all))
      ss_nil))) ss_nil)
      (ss_cons (ss_if (st_w (sw_or (st_cmp (cmp_ne hr) (se_isi (t := .bool) (se_var 0) (sty_cons (t := .bool) sty_nil (mb "bool" (by decide)) bv_bool) (mb "isinstance" (by decide))) (se_isi (t := .bool) (se_var 1) (sty_cons (t := .bool) sty_nil (mb "bool" (by decide)) bv_bool) (mb "isinstance" (by decide)))) (sw_or1 (st_cmp (cmp_ne hr) (se_isi (t := .int) (se_var 0) (sty_cons (t := .int) sty_nil (mb "int" (by decide)) bv_int) (mb "isinstance" (by decide))) (se_isi (t := .int) (se_var 1) (sty_cons (t := .int) sty_nil (mb "int" (by decide)) bv_int) (mb "isinstance" (by decide))))))) (ss_cons (ss_ret se_bool)
      ss_nil) ss_nil)
      (ss_cons (ss_ret (se_and (se_cmp (cmp_eq hr) (se_isi (t := .str) (se_var 0) (sty_cons (t := .str) sty_nil (mb "str" (by decide)) bv_str) (mb "isinstance" (by decide))) (se_isi (t := .str) (se_var 1) (sty_cons (t := .str) sty_nil (mb "str" (by decide)) bv_str) (mb "isinstance" (by decide)))) (se_one (se_cmp (cmp_eq hr) (se_var 0) (se_var 1)))))
      ss_nil)))
end
end Prog

namespace Prog
open PySem PySem.Spec PyProof.Rows L2 Snd
section
variable {P : Program} {w : World} {K : PySem.W.Frag} {mg : Str → Option Value} {base : Heap}
theorem scf_law_worth : FnScope ["_law_bag_here", "_law_left", "_law_kind", "_law_one", "_law_text", "_law_two", "_law_other", "_law_k", "_law_n", "_law_some", "_law_more", "_law_front"] ["_law_bag_here", "_law_left"] (defScope sf_law_worth) := ⟨rfl, rfl, rfl, by decide +kernel, rfl, by decide +kernel, by decide +kernel⟩
theorem okf_law_worth {n : Nat} {a : Addr} {fd : FuncData} (F : Fun K "_law_worth" "_law_worth" sf_law_worth a fd) (ft : FT T KW n P w K mg base) (mb : ∀ s ∈ bn, mg (Str.ofString s) = none) (gc : GC w K mg) : FnOk P w K mg base CX0 (n + 2 + 1) a fd ["_law_bag_here", "_law_left"] (spI T (n + 1) K "_law_worth") :=
  have nd := (scf_law_worth).nd
  fn_ok F scf_law_worth T_f_law_worth rfl rfl fun cdv A outer s H E hr =>
    (ss_cons (ss_set 2 nd (se_call ft T_f_law_draw hr (ses_cons (se_var 0) (ses_cons se_int ses_nil))))
      (ss_cons (ss_if (st_w (sw_or (st_cmp cmp_lt (se_var 1) se_int) (sw_or1 (st_cmp cmp_lt (se_var 2) se_int)))) (ss_cons (ss_set 8 nd (se_idx hr (se_list is_lst (sn_lst (ses_cons (se_bin bin_sub (se_call ft T_f_law_draw hr (ses_cons (se_var 0) (ses_cons se_int ses_nil))) se_int) (ses_cons (se_call ft T_f_law_draw hr (ses_cons (se_var 0) (ses_cons (se_bin bin_pow se_int se_int) ses_nil))) (ses_cons (se_bin bin_sub se_int (se_call ft T_f_law_draw hr (ses_cons (se_var 0) (ses_cons (se_bin bin_pow se_int se_int) ses_nil)))) ses_nil))))) (se_call ft T_f_law_draw hr (ses_cons (se_var 0) (ses_cons se_int ses_nil)))))
      (ss_cons (ss_set 9 nd (se_list is_lst (sn_lst (ses_cons (se_tup (ses_cons (se_tup (ses_cons se_str (ses_cons (se_var 8) ses_nil))) (ses_cons (se_bltT blt_str (ses_cons (se_var 8) ses_nil) (mb "str" (by decide)) bv_str) ses_nil))) (ses_cons (se_tup (ses_cons (se_tup (ses_cons se_str (ses_cons se_bool ses_nil))) (ses_cons se_str ses_nil))) (ses_cons (se_tup (ses_cons (se_tup (ses_cons se_str (ses_cons se_bool ses_nil))) (ses_cons se_str ses_nil))) (ses_cons (se_tup (ses_cons (se_tup (ses_cons se_str ses_nil)) (ses_cons se_str ses_nil))) ses_nil)))))))
      (ss_cons (ss_ret (se_idx hr (se_bin bin_add (se_var 9) (se_list is_lst (sn_lst (ses_cons (se_tup (ses_cons (se_tup (ses_cons se_str (ses_cons se_str (ses_cons (se_tup (ses_cons se_str (ses_cons se_str ses_nil))) ses_nil)))) (ses_cons se_str ses_nil))) (ses_cons (se_tup (ses_cons (se_tup (ses_cons se_str (ses_cons (se_var 8) ses_nil))) (ses_cons (se_bltT blt_str (ses_cons (se_var 8) ses_nil) (mb "str" (by decide)) bv_str) ses_nil))) ses_nil))))) (se_call ft T_f_law_draw hr (ses_cons (se_var 0) (ses_cons se_int ses_nil)))))
      ss_nil))) ss_nil)
      (ss_cons (ss_asg (se_call ft T_f_law_worth hr (ses_cons (se_var 0) (ses_cons (se_bin bin_fdiv (se_var 1) se_int) ses_nil))) (sg_tup rfl (sgs_cons (sg_name 3 nd) (sgs_cons (sg_name 4 nd) sgs_nil)) (puts_len _)))
      (ss_cons (ss_if (st_cmp cmp_lt (se_var 2) se_int) (ss_cons (ss_asg (se_call ft T_f_law_worth hr (ses_cons (se_var 0) (ses_cons (se_bin bin_sub (se_bin bin_sub (se_var 1) se_int) (se_bin bin_fdiv (se_var 1) se_int)) ses_nil))) (sg_tup rfl (sgs_cons (sg_name 5 nd) (sgs_cons (sg_name 6 nd) sgs_nil)) (puts_len _)))
      (ss_cons (ss_ret (se_tup (ses_cons (se_tup (ses_cons se_str (ses_cons (se_var 3) (ses_cons (se_var 5) ses_nil)))) (ses_cons (se_bin bin_add (se_bin bin_add (se_bin bin_add (se_bin bin_add se_str (se_var 4)) se_str) (se_var 6)) se_str) ses_nil))))
      ss_nil)) ss_nil)
      (ss_cons (ss_asg (se_tup (ses_cons (se_tup (ses_cons se_str ses_nil)) (ses_cons se_str ses_nil))) (sg_tup rfl (sgs_cons (sg_name 5 nd) (sgs_cons (sg_name 6 nd) sgs_nil)) (puts_len _)))
      (ss_cons (ss_for PassesOwn.never rfl (si_range1 (se_call ft T_f_law_draw hr (ses_cons (se_var 0) (ses_cons (se_blt (blt_max rfl) (ses_cons se_int (ses_cons (se_bin bin_fdiv (se_var 1) se_int) ses_nil)) (mb "max" (by decide)) bv_max) ses_nil))) (mb "range" (by decide))) (sg_name 7 nd) (ss_cons (ss_asg (se_call ft T_f_law_worth hr (ses_cons (se_var 0) (ses_cons se_int ses_nil))) (sg_tup rfl (sgs_cons (sg_name 10 nd) (sgs_cons (sg_name 11 nd) sgs_nil)) (puts_len _)))
      (ss_cons (ss_par 5 6 rfl nd (se_tup (ses_cons se_str (ses_cons (se_var 10) (ses_cons (se_var 5) ses_nil)))) (se_bin bin_add (se_bin bin_add (se_bin bin_add (se_bin bin_add se_str (se_var 11)) se_str) (se_var 6)) se_str))
      ss_nil)))
      (ss_cons (ss_ret (se_tup (ses_cons (se_tup (ses_cons se_str (ses_cons (se_var 3) (ses_cons (se_var 5) ses_nil)))) (ses_cons (se_bin bin_add (se_bin bin_add (se_bin bin_add (se_bin bin_add se_str (se_var 4)) se_str) (se_var 6)) se_str) ses_nil))))
      ss_nil)))))))
end
end Prog

namespace Prog
open PySem PySem.Spec PyProof.Rows L2 Snd
section
variable {P : Program} {w : World} {K : PySem.W.Frag} {mg : Str → Option Value} {base : Heap}
theorem scf_law_told_otherwise : FnScope ["_law_bag_here", "_law_prog", "_law_kind", "_law_some"] ["_law_bag_here", "_law_prog"] (defScope sf_law_told_otherwise) := ⟨rfl, rfl, rfl, by decide +kernel, rfl, by decide +kernel, by decide +kernel⟩
theorem okf_law_told_otherwise {n : Nat} {a : Addr} {fd : FuncData} (F : Fun K "_law_told_otherwise" "_law_told_otherwise" sf_law_told_otherwise a fd) (ft : FT T KW n P w K mg base) (mb : ∀ s ∈ bn, mg (Str.ofString s) = none) (gc : GC w K mg) : FnOk P w K mg base CX0 (n + 2 + 1) a fd ["_law_bag_here", "_law_prog"] (spI T (n + 1) K "_law_told_otherwise") :=
  have nd := (scf_law_told_otherwise).nd
  fn_ok F scf_law_told_otherwise T_f_law_told_otherwise rfl rfl fun cdv A outer s H E hr =>
    (ss_cons (ss_set 2 nd (se_call ft T_f_law_draw hr (ses_cons (se_var 0) (ses_cons se_int ses_nil))))
      (ss_cons (ss_set 3 nd (se_newL (sn_lst (ses_cons (se_var 1) (ses_cons (se_tup (ses_cons se_str (ses_cons se_str (ses_cons (se_var 1) (ses_cons (se_tup (ses_cons se_str (ses_cons se_str ses_nil))) ses_nil))))) (ses_cons (se_tup (ses_cons se_str (ses_cons (se_tup (ses_cons se_str (ses_cons se_str (ses_cons (se_tup (ses_cons se_str (ses_cons se_str ses_nil))) ses_nil)))) (ses_cons (se_var 1) ses_nil)))) ses_nil))))))
      (ss_cons (ss_ex (se_append (se_var 3) (se_tup (ses_cons se_str (ses_cons (se_tup (ses_cons se_str (ses_cons (se_tup (ses_cons se_str (ses_cons se_int ses_nil))) (ses_cons (se_tup (ses_cons se_str (ses_cons se_int ses_nil))) ses_nil)))) (ses_cons (se_var 1) (ses_cons (se_tup (ses_cons se_str ses_nil)) ses_nil)))))))
      (ss_cons (ss_ex (se_append (se_var 3) (se_tup (ses_cons se_str (ses_cons (se_tup (ses_cons se_str (ses_cons (se_var 1) (ses_cons (se_tup (ses_cons se_str (ses_cons se_int ses_nil))) ses_nil)))) ses_nil)))))
      (ss_cons (ss_ex (se_append (se_var 3) (se_tup (ses_cons se_str (ses_cons (se_tup (ses_cons se_str (ses_cons (se_tup (ses_cons se_str ses_nil)) (ses_cons (se_var 1) ses_nil)))) ses_nil)))))
      (ss_cons (ss_ex (se_append (se_var 3) (se_tup (ses_cons se_str (ses_cons (se_tup (ses_cons se_str (ses_cons (se_var 1) (ses_cons (se_tup (ses_cons se_str ses_nil)) ses_nil)))) ses_nil)))))
      (ss_cons (ss_ex (se_append (se_var 3) (se_tup (ses_cons se_str (ses_cons (se_tup (ses_cons se_str (ses_cons (se_tup (ses_cons se_str (ses_cons se_str (ses_cons (se_tup (ses_cons se_str (ses_cons se_str (ses_cons (se_tup (ses_cons se_str (ses_cons se_str ses_nil))) ses_nil)))) ses_nil)))) (ses_cons (se_var 1) ses_nil)))) (ses_cons (se_tup (ses_cons se_str ses_nil)) ses_nil))))))
      (ss_cons (ss_ret (se_idx hr (se_var 3) (se_var 2)))
      ss_nil))))))))
end
end Prog

namespace Prog
open PySem PySem.Spec PyProof.Rows L2 Snd
section
variable {P : Program} {w : World} {K : PySem.W.Frag} {mg : Str → Option Value} {base : Heap}
theorem scf_law : FnScope ["_law_script", "_law_bag_here", "_law_turn", "_law_prog", "_law_text", "_law_k", "_law_begun"] ["_law_script"] (defScope sf_law) := ⟨rfl, rfl, rfl, by decide +kernel, rfl, by decide +kernel, by decide +kernel⟩
theorem okf_law {n : Nat} {a : Addr} {fd : FuncData} (F : Fun K "law" "law" sf_law a fd) (ft : FT T KW n P w K mg base) (mb : ∀ s ∈ bn, mg (Str.ofString s) = none) (gc : GC w K mg) : FnOk P w K mg base CX0 (n + 2 + 1) a fd ["_law_script"] (spI T (n + 1) K "law") :=
  have nd := (scf_law).nd
  fn_ok F scf_law T_f_law rfl rfl fun cdv A outer s H E hr =>
    (ss_cons (ss_set 1 nd (se_call ft T_f_law_bag hr (ses_cons (se_var 0) ses_nil)))
      (ss_cons (ss_for PassesOwn.never rfl (si_range1 (se_bin bin_add se_int (se_blt (blt_min rfl) (ses_cons (se_bin bin_fdiv (se_blt blt_len (ses_cons (se_var 0) ses_nil) (mb "len" (by decide)) bv_len) se_int) (ses_cons se_int ses_nil)) (mb "min" (by decide)) bv_min)) (mb "range" (by decide))) (sg_name 2 nd) (ss_cons (ss_asg (se_call ft T_f_law_worth hr (ses_cons (se_var 1) (ses_cons (se_bin bin_add se_int (se_call ft T_f_law_draw hr (ses_cons (se_var 1) (ses_cons se_int ses_nil)))) ses_nil))) (sg_tup rfl (sgs_cons (sg_name 3 nd) (sgs_cons (sg_name 4 nd) sgs_nil)) (puts_len _)))
      (ss_cons (ss_for PassesOwn.never rfl (si_range1 (se_call ft T_f_law_draw hr (ses_cons (se_var 1) (ses_cons se_int ses_nil))) (mb "range" (by decide))) (sg_name 5 nd) (ss_cons (ss_set 3 nd (se_call ft T_f_law_told_otherwise hr (ses_cons (se_var 1) (ses_cons (se_var 3) ses_nil))))
      ss_nil))
      (ss_cons (ss_if (st_val (se_call ft T_f_law_bounded hr (ses_cons (se_var 3) ses_nil))) (ss_cons (ss_set 6 nd (se_idx hr (se_call ft T_f_law_run hr (ses_cons (se_var 3) (ses_cons se_int ses_nil))) se_int))
      (ss_cons (ss_if (st_not (st_val (se_call ft T_f_law_alike hr (ses_cons (se_callD (m := 1) (perm := [0, 1]) (ds := [.int 400]) ft T_f_run (by simp [KW]) hr (ses_cons (se_var 3) ses_nil)) (ses_cons (se_tup (ses_cons (se_tup (ses_cons se_str (ses_cons (se_var 4) ses_nil))) (ses_cons (se_var 6) ses_nil))) ses_nil))))) (ss_cons (ss_ret se_bool)
      ss_nil) ss_nil)
      ss_nil)) ss_nil)
      ss_nil))))
      (ss_cons (ss_ret se_bool)
      ss_nil)))
end
end Prog

namespace Prog
open PySem PySem.Spec PyProof.Rows L2 Snd
set_option maxHeartbeats 8000000 in
theorem ft_all {P : Program} {w : World} {K : PySem.W.Frag} {mg : Str → Option Value} {base : Heap} {a0 : Addr} {fd0 : FuncData} {a1 : Addr} {fd1 : FuncData} {a2 : Addr} {fd2 : FuncData} {a3 : Addr} {fd3 : FuncData} {a4 : Addr} {fd4 : FuncData} {a5 : Addr} {fd5 : FuncData} {a6 : Addr} {fd6 : FuncData} {a7 : Addr} {fd7 : FuncData} {a8 : Addr} {fd8 : FuncData} {a9 : Addr} {fd9 : FuncData} {a10 : Addr} {fd10 : FuncData} {a11 : Addr} {fd11 : FuncData} {a12 : Addr} {fd12 : FuncData} {a13 : Addr} {fd13 : FuncData} {a14 : Addr} {fd14 : FuncData} {a15 : Addr} {fd15 : FuncData} {a16 : Addr} {fd16 : FuncData} {a17 : Addr} {fd17 : FuncData} {a18 : Addr} {fd18 : FuncData} {a19 : Addr} {fd19 : FuncData} {a20 : Addr} {fd20 : FuncData} {a21 : Addr} {fd21 : FuncData} {a22 : Addr} {fd22 : FuncData} {a23 : Addr} {fd23 : FuncData} {a24 : Addr} {fd24 : FuncData} {a25 : Addr} {fd25 : FuncData} {a26 : Addr} {fd26 : FuncData} {a27 : Addr} {fd27 : FuncData} {a28 : Addr} {fd28 : FuncData} {a29 : Addr} {fd29 : FuncData} {a30 : Addr} {fd30 : FuncData} {C_Runner : Addr}
    (F0 : Fun K "numbered" "numbered" sf_numbered a0 fd0) (m0 : mg (Str.ofString "numbered") = some (.ref a0)) (b0 : Binds K fd0 ["part", "place"] [])
    (F1 : Fun K "size_of" "size_of" sf_size_of a1 fd1) (m1 : mg (Str.ofString "size_of") = some (.ref a1)) (b1 : Binds K fd1 ["value"] [])
    (F2 : Fun K "joined" "joined" sf_joined a2 fd2) (m2 : mg (Str.ofString "joined") = some (.ref a2)) (b2 : Binds K fd2 ["word", "one", "two"] [])
    (F3 : Fun K "shown" "shown" sf_shown a3 fd3) (m3 : mg (Str.ofString "shown") = some (.ref a3)) (b3 : Binds K fd3 ["value"] [])
    (F4 : Fun K "is_list" "is_list" sf_is_list a4 fd4) (m4 : mg (Str.ofString "is_list") = some (.ref a4)) (b4 : Binds K fd4 ["value"] [])
    (F5 : Fun K "__init__" "Runner.__init__" sf_Runner___init__ a5 fd5) (m5 : Meth K C_Runner (Str.ofString "__init__") a5) (b5 : Binds K fd5 ["self", "program", "most"] [])
    (F6 : Fun K "looked_up" "Runner.looked_up" sf_Runner_looked_up a6 fd6) (m6 : Meth K C_Runner (Str.ofString "looked_up") a6) (b6 : Binds K fd6 ["self", "name", "around"] [])
    (F7 : Fun K "begin" "Runner.begin" sf_Runner_begin a7 fd7) (m7 : Meth K C_Runner (Str.ofString "begin") a7) (b7 : Binds K fd7 ["self", "node", "around"] [])
    (F8 : Fun K "called" "Runner.called" sf_Runner_called a8 fd8) (m8 : Meth K C_Runner (Str.ofString "called") a8) (b8 : Binds K fd8 ["self", "place"] [])
    (F9 : Fun K "numbers" "Runner.numbers" sf_Runner_numbers a9 fd9) (m9 : Meth K C_Runner (Str.ofString "numbers") a9) (b9 : Binds K fd9 ["self", "place", "word"] [])
    (F10 : Fun K "put_together" "Runner.put_together" sf_Runner_put_together a10 fd10) (m10 : Meth K C_Runner (Str.ofString "put_together") a10) (b10 : Binds K fd10 ["self", "place", "word"] [])
    (F11 : Fun K "part_of" "Runner.part_of" sf_Runner_part_of a11 fd11) (m11 : Meth K C_Runner (Str.ofString "part_of") a11) (b11 : Binds K fd11 ["self", "place", "word"] [])
    (F12 : Fun K "finish" "Runner.finish" sf_Runner_finish a12 fd12) (m12 : Meth K C_Runner (Str.ofString "finish") a12) (b12 : Binds K fd12 ["self", "node", "around"] [])
    (F13 : Fun K "go_on" "Runner.go_on" sf_Runner_go_on a13 fd13) (m13 : Meth K C_Runner (Str.ofString "go_on") a13) (b13 : Binds K fd13 ["self"] [])
    {kws14 : List (Str × V)} (F14 : FunD K "run" "run" (defArgs sf_run) (defBody sf_run) (defScope sf_run) [] kws14 a14 fd14) (m14 : mg (Str.ofString "run") = some (.ref a14)) 
    (F15 : Fun K "_law_bag" "_law_bag" sf_law_bag a15 fd15) (m15 : mg (Str.ofString "_law_bag") = some (.ref a15)) (b15 : Binds K fd15 ["_law_script"] [])
    (F16 : Fun K "_law_stirred" "_law_stirred" sf_law_stirred a16 fd16) (m16 : mg (Str.ofString "_law_stirred") = some (.ref a16)) (b16 : Binds K fd16 ["_law_bag_here", "_law_many"] [])
    (F17 : Fun K "_law_draw" "_law_draw" sf_law_draw a17 fd17) (m17 : mg (Str.ofString "_law_draw") = some (.ref a17)) (b17 : Binds K fd17 ["_law_bag_here", "_law_many"] [])
    (F18 : Fun K "_law_binds" "_law_binds" sf_law_binds a18 fd18) (m18 : mg (Str.ofString "_law_binds") = some (.ref a18)) (b18 : Binds K fd18 ["_law_prog"] [])
    (F19 : Fun K "_law_parts" "_law_parts" sf_law_parts a19 fd19) (m19 : mg (Str.ofString "_law_parts") = some (.ref a19)) (b19 : Binds K fd19 ["_law_prog"] [])
    (F20 : Fun K "_law_bounded" "_law_bounded" sf_law_bounded a20 fd20) (m20 : mg (Str.ofString "_law_bounded") = some (.ref a20)) (b20 : Binds K fd20 ["_law_prog"] [])
    (F21 : Fun K "_law_rows" "_law_rows" sf_law_rows a21 fd21) (m21 : mg (Str.ofString "_law_rows") = some (.ref a21)) (b21 : Binds K fd21 ["_law_part", "_law_rows_here"] [])
    (F22 : Fun K "_law_size" "_law_size" sf_law_size a22 fd22) (m22 : mg (Str.ofString "_law_size") = some (.ref a22)) (b22 : Binds K fd22 ["_law_value"] [])
    (F23 : Fun K "_law_told" "_law_told" sf_law_told a23 fd23) (m23 : mg (Str.ofString "_law_told") = some (.ref a23)) (b23 : Binds K fd23 ["_law_word", "_law_some"] [])
    (F24 : Fun K "_law_entered" "_law_entered" sf_law_entered a24 fd24) (m24 : mg (Str.ofString "_law_entered") = some (.ref a24)) (b24 : Binds K fd24 ["_law_rows_here", "_law_place", "_law_env", "_law_some"] [])
    (F25 : Fun K "_law_shown" "_law_shown" sf_law_shown a25 fd25) (m25 : mg (Str.ofString "_law_shown") = some (.ref a25)) (b25 : Binds K fd25 ["_law_value"] [])
    (F26 : Fun K "_law_run" "_law_run" sf_law_run a26 fd26) (m26 : mg (Str.ofString "_law_run") = some (.ref a26)) (b26 : Binds K fd26 ["_law_prog", "_law_limit"] [])
    (F27 : Fun K "_law_alike" "_law_alike" sf_law_alike a27 fd27) (m27 : mg (Str.ofString "_law_alike") = some (.ref a27)) (b27 : Binds K fd27 ["_law_got", "_law_due"] [])
    (F28 : Fun K "_law_worth" "_law_worth" sf_law_worth a28 fd28) (m28 : mg (Str.ofString "_law_worth") = some (.ref a28)) (b28 : Binds K fd28 ["_law_bag_here", "_law_left"] [])
    (F29 : Fun K "_law_told_otherwise" "_law_told_otherwise" sf_law_told_otherwise a29 fd29) (m29 : mg (Str.ofString "_law_told_otherwise") = some (.ref a29)) (b29 : Binds K fd29 ["_law_bag_here", "_law_prog"] [])
    (F30 : Fun K "law" "law" sf_law a30 fd30) (m30 : mg (Str.ofString "law") = some (.ref a30)) (b30 : Binds K fd30 ["_law_script"] [])
    (cn_Runner : CN K "Runner" C_Runner) (cl_Runner : Cls K C_Runner) (mk_Runner : Mk K C_Runner a5) (mc_Runner : mg (Str.ofString "Runner") = some (.ref C_Runner))
    (kw0 : KwOk K fd14 ["program", "most"] ("run", 1, [], [0, 1], [.int 400]))
    (mb : ∀ s ∈ bn, mg (Str.ofString s) = none) (gc : GC w K mg) : ∀ n : Nat, FT T KW n P w K mg base :=
  ft_ind (tab := tab) ⟨
    .df rfl rfl (fun n ih => okf_numbered F0 ih mb gc) m0 F0.kp b0 (kw_no (by decide)),
    .df rfl rfl (fun n ih => okf_size_of F1 ih mb gc) m1 F1.kp b1 (kw_no (by decide)),
    .df rfl rfl (fun n ih => okf_joined F2 ih mb gc) m2 F2.kp b2 (kw_no (by decide)),
    .df rfl rfl (fun n ih => okf_shown F3 ih mb gc) m3 F3.kp b3 (kw_no (by decide)),
    .df rfl rfl (fun n ih => okf_is_list F4 ih mb gc) m4 F4.kp b4 (kw_no (by decide)),
    .mt (c := "Runner") (m := "__init__") rfl rfl (fun n ih => okf_Runner___init__ F5 ih mb gc) cn_Runner cl_Runner m5 b5,
    .mt (c := "Runner") (m := "looked_up") rfl rfl (fun n ih => okf_Runner_looked_up F6 ih mb gc) cn_Runner cl_Runner m6 b6,
    .mx (c := "Runner") (m := "begin") rfl rfl (fun n ih => okf_Runner_begin F7 ih mb gc) cn_Runner cl_Runner m7 b7,
    .mx (c := "Runner") (m := "called") rfl rfl (fun n ih => okf_Runner_called F8 ih mb gc) cn_Runner cl_Runner m8 b8,
    .mx (c := "Runner") (m := "numbers") rfl rfl (fun n ih => okf_Runner_numbers F9 ih mb gc) cn_Runner cl_Runner m9 b9,
    .mx (c := "Runner") (m := "put_together") rfl rfl (fun n ih => okf_Runner_put_together F10 ih mb gc) cn_Runner cl_Runner m10 b10,
    .mx (c := "Runner") (m := "part_of") rfl rfl (fun n ih => okf_Runner_part_of F11 ih mb gc) cn_Runner cl_Runner m11 b11,
    .mx (c := "Runner") (m := "finish") rfl rfl (fun n ih => okf_Runner_finish F12 ih mb gc) cn_Runner cl_Runner m12 b12,
    .mt (c := "Runner") (m := "go_on") rfl rfl (fun n ih => okf_Runner_go_on F13 ih mb gc) cn_Runner cl_Runner m13 b13,
    .dk rfl rfl (fun n ih => okf_run F14 ih mb gc) m14 F14.kp (kw_hd kw0 (fun q hq => nomatch hq)),
    .df rfl rfl (fun n ih => okf_law_bag F15 ih mb gc) m15 F15.kp b15 (kw_no (by decide)),
    .df rfl rfl (fun n ih => okf_law_stirred F16 ih mb gc) m16 F16.kp b16 (kw_no (by decide)),
    .df rfl rfl (fun n ih => okf_law_draw F17 ih mb gc) m17 F17.kp b17 (kw_no (by decide)),
    .df rfl rfl (fun n ih => okf_law_binds F18 ih mb gc) m18 F18.kp b18 (kw_no (by decide)),
    .df rfl rfl (fun n ih => okf_law_parts F19 ih mb gc) m19 F19.kp b19 (kw_no (by decide)),
    .df rfl rfl (fun n ih => okf_law_bounded F20 ih mb gc) m20 F20.kp b20 (kw_no (by decide)),
    .df rfl rfl (fun n ih => okf_law_rows F21 ih mb gc) m21 F21.kp b21 (kw_no (by decide)),
    .df rfl rfl (fun n ih => okf_law_size F22 ih mb gc) m22 F22.kp b22 (kw_no (by decide)),
    .df rfl rfl (fun n ih => okf_law_told F23 ih mb gc) m23 F23.kp b23 (kw_no (by decide)),
    .df rfl rfl (fun n ih => okf_law_entered F24 ih mb gc) m24 F24.kp b24 (kw_no (by decide)),
    .df rfl rfl (fun n ih => okf_law_shown F25 ih mb gc) m25 F25.kp b25 (kw_no (by decide)),
    .df rfl rfl (fun n ih => okf_law_run F26 ih mb gc) m26 F26.kp b26 (kw_no (by decide)),
    .df rfl rfl (fun n ih => okf_law_alike F27 ih mb gc) m27 F27.kp b27 (kw_no (by decide)),
    .df rfl rfl (fun n ih => okf_law_worth F28 ih mb gc) m28 F28.kp b28 (kw_no (by decide)),
    .df rfl rfl (fun n ih => okf_law_told_otherwise F29 ih mb gc) m29 F29.kp b29 (kw_no (by decide)),
    .df rfl rfl (fun n ih => okf_law F30 ih mb gc) m30 F30.kp b30 (kw_no (by decide)),
    .ct (ci := "Runner.__init__") rfl (by simp) (fun n ih => okf_Runner___init__ F5 ih mb gc) mc_Runner cn_Runner mk_Runner b5 (by simp [ctorFn, f_Runner, List.range, List.range.loop]),
    trivial⟩
def spLaw (n : Nat) (K : PySem.W.Frag) : Sp := spI T n K "law"
set_option maxHeartbeats 8000000 in
theorem all_mk {l : PySem.W.OpenLaw} {w : World} {K : PySem.W.Frag} {h : Heap} {mg : Str → Option Value} {fa f0 f1 f2 f3 f4 f5 f6 f7 f8 f9 f10 f11 f12 f13 f14 f15 f16 f17 f18 f19 f20 f21 f22 f23 f24 f25 f26 f27 f28 f29 f30 : Addr} (X : K.In h) (G : h.Ns mainGlobals mg) (hfa : mg "law" = some (.ref fa))
    {ga_PLAIN : Addr} {gd_PLAIN : Option Addr} {gu_PLAIN : List Value} {gn_PLAIN : Nat} {gs_PLAIN : Array (Option Value)} {ga_BINDERS : Addr} {ge_BINDERS : Array DictEntry} {gn_BINDERS : Nat} {gv_MOST_PARTS : Value} {xa_Ended : Addr} {C_Runner : Addr}  {kD14 : Addr} {kU14 : Value} {xf_Ended : Addr} {ya_Ended yb_Ended : Option Addr} {yc_Ended yd_Ended ye_Ended yf_Ended yg_Ended yh_Ended : Value} {ys_Ended : Array (Option Value)}
    {od0 an0 od1 an1 od2 an2 od3 an3 od4 an4 od5 an5 od6 an6 od7 an7 od8 an8 od9 an9 od10 an10 od11 an11 od12 an12 od13 an13 od14 an14 od15 an15 od16 an16 od17 an17 od18 an18 od19 an19 od20 an20 od21 an21 od22 an22 od23 an23 od24 an24 od25 an25 od26 an26 od27 an27 od28 an28 od29 an29 od30 an30 : Option Addr} {sl0 sl1 sl2 sl3 sl4 sl5 sl6 sl7 sl8 sl9 sl10 sl11 sl12 sl13 sl14 sl15 sl16 sl17 sl18 sl19 sl20 sl21 sl22 sl23 sl24 sl25 sl26 sl27 sl28 sl29 sl30 : Array (Option Value)} {oc0 kV0 dc0 pm0 cd0 ct0 oc1 kV1 dc1 pm1 cd1 ct1 oc2 kV2 dc2 pm2 cd2 ct2 oc3 kV3 dc3 pm3 cd3 ct3 oc4 kV4 dc4 pm4 cd4 ct4 oc5 kV5 dc5 pm5 cd5 ct5 oc6 kV6 dc6 pm6 cd6 ct6 oc7 kV7 dc7 pm7 cd7 ct7 oc8 kV8 dc8 pm8 cd8 ct8 oc9 kV9 dc9 pm9 cd9 ct9 oc10 kV10 dc10 pm10 cd10 ct10 oc11 kV11 dc11 pm11 cd11 ct11 oc12 kV12 dc12 pm12 cd12 ct12 oc13 kV13 dc13 pm13 cd13 ct13 oc14 dc14 pm14 cd14 ct14 oc15 kV15 dc15 pm15 cd15 ct15 oc16 kV16 dc16 pm16 cd16 ct16 oc17 kV17 dc17 pm17 cd17 ct17 oc18 kV18 dc18 pm18 cd18 ct18 oc19 kV19 dc19 pm19 cd19 ct19 oc20 kV20 dc20 pm20 cd20 ct20 oc21 kV21 dc21 pm21 cd21 ct21 oc22 kV22 dc22 pm22 cd22 ct22 oc23 kV23 dc23 pm23 cd23 ct23 oc24 kV24 dc24 pm24 cd24 ct24 oc25 kV25 dc25 pm25 cd25 ct25 oc26 kV26 dc26 pm26 cd26 ct26 oc27 kV27 dc27 pm27 cd27 ct27 oc28 kV28 dc28 pm28 cd28 ct28 oc29 kV29 dc29 pm29 cd29 ct29 oc30 kV30 dc30 pm30 cd30 ct30 : Value}
    (ka_Runner : PySem.W.nsIn K mainGlobals "Runner" = some (some (.ref C_Runner))) (kp_Runner : PySem.W.plainGet K C_Runner Str.empty = true) (kh_Runner : PySem.W.hasDictIn K C_Runner = true) (ko_Runner : PySem.W.plainOver K C_Runner = true) (ks_Runner : PySem.W.findIn K (.ref C_Runner) "__setattr__" = some (some (.builtin "object.__setattr__"))) (km_Runner : PySem.W.makesIn K C_Runner = true) (kk_Runner : PySem.W.keepIn K (.ref C_Runner) = true) (kn_Runner_tasks : PySem.W.findIn K (.ref C_Runner) "tasks" = some none) (kn_Runner_told : PySem.W.findIn K (.ref C_Runner) "told" = some none) (kn_Runner_begun : PySem.W.findIn K (.ref C_Runner) "begun" = some none) (kn_Runner_left : PySem.W.findIn K (.ref C_Runner) "left" = some none)
    (x0 : PySem.W.nsIn K mainGlobals "numbered" = some (some (.ref f0))) (l0 : K.lookup f0 = some ⟨oc0, od0, .func (PySem.W.fnOf "numbered" "numbered" (defArgs sf_numbered) (defBody sf_numbered) (defScope sf_numbered) .none kV0 dc0 pm0 an0 cd0 ct0), sl0⟩) (c0 : PySem.W.codeIn K cd0 "numbered" = true) (k0 : PySem.W.keepIn K (.ref f0) = true)
    (x1 : PySem.W.nsIn K mainGlobals "size_of" = some (some (.ref f1))) (l1 : K.lookup f1 = some ⟨oc1, od1, .func (PySem.W.fnOf "size_of" "size_of" (defArgs sf_size_of) (defBody sf_size_of) (defScope sf_size_of) .none kV1 dc1 pm1 an1 cd1 ct1), sl1⟩) (c1 : PySem.W.codeIn K cd1 "size_of" = true) (k1 : PySem.W.keepIn K (.ref f1) = true)
    (x2 : PySem.W.nsIn K mainGlobals "joined" = some (some (.ref f2))) (l2 : K.lookup f2 = some ⟨oc2, od2, .func (PySem.W.fnOf "joined" "joined" (defArgs sf_joined) (defBody sf_joined) (defScope sf_joined) .none kV2 dc2 pm2 an2 cd2 ct2), sl2⟩) (c2 : PySem.W.codeIn K cd2 "joined" = true) (k2 : PySem.W.keepIn K (.ref f2) = true)
    (x3 : PySem.W.nsIn K mainGlobals "shown" = some (some (.ref f3))) (l3 : K.lookup f3 = some ⟨oc3, od3, .func (PySem.W.fnOf "shown" "shown" (defArgs sf_shown) (defBody sf_shown) (defScope sf_shown) .none kV3 dc3 pm3 an3 cd3 ct3), sl3⟩) (c3 : PySem.W.codeIn K cd3 "shown" = true) (k3 : PySem.W.keepIn K (.ref f3) = true)
    (x4 : PySem.W.nsIn K mainGlobals "is_list" = some (some (.ref f4))) (l4 : K.lookup f4 = some ⟨oc4, od4, .func (PySem.W.fnOf "is_list" "is_list" (defArgs sf_is_list) (defBody sf_is_list) (defScope sf_is_list) .none kV4 dc4 pm4 an4 cd4 ct4), sl4⟩) (c4 : PySem.W.codeIn K cd4 "is_list" = true) (k4 : PySem.W.keepIn K (.ref f4) = true)
    (x5 : PySem.W.findIn K (.ref C_Runner) "__init__" = some (some (.ref f5))) (i5 : PySem.W.isFn K (.ref f5) = true) (l5 : K.lookup f5 = some ⟨oc5, od5, .func (PySem.W.fnOf "__init__" "Runner.__init__" (defArgs sf_Runner___init__) (defBody sf_Runner___init__) (defScope sf_Runner___init__) .none kV5 dc5 pm5 an5 cd5 ct5), sl5⟩) (c5 : PySem.W.codeIn K cd5 "Runner.__init__" = true) (k5 : PySem.W.keepIn K (.ref f5) = true)
    (x6 : PySem.W.findIn K (.ref C_Runner) "looked_up" = some (some (.ref f6))) (i6 : PySem.W.isFn K (.ref f6) = true) (l6 : K.lookup f6 = some ⟨oc6, od6, .func (PySem.W.fnOf "looked_up" "Runner.looked_up" (defArgs sf_Runner_looked_up) (defBody sf_Runner_looked_up) (defScope sf_Runner_looked_up) .none kV6 dc6 pm6 an6 cd6 ct6), sl6⟩) (c6 : PySem.W.codeIn K cd6 "Runner.looked_up" = true) (k6 : PySem.W.keepIn K (.ref f6) = true)
    (x7 : PySem.W.findIn K (.ref C_Runner) "begin" = some (some (.ref f7))) (i7 : PySem.W.isFn K (.ref f7) = true) (l7 : K.lookup f7 = some ⟨oc7, od7, .func (PySem.W.fnOf "begin" "Runner.begin" (defArgs sf_Runner_begin) (defBody sf_Runner_begin) (defScope sf_Runner_begin) .none kV7 dc7 pm7 an7 cd7 ct7), sl7⟩) (c7 : PySem.W.codeIn K cd7 "Runner.begin" = true) (k7 : PySem.W.keepIn K (.ref f7) = true)
    (x8 : PySem.W.findIn K (.ref C_Runner) "called" = some (some (.ref f8))) (i8 : PySem.W.isFn K (.ref f8) = true) (l8 : K.lookup f8 = some ⟨oc8, od8, .func (PySem.W.fnOf "called" "Runner.called" (defArgs sf_Runner_called) (defBody sf_Runner_called) (defScope sf_Runner_called) .none kV8 dc8 pm8 an8 cd8 ct8), sl8⟩) (c8 : PySem.W.codeIn K cd8 "Runner.called" = true) (k8 : PySem.W.keepIn K (.ref f8) = true)
    (x9 : PySem.W.findIn K (.ref C_Runner) "numbers" = some (some (.ref f9))) (i9 : PySem.W.isFn K (.ref f9) = true) (l9 : K.lookup f9 = some ⟨oc9, od9, .func (PySem.W.fnOf "numbers" "Runner.numbers" (defArgs sf_Runner_numbers) (defBody sf_Runner_numbers) (defScope sf_Runner_numbers) .none kV9 dc9 pm9 an9 cd9 ct9), sl9⟩) (c9 : PySem.W.codeIn K cd9 "Runner.numbers" = true) (k9 : PySem.W.keepIn K (.ref f9) = true)
    (x10 : PySem.W.findIn K (.ref C_Runner) "put_together" = some (some (.ref f10))) (i10 : PySem.W.isFn K (.ref f10) = true) (l10 : K.lookup f10 = some ⟨oc10, od10, .func (PySem.W.fnOf "put_together" "Runner.put_together" (defArgs sf_Runner_put_together) (defBody sf_Runner_put_together) (defScope sf_Runner_put_together) .none kV10 dc10 pm10 an10 cd10 ct10), sl10⟩) (c10 : PySem.W.codeIn K cd10 "Runner.put_together" = true) (k10 : PySem.W.keepIn K (.ref f10) = true)
    (x11 : PySem.W.findIn K (.ref C_Runner) "part_of" = some (some (.ref f11))) (i11 : PySem.W.isFn K (.ref f11) = true) (l11 : K.lookup f11 = some ⟨oc11, od11, .func (PySem.W.fnOf "part_of" "Runner.part_of" (defArgs sf_Runner_part_of) (defBody sf_Runner_part_of) (defScope sf_Runner_part_of) .none kV11 dc11 pm11 an11 cd11 ct11), sl11⟩) (c11 : PySem.W.codeIn K cd11 "Runner.part_of" = true) (k11 : PySem.W.keepIn K (.ref f11) = true)
    (x12 : PySem.W.findIn K (.ref C_Runner) "finish" = some (some (.ref f12))) (i12 : PySem.W.isFn K (.ref f12) = true) (l12 : K.lookup f12 = some ⟨oc12, od12, .func (PySem.W.fnOf "finish" "Runner.finish" (defArgs sf_Runner_finish) (defBody sf_Runner_finish) (defScope sf_Runner_finish) .none kV12 dc12 pm12 an12 cd12 ct12), sl12⟩) (c12 : PySem.W.codeIn K cd12 "Runner.finish" = true) (k12 : PySem.W.keepIn K (.ref f12) = true)
    (x13 : PySem.W.findIn K (.ref C_Runner) "go_on" = some (some (.ref f13))) (i13 : PySem.W.isFn K (.ref f13) = true) (l13 : K.lookup f13 = some ⟨oc13, od13, .func (PySem.W.fnOf "go_on" "Runner.go_on" (defArgs sf_Runner_go_on) (defBody sf_Runner_go_on) (defScope sf_Runner_go_on) .none kV13 dc13 pm13 an13 cd13 ct13), sl13⟩) (c13 : PySem.W.codeIn K cd13 "Runner.go_on" = true) (k13 : PySem.W.keepIn K (.ref f13) = true)
    (x14 : PySem.W.nsIn K mainGlobals "run" = some (some (.ref f14))) (l14 : K.lookup f14 = some ⟨oc14, od14, .func (PySem.W.fnOf "run" "run" (defArgs sf_run) (defBody sf_run) (defScope sf_run) .none (.ref kD14) dc14 pm14 an14 cd14 ct14), sl14⟩) (c14 : PySem.W.codeIn K cd14 "run" = true) (k14 : PySem.W.keepIn K (.ref f14) = true)
    (x15 : PySem.W.nsIn K mainGlobals "_law_bag" = some (some (.ref f15))) (l15 : K.lookup f15 = some ⟨oc15, od15, .func (PySem.W.fnOf "_law_bag" "_law_bag" (defArgs sf_law_bag) (defBody sf_law_bag) (defScope sf_law_bag) .none kV15 dc15 pm15 an15 cd15 ct15), sl15⟩) (c15 : PySem.W.codeIn K cd15 "_law_bag" = true) (k15 : PySem.W.keepIn K (.ref f15) = true)
    (x16 : PySem.W.nsIn K mainGlobals "_law_stirred" = some (some (.ref f16))) (l16 : K.lookup f16 = some ⟨oc16, od16, .func (PySem.W.fnOf "_law_stirred" "_law_stirred" (defArgs sf_law_stirred) (defBody sf_law_stirred) (defScope sf_law_stirred) .none kV16 dc16 pm16 an16 cd16 ct16), sl16⟩) (c16 : PySem.W.codeIn K cd16 "_law_stirred" = true) (k16 : PySem.W.keepIn K (.ref f16) = true)
    (x17 : PySem.W.nsIn K mainGlobals "_law_draw" = some (some (.ref f17))) (l17 : K.lookup f17 = some ⟨oc17, od17, .func (PySem.W.fnOf "_law_draw" "_law_draw" (defArgs sf_law_draw) (defBody sf_law_draw) (defScope sf_law_draw) .none kV17 dc17 pm17 an17 cd17 ct17), sl17⟩) (c17 : PySem.W.codeIn K cd17 "_law_draw" = true) (k17 : PySem.W.keepIn K (.ref f17) = true)
    (x18 : PySem.W.nsIn K mainGlobals "_law_binds" = some (some (.ref f18))) (l18 : K.lookup f18 = some ⟨oc18, od18, .func (PySem.W.fnOf "_law_binds" "_law_binds" (defArgs sf_law_binds) (defBody sf_law_binds) (defScope sf_law_binds) .none kV18 dc18 pm18 an18 cd18 ct18), sl18⟩) (c18 : PySem.W.codeIn K cd18 "_law_binds" = true) (k18 : PySem.W.keepIn K (.ref f18) = true)
    (x19 : PySem.W.nsIn K mainGlobals "_law_parts" = some (some (.ref f19))) (l19 : K.lookup f19 = some ⟨oc19, od19, .func (PySem.W.fnOf "_law_parts" "_law_parts" (defArgs sf_law_parts) (defBody sf_law_parts) (defScope sf_law_parts) .none kV19 dc19 pm19 an19 cd19 ct19), sl19⟩) (c19 : PySem.W.codeIn K cd19 "_law_parts" = true) (k19 : PySem.W.keepIn K (.ref f19) = true)
    (x20 : PySem.W.nsIn K mainGlobals "_law_bounded" = some (some (.ref f20))) (l20 : K.lookup f20 = some ⟨oc20, od20, .func (PySem.W.fnOf "_law_bounded" "_law_bounded" (defArgs sf_law_bounded) (defBody sf_law_bounded) (defScope sf_law_bounded) .none kV20 dc20 pm20 an20 cd20 ct20), sl20⟩) (c20 : PySem.W.codeIn K cd20 "_law_bounded" = true) (k20 : PySem.W.keepIn K (.ref f20) = true)
    (x21 : PySem.W.nsIn K mainGlobals "_law_rows" = some (some (.ref f21))) (l21 : K.lookup f21 = some ⟨oc21, od21, .func (PySem.W.fnOf "_law_rows" "_law_rows" (defArgs sf_law_rows) (defBody sf_law_rows) (defScope sf_law_rows) .none kV21 dc21 pm21 an21 cd21 ct21), sl21⟩) (c21 : PySem.W.codeIn K cd21 "_law_rows" = true) (k21 : PySem.W.keepIn K (.ref f21) = true)
    (x22 : PySem.W.nsIn K mainGlobals "_law_size" = some (some (.ref f22))) (l22 : K.lookup f22 = some ⟨oc22, od22, .func (PySem.W.fnOf "_law_size" "_law_size" (defArgs sf_law_size) (defBody sf_law_size) (defScope sf_law_size) .none kV22 dc22 pm22 an22 cd22 ct22), sl22⟩) (c22 : PySem.W.codeIn K cd22 "_law_size" = true) (k22 : PySem.W.keepIn K (.ref f22) = true)
    (x23 : PySem.W.nsIn K mainGlobals "_law_told" = some (some (.ref f23))) (l23 : K.lookup f23 = some ⟨oc23, od23, .func (PySem.W.fnOf "_law_told" "_law_told" (defArgs sf_law_told) (defBody sf_law_told) (defScope sf_law_told) .none kV23 dc23 pm23 an23 cd23 ct23), sl23⟩) (c23 : PySem.W.codeIn K cd23 "_law_told" = true) (k23 : PySem.W.keepIn K (.ref f23) = true)
    (x24 : PySem.W.nsIn K mainGlobals "_law_entered" = some (some (.ref f24))) (l24 : K.lookup f24 = some ⟨oc24, od24, .func (PySem.W.fnOf "_law_entered" "_law_entered" (defArgs sf_law_entered) (defBody sf_law_entered) (defScope sf_law_entered) .none kV24 dc24 pm24 an24 cd24 ct24), sl24⟩) (c24 : PySem.W.codeIn K cd24 "_law_entered" = true) (k24 : PySem.W.keepIn K (.ref f24) = true)
    (x25 : PySem.W.nsIn K mainGlobals "_law_shown" = some (some (.ref f25))) (l25 : K.lookup f25 = some ⟨oc25, od25, .func (PySem.W.fnOf "_law_shown" "_law_shown" (defArgs sf_law_shown) (defBody sf_law_shown) (defScope sf_law_shown) .none kV25 dc25 pm25 an25 cd25 ct25), sl25⟩) (c25 : PySem.W.codeIn K cd25 "_law_shown" = true) (k25 : PySem.W.keepIn K (.ref f25) = true)
    (x26 : PySem.W.nsIn K mainGlobals "_law_run" = some (some (.ref f26))) (l26 : K.lookup f26 = some ⟨oc26, od26, .func (PySem.W.fnOf "_law_run" "_law_run" (defArgs sf_law_run) (defBody sf_law_run) (defScope sf_law_run) .none kV26 dc26 pm26 an26 cd26 ct26), sl26⟩) (c26 : PySem.W.codeIn K cd26 "_law_run" = true) (k26 : PySem.W.keepIn K (.ref f26) = true)
    (x27 : PySem.W.nsIn K mainGlobals "_law_alike" = some (some (.ref f27))) (l27 : K.lookup f27 = some ⟨oc27, od27, .func (PySem.W.fnOf "_law_alike" "_law_alike" (defArgs sf_law_alike) (defBody sf_law_alike) (defScope sf_law_alike) .none kV27 dc27 pm27 an27 cd27 ct27), sl27⟩) (c27 : PySem.W.codeIn K cd27 "_law_alike" = true) (k27 : PySem.W.keepIn K (.ref f27) = true)
    (x28 : PySem.W.nsIn K mainGlobals "_law_worth" = some (some (.ref f28))) (l28 : K.lookup f28 = some ⟨oc28, od28, .func (PySem.W.fnOf "_law_worth" "_law_worth" (defArgs sf_law_worth) (defBody sf_law_worth) (defScope sf_law_worth) .none kV28 dc28 pm28 an28 cd28 ct28), sl28⟩) (c28 : PySem.W.codeIn K cd28 "_law_worth" = true) (k28 : PySem.W.keepIn K (.ref f28) = true)
    (x29 : PySem.W.nsIn K mainGlobals "_law_told_otherwise" = some (some (.ref f29))) (l29 : K.lookup f29 = some ⟨oc29, od29, .func (PySem.W.fnOf "_law_told_otherwise" "_law_told_otherwise" (defArgs sf_law_told_otherwise) (defBody sf_law_told_otherwise) (defScope sf_law_told_otherwise) .none kV29 dc29 pm29 an29 cd29 ct29), sl29⟩) (c29 : PySem.W.codeIn K cd29 "_law_told_otherwise" = true) (k29 : PySem.W.keepIn K (.ref f29) = true)
    (x30 : PySem.W.nsIn K mainGlobals "law" = some (some (.ref f30))) (l30 : K.lookup f30 = some ⟨oc30, od30, .func (PySem.W.fnOf "law" "law" (defArgs sf_law) (defBody sf_law) (defScope sf_law) .none kV30 dc30 pm30 an30 cd30 ct30), sl30⟩) (c30 : PySem.W.codeIn K cd30 "law" = true) (k30 : PySem.W.keepIn K (.ref f30) = true)
     (kN14 : PySem.W.nsIn K kD14 "most" = some (some kU14)) (kK14 : KVs K [.int 400] [kU14])
    (g_PLAIN : PySem.W.nsIn K mainGlobals "PLAIN" = some (some (.ref ga_PLAIN))) (gl_PLAIN : K.lookup ga_PLAIN = some ⟨.type "tuple", gd_PLAIN, .seq gu_PLAIN.toArray gn_PLAIN, gs_PLAIN⟩) (gz_PLAIN : gu_PLAIN.length ≤ sizeLine) (gk_PLAIN : KVs K [.str "num", .str "truth", .str "nil"] gu_PLAIN) (g_BINDERS : PySem.W.nsIn K mainGlobals "BINDERS" = some (some (.ref ga_BINDERS))) (gl_BINDERS : K.lookup ga_BINDERS = some ⟨.type "dict", none, .dict ge_BINDERS gn_BINDERS, #[]⟩) (gk_BINDERS : KEs K w.params [("fn", .int 1), ("rec", .int 2), ("let", .int 1)] ge_BINDERS.toList) (go_BINDERS : (ga_BINDERS == sysModules) = false) (g_MOST_PARTS : PySem.W.nsIn K mainGlobals "MOST_PARTS" = some (some gv_MOST_PARTS)) (gk_MOST_PARTS : KV K (.int 200) gv_MOST_PARTS) (xg_Ended : PySem.W.nsIn K mainGlobals "Ended" = some (some (.ref xa_Ended))) (xk_Ended : PySem.W.keepIn K (.ref xa_Ended) = true) (xb_Ended : PySem.W.subIn K (.ref xa_Ended) (.type "BaseException") = some true) (xt_Ended : PySem.W.typeIn K (.ref xa_Ended) = some (.type "type")) (xi_Ended : PySem.W.isClsIn K xa_Ended = true) (xs_Ended : PySem.W.subIn K (.ref xa_Ended) (.ref xa_Ended) = some true) (oi_Ended : PySem.W.excInitIn K xa_Ended [.type "Exception", .type "BaseException", .type "object"] "Exception.__new__" = true) (oo_Ended : PySem.W.excOver K xa_Ended [.type "Exception", .type "BaseException", .type "object"] = true) (os_Ended : PySem.W.findIn K (.ref xa_Ended) "__setattr__" = some (some (.builtin "object.__setattr__"))) (oh_Ended : PySem.W.hasDictIn K xa_Ended = true) (on_Ended : PySem.W.findIn K (.ref xa_Ended) "__init__" = some (some (.ref xf_Ended))) (ot_Ended : PySem.W.typeIn K (.ref xf_Ended) = some (.type "function")) (oz_Ended : PySem.W.takerIn K xa_Ended "end" = some none) (of_Ended : PySem.W.findIn K (.ref xa_Ended) "end" = some none) (og_Ended : PySem.W.findIn K (.ref xa_Ended) "__getattribute__" = some (some (.builtin "BaseException.__getattribute__"))) (oa_Ended : PySem.W.findIn K (.ref xa_Ended) "__getattr__" = some none) (ob_Ended : PySem.W.findCls K (.type "Exception") (.type "type") "__init__" = some (.val (.builtin "Exception.__init__"))) (ol_Ended : K.lookup xf_Ended = some ⟨yc_Ended, ya_Ended, .func (PySem.W.fnOf "__init__" "Ended.__init__" (defArgs sx_Ended) (defBody sx_Ended) (defScope sx_Ended) .none yd_Ended ye_Ended yf_Ended yb_Ended yg_Ended yh_Ended), ys_Ended⟩) (oc_Ended : PySem.W.codeIn K yg_Ended "Ended.__init__" = true) (ok_Ended : PySem.W.keepIn K (.ref xf_Ended) = true)
    (z0 : PySem.W.nsIn K mainGlobals "Exception" = some none) (z1 : PySem.W.nsIn K mainGlobals "abs" = some none) (z2 : PySem.W.nsIn K mainGlobals "all" = some none) (z3 : PySem.W.nsIn K mainGlobals "any" = some none) (z4 : PySem.W.nsIn K mainGlobals "bool" = some none) (z5 : PySem.W.nsIn K mainGlobals "int" = some none) (z6 : PySem.W.nsIn K mainGlobals "isinstance" = some none) (z7 : PySem.W.nsIn K mainGlobals "len" = some none) (z8 : PySem.W.nsIn K mainGlobals "list" = some none) (z9 : PySem.W.nsIn K mainGlobals "max" = some none) (z10 : PySem.W.nsIn K mainGlobals "min" = some none) (z11 : PySem.W.nsIn K mainGlobals "range" = some none) (z12 : PySem.W.nsIn K mainGlobals "sorted" = some none) (z13 : PySem.W.nsIn K mainGlobals "str" = some none) (z14 : PySem.W.nsIn K mainGlobals "tuple" = some none) :
    ∃ fd : FuncData, (∀ (s : Shared) (v : Value), BindsTo s fd ⟨[v], []⟩ [("_law_script", v)]) ∧ ∀ base : Heap, K.In base → base.Ns mainGlobals mg → FnOk l.prog w K mg base CX0 122 fa fd ["_law_script"] (spLaw 120 K) := by
  have e := hfa.symm.trans (PySem.W.mg_of X G x30)
  cases e
  have F0 := fun_mk (st := sf_numbered) l0 c0 k0
  have b0 := F0.binds (ps := ["part", "place"]) fun _ _ _ _ _ _ us hl => match us, hl with | [_, _], _ => rfl
  have F1 := fun_mk (st := sf_size_of) l1 c1 k1
  have b1 := F1.binds (ps := ["value"]) fun _ _ _ _ _ _ us hl => match us, hl with | [_], _ => rfl
  have F2 := fun_mk (st := sf_joined) l2 c2 k2
  have b2 := F2.binds (ps := ["word", "one", "two"]) fun _ _ _ _ _ _ us hl => match us, hl with | [_, _, _], _ => rfl
  have F3 := fun_mk (st := sf_shown) l3 c3 k3
  have b3 := F3.binds (ps := ["value"]) fun _ _ _ _ _ _ us hl => match us, hl with | [_], _ => rfl
  have F4 := fun_mk (st := sf_is_list) l4 c4 k4
  have b4 := F4.binds (ps := ["value"]) fun _ _ _ _ _ _ us hl => match us, hl with | [_], _ => rfl
  have F5 := fun_mk (st := sf_Runner___init__) l5 c5 k5
  have b5 := F5.binds (ps := ["self", "program", "most"]) fun _ _ _ _ _ _ us hl => match us, hl with | [_, _, _], _ => rfl
  have F6 := fun_mk (st := sf_Runner_looked_up) l6 c6 k6
  have b6 := F6.binds (ps := ["self", "name", "around"]) fun _ _ _ _ _ _ us hl => match us, hl with | [_, _, _], _ => rfl
  have F7 := fun_mk (st := sf_Runner_begin) l7 c7 k7
  have b7 := F7.binds (ps := ["self", "node", "around"]) fun _ _ _ _ _ _ us hl => match us, hl with | [_, _, _], _ => rfl
  have F8 := fun_mk (st := sf_Runner_called) l8 c8 k8
  have b8 := F8.binds (ps := ["self", "place"]) fun _ _ _ _ _ _ us hl => match us, hl with | [_, _], _ => rfl
  have F9 := fun_mk (st := sf_Runner_numbers) l9 c9 k9
  have b9 := F9.binds (ps := ["self", "place", "word"]) fun _ _ _ _ _ _ us hl => match us, hl with | [_, _, _], _ => rfl
  have F10 := fun_mk (st := sf_Runner_put_together) l10 c10 k10
  have b10 := F10.binds (ps := ["self", "place", "word"]) fun _ _ _ _ _ _ us hl => match us, hl with | [_, _, _], _ => rfl
  have F11 := fun_mk (st := sf_Runner_part_of) l11 c11 k11
  have b11 := F11.binds (ps := ["self", "place", "word"]) fun _ _ _ _ _ _ us hl => match us, hl with | [_, _, _], _ => rfl
  have F12 := fun_mk (st := sf_Runner_finish) l12 c12 k12
  have b12 := F12.binds (ps := ["self", "node", "around"]) fun _ _ _ _ _ _ us hl => match us, hl with | [_, _, _], _ => rfl
  have F13 := fun_mk (st := sf_Runner_go_on) l13 c13 k13
  have b13 := F13.binds (ps := ["self"]) fun _ _ _ _ _ _ us hl => match us, hl with | [_], _ => rfl
  obtain ⟨kv14, dr14, F14⟩ := funK_mk (st := sf_run) l14 c14 k14 kN14 kK14
  have F15 := fun_mk (st := sf_law_bag) l15 c15 k15
  have b15 := F15.binds (ps := ["_law_script"]) fun _ _ _ _ _ _ us hl => match us, hl with | [_], _ => rfl
  have F16 := fun_mk (st := sf_law_stirred) l16 c16 k16
  have b16 := F16.binds (ps := ["_law_bag_here", "_law_many"]) fun _ _ _ _ _ _ us hl => match us, hl with | [_, _], _ => rfl
  have F17 := fun_mk (st := sf_law_draw) l17 c17 k17
  have b17 := F17.binds (ps := ["_law_bag_here", "_law_many"]) fun _ _ _ _ _ _ us hl => match us, hl with | [_, _], _ => rfl
  have F18 := fun_mk (st := sf_law_binds) l18 c18 k18
  have b18 := F18.binds (ps := ["_law_prog"]) fun _ _ _ _ _ _ us hl => match us, hl with | [_], _ => rfl
  have F19 := fun_mk (st := sf_law_parts) l19 c19 k19
  have b19 := F19.binds (ps := ["_law_prog"]) fun _ _ _ _ _ _ us hl => match us, hl with | [_], _ => rfl
  have F20 := fun_mk (st := sf_law_bounded) l20 c20 k20
  have b20 := F20.binds (ps := ["_law_prog"]) fun _ _ _ _ _ _ us hl => match us, hl with | [_], _ => rfl
  have F21 := fun_mk (st := sf_law_rows) l21 c21 k21
  have b21 := F21.binds (ps := ["_law_part", "_law_rows_here"]) fun _ _ _ _ _ _ us hl => match us, hl with | [_, _], _ => rfl
  have F22 := fun_mk (st := sf_law_size) l22 c22 k22
  have b22 := F22.binds (ps := ["_law_value"]) fun _ _ _ _ _ _ us hl => match us, hl with | [_], _ => rfl
  have F23 := fun_mk (st := sf_law_told) l23 c23 k23
  have b23 := F23.binds (ps := ["_law_word", "_law_some"]) fun _ _ _ _ _ _ us hl => match us, hl with | [_, _], _ => rfl
  have F24 := fun_mk (st := sf_law_entered) l24 c24 k24
  have b24 := F24.binds (ps := ["_law_rows_here", "_law_place", "_law_env", "_law_some"]) fun _ _ _ _ _ _ us hl => match us, hl with | [_, _, _, _], _ => rfl
  have F25 := fun_mk (st := sf_law_shown) l25 c25 k25
  have b25 := F25.binds (ps := ["_law_value"]) fun _ _ _ _ _ _ us hl => match us, hl with | [_], _ => rfl
  have F26 := fun_mk (st := sf_law_run) l26 c26 k26
  have b26 := F26.binds (ps := ["_law_prog", "_law_limit"]) fun _ _ _ _ _ _ us hl => match us, hl with | [_, _], _ => rfl
  have F27 := fun_mk (st := sf_law_alike) l27 c27 k27
  have b27 := F27.binds (ps := ["_law_got", "_law_due"]) fun _ _ _ _ _ _ us hl => match us, hl with | [_, _], _ => rfl
  have F28 := fun_mk (st := sf_law_worth) l28 c28 k28
  have b28 := F28.binds (ps := ["_law_bag_here", "_law_left"]) fun _ _ _ _ _ _ us hl => match us, hl with | [_, _], _ => rfl
  have F29 := fun_mk (st := sf_law_told_otherwise) l29 c29 k29
  have b29 := F29.binds (ps := ["_law_bag_here", "_law_prog"]) fun _ _ _ _ _ _ us hl => match us, hl with | [_, _], _ => rfl
  have F30 := fun_mk (st := sf_law) l30 c30 k30
  have b30 := F30.binds (ps := ["_law_script"]) fun _ _ _ _ _ _ us hl => match us, hl with | [_], _ => rfl
  have kw0 : KwOk K _ ["program", "most"] ("run", 1, [], [0, 1], [.int 400]) := KwOk.dfl dr14 rfl rfl (F14.binds0 (ps := ["program", "most"]) 1 (List.cons_ne_nil _ _) rfl fun _ _ _ _ _ _ us ks h1 h2 => match us, ks, h1, h2 with | [_], [_], _, _ => ⟨_, _, _, _, _, _, rfl, rfl, rfl⟩)
  have mb : ∀ s ∈ bn, mg (Str.ofString s) = none := by
    intro s hs
    simp only [bn, List.mem_cons, List.not_mem_nil, or_false] at hs
    rcases hs with rfl | rfl | rfl | rfl | rfl | rfl | rfl | rfl | rfl | rfl | rfl | rfl | rfl | rfl | rfl
    · exact PySem.W.mg_none_of X G z0
    · exact PySem.W.mg_none_of X G z1
    · exact PySem.W.mg_none_of X G z2
    · exact PySem.W.mg_none_of X G z3
    · exact PySem.W.mg_none_of X G z4
    · exact PySem.W.mg_none_of X G z5
    · exact PySem.W.mg_none_of X G z6
    · exact PySem.W.mg_none_of X G z7
    · exact PySem.W.mg_none_of X G z8
    · exact PySem.W.mg_none_of X G z9
    · exact PySem.W.mg_none_of X G z10
    · exact PySem.W.mg_none_of X G z11
    · exact PySem.W.mg_none_of X G z12
    · exact PySem.W.mg_none_of X G z13
    · exact PySem.W.mg_none_of X G z14
  have gc : GC w K mg := ⟨trivial, ⟨_, PySem.W.mg_of X G g_PLAIN, .tup gl_PLAIN gz_PLAIN gk_PLAIN⟩, ⟨_, PySem.W.mg_of X G g_BINDERS, ⟨_, _, gl_BINDERS, gk_BINDERS, go_BINDERS⟩⟩, ⟨_, PySem.W.mg_of X G g_MOST_PARTS, gk_MOST_PARTS⟩, oxb_Exception ob_Ended, fun P base => ⟨xa_Ended, xf_Ended, _, ["self", "end"], PySem.W.mg_of X G xg_Ended, ⟨oi_Ended, oo_Ended, os_Ended, oh_Ended, xb_Ended, xt_Ended, xk_Ended⟩, on_Ended, ot_Ended, oz_Ended, okx_Ended (fun_mk (st := sx_Ended) ol_Ended oc_Ended ok_Ended) (mb "Exception" (by decide)) (oxb_Exception ob_Ended), (fun_mk (st := sx_Ended) ol_Ended oc_Ended ok_Ended).binds (ps := ["self", "end"]) fun _ _ _ _ _ _ us hl => match us, hl with | [_, _], _ => rfl⟩, ⟨xa_Ended, PySem.W.mg_of X G xg_Ended, ⟨og_Ended, oa_Ended, xb_Ended, oh_Ended⟩, of_Ended, exm_refl xb_Ended xi_Ended xt_Ended xs_Ended⟩, ⟨C_Runner, ka_Runner, ⟨kp_Runner, kh_Runner, ko_Runner, ks_Runner⟩, fun f hf => by
    simp only [List.mem_cons, List.not_mem_nil, or_false] at hf
    rcases hf with rfl | rfl | rfl | rfl
    · exact kn_Runner_tasks
    · exact kn_Runner_told
    · exact kn_Runner_begun
    · exact kn_Runner_left⟩⟩
  refine ⟨PySem.W.fnOf "law" "law" (defArgs sf_law) (defBody sf_law) (defScope sf_law) .none kV30 dc30 pm30 an30 cd30 ct30, fun s v => .of_eq rfl, fun base _ _ => ?_⟩
  have B := ft_all (P := l.prog) (w := w) (base := base) F0 (PySem.W.mg_of X G x0) b0 F1 (PySem.W.mg_of X G x1) b1 F2 (PySem.W.mg_of X G x2) b2 F3 (PySem.W.mg_of X G x3) b3 F4 (PySem.W.mg_of X G x4) b4 F5 ⟨x5, i5, k5⟩ b5 F6 ⟨x6, i6, k6⟩ b6 F7 ⟨x7, i7, k7⟩ b7 F8 ⟨x8, i8, k8⟩ b8 F9 ⟨x9, i9, k9⟩ b9 F10 ⟨x10, i10, k10⟩ b10 F11 ⟨x11, i11, k11⟩ b11 F12 ⟨x12, i12, k12⟩ b12 F13 ⟨x13, i13, k13⟩ b13 F14 (PySem.W.mg_of X G x14) F15 (PySem.W.mg_of X G x15) b15 F16 (PySem.W.mg_of X G x16) b16 F17 (PySem.W.mg_of X G x17) b17 F18 (PySem.W.mg_of X G x18) b18 F19 (PySem.W.mg_of X G x19) b19 F20 (PySem.W.mg_of X G x20) b20 F21 (PySem.W.mg_of X G x21) b21 F22 (PySem.W.mg_of X G x22) b22 F23 (PySem.W.mg_of X G x23) b23 F24 (PySem.W.mg_of X G x24) b24 F25 (PySem.W.mg_of X G x25) b25 F26 (PySem.W.mg_of X G x26) b26 F27 (PySem.W.mg_of X G x27) b27 F28 (PySem.W.mg_of X G x28) b28 F29 (PySem.W.mg_of X G x29) b29 F30 (PySem.W.mg_of X G x30) b30 ka_Runner ⟨kp_Runner, kh_Runner, ko_Runner, ks_Runner⟩ ⟨km_Runner, x5, i5, kk_Runner⟩ (PySem.W.mg_of X G ka_Runner) kw0 mb gc 119
  exact okf_law F30 B mb gc
end Prog

namespace Prog
open Ir
theorem set_at {st : Store} {B : Nat} {c : Cell} (h : st[B]? = some c) (c' : Cell) : (st.set B c')[B]? = some c' := List.getElem?_set_self (List.getElem?_eq_some_iff.mp h).1
theorem take_set (st : Store) (B : Nat) (c : Cell) : (st.set B c).take st.length = st.set B c := List.take_of_length_le (by simp)
theorem set_push (st : Store) (c c' : Cell) : (st ++ [c]).set st.length c' = st ++ [c'] := by simp
theorem get_push (st : Store) (c : Cell) : (st ++ [c])[st.length]? = some c := by simp
theorem comp_const {α : Type} {f : D → Store → Res (Option D)} {st : Store} (p q : α → D) : ∀ l : List α, (∀ a ∈ l, f (p a) st = .ok (some (q a)) st) → compL f (l.map p) st = .ok (l.map q) st
  | [], _ => by simp [compL]
  | a :: l, h => by
    have e := comp_const (f := f) (st := st) p q l fun a' h' => h a' (List.mem_cons_of_mem _ h')
    simp [compL, h a (by simp), e]
/-! ### alike -/
theorem range_nat (n : Nat) : rangeL 0 n = (List.range n).map fun i => D.int (i : Nat) := by simp [rangeL]
theorem bools_true {α : Type} : ∀ l : List α, D.bools (l.map fun _ => D.bool true) = some (l.map fun _ => true)
  | [] => rfl
  | a :: l => by simp [D.bools, bools_true l]
theorem all_true {α : Type} (l : List α) : D.bAll [.lst (l.map fun _ => D.bool true)] = some (.bool true) := by
  simp [D.bAll, bools_true]
theorem atI_of {xs : List D} {i : Nat} (h : i < xs.length) : atI xs (i : Int) = some xs[i] := by
  simp [atI, ixN, h]
theorem bRange_nat {n : Nat} (h : n ≤ LIM) : D.bRange [.int (n : Int)] = some (.lst (rangeL 0 n)) := by
  simp only [D.bRange]
  rw [if_pos ⟨by omega, by omega⟩]
  simp
/-! ### the free numbers -/
theorem big_of_small {i : Int} (h0 : 0 ≤ i) (h : i < 2147483647) : bigOk i = true := by
  unfold bigOk
  have h1 : i.natAbs < 2147483647 := by omega
  have h2 : (2147483647 : Nat) < 2 ^ 4000 := by decide +kernel
  exact decide_eq_true (Nat.lt_trans h1 h2)
theorem bigOk_lit : bigOk 16 = true ∧ bigOk 27 = true := by constructor <;> decide +kernel
theorem smallOk_lit : smallOk 69621 = true ∧ smallOk 1031 = true ∧ smallOk 134217728 = true ∧ smallOk 48271 = true := by decide
theorem pow_lits : bigOk 10 = true ∧ bigOk (10 ^ 60) = true ∧ (0 : Int) < (10 ^ 60) ^ 10 := by
  refine ⟨by decide +kernel, by decide +kernel, by decide +kernel⟩
theorem bigOk_60 : bigOk 1000000000000000000000000000000000000000000000000000000000000 = true := by decide +kernel
end Prog

namespace Ir
/-- what is wanted behind a run; as an instance, so that it is left as it is until the run is there -/
class Post (α : Type) where
  q : α → Store → Prop
@[simp] theorem post_mk {α : Type} (f : α → Store → Prop) : (Post.mk f).q = f := rfl
/-- a run ends well, and so -/
def Wp {α : Type} (r : Res α) [p : Post α] : Prop := match r with | .ok a st => p.q a st | _ => False
@[simp] theorem wp_ok {α : Type} (a : α) (st : Store) {p : Post α} : @Wp _ (.ok a st) p = p.q a st := rfl
@[simp] theorem wp_bad {α : Type} {p : Post α} : @Wp _ .bad p = False := rfl
@[simp ↓] theorem wp_bind {α β : Type} (r : Res α) (f : α → Store → Res β) {p : Post β} : @Wp _ (r.bind f) p = @Wp _ r ⟨fun a s => @Wp _ (f a s) p⟩ := by
  cases r <;> rfl
@[simp ↓ high] theorem wp_if_t {α : Type} {c : Prop} [Decidable c] (a b : Res α) {p : Post α} (h : c) : @Wp _ (if c then a else b) p = @Wp _ a p := by rw [if_pos h]
@[simp ↓ high] theorem wp_if_f {α : Type} {c : Prop} [Decidable c] (a b : Res α) {p : Post α} (h : ¬ c) : @Wp _ (if c then a else b) p = @Wp _ b p := by rw [if_neg h]
@[simp ↓ low] theorem wp_if {α : Type} {c : Prop} [Decidable c] (a b : Res α) {p : Post α} : @Wp _ (if c then a else b) p = ((c → @Wp _ a p) ∧ (¬ c → @Wp _ b p)) := by
  by_cases h : c <;> simp [h]
@[simp] theorem wp_oif {α : Type} {c : Prop} [Decidable c] (a b : Option α) (s : Store) {p : Post α} : @Wp _ (optR (if c then a else b) s) p = ((c → @Wp _ (optR a s) p) ∧ (¬ c → @Wp _ (optR b s) p)) := by
  by_cases h : c <;> simp [h]
theorem wp_iff {α : Type} {r : Res α} {p : Post α} : @Wp _ r p ↔ ∃ a s, r = .ok a s ∧ p.q a s := by
  cases r with
  | ok a s => exact ⟨fun h => ⟨a, s, rfl, h⟩, fun ⟨a', s', e, h⟩ => by cases e; exact h⟩
  | exc c as s => exact ⟨fun h => h.elim, fun ⟨_, _, e, _⟩ => by cases e⟩
  | bad => exact ⟨fun h => h.elim, fun ⟨_, _, e, _⟩ => by cases e⟩
theorem Wp.mono {α : Type} {r : Res α} {p p' : Post α} (h : @Wp _ r p) (k : ∀ a s, p.q a s → p'.q a s) : @Wp _ r p' := by
  cases r with
  | ok a s => exact k a s h
  | exc c as s => exact h
  | bad => exact h
theorem Wp.of {α : Type} {r : Res α} {a : α} {s : Store} {p : Post α} (e : r = .ok a s) (h : p.q a s) : @Wp _ r p := by rw [e]; exact h
theorem wpb {α β : Type} {r : Res α} {f : α → Store → Res β} {pp : Post β} {q : α → Store → Prop} (h : ∀ a s, @Wp _ (f a s) pp = q a s) : @Wp _ (r.bind f) pp = @Wp _ r ⟨q⟩ := by
  rw [wp_bind]
  exact congrArg (fun z => @Wp _ r ⟨z⟩) (funext fun a => funext fun s => h a s)
/-! ### the equations -/
set_option autoImplicit true in
@[simp ↓] theorem w_eval_var {C : Calls} {σ : Env} {st : Store} {pp : Post Val} : @Wp _ (eval C (Ex.var i) σ st) pp = (@Wp _ (match σ[i]? with
    | some (some v) => .ok v st
    | _ => .bad) pp) := by
  rw [eval_var]
  repeat (refine wpb fun _ _ => ?_)
  try rfl
set_option autoImplicit true in
@[simp ↓] theorem w_eval_con {C : Calls} {σ : Env} {st : Store} {pp : Post Val} : @Wp _ (eval C (Ex.con d) σ st) pp = (@Wp _ (.ok (.d d) st) pp) := by
  rw [eval_con]
  repeat (refine wpb fun _ _ => ?_)
  try rfl
set_option autoImplicit true in
@[simp ↓] theorem w_eval_tup {C : Calls} {σ : Env} {st : Store} {pp : Post Val} : @Wp _ (eval C (Ex.tup es) σ st) pp = (@Wp _ (evals C es σ st) ⟨fun vs s1 => @Wp _ (optR (asDs vs) s1) ⟨fun ds s2 => @Wp _ (.ok (.d (.tup ds)) s2) pp⟩⟩) := by
  rw [eval_tup]
  repeat (refine wpb fun _ _ => ?_)
  try rfl
set_option autoImplicit true in
@[simp ↓] theorem w_eval_lst {C : Calls} {σ : Env} {st : Store} {pp : Post Val} : @Wp _ (eval C (Ex.lst es) σ st) pp = (@Wp _ (evals C es σ st) ⟨fun vs s1 => @Wp _ (optR (asDs vs) s1) ⟨fun ds s2 => @Wp _ (.ok (.d (.lst ds)) s2) pp⟩⟩) := by
  rw [eval_lst]
  repeat (refine wpb fun _ _ => ?_)
  try rfl
set_option autoImplicit true in
@[simp ↓] theorem w_eval_newL {C : Calls} {σ : Env} {st : Store} {pp : Post Val} : @Wp _ (eval C (Ex.newL e) σ st) pp = (@Wp _ (eval C e σ st) ⟨fun v s1 => @Wp _ (match v with
    | .d (.lst xs) => .ok (.ref s1.length) (s1 ++ [.lst xs])
    | _ => .bad) pp⟩) := by
  rw [eval_newL]
  repeat (refine wpb fun _ _ => ?_)
  try rfl
set_option autoImplicit true in
@[simp ↓] theorem w_eval_newD {C : Calls} {σ : Env} {st : Store} {pp : Post Val} : @Wp _ (eval C (Ex.newD) σ st) pp = (@Wp _ (.ok (.ref st.length) (st ++ [.dic []])) pp) := by
  rw [eval_newD]
  repeat (refine wpb fun _ _ => ?_)
  try rfl
set_option autoImplicit true in
@[simp ↓] theorem w_eval_newDP {C : Calls} {σ : Env} {st : Store} {pp : Post Val} : @Wp _ (eval C (Ex.newDP e) σ st) pp = (@Wp _ (eval C e σ st) ⟨fun v s1 => @Wp _ (match v with
    | .d (.lst xs) => match mergeP [] xs with
      | some kvs => .ok (.ref s1.length) (s1 ++ [.dic kvs])
      | none => .bad
    | _ => .bad) pp⟩) := by
  rw [eval_newDP]
  repeat (refine wpb fun _ _ => ?_)
  try rfl
set_option autoImplicit true in
@[simp ↓] theorem w_eval_newDd {C : Calls} {σ : Env} {st : Store} {pp : Post Val} : @Wp _ (eval C (Ex.newDd es) σ st) pp = (@Wp _ (evals C es σ st) ⟨fun us s1 => @Wp _ (optR (asDs us) s1) ⟨fun ds s2 => @Wp _ (match mergeF [] ds with
    | some kvs => .ok (.ref s2.length) (s2 ++ [.dic kvs])
    | none => .bad) pp⟩⟩) := by
  rw [eval_newDd]
  repeat (refine wpb fun _ _ => ?_)
  try rfl
set_option autoImplicit true in
@[simp ↓] theorem w_eval_frz {C : Calls} {σ : Env} {st : Store} {pp : Post Val} : @Wp _ (eval C (Ex.frz e) σ st) pp = (@Wp _ (eval C e σ st) ⟨fun v s1 => @Wp _ (match v with
    | .ref n => match s1[n]? with
      | some (.lst xs) => .ok (.d (.lst xs)) (s1.set n .dead)
      | _ => .bad
    | _ => .bad) pp⟩) := by
  rw [eval_frz]
  repeat (refine wpb fun _ _ => ?_)
  try rfl
set_option autoImplicit true in
@[simp ↓] theorem w_eval_frzT {C : Calls} {σ : Env} {st : Store} {pp : Post Val} : @Wp _ (eval C (Ex.frzT e) σ st) pp = (@Wp _ (eval C e σ st) ⟨fun v s1 => @Wp _ (match v with
    | .ref n => if st.length ≤ n then match s1[n]? with
      | some (.lst xs) => .ok (.d (.lst xs)) (s1.take st.length)
      | _ => .bad
      else .bad
    | _ => .bad) pp⟩) := by
  rw [eval_frzT]
  repeat (refine wpb fun _ _ => ?_)
  try rfl
set_option autoImplicit true in
@[simp ↓] theorem w_eval_bin {C : Calls} {σ : Env} {st : Store} {pp : Post Val} : @Wp _ (eval C (Ex.bin o a b) σ st) pp = (@Wp _ (eval C a σ st) ⟨fun x s1 => @Wp _ (eval C b σ s1) ⟨fun y s2 => @Wp _ (optR (deref s2 x) s2) ⟨fun p s3 => @Wp _ (optR (deref s2 y) s3) ⟨fun q s4 => @Wp _ (optR (D.bin o p q) s4) ⟨fun r s5 => @Wp _ (.ok (.d r) s5) pp⟩⟩⟩⟩⟩) := by
  rw [eval_bin]
  repeat (refine wpb fun _ _ => ?_)
  try rfl
set_option autoImplicit true in
@[simp ↓] theorem w_eval_neg {C : Calls} {σ : Env} {st : Store} {pp : Post Val} : @Wp _ (eval C (Ex.neg a) σ st) pp = (@Wp _ (eval C a σ st) ⟨fun x s1 => @Wp _ (optR (asI x) s1) ⟨fun i s2 => @Wp _ (.ok (.d (.int (-i))) s2) pp⟩⟩) := by
  rw [eval_neg]
  repeat (refine wpb fun _ _ => ?_)
  try rfl
set_option autoImplicit true in
@[simp ↓] theorem w_eval_cmp {C : Calls} {σ : Env} {st : Store} {pp : Post Val} : @Wp _ (eval C (Ex.cmp o a b) σ st) pp = (@Wp _ (eval C a σ st) ⟨fun x s1 => @Wp _ (eval C b σ s1) ⟨fun y s2 => @Wp _ (optR (cmpV o s2 x y) s2) ⟨fun r s3 => @Wp _ (.ok (.d (.bool r)) s3) pp⟩⟩⟩) := by
  rw [eval_cmp]
  repeat (refine wpb fun _ _ => ?_)
  try rfl
set_option autoImplicit true in
@[simp ↓] theorem w_eval_chain {C : Calls} {σ : Env} {st : Store} {pp : Post Val} : @Wp _ (eval C (Ex.chain o o' a b c) σ st) pp = (@Wp _ (eval C a σ st) ⟨fun x s1 => @Wp _ (eval C b σ s1) ⟨fun y s2 => @Wp _ (optR (cmpV o s2 x y) s2) ⟨fun r s3 => @Wp _ (if r then (eval C c σ s3).bind fun z s4 => (optR (cmpV o' s4 y z) s4).bind fun q s5 => .ok (.d (.bool q)) s5 else .ok (.d (.bool false)) s3) pp⟩⟩⟩) := by
  rw [eval_chain]
  repeat (refine wpb fun _ _ => ?_)
  try rfl
set_option autoImplicit true in
@[simp ↓] theorem w_eval_and {C : Calls} {σ : Env} {st : Store} {pp : Post Val} : @Wp _ (eval C (Ex.and a b) σ st) pp = (@Wp _ (eval C a σ st) ⟨fun x s1 => @Wp _ (optR (asB x) s1) ⟨fun c s2 => @Wp _ (if c then eval C b σ s2 else .ok (.d (.bool false)) s2) pp⟩⟩) := by
  rw [eval_and]
  repeat (refine wpb fun _ _ => ?_)
  try rfl
set_option autoImplicit true in
@[simp ↓] theorem w_eval_or {C : Calls} {σ : Env} {st : Store} {pp : Post Val} : @Wp _ (eval C (Ex.or a b) σ st) pp = (@Wp _ (eval C a σ st) ⟨fun x s1 => @Wp _ (optR (asB x) s1) ⟨fun c s2 => @Wp _ (if c then .ok (.d (.bool true)) s2 else eval C b σ s2) pp⟩⟩) := by
  rw [eval_or]
  repeat (refine wpb fun _ _ => ?_)
  try rfl
set_option autoImplicit true in
@[simp ↓] theorem w_eval_not {C : Calls} {σ : Env} {st : Store} {pp : Post Val} : @Wp _ (eval C (Ex.not a) σ st) pp = (@Wp _ (eval C a σ st) ⟨fun x s1 => @Wp _ (optR (asB x) s1) ⟨fun c s2 => @Wp _ (.ok (.d (.bool (!c))) s2) pp⟩⟩) := by
  rw [eval_not]
  repeat (refine wpb fun _ _ => ?_)
  try rfl
set_option autoImplicit true in
@[simp ↓] theorem w_eval_ite {C : Calls} {σ : Env} {st : Store} {pp : Post Val} : @Wp _ (eval C (Ex.ite c a b) σ st) pp = (@Wp _ (eval C c σ st) ⟨fun x s1 => @Wp _ (optR (asB x) s1) ⟨fun c s2 => @Wp _ (if c then eval C a σ s2 else eval C b σ s2) pp⟩⟩) := by
  rw [eval_ite]
  repeat (refine wpb fun _ _ => ?_)
  try rfl
set_option autoImplicit true in
@[simp ↓] theorem w_eval_idx {C : Calls} {σ : Env} {st : Store} {pp : Post Val} : @Wp _ (eval C (Ex.idx a b) σ st) pp = (@Wp _ (eval C a σ st) ⟨fun x s1 => @Wp _ (eval C b σ s1) ⟨fun y s2 => @Wp _ (optR (indexV s2 x y) s2) ⟨fun r s3 => @Wp _ (.ok (.d r) s3) pp⟩⟩⟩) := by
  rw [eval_idx]
  repeat (refine wpb fun _ _ => ?_)
  try rfl
set_option autoImplicit true in
@[simp ↓] theorem w_eval_sli {C : Calls} {σ : Env} {st : Store} {pp : Post Val} : @Wp _ (eval C (Ex.sli a lo hi) σ st) pp = (@Wp _ (eval C a σ st) ⟨fun x s1 => @Wp _ (evalO C lo σ s1) ⟨fun l s2 => @Wp _ (evalO C hi σ s2) ⟨fun h s3 => @Wp _ (optR (deref s3 x) s3) ⟨fun p s4 => @Wp _ (optR (p.slice l h) s4) ⟨fun r s5 => @Wp _ (.ok (.d r) s5) pp⟩⟩⟩⟩⟩) := by
  rw [eval_sli]
  repeat (refine wpb fun _ _ => ?_)
  try rfl
set_option autoImplicit true in
@[simp ↓] theorem w_eval_call {C : Calls} {σ : Env} {st : Store} {pp : Post Val} : @Wp _ (eval C (Ex.call f es) σ st) pp = (@Wp _ (evals C es σ st) ⟨fun vs s1 => @Wp _ (C f vs s1) pp⟩) := by
  rw [eval_call]
  repeat (refine wpb fun _ _ => ?_)
  try rfl
set_option autoImplicit true in
@[simp ↓] theorem w_eval_callP {C : Calls} {σ : Env} {st : Store} {pp : Post Val} : @Wp _ (eval C (Ex.callP f es perm) σ st) pp = (@Wp _ (evals C es σ st) ⟨fun vs s1 => @Wp _ (C f (perm.filterMap fun i => vs[i]?) s1) pp⟩) := by
  rw [eval_callP]
  repeat (refine wpb fun _ _ => ?_)
  try rfl
set_option autoImplicit true in
@[simp ↓] theorem w_eval_blt {C : Calls} {σ : Env} {st : Store} {pp : Post Val} : @Wp _ (eval C (Ex.blt f es) σ st) pp = (@Wp _ (evals C es σ st) ⟨fun vs s1 => @Wp _ (bltV f vs s1) pp⟩) := by
  rw [eval_blt]
  repeat (refine wpb fun _ _ => ?_)
  try rfl
set_option autoImplicit true in
@[simp ↓] theorem w_eval_mth {C : Calls} {σ : Env} {st : Store} {pp : Post Val} : @Wp _ (eval C (Ex.mth m o es) σ st) pp = (@Wp _ (eval C o σ st) ⟨fun x s1 => @Wp _ (if mthOk m x s1 then (evals C es σ s1).bind fun vs s2 => mthV m x vs s2 else .bad) pp⟩) := by
  rw [eval_mth]
  repeat (refine wpb fun _ _ => ?_)
  try rfl
set_option autoImplicit true in
@[simp ↓] theorem w_eval_isi {C : Calls} {σ : Env} {st : Store} {pp : Post Val} : @Wp _ (eval C (Ex.isi e ts) σ st) pp = (@Wp _ (eval C e σ st) ⟨fun x s1 => @Wp _ (optR (deref s1 x) s1) ⟨fun p s2 => @Wp _ (optR (isiV ts p) s2) ⟨fun r s3 => @Wp _ (.ok (.d r) s3) pp⟩⟩⟩) := by
  rw [eval_isi]
  repeat (refine wpb fun _ _ => ?_)
  try rfl
set_option autoImplicit true in
@[simp ↓] theorem w_eval_fs {C : Calls} {σ : Env} {st : Store} {pp : Post Val} : @Wp _ (eval C (Ex.fs es) σ st) pp = (@Wp _ (evals C es σ st) ⟨fun vs s1 => @Wp _ (optR (asDs vs) s1) ⟨fun ds s2 => @Wp _ (optR (D.strs ds) s2) ⟨fun ys s3 => @Wp _ (if (ys.map (·.length)).sum ≤ LIM then .ok (.d (.str (joinS "" ys))) s3 else .bad) pp⟩⟩⟩) := by
  rw [eval_fs]
  repeat (refine wpb fun _ _ => ?_)
  try rfl
set_option autoImplicit true in
@[simp ↓] theorem w_eval_kd {C : Calls} {σ : Env} {st : Store} {pp : Post Val} : @Wp _ (eval C (Ex.kd o kvs e) σ st) pp = (@Wp _ (eval C e σ st) ⟨fun x s1 => @Wp _ (optR (kdV o kvs x) s1) ⟨fun r s2 => @Wp _ (.ok (.d r) s2) pp⟩⟩) := by
  rw [eval_kd]
  repeat (refine wpb fun _ _ => ?_)
  try rfl
set_option autoImplicit true in
@[simp ↓] theorem w_eval_rev {C : Calls} {σ : Env} {st : Store} {pp : Post Val} : @Wp _ (eval C (Ex.rev e) σ st) pp = (@Wp _ (eval C e σ st) ⟨fun x s1 => @Wp _ (optR (deref s1 x) s1) ⟨fun p s2 => @Wp _ (optR (revV p) s2) ⟨fun r s3 => @Wp _ (.ok (.d r) s3) pp⟩⟩⟩) := by
  rw [eval_rev]
  repeat (refine wpb fun _ _ => ?_)
  try rfl
set_option autoImplicit true in
@[simp ↓] theorem w_eval_comp {C : Calls} {σ : Env} {st : Store} {pp : Post Val} : @Wp _ (eval C (Ex.comp elt tg it cs) σ st) pp = (@Wp _ (eval C it σ st) ⟨fun x s1 => @Wp _ (optR (asD x) s1) ⟨fun p s2 => @Wp _ (optR p.seq s2) ⟨fun xs s3 => @Wp _ (compL (compStep (eval C elt) (conds C cs) tg (wipe σ tg.slots)) xs s3) ⟨fun ys s8 => @Wp _ (.ok (.d (.lst ys)) s8) pp⟩⟩⟩⟩) := by
  rw [eval_comp]
  repeat (refine wpb fun _ _ => ?_)
  try rfl
set_option autoImplicit true in
@[simp ↓] theorem w_eval_newI {C : Calls} {σ : Env} {st : Store} {pp : Post Val} : @Wp _ (eval C (Ex.newI c) σ st) pp = (@Wp _ (pushO st (.inst c [])) pp) := by
  rw [eval_newI]
  repeat (refine wpb fun _ _ => ?_)
  try rfl
set_option autoImplicit true in
@[simp ↓] theorem w_eval_newO {C : Calls} {σ : Env} {st : Store} {pp : Post Val} : @Wp _ (eval C (Ex.newO e) σ st) pp = (@Wp _ (eval C e σ st) ⟨fun v s1 => @Wp _ (match v with
    | .d (.lst xs) => pushO s1 (.lst xs)
    | _ => .bad) pp⟩) := by
  rw [eval_newO]
  repeat (refine wpb fun _ _ => ?_)
  try rfl
set_option autoImplicit true in
@[simp ↓] theorem w_eval_newOD {C : Calls} {σ : Env} {st : Store} {pp : Post Val} : @Wp _ (eval C (Ex.newOD) σ st) pp = (@Wp _ (pushO st (.dic [])) pp) := by
  rw [eval_newOD]
  repeat (refine wpb fun _ _ => ?_)
  try rfl
set_option autoImplicit true in
@[simp ↓] theorem w_eval_fld {C : Calls} {σ : Env} {st : Store} {pp : Post Val} : @Wp _ (eval C (Ex.fld c o f) σ st) pp = (@Wp _ (eval C o σ st) ⟨fun x s1 => @Wp _ (optR (fldV s1 x c f) s1) ⟨fun r s2 => @Wp _ (.ok (.d r) s2) pp⟩⟩) := by
  rw [eval_fld]
  repeat (refine wpb fun _ _ => ?_)
  try rfl
set_option autoImplicit true in
@[simp ↓] theorem w_eval_meth {C : Calls} {σ : Env} {st : Store} {pp : Post Val} : @Wp _ (eval C (Ex.meth c m o es) σ st) pp = (@Wp _ (eval C o σ st) ⟨fun x s1 => @Wp _ (if methOk s1 x c m then (evals C es σ s1).bind fun vs s2 => C (c ++ "." ++ m) (x :: vs) s2 else .bad) pp⟩) := by
  rw [eval_meth]
  repeat (refine wpb fun _ _ => ?_)
  try rfl
set_option autoImplicit true in
@[simp ↓] theorem w_eval_oq {C : Calls} {σ : Env} {st : Store} {pp : Post Val} : @Wp _ (eval C (Ex.oq q o es) σ st) pp = (@Wp _ (eval C o σ st) ⟨fun x s1 => @Wp _ (evals C es σ s1) ⟨fun vs s2 => @Wp _ (optR (oqV q s2 x vs) s2) ⟨fun r s3 => @Wp _ (.ok (.d r) s3) pp⟩⟩⟩) := by
  rw [eval_oq]
  repeat (refine wpb fun _ _ => ?_)
  try rfl
set_option autoImplicit true in
@[simp ↓] theorem w_eval_oin {C : Calls} {σ : Env} {st : Store} {pp : Post Val} : @Wp _ (eval C (Ex.oin b k o) σ st) pp = (@Wp _ (eval C k σ st) ⟨fun y s1 => @Wp _ (eval C o σ s1) ⟨fun x s2 => @Wp _ (optR (oinV s2 y x) s2) ⟨fun r s3 => @Wp _ (.ok (.d (.bool (r != b))) s3) pp⟩⟩⟩) := by
  rw [eval_oin]
  repeat (refine wpb fun _ _ => ?_)
  try rfl
set_option autoImplicit true in
@[simp ↓] theorem w_eval_om {C : Calls} {σ : Env} {st : Store} {pp : Post Val} : @Wp _ (eval C (Ex.om m o es) σ st) pp = (@Wp _ (eval C o σ st) ⟨fun x s1 => @Wp _ (if omOk s1 x then (evals C es σ s1).bind fun vs s2 => omV m s2 x vs else .bad) pp⟩) := by
  rw [eval_om]
  repeat (refine wpb fun _ _ => ?_)
  try rfl
set_option autoImplicit true in
@[simp ↓] theorem w_eval_dkeys {C : Calls} {σ : Env} {st : Store} {pp : Post Val} : @Wp _ (eval C (Ex.dkeys e) σ st) pp = (@Wp _ (eval C e σ st) ⟨fun x s1 => @Wp _ (optR (dkeysV s1 x) s1) ⟨fun r s2 => @Wp _ (.ok (.d r) s2) pp⟩⟩) := by
  rw [eval_dkeys]
  repeat (refine wpb fun _ _ => ?_)
  try rfl
set_option autoImplicit true in
@[simp ↓] theorem w_eval_nn {C : Calls} {σ : Env} {st : Store} {pp : Post Val} : @Wp _ (eval C (Ex.nn e) σ st) pp = (@Wp _ (eval C e σ st) ⟨fun x s1 => @Wp _ (optR (nnV s1 x) s1) ⟨fun r s2 => @Wp _ (.ok (.d r) s2) pp⟩⟩) := by
  rw [eval_nn]
  repeat (refine wpb fun _ _ => ?_)
  try rfl
set_option autoImplicit true in
@[simp ↓] theorem w_eval_xfld {C : Calls} {σ : Env} {st : Store} {pp : Post Val} : @Wp _ (eval C (Ex.xfld e f) σ st) pp = (@Wp _ (eval C e σ st) ⟨fun x s1 => @Wp _ (optR (xfldV f x) s1) ⟨fun r s2 => @Wp _ (.ok (.d r) s2) pp⟩⟩) := by
  rw [eval_xfld]
  repeat (refine wpb fun _ _ => ?_)
  try rfl
set_option autoImplicit true in
@[simp ↓] theorem w_eval_isx {C : Calls} {σ : Env} {st : Store} {pp : Post Val} : @Wp _ (eval C (Ex.isx e tb) σ st) pp = (@Wp _ (eval C e σ st) ⟨fun x s1 => @Wp _ (optR (isxV tb x) s1) ⟨fun r s2 => @Wp _ (.ok (.d r) s2) pp⟩⟩) := by
  rw [eval_isx]
  repeat (refine wpb fun _ _ => ?_)
  try rfl
set_option autoImplicit true in
@[simp ↓] theorem w_eval_kdd {C : Calls} {σ : Env} {st : Store} {pp : Post Val} : @Wp _ (eval C (Ex.kdd kvs e f) σ st) pp = (@Wp _ (eval C e σ st) ⟨fun x s1 => @Wp _ (eval C f σ s1) ⟨fun y s2 => @Wp _ (optR (kddV kvs x y) s2) ⟨fun r s3 => @Wp _ (.ok (.d r) s3) pp⟩⟩⟩) := by
  rw [eval_kdd]
  repeat (refine wpb fun _ _ => ?_)
  try rfl
set_option autoImplicit true in
@[simp ↓] theorem w_eval_anyQ {C : Calls} {σ : Env} {st : Store} {pp : Post Val} : @Wp _ (eval C (Ex.anyQ q e es) σ st) pp = (@Wp _ (eval C e σ st) ⟨fun x s1 => @Wp _ (evals C es σ s1) ⟨fun vs s2 => @Wp _ (optR (anyV q s2 x vs) s2) ⟨fun r s3 => @Wp _ (.ok (.d r) s3) pp⟩⟩⟩) := by
  rw [eval_anyQ]
  repeat (refine wpb fun _ _ => ?_)
  try rfl
set_option autoImplicit true in
@[simp ↓] theorem w_eval_newX {C : Calls} {σ : Env} {st : Store} {pp : Post Val} : @Wp _ (eval C (Ex.newX c f e) σ st) pp = (@Wp _ (eval C e σ st) ⟨fun x s1 => @Wp _ (optR (asD x) s1) ⟨fun d s2 => @Wp _ (.ok (.d (exnOf c [(f, d)])) s2) pp⟩⟩) := by
  rw [eval_newX]
  repeat (refine wpb fun _ _ => ?_)
  try rfl
set_option autoImplicit true in
@[simp ↓] theorem w_evals_nil {C : Calls} {σ : Env} {st : Store} {pp : Post (List Val)} : @Wp _ (evals C ([]) σ st) pp = (@Wp _ (.ok [] st) pp) := by
  rw [evals_nil]
  repeat (refine wpb fun _ _ => ?_)
  try rfl
set_option autoImplicit true in
@[simp ↓] theorem w_evals_cons {C : Calls} {σ : Env} {st : Store} {pp : Post (List Val)} : @Wp _ (evals C (e :: es) σ st) pp = (@Wp _ (eval C e σ st) ⟨fun v s1 => @Wp _ (evals C es σ s1) ⟨fun vs s2 => @Wp _ (.ok (v :: vs) s2) pp⟩⟩) := by
  rw [evals_cons]
  repeat (refine wpb fun _ _ => ?_)
  try rfl
set_option autoImplicit true in
@[simp ↓] theorem w_evalO_none {C : Calls} {σ : Env} {st : Store} {pp : Post (Option Int)} : @Wp _ (evalO C (none) σ st) pp = (@Wp _ (.ok none st) pp) := by
  rw [evalO_none]
  repeat (refine wpb fun _ _ => ?_)
  try rfl
set_option autoImplicit true in
@[simp ↓] theorem w_evalO_some {C : Calls} {σ : Env} {st : Store} {pp : Post (Option Int)} : @Wp _ (evalO C (some e) σ st) pp = (@Wp _ (eval C e σ st) ⟨fun v s1 => @Wp _ (optR (asI v) s1) ⟨fun i s2 => @Wp _ (.ok (some i) s2) pp⟩⟩) := by
  rw [evalO_some]
  repeat (refine wpb fun _ _ => ?_)
  try rfl
set_option autoImplicit true in
@[simp ↓] theorem w_conds_nil {C : Calls} {σ : Env} {st : Store} {pp : Post Bool} : @Wp _ (conds C ([]) σ st) pp = (@Wp _ (.ok true st) pp) := by
  rw [conds_nil]
  repeat (refine wpb fun _ _ => ?_)
  try rfl
set_option autoImplicit true in
@[simp ↓] theorem w_conds_cons {C : Calls} {σ : Env} {st : Store} {pp : Post Bool} : @Wp _ (conds C (e :: es) σ st) pp = (@Wp _ (eval C e σ st) ⟨fun v s1 => @Wp _ (optR (asB v) s1) ⟨fun c s2 => @Wp _ (if c then conds C es σ s2 else .ok false s2) pp⟩⟩) := by
  rw [conds_cons]
  repeat (refine wpb fun _ _ => ?_)
  try rfl
set_option autoImplicit true in
@[simp ↓] theorem w_exec_asg {C : Calls} {σ : Env} {st : Store} {pp : Post Out} : @Wp _ (exec C (Stm.asg t e) σ st) pp = (@Wp _ (eval C e σ st) ⟨fun v s1 => @Wp _ (optR (t.putV v σ) s1) ⟨fun σ1 s2 => @Wp _ (.ok (.nx σ1) s2) pp⟩⟩) := by
  rw [exec_asg]
  repeat (refine wpb fun _ _ => ?_)
  try rfl
set_option autoImplicit true in
@[simp ↓] theorem w_exec_par {C : Calls} {σ : Env} {st : Store} {pp : Post Out} : @Wp _ (exec C (Stm.par i j a b) σ st) pp = (@Wp _ (eval C a σ st) ⟨fun x s1 => @Wp _ (eval C b σ s1) ⟨fun y s2 => @Wp _ (.ok (.nx ((σ.set i (some x)).set j (some y))) s2) pp⟩⟩) := by
  rw [exec_par]
  repeat (refine wpb fun _ _ => ?_)
  try rfl
set_option autoImplicit true in
@[simp ↓] theorem w_exec_set {C : Calls} {σ : Env} {st : Store} {pp : Post Out} : @Wp _ (exec C (Stm.set o i e) σ st) pp = (@Wp _ (eval C e σ st) ⟨fun v s1 => @Wp _ (eval C o σ s1) ⟨fun x s2 => @Wp _ (eval C i σ s2) ⟨fun k s3 => @Wp _ (optR (asD v) s3) ⟨fun d s4 => @Wp _ (optR (setV x k d s4) s4) ⟨fun s5 _ => @Wp _ (.ok (.nx σ) s5) pp⟩⟩⟩⟩⟩) := by
  rw [exec_set]
  repeat (refine wpb fun _ _ => ?_)
  try rfl
set_option autoImplicit true in
@[simp ↓] theorem w_exec_ex {C : Calls} {σ : Env} {st : Store} {pp : Post Out} : @Wp _ (exec C (Stm.ex e) σ st) pp = (@Wp _ (eval C e σ st) ⟨fun _ s1 => @Wp _ (.ok (.nx σ) s1) pp⟩) := by
  rw [exec_ex]
  repeat (refine wpb fun _ _ => ?_)
  try rfl
set_option autoImplicit true in
@[simp ↓] theorem w_exec_ret {C : Calls} {σ : Env} {st : Store} {pp : Post Out} : @Wp _ (exec C (Stm.ret e) σ st) pp = (@Wp _ (eval C e σ st) ⟨fun v s1 => @Wp _ (.ok (.ret v) s1) pp⟩) := by
  rw [exec_ret]
  repeat (refine wpb fun _ _ => ?_)
  try rfl
set_option autoImplicit true in
@[simp ↓] theorem w_exec_ite {C : Calls} {σ : Env} {st : Store} {pp : Post Out} : @Wp _ (exec C (Stm.ite c a b) σ st) pp = (@Wp _ (eval C c σ st) ⟨fun x s1 => @Wp _ (optR (asB x) s1) ⟨fun c s2 => @Wp _ (if c then execs C a σ s2 else execs C b σ s2) pp⟩⟩) := by
  rw [exec_ite]
  repeat (refine wpb fun _ _ => ?_)
  try rfl
set_option autoImplicit true in
@[simp ↓] theorem w_exec_loop {C : Calls} {σ : Env} {st : Store} {pp : Post Out} : @Wp _ (exec C (Stm.loop t it body) σ st) pp = (@Wp _ (eval C it σ st) ⟨fun x s1 => @Wp _ (optR (asD x) s1) ⟨fun p s2 => @Wp _ (optR p.seq s2) ⟨fun xs s3 => @Wp _ (loopL t.putF (execs C body) xs σ s3) pp⟩⟩⟩) := by
  rw [exec_loop]
  repeat (refine wpb fun _ _ => ?_)
  try rfl
set_option autoImplicit true in
@[simp ↓] theorem w_exec_while {C : Calls} {σ : Env} {st : Store} {pp : Post Out} : @Wp _ (exec C (Stm.while c body) σ st) pp = (@Wp _ (whileU (condB (eval C c)) (execs C body) σ st) pp) := by
  rw [exec_while]
  repeat (refine wpb fun _ _ => ?_)
  try rfl
set_option autoImplicit true in
@[simp ↓] theorem w_exec_aug {C : Calls} {σ : Env} {st : Store} {pp : Post Out} : @Wp _ (exec C (Stm.aug i o e) σ st) pp = (@Wp _ (match σ[i]? with
    | some (some x) => (eval C e σ st).bind fun y s1 => (optR (asI x) s1).bind fun p s2 => (optR (asI y) s2).bind fun q s3 => (optR (augI o p q) s3).bind fun r s4 => .ok (.nx (σ.set i (some (.d (.int r))))) s4
    | _ => .bad) pp) := by
  rw [exec_aug]
  repeat (refine wpb fun _ _ => ?_)
  try rfl
set_option autoImplicit true in
@[simp ↓] theorem w_exec_pass {C : Calls} {σ : Env} {st : Store} {pp : Post Out} : @Wp _ (exec C (Stm.pass) σ st) pp = (@Wp _ (.ok (.nx σ) st) pp) := by
  rw [exec_pass]
  repeat (refine wpb fun _ _ => ?_)
  try rfl
set_option autoImplicit true in
@[simp ↓] theorem w_exec_brk {C : Calls} {σ : Env} {st : Store} {pp : Post Out} : @Wp _ (exec C (Stm.brk) σ st) pp = (@Wp _ (.ok (.brk σ) st) pp) := by
  rw [exec_brk]
  repeat (refine wpb fun _ _ => ?_)
  try rfl
set_option autoImplicit true in
@[simp ↓] theorem w_exec_cnt {C : Calls} {σ : Env} {st : Store} {pp : Post Out} : @Wp _ (exec C (Stm.cnt) σ st) pp = (@Wp _ (.ok (.cnt σ) st) pp) := by
  rw [exec_cnt]
  repeat (refine wpb fun _ _ => ?_)
  try rfl
set_option autoImplicit true in
@[simp ↓] theorem w_exec_never {C : Calls} {σ : Env} {st : Store} {pp : Post Out} : @Wp _ (exec C (Stm.never) σ st) pp = (@Wp _ (.bad) pp) := by
  rw [exec_never]
  repeat (refine wpb fun _ _ => ?_)
  try rfl
set_option autoImplicit true in
@[simp ↓] theorem w_exec_setf {C : Calls} {σ : Env} {st : Store} {pp : Post Out} : @Wp _ (exec C (Stm.setf c o f e) σ st) pp = (@Wp _ (eval C e σ st) ⟨fun v s1 => @Wp _ (eval C o σ s1) ⟨fun x s2 => @Wp _ (optR (asD v) s2) ⟨fun d s3 => @Wp _ (optR (setFV s3 x c f d) s3) ⟨fun s4 _ => @Wp _ (.ok (.nx σ) s4) pp⟩⟩⟩⟩) := by
  rw [exec_setf]
  repeat (refine wpb fun _ _ => ?_)
  try rfl
set_option autoImplicit true in
@[simp ↓] theorem w_exec_augf {C : Calls} {σ : Env} {st : Store} {pp : Post Out} : @Wp _ (exec C (Stm.augf c o f p e) σ st) pp = (@Wp _ (eval C o σ st) ⟨fun x s1 => @Wp _ (optR (fldV s1 x c f) s1) ⟨fun a s2 => @Wp _ (optR (asI (.d a)) s2) ⟨fun i s3 => @Wp _ (eval C e σ s3) ⟨fun y s4 => @Wp _ (optR (asI y) s4) ⟨fun j s5 => @Wp _ (optR (augI p i j) s5) ⟨fun r s6 => @Wp _ (optR (setFV s6 x c f (.int r)) s6) ⟨fun s7 _ => @Wp _ (.ok (.nx σ) s7) pp⟩⟩⟩⟩⟩⟩⟩) := by
  rw [exec_augf]
  repeat (refine wpb fun _ _ => ?_)
  try rfl
set_option autoImplicit true in
@[simp ↓] theorem w_exec_asgO {C : Calls} {σ : Env} {st : Store} {pp : Post Out} : @Wp _ (exec C (Stm.asgO t e) σ st) pp = (@Wp _ (eval C e σ st) ⟨fun v s1 => @Wp _ (optR (lstO s1 v) s1) ⟨fun d s2 => @Wp _ (optR (t.put d σ) s2) ⟨fun σ1 s3 => @Wp _ (.ok (.nx σ1) s3) pp⟩⟩⟩) := by
  rw [exec_asgO]
  repeat (refine wpb fun _ _ => ?_)
  try rfl
set_option autoImplicit true in
@[simp ↓] theorem w_exec_setO {C : Calls} {σ : Env} {st : Store} {pp : Post Out} : @Wp _ (exec C (Stm.setO o i e) σ st) pp = (@Wp _ (eval C e σ st) ⟨fun v s1 => @Wp _ (eval C o σ s1) ⟨fun x s2 => @Wp _ (eval C i σ s2) ⟨fun k s3 => @Wp _ (optR (asD v) s3) ⟨fun d s4 => @Wp _ (optR (setOV s4 x k d) s4) ⟨fun s5 _ => @Wp _ (.ok (.nx σ) s5) pp⟩⟩⟩⟩⟩) := by
  rw [exec_setO]
  repeat (refine wpb fun _ _ => ?_)
  try rfl
set_option autoImplicit true in
@[simp ↓] theorem w_execs_nil {C : Calls} {σ : Env} {st : Store} {pp : Post Out} : @Wp _ (execs C ([]) σ st) pp = (@Wp _ (.ok (.nx σ) st) pp) := by
  rw [execs_nil]
  repeat (refine wpb fun _ _ => ?_)
  try rfl
set_option autoImplicit true in
@[simp ↓] theorem w_execs_cons {C : Calls} {σ : Env} {st : Store} {pp : Post Out} : @Wp _ (execs C (s :: r) σ st) pp = (@Wp _ (exec C s σ st) ⟨fun o s1 => @Wp _ (match o with
    | .nx σ1 => execs C r σ1 s1
    | o => .ok o s1) pp⟩) := by
  rw [execs_cons]
  repeat (refine wpb fun _ _ => ?_)
  try rfl
@[simp ↓] theorem w_compL_nil {f : D → Store → Res (Option D)} {st : Store} {p : Post (List D)} : @Wp _ (compL f [] st) p = p.q [] st := rfl
@[simp ↓] theorem w_compL_cons {f : D → Store → Res (Option D)} {x : D} {r : List D} {st : Store} {p : Post (List D)} : @Wp _ (compL f (x :: r) st) p = @Wp _ (f x st) ⟨fun y s1 => @Wp _ (compL f r s1) ⟨fun ys s2 => p.q (match y with | some y => y :: ys | none => ys) s2⟩⟩ := by
  rw [compL]; repeat (refine wpb fun _ _ => ?_)
  rfl
@[simp ↓] theorem w_compStep {f : Env → Store → Res Val} {g : Env → Store → Res Bool} {tg : Tg} {σ : Env} {y : D} {s : Store} {p : Post (Option D)} : @Wp _ (compStep f g tg σ y s) p =
    @Wp _ (optR (tg.put y σ) s) ⟨fun σ1 s4 => @Wp _ (g σ1 s4) ⟨fun b s5 => @Wp _ (if b then (f σ1 s5).bind fun z s6 => (optR (asD z) s6).bind fun d s7 => .ok (some d) s7 else .ok none s5) p⟩⟩ := by
  rw [compStep]; repeat (refine wpb fun _ _ => ?_)
  rfl
@[simp ↓] theorem w_condB {f : Env → Store → Res Val} {σ : Env} {s : Store} {p : Post Bool} : @Wp _ (condB f σ s) p = @Wp _ (f σ s) ⟨fun x s1 => @Wp _ (optR (asB x) s1) p⟩ := by
  rw [condB]; repeat (refine wpb fun _ _ => ?_)
  rfl
@[simp ↓] theorem w_loopL_nil {g : D → Env → Option Env} {f : Env → Store → Res Out} {σ : Env} {st : Store} {p : Post Out} : @Wp _ (loopL g f [] σ st) p = p.q (.nx σ) st := rfl
@[simp ↓] theorem w_loopL_cons {g : D → Env → Option Env} {f : Env → Store → Res Out} {x : D} {r : List D} {σ : Env} {st : Store} {p : Post Out} : @Wp _ (loopL g f (x :: r) σ st) p =
    @Wp _ (optR (g x σ) st) ⟨fun σ1 s1 => @Wp _ (f σ1 s1) ⟨fun o s2 => @Wp _ (match o with
    | .nx σ2 => loopL g f r σ2 s2
    | .cnt σ2 => loopL g f r σ2 s2
    | .brk σ2 => .ok (.nx σ2) s2
    | .ret v => .ok (.ret v) s2
    | .thr c as σ2 => .ok (.thr c as σ2) s2) p⟩⟩ := by
  rw [loopL]; repeat (refine wpb fun _ _ => ?_)
  rfl
@[simp ↓] theorem w_noexc {α : Type} (r : Res α) {p : Post α} : @Wp _ (noexc r) p = @Wp _ r p := by cases r <;> rfl
@[simp ↓] theorem w_runFn {C : Calls} {f : Fn} {vs : List Val} {st : Store} {p : Post Val} : @Wp _ (runFn C f vs st) p = ((vs.length = f.pars ∧ f.pars ≤ f.many) ∧
    @Wp _ (execs C f.body (vs.map some ++ List.replicate (f.many - f.pars) none) st) ⟨fun o s1 => @Wp _ (match o with
      | .nx _ => leave st.length (.d .non) s1
      | .ret v => leave st.length v s1
      | .thr c as _ => .exc c as (s1.take st.length)
      | _ => .bad) p⟩) := by
  unfold runFn
  by_cases h : vs.length = f.pars ∧ f.pars ≤ f.many
  · rw [if_pos h, wp_bind, w_noexc]
    simp only [h, true_and]
  · rw [if_neg h]
    simp [h]
/-! ### what may be raised -/
class PostX (α : Type) where
  ok : α → Store → Prop
  ex : String → List (String × D) → Store → Prop
@[simp] theorem postx_ok {α : Type} (f : α → Store → Prop) (g) : (PostX.mk f g).ok = f := rfl
@[simp] theorem postx_ex {α : Type} (f : α → Store → Prop) (g) : (PostX.mk f g).ex = g := rfl
def WpX {α : Type} (r : Res α) [p : PostX α] : Prop := match r with | .ok a st => p.ok a st | .exc c as st => p.ex c as st | .bad => False
@[simp] theorem wx_ok {α : Type} (a : α) (st : Store) {p : PostX α} : @WpX _ (.ok a st) p = p.ok a st := rfl
@[simp] theorem wx_exc {α : Type} (c as) (st : Store) {p : PostX α} : @WpX α (.exc c as st) p = p.ex c as st := rfl
@[simp] theorem wx_bad {α : Type} {p : PostX α} : @WpX _ .bad p = False := rfl
@[simp ↓] theorem wx_bind {α β : Type} (r : Res α) (f : α → Store → Res β) {p : PostX β} : @WpX _ (r.bind f) p = @WpX _ r ⟨fun a s => @WpX _ (f a s) p, p.ex⟩ := by
  cases r <;> rfl
theorem wxb {α : Type} {r : Res α} {f g : α → Store → Prop} {e : String → List (String × D) → Store → Prop} (h : ∀ a s, f a s = g a s) : @WpX _ r ⟨f, e⟩ = @WpX _ r ⟨g, e⟩ := by
  have : f = g := funext fun a => funext fun s => h a s
  rw [this]
theorem wx_iff {α : Type} {r : Res α} {p : PostX α} : @WpX _ r p ↔ (∃ a s, r = .ok a s ∧ p.ok a s) ∨ ∃ c as s, r = .exc c as s ∧ p.ex c as s := by
  cases r with
  | ok a s => exact ⟨fun h => .inl ⟨a, s, rfl, h⟩, fun h => by rcases h with ⟨a', s', e, h⟩ | ⟨_, _, _, e, _⟩ <;> cases e; exact h⟩
  | exc c as s => exact ⟨fun h => .inr ⟨c, as, s, rfl, h⟩, fun h => by rcases h with ⟨a', s', e, h⟩ | ⟨_, _, _, e, h⟩ <;> cases e; exact h⟩
  | bad => exact ⟨fun h => h.elim, fun h => by rcases h with ⟨a', s', e, h⟩ | ⟨_, _, _, e, h⟩ <;> cases e⟩
theorem WpX.mono {α : Type} {r : Res α} {p p' : PostX α} (h : @WpX _ r p) (k : ∀ a s, p.ok a s → p'.ok a s) (k2 : ∀ c as s, p.ex c as s → p'.ex c as s) : @WpX _ r p' := by
  cases r with
  | ok a s => exact k a s h
  | exc c as s => exact k2 c as s h
  | bad => exact h
theorem WpX.of {α : Type} {r : Res α} {a : α} {s : Store} {p : PostX α} (e : r = .ok a s) (h : p.ok a s) : @WpX _ r p := by rw [e]; exact h
@[simp ↓] theorem wx_noexc {α : Type} (r : Res α) {p : PostX α} : @WpX _ (noexc r) p = @Wp _ r ⟨p.ok⟩ := by cases r <;> rfl
@[simp ↓] theorem wx_optR {α : Type} (o : Option α) (s : Store) {p : PostX α} : @WpX _ (optR o s) p = @Wp _ (optR o s) ⟨p.ok⟩ := by cases o <;> rfl
@[simp ↓] theorem w_catchX {α : Type} (r : Res α) (σ : Env) (f : α → Store → Res Out) {p : Post Out} : @Wp _ (catchX r σ f) p = @WpX _ r ⟨fun a s => @Wp _ (f a s) p, fun c as s => p.q (.thr c as σ) s⟩ := by cases r <;> rfl
@[simp ↓ high] theorem wx_if_t {α : Type} {c : Prop} [Decidable c] (a b : Res α) {p : PostX α} (h : c) : @WpX _ (if c then a else b) p = @WpX _ a p := by rw [if_pos h]
@[simp ↓ high] theorem wx_if_f {α : Type} {c : Prop} [Decidable c] (a b : Res α) {p : PostX α} (h : ¬ c) : @WpX _ (if c then a else b) p = @WpX _ b p := by rw [if_neg h]
@[simp ↓ low] theorem wx_if {α : Type} {c : Prop} [Decidable c] (a b : Res α) {p : PostX α} : @WpX _ (if c then a else b) p = ((c → @WpX _ a p) ∧ (¬ c → @WpX _ b p)) := by
  by_cases h : c <;> simp [h]
set_option autoImplicit true in
@[simp ↓] theorem w_exec_asgX {C : Calls} {σ : Env} {st : Store} {pp : Post Out} : @Wp _ (exec C (Stm.asgX t e) σ st) pp = @WpX _ (evalX C e σ st) ⟨fun v s1 => @Wp _ (optR (t.putV v σ) s1) ⟨fun σ1 s2 => pp.q (.nx σ1) s2⟩, fun c as s => pp.q (.thr c as σ) s⟩ := by
  rw [exec_asgX, w_catchX]
  exact wxb fun a s => by rw [wp_bind]; rfl
set_option autoImplicit true in
@[simp ↓] theorem w_exec_exX {C : Calls} {σ : Env} {st : Store} {pp : Post Out} : @Wp _ (exec C (Stm.exX e) σ st) pp = @WpX _ (evalX C e σ st) ⟨fun _ s1 => pp.q (.nx σ) s1, fun c as s => pp.q (.thr c as σ) s⟩ := by
  rw [exec_exX, w_catchX]
  rfl
set_option autoImplicit true in
@[simp ↓] theorem w_exec_retX {C : Calls} {σ : Env} {st : Store} {pp : Post Out} : @Wp _ (exec C (Stm.retX e) σ st) pp = @WpX _ (evalX C e σ st) ⟨fun v s1 => pp.q (.ret v) s1, fun c as s => pp.q (.thr c as σ) s⟩ := by
  rw [exec_retX, w_catchX]
  rfl
set_option autoImplicit true in
@[simp ↓] theorem w_exec_raise {C : Calls} {σ : Env} {st : Store} {pp : Post Out} : @Wp _ (exec C (Stm.raise c) σ st) pp = pp.q (.thr c [] σ) st := by
  rw [exec_raise]; rfl
set_option autoImplicit true in
@[simp ↓] theorem w_exec_tryX {C : Calls} {σ : Env} {st : Store} {pp : Post Out} : @Wp _ (exec C (Stm.tryX body c h) σ st) pp = @Wp _ (execs C body σ st) ⟨fun o s1 => @Wp _ (match o with
    | .thr c' as σ1 => if c' = c then (execs C h σ1 s1).bind noThr else .bad
    | o => .ok o s1) pp⟩ := by
  rw [exec_tryX, wp_bind]
set_option autoImplicit true in
@[simp ↓] theorem w_exec_tryX2 {C : Calls} {σ : Env} {st : Store} {pp : Post Out} : @Wp _ (exec C (Stm.tryX2 body c h c2 h2) σ st) pp = @Wp _ (execs C body σ st) ⟨fun o s1 => @Wp _ (match o with
    | .thr c' as σ1 => if c' = c then (execs C h σ1 s1).bind noThr else if c' = c2 then (execs C h2 σ1 s1).bind noThr else .bad
    | o => .ok o s1) pp⟩ := by
  rw [exec_tryX2, wp_bind]
set_option autoImplicit true in
@[simp ↓] theorem w_exec_raiseA {C : Calls} {σ : Env} {st : Store} {pp : Post Out} : @Wp _ (exec C (Stm.raiseA c f e) σ st) pp = (@Wp _ (eval C e σ st) ⟨fun x s1 => @Wp _ (optR (asD x) s1) ⟨fun d s2 => pp.q (.thr c [(f, d)] σ) s2⟩⟩) := by
  rw [exec_raiseA, wp_bind]
  exact congrArg (fun z => @Wp _ (eval C e σ st) ⟨z⟩) (funext fun a => funext fun s => by rw [wp_bind]; rfl)
set_option autoImplicit true in
@[simp ↓] theorem w_exec_tryK {C : Calls} {σ : Env} {st : Store} {pp : Post Out} : @Wp _ (exec C (Stm.tryK body cs i j cs2 i2 j2) σ st) pp = @Wp _ (execs C body σ st) ⟨fun o s1 => @Wp _ (match o with
    | .thr c' as σ1 => if c' ∈ cs then .ok (.nx ((σ1.set j (some (.d (exnOf c' as)))).set i none)) s1 else if c' ∈ cs2 then .ok (.nx ((σ1.set j2 (some (.d (exnOf c' as)))).set i2 none)) s1 else .bad
    | o => .ok o s1) pp⟩ := by
  rw [exec_tryK, wp_bind]
set_option autoImplicit true in
@[simp ↓] theorem w_exec_tryF {C : Calls} {σ : Env} {st : Store} {pp : Post Out} : @Wp _ (exec C (Stm.tryF body c i f) σ st) pp = @Wp _ (execs C body σ st) ⟨fun o s1 => @Wp _ (match o with
    | .thr c' as σ1 => if c' = c then (optR (lookF f as) s1).bind fun v s2 => .ok (.ret (.d v)) s2 else .bad
    | o => .ok o s1) pp⟩ := by
  rw [exec_tryF, wp_bind]
set_option autoImplicit true in
@[simp ↓] theorem wx_evalX_p {C : Calls} {σ : Env} {st : Store} {p : PostX Val} : @WpX _ (evalX C (EX.p e) σ st) p = @Wp _ (eval C e σ st) ⟨p.ok⟩ := by rw [evalX_p, wx_noexc]
set_option autoImplicit true in
@[simp ↓] theorem wx_evalX_call {C : Calls} {σ : Env} {st : Store} {p : PostX Val} : @WpX _ (evalX C (EX.call f es) σ st) p = @WpX _ (evalXs C es σ st) ⟨fun vs s1 => @WpX _ (C f vs s1) p, p.ex⟩ := by rw [evalX_call, wx_bind]
set_option autoImplicit true in
@[simp ↓] theorem wx_evalX_callP {C : Calls} {σ : Env} {st : Store} {p : PostX Val} : @WpX _ (evalX C (EX.callP f es perm) σ st) p = @WpX _ (evalXs C es σ st) ⟨fun vs s1 => @WpX _ (C f (perm.filterMap fun i => vs[i]?) s1) p, p.ex⟩ := by rw [evalX_callP, wx_bind]
set_option autoImplicit true in
@[simp ↓] theorem wx_evalX_ite {C : Calls} {σ : Env} {st : Store} {p : PostX Val} {c : Ex} {ea eb : EX} : @WpX _ (evalX C (EX.ite c ea eb) σ st) p = @Wp _ (eval C c σ st) ⟨fun x s1 => @Wp _ (optR (asB x) s1) ⟨fun c s2 => @WpX _ (if c then evalX C ea σ s2 else evalX C eb σ s2) p⟩⟩ := by
  rw [evalX_ite, wx_bind, wx_noexc]
  have : (fun (a : Val) s => @WpX _ ((optR (asB a) s).bind fun c s2 => if c = true then evalX C ea σ s2 else evalX C eb σ s2) p) = (fun x s1 => @Wp _ (optR (asB x) s1) ⟨fun c s2 => @WpX _ (if c then evalX C ea σ s2 else evalX C eb σ s2) p⟩) := funext fun a => funext fun s => by rw [wx_bind, wx_optR]
  exact congrArg (fun z => @Wp _ (eval C c σ st) ⟨z⟩) this
set_option autoImplicit true in
@[simp ↓] theorem wx_evalX_meth {C : Calls} {σ : Env} {st : Store} {p : PostX Val} {c m : String} {o : Ex} {es : List EX} : @WpX _ (evalX C (EX.meth c m o es) σ st) p = @Wp _ (eval C o σ st) ⟨fun x s1 => @WpX _ (if methOk s1 x c m then (evalXs C es σ s1).bind fun vs s2 => C (c ++ "." ++ m) (x :: vs) s2 else .bad) p⟩ := by
  rw [evalX_meth, wx_bind, wx_noexc]
set_option autoImplicit true in
@[simp ↓] theorem wx_evalX_methN {C : Calls} {σ : Env} {st : Store} {p : PostX Val} {c m : String} {o : Ex} {es : List EX} : @WpX _ (evalX C (EX.methN c m o es) σ st) p = @Wp _ (eval C o σ st) ⟨fun x s1 => @WpX _ (if methOk s1 x c m then (evalXs C es σ s1).bind fun vs s2 => noexc (C (c ++ "." ++ m) (x :: vs) s2) else .bad) p⟩ := by
  rw [evalX_methN, wx_bind, wx_noexc]
set_option autoImplicit true in
@[simp ↓] theorem wx_evalXs_nil {C : Calls} {σ : Env} {st : Store} {p : PostX (List Val)} : @WpX _ (evalXs C [] σ st) p = p.ok [] st := by rw [evalXs_nil]; rfl
set_option autoImplicit true in
@[simp ↓] theorem wx_evalXs_cons {C : Calls} {σ : Env} {st : Store} {p : PostX (List Val)} : @WpX _ (evalXs C (e :: es) σ st) p = @WpX _ (evalX C e σ st) ⟨fun v s1 => @WpX _ (evalXs C es σ s1) ⟨fun vs s2 => p.ok (v :: vs) s2, p.ex⟩, p.ex⟩ := by
  rw [evalXs_cons, wx_bind]
  exact wxb fun a s => by rw [wx_bind]; rfl
@[simp ↓] theorem wx_runFn {C : Calls} {f : Fn} {vs : List Val} {st : Store} {p : PostX Val} : @WpX _ (runFn C f vs st) p = ((vs.length = f.pars ∧ f.pars ≤ f.many) ∧
    @Wp _ (execs C f.body (vs.map some ++ List.replicate (f.many - f.pars) none) st) ⟨fun o s1 => @WpX _ (match o with
      | .nx _ => leave st.length (.d .non) s1
      | .ret v => leave st.length v s1
      | .thr c as _ => .exc c as (s1.take st.length)
      | _ => .bad) p⟩) := by
  unfold runFn
  by_cases h : vs.length = f.pars ∧ f.pars ≤ f.many
  · rw [if_pos h, wx_bind, wx_noexc]
    simp only [h, true_and]
  · rw [if_neg h]
    simp [h]
/-! ### loops -/
theorem wp_loop {g : D → Env → Option Env} {f : Env → Store → Res Out} {pp : Post Out} (I : List D → Env → Store → Prop)
    (hs : ∀ x xs σ st, I (x :: xs) σ st → ∃ σ1, g x σ = some σ1 ∧ @Wp _ (f σ1 st) ⟨fun o s => match o with
      | .nx σ2 => I xs σ2 s | .cnt σ2 => I xs σ2 s | .brk σ2 => pp.q (.nx σ2) s | .ret v => pp.q (.ret v) s | .thr c as σ2 => pp.q (.thr c as σ2) s⟩)
    (hz : ∀ σ st, I [] σ st → pp.q (.nx σ) st) : ∀ (xs : List D) (σ : Env) (st : Store), I xs σ st → @Wp _ (loopL g f xs σ st) pp
  | [], σ, st, h => by rw [w_loopL_nil]; exact hz σ st h
  | x :: xs, σ, st, h => by
    obtain ⟨σ1, e, w⟩ := hs x xs σ st h
    rw [w_loopL_cons, e]
    simp only [optR_some, wp_ok]
    refine w.mono fun o s q => ?_
    cases o with
    | nx σ2 => exact wp_loop I hs hz xs σ2 s q
    | cnt σ2 => exact wp_loop I hs hz xs σ2 s q
    | brk σ2 => exact q
    | ret v => exact q
    | thr c as σ2 => exact q
theorem wp_whileW {α : Type} {lt : α → α → Prop} (wf : WellFounded lt) {c : Env → Store → Res Bool} {f : Env → Store → Res Out} {pp : Post Out} (I : α → Env → Store → Prop)
    (hs : ∀ m σ st, I m σ st → @Wp _ (c σ st) ⟨fun b s1 => (b = true → @Wp _ (f σ s1) ⟨fun o s => match o with
      | .nx σ2 => ∃ m', lt m' m ∧ I m' σ2 s | .cnt σ2 => ∃ m', lt m' m ∧ I m' σ2 s | .brk σ2 => pp.q (.nx σ2) s | .ret v => pp.q (.ret v) s | .thr c as σ2 => pp.q (.thr c as σ2) s⟩) ∧ (b = false → pp.q (.nx σ) s1)⟩)
    (m : α) (σ : Env) (st : Store) (i : I m σ st) : @Wp _ (whileU c f σ st) pp := by
  have key : ∀ m σ st, I m σ st → ∃ n, @Wp _ (whileL c f n σ st) pp := by
    intro m
    induction m using wf.induction with
    | _ m ih =>
      intro σ st i
      obtain ⟨b, s1, e1, q⟩ := wp_iff.mp (hs m σ st i)
      cases b with
      | false => exact ⟨1, by rw [whileL, e1]; exact q.2 rfl⟩
      | true =>
        obtain ⟨o, s2, e2, q2⟩ := wp_iff.mp (q.1 rfl)
        cases o with
        | nx σ2 => obtain ⟨m', hm, i'⟩ := q2; obtain ⟨n, w⟩ := ih m' hm σ2 s2 i'; exact ⟨n + 1, by rw [whileL, e1]; simp only [Res.bind_ok, if_true, e2]; exact w⟩
        | cnt σ2 => obtain ⟨m', hm, i'⟩ := q2; obtain ⟨n, w⟩ := ih m' hm σ2 s2 i'; exact ⟨n + 1, by rw [whileL, e1]; simp only [Res.bind_ok, if_true, e2]; exact w⟩
        | brk σ2 => exact ⟨1, by rw [whileL, e1]; simp only [Res.bind_ok, if_true, e2]; exact q2⟩
        | ret v => exact ⟨1, by rw [whileL, e1]; simp only [Res.bind_ok, if_true, e2]; exact q2⟩
        | thr c as σ2 => exact ⟨1, by rw [whileL, e1]; simp only [Res.bind_ok, if_true, e2]; exact q2⟩
  obtain ⟨n, w⟩ := key m σ st i
  obtain ⟨r, s, e, q⟩ := wp_iff.mp w
  rw [whileU_of e]
  exact q
theorem wp_while {c : Env → Store → Res Bool} {f : Env → Store → Res Out} {pp : Post Out} (I : Nat → Env → Store → Prop)
    (hs : ∀ m σ st, I m σ st → @Wp _ (c σ st) ⟨fun b s1 => (b = true → @Wp _ (f σ s1) ⟨fun o s => match o with
      | .nx σ2 => ∃ m', m' < m ∧ I m' σ2 s | .cnt σ2 => ∃ m', m' < m ∧ I m' σ2 s | .brk σ2 => pp.q (.nx σ2) s | .ret v => pp.q (.ret v) s | .thr c as σ2 => pp.q (.thr c as σ2) s⟩) ∧ (b = false → pp.q (.nx σ) s1)⟩)
    (m : Nat) (σ : Env) (st : Store) (i : I m σ st) : @Wp _ (whileU c f σ st) pp := wp_whileW Nat.lt_wfRel.wf I hs m σ st i
/-! ### comparisons -/
theorem ci_eq (a b : Int) : D.cmp .eq (.int a) (.int b) = some (decide (a = b)) := by simp [D.cmp, fine, D.dep, D.eqv]; rfl
theorem ci_ne (a b : Int) : D.cmp .ne (.int a) (.int b) = some (!decide (a = b)) := by simp [D.cmp, fine, D.dep, D.eqv]; rfl
theorem ci_lt (a b : Int) : D.cmp .lt (.int a) (.int b) = some (decide (a < b)) := rfl
theorem ci_le (a b : Int) : D.cmp .le (.int a) (.int b) = some (decide (a ≤ b)) := rfl
theorem ci_gt (a b : Int) : D.cmp .gt (.int a) (.int b) = some (decide (a > b)) := rfl
theorem ci_ge (a b : Int) : D.cmp .ge (.int a) (.int b) = some (decide (a ≥ b)) := rfl
theorem cs_eq (a b : String) : D.cmp .eq (.str a) (.str b) = some (decide (a = b)) := by simp [D.cmp, fine, D.dep, D.eqv]
theorem cs_ne (a b : String) : D.cmp .ne (.str a) (.str b) = some (!decide (a = b)) := by simp [D.cmp, fine, D.dep, D.eqv]
theorem cb_eq (a b : Bool) : D.cmp .eq (.bool a) (.bool b) = some (decide (a = b)) := by cases a <;> cases b <;> simp [D.cmp, fine, D.dep, D.eqv]
theorem cb_ne (a b : Bool) : D.cmp .ne (.bool a) (.bool b) = some (!decide (a = b)) := by cases a <;> cases b <;> simp [D.cmp, fine, D.dep, D.eqv]
/-! ### stores -/
/-- all cells of the one stand in the other, but for one -/
def Keep (B : Nat) (st s : Store) : Prop := st.length ≤ s.length ∧ ∀ i, i < st.length → i ≠ B → s[i]? = st[i]?
theorem Keep.refl (B : Nat) (st : Store) : Keep B st st := ⟨Nat.le_refl _, fun _ _ _ => rfl⟩
theorem Keep.trans {B : Nat} {a b c : Store} (h : Keep B a b) (k : Keep B b c) : Keep B a c :=
  ⟨Nat.le_trans h.1 k.1, fun i hi hn => (k.2 i (by have := h.1; omega) hn).trans (h.2 i hi hn)⟩
theorem Keep.take {B : Nat} {a b : Store} (h : Keep B a b) : Keep B a (b.take a.length) :=
  ⟨by have := h.1; simp; omega, fun i hi hn => by rw [List.getElem?_take, if_pos hi]; exact h.2 i hi hn⟩
theorem Keep.set {B : Nat} {a b : Store} (h : Keep B a b) (c : Cell) : Keep B a (b.set B c) :=
  ⟨by simpa using h.1, fun i hi hn => by rw [List.getElem?_set_ne (Ne.symm hn)]; exact h.2 i hi hn⟩
theorem Keep.push {B : Nat} {a b : Store} (h : Keep B a b) (c : Cell) : Keep B a (b ++ [c]) :=
  ⟨by have := h.1; simp; omega, fun i hi hn => by rw [List.getElem?_append_left (by have := h.1; omega)]; exact h.2 i hi hn⟩
theorem Keep.get {B : Nat} {a b : Store} (h : Keep B a b) {i : Nat} {c : Cell} (hc : a[i]? = some c) (hn : i ≠ B) : b[i]? = some c := by
  rw [h.2 i (List.getElem?_eq_some_iff.mp hc).1 hn]; exact hc
theorem Keep.len {B : Nat} {a b : Store} (h : Keep B a b) : (b.take a.length).length = a.length := by have := h.1; simp; omega
/-- what is handed back as data -/
@[simp] theorem leave_d (m : Nat) (x : D) (st : Store) : leave m (.d x) st = .ok (.d x) (st.take m) := rfl
end Ir

namespace Prog
open Ir
/-! ### programs -/
inductive Pg where
  | num (i : Int) | truth (b : Bool) | name (x : String) | nil | off (p : Pg)
  | one (h : String) (xs : List String) (p : Pg) | two (h : String) (xs : List String) (p q : Pg) | thr (h : String) (xs : List String) (p q r : Pg)
def Pg.d : Pg → D
  | .num i => .tup [.str "num", .int i]
  | .truth b => .tup [.str "truth", .bool b]
  | .name x => .tup [.str "name", .str x]
  | .nil => .tup [.str "nil"]
  | .off p => .tup [.str "off", p.d]
  | .one h xs p => .tup (.str h :: (xs.map .str ++ [p.d]))
  | .two h xs p q => .tup (.str h :: (xs.map .str ++ [p.d, q.d]))
  | .thr h xs p q r => .tup (.str h :: (xs.map .str ++ [p.d, q.d, r.d]))
@[simp] theorem Pg.plain_d (p : Pg) : p.d.plain = true := by cases p <;> rfl
/-- tuples in all -/
def Pg.sz : Pg → Nat
  | .num _ | .truth _ | .name _ | .nil => 1
  | .off p => p.sz + 1
  | .one _ _ p => p.sz + 1
  | .two _ _ p q => p.sz + q.sz + 1
  | .thr _ _ p q r => p.sz + q.sz + r.sz + 1
/-- how deep -/
def Pg.h : Pg → Nat
  | .num _ | .truth _ | .name _ | .nil => 0
  | .off p => p.h + 1
  | .one _ _ p => p.h + 1
  | .two _ _ p q => max p.h q.h + 1
  | .thr _ _ p q r => max p.h (max q.h r.h) + 1
theorem Pg.sz_pos (p : Pg) : 1 ≤ p.sz := by cases p <;> simp [Pg.sz]
/-- the words with parts -/
def HdOk (h : String) : Prop := h ∉ ["off", "truth", "num", "name", "nil"] ∧ h.length ≤ 8
def Pg.fit : Pg → Prop
  | .num i => i.natAbs < 10 ^ 60
  | .name x => x.length ≤ 8
  | .truth _ | .nil => True
  | .off p => p.fit
  | .one h xs p => HdOk h ∧ xs.length ≤ 2 ∧ (∀ x ∈ xs, x.length ≤ 8) ∧ p.fit
  | .two h xs p q => HdOk h ∧ xs.length ≤ 2 ∧ (∀ x ∈ xs, x.length ≤ 8) ∧ p.fit ∧ q.fit
  | .thr h xs p q r => HdOk h ∧ xs.length ≤ 2 ∧ (∀ x ∈ xs, x.length ≤ 8) ∧ p.fit ∧ q.fit ∧ r.fit
/-- a program as it is written -/
def Pg.txt : Pg → String
  | .num i => toString i
  | .truth b => if b then "true" else "false"
  | .name x => x
  | .nil => "nil"
  | .off p => "?" ++ p.txt
  | .one h xs p => "(" ++ joinS " " (h :: (xs ++ [p.txt])) ++ ")"
  | .two h xs p q => "(" ++ joinS " " (h :: (xs ++ [p.txt, q.txt])) ++ ")"
  | .thr h xs p q r => "(" ++ joinS " " (h :: (xs ++ [p.txt, q.txt, r.txt])) ++ ")"
theorem log_60 {i : Int} (h : i.natAbs < 10 ^ 60) : i.natAbs.log2 < 1920 := by
  by_cases c : i.natAbs = 0
  · rw [c]; decide
  · exact (Nat.log2_lt c).mpr (Nat.lt_trans h (by decide +kernel))
theorem digits_len : ∀ (k n : Nat), n < 10 ^ (k + 1) → (Nat.toDigits 10 n).length ≤ k + 1 := by
  intro k
  induction k with
  | zero => intro n h; rw [Nat.toDigits_of_lt_base (by simpa using h)]; simp
  | succ k ih =>
    intro n h
    by_cases c : n < 10
    · rw [Nat.toDigits_of_lt_base c]; simp
    · rw [Nat.toDigits_of_base_le (by decide) (by omega)]
      have := ih (n / 10) (by rw [Nat.pow_succ] at h; omega)
      simp; omega
theorem str_60 {i : Int} (h : i.natAbs < 10 ^ 60) : (toString i).length ≤ 61 := by
  have hd : ∀ n : Nat, n < 10 ^ 60 → (toString n).length ≤ 60 := fun n hn => by
    have := digits_len 59 n hn
    show (Nat.repr n).length ≤ 60
    simp only [Nat.repr, String.length_ofList]
    exact this
  cases i with
  | ofNat n => have := hd n (by simpa using h); show (toString n).length ≤ 61; omega
  | negSucc n =>
    have := hd (n + 1) (by simpa using h)
    show ("-" ++ toString (n + 1)).length ≤ 61
    rw [String.length_append]
    have : "-".length = 1 := by decide
    omega
end Prog

namespace Prog
open Ir
def azS : String := "abcdefghijklmnopqrstuvwxyz"
def wordsL : List String := ["num", "truth", "name", "fn", "rec", "call", "let", "if", "plus", "less", "pair", "first", "second", "nil", "cons", "head", "tail", "none", "off", "true", "false", "int", "bool", "list"]
/-- a name as the pool gives it -/
structure NameOk (x : String) : Prop where
  pos : 1 ≤ x.length
  most : x.length ≤ 8
  az : ∀ c ∈ x.toList, c ∈ azS.toList
  word : x ∉ wordsL
end Prog

namespace Prog
open Ir
/-! ### the bag of draws -/
def bagC (ns : List Int) (p r s c : Int) (u : List D) : Cell := .lst (.lst (ns.map .int) :: .int p :: .int r :: .int s :: .int c :: u)
def isBag (b : Cell) : Prop := ∃ (ns : List Int) (p : Nat) (r s c : Int) (u : List D), b = bagC ns p r s c u ∧ (∀ x ∈ ns, 0 ≤ x) ∧ 0 ≤ r ∧ 0 ≤ s ∧ s < 2147483647
/-- what a bag bears behind its numbers -/
def bagU : Cell → List D
  | .lst (_ :: _ :: _ :: _ :: _ :: u) => u
  | _ => []
@[simp] theorem bagU_c (ns : List Int) (p r s c : Int) (u : List D) : bagU (bagC ns p r s c u) = u := rfl
theorem ixN5 (n : Nat) : ixN (n + 1 + 1 + 1 + 1 + 1) 0 = some 0 ∧ ixN (n + 1 + 1 + 1 + 1 + 1) 1 = some 1 ∧ ixN (n + 1 + 1 + 1 + 1 + 1) 2 = some 2 ∧ ixN (n + 1 + 1 + 1 + 1 + 1) 3 = some 3 ∧ ixN (n + 1 + 1 + 1 + 1 + 1) 4 = some 4 := by
  have h : ∀ k : Nat, k < 5 → ixN (n + 1 + 1 + 1 + 1 + 1) (k : Int) = some k := fun k hk => by
    unfold ixN
    rw [if_pos (by omega), if_pos (by omega)]; rfl
  exact ⟨h 0 (by omega), h 1 (by omega), h 2 (by omega), h 3 (by omega), h 4 (by omega)⟩
theorem ixN_at {n p : Nat} (h : p < n) : ixN n (p : Int) = some p := by
  unfold ixN
  rw [if_pos (by omega), if_pos (by omega)]; rfl
set_option maxHeartbeats 1000000 in
theorem draw_mid {T : Tab} (hT : T "_law_draw" = some f_law_draw) {n : Nat} {st : Store} {B : Nat} {ns : List Int} {u : List D} {p r s c many : Int} (hB : st[B]? = some (bagC ns p r s c u)) (hr : r ≠ 0) (hm : 0 < many) (hb : bigOk many = true) :
    callN T (n + 1) "_law_draw" [.ref B, .d (.int many)] st = .ok (.d (.int (r % many))) (st.set B (bagC ns p (r / many) s c u)) := by
  have hs := set_at hB
  unfold bagC at hB ⊢
  simp [callN, hT, runFn, f_law_draw, indexV, hB, hs, D.index, atI, ixN5, ixN_at, cmpV, deref, D.cmp, fine, D.dep, D.eqv, asB, hr, hm, hb, D.bin, Tg.putV, setV, asD, leave, take_set]
set_option maxHeartbeats 1000000 in
theorem draw_next {T : Tab} (hT : T "_law_draw" = some f_law_draw) {n : Nat} {st : Store} {B : Nat} {ns : List Int} {u : List D} {s c many : Int} {p : Nat} (hB : st[B]? = some (bagC ns p 0 s c u)) (hp : p < ns.length) (hm : 0 < many) (hb : bigOk many = true) :
    callN T (n + 1) "_law_draw" [.ref B, .d (.int many)] st = .ok (.d (.int (ns[p] % many))) (st.set B (bagC ns (p + 1) (ns[p] / many) s c u)) := by
  have hs := set_at hB
  unfold bagC at hB ⊢
  simp [callN, hT, runFn, f_law_draw, indexV, hB, hs, D.index, atI, ixN5, ixN_at, cmpV, deref, D.cmp, fine, D.dep, D.eqv, asB, hp, hm, hb, D.bin, Tg.putV, setV, asD, leave, take_set, bltV, lenDic, bltD, derefs, D.blt, D.bLen]
def stirBody : List Stm := [.set (.var 0) (.con (.int 4)) (.bin .add (.idx (.var 0) (.con (.int 4))) (.con (.int 1))),
    .set (.var 0) (.con (.int 3)) (.bin .mod (.bin .add (.bin .add (.bin .add (.bin .pow (.idx (.var 0) (.con (.int 3))) (.con (.int 3))) (.bin .mul (.con (.int 69621)) (.idx (.var 0) (.con (.int 3))))) (.bin .mul (.con (.int 1031)) (.idx (.var 0) (.con (.int 4))))) (.con (.int 1))) (.con (.int 2147483647))),
    .asg (.name 2) (.bin .add (.bin .mul (.var 2) (.con (.int 134217728))) (.bin .fdiv (.idx (.var 0) (.con (.int 3))) (.con (.int 16))))]
set_option maxHeartbeats 2000000 in
theorem stir_turn {C : Calls} {st : Store} {B : Nat} {ns : List Int} {u : List D} {p r s c many found : Int} {x : D} (hB : st[B]? = some (bagC ns p r s c u)) (h0 : 0 ≤ s) (h1 : s < 2147483647) :
    ∃ s', (0 ≤ s' ∧ s' < 2147483647) ∧ execs C stirBody [some (.ref B), some (.d (.int many)), some (.d (.int found)), some (.d x)] st = .ok (.nx [some (.ref B), some (.d (.int many)), some (.d (.int (found * 134217728 + s' / 16))), some (.d x)]) (st.set B (bagC ns p r s' (c + 1) u)) := by
  refine ⟨(s ^ 3 + 69621 * s + 1031 * (c + 1) + 1) % 2147483647, ⟨Int.emod_nonneg _ (by decide), Int.emod_lt_of_pos _ (by decide)⟩, ?_⟩
  have hs := set_at hB
  have hbs := big_of_small h0 h1
  unfold bagC at hB ⊢
  simp [stirBody, indexV, hB, hs, D.index, atI, ixN5, ixN_at, deref, D.bin, Tg.putV, setV, asD, smallOk_lit, bigOk_lit, hbs]
theorem stir_loop {C : Calls} {B : Nat} {ns : List Int} {u : List D} {p r many : Int} : ∀ (xs : List D) (st : Store) (s c found : Int) (k : Option Val), st[B]? = some (bagC ns p r s c u) → 0 ≤ s → s < 2147483647 →
    ∃ s' c' found' k', (0 ≤ s' ∧ s' < 2147483647) ∧ loopL (Tg.name 3).putF (execs C stirBody) xs [some (.ref B), some (.d (.int many)), some (.d (.int found)), k] st = .ok (.nx [some (.ref B), some (.d (.int many)), some (.d (.int found')), k']) (st.set B (bagC ns p r s' c' u))
  | [], st, s, c, found, k, hB, h0, h1 => by
    refine ⟨s, c, found, k, ⟨h0, h1⟩, ?_⟩
    have : st.set B (bagC ns p r s c u) = st := by
      apply List.ext_getElem?
      intro i
      by_cases e : B = i
      · subst e; rw [set_at hB, hB]
      · rw [List.getElem?_set_ne e]
    simp [loopL, this]
  | x :: xs, st, s, c, found, k, hB, h0, h1 => by
    obtain ⟨s1, ⟨g0, g1⟩, e⟩ := stir_turn (C := C) (many := many) (found := found) (x := x) hB h0 h1
    obtain ⟨s', c', f', k', hs', e2⟩ := stir_loop (C := C) (many := many) xs (st.set B (bagC ns p r s1 (c + 1) u)) s1 (c + 1) (found * 134217728 + s1 / 16) (some (.d x)) (set_at hB _) g0 g1
    refine ⟨s', c', f', k', hs', ?_⟩
    simp [loopL, Tg.putF_eq, Tg.put, e, e2]
theorem bits_le {i : Int} (h : bigOk i = true) : intBits i ≤ 4000 := by
  unfold bigOk at h
  have h1 := of_decide_eq_true h
  unfold intBits
  split
  · omega
  · rename_i h0
    exact (Nat.log2_lt h0).mpr h1
theorem range_ok {a : Nat} (h : a ≤ 4000) : D.bRange [.int (1 + (a : Int) / 27)] = some (.lst (rangeL 0 (1 + (a : Int) / 27).toNat)) := by
  have hL : (LIM : Int) = 16777216 := by rw [LIM_eq]; rfl
  simp only [D.bRange]
  rw [if_pos (by omega)]
set_option maxHeartbeats 2000000 in
theorem stirred_ok {T : Tab} (hT : T "_law_stirred" = some f_law_stirred) {n : Nat} {st : Store} {B : Nat} {ns : List Int} {u : List D} {p r s c many : Int} (hB : st[B]? = some (bagC ns p r s c u)) (h0 : 0 ≤ s) (h1 : s < 2147483647) (hm : 0 < many) (hb : bigOk many = true) :
    ∃ s' c' d, (0 ≤ s' ∧ s' < 2147483647) ∧ (0 ≤ d ∧ d < many) ∧ callN T (n + 1) "_law_stirred" [.ref B, .d (.int many)] st = .ok (.d (.int d)) (st.set B (bagC ns p r s' c' u)) := by
  have hbits := bits_le hb
  obtain ⟨s', c', f', k', hs', e⟩ := stir_loop (C := callN T n) (many := many) (rangeL 0 (1 + ((intBits many : Nat) : Int) / 27).toNat) st s c 0 none hB h0 h1
  refine ⟨s', c', f' % many, hs', ⟨Int.emod_nonneg _ (by omega), Int.emod_lt_of_pos _ hm⟩, ?_⟩
  unfold stirBody at e
  simp [callN, hT, runFn, f_law_stirred, mthOk, mthV, mBits, deref, D.bin, Tg.putV, bltV, bltD, derefs, D.blt, range_ok hbits, asD, D.seq, bigOk_lit, e, hm, leave, take_set]
theorem draw_okU {T : Tab} (hT : T "_law_draw" = some f_law_draw) (hT2 : T "_law_stirred" = some f_law_stirred) {n : Nat} {st : Store} {B : Nat} {b : Cell} {many : Int} (hB : st[B]? = some b) (ib : isBag b) (hm : 0 < many) (hb : bigOk many = true) :
    ∃ d b', (0 ≤ d ∧ d < many) ∧ isBag b' ∧ bagU b' = bagU b ∧ callN T (n + 2) "_law_draw" [.ref B, .d (.int many)] st = .ok (.d (.int d)) (st.set B b') := by
  obtain ⟨ns, p, r, s, c, u, rfl, hns, hr, h0, h1⟩ := ib
  by_cases hr0 : r = 0
  · subst hr0
    by_cases hp : p < ns.length
    · refine ⟨_, bagC ns (p + 1) (ns[p] / many) s c u, ⟨Int.emod_nonneg _ (by omega), Int.emod_lt_of_pos _ hm⟩, ⟨ns, p + 1, ns[p] / many, s, c, u, by simp, hns, Int.ediv_nonneg (hns _ (List.getElem_mem hp)) (by omega), h0, h1⟩, rfl, draw_next hT hB hp hm hb⟩
    · obtain ⟨s', c', d, hs', hd, e⟩ := stirred_ok hT2 (n := n) hB h0 h1 hm hb
      refine ⟨d, bagC ns p 0 s' c' u, hd, ⟨ns, p, 0, s', c', u, rfl, hns, by omega, hs'.1, hs'.2⟩, rfl, ?_⟩
      have hs := set_at hB
      unfold bagC at hB e ⊢
      have hp' : ¬ ((p : Int) < (ns.length : Int)) := by omega
      rw [show n + 2 = (n + 1) + 1 from rfl, callN]
      simp [hT, runFn, f_law_draw, indexV, hB, hs, D.index, atI, ixN5, ixN_at, cmpV, deref, D.cmp, fine, D.dep, D.eqv, asB, hp, hp', hm, hb, D.bin, Tg.putV, setV, asD, leave, take_set, bltV, lenDic, bltD, derefs, D.blt, D.bLen, e]
  · exact ⟨_, bagC ns p (r / many) s c u, ⟨Int.emod_nonneg _ (by omega), Int.emod_lt_of_pos _ hm⟩, ⟨ns, p, r / many, s, c, u, rfl, hns, Int.ediv_nonneg hr (by omega), h0, h1⟩, rfl, draw_mid hT hB hr0 hm hb⟩
/-! ### the bag at its start -/
def bagBody : List Stm := [.asg (.name 1) (.bin .mod (.bin .add (.bin .add (.bin .mul (.var 1) (.con (.int 48271))) (.bin .mod (.var 2) (.con (.int 2147483629)))) (.con (.int 1))) (.con (.int 2147483647)))]
theorem bag_loop {C : Calls} {st : Store} {x0 : Option Val} : ∀ (l : List Int) (s : Int) (x2 : Option Val), 0 ≤ s → s < 2147483647 →
    ∃ s' x2', (0 ≤ s' ∧ s' < 2147483647) ∧ loopL (Tg.name 2).putF (execs C bagBody) (l.map .int) [x0, some (.d (.int s)), x2] st = .ok (.nx [x0, some (.d (.int s')), x2']) st
  | [], s, x2, h0, h1 => ⟨s, x2, ⟨h0, h1⟩, by simp [loopL]⟩
  | i :: l, s, x2, h0, h1 => by
    obtain ⟨s', x2', hs, e⟩ := bag_loop (C := C) (st := st) (x0 := x0) l ((s * 48271 + i % 2147483629 + 1) % 2147483647) (some (.d (.int i))) (Int.emod_nonneg _ (by decide)) (Int.emod_lt_of_pos _ (by decide))
    refine ⟨s', x2', hs, ?_⟩
    simp [loopL, Tg.putF_eq, Tg.put, bagBody, deref, D.bin, smallOk_lit, Tg.putV]
    simpa [bagBody] using e
set_option maxHeartbeats 2000000 in
theorem bag_ok {T : Tab} (hT : T "_law_bag" = some f_law_bag) {n : Nat} {st : Store} (ns : List Int) :
    ∃ b, isBag b ∧ bagU b = [] ∧ callN T (n + 1) "_law_bag" [.d (.ro (ns.map .int))] st = .ok (.ref st.length) (st ++ [b]) := by
  obtain ⟨ms, hms⟩ : ∃ ms, ms = ns.take 63 := ⟨_, rfl⟩
  obtain ⟨s, x2, ⟨h0, h1⟩, e⟩ := bag_loop (C := callN T n) (st := st) (x0 := some (.d (.ro (ns.map .int)))) ms 29 none (by decide) (by decide)
  have hcut : cut (ns.map D.int) none (some 63) = ms.map .int := by
    rw [hms]
    simp [cut, sIx, List.map_take]
  have hpow : (0 : Int) < (10 ^ 60) ^ 10 := pow_lits.2.2
  have ec := comp_const (f := compStep (eval (callN T n) (.bin .mod (.blt .abs [.var 2]) (.bin .pow (.bin .pow (.con (.int 10)) (.con (.int 60))) (.con (.int 10))))) (conds (callN T n) []) (.name 2) [some (.d (.ro (ns.map .int))), some (.d (.int s)), none]) (st := st) D.int (fun i => D.int ((if i < 0 then -i else i) % (10 ^ 60) ^ 10)) ms (fun i hi => by
    simp [compStep, Tg.put, bltV, bltD, derefs, deref, D.blt, D.bAbs, D.bin, pow_lits.1, bigOk_60, asD])
  refine ⟨bagC (ms.map fun i => (if i < 0 then -i else i) % (10 ^ 60) ^ 10) (0 : Nat) 0 s 0 [], ⟨_, 0, 0, s, 0, [], rfl, ?_, by omega, h0, h1⟩, rfl, ?_⟩
  · intro x hx
    obtain ⟨i, _, rfl⟩ := List.mem_map.mp hx
    exact Int.emod_nonneg _ (by omega)
  · rw [callN_run hT]
    unfold bagBody at e
    simp [runFn, f_law_bag, Tg.putV, asI, deref, D.slice, hcut, asD, D.seq, e, Tg.slots, wipe, ec, asDs, leave, bagC]
end Prog

namespace Prog
open Ir
/-- names: all unlike -/
structure NP (P : List String) : Prop where
  nd : P.Nodup
  lo : 6 ≤ P.length
  hi : P.length ≤ 8
  e8 : poolA = true → P.length = 8
  ok : ∀ x ∈ P, NameOk x
/-- what a bag bears behind its numbers: nothing yet, or names, as data or as a list of the arena -/
def PoolOk (os : Option (List Obj)) (u : List D) : Prop := u = [] ∨ (poolA = false ∧ ∃ P, u = [.lst (P.map .str)] ∧ NP P) ∨ ∃ n l P, poolA = true ∧ u = [.oid n] ∧ os = some l ∧ l[n]? = some (.lst (P.map .str)) ∧ NP P
theorem PoolOk.mono {os os' : Option (List Obj)} {u : List D} (h : PoolOk os u) (k : ∀ (l : List Obj) (n : Nat) (o : Obj), os = some l → l[n]? = some o → ∃ l' : List Obj, os' = some l' ∧ l'[n]? = some o) : PoolOk os' u := by
  rcases h with h | h | ⟨n, l, P, h0, h1, h2, h3, h4⟩
  · exact .inl h
  · exact .inr (.inl h)
  · obtain ⟨l', e1, e2⟩ := k l n _ h2 h3
    exact .inr (.inr ⟨n, l', P, h0, h1, e1, e2, h4⟩)
def Bag (st : Store) (B : Nat) : Prop := ∃ b, st[B]? = some b ∧ isBag b ∧ PoolOk (arenaOf st) (bagU b)
theorem arenaOf_eq {a s : Store} (h : a[0]? = s[0]?) : arenaOf a = arenaOf s := by
  cases a <;> cases s <;> simp at h
  · rfl
  · subst h; rfl
theorem arenaOf_set {st : Store} {B : Nat} {b b' : Cell} (h : st[B]? = some b) (ib : isBag b) (ib' : isBag b') : arenaOf (st.set B b') = arenaOf st := by
  cases B with
  | succ n => exact arenaOf_eq (by simp)
  | zero =>
    obtain ⟨_, _, _, _, _, _, rfl, _⟩ := ib
    obtain ⟨_, _, _, _, _, _, rfl, _⟩ := ib'
    cases st with
    | nil => rfl
    | cons c r => simp at h; subst h; rfl
/-- the same cells, but for the bag's -/
def Kp (B : Nat) (st s : Store) : Prop := s.length = st.length ∧ ∀ i, i ≠ B → s[i]? = st[i]?
theorem Kp.refl (B : Nat) (st : Store) : Kp B st st := ⟨rfl, fun _ _ => rfl⟩
theorem Kp.trans {B : Nat} {a b c : Store} (h : Kp B a b) (k : Kp B b c) : Kp B a c := ⟨k.1.trans h.1, fun i hn => (k.2 i hn).trans (h.2 i hn)⟩
theorem Kp.keep {B : Nat} {a b : Store} (h : Kp B a b) : Keep B a b := ⟨by rw [h.1]; exact Nat.le_refl _, fun i _ hn => h.2 i hn⟩
theorem Kp.of {B : Nat} {a b : Store} (h : Keep B a b) : Kp B a (b.take a.length) :=
  ⟨h.len, fun i hn => by
    by_cases hi : i < a.length
    · exact h.take.2 i hi hn
    · rw [List.getElem?_eq_none (by rw [h.len]; omega), List.getElem?_eq_none (by omega)]⟩
theorem Kp.take {B : Nat} {a b : Store} (h : Kp B a b) : b.take a.length = b := List.take_of_length_le (by rw [h.1]; exact Nat.le_refl _)
theorem Kp.set {B : Nat} (a : Store) (c : Cell) : Kp B a (a.set B c) := ⟨by simp, fun i hn => List.getElem?_set_ne (Ne.symm hn)⟩
theorem Bag.lt {st : Store} {B : Nat} (h : Bag st B) : B < st.length := let ⟨_, e, _⟩ := h; (List.getElem?_eq_some_iff.mp e).1
theorem Bag.of {s s' : Store} {B : Nat} (h : Bag s B) (e : s'[B]? = s[B]?) (e0 : s'[0]? = s[0]?) : Bag s' B := let ⟨b, eb, i, j⟩ := h; ⟨b, e.trans eb, i, by rw [arenaOf_eq e0]; exact j⟩
theorem Bag.take {s : Store} {B m : Nat} (h : Bag s B) (hm : B < m) : Bag (s.take m) B := h.of (by rw [List.getElem?_take, if_pos hm]) (by rw [List.getElem?_take, if_pos (by omega)])
theorem Bag.pushes {s : Store} {B : Nat} (h : Bag s B) (c : Store) : Bag (s ++ c) B := h.of (by rw [List.getElem?_append_left h.lt]) (by rw [List.getElem?_append_left (by have := h.lt; omega)])
theorem Bag.push {s : Store} {B : Nat} (h : Bag s B) (c : Cell) : Bag (s ++ [c]) B := h.pushes [c]
theorem Bag.keep {a s : Store} {B X : Nat} (h : Bag a B) (k : Kp X a s) (hn : B ≠ X) (h0 : X ≠ 0 := by omega) : Bag s B := h.of (k.2 B hn) (k.2 0 (Ne.symm h0))
theorem draw_wp {n : Nat} {st : Store} {B : Nat} {many : Int} {pp : Post Val} (hB : Bag st B) (hm : 0 < many) (hb : bigOk many = true) (hn : 2 ≤ n)
    (k : ∀ d s, 0 ≤ d → d < many → Bag s B → Kp B st s → pp.q (.d (.int d)) s) : @Wp _ (callN T n "_law_draw" [.ref B, .d (.int many)] st) pp := by
  obtain ⟨n, rfl⟩ : ∃ n', n = n' + 2 := ⟨n - 2, by omega⟩
  obtain ⟨b, e, ib, ip⟩ := hB
  obtain ⟨d, b', ⟨d0, d1⟩, ib', iu, e'⟩ := draw_okU T_f_law_draw T_f_law_stirred (n := n) e ib hm hb
  rw [e', wp_ok]
  exact k d _ d0 d1 ⟨b', set_at e b', ib', by rw [arenaOf_set e ib ib', iu]; exact ip⟩ (.set st b')
/-- a bag, what it bears behind its numbers told -/
def Bu (st : Store) (B : Nat) (u : List D) : Prop := ∃ b, st[B]? = some b ∧ isBag b ∧ bagU b = u
theorem Bu.bag {st : Store} {B : Nat} {u : List D} (h : Bu st B u) (p : PoolOk (arenaOf st) u) : Bag st B := let ⟨b, e, i, eu⟩ := h; ⟨b, e, i, by rw [eu]; exact p⟩
theorem big_of {i : Int} (h0 : 0 ≤ i) (h : i < 2147483647) : bigOk i = true := big_of_small h0 h
theorem bag_wp {n : Nat} {st : Store} {pp : Post Val} (ns : List Int) (hn : 1 ≤ n)
    (k : ∀ s, Bag s st.length → s.length = st.length + 1 → Keep st.length st s → pp.q (.ref st.length) s) : @Wp _ (callN T n "_law_bag" [.d (.ro (ns.map .int))] st) pp := by
  obtain ⟨n, rfl⟩ : ∃ n', n = n' + 1 := ⟨n - 1, by omega⟩
  obtain ⟨b, ib, iu, e⟩ := bag_ok T_f_law_bag (n := n) (st := st) ns
  rw [e, wp_ok]
  exact k _ ⟨b, get_push st b, ib, .inl iu⟩ (by simp) ((Keep.refl _ st).push b)
end Prog

namespace Prog
open Ir
theorem mem_strs (x : String) (l : List String) : D.mem (.str x) (.lst (l.map .str)) = some (decide (x ∈ l)) := by
  have hf : fine (.lst (l.map .str)) = true := by
    have : D.depAll (l.map .str) = 0 := by induction l with | nil => rfl | cons y l ih => simp [D.depAll, D.dep, ih]
    simp [fine, D.dep, this]
  have ha : ((l.map D.str).any fun y => y.eqv (.str x)) = decide (x ∈ l) := by
    induction l with
    | nil => rfl
    | cons y l ih =>
      have hf' : fine (.lst (l.map .str)) = true := by
        have : D.depAll (l.map .str) = 0 := by clear ih hf; induction l with | nil => rfl | cons y l ih => simp [D.depAll, D.dep, ih]
        simp [fine, D.dep, this]
      have ih := ih hf'
      simp only [List.map_cons, List.any_cons, D.eqv, ih]
      by_cases e : y = x
      · subst e; simp
      · simp [e, Ne.symm e]
  simp only [D.mem, hf, ha]
  simp [fine, D.dep]
end Prog

namespace Prog
open Ir
theorem rangeL_len (n : Nat) : (rangeL 0 n).length = n := by simp [rangeL]
end Prog

namespace Prog
open Ir
/-! ### programs: their form and their names -/
def ONES : List String := ["first", "second", "head", "tail", "none"]
def TWOS : List String := ["call", "plus", "less", "pair", "cons"]
def Pg.isOff : Pg → Bool
  | .off _ => true
  | _ => false
/-- the form: words with what they bear -/
def Pg.sk : Pg → Prop
  | .num _ | .truth _ | .nil => True
  | .name x => NameOk x
  | .off p => p.sk ∧ p.isOff = false
  | .one h xs p => ((h ∈ ONES ∧ xs = []) ∨ (h = "fn" ∧ ∃ x, xs = [x] ∧ NameOk x) ∨ (h = "rec" ∧ ∃ f x, xs = [f, x] ∧ NameOk f ∧ NameOk x ∧ f ≠ x)) ∧ p.sk
  | .two h xs p q => ((h ∈ TWOS ∧ xs = []) ∨ (h = "let" ∧ ∃ x, xs = [x] ∧ NameOk x)) ∧ p.sk ∧ q.sk
  | .thr h xs p q r => h = "if" ∧ xs = [] ∧ p.sk ∧ q.sk ∧ r.sk
/-- all names are bound -/
def Pg.cl (env : List String) : Pg → Bool
  | .num _ | .truth _ | .nil => true
  | .name x => decide (x ∈ env)
  | .off p => p.cl env
  | .one _ xs p => p.cl (env ++ xs)
  | .two _ xs p q => p.cl env && q.cl (env ++ xs)
  | .thr _ _ p q r => p.cl env && q.cl env && r.cl env
/-- numbers of at most sixty figures -/
def Pg.nb : Pg → Prop
  | .num i => i.natAbs < 10 ^ 60
  | .truth _ | .nil | .name _ => True
  | .off p => p.nb
  | .one _ _ p => p.nb
  | .two _ _ p q => p.nb ∧ q.nb
  | .thr _ _ p q r => p.nb ∧ q.nb ∧ r.nb
/-- places -/
def Pg.pl : Pg → Nat
  | .num _ | .truth _ | .name _ | .nil => 1
  | .off p => p.pl
  | .one _ _ p => p.pl + 1
  | .two _ _ p q => p.pl + q.pl + 1
  | .thr _ _ p q r => p.pl + q.pl + r.pl + 1
/-- places one within another -/
def Pg.dp : Pg → Nat
  | .num _ | .truth _ | .name _ | .nil => 1
  | .off p => p.dp
  | .one _ _ p => p.dp + 1
  | .two _ _ p q => max p.dp q.dp + 1
  | .thr _ _ p q r => max p.dp (max q.dp r.dp) + 1
theorem Pg.pl_pos : ∀ p : Pg, 1 ≤ p.pl
  | .num _ | .truth _ | .name _ | .nil => Nat.le_refl _
  | .off p => p.pl_pos
  | .one _ _ p => by simp only [Pg.pl]; omega
  | .two _ _ p q => by simp only [Pg.pl]; omega
  | .thr _ _ p q r => by simp only [Pg.pl]; omega
theorem ones_ok {h : String} (m : h ∈ ONES) : HdOk h := by
  simp only [ONES, List.mem_cons, List.not_mem_nil, or_false] at m
  rcases m with rfl | rfl | rfl | rfl | rfl <;> exact ⟨by decide, by decide⟩
theorem twos_ok {h : String} (m : h ∈ TWOS) : HdOk h := by
  simp only [TWOS, List.mem_cons, List.not_mem_nil, or_false] at m
  rcases m with rfl | rfl | rfl | rfl | rfl <;> exact ⟨by decide, by decide⟩
theorem Pg.sk_fit : ∀ p : Pg, p.sk → p.nb → p.fit
  | .num _, _, h => h
  | .truth _, _, _ | .nil, _, _ => trivial
  | .name _, h, _ => h.most
  | .off p, h, n => p.sk_fit h.1 n
  | .one h xs p, ⟨h1, h2⟩, n => by
    have hp := p.sk_fit h2 n
    rcases h1 with ⟨m, rfl⟩ | ⟨rfl, x, rfl, hx⟩ | ⟨rfl, f, x, rfl, hf, hx, _⟩
    · exact ⟨ones_ok m, by simp, by simp, hp⟩
    · exact ⟨⟨by decide, by decide⟩, by simp, by simpa using hx.most, hp⟩
    · exact ⟨⟨by decide, by decide⟩, by simp, by simpa using ⟨hf.most, hx.most⟩, hp⟩
  | .two h xs p q, ⟨h1, h2, h3⟩, n => by
    have hp := p.sk_fit h2 n.1
    have hq := q.sk_fit h3 n.2
    rcases h1 with ⟨m, rfl⟩ | ⟨rfl, x, rfl, hx⟩
    · exact ⟨twos_ok m, by simp, by simp, hp, hq⟩
    · exact ⟨⟨by decide, by decide⟩, by simp, by simpa using hx.most, hp, hq⟩
  | .thr h xs p q r, ⟨h1, h0, h2, h3, h4⟩, n => by
    have hp := p.sk_fit h2 n.1
    have hq := q.sk_fit h3 n.2.1
    have hr := r.sk_fit h4 n.2.2
    subst h0 h1
    exact ⟨⟨by decide, by decide⟩, by simp, by simp, hp, hq, hr⟩
/-- what is bound within is among some names -/
def Pg.bin (N : List String) : Pg → Prop
  | .num _ | .truth _ | .name _ | .nil => True
  | .off p => p.bin N
  | .one _ xs p => (∀ x ∈ xs, x ∈ N) ∧ p.bin N
  | .two _ xs p q => (∀ x ∈ xs, x ∈ N) ∧ p.bin N ∧ q.bin N
  | .thr _ xs p q r => (∀ x ∈ xs, x ∈ N) ∧ p.bin N ∧ q.bin N ∧ r.bin N
/-- what the laws draw -/
structure Pg.Ok (N env : List String) (p : Pg) : Prop where
  sk : p.sk
  nb : p.nb
  cl : p.cl env = true
  bn : p.bin N
theorem Pg.Ok.fit {N env : List String} {p : Pg} (h : p.Ok N env) : p.fit := p.sk_fit h.sk h.nb
theorem Pg.Ok.off {N env : List String} {p : Pg} (h : p.Ok N env) (n : p.isOff = false) : (Pg.off p).Ok N env := ⟨⟨h.sk, n⟩, h.nb, h.cl, h.bn⟩
end Prog

namespace Prog
open Ir
/-! ### the running of programs: a machine over values and tasks -/
mutual
inductive Vl where
  | num (i : Int) | tru (b : Bool) | nil | pr (c : Bool) (a b : Vl) | fn (xs : List String) (p : Pg) (a : Nat) (e : En)
inductive En where
  | nil | cons (x : String) (v : Vl) (e : En)
end
def Pg.core : Pg → Pg
  | .off p => p.core
  | p => p
/-- a row -/
abbrev rwD (h : String) (own ks : List D) : D := .tup [.str h, .lst own, .lst ks]
/-- rows of a program: a place's word, its own, its parts' places -/
def Pg.rws : Pg → Nat → List D
  | .num i, _ => [.tup [.str "num", .lst [.int i], .lst []]]
  | .truth b, _ => [.tup [.str "truth", .lst [.bool b], .lst []]]
  | .name x, _ => [.tup [.str "name", .lst [.str x], .lst []]]
  | .nil, _ => [.tup [.str "nil", .lst [], .lst []]]
  | .off p, a => p.rws a
  | .one h xs p, a => .tup [.str h, .lst (xs.map .str), .lst [.int (a + 1 : Nat)]] :: p.rws (a + 1)
  | .two h xs p q, a => .tup [.str h, .lst (xs.map .str), .lst [.int (a + 1 : Nat), .int (a + 1 + p.pl : Nat)]] :: (p.rws (a + 1) ++ q.rws (a + 1 + p.pl))
  | .thr h xs p q r, a => .tup [.str h, .lst (xs.map .str), .lst [.int (a + 1 : Nat), .int (a + 1 + p.pl : Nat), .int (a + 1 + p.pl + q.pl : Nat)]] :: (p.rws (a + 1) ++ (q.rws (a + 1 + p.pl) ++ r.rws (a + 1 + p.pl + q.pl)))
theorem Pg.rws_length : ∀ (p : Pg) (a : Nat), (p.rws a).length = p.pl
  | .num _, _ | .truth _, _ | .name _, _ | .nil, _ => rfl
  | .off p, a => p.rws_length a
  | .one _ _ p, a => by simp only [Pg.rws, List.length_cons, p.rws_length, Pg.pl]
  | .two _ _ p q, a => by simp only [Pg.rws, List.length_cons, List.length_append, p.rws_length, q.rws_length, Pg.pl]
  | .thr _ _ p q r, a => by simp only [Pg.rws, List.length_cons, List.length_append, p.rws_length, q.rws_length, r.rws_length, Pg.pl]; omega
theorem Pg.core_rws : ∀ (p : Pg) (a : Nat), p.core.rws a = p.rws a
  | .off p, a => by simp only [Pg.core, Pg.rws]; exact p.core_rws a
  | .num _, _ | .truth _, _ | .name _, _ | .nil, _ | .one _ _ _, _ | .two _ _ _ _, _ | .thr _ _ _ _ _, _ => rfl
theorem Pg.core_sk : ∀ {p : Pg}, p.sk → p.core.sk ∧ p.core.isOff = false
  | .off p, h => Pg.core_sk (p := p) h.1
  | .num _, h | .truth _, h | .name _, h | .nil, h | .one _ _ _, h | .two _ _ _ _, h | .thr _ _ _ _ _, h => ⟨h, rfl⟩
theorem Pg.core_off : ∀ p : Pg, p.core.isOff = false
  | .off p => p.core_off
  | .num _ | .truth _ | .name _ | .nil | .one _ _ _ | .two _ _ _ _ | .thr _ _ _ _ _ => rfl
theorem Pg.core_nb : ∀ {p : Pg}, p.nb → p.core.nb
  | .off p, h => Pg.core_nb (p := p) h
  | .num _, h | .truth _, h | .name _, h | .nil, h | .one _ _ _, h | .two _ _ _ _, h | .thr _ _ _ _ _, h => h
theorem Pg.core_cl : ∀ (p : Pg) (e : List String), p.core.cl e = p.cl e
  | .off p, e => by simp only [Pg.core, Pg.cl]; exact p.core_cl e
  | .num _, _ | .truth _, _ | .name _, _ | .nil, _ | .one _ _ _, _ | .two _ _ _ _, _ | .thr _ _ _ _ _, _ => rfl
/-- a part of the rows -/
def Sb (R : List D) (p : Pg) (a : Nat) : Prop := ∃ u w, R = u ++ (p.rws a ++ w) ∧ u.length = a
theorem Sb.core {R : List D} {p : Pg} {a : Nat} (h : Sb R p a) : Sb R p.core a := by unfold Sb; rw [p.core_rws]; exact h
theorem Sb.one {R : List D} {h : String} {xs : List String} {p : Pg} {a : Nat} (s : Sb R (.one h xs p) a) : Sb R p (a + 1) := by
  obtain ⟨u, w, e, rfl⟩ := s
  exact ⟨u ++ [(rwD h (xs.map .str) [.int (u.length + 1 : Nat)])], w, by rw [e]; simp only [Pg.rws, List.cons_append, List.append_assoc, List.nil_append], by simp⟩
theorem Sb.two {R : List D} {h : String} {xs : List String} {p q : Pg} {a : Nat} (s : Sb R (.two h xs p q) a) : Sb R p (a + 1) ∧ Sb R q (a + 1 + p.pl) := by
  obtain ⟨u, w, e, rfl⟩ := s
  refine ⟨⟨u ++ [(rwD h (xs.map .str) [.int (u.length + 1 : Nat), .int (u.length + 1 + p.pl : Nat)])], q.rws (u.length + 1 + p.pl) ++ w, by rw [e]; simp only [Pg.rws, List.cons_append, List.append_assoc, List.nil_append], by simp⟩,
    ⟨u ++ ((rwD h (xs.map .str) [.int (u.length + 1 : Nat), .int (u.length + 1 + p.pl : Nat)]) :: p.rws (u.length + 1)), w, by rw [e]; simp only [Pg.rws, List.cons_append, List.append_assoc, List.nil_append], by simp [p.rws_length]; omega⟩⟩
theorem Sb.thr {R : List D} {h : String} {xs : List String} {p q r : Pg} {a : Nat} (s : Sb R (.thr h xs p q r) a) : Sb R p (a + 1) ∧ Sb R q (a + 1 + p.pl) ∧ Sb R r (a + 1 + p.pl + q.pl) := by
  obtain ⟨u, w, e, rfl⟩ := s
  refine ⟨⟨u ++ [(rwD h (xs.map .str) [.int (u.length + 1 : Nat), .int (u.length + 1 + p.pl : Nat), .int (u.length + 1 + p.pl + q.pl : Nat)])], q.rws (u.length + 1 + p.pl) ++ (r.rws (u.length + 1 + p.pl + q.pl) ++ w), by rw [e]; simp only [Pg.rws, List.cons_append, List.append_assoc, List.nil_append], by simp⟩,
    ⟨u ++ ((rwD h (xs.map .str) [.int (u.length + 1 : Nat), .int (u.length + 1 + p.pl : Nat), .int (u.length + 1 + p.pl + q.pl : Nat)]) :: p.rws (u.length + 1)), r.rws (u.length + 1 + p.pl + q.pl) ++ w, by rw [e]; simp only [Pg.rws, List.cons_append, List.append_assoc, List.nil_append], by simp [p.rws_length]; omega⟩,
    ⟨u ++ ((rwD h (xs.map .str) [.int (u.length + 1 : Nat), .int (u.length + 1 + p.pl : Nat), .int (u.length + 1 + p.pl + q.pl : Nat)]) :: (p.rws (u.length + 1) ++ q.rws (u.length + 1 + p.pl))), w, by rw [e]; simp only [Pg.rws, List.cons_append, List.append_assoc, List.nil_append], by simp [p.rws_length, q.rws_length]; omega⟩⟩
theorem Sb.lt {R : List D} {p : Pg} {a : Nat} (s : Sb R p a) : a < R.length := by
  obtain ⟨u, w, e, rfl⟩ := s
  have := p.pl_pos
  rw [e]; simp [p.rws_length]; omega
theorem Sb.row {R : List D} {p : Pg} {a : Nat} (s : Sb R p a) : R[a]? = (p.rws a)[0]? := by
  obtain ⟨u, w, e, rfl⟩ := s
  have := p.pl_pos
  have := p.rws_length u.length
  rw [e, List.getElem?_append_right (Nat.le_refl _), Nat.sub_self, List.getElem?_append_left (by omega)]
/-! ### values -/
def Vl.sz : Vl → Nat
  | .pr _ a b => 1 + a.sz + b.sz
  | _ => 1
def pw : Bool → String
  | true => "cons"
  | false => "pair"
def Vl.txt : Vl → String
  | .num i => toString i
  | .tru true => "true"
  | .tru false => "false"
  | .nil => "nil"
  | .fn _ _ _ _ => "fn"
  | .pr c a b => "(" ++ (pw c ++ (" " ++ (a.txt ++ (" " ++ (b.txt ++ ")")))))
def Vl.dp : Vl → Nat
  | .pr _ a b => 1 + max a.dp b.dp
  | _ => 1
theorem Vl.sz_pos : ∀ v : Vl, 1 ≤ v.sz
  | .pr _ a b => by simp only [Vl.sz]; omega
  | .num _ | .tru _ | .nil | .fn _ _ _ _ => Nat.le_refl _
theorem Vl.dp_sz : ∀ v : Vl, 2 * v.dp ≤ v.sz + 1
  | .pr _ a b => by have := a.dp_sz; have := b.dp_sz; have := a.sz_pos; have := b.sz_pos; simp only [Vl.dp, Vl.sz]; omega
  | .num _ | .tru _ | .nil | .fn _ _ _ _ => by simp [Vl.dp, Vl.sz]
def En.look (x : String) : En → Vl
  | .nil => .nil
  | .cons y v e => if y = x then v else e.look x
def En.nms : En → List String
  | .nil => []
  | .cons x _ e => e.nms ++ [x]
mutual
def Vl.ok (R : List D) (b : Nat) : Vl → Prop
  | .num i => i.natAbs < 2 ^ b
  | .tru _ | .nil => True
  | .pr _ x y => x.ok R b ∧ y.ok R b
  | .fn xs p a e => ((∃ x, xs = [x]) ∨ ∃ f x, xs = [f, x]) ∧ p.sk ∧ p.nb ∧ p.cl (e.nms ++ xs) = true ∧ Sb R p a ∧ e.nms.length ≤ 2 * b ∧ e.ok R b
def En.ok (R : List D) (b : Nat) : En → Prop
  | .nil => True
  | .cons _ v e => v.ok R b ∧ e.ok R b
end
mutual
theorem Vl.ok_mono {R : List D} {b c : Nat} (h : b ≤ c) : ∀ v : Vl, v.ok R b → v.ok R c
  | .num i, k => Nat.lt_of_lt_of_le k (Nat.pow_le_pow_right (by omega) h)
  | .tru _, _ => trivial
  | .nil, _ => trivial
  | .pr _ x y, ⟨k1, k2⟩ => ⟨Vl.ok_mono h x k1, Vl.ok_mono h y k2⟩
  | .fn _ _ _ e, ⟨k1, k2, k3, k4, k5, k7, k6⟩ => ⟨k1, k2, k3, k4, k5, by omega, En.ok_mono h e k6⟩
theorem En.ok_mono {R : List D} {b c : Nat} (h : b ≤ c) : ∀ e : En, e.ok R b → e.ok R c
  | .nil, _ => trivial
  | .cons _ v e, ⟨k1, k2⟩ => ⟨Vl.ok_mono h v k1, En.ok_mono h e k2⟩
end
theorem En.look_ok {R : List D} {b : Nat} {x : String} : ∀ {e : En}, e.ok R b → (e.look x).ok R b
  | .nil, _ => trivial
  | .cons y v e, h => by
    simp only [En.look]
    split
    · exact h.1
    · exact En.look_ok h.2
/-! ### the machine -/
def callE : List String → Vl → Vl → En → En
  | [x], _, g, e => .cons x g e
  | [f, x], v, g, e => .cons x g (.cons f v e)
  | _, _, _, e => e
inductive Ou where
  | v (x : Vl) | st | em
def fstO : Vl → Ou
  | .pr false a _ => .v a
  | _ => .st
def sndO : Vl → Ou
  | .pr false _ b => .v b
  | _ => .st
def headO : Vl → Ou
  | .pr true a _ => .v a
  | .nil => .em
  | _ => .st
def tailO : Vl → Ou
  | .pr true _ b => .v b
  | .nil => .em
  | _ => .st
def noneO : Vl → Ou
  | .pr true _ _ => .v (.tru false)
  | .nil => .v (.tru true)
  | _ => .st
def partO (h : String) (v : Vl) : Ou :=
  if h = "first" then fstO v else if h = "second" then sndO v else if h = "head" then headO v else if h = "tail" then tailO v else noneO v
def plusO : Vl → Vl → Ou
  | .num i, .num j => .v (.num (i + j))
  | _, _ => .st
def lessO : Vl → Vl → Ou
  | .num i, .num j => .v (.tru (decide (i < j)))
  | _, _ => .st
def Vl.isList : Vl → Bool
  | .nil | .pr true _ _ => true
  | _ => false
def consO (a b : Vl) : Ou := if b.isList then .v (.pr true a b) else .st
def twoO (h : String) (a b : Vl) : Ou :=
  if h = "plus" then plusO a b else if h = "less" then lessO a b else if h = "pair" then .v (.pr false a b) else consO a b
abbrev Tk := Pg × Nat × En × Bool
structure Ms where
  todo : List Tk
  told : List Vl
  bg : List Nat
  left : Nat
inductive Fin' where
  | far | stuck (a : Nat) | empt (a : Nat) | val (v : Vl)
def addK (bg : List Nat) (a : Nat) : List Nat := if a ∈ bg then bg else bg ++ [a]
/-- a place is begun -/
def bgn (p : Pg) (a : Nat) (e : En) (K : List Tk) (V : List Vl) : Pg → List Tk × List Vl
  | .num i => (K, .num i :: V)
  | .truth b => (K, .tru b :: V)
  | .nil => (K, .nil :: V)
  | .name x => (K, e.look x :: V)
  | .off _ => (K, V)
  | .one h xs q => if h = "fn" ∨ h = "rec" then (K, .fn xs q (a + 1) e :: V) else ((q, a + 1, e, false) :: (p, a, e, true) :: K, V)
  | .two h _ q r => if h = "let" then ((q, a + 1, e, false) :: (p, a, e, true) :: K, V) else ((q, a + 1, e, false) :: (r, a + 1 + q.pl, e, false) :: (p, a, e, true) :: K, V)
  | .thr _ _ q _ _ => ((q, a + 1, e, false) :: (p, a, e, true) :: K, V)
def oud (a : Nat) (K : List Tk) (V : List Vl) : Ou → (List Tk × List Vl) ⊕ Fin'
  | .v x => .inl (K, x :: V)
  | .st => .inr (.stuck a)
  | .em => .inr (.empt a)
def enter (a : Nat) (K : List Tk) (V : List Vl) (g : Vl) : Vl → (List Tk × List Vl) ⊕ Fin'
  | .fn xs q b e => .inl ((q, b, callE xs (.fn xs q b e) g e, false) :: K, V)
  | _ => .inr (.stuck a)
def chose (a : Nat) (e : En) (K : List Tk) (V : List Vl) (q r : Pg) (n m : Nat) : Vl → (List Tk × List Vl) ⊕ Fin'
  | .tru b => .inl ((if b then (q, n, e, false) else (r, m, e, false)) :: K, V)
  | _ => .inr (.stuck a)
/-- a place is finished -/
def fns (a : Nat) (e : En) (K : List Tk) : Pg → List Vl → (List Tk × List Vl) ⊕ Fin'
  | .one h _ _, v :: V => oud a K V (partO h v)
  | .two h xs q r, V0 => if h = "let" then (match V0 with | v :: V => .inl ((r, a + 1 + q.pl, .cons (xs.headD "") v e, false) :: K, V) | [] => .inr .far)
      else if h = "call" then (match V0 with | g :: f :: V => enter a K V g f | _ => .inr .far) else (match V0 with | y :: x :: V => oud a K V (twoO h x y) | _ => .inr .far)
  | .thr _ _ q r s, v :: V => chose a e K V r s (a + 1 + q.pl) (a + 1 + q.pl + r.pl) v
  | _, _ => .inr .far
def stp (m : Ms) : Ms ⊕ Fin' :=
  match m.todo with
  | [] => .inr (.val (m.told.headD .nil))
  | (p, a, e, false) :: K => if m.left = 0 then .inr .far else .inl ⟨(bgn p a e K m.told p.core).1, (bgn p a e K m.told p.core).2, addK m.bg a, m.left - 1⟩
  | (p, a, e, true) :: K => match fns a e K p.core m.told with
    | .inl (t, v) => .inl ⟨t, v, m.bg, m.left⟩
    | .inr f => .inr f
inductive Runs : Ms → Fin' → List Nat → Prop
  | fin {m f} : stp m = .inr f → Runs m f m.bg
  | go {m m' f b} : stp m = .inl m' → Runs m' f b → Runs m f b
theorem Runs.det {m : Ms} {f : Fin'} {b : List Nat} (h : Runs m f b) : ∀ {f' b'}, Runs m f' b' → f = f' ∧ b = b' := by
  induction h with
  | fin e => intro f' b' k; cases k with
    | fin e' => rw [e] at e'; cases e'; exact ⟨rfl, rfl⟩
    | go e' _ => rw [e] at e'; cases e'
  | go e _ ih => intro f' b' k; cases k with
    | fin e' => rw [e] at e'; cases e'
    | go e' k => rw [e] at e'; cases e'; exact ih k
/-! ### what holds all along -/
def early : Pg → Nat
  | .one _ _ _ => 1
  | .two h _ _ _ => if h = "let" then 1 else 2
  | .thr _ _ _ _ _ => 1
  | _ => 0
/-- the values suffice -/
def bal : List Tk → Nat → Prop
  | [], n => n = 1
  | (_, _, _, false) :: K, n => bal K (n + 1)
  | (p, _, _, true) :: K, n => 1 ≤ early p.core ∧ (∀ h xs q, p.core = .one h xs q → h ∈ ONES) ∧ early p.core ≤ n ∧ bal K (n - early p.core + 1)
def rdy (K : List Tk) : Nat := (K.filter fun t => t.2.2.2).length
structure TkOk (R : List D) (b : Nat) (t : Tk) : Prop where
  sk : t.1.sk
  nb : t.1.nb
  cl : t.1.cl t.2.2.1.nms = true
  sb : Sb R t.1 t.2.1
  ln : t.2.2.1.nms.length ≤ 2 * b
  en : t.2.2.1.ok R b
structure Wf (R : List D) (C : Nat) (m : Ms) (b : Nat) : Prop where
  tk : ∀ t ∈ m.todo, TkOk R b t
  vs : ∀ v ∈ m.told, v.ok R b
  bl : bal m.todo m.told.length
  hC : 2 * b + m.left + m.told.length + rdy m.todo ≤ C
  hT : m.todo.length + 2 * m.left ≤ 2 * C
  hb : 200 ≤ b
  nd : m.bg.Nodup
  lt : ∀ k ∈ m.bg, k < R.length
theorem TkOk.mono {R : List D} {b c : Nat} {t : Tk} (h : TkOk R b t) (k : b ≤ c) : TkOk R c t := ⟨h.sk, h.nb, h.cl, h.sb, by have := h.ln; omega, En.ok_mono k _ h.en⟩
end Prog

namespace Prog
open Ir
theorem addK_nd {bg : List Nat} {a : Nat} (h : bg.Nodup) : (addK bg a).Nodup := by
  unfold addK
  split
  · exact h
  · rename_i q
    rw [List.nodup_append]
    exact ⟨h, List.nodup_cons.mpr ⟨by simp, List.nodup_nil⟩, fun x hx y hy => by rw [List.mem_singleton] at hy; subst hy; exact fun e => q (e ▸ hx)⟩
theorem addK_lt {bg : List Nat} {a N : Nat} (h : ∀ k ∈ bg, k < N) (ha : a < N) : ∀ k ∈ addK bg a, k < N := by
  unfold addK
  split
  · exact h
  · intro k hk
    rcases List.mem_append.mp hk with q | q
    · exact h k q
    · rw [List.mem_singleton] at q; subst q; exact ha
theorem callE_ok {R : List D} {b : Nat} {xs : List String} {v g : Vl} {e : En} (h : (∃ x, xs = [x]) ∨ ∃ f x, xs = [f, x]) (hv : v.ok R b) (hg : g.ok R b) (he : e.ok R b) : (callE xs v g e).ok R b ∧ (callE xs v g e).nms = e.nms ++ xs ∧ xs.length ≤ 2 := by
  rcases h with ⟨x, rfl⟩ | ⟨f, x, rfl⟩
  · exact ⟨⟨hg, he⟩, rfl, by simp⟩
  · exact ⟨⟨hg, hv, he⟩, by simp [callE, En.nms], by simp⟩
theorem rdy_t (t : Pg) (a : Nat) (e : En) (K : List Tk) : rdy ((t, a, e, true) :: K) = rdy K + 1 := by simp [rdy]
theorem rdy_f (t : Pg) (a : Nat) (e : En) (K : List Tk) : rdy ((t, a, e, false) :: K) = rdy K := by simp [rdy]
theorem pow_up : 10 ^ 60 ≤ 2 ^ 200 := by decide
/-- the step keeps all, and comes nearer to the end -/
theorem wf_step {R : List D} {C b : Nat} {m m' : Ms} (h : Wf R C m b) (e : stp m = .inl m') : ∃ b', Wf R C m' b' ∧ 2 * m'.left + rdy m'.todo < 2 * m.left + rdy m.todo := by
  obtain ⟨todo, told, bg, left⟩ := m
  obtain ⟨tk, vs, bl, hC, hT, hb, nd, lt⟩ := h
  simp only at tk vs bl hC hT nd lt ⊢
  unfold stp at e
  simp only at e
  split at e
  · cases e
  · rename_i p a en K
    have t0 := tk _ List.mem_cons_self
    have tK : ∀ t ∈ K, TkOk R b t := fun t q => tk t (List.mem_cons_of_mem _ q)
    obtain ⟨sk, nb, cl, sb, ln, eo⟩ := t0
    simp only at sk nb cl sb ln eo
    split at e
    · cases e
    · rename_i hl
      cases e
      have hlt := sb.lt
      have sk' := Pg.core_sk sk
      have nb' := Pg.core_nb nb
      rw [← Pg.core_cl] at cl
      have sb' := sb.core
      rw [rdy_f] at hC ⊢
      simp only [List.length_cons] at hT
      have nd' := addK_nd (a := a) nd
      have lt' := addK_lt lt hlt
      have bl : bal K (told.length + 1) := bl
      -- a leaf
      have leaf : ∀ v : Vl, v.ok R b → ∃ b', Wf R C ⟨K, v :: told, addK bg a, left - 1⟩ b' ∧ 2 * (left - 1) + rdy K < 2 * left + rdy K := fun v hv =>
        ⟨b, ⟨tK, fun w hw => by rcases List.mem_cons.mp hw with rfl | hw; exact hv; exact vs w hw, by simpa using bl, by simp only [List.length_cons]; omega, by simp only; omega, hb, nd', lt'⟩, by omega⟩
      have one : ∀ (q : Pg) (n : Nat), early p.core = 1 → (∀ h xs q, p.core = .one h xs q → h ∈ ONES) → q.sk → q.nb → q.cl en.nms = true → Sb R q n → ∃ b', Wf R C ⟨(q, n, en, false) :: (p, a, en, true) :: K, told, addK bg a, left - 1⟩ b' ∧ 2 * (left - 1) + rdy ((q, n, en, false) :: (p, a, en, true) :: K) < 2 * left + rdy K := fun q n h1 h0 h2 h3 h4 h5 => by
        refine ⟨b, ⟨fun t ht => ?_, vs, ?_, ?_, ?_, hb, nd', lt'⟩, ?_⟩
        · rcases List.mem_cons.mp ht with rfl | ht
          · exact ⟨h2, h3, h4, h5, ln, eo⟩
          · rcases List.mem_cons.mp ht with rfl | ht
            · exact ⟨sk, nb, by rw [← Pg.core_cl]; exact cl, sb, ln, eo⟩
            · exact tK t ht
        · show bal _ _
          simp only [bal]
          rw [h1]
          exact ⟨Nat.le_refl _, h0, by omega, by simpa using bl⟩
        · rw [rdy_f, rdy_t]; simp only; omega
        · simp only [List.length_cons]; omega
        · rw [rdy_f, rdy_t]; omega
      cases hp : p.core with
      | num i => exact leaf _ (by rw [hp] at nb'; exact Nat.lt_of_lt_of_le nb' (Nat.le_trans pow_up (Nat.pow_le_pow_right (by omega) hb)))
      | truth c => exact leaf _ trivial
      | nil => exact leaf _ trivial
      | name x => exact leaf _ (En.look_ok eo)
      | off q => rw [hp] at sk'; cases sk'.2
      | one w xs q =>
        rw [hp] at sk' nb' cl sb'
        simp only [bgn]
        have cl : q.cl (en.nms ++ xs) = true := cl
        rcases sk'.1.1 with ⟨hw, rfl⟩ | ⟨rfl, x, rfl, _⟩ | ⟨rfl, f, x, rfl, _⟩
        · have hne : ¬ (w = "fn" ∨ w = "rec") := by
            rintro (rfl | rfl) <;> exact absurd hw (by decide)
          rw [if_neg hne]
          rw [List.append_nil] at cl
          exact one q _ (by rw [hp]; rfl) (fun h' xs' q' e' => by rw [hp] at e'; cases e'; exact hw) sk'.1.2 nb' cl sb'.one
        · rw [if_pos (.inl rfl)]
          exact leaf _ ⟨.inl ⟨x, rfl⟩, sk'.1.2, nb', cl, sb'.one, ln, eo⟩
        · rw [if_pos (.inr rfl)]
          exact leaf _ ⟨.inr ⟨f, x, rfl⟩, sk'.1.2, nb', cl, sb'.one, ln, eo⟩
      | two w xs q r =>
        rw [hp] at sk' nb' cl sb'
        have cc : q.cl en.nms = true ∧ r.cl (en.nms ++ xs) = true := by rw [← Bool.and_eq_true]; exact cl
        simp only [bgn]
        have no1 : ∀ h xs q, p.core = .one h xs q → h ∈ ONES := fun _ _ _ e' => by rw [hp] at e'; cases e'
        rcases sk'.1.1 with ⟨hw, rfl⟩ | ⟨rfl, x, rfl, _⟩
        · have hne : ¬ (w = "let") := by
            rintro rfl; exact absurd hw (by decide)
          rw [if_neg hne]
          rw [List.append_nil] at cc
          refine ⟨b, ⟨fun t ht => ?_, vs, ?_, ?_, ?_, hb, nd', lt'⟩, ?_⟩
          · rcases List.mem_cons.mp ht with rfl | ht
            · exact ⟨sk'.1.2.1, nb'.1, cc.1, sb'.two.1, ln, eo⟩
            · rcases List.mem_cons.mp ht with rfl | ht
              · exact ⟨sk'.1.2.2, nb'.2, cc.2, sb'.two.2, ln, eo⟩
              · rcases List.mem_cons.mp ht with rfl | ht
                · exact ⟨sk, nb, by rw [← Pg.core_cl, hp]; simp only [Pg.cl, List.append_nil, cc.1, cc.2, Bool.and_self], sb, ln, eo⟩
                · exact tK t ht
          · show bal _ _
            simp only [bal, hp, early, if_neg hne]
            exact ⟨by omega, fun _ _ _ e' => (by cases e'), by omega, by simpa using bl⟩
          · rw [rdy_f, rdy_f, rdy_t]; simp only; omega
          · simp only [List.length_cons]; omega
          · rw [rdy_f, rdy_f, rdy_t]; omega
        · rw [if_pos rfl]
          exact one q _ (by rw [hp]; rfl) no1 sk'.1.2.1 nb'.1 cc.1 sb'.two.1
      | thr w xs q r s =>
        rw [hp] at sk' nb' cl sb'
        have cl : (q.cl en.nms && r.cl en.nms && s.cl en.nms) = true := cl
        rw [Bool.and_eq_true, Bool.and_eq_true] at cl
        exact one q _ (by rw [hp]; rfl) (fun _ _ _ e' => by rw [hp] at e'; cases e') sk'.1.2.2.1 nb'.1 cl.1.1 sb'.thr.1
  · rename_i p a en K
    have t0 := tk _ List.mem_cons_self
    have tK : ∀ t ∈ K, TkOk R b t := fun t q => tk t (List.mem_cons_of_mem _ q)
    obtain ⟨sk, nb, cl, sb, ln, eo⟩ := t0
    simp only at sk nb cl sb ln eo
    have sk' := Pg.core_sk sk
    have nb' := Pg.core_nb nb
    rw [← Pg.core_cl] at cl
    have sb' := sb.core
    rw [rdy_t] at hC ⊢
    simp only [List.length_cons] at hT
    simp only [bal] at bl
    obtain ⟨e1, e0, e2, bl⟩ := bl
    have tell : ∀ (V : List Vl) (o : Ou) (b' : Nat), fns a en K p.core told = oud a K V o → (∀ v ∈ V, v.ok R b) → V.length + early p.core = told.length → b ≤ b' → 2 * b' ≤ 2 * b + 1 + (early p.core - 1) → (∀ x, o = .v x → x.ok R b') → ∃ b', Wf R C m' b' ∧ 2 * m'.left + rdy m'.todo < 2 * left + (rdy K + 1) := fun V o b' ef hV hl hbb hb2 ho => by
      rw [ef] at e
      cases o with
      | st => cases e
      | em => cases e
      | v x =>
        cases e
        refine ⟨b', ⟨fun t ht => (tK t ht).mono hbb, fun v hv => ?_, ?_, ?_, ?_, by omega, nd, lt⟩, ?_⟩
        · rcases List.mem_cons.mp hv with rfl | hv
          · exact ho _ rfl
          · exact Vl.ok_mono hbb _ (hV v hv)
        · show bal K _
          rw [List.length_cons, show V.length + 1 = told.length - early p.core + 1 by omega]; exact bl
        · simp only [List.length_cons]; omega
        · simp only; omega
        · simp only; omega
    have on : ∀ (V : List Vl) (t : Tk), t.2.2.2 = false → fns a en K p.core told = .inl (t :: K, V) → (∀ v ∈ V, v.ok R b) → V.length + early p.core = told.length → TkOk R (b + 1) t → ∃ b', Wf R C m' b' ∧ 2 * m'.left + rdy m'.todo < 2 * left + (rdy K + 1) := fun V t hf ef hV hl ht => by
      rw [ef] at e
      cases e
      obtain ⟨t1, t2, t3, t4⟩ := t
      simp only at hf
      subst hf
      refine ⟨b + 1, ⟨fun t' ht' => by rcases List.mem_cons.mp ht' with rfl | ht'; exact ht; exact (tK t' ht').mono (by omega), fun v hv => Vl.ok_mono (by omega) _ (hV v hv), ?_, ?_, ?_, by omega, nd, lt⟩, ?_⟩
      · show bal K _
        rw [show V.length + 1 = told.length - early p.core + 1 by omega]; exact bl
      · rw [rdy_f]; simp only; omega
      · simp only [List.length_cons]; omega
      · rw [rdy_f]; simp only; omega
    cases hp : p.core with
    | num i => rw [hp] at e1; simp [early] at e1
    | truth c => rw [hp] at e1; simp [early] at e1
    | nil => rw [hp] at e1; simp [early] at e1
    | name x => rw [hp] at e1; simp [early] at e1
    | off q => rw [hp] at e1; simp [early] at e1
    | one w xs q =>
      rw [hp] at e2 tell
      cases told with
      | nil => simp [early] at e2
      | cons v V =>
        refine tell V (partO w v) b rfl (fun v hv => vs v (List.mem_cons_of_mem _ hv)) rfl (Nat.le_refl _) (by omega) fun x hx => ?_
        have hv := vs v List.mem_cons_self
        unfold partO fstO sndO headO tailO noneO at hx
        split at hx
        · split at hx <;> cases hx <;> first | exact hv.1 | exact hv.2 | exact hv | trivial
        · split at hx
          · split at hx <;> cases hx <;> first | exact hv.1 | exact hv.2 | exact hv | trivial
          · split at hx
            · split at hx <;> cases hx <;> first | exact hv.1 | exact hv.2 | exact hv | trivial
            · split at hx
              · split at hx <;> cases hx <;> first | exact hv.1 | exact hv.2 | exact hv | trivial
              · split at hx <;> cases hx <;> first | exact hv.1 | exact hv.2 | exact hv | trivial
    | two w xs q r =>
      rw [hp] at e2 tell on sk' nb' cl sb'
      have cc : q.cl en.nms = true ∧ r.cl (en.nms ++ xs) = true := by rw [← Bool.and_eq_true]; exact cl
      rcases sk'.1.1 with ⟨hw, rfl⟩ | ⟨rfl, x, rfl, _⟩
      · have hne : ¬ (w = "let") := by
          rintro rfl; exact absurd hw (by decide)
        simp only [early, if_neg hne] at e2 tell on
        match told, e2 with
        | [], e2 => simp at e2
        | [_], e2 => simp at e2
        | y :: x :: V, _ =>
          have hy := vs y List.mem_cons_self
          have hx := vs x (List.mem_cons_of_mem _ List.mem_cons_self)
          have hV : ∀ v ∈ V, v.ok R b := fun v hv => vs v (List.mem_cons_of_mem _ (List.mem_cons_of_mem _ hv))
          by_cases hc : w = "call"
          · subst hc
            cases x with
            | fn xs q' b' e' =>
              obtain ⟨k1, k2, k3, k4, k5, k7, k6⟩ := hx
              obtain ⟨c1, c2, c3⟩ := callE_ok (v := .fn xs q' b' e') k1 ⟨k1, k2, k3, k4, k5, k7, k6⟩ hy k6
              exact on V (q', b', callE xs (.fn xs q' b' e') y e', false) rfl rfl hV rfl ⟨k2, k3, by simp only; rw [c2]; exact k4, k5, by simp only; rw [c2, List.length_append]; omega, En.ok_mono (by omega) _ c1⟩
            | _ => exact tell V .st b rfl hV rfl (Nat.le_refl _) (by omega) (fun x hx => by cases hx)
          · refine tell V (twoO w x y) (b + 1) (by simp only [fns, if_neg hne, if_neg hc]) hV rfl (by omega) (by omega) fun z hz => ?_
            unfold twoO plusO lessO consO at hz
            split at hz
            · split at hz <;> cases hz
              rename_i _ i j _
              have hx : i.natAbs < 2 ^ b := hx
              have hy : j.natAbs < 2 ^ b := hy
              show (i + j).natAbs < 2 ^ (b + 1)
              rw [Nat.pow_succ]; omega
            · split at hz
              · split at hz <;> cases hz; trivial
              · split at hz
                · cases hz; exact ⟨Vl.ok_mono (by omega) _ hx, Vl.ok_mono (by omega) _ hy⟩
                · split at hz <;> cases hz; exact ⟨Vl.ok_mono (by omega) _ hx, Vl.ok_mono (by omega) _ hy⟩
      · simp only [early, if_true] at e2 tell on
        match told, e2 with
        | [], e2 => simp at e2
        | v :: V, _ =>
          have hv := vs v List.mem_cons_self
          exact on V (r, a + 1 + q.pl, .cons x v en, false) rfl rfl (fun v hv => vs v (List.mem_cons_of_mem _ hv)) rfl ⟨sk'.1.2.2, nb'.2, cc.2, sb'.two.2, by simp only [En.nms, List.length_append, List.length_singleton]; omega, Vl.ok_mono (by omega) _ hv, En.ok_mono (by omega) _ eo⟩
    | thr w xs q r s =>
      rw [hp] at e2 tell on sk' nb' cl sb'
      have cl : (q.cl en.nms && r.cl en.nms && s.cl en.nms) = true := cl
      rw [Bool.and_eq_true, Bool.and_eq_true] at cl
      match told, e2 with
      | [], e2 => simp [early] at e2
      | v :: V, _ =>
        have hV : ∀ v ∈ V, v.ok R b := fun v hv => vs v (List.mem_cons_of_mem _ hv)
        cases v with
        | tru c =>
          refine on V (if c then (r, a + 1 + q.pl, en, false) else (s, a + 1 + q.pl + r.pl, en, false)) (by cases c <;> rfl) rfl hV rfl ?_
          cases c
          · exact ⟨sk'.1.2.2.2.2, nb'.2.2, cl.2, sb'.thr.2.2, (show en.nms.length ≤ 2 * (b + 1) by omega), En.ok_mono (by omega) _ eo⟩
          · exact ⟨sk'.1.2.2.2.1, nb'.2.1, cl.1.2, sb'.thr.2.1, (show en.nms.length ≤ 2 * (b + 1) by omega), En.ok_mono (by omega) _ eo⟩
        | _ => exact tell V .st b rfl hV rfl (Nat.le_refl _) (by omega) (fun x hx => by cases hx)
end Prog

namespace Prog
open Ir
/-! ### whether any tuple is a program -/
def tbl : List (String × String) := [("num", "n"), ("truth", "b"), ("name", "x"), ("fn", "xp"), ("rec", "xxp"), ("call", "pp"), ("let", "xpp"), ("if", "ppp"), ("plus", "pp"), ("less", "pp"), ("pair", "pp"), ("first", "p"), ("second", "p"), ("nil", ""), ("cons", "pp"), ("head", "p"), ("tail", "p"), ("none", "p"), ("off", "p")]
def shp (h : String) : Option String := tbl.lookup h
def OTH : List String := ["true", "false", "int", "bool", "list"]
def isNm : D → Bool
  | .str z => decide (1 ≤ z.length) && decide (z.length ≤ 8) && (shp z).isNone && decide (z ∉ OTH) && z.toList.all fun c => decide (c ∈ azS.toList)
  | _ => false
mutual
/-- texts and tuples that are not too long -/
def sm : D → Bool
  | .non | .bool _ | .int _ => true
  | .str s => decide (s.length ≤ 100000)
  | .tup xs => sms xs
  | .lst _ => false
  | .ro _ => false
  | .oid _ => false
  | .fn _ => false
  | .exn _ _ _ => false
def sms : List D → Bool
  | [] => true
  | x :: xs => sm x && sms xs
end
theorem depAll_le {xs : List D} {m : Nat} : D.depAll xs ≤ m ↔ ∀ x ∈ xs, x.dep ≤ m := by
  induction xs with
  | nil => simp [D.depAll]
  | cons y ys ih => simp only [D.depAll, List.mem_cons, forall_eq_or_imp]; rw [← ih]; omega
end Prog

namespace Prog
open Ir
def isTup : D → Bool
  | .tup _ => true
  | _ => false
end Prog

namespace Prog
open Ir
end Prog

namespace Prog
open Ir
end Prog

namespace Prog
open Ir
theorem shp_none {x : String} (h : x ∉ wordsL) : shp x = none ∧ x ∉ OTH := by
  simp only [wordsL, List.mem_cons, List.not_mem_nil, or_false, not_or] at h
  obtain ⟨h1, h2, h3, h4, h5, h6, h7, h8, h9, h10, h11, h12, h13, h14, h15, h16, h17, h18, h19, h20, h21, h22, h23, h24⟩ := h
  constructor
  · have b : ∀ a : String, x ≠ a → (x == a) = false := fun a q => by simpa using q
    simp only [shp, tbl, List.lookup, b _ h1, b _ h2, b _ h3, b _ h4, b _ h5, b _ h6, b _ h7, b _ h8, b _ h9, b _ h10, b _ h11, b _ h12, b _ h13, b _ h14, b _ h15, b _ h16, b _ h17, b _ h18, b _ h19]
  · simp [OTH, h20, h21, h22, h23, h24]
theorem NameOk.isNm {x : String} (h : NameOk x) : isNm (.str x) = true := by
  obtain ⟨h1, h2⟩ := shp_none h.word
  have h3 : (x.toList.all fun c => decide (c ∈ azS.toList)) = true := List.all_eq_true.mpr fun c hc => decide_eq_true (h.az c hc)
  simp only [Prog.isNm, h.pos, h.most, h1, h2, h3]; rfl
theorem it_str (x : String) : isTup (.str x) = false := rfl
theorem Pg.dep_d : ∀ p : Pg, p.d.dep = p.h + 1
  | .num _ | .truth _ | .name _ | .nil => rfl
  | .off p => by have := p.dep_d; simp only [Pg.d, D.dep, D.depAll, Pg.h]; omega
  | .one h xs p => by
    have := p.dep_d
    have hx : D.depAll (xs.map .str ++ [p.d]) = p.d.dep := by
      induction xs with
      | nil => simp [D.depAll]
      | cons x xs ih => simp only [List.map_cons, List.cons_append, D.depAll, D.dep, ih]; omega
    simp only [Pg.d, D.dep, D.depAll, Pg.h, hx]; omega
  | .two h xs p q => by
    have := p.dep_d
    have := q.dep_d
    have hx : D.depAll (xs.map .str ++ [p.d, q.d]) = max p.d.dep q.d.dep := by
      induction xs with
      | nil => simp [D.depAll]
      | cons x xs ih => simp only [List.map_cons, List.cons_append, D.depAll, D.dep, ih]; omega
    simp only [Pg.d, D.dep, D.depAll, Pg.h, hx]; omega
  | .thr h xs p q r => by
    have := p.dep_d
    have := q.dep_d
    have := r.dep_d
    have hx : D.depAll (xs.map .str ++ [p.d, q.d, r.d]) = max p.d.dep (max q.d.dep r.d.dep) := by
      induction xs with
      | nil => simp [D.depAll]
      | cons x xs ih => simp only [List.map_cons, List.cons_append, D.depAll, D.dep, ih]; omega
    simp only [Pg.d, D.dep, D.depAll, Pg.h, hx]; omega
end Prog

namespace Prog
open Ir
/-! ### texts read: the plain model of the reader -/
/-- an open bracket: offs ahead of it, its word, what it bears -/
structure Fr where
  o : Nat
  h : String
  ps : List D
structure Rst where
  pos : Nat
  stk : List Fr
  many : Nat
  deep : Nat
  twice : Bool
def stopC (c : Char) : Bool := c == ' ' || c == '(' || c == ')'
def wordL (cs : List Char) (i : Nat) : List Char := (cs.drop i).takeWhile fun c => !stopC c
def offsL (cs : List Char) (i : Nat) : Nat := ((cs.drop i).takeWhile fun c => c == '?').length
def BAREL : List String := ["num", "truth", "name", "nil", "off"]
/-- the number that a word writes -/
def numR (w : List Char) : Option Int :=
  let f := if w.head? = some '-' then w.tail else w
  if 1 ≤ f.length ∧ f.length ≤ 60 ∧ f.all isDig = true then (if w = ['0'] ∨ f.head? ≠ some '0' then txtInt w else none) else none
def atomR (w : List Char) : Option D :=
  match numR w with
  | some i => some (.tup [.str "num", .int i])
  | none => if w = "true".toList then some (.tup [.str "truth", .bool true]) else if w = "false".toList then some (.tup [.str "truth", .bool false]) else if w = "nil".toList then some (.tup [.str "nil"])
    else if isNm (.str (String.ofList w)) then some (.tup [.str "name", .str (String.ofList w)]) else none
def aroundD (d : D) (o : Nat) : D := if 0 < o then .tup [.str "off", d] else d
/-- all brackets that end behind a part -/
def closedR (cs : List Char) : List Fr → D → Nat → Nat → Nat → Bool → Option (Option D × Rst)
  | [], d, i, m, e, t => if i = cs.length then some (some d, ⟨i, [], m, e, t⟩) else none
  | f :: r, d, i, m, e, t => match cs[i]? with
    | some ' ' => some (none, ⟨i + 1, ⟨f.o, f.h, f.ps ++ [d]⟩ :: r, m, e, t⟩)
    | some ')' => match shp f.h with
      | some sh => if f.ps.length + 1 = sh.length then closedR cs r (aroundD (if e ≤ 30 then .tup (.str f.h :: (f.ps ++ [d])) else .tup [.str "nil"]) f.o) (i + 1) (m + 1) e (t || decide (1 < f.o)) else none
      | none => none
    | _ => none
/-- what must stand here -/
def letterR (s : Rst) : Option Char :=
  match s.stk with
  | [] => some 'p'
  | f :: _ => match shp f.h with
    | some sh => sh.toList[f.ps.length]?
    | none => none
def openedR (cs : List Char) (o : Nat) (s : Rst) : Option Rst :=
  let w := wordL cs (s.pos + 1)
  let i := s.pos + 1 + w.length
  if (shp (String.ofList w)).isSome ∧ String.ofList w ∉ BAREL ∧ cs[i]? = some ' ' then some ⟨i + 1, ⟨o, String.ofList w, []⟩ :: s.stk, s.many, max s.deep (s.stk.length + 1), s.twice⟩ else none
/-- one turn -/
def stepR (cs : List Char) (s : Rst) : Option (Option D × Rst) :=
  match letterR s with
  | none => none
  | some l =>
    let o := offsL cs s.pos
    let i := s.pos + o
    if cs[i]? = some '(' then (if l = 'p' then (openedR cs o { s with pos := i }).map fun s' => (none, s') else none)
    else
      let w := wordL cs i
      let j := i + w.length
      if l = 'p' then (match atomR w with
        | some d => closedR cs s.stk (aroundD d o) j (s.many + 1) (max s.deep (s.stk.length + 1)) (s.twice || decide (1 < o))
        | none => none)
      else if o = 0 ∧ isNm (.str (String.ofList w)) = true then closedR cs s.stk (.str (String.ofList w)) j s.many s.deep s.twice else none
/-- what reading comes to -/
inductive RdRel (cs : List Char) : Rst → Option (D × Rst) → Prop
  | bad {s : Rst} : stepR cs s = none → RdRel cs s none
  | done {s s' : Rst} {d : D} : stepR cs s = some (some d, s') → RdRel cs s (some (d, s'))
  | go {s s' : Rst} {r : Option (D × Rst)} : stepR cs s = some (none, s') → RdRel cs s' r → RdRel cs s r
end Prog

namespace Prog
open Ir
/-! ### a while, one turn more -/
/-! ### the arena at a store's head -/
@[simp] theorem getO_ar (os : List Obj) (tl : Store) (n : Nat) : getO (.arena os :: tl) (.d (.oid n)) = (os[n]?).map fun o => (n, o) := rfl
@[simp] theorem putO_ar (os : List Obj) (tl : Store) (n : Nat) (o : Obj) : putO (.arena os :: tl) n o = .arena (os.set n o) :: tl := rfl
@[simp] theorem pushO_ar (os : List Obj) (tl : Store) (o : Obj) : pushO (.arena os :: tl) o = .ok (.d (.oid os.length)) (.arena (os ++ [o]) :: tl) := rfl
/-! ### texts -/
end Prog

namespace Prog
open Ir
theorem eq_of_wp {α : Type} {r : Res α} {a : α} {s : Store} (h : @Wp _ r ⟨fun a' s' => a' = a ∧ s' = s⟩) : r = .ok a s := by
  obtain ⟨a', s', e, rfl, rfl⟩ := wp_iff.mp h
  exact e
/-- a reader -/
abbrev rdO (z : String) (a fr m e : Nat) (t : Bool) : Obj := .inst "Reader" [("text", .str z), ("at", .int a), ("frames", .oid fr), ("many", .int m), ("deep", .int e), ("twice", .bool t)]
theorem fldV_ar (os : List Obj) (tl : Store) (r : Nat) (c f : String) : fldV (.arena os :: tl) (.d (.oid r)) c f = match os[r]? with | some (.inst c' fs) => if c' = c then lookF f fs else none | _ => none := by
  simp only [fldV, getO_ar]
  cases os[r]? with
  | none => rfl
  | some o => cases o <;> rfl
theorem setFV_ar (os : List Obj) (tl : Store) (r : Nat) (c f : String) (x : D) : setFV (.arena os :: tl) (.d (.oid r)) c f x = match os[r]? with | some (.inst c' fs) => if c' = c ∧ fs.length < 1000 then some (.arena (os.set r (.inst c (putFd f x fs))) :: tl) else none | _ => none := by
  simp only [setFV, getO_ar]
  cases os[r]? with
  | none => rfl
  | some o => cases o <;> rfl
theorem lt_of_get {α : Type} {xs : List α} {i : Nat} {x : α} (h : xs[i]? = some x) : i < xs.length := (List.getElem?_eq_some_iff.mp h).1
end Prog

namespace Prog
open Ir
theorem app_end {st : Store} {xs : List D} {x : D} (h : xs.length < 1000000) : mAppend st.length (st ++ [.lst xs]) [.d x] = .ok (.d .non) (st ++ [.lst (xs ++ [x])]) := by
  have : xs.length < LIM := by rw [LIM_eq]; omega
  simp [mAppend, this]
/-! ### places numbered -/
def Pg.ndD : Pg → Nat → D
  | .num i, a => .tup [.int a, .str "num", .lst [.int i], .lst []]
  | .truth b, a => .tup [.int a, .str "truth", .lst [.bool b], .lst []]
  | .name x, a => .tup [.int a, .str "name", .lst [.str x], .lst []]
  | .nil, a => .tup [.int a, .str "nil", .lst [], .lst []]
  | .off p, a => p.ndD a
  | .one h xs p, a => .tup [.int a, .str h, .lst (xs.map .str), .lst [p.ndD (a + 1)]]
  | .two h xs p q, a => .tup [.int a, .str h, .lst (xs.map .str), .lst [p.ndD (a + 1), q.ndD (a + 1 + p.pl)]]
  | .thr h xs p q r, a => .tup [.int a, .str h, .lst (xs.map .str), .lst [p.ndD (a + 1), q.ndD (a + 1 + p.pl), r.ndD (a + 1 + p.pl + q.pl)]]
theorem Pg.core_nd : ∀ (p : Pg) (a : Nat), p.core.ndD a = p.ndD a
  | .off p, a => by simp only [Pg.core, Pg.ndD]; exact p.core_nd a
  | .num _, _ | .truth _, _ | .name _, _ | .nil, _ | .one _ _ _, _ | .two _ _ _ _, _ | .thr _ _ _ _ _, _ => rfl
set_option maxHeartbeats 4000000 in
theorem numbered_ok : ∀ (p : Pg), p.sk → ∀ (n a : Nat) (st : Store), p.h + 1 ≤ n → callN T n "numbered" [.d p.d, .d (.int a)] st = .ok (.d (.tup [p.ndD a, .int (a + p.pl : Nat)])) st
  | .num _, _, n + 1, a, st, _ | .truth _, _, n + 1, a, st, _ | .name _, _, n + 1, a, st, _ | .nil, _, n + 1, a, st, _ => by
    apply eq_of_wp
    rw [callN_run T_f_numbered]
    simp [Tg.putV, Tg.put, Tg.puts, Tg.putF_eq, setAll, Tg.slots, Tg.slotss, wipe, indexV, D.index, atI, ixN, cmpV, deref, asB, asD, asDs, asI, bltV, lenDic, bltD, derefs, D.blt, D.bLen, D.bTuple, D.bList, D.seq, mthV, mthOk, setV, ci_eq, ci_ne, ci_lt, ci_le, ci_gt, ci_ge, cs_eq, cs_ne, cb_eq, cb_ne, D.bin, D.slice, cut, sIx, isNon, f_numbered, runFn, Pg.d, inB, D.mem, flat, D.eqv, kddV, List.lookup, app_end, Pg.ndD, Pg.pl, leave]
  | .off p, sk, n + 1, a, st, hn => by
    have ih := fun st => numbered_ok p sk.1 n a st (by simp only [Pg.h] at hn; omega)
    apply eq_of_wp
    rw [callN_run T_f_numbered]
    simp [Tg.putV, Tg.put, Tg.puts, Tg.putF_eq, setAll, Tg.slots, Tg.slotss, wipe, indexV, D.index, atI, ixN, cmpV, deref, asB, asD, asDs, asI, bltV, lenDic, bltD, derefs, D.blt, D.bLen, D.bTuple, D.bList, D.seq, mthV, mthOk, setV, ci_eq, ci_ne, ci_lt, ci_le, ci_gt, ci_ge, cs_eq, cs_ne, cb_eq, cb_ne, D.bin, D.slice, cut, sIx, isNon, f_numbered, runFn, Pg.d, inB, D.mem, flat, D.eqv, kddV, List.lookup, app_end, ih, Pg.ndD, Pg.pl, leave]
  | .one h xs p, sk, n + 1, a, st, hn => by
    have ih := fun st => numbered_ok p sk.2 n (a + 1) st (by simp only [Pg.h] at hn; omega)
    have c1 : ((a + 1 : Nat) : Int) = (a : Int) + 1 := by omega
    rw [c1] at ih
    have c2 : (a : Int) + 1 + p.pl = a + (p.pl + 1) := by omega
    apply eq_of_wp
    rw [callN_run T_f_numbered]
    rcases sk.1 with ⟨hw, rfl⟩ | ⟨rfl, x, rfl, _⟩ | ⟨rfl, f, x, rfl, _⟩
    · simp only [ONES, List.mem_cons, List.not_mem_nil, or_false] at hw
      rcases hw with rfl | rfl | rfl | rfl | rfl <;> simp [Tg.putV, Tg.put, Tg.puts, Tg.putF_eq, setAll, Tg.slots, Tg.slotss, wipe, indexV, D.index, atI, ixN, cmpV, deref, asB, asD, asDs, asI, bltV, lenDic, bltD, derefs, D.blt, D.bLen, D.bTuple, D.bList, D.seq, mthV, mthOk, setV, ci_eq, ci_ne, ci_lt, ci_le, ci_gt, ci_ge, cs_eq, cs_ne, cb_eq, cb_ne, D.bin, D.slice, cut, sIx, isNon, f_numbered, f_numbered_b0, runFn, Pg.d, loopL, kdV, ih, Pg.ndD, Pg.pl, inB, D.mem, flat, D.eqv, kddV, List.lookup, app_end, leave, c2]
    · simp [Tg.putV, Tg.put, Tg.puts, Tg.putF_eq, setAll, Tg.slots, Tg.slotss, wipe, indexV, D.index, atI, ixN, cmpV, deref, asB, asD, asDs, asI, bltV, lenDic, bltD, derefs, D.blt, D.bLen, D.bTuple, D.bList, D.seq, mthV, mthOk, setV, ci_eq, ci_ne, ci_lt, ci_le, ci_gt, ci_ge, cs_eq, cs_ne, cb_eq, cb_ne, D.bin, D.slice, cut, sIx, isNon, f_numbered, f_numbered_b0, runFn, Pg.d, loopL, kdV, ih, Pg.ndD, Pg.pl, inB, D.mem, flat, D.eqv, kddV, List.lookup, app_end, leave, c2]
    · simp [Tg.putV, Tg.put, Tg.puts, Tg.putF_eq, setAll, Tg.slots, Tg.slotss, wipe, indexV, D.index, atI, ixN, cmpV, deref, asB, asD, asDs, asI, bltV, lenDic, bltD, derefs, D.blt, D.bLen, D.bTuple, D.bList, D.seq, mthV, mthOk, setV, ci_eq, ci_ne, ci_lt, ci_le, ci_gt, ci_ge, cs_eq, cs_ne, cb_eq, cb_ne, D.bin, D.slice, cut, sIx, isNon, f_numbered, f_numbered_b0, runFn, Pg.d, loopL, kdV, ih, Pg.ndD, Pg.pl, inB, D.mem, flat, D.eqv, kddV, List.lookup, app_end, leave, c2]
  | .two h xs p q, sk, n + 1, a, st, hn => by
    have ih := fun st => numbered_ok p sk.2.1 n (a + 1) st (by simp only [Pg.h] at hn; omega)
    have ih2 := fun st => numbered_ok q sk.2.2 n (a + 1 + p.pl) st (by simp only [Pg.h] at hn; omega)
    have c1 : ((a + 1 : Nat) : Int) = (a : Int) + 1 := by omega
    have c2 : ((a + 1 + p.pl : Nat) : Int) = (a : Int) + 1 + p.pl := by omega
    have c3 : (a : Int) + 1 + p.pl + q.pl = a + (p.pl + q.pl + 1) := by omega
    simp only [c1] at ih
    simp only [c2] at ih ih2
    apply eq_of_wp
    rw [callN_run T_f_numbered]
    rcases sk.1 with ⟨hw, rfl⟩ | ⟨rfl, x, rfl, _⟩
    · simp only [TWOS, List.mem_cons, List.not_mem_nil, or_false] at hw
      rcases hw with rfl | rfl | rfl | rfl | rfl <;> simp [Tg.putV, Tg.put, Tg.puts, Tg.putF_eq, setAll, Tg.slots, Tg.slotss, wipe, indexV, D.index, atI, ixN, cmpV, deref, asB, asD, asDs, asI, bltV, lenDic, bltD, derefs, D.blt, D.bLen, D.bTuple, D.bList, D.seq, mthV, mthOk, setV, ci_eq, ci_ne, ci_lt, ci_le, ci_gt, ci_ge, cs_eq, cs_ne, cb_eq, cb_ne, D.bin, D.slice, cut, sIx, isNon, f_numbered, f_numbered_b0, runFn, Pg.d, loopL, kdV, ih, ih2, Pg.ndD, Pg.pl, inB, D.mem, flat, D.eqv, kddV, List.lookup, app_end, leave, c3]
    · simp [Tg.putV, Tg.put, Tg.puts, Tg.putF_eq, setAll, Tg.slots, Tg.slotss, wipe, indexV, D.index, atI, ixN, cmpV, deref, asB, asD, asDs, asI, bltV, lenDic, bltD, derefs, D.blt, D.bLen, D.bTuple, D.bList, D.seq, mthV, mthOk, setV, ci_eq, ci_ne, ci_lt, ci_le, ci_gt, ci_ge, cs_eq, cs_ne, cb_eq, cb_ne, D.bin, D.slice, cut, sIx, isNon, f_numbered, f_numbered_b0, runFn, Pg.d, loopL, kdV, ih, ih2, Pg.ndD, Pg.pl, inB, D.mem, flat, D.eqv, kddV, List.lookup, app_end, leave, c3]
  | .thr h xs p q r, ⟨hh, hx, k1, k2, k3⟩, n + 1, a, st, hn => by
    subst hh
    subst hx
    have ih := fun st => numbered_ok p k1 n (a + 1) st (by simp only [Pg.h] at hn; omega)
    have ih2 := fun st => numbered_ok q k2 n (a + 1 + p.pl) st (by simp only [Pg.h] at hn; omega)
    have ih3 := fun st => numbered_ok r k3 n (a + 1 + p.pl + q.pl) st (by simp only [Pg.h] at hn; omega)
    have c1 : ((a + 1 : Nat) : Int) = (a : Int) + 1 := by omega
    have c2 : ((a + 1 + p.pl : Nat) : Int) = (a : Int) + 1 + p.pl := by omega
    have c3 : ((a + 1 + p.pl + q.pl : Nat) : Int) = (a : Int) + 1 + p.pl + q.pl := by omega
    have c4 : (a : Int) + 1 + p.pl + q.pl + r.pl = a + (p.pl + q.pl + r.pl + 1) := by omega
    simp only [c1] at ih
    simp only [c2] at ih ih2
    simp only [c3] at ih2 ih3
    apply eq_of_wp
    rw [callN_run T_f_numbered]
    simp [Tg.putV, Tg.put, Tg.puts, Tg.putF_eq, setAll, Tg.slots, Tg.slotss, wipe, indexV, D.index, atI, ixN, cmpV, deref, asB, asD, asDs, asI, bltV, lenDic, bltD, derefs, D.blt, D.bLen, D.bTuple, D.bList, D.seq, mthV, mthOk, setV, ci_eq, ci_ne, ci_lt, ci_le, ci_gt, ci_ge, cs_eq, cs_ne, cb_eq, cb_ne, D.bin, D.slice, cut, sIx, isNon, f_numbered, f_numbered_b0, runFn, Pg.d, loopL, kdV, ih, ih2, ih3, Pg.ndD, Pg.pl, inB, D.mem, flat, D.eqv, kddV, List.lookup, app_end, leave, c4]
end Prog

namespace Prog
open Ir
/-! ### the runner and its three things, last in the arena -/
abbrev rnO (n : Nat) (l : Int) : Obj := .inst "Runner" [("tasks", .oid (n + 1)), ("told", .oid (n + 2)), ("begun", .oid (n + 3)), ("left", .int l)]
def rnA (os : List Obj) (l : Int) (ts vs : List D) (ks : List (D × D)) : List Obj := os ++ [rnO os.length l, .lst ts, .lst vs, .dic ks]
abbrev rnS (os : List Obj) (tl : Store) (l : Int) (ts vs : List D) (ks : List (D × D)) : Store := .arena (rnA os l ts vs ks) :: tl
section
variable {os : List Obj} {tl : Store} {l : Int} {ts vs : List D} {ks : List (D × D)}
theorem rn0 : (rnA os l ts vs ks)[os.length]? = some (rnO os.length l) := by simp [rnA]
theorem rn1 : (rnA os l ts vs ks)[os.length + 1]? = some (.lst ts) := by rw [rnA, List.getElem?_append_right (by omega)]; simp
theorem rn2 : (rnA os l ts vs ks)[os.length + 2]? = some (.lst vs) := by rw [rnA, List.getElem?_append_right (by omega)]; simp
theorem rn3 : (rnA os l ts vs ks)[os.length + 3]? = some (.dic ks) := by rw [rnA, List.getElem?_append_right (by omega)]; simp
theorem rs0 {l' : Int} : (rnA os l ts vs ks).set os.length (rnO os.length l') = rnA os l' ts vs ks := by simp [rnA, List.set_append]
theorem rs1 {ts' : List D} : (rnA os l ts vs ks).set (os.length + 1) (.lst ts') = rnA os l ts' vs ks := by simp [rnA, List.set_append]
theorem rs2 {vs' : List D} : (rnA os l ts vs ks).set (os.length + 2) (.lst vs') = rnA os l ts vs' ks := by simp [rnA, List.set_append]
theorem rs3 {ks' : List (D × D)} : (rnA os l ts vs ks).set (os.length + 3) (.dic ks') = rnA os l ts vs ks' := by simp [rnA, List.set_append]
theorem fT : fldV (rnS os tl l ts vs ks) (.d (.oid os.length)) "Runner" "tasks" = some (.oid (os.length + 1)) := by rw [fldV_ar, rn0]; rfl
theorem fV : fldV (rnS os tl l ts vs ks) (.d (.oid os.length)) "Runner" "told" = some (.oid (os.length + 2)) := by rw [fldV_ar, rn0]; rfl
theorem fB : fldV (rnS os tl l ts vs ks) (.d (.oid os.length)) "Runner" "begun" = some (.oid (os.length + 3)) := by rw [fldV_ar, rn0]; rfl
theorem fL : fldV (rnS os tl l ts vs ks) (.d (.oid os.length)) "Runner" "left" = some (.int l) := by rw [fldV_ar, rn0]; rfl
theorem sL {i : Int} : setFV (rnS os tl l ts vs ks) (.d (.oid os.length)) "Runner" "left" (.int i) = some (rnS os tl i ts vs ks) := by
  rw [setFV_ar, rn0]
  simp only [putFd, List.length_cons, List.length_nil, true_and]
  rw [if_pos (by decide)]
  exact congrArg some (congrArg (fun a => Cell.arena a :: tl) rs0)
theorem popT {x : D} : omV .pop (rnS os tl l (ts ++ [x]) vs ks) (.d (.oid (os.length + 1))) [] = .ok (.d x) (rnS os tl l ts vs ks) := by
  simp only [omV, getO_ar, rn1, Option.map_some, putO_ar]
  rw [List.length_append, List.length_singleton, Nat.add_sub_cancel, List.getElem?_append_right (Nat.le_refl _), Nat.sub_self]
  simp only [List.getElem?_cons_zero, List.dropLast_concat, rs1]
theorem popV {x : D} : omV .pop (rnS os tl l ts (vs ++ [x]) ks) (.d (.oid (os.length + 2))) [] = .ok (.d x) (rnS os tl l ts vs ks) := by
  simp only [omV, getO_ar, rn2, Option.map_some, putO_ar]
  rw [List.length_append, List.length_singleton, Nat.add_sub_cancel, List.getElem?_append_right (Nat.le_refl _), Nat.sub_self]
  simp only [List.getElem?_cons_zero, List.dropLast_concat, rs2]
theorem pushT {x : D} (h : ts.length < 100000) : omV .append (rnS os tl l ts vs ks) (.d (.oid (os.length + 1))) [.d x] = .ok (.d .non) (rnS os tl l (ts ++ [x]) vs ks) := by
  simp only [omV, getO_ar, rn1, Option.map_some, putO_ar]
  rw [if_pos (by rw [LIM_eq]; omega), rs1]
theorem pushV {x : D} (h : vs.length < 100000) : omV .append (rnS os tl l ts vs ks) (.d (.oid (os.length + 2))) [.d x] = .ok (.d .non) (rnS os tl l ts (vs ++ [x]) ks) := by
  simp only [omV, getO_ar, rn2, Option.map_some, putO_ar]
  rw [if_pos (by rw [LIM_eq]; omega), rs2]
theorem extT {ys : List D} (h : ts.length < 100000) (h2 : ys.length < 100000) : omV .extend (rnS os tl l ts vs ks) (.d (.oid (os.length + 1))) [.d (.lst ys)] = .ok (.d .non) (rnS os tl l (ts ++ ys) vs ks) := by
  simp only [omV, getO_ar, rn1, Option.map_some, putO_ar]
  rw [if_pos (by rw [LIM_eq]; omega), rs1]
theorem okT : omOk (rnS os tl l ts vs ks) (.d (.oid (os.length + 1))) = true := by simp only [omOk, getO_ar, rn1, Option.map_some]
theorem okV : omOk (rnS os tl l ts vs ks) (.d (.oid (os.length + 2))) = true := by simp only [omOk, getO_ar, rn2, Option.map_some]
theorem setB {i : Int} (h : ks.length < 100000) : setOV (rnS os tl l ts vs ks) (.d (.oid (os.length + 3))) (.d (.int i)) (.bool true) = some (rnS os tl l ts vs (putK ks (.int i) (.bool true))) := by
  simp only [setOV, getO_ar, rn3, Option.map_some, putO_ar, D.key, Bool.true_and]
  rw [if_pos (by rw [LIM_eq, decide_eq_true_eq]; omega), rs3]
theorem nnT : oqV .notnil (rnS os tl l ts vs ks) (.d (.oid (os.length + 1))) [] = some (.bool (!ts.isEmpty)) := by simp only [oqV, getO_ar, rn1, Option.map_some]
theorem mOk {m : String} (h : lookF m [("tasks", .non), ("told", .non), ("begun", .non), ("left", .non)] = none) : methOk (rnS os tl l ts vs ks) (.d (.oid os.length)) "Runner" m = true := by
  have : ∀ a b c d : D, (lookF m [("tasks", a), ("told", b), ("begun", c), ("left", d)]) = none := fun a b c d => by
    by_cases h1 : m = "tasks"
    · simp [lookF, h1] at h
    by_cases h2 : m = "told"
    · simp [lookF, h2] at h
    by_cases h3 : m = "begun"
    · simp [lookF, h3] at h
    by_cases h4 : m = "left"
    · simp [lookF, h4] at h
    simp [lookF, h1, h2, h3, h4]
  simp only [methOk, getO_ar, rn0, Option.map_some, this, Option.isNone_none, decide_true, Bool.and_true]
end
/-! ### values and names as the program has them -/
mutual
def Vl.dP : Vl → D
  | .num i => .tup [.str "num", .int i]
  | .tru b => .tup [.str "truth", .bool b]
  | .nil => .tup [.str "nil"]
  | .pr c x y => .tup [.str (pw c), x.dP, y.dP, .int (1 + x.sz + y.sz : Nat)]
  | .fn xs p a e => .tup [.str "fn", .lst (xs.map .str), p.ndD a, e.dP]
def En.dP : En → D
  | .nil => .non
  | .cons x v e => .tup [.str x, v.dP, e.dP]
end
def tkD (t : Tk) : D := .tup [t.1.ndD t.2.1, t.2.2.1.dP, .bool t.2.2.2]
/-- the machine's state as the program has it -/
abbrev tsD (K : List Tk) : List D := (K.map tkD).reverse
abbrev vsD (V : List Vl) : List D := (V.map Vl.dP).reverse
abbrev ksD (b : List Nat) : List (D × D) := b.map fun k : Nat => (D.int (k : Int), D.bool true)
theorem putK_ks (b : List Nat) (a : Nat) : putK (ksD b) (.int a) (.bool true) = ksD (addK b a) := by
  have h1 : ((ksD b).any fun p => p.1.eqv (.int a)) = decide (a ∈ b) := by
    rw [Bool.eq_iff_iff]
    simp only [ksD, List.any_map, List.any_eq_true, decide_eq_true_eq]
    constructor
    · rintro ⟨k, hk, e⟩
      have : k = a := by simp [D.eqv] at e; omega
      rw [← this]; exact hk
    · intro h; exact ⟨a, h, by simp [D.eqv]⟩
  unfold putK addK
  rw [h1]
  by_cases h : a ∈ b
  · rw [if_pos h]
    simp only [h, decide_true, if_true, ksD, List.map_map]
    refine List.map_congr_left fun k _ => ?_
    simp only [Function.comp]
    split <;> rfl
  · rw [if_neg h]
    simp [h, ksD]
end Prog

namespace Prog
open Ir
theorem exc_of_wpx {α : Type} {r : Res α} {c : String} {as : List (String × D)} {s : Store} (h : @WpX _ r ⟨fun _ _ => False, fun c' as' s' => c' = c ∧ as' = as ∧ s' = s⟩) : r = .exc c as s := by
  rcases wx_iff.mp h with ⟨_, _, _, h⟩ | ⟨c', as', s', e, rfl, rfl, rfl⟩
  · exact h.elim
  · exact e
/-- a frame's list -/
abbrev frL (f : Fr) : Obj := .lst (.int f.o :: .str f.h :: f.ps)
inductive Frs (os : List Obj) : List Nat → List Fr → Prop
  | nil : Frs os [] []
  | cons {i : Nat} {f : Fr} {is : List Nat} {fs : List Fr} : os[i]? = some (frL f) → Frs os is fs → Frs os (i :: is) (f :: fs)
/-- the arena bears the reader's state -/
structure Rep (z : String) (os : List Obj) (r : Nat) (s : Rst) (fr : Nat) (ids : List Nat) : Prop where
  hr : os[r]? = some (rdO z s.pos fr s.many s.deep s.twice)
  hf : os[fr]? = some (.lst (ids.reverse.map fun i => D.oid i))
  rf : r < fr
  fi : ∀ i ∈ ids, fr < i
  nd : ids.Nodup
  fs : Frs os ids s.stk
  hs : ∀ f ∈ s.stk, (shp f.h).isSome
  pl : ∀ f ∈ s.stk, f.ps.length ≤ s.pos
  sl : s.stk.length ≤ s.pos
  hp : s.pos ≤ z.toList.length
end Prog

namespace Prog
open Ir
/-- what lies below r is kept -/
structure Kept (os os' : List Obj) (r : Nat) : Prop where
  len : os.length ≤ os'.length
  get : ∀ i, i < r → os'[i]? = os[i]?
theorem Kept.refl (os : List Obj) (r : Nat) : Kept os os r := ⟨Nat.le_refl _, fun _ _ => rfl⟩
theorem Kept.trans {a b c : List Obj} {r : Nat} (h : Kept a b r) (k : Kept b c r) : Kept a c r := ⟨Nat.le_trans h.len k.len, fun i hi => by rw [k.get i hi, h.get i hi]⟩
theorem Kept.set {a b : List Obj} {r i : Nat} {o : Obj} (h : Kept a b r) (hi : r ≤ i) : Kept a (b.set i o) r := ⟨by rw [List.length_set]; exact h.len, fun j hj => by rw [List.getElem?_set_ne (by omega)]; exact h.get j hj⟩
theorem Kept.push {a b : List Obj} {r : Nat} {o : Obj} (h : Kept a b r) (hr : r ≤ a.length) : Kept a (b ++ [o]) r := ⟨by have := h.len; simp; omega, fun j hj => by rw [List.getElem?_append_left (by have := h.len; omega)]; exact h.get j hj⟩
theorem Frs.set {os : List Obj} {i : Nat} {o : Obj} : ∀ {ids : List Nat} {fs : List Fr}, Frs os ids fs → i ∉ ids → Frs (os.set i o) ids fs
  | _, _, .nil, _ => .nil
  | _, _, .cons h k, hn => .cons (by rw [List.getElem?_set_ne (by simp at hn; exact hn.1)]; exact h) (k.set (by simp at hn; exact hn.2))
theorem Frs.push {os : List Obj} {o : Obj} : ∀ {ids : List Nat} {fs : List Fr}, Frs os ids fs → Frs (os ++ [o]) ids fs
  | _, _, .nil => .nil
  | _, _, .cons h k => .cons (by rw [List.getElem?_append_left (lt_of_get h)]; exact h) k.push
theorem Frs.lt {os : List Obj} : ∀ {ids : List Nat} {fs : List Fr}, Frs os ids fs → ∀ i ∈ ids, i < os.length
  | _, _, .nil, _, hi => by cases hi
  | _, _, .cons h k, i, hi => by
    rcases List.mem_cons.mp hi with rfl | hi
    · exact lt_of_get h
    · exact k.lt i hi
theorem Frs.length {os : List Obj} : ∀ {ids : List Nat} {fs : List Fr}, Frs os ids fs → ids.length = fs.length
  | _, _, .nil => rfl
  | _, _, .cons _ k => by simp [k.length]
end Prog

namespace Prog
open Ir
def Fin'.d : Fin' → D
  | .far => .tup [.str "far"]
  | .stuck a => .tup [.str "stuck", .int a]
  | .empt a => .tup [.str "empty", .int a]
  | .val _ => .non
/-- what a method comes to -/
def Rs (run : Res Val) (os : List Obj) (tl : Store) (l : Int) (ks : List (D × D)) (r : (List Tk × List Vl) ⊕ Fin') : Prop :=
  match r with
  | .inl (t, v) => run = .ok (.d .non) (rnS os tl l (tsD t) (vsD v) ks)
  | .inr f => ∃ ts vs, run = .exc "Ended" [("end", f.d)] (rnS os tl l ts vs ks)
def Vl.wd : Vl → String
  | .num _ => "num"
  | .tru _ => "truth"
  | .nil => "nil"
  | .pr c _ _ => pw c
  | .fn _ _ _ _ => "fn"
theorem Vl.ix0 (v : Vl) : D.index v.dP (.int 0) = some (.str v.wd) := by
  cases v <;> simp [Vl.dP, D.index, atI, ixN, Vl.wd]
theorem Vl.wd_num {v : Vl} : v.wd = "num" ↔ ∃ i, v = .num i := by
  cases v <;> simp [Vl.wd]
  rename_i c _ _; cases c <;> simp [pw]
theorem plus_st {x y : Vl} (h : ¬ (x.wd = "num" ∧ y.wd = "num")) : plusO x y = .st ∧ lessO x y = .st := by
  rw [Vl.wd_num, Vl.wd_num] at h
  cases x <;> cases y <;> first | exact ⟨rfl, rfl⟩ | (exact absurd ⟨⟨_, rfl⟩, ⟨_, rfl⟩⟩ h)
section
variable {os : List Obj} {tl : Store} {l : Int} {ts vs : List D} {ks : List (D × D)} {n : Nat}
theorem vs2 (V : List Vl) (x y : Vl) : vsD (y :: x :: V) = vsD V ++ [x.dP] ++ [y.dP] := by simp [vsD]
theorem vs1 (V : List Vl) (x : Vl) : vsD (x :: V) = vsD V ++ [x.dP] := by simp [vsD]
set_option maxHeartbeats 2000000 in
theorem numbers_ok {a : Nat} {h : String} (hh : h = "plus" ∨ h = "less") (K : List Tk) (V : List Vl) (x y : Vl) (hV : V.length < 10000) :
    Rs (callN T (n + 1) "Runner.numbers" [.d (.oid os.length), .d (.int a), .d (.str h)] (rnS os tl l (tsD K) (vsD (y :: x :: V)) ks)) os tl l ks (oud a K V (twoO h x y)) := by
  rw [vs2]
  have hl : (vsD V).length < 100000 := by simp [vsD]; omega
  by_cases hc : x.wd = "num" ∧ y.wd = "num"
  · obtain ⟨i, rfl⟩ := Vl.wd_num.mp hc.1
    obtain ⟨j, rfl⟩ := Vl.wd_num.mp hc.2
    rcases hh with rfl | rfl
    · show _ = _
      rw [vs1]
      apply eq_of_wp
      rw [callN_run T_f_Runner_numbers]
      simp [-List.append_assoc, Tg.putV, Tg.put, Tg.puts, Tg.putF_eq, setAll, Tg.slots, Tg.slotss, wipe, indexV, D.index, atI, ixN, cmpV, deref, asB, asD, asDs, asI, bltV, lenDic, bltD, derefs, D.blt, D.bLen, D.bTuple, D.bList, D.seq, mthV, mthOk, setV, ci_eq, ci_ne, ci_lt, ci_le, ci_gt, ci_ge, cs_eq, cs_ne, cb_eq, cb_ne, D.bin, D.slice, cut, sIx, isNon, f_Runner_numbers, runFn, fV, popV, okV, pushV hl, Vl.dP, leave]
    · show _ = _
      rw [vs1]
      apply eq_of_wp
      rw [callN_run T_f_Runner_numbers]
      simp [-List.append_assoc, Tg.putV, Tg.put, Tg.puts, Tg.putF_eq, setAll, Tg.slots, Tg.slotss, wipe, indexV, D.index, atI, ixN, cmpV, deref, asB, asD, asDs, asI, bltV, lenDic, bltD, derefs, D.blt, D.bLen, D.bTuple, D.bList, D.seq, mthV, mthOk, setV, ci_eq, ci_ne, ci_lt, ci_le, ci_gt, ci_ge, cs_eq, cs_ne, cb_eq, cb_ne, D.bin, D.slice, cut, sIx, isNon, f_Runner_numbers, runFn, fV, popV, okV, pushV hl, Vl.dP, leave]
  · have e : twoO h x y = .st := by
      rcases hh with rfl | rfl
      · exact (plus_st hc).1
      · exact (plus_st hc).2
    rw [e]
    refine ⟨tsD K, vsD V, ?_⟩
    apply exc_of_wpx
    rw [callN_run T_f_Runner_numbers]
    by_cases c1 : x.wd = "num"
    · have c2 : ¬ y.wd = "num" := fun q => hc ⟨c1, q⟩
      simp [-List.append_assoc, Tg.putV, Tg.put, Tg.puts, Tg.putF_eq, setAll, Tg.slots, Tg.slotss, wipe, indexV, cmpV, deref, asB, asD, asDs, asI, bltV, lenDic, bltD, derefs, D.blt, D.bLen, D.bTuple, D.bList, D.seq, mthV, mthOk, setV, ci_eq, ci_ne, ci_lt, ci_le, ci_gt, ci_ge, cs_eq, cs_ne, cb_eq, cb_ne, D.bin, isNon, f_Runner_numbers, runFn, fV, popV, okV, Vl.ix0, c1, c2, leave, Fin'.d]
    · simp [-List.append_assoc, Tg.putV, Tg.put, Tg.puts, Tg.putF_eq, setAll, Tg.slots, Tg.slotss, wipe, indexV, cmpV, deref, asB, asD, asDs, asI, bltV, lenDic, bltD, derefs, D.blt, D.bLen, D.bTuple, D.bList, D.seq, mthV, mthOk, setV, ci_eq, ci_ne, ci_lt, ci_le, ci_gt, ci_ge, cs_eq, cs_ne, cb_eq, cb_ne, D.bin, isNon, f_Runner_numbers, runFn, fV, popV, okV, Vl.ix0, c1, leave, Fin'.d]
theorem list_wd {v : Vl} : v.isList = decide (v.wd = "nil" ∨ v.wd = "cons") := by
  cases v <;> simp [Vl.isList, Vl.wd]
  rename_i c _ _; cases c <;> simp [pw, Vl.isList]
theorem is_list_ok (v : Vl) (st : Store) : callN T (n + 1) "is_list" [.d v.dP] st = .ok (.d (.bool v.isList)) st := by
  apply eq_of_wp
  rw [callN_run T_f_is_list, list_wd]
  generalize hw : v.wd = w
  have h0 := v.ix0
  rw [hw] at h0
  have h1 : inB st (.d (.str w)) (.d (.tup [.str "nil", .str "cons"])) = some (decide (w = "nil" ∨ w = "cons")) := by
    simp only [inB, D.mem, flat, List.all_cons, List.all_nil, Bool.and_true, if_true, List.any_cons, List.any_nil, D.eqv]
    congr 1
    by_cases h1 : w = "nil" <;> by_cases h2 : w = "cons" <;> simp [h1, h2, eq_comm]
  simp [Tg.putV, Tg.put, Tg.puts, Tg.putF_eq, setAll, Tg.slots, Tg.slotss, wipe, indexV, cmpV, deref, asB, asD, asDs, asI, bltV, lenDic, bltD, derefs, D.blt, D.bLen, D.bTuple, D.bList, D.seq, mthV, mthOk, setV, ci_eq, ci_ne, ci_lt, ci_le, ci_gt, ci_ge, cs_eq, cs_ne, cb_eq, cb_ne, D.bin, isNon, f_is_list, runFn, h0, h1, leave]
theorem size_wd (v : Vl) : (v.wd = "pair" ∨ v.wd = "cons") → D.index v.dP (.int 3) = some (.int v.sz) := by
  intro h
  cases v <;> simp [Vl.wd] at h
  simp [Vl.dP, D.index, atI, ixN, Vl.sz]
theorem size_wd' (v : Vl) : ¬ (v.wd = "pair" ∨ v.wd = "cons") → v.sz = 1 := by
  intro h
  cases v <;> first | rfl | skip
  rename_i c _ _; cases c <;> simp [Vl.wd, pw] at h
theorem size_of_ok (v : Vl) (st : Store) : callN T (n + 1) "size_of" [.d v.dP] st = .ok (.d (.int v.sz)) st := by
  apply eq_of_wp
  rw [callN_run T_f_size_of]
  have h0 := v.ix0
  have h3 := size_wd v
  have h4 := size_wd' v
  generalize hw : v.wd = w at *
  have h1 : inB st (.d (.str w)) (.d (.tup [.str "pair", .str "cons"])) = some (decide (w = "pair" ∨ w = "cons")) := by
    simp only [inB, D.mem, flat, List.all_cons, List.all_nil, Bool.and_true, if_true, List.any_cons, List.any_nil, D.eqv]
    congr 1
    by_cases h1 : w = "pair" <;> by_cases h2 : w = "cons" <;> simp [h1, h2, eq_comm]
  by_cases c : w = "pair" ∨ w = "cons"
  · simp [Tg.putV, Tg.put, Tg.puts, Tg.putF_eq, setAll, Tg.slots, Tg.slotss, wipe, indexV, cmpV, deref, asB, asD, asDs, asI, bltV, lenDic, bltD, derefs, D.blt, D.bLen, D.bTuple, D.bList, D.seq, mthV, mthOk, setV, ci_eq, ci_ne, ci_lt, ci_le, ci_gt, ci_ge, cs_eq, cs_ne, cb_eq, cb_ne, D.bin, isNon, f_size_of, runFn, h0, h1, h3 c, c, leave]
  · simp [Tg.putV, Tg.put, Tg.puts, Tg.putF_eq, setAll, Tg.slots, Tg.slotss, wipe, indexV, cmpV, deref, asB, asD, asDs, asI, bltV, lenDic, bltD, derefs, D.blt, D.bLen, D.bTuple, D.bList, D.seq, mthV, mthOk, setV, ci_eq, ci_ne, ci_lt, ci_le, ci_gt, ci_ge, cs_eq, cs_ne, cb_eq, cb_ne, D.bin, isNon, f_size_of, runFn, h0, h1, h4 c, c, leave]
theorem joined_ok (c : Bool) (x y : Vl) (st : Store) : callN T (n + 2) "joined" [.d (.str (pw c)), .d x.dP, .d y.dP] st = .ok (.d (Vl.pr c x y).dP) st := by
  apply eq_of_wp
  rw [callN_run T_f_joined]
  simp [Tg.putV, Tg.put, Tg.puts, Tg.putF_eq, setAll, Tg.slots, Tg.slotss, wipe, indexV, cmpV, deref, asB, asD, asDs, asI, bltV, lenDic, bltD, derefs, D.blt, D.bLen, D.bTuple, D.bList, D.seq, mthV, mthOk, setV, ci_eq, ci_ne, ci_lt, ci_le, ci_gt, ci_ge, cs_eq, cs_ne, cb_eq, cb_ne, D.bin, isNon, f_joined, runFn, size_of_ok, leave, Vl.dP]
set_option maxHeartbeats 2000000 in
theorem put_ok {a : Nat} {h : String} (hh : h = "pair" ∨ h = "cons") (K : List Tk) (V : List Vl) (x y : Vl) (hV : V.length < 10000) :
    Rs (callN T (n + 3) "Runner.put_together" [.d (.oid os.length), .d (.int a), .d (.str h)] (rnS os tl l (tsD K) (vsD (y :: x :: V)) ks)) os tl l ks (oud a K V (twoO h x y)) := by
  rw [vs2]
  have hl : (vsD V).length < 100000 := by simp [vsD]; omega
  have j1 := fun st => joined_ok (n := n) true x y st
  have j2 := fun st => joined_ok (n := n) false x y st
  simp only [pw] at j1 j2
  rcases hh with rfl | rfl
  · show _ = _
    simp only [oud, twoO, vs1]
    apply eq_of_wp
    rw [callN_run T_f_Runner_put_together]
    simp [-List.append_assoc, Tg.putV, Tg.put, Tg.puts, Tg.putF_eq, setAll, Tg.slots, Tg.slotss, wipe, indexV, cmpV, deref, asB, asD, asDs, asI, bltV, lenDic, bltD, derefs, D.blt, D.bLen, D.bTuple, D.bList, D.seq, mthV, mthOk, setV, ci_eq, ci_ne, ci_lt, ci_le, ci_gt, ci_ge, cs_eq, cs_ne, cb_eq, cb_ne, D.bin, isNon, f_Runner_put_together, runFn, fV, popV, okV, pushV hl, j2, leave]
  · by_cases c : y.isList = true
    · have e : twoO "cons" x y = .v (.pr true x y) := by simp [twoO, consO, c]
      rw [e]
      show _ = _
      rw [vs1]
      apply eq_of_wp
      rw [callN_run T_f_Runner_put_together]
      simp [-List.append_assoc, Tg.putV, Tg.put, Tg.puts, Tg.putF_eq, setAll, Tg.slots, Tg.slotss, wipe, indexV, cmpV, deref, asB, asD, asDs, asI, bltV, lenDic, bltD, derefs, D.blt, D.bLen, D.bTuple, D.bList, D.seq, mthV, mthOk, setV, ci_eq, ci_ne, ci_lt, ci_le, ci_gt, ci_ge, cs_eq, cs_ne, cb_eq, cb_ne, D.bin, isNon, f_Runner_put_together, runFn, fV, popV, okV, pushV hl, j1, is_list_ok, c, leave]
    · have e : twoO "cons" x y = .st := by simp [twoO, consO, c]
      rw [e]
      refine ⟨tsD K, vsD V, ?_⟩
      apply exc_of_wpx
      rw [callN_run T_f_Runner_put_together]
      simp [-List.append_assoc, Tg.putV, Tg.put, Tg.puts, Tg.putF_eq, setAll, Tg.slots, Tg.slotss, wipe, indexV, cmpV, deref, asB, asD, asDs, asI, bltV, lenDic, bltD, derefs, D.blt, D.bLen, D.bTuple, D.bList, D.seq, mthV, mthOk, setV, ci_eq, ci_ne, ci_lt, ci_le, ci_gt, ci_ge, cs_eq, cs_ne, cb_eq, cb_ne, D.bin, isNon, f_Runner_put_together, runFn, fV, popV, okV, is_list_ok, c, leave, Fin'.d]
set_option maxHeartbeats 4000000 in
theorem part_ok {a : Nat} {h : String} (hh : h ∈ ONES) (K : List Tk) (V : List Vl) (v : Vl) (hV : V.length < 10000) :
    Rs (callN T (n + 2) "Runner.part_of" [.d (.oid os.length), .d (.int a), .d (.str h)] (rnS os tl l (tsD K) (vsD (v :: V)) ks)) os tl l ks (oud a K V (partO h v)) := by
  rw [vs1]
  have hl : (vsD V).length < 100000 := by simp [vsD]; omega
  have hi := fun st => is_list_ok (n := n) v st
  have h0 := v.ix0
  have ok : ∀ (w : Vl), partO h v = .v w → callN T (n + 2) "Runner.part_of" [.d (.oid os.length), .d (.int a), .d (.str h)] (rnS os tl l (tsD K) (vsD V ++ [v.dP]) ks) = .ok (.d .non) (rnS os tl l (tsD K) (vsD V ++ [w.dP]) ks) → Rs (callN T (n + 2) "Runner.part_of" [.d (.oid os.length), .d (.int a), .d (.str h)] (rnS os tl l (tsD K) (vsD V ++ [v.dP]) ks)) os tl l ks (oud a K V (partO h v)) := fun w e q => by
    rw [e]; show _ = _; rw [vs1]; exact q
  have no : ∀ (o : Ou) (f : Fin'), partO h v = o → (∀ K V, oud a K V o = .inr f) → callN T (n + 2) "Runner.part_of" [.d (.oid os.length), .d (.int a), .d (.str h)] (rnS os tl l (tsD K) (vsD V ++ [v.dP]) ks) = .exc "Ended" [("end", f.d)] (rnS os tl l (tsD K) (vsD V) ks) → Rs (callN T (n + 2) "Runner.part_of" [.d (.oid os.length), .d (.int a), .d (.str h)] (rnS os tl l (tsD K) (vsD V ++ [v.dP]) ks)) os tl l ks (oud a K V (partO h v)) := fun o f e e2 q => by
    rw [e, e2]; exact ⟨_, _, q⟩
  simp only [ONES, List.mem_cons, List.not_mem_nil, or_false] at hh
  cases v with
  | pr c x y =>
    cases c <;> rcases hh with rfl | rfl | rfl | rfl | rfl
    all_goals
      try simp [Vl.dP, pw, Vl.isList] at hi
      first
      | (refine ok _ rfl ?_
         apply eq_of_wp
         rw [callN_run T_f_Runner_part_of]
         simp [-List.append_assoc, Tg.putV, Tg.put, Tg.puts, Tg.putF_eq, setAll, Tg.slots, Tg.slotss, wipe, indexV, D.index, atI, ixN, cmpV, deref, asB, asD, asDs, asI, bltV, lenDic, bltD, derefs, D.blt, D.bLen, D.bTuple, D.bList, D.seq, mthV, mthOk, setV, ci_eq, ci_ne, ci_lt, ci_le, ci_gt, ci_ge, cs_eq, cs_ne, cb_eq, cb_ne, D.bin, D.slice, cut, sIx, isNon, f_Runner_part_of, runFn, fV, popV, okV, pushV hl, hi, inB, D.mem, flat, D.eqv, Vl.dP, Vl.isList, pw, leave, Fin'.d]
         done)
      | (refine no .st (.stuck a) rfl (fun _ _ => rfl) ?_
         apply exc_of_wpx
         rw [callN_run T_f_Runner_part_of]
         simp [-List.append_assoc, Tg.putV, Tg.put, Tg.puts, Tg.putF_eq, setAll, Tg.slots, Tg.slotss, wipe, indexV, D.index, atI, ixN, cmpV, deref, asB, asD, asDs, asI, bltV, lenDic, bltD, derefs, D.blt, D.bLen, D.bTuple, D.bList, D.seq, mthV, mthOk, setV, ci_eq, ci_ne, ci_lt, ci_le, ci_gt, ci_ge, cs_eq, cs_ne, cb_eq, cb_ne, D.bin, D.slice, cut, sIx, isNon, f_Runner_part_of, runFn, fV, popV, okV, pushV hl, hi, inB, D.mem, flat, D.eqv, Vl.dP, Vl.isList, pw, leave, Fin'.d]
         done)
      | (refine no .em (.empt a) rfl (fun _ _ => rfl) ?_
         apply exc_of_wpx
         rw [callN_run T_f_Runner_part_of]
         simp [-List.append_assoc, Tg.putV, Tg.put, Tg.puts, Tg.putF_eq, setAll, Tg.slots, Tg.slotss, wipe, indexV, D.index, atI, ixN, cmpV, deref, asB, asD, asDs, asI, bltV, lenDic, bltD, derefs, D.blt, D.bLen, D.bTuple, D.bList, D.seq, mthV, mthOk, setV, ci_eq, ci_ne, ci_lt, ci_le, ci_gt, ci_ge, cs_eq, cs_ne, cb_eq, cb_ne, D.bin, D.slice, cut, sIx, isNon, f_Runner_part_of, runFn, fV, popV, okV, pushV hl, hi, inB, D.mem, flat, D.eqv, Vl.dP, Vl.isList, pw, leave, Fin'.d]
         done)

  | _ =>
    rcases hh with rfl | rfl | rfl | rfl | rfl
    all_goals
      try simp [Vl.dP, pw, Vl.isList] at hi
      first
      | (refine ok _ rfl ?_
         apply eq_of_wp
         rw [callN_run T_f_Runner_part_of]
         simp [-List.append_assoc, Tg.putV, Tg.put, Tg.puts, Tg.putF_eq, setAll, Tg.slots, Tg.slotss, wipe, indexV, D.index, atI, ixN, cmpV, deref, asB, asD, asDs, asI, bltV, lenDic, bltD, derefs, D.blt, D.bLen, D.bTuple, D.bList, D.seq, mthV, mthOk, setV, ci_eq, ci_ne, ci_lt, ci_le, ci_gt, ci_ge, cs_eq, cs_ne, cb_eq, cb_ne, D.bin, D.slice, cut, sIx, isNon, f_Runner_part_of, runFn, fV, popV, okV, pushV hl, hi, inB, D.mem, flat, D.eqv, Vl.dP, Vl.isList, pw, leave, Fin'.d]
         done)
      | (refine no .st (.stuck a) rfl (fun _ _ => rfl) ?_
         apply exc_of_wpx
         rw [callN_run T_f_Runner_part_of]
         simp [-List.append_assoc, Tg.putV, Tg.put, Tg.puts, Tg.putF_eq, setAll, Tg.slots, Tg.slotss, wipe, indexV, D.index, atI, ixN, cmpV, deref, asB, asD, asDs, asI, bltV, lenDic, bltD, derefs, D.blt, D.bLen, D.bTuple, D.bList, D.seq, mthV, mthOk, setV, ci_eq, ci_ne, ci_lt, ci_le, ci_gt, ci_ge, cs_eq, cs_ne, cb_eq, cb_ne, D.bin, D.slice, cut, sIx, isNon, f_Runner_part_of, runFn, fV, popV, okV, pushV hl, hi, inB, D.mem, flat, D.eqv, Vl.dP, Vl.isList, pw, leave, Fin'.d]
         done)
      | (refine no .em (.empt a) rfl (fun _ _ => rfl) ?_
         apply exc_of_wpx
         rw [callN_run T_f_Runner_part_of]
         simp [-List.append_assoc, Tg.putV, Tg.put, Tg.puts, Tg.putF_eq, setAll, Tg.slots, Tg.slotss, wipe, indexV, D.index, atI, ixN, cmpV, deref, asB, asD, asDs, asI, bltV, lenDic, bltD, derefs, D.blt, D.bLen, D.bTuple, D.bList, D.seq, mthV, mthOk, setV, ci_eq, ci_ne, ci_lt, ci_le, ci_gt, ci_ge, cs_eq, cs_ne, cb_eq, cb_ne, D.bin, D.slice, cut, sIx, isNon, f_Runner_part_of, runFn, fV, popV, okV, pushV hl, hi, inB, D.mem, flat, D.eqv, Vl.dP, Vl.isList, pw, leave, Fin'.d]
         done)

end
end Prog

namespace Prog
open Ir
section
variable {os : List Obj} {tl : Store} {l : Int} {ts vs : List D} {ks : List (D × D)} {n : Nat}
set_option maxHeartbeats 2000000 in
theorem called_ok {a : Nat} (K : List Tk) (V : List Vl) (g f : Vl) (hK : K.length < 10000) (hf : ∀ xs q b e, f = .fn xs q b e → (∃ x, xs = [x]) ∨ ∃ h x, xs = [h, x]) :
    Rs (callN T (n + 1) "Runner.called" [.d (.oid os.length), .d (.int a)] (rnS os tl l (tsD K) (vsD (g :: f :: V)) ks)) os tl l ks (enter a K V g f) := by
  rw [vs2]
  have hl : (tsD K).length < 100000 := by simp [tsD]; omega
  have pT := fun (vs : List D) (x : D) => pushT (os := os) (tl := tl) (l := l) (ts := tsD K) (vs := vs) (ks := ks) (x := x) hl
  have st : ∀ (w : String), f.wd = w → ¬ w = "fn" → callN T (n + 1) "Runner.called" [.d (.oid os.length), .d (.int a)] (rnS os tl l (tsD K) (vsD V ++ [f.dP] ++ [g.dP]) ks) = .exc "Ended" [("end", (Fin'.stuck a).d)] (rnS os tl l (tsD K) (vsD V) ks) := fun w hw hne => by
    apply exc_of_wpx
    rw [callN_run T_f_Runner_called]
    simp [-List.append_assoc, Tg.putV, Tg.put, Tg.puts, Tg.putF_eq, setAll, Tg.slots, Tg.slotss, wipe, indexV, cmpV, deref, asB, asD, asDs, asI, bltV, lenDic, bltD, derefs, D.blt, D.bLen, D.bTuple, D.bList, D.seq, mthV, mthOk, setV, ci_eq, ci_ne, ci_lt, ci_le, ci_gt, ci_ge, cs_eq, cs_ne, cb_eq, cb_ne, D.bin, isNon, f_Runner_called, runFn, fV, popV, okV, Vl.ix0, hw, hne, leave, Fin'.d]
  cases f with
  | fn xs q b e =>
    show _ = _
    have ht : tsD ((q, b, callE xs (.fn xs q b e) g e, false) :: K) = tsD K ++ [tkD (q, b, callE xs (.fn xs q b e) g e, false)] := by simp [tsD]
    simp only [ht]
    clear st
    rcases hf xs q b e rfl with ⟨x, rfl⟩ | ⟨h, x, rfl⟩
    · apply eq_of_wp
      rw [callN_run T_f_Runner_called]
      simp [-List.append_assoc, Tg.putV, Tg.put, Tg.puts, Tg.putF_eq, setAll, Tg.slots, Tg.slotss, wipe, indexV, D.index, atI, ixN, cmpV, deref, asB, asD, asDs, asI, bltV, lenDic, bltD, derefs, D.blt, D.bLen, D.bTuple, D.bList, D.seq, mthV, mthOk, setV, ci_eq, ci_ne, ci_lt, ci_le, ci_gt, ci_ge, cs_eq, cs_ne, cb_eq, cb_ne, D.bin, D.slice, cut, sIx, isNon, f_Runner_called, runFn, fT, okT, fV, popV, okV, Vl.dP, leave, pT, tkD, callE, En.dP]
    · apply eq_of_wp
      rw [callN_run T_f_Runner_called]
      simp [-List.append_assoc, Tg.putV, Tg.put, Tg.puts, Tg.putF_eq, setAll, Tg.slots, Tg.slotss, wipe, indexV, D.index, atI, ixN, cmpV, deref, asB, asD, asDs, asI, bltV, lenDic, bltD, derefs, D.blt, D.bLen, D.bTuple, D.bList, D.seq, mthV, mthOk, setV, ci_eq, ci_ne, ci_lt, ci_le, ci_gt, ci_ge, cs_eq, cs_ne, cb_eq, cb_ne, D.bin, D.slice, cut, sIx, isNon, f_Runner_called, runFn, fT, okT, fV, popV, okV, Vl.dP, leave, pT, tkD, callE, En.dP]
  | num i => exact ⟨_, _, st _ rfl (by simp [Vl.wd])⟩
  | tru i => exact ⟨_, _, st _ rfl (by simp [Vl.wd])⟩
  | nil => exact ⟨_, _, st _ rfl (by simp [Vl.wd])⟩
  | pr c x y => exact ⟨_, _, st _ rfl (by cases c <;> simp [Vl.wd, pw])⟩
theorem looked_ok (x : String) (e : En) (hx : x ∈ e.nms) (v : Val) (st : Store) : callN T (n + 1) "Runner.looked_up" [v, .d (.str x), .d e.dP] st = .ok (.d (e.look x).dP) st := by
  apply eq_of_wp
  rw [callN_run T_f_Runner_looked_up]
  simp [Tg.putV, Tg.put, Tg.puts, Tg.putF_eq, setAll, Tg.slots, Tg.slotss, wipe, indexV, cmpV, deref, asB, asD, asDs, asI, bltV, lenDic, bltD, derefs, D.blt, D.bLen, D.bTuple, D.bList, D.seq, mthV, mthOk, setV, ci_eq, ci_ne, ci_lt, ci_le, ci_gt, ci_ge, cs_eq, cs_ne, cb_eq, cb_ne, D.bin, isNon, f_Runner_looked_up, runFn]
  refine wp_while (I := fun k σ st' => ∃ e' : En, st' = st ∧ σ = [some v, some (.d (.str x)), some (.d e'.dP)] ∧ k = e'.nms.length ∧ x ∈ e'.nms ∧ e'.look x = e.look x) ?_ e.nms.length _ _ ⟨e, rfl, rfl, rfl, hx, rfl⟩
  rintro k σ st' ⟨e', rfl, rfl, rfl, hm, hl⟩
  cases e' with
  | nil => simp [En.nms] at hm
  | cons y w e' =>
    simp only [f_Runner_looked_up_w0, condB]
    by_cases hy : y = x
    · subst hy
      have hl : w = e.look y := by simpa [En.look] using hl
      simp [Tg.putV, Tg.put, Tg.puts, Tg.putF_eq, setAll, Tg.slots, Tg.slotss, wipe, indexV, D.index, atI, ixN, cmpV, deref, asB, asD, asDs, asI, bltV, lenDic, bltD, derefs, D.blt, D.bLen, D.bTuple, D.bList, D.seq, mthV, mthOk, setV, ci_eq, ci_ne, ci_lt, ci_le, ci_gt, ci_ge, cs_eq, cs_ne, cb_eq, cb_ne, D.bin, D.slice, cut, sIx, isNon, En.dP, leave, hl]
    · have hl : e'.look x = e.look x := by simpa [En.look, hy] using hl
      have hm : x ∈ e'.nms := by simpa [En.nms, Ne.symm hy] using hm
      simp [Tg.putV, Tg.put, Tg.puts, Tg.putF_eq, setAll, Tg.slots, Tg.slotss, wipe, indexV, D.index, atI, ixN, cmpV, deref, asB, asD, asDs, asI, bltV, lenDic, bltD, derefs, D.blt, D.bLen, D.bTuple, D.bList, D.seq, mthV, mthOk, setV, ci_eq, ci_ne, ci_lt, ci_le, ci_gt, ci_ge, cs_eq, cs_ne, cb_eq, cb_ne, D.bin, D.slice, cut, sIx, isNon, En.dP, hy, f_Runner_looked_up_b0]
      exact ⟨e'.nms.length, by simp [En.nms], e', rfl, rfl, hm, hl⟩
end
end Prog

namespace Prog
open Ir
section
variable {os : List Obj} {tl : Store} {n : Nat}
set_option maxHeartbeats 4000000 in
theorem begin_far (p : Pg) (a : Nat) (e : En) (K : List Tk) (V : List Vl) (bg : List Nat) :
    callN T (n + 1) "Runner.begin" [.d (.oid os.length), .d (p.ndD a), .d e.dP] (rnS os tl (0 : Nat) (tsD K) (vsD V) (ksD bg)) = .exc "Ended" [("end", Fin'.far.d)] (rnS os tl (0 : Nat) (tsD K) (vsD V) (ksD bg)) := by
  have hnd : ∃ x y z w, p.ndD a = .tup [x, y, z, w] := by
    rw [← p.core_nd]
    have := p.core_off
    cases hp : p.core <;> first | exact ⟨_, _, _, _, rfl⟩ | (rw [hp] at this; exact absurd this (by simp [Pg.isOff]))
  obtain ⟨x, y, z, w, hnd⟩ := hnd
  rw [hnd]
  apply exc_of_wpx
  rw [callN_run T_f_Runner_begin]
  have h0 := fL (os := os) (tl := tl) (l := (0 : Nat)) (ts := tsD K) (vs := vsD V) (ks := ksD bg)
  simp [Tg.putV, Tg.put, Tg.puts, Tg.putF_eq, setAll, Tg.slots, Tg.slotss, wipe, indexV, D.index, atI, ixN, cmpV, deref, asB, asD, asDs, asI, bltV, lenDic, bltD, derefs, D.blt, D.bLen, D.bTuple, D.bList, D.seq, mthV, mthOk, setV, ci_eq, ci_ne, ci_lt, ci_le, ci_gt, ci_ge, cs_eq, cs_ne, cb_eq, cb_ne, D.bin, D.slice, cut, sIx, isNon, f_Runner_begin, runFn, fL, leave, Fin'.d]
set_option maxHeartbeats 8000000 in
theorem begin_ok {p : Pg} {a l : Nat} {e : En} {K : List Tk} {V : List Vl} {bg : List Nat} (sk : p.sk) (cl : p.cl e.nms = true) (hK : K.length < 10000) (hV : V.length < 10000) (hb : bg.length < 10000) :
    callN T (n + 2) "Runner.begin" [.d (.oid os.length), .d (p.ndD a), .d e.dP] (rnS os tl (l + 1 : Nat) (tsD K) (vsD V) (ksD bg)) = .ok (.d .non) (rnS os tl l (tsD (bgn p a e K V p.core).1) (vsD (bgn p a e K V p.core).2) (ksD (addK bg a))) := by
  have hnd := p.core_nd a
  have sk' := Pg.core_sk sk
  rw [← Pg.core_cl] at cl
  have hl : (tsD K).length < 100000 := by simp [tsD]; omega
  have hl1 : ∀ x, (tsD K ++ [x]).length < 100000 := fun x => by simp [tsD]; omega
  have hv : (vsD V).length < 100000 := by simp [vsD]; omega
  have hk : (ksD bg).length < 100000 := by simp [ksD]; omega
  have pT := fun (l : Int) (vs : List D) (ks : List (D × D)) (x : D) => pushT (os := os) (tl := tl) (l := l) (ts := tsD K) (vs := vs) (ks := ks) (x := x) hl
  have pV := fun (l : Int) (ts : List D) (ks : List (D × D)) (x : D) => pushV (os := os) (tl := tl) (l := l) (ts := ts) (vs := vsD V) (ks := ks) (x := x) hv
  have eT := fun (l : Int) (vs : List D) (ks : List (D × D)) (x : D) (ys : List D) (h2 : ys.length < 100000) => extT (os := os) (tl := tl) (l := l) (ts := tsD K ++ [x]) (vs := vs) (ks := ks) (ys := ys) (hl1 x) h2
  have sB := fun (l : Int) (ts vs : List D) => setB (os := os) (tl := tl) (l := l) (ts := ts) (vs := vs) (ks := ksD bg) (i := (a : Int)) hk
  have sL' := fun (l i : Int) (ts vs : List D) (ks : List (D × D)) => sL (os := os) (tl := tl) (l := l) (ts := ts) (vs := vs) (ks := ks) (i := i)
  have c1 : ((l + 1 : Nat) : Int) - 1 = l := by omega
  have c2 : ¬ ((l : Int) + 1 = 0) := by omega
  have hB := putK_ks bg a
  apply eq_of_wp
  rw [callN_run T_f_Runner_begin]
  have ts1 : ∀ (K : List Tk) (t : Tk), tsD (t :: K) = tsD K ++ [tkD t] := fun K t => by simp [tsD]
  have ts2 : ∀ (K : List Tk) (t u : Tk), tsD (t :: u :: K) = tsD K ++ [tkD u] ++ [tkD t] := fun K t u => by simp [tsD]
  have ts3 : ∀ (K : List Tk) (t u v : Tk), tsD (t :: u :: v :: K) = tsD K ++ [tkD v] ++ [tkD u, tkD t] := fun K t u v => by simp [tsD]
  cases hp : p.core with
  | off q => rw [hp] at sk'; cases sk'.2
  | num i =>
    rw [hp] at hnd
    rw [← hnd]
    simp [-List.append_assoc, -List.map_append, Tg.putV, Tg.put, Tg.puts, Tg.putF_eq, setAll, Tg.slots, Tg.slotss, wipe, indexV, D.index, atI, ixN, cmpV, deref, asB, asD, asDs, asI, bltV, lenDic, bltD, derefs, D.blt, D.bLen, D.bTuple, D.bList, D.seq, mthV, mthOk, setV, ci_eq, ci_ne, ci_lt, ci_le, ci_gt, ci_ge, cs_eq, cs_ne, cb_eq, cb_ne, D.bin, D.slice, cut, sIx, isNon, f_Runner_begin, f_Runner_begin_c0, runFn, fL, fB, fV, fT, okV, okT, c2, augI, sL', sB, hB, Pg.ndD, inB, D.mem, flat, D.eqv, D.bTuple, pV, pT, eT, bgn, vs1, ts1, ts2, tkD, Vl.dP, revV, compL, compStep, leave, LIM_eq]
  | truth i =>
    rw [hp] at hnd
    rw [← hnd]
    simp [-List.append_assoc, -List.map_append, Tg.putV, Tg.put, Tg.puts, Tg.putF_eq, setAll, Tg.slots, Tg.slotss, wipe, indexV, D.index, atI, ixN, cmpV, deref, asB, asD, asDs, asI, bltV, lenDic, bltD, derefs, D.blt, D.bLen, D.bTuple, D.bList, D.seq, mthV, mthOk, setV, ci_eq, ci_ne, ci_lt, ci_le, ci_gt, ci_ge, cs_eq, cs_ne, cb_eq, cb_ne, D.bin, D.slice, cut, sIx, isNon, f_Runner_begin, f_Runner_begin_c0, runFn, fL, fB, fV, fT, okV, okT, c2, augI, sL', sB, hB, Pg.ndD, inB, D.mem, flat, D.eqv, D.bTuple, pV, pT, eT, bgn, vs1, ts1, ts2, tkD, Vl.dP, revV, compL, compStep, leave, LIM_eq]
  | nil =>
    rw [hp] at hnd
    rw [← hnd]
    simp [-List.append_assoc, -List.map_append, Tg.putV, Tg.put, Tg.puts, Tg.putF_eq, setAll, Tg.slots, Tg.slotss, wipe, indexV, D.index, atI, ixN, cmpV, deref, asB, asD, asDs, asI, bltV, lenDic, bltD, derefs, D.blt, D.bLen, D.bTuple, D.bList, D.seq, mthV, mthOk, setV, ci_eq, ci_ne, ci_lt, ci_le, ci_gt, ci_ge, cs_eq, cs_ne, cb_eq, cb_ne, D.bin, D.slice, cut, sIx, isNon, f_Runner_begin, f_Runner_begin_c0, runFn, fL, fB, fV, fT, okV, okT, c2, augI, sL', sB, hB, Pg.ndD, inB, D.mem, flat, D.eqv, D.bTuple, pV, pT, eT, bgn, vs1, ts1, ts2, tkD, Vl.dP, revV, compL, compStep, leave, LIM_eq]
  | name x =>
    rw [hp] at hnd cl
    rw [← hnd]
    have hx : x ∈ e.nms := by simpa [Pg.cl] using cl
    have lk := fun v st => looked_ok (n := n) x e hx v st
    have mk : ∀ (l : Int) (ts vs : List D) (ks : List (D × D)), methOk (rnS os tl l ts vs ks) (.d (.oid os.length)) "Runner" "looked_up" = true := fun l ts vs ks => mOk rfl
    simp [-List.append_assoc, -List.map_append, Tg.putV, Tg.put, Tg.puts, Tg.putF_eq, setAll, Tg.slots, Tg.slotss, wipe, indexV, D.index, atI, ixN, cmpV, deref, asB, asD, asDs, asI, bltV, lenDic, bltD, derefs, D.blt, D.bLen, D.bTuple, D.bList, D.seq, mthV, mthOk, setV, ci_eq, ci_ne, ci_lt, ci_le, ci_gt, ci_ge, cs_eq, cs_ne, cb_eq, cb_ne, D.bin, D.slice, cut, sIx, isNon, f_Runner_begin, f_Runner_begin_c0, runFn, fL, fB, fV, fT, okV, okT, c2, augI, sL', sB, hB, Pg.ndD, inB, D.mem, flat, D.eqv, D.bTuple, pV, pT, eT, bgn, vs1, ts1, ts2, tkD, Vl.dP, revV, compL, compStep, leave, LIM_eq, lk, mk]
  | one w xs q =>
    rw [hp] at hnd sk'
    rw [← hnd]
    rcases sk'.1.1 with ⟨hw, rfl⟩ | ⟨rfl, x, rfl, _⟩ | ⟨rfl, f, x, rfl, _⟩
    · simp only [ONES, List.mem_cons, List.not_mem_nil, or_false] at hw
      have hnd' := hnd.symm
      rcases hw with rfl | rfl | rfl | rfl | rfl <;> simp [-List.append_assoc, -List.map_append, Tg.putV, Tg.put, Tg.puts, Tg.putF_eq, setAll, Tg.slots, Tg.slotss, wipe, indexV, D.index, atI, ixN, cmpV, deref, asB, asD, asDs, asI, bltV, lenDic, bltD, derefs, D.blt, D.bLen, D.bTuple, D.bList, D.seq, mthV, mthOk, setV, ci_eq, ci_ne, ci_lt, ci_le, ci_gt, ci_ge, cs_eq, cs_ne, cb_eq, cb_ne, D.bin, D.slice, cut, sIx, isNon, f_Runner_begin, f_Runner_begin_c0, runFn, fL, fB, fV, fT, okV, okT, c2, augI, sL', sB, hB, Pg.ndD, inB, D.mem, flat, D.eqv, D.bTuple, pV, pT, eT, bgn, vs1, ts1, ts2, tkD, Vl.dP, revV, compL, compStep, leave, LIM_eq, hnd', ts3]
    · simp [-List.append_assoc, -List.map_append, Tg.putV, Tg.put, Tg.puts, Tg.putF_eq, setAll, Tg.slots, Tg.slotss, wipe, indexV, D.index, atI, ixN, cmpV, deref, asB, asD, asDs, asI, bltV, lenDic, bltD, derefs, D.blt, D.bLen, D.bTuple, D.bList, D.seq, mthV, mthOk, setV, ci_eq, ci_ne, ci_lt, ci_le, ci_gt, ci_ge, cs_eq, cs_ne, cb_eq, cb_ne, D.bin, D.slice, cut, sIx, isNon, f_Runner_begin, f_Runner_begin_c0, runFn, fL, fB, fV, fT, okV, okT, c2, augI, sL', sB, hB, Pg.ndD, inB, D.mem, flat, D.eqv, D.bTuple, pV, pT, eT, bgn, vs1, ts1, ts2, tkD, Vl.dP, revV, compL, compStep, leave, LIM_eq]
    · simp [-List.append_assoc, -List.map_append, Tg.putV, Tg.put, Tg.puts, Tg.putF_eq, setAll, Tg.slots, Tg.slotss, wipe, indexV, D.index, atI, ixN, cmpV, deref, asB, asD, asDs, asI, bltV, lenDic, bltD, derefs, D.blt, D.bLen, D.bTuple, D.bList, D.seq, mthV, mthOk, setV, ci_eq, ci_ne, ci_lt, ci_le, ci_gt, ci_ge, cs_eq, cs_ne, cb_eq, cb_ne, D.bin, D.slice, cut, sIx, isNon, f_Runner_begin, f_Runner_begin_c0, runFn, fL, fB, fV, fT, okV, okT, c2, augI, sL', sB, hB, Pg.ndD, inB, D.mem, flat, D.eqv, D.bTuple, pV, pT, eT, bgn, vs1, ts1, ts2, tkD, Vl.dP, revV, compL, compStep, leave, LIM_eq]
  | two w xs q r =>
    rw [hp] at hnd sk'
    rw [← hnd]
    have hnd' := hnd.symm
    rcases sk'.1.1 with ⟨hw, rfl⟩ | ⟨rfl, x, rfl, _⟩
    · simp only [TWOS, List.mem_cons, List.not_mem_nil, or_false] at hw
      rcases hw with rfl | rfl | rfl | rfl | rfl <;> simp [-List.append_assoc, -List.map_append, Tg.putV, Tg.put, Tg.puts, Tg.putF_eq, setAll, Tg.slots, Tg.slotss, wipe, indexV, D.index, atI, ixN, cmpV, deref, asB, asD, asDs, asI, bltV, lenDic, bltD, derefs, D.blt, D.bLen, D.bTuple, D.bList, D.seq, mthV, mthOk, setV, ci_eq, ci_ne, ci_lt, ci_le, ci_gt, ci_ge, cs_eq, cs_ne, cb_eq, cb_ne, D.bin, D.slice, cut, sIx, isNon, f_Runner_begin, f_Runner_begin_c0, runFn, fL, fB, fV, fT, okV, okT, c2, augI, sL', sB, hB, Pg.ndD, inB, D.mem, flat, D.eqv, D.bTuple, pV, pT, eT, bgn, vs1, tkD, Vl.dP, revV, compL, compStep, leave, LIM_eq, hnd', ts3]
    · simp [-List.append_assoc, -List.map_append, Tg.putV, Tg.put, Tg.puts, Tg.putF_eq, setAll, Tg.slots, Tg.slotss, wipe, indexV, D.index, atI, ixN, cmpV, deref, asB, asD, asDs, asI, bltV, lenDic, bltD, derefs, D.blt, D.bLen, D.bTuple, D.bList, D.seq, mthV, mthOk, setV, ci_eq, ci_ne, ci_lt, ci_le, ci_gt, ci_ge, cs_eq, cs_ne, cb_eq, cb_ne, D.bin, D.slice, cut, sIx, isNon, f_Runner_begin, f_Runner_begin_c0, runFn, fL, fB, fV, fT, okV, okT, c2, augI, sL', sB, hB, Pg.ndD, inB, D.mem, flat, D.eqv, D.bTuple, pV, pT, eT, bgn, vs1, ts1, ts2, tkD, Vl.dP, revV, compL, compStep, leave, LIM_eq, hnd', ts3]
  | thr w xs q r s =>
    rw [hp] at hnd sk'
    rw [← hnd]
    have hnd' := hnd.symm
    obtain ⟨⟨rfl, rfl, _⟩, _⟩ := sk'
    simp [-List.append_assoc, -List.map_append, Tg.putV, Tg.put, Tg.puts, Tg.putF_eq, setAll, Tg.slots, Tg.slotss, wipe, indexV, D.index, atI, ixN, cmpV, deref, asB, asD, asDs, asI, bltV, lenDic, bltD, derefs, D.blt, D.bLen, D.bTuple, D.bList, D.seq, mthV, mthOk, setV, ci_eq, ci_ne, ci_lt, ci_le, ci_gt, ci_ge, cs_eq, cs_ne, cb_eq, cb_ne, D.bin, D.slice, cut, sIx, isNon, f_Runner_begin, f_Runner_begin_c0, runFn, fL, fB, fV, fT, okV, okT, c2, augI, sL', sB, hB, Pg.ndD, inB, D.mem, flat, D.eqv, D.bTuple, pV, pT, eT, bgn, vs1, ts1, ts2, tkD, Vl.dP, revV, compL, compStep, leave, LIM_eq, hnd', ts3]
end
end Prog

namespace Prog
open Ir
section
variable {os : List Obj} {tl : Store} {n : Nat} {l : Int} {ks : List (D × D)}
theorem Rs.via {run0 run1 : Res Val} {r : (List Tk × List Vl) ⊕ Fin'} (h : Rs run0 os tl l ks r) (h1 : ∀ t v, run0 = .ok (.d .non) (rnS os tl l t v ks) → run1 = .ok (.d .non) (rnS os tl l t v ks))
    (h2 : ∀ d t v, run0 = .exc "Ended" [("end", d)] (rnS os tl l t v ks) → run1 = .exc "Ended" [("end", d)] (rnS os tl l t v ks)) : Rs run1 os tl l ks r := by
  cases r with
  | inl tv => exact h1 _ _ h
  | inr f => obtain ⟨t, v, h⟩ := h; exact ⟨t, v, h2 _ _ _ h⟩
set_option maxHeartbeats 8000000 in
theorem finish_ok {p : Pg} {a : Nat} {e : En} {K : List Tk} {told : List Vl} (sk : p.sk) (h1 : 1 ≤ early p.core) (ho : ∀ h xs q, p.core = .one h xs q → h ∈ ONES) (h2 : early p.core ≤ told.length)
    (hK : K.length < 10000) (hV : told.length < 10000) (hf : ∀ v ∈ told, ∀ xs q b e, v = .fn xs q b e → (∃ x, xs = [x]) ∨ ∃ h x, xs = [h, x]) :
    Rs (callN T (n + 4) "Runner.finish" [.d (.oid os.length), .d (p.ndD a), .d e.dP] (rnS os tl l (tsD K) (vsD told) ks)) os tl l ks (fns a e K p.core told) := by
  have hnd := p.core_nd a
  have sk' := Pg.core_sk sk
  have hl : (tsD K).length < 100000 := by simp [tsD]; omega
  have pT := fun (vs : List D) (x : D) => pushT (os := os) (tl := tl) (l := l) (ts := tsD K) (vs := vs) (ks := ks) (x := x) hl
  have mk : ∀ (m : String), (lookF m [("tasks", .non), ("told", .non), ("begun", .non), ("left", .non)] = none) → ∀ (l : Int) (ts vs : List D) (ks : List (D × D)), methOk (rnS os tl l ts vs ks) (.d (.oid os.length)) "Runner" m = true := fun m hm l ts vs ks => mOk hm
  have m1 := mk "called" rfl
  have m2 := mk "numbers" rfl
  have m3 := mk "put_together" rfl
  have m4 := mk "part_of" rfl
  have ts1 : ∀ (K : List Tk) (t : Tk), tsD (t :: K) = tsD K ++ [tkD t] := fun K t => by simp [tsD]
  cases hp : p.core with
  | off q => rw [hp] at sk'; cases sk'.2
  | num i => rw [hp] at h1; simp [early] at h1
  | truth i => rw [hp] at h1; simp [early] at h1
  | nil => rw [hp] at h1; simp [early] at h1
  | name x => rw [hp] at h1; simp [early] at h1
  | one w xs q =>
    have hw := ho _ _ _ hp
    rw [hp] at hnd sk' h2
    rw [← hnd]
    cases told with
    | nil => simp [early] at h2
    | cons v V =>
      have h := part_ok (os := os) (tl := tl) (l := l) (ks := ks) (n := n + 1) (a := a) hw K V v (by simp at hV; omega)
      have hxs : xs = [] := by
        rcases sk'.1.1 with ⟨_, rfl⟩ | ⟨rfl, _⟩ | ⟨rfl, _⟩
        · rfl
        · exact absurd hw (by decide)
        · exact absurd hw (by decide)
      subst hxs
      refine h.via (fun t v h => ?_) (fun d t v h => ?_)
      · apply eq_of_wp
        rw [callN_run T_f_Runner_finish]
        simp only [ONES, List.mem_cons, List.not_mem_nil, or_false] at hw
        rcases hw with rfl | rfl | rfl | rfl | rfl <;> simp [-List.append_assoc, -List.map_append, Tg.putV, Tg.put, Tg.puts, Tg.putF_eq, setAll, Tg.slots, Tg.slotss, wipe, indexV, D.index, atI, ixN, cmpV, deref, asB, asD, asDs, asI, bltV, lenDic, bltD, derefs, D.blt, D.bLen, D.bTuple, D.bList, D.seq, mthV, mthOk, setV, ci_eq, ci_ne, ci_lt, ci_le, ci_gt, ci_ge, cs_eq, cs_ne, cb_eq, cb_ne, D.bin, D.slice, cut, sIx, isNon, f_Runner_finish, runFn, Pg.ndD, inB, D.mem, flat, D.eqv, m4, h, leave]
      · apply exc_of_wpx
        rw [callN_run T_f_Runner_finish]
        simp only [ONES, List.mem_cons, List.not_mem_nil, or_false] at hw
        rcases hw with rfl | rfl | rfl | rfl | rfl <;> simp [-List.append_assoc, -List.map_append, Tg.putV, Tg.put, Tg.puts, Tg.putF_eq, setAll, Tg.slots, Tg.slotss, wipe, indexV, D.index, atI, ixN, cmpV, deref, asB, asD, asDs, asI, bltV, lenDic, bltD, derefs, D.blt, D.bLen, D.bTuple, D.bList, D.seq, mthV, mthOk, setV, ci_eq, ci_ne, ci_lt, ci_le, ci_gt, ci_ge, cs_eq, cs_ne, cb_eq, cb_ne, D.bin, D.slice, cut, sIx, isNon, f_Runner_finish, runFn, Pg.ndD, inB, D.mem, flat, D.eqv, m4, h, leave]
  | two w xs q r =>
    rw [hp] at hnd sk' h2
    rw [← hnd]
    rcases sk'.1.1 with ⟨hw, rfl⟩ | ⟨rfl, x, rfl, _⟩
    · have hne : ¬ (w = "let") := by
        rintro rfl; exact absurd hw (by decide)
      simp only [early, if_neg hne] at h2
      match told, h2 with
      | [], h2 => simp at h2
      | [_], h2 => simp at h2
      | y :: x :: V, _ =>
        have hVl : V.length < 10000 := by simp at hV; omega
        simp only [TWOS, List.mem_cons, List.not_mem_nil, or_false] at hw
        rcases hw with rfl | rfl | rfl | rfl | rfl
        · have h := called_ok (os := os) (tl := tl) (l := l) (ks := ks) (n := n + 2) (a := a) K V y x hK (fun xs q b e hx => hf x (by simp) xs q b e hx)
          refine h.via (fun t v h => ?_) (fun d t v h => ?_)
          · apply eq_of_wp
            rw [callN_run T_f_Runner_finish]
            simp [-List.append_assoc, -List.map_append, Tg.putV, Tg.put, Tg.puts, Tg.putF_eq, setAll, Tg.slots, Tg.slotss, wipe, indexV, D.index, atI, ixN, cmpV, deref, asB, asD, asDs, asI, bltV, lenDic, bltD, derefs, D.blt, D.bLen, D.bTuple, D.bList, D.seq, mthV, mthOk, setV, ci_eq, ci_ne, ci_lt, ci_le, ci_gt, ci_ge, cs_eq, cs_ne, cb_eq, cb_ne, D.bin, D.slice, cut, sIx, isNon, f_Runner_finish, runFn, Pg.ndD, inB, D.mem, flat, D.eqv, m1, h, leave]
          · apply exc_of_wpx
            rw [callN_run T_f_Runner_finish]
            simp [-List.append_assoc, -List.map_append, Tg.putV, Tg.put, Tg.puts, Tg.putF_eq, setAll, Tg.slots, Tg.slotss, wipe, indexV, D.index, atI, ixN, cmpV, deref, asB, asD, asDs, asI, bltV, lenDic, bltD, derefs, D.blt, D.bLen, D.bTuple, D.bList, D.seq, mthV, mthOk, setV, ci_eq, ci_ne, ci_lt, ci_le, ci_gt, ci_ge, cs_eq, cs_ne, cb_eq, cb_ne, D.bin, D.slice, cut, sIx, isNon, f_Runner_finish, runFn, Pg.ndD, inB, D.mem, flat, D.eqv, m1, h, leave]
        · have h := numbers_ok (os := os) (tl := tl) (l := l) (ks := ks) (n := n + 2) (a := a) (h := "plus") (.inl rfl) K V x y hVl
          refine h.via (fun t v h => ?_) (fun d t v h => ?_)
          · apply eq_of_wp
            rw [callN_run T_f_Runner_finish]
            simp [-List.append_assoc, -List.map_append, Tg.putV, Tg.put, Tg.puts, Tg.putF_eq, setAll, Tg.slots, Tg.slotss, wipe, indexV, D.index, atI, ixN, cmpV, deref, asB, asD, asDs, asI, bltV, lenDic, bltD, derefs, D.blt, D.bLen, D.bTuple, D.bList, D.seq, mthV, mthOk, setV, ci_eq, ci_ne, ci_lt, ci_le, ci_gt, ci_ge, cs_eq, cs_ne, cb_eq, cb_ne, D.bin, D.slice, cut, sIx, isNon, f_Runner_finish, runFn, Pg.ndD, inB, D.mem, flat, D.eqv, m2, h, leave]
          · apply exc_of_wpx
            rw [callN_run T_f_Runner_finish]
            simp [-List.append_assoc, -List.map_append, Tg.putV, Tg.put, Tg.puts, Tg.putF_eq, setAll, Tg.slots, Tg.slotss, wipe, indexV, D.index, atI, ixN, cmpV, deref, asB, asD, asDs, asI, bltV, lenDic, bltD, derefs, D.blt, D.bLen, D.bTuple, D.bList, D.seq, mthV, mthOk, setV, ci_eq, ci_ne, ci_lt, ci_le, ci_gt, ci_ge, cs_eq, cs_ne, cb_eq, cb_ne, D.bin, D.slice, cut, sIx, isNon, f_Runner_finish, runFn, Pg.ndD, inB, D.mem, flat, D.eqv, m2, h, leave]
        · have h := numbers_ok (os := os) (tl := tl) (l := l) (ks := ks) (n := n + 2) (a := a) (h := "less") (.inr rfl) K V x y hVl
          refine h.via (fun t v h => ?_) (fun d t v h => ?_)
          · apply eq_of_wp
            rw [callN_run T_f_Runner_finish]
            simp [-List.append_assoc, -List.map_append, Tg.putV, Tg.put, Tg.puts, Tg.putF_eq, setAll, Tg.slots, Tg.slotss, wipe, indexV, D.index, atI, ixN, cmpV, deref, asB, asD, asDs, asI, bltV, lenDic, bltD, derefs, D.blt, D.bLen, D.bTuple, D.bList, D.seq, mthV, mthOk, setV, ci_eq, ci_ne, ci_lt, ci_le, ci_gt, ci_ge, cs_eq, cs_ne, cb_eq, cb_ne, D.bin, D.slice, cut, sIx, isNon, f_Runner_finish, runFn, Pg.ndD, inB, D.mem, flat, D.eqv, m2, h, leave]
          · apply exc_of_wpx
            rw [callN_run T_f_Runner_finish]
            simp [-List.append_assoc, -List.map_append, Tg.putV, Tg.put, Tg.puts, Tg.putF_eq, setAll, Tg.slots, Tg.slotss, wipe, indexV, D.index, atI, ixN, cmpV, deref, asB, asD, asDs, asI, bltV, lenDic, bltD, derefs, D.blt, D.bLen, D.bTuple, D.bList, D.seq, mthV, mthOk, setV, ci_eq, ci_ne, ci_lt, ci_le, ci_gt, ci_ge, cs_eq, cs_ne, cb_eq, cb_ne, D.bin, D.slice, cut, sIx, isNon, f_Runner_finish, runFn, Pg.ndD, inB, D.mem, flat, D.eqv, m2, h, leave]
        · have h := put_ok (os := os) (tl := tl) (l := l) (ks := ks) (n := n) (a := a) (h := "pair") (.inl rfl) K V x y hVl
          refine h.via (fun t v h => ?_) (fun d t v h => ?_)
          · apply eq_of_wp
            rw [callN_run T_f_Runner_finish]
            simp [-List.append_assoc, -List.map_append, Tg.putV, Tg.put, Tg.puts, Tg.putF_eq, setAll, Tg.slots, Tg.slotss, wipe, indexV, D.index, atI, ixN, cmpV, deref, asB, asD, asDs, asI, bltV, lenDic, bltD, derefs, D.blt, D.bLen, D.bTuple, D.bList, D.seq, mthV, mthOk, setV, ci_eq, ci_ne, ci_lt, ci_le, ci_gt, ci_ge, cs_eq, cs_ne, cb_eq, cb_ne, D.bin, D.slice, cut, sIx, isNon, f_Runner_finish, runFn, Pg.ndD, inB, D.mem, flat, D.eqv, m3, h, leave]
          · apply exc_of_wpx
            rw [callN_run T_f_Runner_finish]
            simp [-List.append_assoc, -List.map_append, Tg.putV, Tg.put, Tg.puts, Tg.putF_eq, setAll, Tg.slots, Tg.slotss, wipe, indexV, D.index, atI, ixN, cmpV, deref, asB, asD, asDs, asI, bltV, lenDic, bltD, derefs, D.blt, D.bLen, D.bTuple, D.bList, D.seq, mthV, mthOk, setV, ci_eq, ci_ne, ci_lt, ci_le, ci_gt, ci_ge, cs_eq, cs_ne, cb_eq, cb_ne, D.bin, D.slice, cut, sIx, isNon, f_Runner_finish, runFn, Pg.ndD, inB, D.mem, flat, D.eqv, m3, h, leave]
        · have h := put_ok (os := os) (tl := tl) (l := l) (ks := ks) (n := n) (a := a) (h := "cons") (.inr rfl) K V x y hVl
          refine h.via (fun t v h => ?_) (fun d t v h => ?_)
          · apply eq_of_wp
            rw [callN_run T_f_Runner_finish]
            simp [-List.append_assoc, -List.map_append, Tg.putV, Tg.put, Tg.puts, Tg.putF_eq, setAll, Tg.slots, Tg.slotss, wipe, indexV, D.index, atI, ixN, cmpV, deref, asB, asD, asDs, asI, bltV, lenDic, bltD, derefs, D.blt, D.bLen, D.bTuple, D.bList, D.seq, mthV, mthOk, setV, ci_eq, ci_ne, ci_lt, ci_le, ci_gt, ci_ge, cs_eq, cs_ne, cb_eq, cb_ne, D.bin, D.slice, cut, sIx, isNon, f_Runner_finish, runFn, Pg.ndD, inB, D.mem, flat, D.eqv, m3, h, leave]
          · apply exc_of_wpx
            rw [callN_run T_f_Runner_finish]
            simp [-List.append_assoc, -List.map_append, Tg.putV, Tg.put, Tg.puts, Tg.putF_eq, setAll, Tg.slots, Tg.slotss, wipe, indexV, D.index, atI, ixN, cmpV, deref, asB, asD, asDs, asI, bltV, lenDic, bltD, derefs, D.blt, D.bLen, D.bTuple, D.bList, D.seq, mthV, mthOk, setV, ci_eq, ci_ne, ci_lt, ci_le, ci_gt, ci_ge, cs_eq, cs_ne, cb_eq, cb_ne, D.bin, D.slice, cut, sIx, isNon, f_Runner_finish, runFn, Pg.ndD, inB, D.mem, flat, D.eqv, m3, h, leave]
    · match told, h2 with
      | [], h2 => simp [early] at h2
      | v :: V, _ =>
        show _ = _
        apply eq_of_wp
        rw [callN_run T_f_Runner_finish]
        simp only [vs1, ts1]
        simp [-List.append_assoc, -List.map_append, Tg.putV, Tg.put, Tg.puts, Tg.putF_eq, setAll, Tg.slots, Tg.slotss, wipe, indexV, D.index, atI, ixN, cmpV, deref, asB, asD, asDs, asI, bltV, lenDic, bltD, derefs, D.blt, D.bLen, D.bTuple, D.bList, D.seq, mthV, mthOk, setV, ci_eq, ci_ne, ci_lt, ci_le, ci_gt, ci_ge, cs_eq, cs_ne, cb_eq, cb_ne, D.bin, D.slice, cut, sIx, isNon, f_Runner_finish, runFn, Pg.ndD, inB, D.mem, flat, D.eqv, fT, fV, okT, okV, popV, pT, ts1, tkD, En.dP, leave]
  | thr w xs q r s =>
    rw [hp] at hnd sk' h2
    rw [← hnd]
    obtain ⟨⟨rfl, rfl, _⟩, _⟩ := sk'
    match told, h2 with
    | [], h2 => simp [early] at h2
    | v :: V, _ =>
      have st : ∀ w, v.wd = w → ¬ w = "truth" → callN T (n + 4) "Runner.finish" [.d (.oid os.length), .d ((Pg.thr "if" [] q r s).ndD a), .d e.dP] (rnS os tl l (tsD K) (vsD (v :: V)) ks) = .exc "Ended" [("end", (Fin'.stuck a).d)] (rnS os tl l (tsD K) (vsD V) ks) := fun w hw hne => by
        apply exc_of_wpx
        rw [callN_run T_f_Runner_finish]
        simp only [vs1]
        have h0 := v.ix0
        rw [hw] at h0
        simp [-List.append_assoc, -List.map_append, Tg.putV, Tg.put, Tg.puts, Tg.putF_eq, setAll, Tg.slots, Tg.slotss, wipe, indexV, cmpV, deref, asB, asD, asDs, asI, bltV, lenDic, bltD, derefs, D.blt, D.bLen, D.bTuple, D.bList, D.seq, mthV, mthOk, setV, ci_eq, ci_ne, ci_lt, ci_le, ci_gt, ci_ge, cs_eq, cs_ne, cb_eq, cb_ne, D.bin, isNon, f_Runner_finish, runFn, Pg.ndD, inB, D.mem, flat, D.eqv, fT, fV, okT, okV, popV, h0, hne, Fin'.d, leave]
      cases v with
      | tru c =>
        clear st
        show _ = _
        apply eq_of_wp
        rw [callN_run T_f_Runner_finish]
        simp only [vs1, ts1]
        cases c <;> simp [-List.append_assoc, -List.map_append, Tg.putV, Tg.put, Tg.puts, Tg.putF_eq, setAll, Tg.slots, Tg.slotss, wipe, indexV, D.index, atI, ixN, cmpV, deref, asB, asD, asDs, asI, bltV, lenDic, bltD, derefs, D.blt, D.bLen, D.bTuple, D.bList, D.seq, mthV, mthOk, setV, ci_eq, ci_ne, ci_lt, ci_le, ci_gt, ci_ge, cs_eq, cs_ne, cb_eq, cb_ne, D.bin, D.slice, cut, sIx, isNon, f_Runner_finish, runFn, Pg.ndD, inB, D.mem, flat, D.eqv, fT, fV, okT, okV, popV, pT, ts1, tkD, Vl.dP, leave]
      | num i => exact ⟨_, _, st _ rfl (by simp [Vl.wd])⟩
      | nil => exact ⟨_, _, st _ rfl (by simp [Vl.wd])⟩
      | fn _ _ _ _ => exact ⟨_, _, st _ rfl (by simp [Vl.wd])⟩
      | pr c x y => exact ⟨_, _, st _ rfl (by cases c <;> simp [Vl.wd, pw])⟩
end
end Prog

namespace Prog
open Ir
theorem big_ten : 2 ^ 1919 ≤ 10 ^ 578 := by decide +kernel
theorem str_big {i : Int} (h : i.natAbs < 2 ^ 1919) : (toString i).length ≤ 579 := by
  have hd : ∀ n : Nat, n < 2 ^ 1919 → (toString n).length ≤ 578 := fun n hn => by
    have := digits_len 577 n (Nat.lt_of_lt_of_le hn big_ten)
    show (Nat.repr n).length ≤ 578
    simp only [Nat.repr, String.length_ofList]
    exact this
  cases i with
  | ofNat n => have := hd n (by simpa using h); show (toString n).length ≤ 579; omega
  | negSucc n =>
    have := hd (n + 1) (by simpa using h)
    show ("-" ++ toString (n + 1)).length ≤ 579
    rw [String.length_append]
    have : "-".length = 1 := by decide
    omega
theorem log_big {i : Int} (h : i.natAbs < 2 ^ 1919) : i.natAbs.log2 < 1920 := by
  by_cases c : i.natAbs = 0
  · rw [c]; decide
  · exact (Nat.log2_lt c).mpr (Nat.lt_trans h (Nat.pow_lt_pow_right (by decide) (by decide)))
theorem Vl.txt_len {R : List D} {b : Nat} (hb : b ≤ 1919) : ∀ v : Vl, v.ok R b → v.txt.length ≤ 600 * v.sz
  | .num i, h => by
    have := str_big (Nat.lt_of_lt_of_le h (Nat.pow_le_pow_right (by decide) hb))
    show (toString i).length ≤ 600 * 1
    omega
  | .tru true, _ => by show ("true" : String).length ≤ 600; decide
  | .tru false, _ => by show ("false" : String).length ≤ 600; decide
  | .nil, _ => by show ("nil" : String).length ≤ 600; decide
  | .fn _ _ _ _, _ => by show ("fn" : String).length ≤ 600; decide
  | .pr c x y, h => by
    have h1 := x.txt_len hb h.1
    have h2 := y.txt_len hb h.2
    have h3 : (pw c).length = 4 := by cases c <;> decide
    have e1 : "(".length = 1 := by decide
    have e2 : " ".length = 1 := by decide
    have e3 : ")".length = 1 := by decide
    simp only [Vl.txt, Vl.sz, String.length_append, h3, e1, e2, e3]
    omega
set_option maxHeartbeats 2000000 in
theorem shown_ok {R : List D} {b : Nat} (hb : b ≤ 1919) : ∀ (v : Vl), v.ok R b → v.sz ≤ 1000 → ∀ (n : Nat) (st : Store), v.dp ≤ n → callN T n "shown" [.d v.dP] st = .ok (.d (.str v.txt)) st
  | .num i, h, _, n + 1, st, _ => by
    have hl := log_big (Nat.lt_of_lt_of_le h (Nat.pow_le_pow_right (by decide) hb))
    apply eq_of_wp
    rw [callN_run T_f_shown]
    simp [Tg.putV, Tg.put, Tg.puts, Tg.putF_eq, setAll, Tg.slots, Tg.slotss, wipe, indexV, D.index, atI, ixN, cmpV, deref, asB, asD, asDs, asI, bltV, lenDic, bltD, derefs, D.blt, D.bLen, D.bTuple, D.bList, D.seq, mthV, mthOk, setV, ci_eq, ci_ne, ci_lt, ci_le, ci_gt, ci_ge, cs_eq, cs_ne, cb_eq, cb_ne, D.bin, D.slice, cut, sIx, isNon, f_shown, runFn, Vl.dP, D.bStr, hl, leave, Vl.txt]
  | .tru c, _, _, n + 1, st, _ => by
    apply eq_of_wp
    rw [callN_run T_f_shown]
    cases c <;> simp [Tg.putV, Tg.put, Tg.puts, Tg.putF_eq, setAll, Tg.slots, Tg.slotss, wipe, indexV, D.index, atI, ixN, cmpV, deref, asB, asD, asDs, asI, bltV, lenDic, bltD, derefs, D.blt, D.bLen, D.bTuple, D.bList, D.seq, mthV, mthOk, setV, ci_eq, ci_ne, ci_lt, ci_le, ci_gt, ci_ge, cs_eq, cs_ne, cb_eq, cb_ne, D.bin, D.slice, cut, sIx, isNon, f_shown, runFn, Vl.dP, leave, Vl.txt]
  | .nil, _, _, n + 1, st, _ => by
    apply eq_of_wp
    rw [callN_run T_f_shown]
    simp [Tg.putV, Tg.put, Tg.puts, Tg.putF_eq, setAll, Tg.slots, Tg.slotss, wipe, indexV, D.index, atI, ixN, cmpV, deref, asB, asD, asDs, asI, bltV, lenDic, bltD, derefs, D.blt, D.bLen, D.bTuple, D.bList, D.seq, mthV, mthOk, setV, ci_eq, ci_ne, ci_lt, ci_le, ci_gt, ci_ge, cs_eq, cs_ne, cb_eq, cb_ne, D.bin, D.slice, cut, sIx, isNon, f_shown, runFn, Vl.dP, inB, D.mem, flat, D.eqv, leave, Vl.txt]
  | .fn xs p a e, _, _, n + 1, st, _ => by
    apply eq_of_wp
    rw [callN_run T_f_shown]
    simp [Tg.putV, Tg.put, Tg.puts, Tg.putF_eq, setAll, Tg.slots, Tg.slotss, wipe, indexV, D.index, atI, ixN, cmpV, deref, asB, asD, asDs, asI, bltV, lenDic, bltD, derefs, D.blt, D.bLen, D.bTuple, D.bList, D.seq, mthV, mthOk, setV, ci_eq, ci_ne, ci_lt, ci_le, ci_gt, ci_ge, cs_eq, cs_ne, cb_eq, cb_ne, D.bin, D.slice, cut, sIx, isNon, f_shown, runFn, Vl.dP, inB, D.mem, flat, D.eqv, leave, Vl.txt]
  | .pr c x y, h, hz, n + 1, st, hn => by
    have h1 := fun st => shown_ok hb x h.1 (by simp only [Vl.sz] at hz; omega) n st (by simp only [Vl.dp] at hn; omega)
    have h2 := fun st => shown_ok hb y h.2 (by simp only [Vl.sz] at hz; omega) n st (by simp only [Vl.dp] at hn; omega)
    have l1 := x.txt_len hb h.1
    have l2 := y.txt_len hb h.2
    have z1 : x.txt.length ≤ LIM := by rw [LIM_eq]; simp only [Vl.sz] at hz; omega
    have z2 : y.txt.length ≤ LIM := by rw [LIM_eq]; simp only [Vl.sz] at hz; omega
    have q1 : 4 ≤ LIM := by rw [LIM_eq]; decide
    have q3 : ("pair" : String).length = 4 := by decide
    have q4 : ("cons" : String).length = 4 := by decide
    have e1 : ("(" : String).length = 1 := by decide
    have e2 : (" " : String).length = 1 := by decide
    have e3 : (")" : String).length = 1 := by decide
    have hs : 1 + (4 + (1 + (x.txt.length + (1 + (y.txt.length + 1))))) ≤ LIM := by rw [LIM_eq]; simp only [Vl.sz] at hz; omega
    apply eq_of_wp
    rw [callN_run T_f_shown]
    cases c
    · simp [Tg.putV, Tg.put, Tg.puts, Tg.putF_eq, setAll, Tg.slots, Tg.slotss, wipe, indexV, D.index, atI, ixN, cmpV, deref, asB, asD, asDs, asI, bltV, lenDic, bltD, derefs, D.blt, D.bLen, D.bTuple, D.bList, D.seq, mthV, mthOk, setV, ci_eq, ci_ne, ci_lt, ci_le, ci_gt, ci_ge, cs_eq, cs_ne, cb_eq, cb_ne, D.bin, D.slice, cut, sIx, isNon, f_shown, runFn, Vl.dP, inB, D.mem, flat, D.eqv, pw, D.bStr, h1, h2, z1, z2, q1, q3, e1, e2, e3, hs, D.strs, joinS, leave, Vl.txt]
      done
    · simp [Tg.putV, Tg.put, Tg.puts, Tg.putF_eq, setAll, Tg.slots, Tg.slotss, wipe, indexV, D.index, atI, ixN, cmpV, deref, asB, asD, asDs, asI, bltV, lenDic, bltD, derefs, D.blt, D.bLen, D.bTuple, D.bList, D.seq, mthV, mthOk, setV, ci_eq, ci_ne, ci_lt, ci_le, ci_gt, ci_ge, cs_eq, cs_ne, cb_eq, cb_ne, D.bin, D.slice, cut, sIx, isNon, f_shown, runFn, Vl.dP, inB, D.mem, flat, D.eqv, pw, D.bStr, h1, h2, z1, z2, q1, q4, e1, e2, e3, hs, D.strs, joinS, leave, Vl.txt]
      done
  | .pr _ _ _, _, _, 0, _, hn => by simp [Vl.dp] at hn
  | .num _, _, _, 0, _, hn => by simp [Vl.dp] at hn
  | .tru _, _, _, 0, _, hn => by simp [Vl.dp] at hn
  | .nil, _, _, 0, _, hn => by simp [Vl.dp] at hn
  | .fn _ _ _ _, _, _, 0, _, hn => by simp [Vl.dp] at hn
theorem bounded_len : ∀ {N : Nat} {bg : List Nat}, bg.Nodup → (∀ k ∈ bg, k < N) → bg.length ≤ N := fun {N bg} nd lt => by
  have h := nd.length_le_of_subset (l₂ := List.range N) fun k hk => List.mem_range.mpr (lt k hk)
  simpa using h
/-- how a run ends, as it is told -/
def Fin'.eD : Fin' → D
  | .val v => .tup [.str "value", .str (if 200 < v.sz then "large" else v.txt)]
  | f => f.d
theorem fns_nv {a : Nat} {e : En} {K : List Tk} {p : Pg} {V : List Vl} {f : Fin'} (h : fns a e K p V = .inr f) : f.eD = f.d := by
  cases f with
  | val v =>
    exfalso
    unfold fns oud enter chose at h
    repeat' split at h
    all_goals simp at h
  | _ => rfl
set_option maxHeartbeats 4000000 in
theorem go_ok {R : List D} {C b0 : Nat} {m0 : Ms} (wf : Wf R C m0 b0) (hC : C ≤ 3838) (hR : R.length ≤ 1000) {os : List Obj} {tl : Store} {n : Nat} :
    ∃ f bg l ts vs, Runs m0 f bg ∧ callN T (n + 106) "Runner.go_on" [.d (.oid os.length)] (rnS os tl m0.left (tsD m0.todo) (vsD m0.told) (ksD m0.bg)) = .ok (.d f.eD) (rnS os tl l ts vs (ksD bg)) ∧ bg.Nodup ∧ ∀ k ∈ bg, k < R.length := by
  suffices h : @Wp _ (callN T (n + 106) "Runner.go_on" [.d (.oid os.length)] (rnS os tl m0.left (tsD m0.todo) (vsD m0.told) (ksD m0.bg))) ⟨fun v s => ∃ f bg l ts vs, Runs m0 f bg ∧ v = .d f.eD ∧ s = rnS os tl l ts vs (ksD bg) ∧ bg.Nodup ∧ ∀ k ∈ bg, k < R.length⟩ by
    obtain ⟨v, s, e, f, bg, l, ts, vs, h1, rfl, rfl, h2⟩ := wp_iff.mp h
    exact ⟨f, bg, l, ts, vs, h1, e, h2⟩
  rw [callN_run T_f_Runner_go_on]
  simp [runFn, f_Runner_go_on]
  refine wp_while (I := fun k σ st => ∃ (m : Ms) (b : Nat) (x2 x3 x4 : Option Val), Wf R C m b ∧ k = 2 * m.left + rdy m.todo ∧ σ = [some (.d (.oid os.length)), none, x2, x3, x4, none] ∧ st = rnS os tl m.left (tsD m.todo) (vsD m.told) (ksD m.bg) ∧ ∀ f bg, Runs m f bg → Runs m0 f bg)
    ?_ (2 * m0.left + rdy m0.todo) _ _ ⟨m0, b0, none, none, none, wf, rfl, rfl, rfl, fun _ _ h => h⟩
  rintro k σ st ⟨m, b, x2, x3, x4, wf, rfl, rfl, rfl, hr⟩
  obtain ⟨todo, told, bg, left⟩ := m
  have hbb : 2 * b ≤ C := by have := wf.hC; omega
  simp only at wf hr ⊢
  simp only [f_Runner_go_on_w0, condB]
  cases todo with
  | nil =>
    have hb : told.length = 1 := wf.bl
    match told, hb with
    | [v], _ =>
      have hv := wf.vs v (by simp)
      have hs := fun st (hz : v.sz ≤ 1000) (hd : v.dp ≤ n + 105) => shown_ok (by omega) v hv hz (n + 105) st hd
      have pv : ∀ (l : Int) (ts : List D) (ks : List (D × D)), omV .pop (rnS os tl l ts [v.dP] ks) (.d (.oid (os.length + 2))) [] = .ok (.d v.dP) (rnS os tl l ts [] ks) := fun l ts ks => popV (vs := [])
      have run : Runs ⟨[], [v], bg, left⟩ (.val v) bg := .fin rfl
      have hso := fun st => size_of_ok (n := n + 104) v st
      by_cases hz : 200 < v.sz
      · have hz' : (200 : Int) < (v.sz : Int) := by omega
        simp [-List.append_assoc, Tg.putV, Tg.put, Tg.puts, Tg.putF_eq, setAll, Tg.slots, Tg.slotss, wipe, indexV, D.index, atI, ixN, cmpV, deref, asB, asD, asDs, asI, bltV, lenDic, bltD, derefs, D.blt, D.bLen, D.bTuple, D.bList, D.seq, mthV, mthOk, setV, ci_eq, ci_ne, ci_lt, ci_le, ci_gt, ci_ge, cs_eq, cs_ne, cb_eq, cb_ne, D.bin, D.slice, cut, sIx, isNon, fT, nnT, tsD, vsD, fV, okV, pv, hso, hz', leave]
        exact ⟨.val v, bg, hr _ _ run, by simp [Fin'.eD, hz], ⟨_, _, _, rfl⟩, wf.nd, wf.lt⟩
      · have hz' : ¬ (200 : Int) < (v.sz : Int) := by omega
        have hs := fun st => hs st (by omega) (by have := v.dp_sz; omega)
        simp [-List.append_assoc, Tg.putV, Tg.put, Tg.puts, Tg.putF_eq, setAll, Tg.slots, Tg.slotss, wipe, indexV, D.index, atI, ixN, cmpV, deref, asB, asD, asDs, asI, bltV, lenDic, bltD, derefs, D.blt, D.bLen, D.bTuple, D.bList, D.seq, mthV, mthOk, setV, ci_eq, ci_ne, ci_lt, ci_le, ci_gt, ci_ge, cs_eq, cs_ne, cb_eq, cb_ne, D.bin, D.slice, cut, sIx, isNon, fT, nnT, tsD, vsD, fV, okV, pv, hso, hs, hz', leave]
        exact ⟨.val v, bg, hr _ _ run, by simp [Fin'.eD, hz], ⟨_, _, _, rfl⟩, wf.nd, wf.lt⟩
  | cons t K =>
    obtain ⟨p, a, e, r⟩ := t
    have ts1 : ∀ (K : List Tk) (t : Tk), tsD (t :: K) = tsD K ++ [tkD t] := fun K t => by simp [tsD]
    have ne : ∀ (ts : List D) (x : D), (ts ++ [x]).isEmpty = false := fun ts x => by cases ts <;> rfl
    have tk0 := wf.tk _ List.mem_cons_self
    have hK : K.length < 10000 := by have := wf.hT; simp at this; omega
    have hV : told.length < 10000 := by have := wf.hC; simp at this; omega
    have hbg : bg.length < 10000 := by
      have := bounded_len wf.nd wf.lt
      simp at this; omega
    cases r with
    | false =>
      have mb : ∀ (l : Int) (ts vs : List D) (ks : List (D × D)), methOk (rnS os tl l ts vs ks) (.d (.oid os.length)) "Runner" "begin" = true := fun l ts vs ks => mOk rfl
      cases left with
      | zero =>
        have h := begin_far (n := n + 104) (os := os) (tl := tl) p a e K told bg
        rw [show ((0 : Nat) : Int) = 0 from rfl] at h
        have run : Runs ⟨(p, a, e, false) :: K, told, bg, 0⟩ .far bg := .fin rfl
        simp [-List.append_assoc, Tg.putV, Tg.put, Tg.puts, Tg.putF_eq, setAll, Tg.slots, Tg.slotss, wipe, indexV, D.index, atI, ixN, cmpV, deref, asB, asD, asDs, asI, bltV, lenDic, bltD, derefs, D.blt, D.bLen, D.bTuple, D.bList, D.seq, mthV, mthOk, setV, ci_eq, ci_ne, ci_lt, ci_le, ci_gt, ci_ge, cs_eq, cs_ne, cb_eq, cb_ne, D.bin, D.slice, cut, sIx, isNon, fT, nnT, ts1, ne, popT, okT, f_Runner_go_on_b0, tkD, mb, h, lookF, leave]
        exact ⟨.far, bg, hr _ _ run, rfl, ⟨_, _, _, rfl⟩, wf.nd, wf.lt⟩
      | succ l =>
        have h := begin_ok (n := n + 103) (os := os) (tl := tl) (a := a) (l := l) (e := e) (K := K) (V := told) (bg := bg) tk0.sk tk0.cl hK hV hbg
        rw [show ((l + 1 : Nat) : Int) = (l : Int) + 1 from rfl] at h
        have hst : stp ⟨(p, a, e, false) :: K, told, bg, l + 1⟩ = .inl ⟨(bgn p a e K told p.core).1, (bgn p a e K told p.core).2, addK bg a, l⟩ := rfl
        obtain ⟨b', wf', hm⟩ := wf_step wf hst
        simp [-List.append_assoc, Tg.putV, Tg.put, Tg.puts, Tg.putF_eq, setAll, Tg.slots, Tg.slotss, wipe, indexV, D.index, atI, ixN, cmpV, deref, asB, asD, asDs, asI, bltV, lenDic, bltD, derefs, D.blt, D.bLen, D.bTuple, D.bList, D.seq, mthV, mthOk, setV, ci_eq, ci_ne, ci_lt, ci_le, ci_gt, ci_ge, cs_eq, cs_ne, cb_eq, cb_ne, D.bin, D.slice, cut, sIx, isNon, fT, nnT, ts1, ne, popT, okT, f_Runner_go_on_b0, tkD, mb, h, leave]
        exact ⟨_, hm, _, ⟨b', wf'⟩, rfl, rfl, fun f bg' r => hr f bg' (.go hst r)⟩
    | true =>
      have mf : ∀ (l : Int) (ts vs : List D) (ks : List (D × D)), methOk (rnS os tl l ts vs ks) (.d (.oid os.length)) "Runner" "finish" = true := fun l ts vs ks => mOk rfl
      have bl := wf.bl
      simp only [bal] at bl
      have h := finish_ok (n := n + 101) (os := os) (tl := tl) (l := left) (ks := ksD bg) (a := a) (e := e) (K := K) (told := told) tk0.sk bl.1 bl.2.1 bl.2.2.1 hK hV (fun v hv xs q b e hx => by
        have := wf.vs v hv
        rw [hx] at this
        exact this.1)
      have hst : stp ⟨(p, a, e, true) :: K, told, bg, left⟩ = (match fns a e K p.core told with | .inl (t, v) => .inl ⟨t, v, bg, left⟩ | .inr f => .inr f) := rfl
      cases hf : fns a e K p.core told with
      | inl tv =>
        obtain ⟨t, v⟩ := tv
        rw [hf] at h hst
        have h : _ = _ := h
        obtain ⟨b', wf', hm⟩ := wf_step wf hst
        simp [-List.append_assoc, Tg.putV, Tg.put, Tg.puts, Tg.putF_eq, setAll, Tg.slots, Tg.slotss, wipe, indexV, D.index, atI, ixN, cmpV, deref, asB, asD, asDs, asI, bltV, lenDic, bltD, derefs, D.blt, D.bLen, D.bTuple, D.bList, D.seq, mthV, mthOk, setV, ci_eq, ci_ne, ci_lt, ci_le, ci_gt, ci_ge, cs_eq, cs_ne, cb_eq, cb_ne, D.bin, D.slice, cut, sIx, isNon, fT, nnT, ts1, ne, popT, okT, f_Runner_go_on_b0, tkD, mf, h, leave]
        exact ⟨_, hm, _, ⟨b', wf'⟩, rfl, rfl, fun f bg' r => hr f bg' (.go hst r)⟩
      | inr f =>
        rw [hf] at h hst
        obtain ⟨ts, vs, h⟩ := h
        simp [-List.append_assoc, Tg.putV, Tg.put, Tg.puts, Tg.putF_eq, setAll, Tg.slots, Tg.slotss, wipe, indexV, D.index, atI, ixN, cmpV, deref, asB, asD, asDs, asI, bltV, lenDic, bltD, derefs, D.blt, D.bLen, D.bTuple, D.bList, D.seq, mthV, mthOk, setV, ci_eq, ci_ne, ci_lt, ci_le, ci_gt, ci_ge, cs_eq, cs_ne, cb_eq, cb_ne, D.bin, D.slice, cut, sIx, isNon, fT, nnT, ts1, ne, popT, okT, f_Runner_go_on_b0, tkD, mf, h, lookF, leave]
        exact ⟨f, bg, hr _ _ (.fin hst), (fns_nv hf).symm, ⟨_, _, _, rfl⟩, wf.nd, wf.lt⟩
end Prog

namespace Prog
open Ir
def msO (p : Pg) (most : Nat) : Ms := ⟨[(p, 0, .nil, false)], [], [], most⟩
theorem wf_top {p : Pg} {most : Nat} (sk : p.sk) (nb : p.nb) (cl : p.cl [] = true) : Wf (p.rws 0) (400 + most) (msO p most) 200 := by
  refine ⟨fun t ht => ?_, fun v hv => (by cases hv), rfl, ?_, ?_, Nat.le_refl _, List.nodup_nil, fun k hk => (by cases hk)⟩
  · rw [List.mem_singleton.mp ht]
    exact ⟨sk, nb, cl, ⟨[], [], by simp, rfl⟩, Nat.zero_le _, trivial⟩
  · simp [msO, rdy]
  · simp only [msO, List.length_singleton]; omega
section
variable {os : List Obj} {tl : Store} {n : Nat}
set_option maxHeartbeats 2000000 in
theorem init_ok {p : Pg} {most : Nat} (sk : p.sk) (hn : p.h + 1 ≤ n) :
    callN T (n + 1) "Runner.__init__" [.d (.oid os.length), .d p.d, .d (.int most)] (.arena (os ++ [.inst "Runner" []]) :: tl) = .ok (.d .non) (rnS os tl most (tsD (msO p most).todo) (vsD []) (ksD [])) := by
  have hnum := fun st => numbered_ok p sk n 0 st hn
  rw [show ((0 : Nat) : Int) = 0 from rfl] at hnum
  apply eq_of_wp
  rw [callN_run T_f_Runner___init__]
  simp [Tg.putV, Tg.put, Tg.puts, Tg.putF_eq, setAll, Tg.slots, Tg.slotss, wipe, indexV, D.index, atI, ixN, cmpV, deref, asB, asD, asDs, asI, bltV, lenDic, bltD, derefs, D.blt, D.bLen, D.bTuple, D.bList, D.seq, mthV, mthOk, setV, ci_eq, ci_ne, ci_lt, ci_le, ci_gt, ci_ge, cs_eq, cs_ne, cb_eq, cb_ne, D.bin, D.slice, cut, sIx, isNon, f_Runner___init__, runFn, hnum, setFV_ar, putFd, leave]
  simp [rnA, msO, tsD, tkD, vsD, En.dP]
theorem make_ok {p : Pg} {most : Nat} (sk : p.sk) (hn : p.h + 1 ≤ n) :
    callN T (n + 2) "Runner" [.d p.d, .d (.int most)] (.arena os :: tl) = .ok (.d (.oid os.length)) (rnS os tl most (tsD (msO p most).todo) (vsD []) (ksD [])) := by
  have h := init_ok (os := os) (tl := tl) (n := n) (most := most) sk hn
  apply eq_of_wp
  rw [callN_run T_f_Runner]
  simp [Tg.putV, Tg.put, Tg.puts, Tg.putF_eq, setAll, Tg.slots, Tg.slotss, wipe, indexV, D.index, atI, ixN, cmpV, deref, asB, asD, asDs, asI, bltV, lenDic, bltD, derefs, D.blt, D.bLen, D.bTuple, D.bList, D.seq, mthV, mthOk, setV, ci_eq, ci_ne, ci_lt, ci_le, ci_gt, ci_ge, cs_eq, cs_ne, cb_eq, cb_ne, D.bin, D.slice, cut, sIx, isNon, f_Runner, runFn, h, isNon, leave]
abbrev bgD (bg : List Nat) : D := .lst ((sortI (bg.map fun k : Nat => (k : Int))).map .int)
theorem ints_ks : ∀ bg : List Nat, D.ints ((ksD bg).map (·.1)) = some (bg.map fun k : Nat => (k : Int))
  | [] => rfl
  | k :: bg => by
    have := ints_ks bg
    simp only [ksD, List.map_cons, List.map_map] at this ⊢
    simp only [D.ints, this, Option.map_some]
theorem dk_rn {l : Int} {ts vs : List D} {bg : List Nat} (h : bg.length < 64) : dkeysV (rnS os tl l ts vs (ksD bg)) (.d (.oid (os.length + 3))) = some (bgD bg) := by
  have e : (match getO (rnS os tl l ts vs (ksD bg)) (.d (.oid (os.length + 3))) with
    | some (_, .dic kvs) => (D.ints (kvs.map (·.1))).bind fun l => if l.length < 64 then some (D.lst ((sortI l).map .int)) else none
    | _ => none) = some (bgD bg) := by
    rw [getO_ar, rn3]
    simp only [Option.map_some, ints_ks, Option.bind_some]
    rw [if_pos (by simpa using h)]
  exact e
set_option maxHeartbeats 2000000 in
theorem run_ok {p : Pg} {most : Nat} (sk : p.sk) (nb : p.nb) (cl : p.cl [] = true) (hp : p.pl < 64) (hh : p.h ≤ 100) (hm : most ≤ 3000) :
    ∃ f bg X, Runs (msO p most) f bg ∧ bg.length < 64 ∧ callN T (n + 107) "run" [.d p.d, .d (.int most)] (.arena os :: tl) = .ok (.d (.tup [f.eD, bgD bg])) (.arena (os ++ X) :: tl) := by
  have hR : (p.rws 0).length ≤ 1000 := by rw [p.rws_length]; omega
  obtain ⟨f, bg, l, ts, vs, h1, h2, h3, h4⟩ := go_ok (wf_top (most := most) sk nb cl) (by omega) hR (os := os) (tl := tl) (n := n)
  have hb := bounded_len h3 h4
  rw [p.rws_length] at hb
  refine ⟨f, bg, [rnO os.length l, .lst ts, .lst vs, .dic (ksD bg)], h1, by omega, ?_⟩
  show _ = Res.ok _ (rnS os tl l ts vs (ksD bg))
  have mk := make_ok (os := os) (tl := tl) (n := n + 104) (most := most) sk (by omega)
  have mg : ∀ (l : Int) (ts vs : List D) (ks : List (D × D)), methOk (rnS os tl l ts vs ks) (.d (.oid os.length)) "Runner" "go_on" = true := fun l ts vs ks => mOk rfl
  have dk := dk_rn (os := os) (tl := tl) (l := l) (ts := ts) (vs := vs) (bg := bg) (by omega)
  apply eq_of_wp
  rw [callN_run T_f_run]
  simp only [msO] at h2 mk
  rw [show ksD ([] : List Nat) = [] from rfl] at h2 mk
  simp [Tg.putV, Tg.put, Tg.puts, Tg.putF_eq, setAll, Tg.slots, Tg.slotss, wipe, indexV, D.index, atI, ixN, cmpV, deref, asB, asD, asDs, asI, bltV, lenDic, bltD, derefs, D.blt, D.bLen, D.bTuple, D.bList, D.seq, mthV, mthOk, setV, ci_eq, ci_ne, ci_lt, ci_le, ci_gt, ci_ge, cs_eq, cs_ne, cb_eq, cb_ne, D.bin, D.slice, cut, sIx, isNon, f_run, runFn, mk, mg, h2, fB, dk, leave]
end
end Prog

namespace Prog
open Ir
/-! ### the law's rows -/
def Pg.kidD : Pg → List D
  | .one _ _ p => [p.d]
  | .two _ _ p q => [p.d, q.d]
  | .thr _ _ p q r => [p.d, q.d, r.d]
  | _ => []
section
variable {n : Nat} {st : Store}
theorem merge_b3 : mergeF [] [D.str "fn", D.int 1, D.str "rec", D.int 2, D.str "let", D.int 1] = some [(.str "fn", .int 1), (.str "rec", .int 2), (.str "let", .int 1)] := by simp [mergeF, D.key, putK, D.eqv]
theorem get_b3 (h : String) : mGet st.length (st ++ [.dic [(.str "fn", .int 1), (.str "rec", .int 2), (.str "let", .int 1)]]) [.d (.str h), .d (.int 0)] = .ok (.d (.int (if h = "fn" then 1 else if h = "rec" then 2 else if h = "let" then 1 else 0))) (st ++ [.dic [(.str "fn", .int 1), (.str "rec", .int 2), (.str "let", .int 1)]]) := by
  simp only [mGet, get_push, D.key, if_true]
  by_cases h1 : h = "fn"
  · subst h1; simp [lookK, D.eqv]
  · by_cases h2 : h = "rec"
    · subst h2; simp [lookK, D.eqv]
    · by_cases h3 : h = "let"
      · subst h3; simp [lookK, D.eqv]
      · simp [lookK, D.eqv, h1, h2, h3, eq_comm]
theorem binds_ok (h : String) (its : List D) : callN T (n + 1) "_law_binds" [.d (.tup (.str h :: its))] st = .ok (.d (.int (if h = "fn" then 1 else if h = "rec" then 2 else if h = "let" then 1 else 0))) st := by
  apply eq_of_wp
  rw [callN_run T_f_law_binds]
  simp [Tg.putV, Tg.put, Tg.puts, Tg.putF_eq, setAll, Tg.slots, Tg.slotss, wipe, indexV, D.index, atI, ixN, cmpV, deref, asB, asD, asDs, asI, bltV, lenDic, bltD, derefs, D.blt, D.bLen, D.bTuple, D.bList, D.seq, mthV, mthOk, setV, ci_eq, ci_ne, ci_lt, ci_le, ci_gt, ci_ge, cs_eq, cs_ne, cb_eq, cb_ne, D.bin, D.slice, cut, sIx, isNon, f_law_binds, runFn, merge_b3, get_b3, leave]
set_option maxHeartbeats 2000000 in
theorem parts_ok {p : Pg} (sk : p.sk) (ho : p.isOff = false) : callN T (n + 2) "_law_parts" [.d p.d] st = .ok (.ref st.length) (st ++ [.lst p.kidD]) := by
  have hb := fun h its st => binds_ok (n := n) (st := st) h its
  cases p with
  | off q => cases ho
  | num i =>
    apply eq_of_wp
    rw [callN_run T_f_law_parts]
    simp [Tg.putV, Tg.put, Tg.puts, Tg.putF_eq, setAll, Tg.slots, Tg.slotss, wipe, indexV, D.index, atI, ixN, cmpV, deref, asB, asD, asDs, asI, bltV, lenDic, bltD, derefs, D.blt, D.bLen, D.bTuple, D.bList, D.seq, mthV, mthOk, setV, ci_eq, ci_ne, ci_lt, ci_le, ci_gt, ci_ge, cs_eq, cs_ne, cb_eq, cb_ne, D.bin, D.slice, cut, sIx, isNon, f_law_parts, runFn, Pg.d, Pg.kidD, inB, D.mem, fine, D.dep, D.depAll, D.eqv, hb, leave]
  | truth i =>
    apply eq_of_wp
    rw [callN_run T_f_law_parts]
    simp [Tg.putV, Tg.put, Tg.puts, Tg.putF_eq, setAll, Tg.slots, Tg.slotss, wipe, indexV, D.index, atI, ixN, cmpV, deref, asB, asD, asDs, asI, bltV, lenDic, bltD, derefs, D.blt, D.bLen, D.bTuple, D.bList, D.seq, mthV, mthOk, setV, ci_eq, ci_ne, ci_lt, ci_le, ci_gt, ci_ge, cs_eq, cs_ne, cb_eq, cb_ne, D.bin, D.slice, cut, sIx, isNon, f_law_parts, runFn, Pg.d, Pg.kidD, inB, D.mem, fine, D.dep, D.depAll, D.eqv, hb, leave]
  | name i =>
    apply eq_of_wp
    rw [callN_run T_f_law_parts]
    simp [Tg.putV, Tg.put, Tg.puts, Tg.putF_eq, setAll, Tg.slots, Tg.slotss, wipe, indexV, D.index, atI, ixN, cmpV, deref, asB, asD, asDs, asI, bltV, lenDic, bltD, derefs, D.blt, D.bLen, D.bTuple, D.bList, D.seq, mthV, mthOk, setV, ci_eq, ci_ne, ci_lt, ci_le, ci_gt, ci_ge, cs_eq, cs_ne, cb_eq, cb_ne, D.bin, D.slice, cut, sIx, isNon, f_law_parts, runFn, Pg.d, Pg.kidD, inB, D.mem, fine, D.dep, D.depAll, D.eqv, hb, leave]
  | nil =>
    apply eq_of_wp
    rw [callN_run T_f_law_parts]
    simp [Tg.putV, Tg.put, Tg.puts, Tg.putF_eq, setAll, Tg.slots, Tg.slotss, wipe, indexV, D.index, atI, ixN, cmpV, deref, asB, asD, asDs, asI, bltV, lenDic, bltD, derefs, D.blt, D.bLen, D.bTuple, D.bList, D.seq, mthV, mthOk, setV, ci_eq, ci_ne, ci_lt, ci_le, ci_gt, ci_ge, cs_eq, cs_ne, cb_eq, cb_ne, D.bin, D.slice, cut, sIx, isNon, f_law_parts, runFn, Pg.d, Pg.kidD, inB, D.mem, fine, D.dep, D.depAll, D.eqv, hb, leave]
  | one h xs q =>
    apply eq_of_wp
    rw [callN_run T_f_law_parts]
    rcases sk.1 with ⟨hw, rfl⟩ | ⟨rfl, x, rfl, _⟩ | ⟨rfl, f, x, rfl, _⟩
    · simp only [ONES, List.mem_cons, List.not_mem_nil, or_false] at hw
      rcases hw with rfl | rfl | rfl | rfl | rfl <;> simp [Tg.putV, Tg.put, Tg.puts, Tg.putF_eq, setAll, Tg.slots, Tg.slotss, wipe, indexV, D.index, atI, ixN, cmpV, deref, asB, asD, asDs, asI, bltV, lenDic, bltD, derefs, D.blt, D.bLen, D.bTuple, D.bList, D.seq, mthV, mthOk, setV, ci_eq, ci_ne, ci_lt, ci_le, ci_gt, ci_ge, cs_eq, cs_ne, cb_eq, cb_ne, D.bin, D.slice, cut, sIx, isNon, f_law_parts, runFn, Pg.d, Pg.kidD, inB, D.mem, fine, D.dep, D.depAll, D.eqv, hb, leave]
    · simp [Tg.putV, Tg.put, Tg.puts, Tg.putF_eq, setAll, Tg.slots, Tg.slotss, wipe, indexV, D.index, atI, ixN, cmpV, deref, asB, asD, asDs, asI, bltV, lenDic, bltD, derefs, D.blt, D.bLen, D.bTuple, D.bList, D.seq, mthV, mthOk, setV, ci_eq, ci_ne, ci_lt, ci_le, ci_gt, ci_ge, cs_eq, cs_ne, cb_eq, cb_ne, D.bin, D.slice, cut, sIx, isNon, f_law_parts, runFn, Pg.d, Pg.kidD, inB, D.mem, fine, D.dep, D.depAll, D.eqv, hb, leave]
    · simp [Tg.putV, Tg.put, Tg.puts, Tg.putF_eq, setAll, Tg.slots, Tg.slotss, wipe, indexV, D.index, atI, ixN, cmpV, deref, asB, asD, asDs, asI, bltV, lenDic, bltD, derefs, D.blt, D.bLen, D.bTuple, D.bList, D.seq, mthV, mthOk, setV, ci_eq, ci_ne, ci_lt, ci_le, ci_gt, ci_ge, cs_eq, cs_ne, cb_eq, cb_ne, D.bin, D.slice, cut, sIx, isNon, f_law_parts, runFn, Pg.d, Pg.kidD, inB, D.mem, fine, D.dep, D.depAll, D.eqv, hb, leave]
  | two h xs q r =>
    apply eq_of_wp
    rw [callN_run T_f_law_parts]
    rcases sk.1 with ⟨hw, rfl⟩ | ⟨rfl, x, rfl, _⟩
    · simp only [TWOS, List.mem_cons, List.not_mem_nil, or_false] at hw
      rcases hw with rfl | rfl | rfl | rfl | rfl <;> simp [Tg.putV, Tg.put, Tg.puts, Tg.putF_eq, setAll, Tg.slots, Tg.slotss, wipe, indexV, D.index, atI, ixN, cmpV, deref, asB, asD, asDs, asI, bltV, lenDic, bltD, derefs, D.blt, D.bLen, D.bTuple, D.bList, D.seq, mthV, mthOk, setV, ci_eq, ci_ne, ci_lt, ci_le, ci_gt, ci_ge, cs_eq, cs_ne, cb_eq, cb_ne, D.bin, D.slice, cut, sIx, isNon, f_law_parts, runFn, Pg.d, Pg.kidD, inB, D.mem, fine, D.dep, D.depAll, D.eqv, hb, leave]
    · simp [Tg.putV, Tg.put, Tg.puts, Tg.putF_eq, setAll, Tg.slots, Tg.slotss, wipe, indexV, D.index, atI, ixN, cmpV, deref, asB, asD, asDs, asI, bltV, lenDic, bltD, derefs, D.blt, D.bLen, D.bTuple, D.bList, D.seq, mthV, mthOk, setV, ci_eq, ci_ne, ci_lt, ci_le, ci_gt, ci_ge, cs_eq, cs_ne, cb_eq, cb_ne, D.bin, D.slice, cut, sIx, isNon, f_law_parts, runFn, Pg.d, Pg.kidD, inB, D.mem, fine, D.dep, D.depAll, D.eqv, hb, leave]
  | thr h xs q r s =>
    obtain ⟨rfl, rfl, _⟩ := sk
    apply eq_of_wp
    rw [callN_run T_f_law_parts]
    simp [Tg.putV, Tg.put, Tg.puts, Tg.putF_eq, setAll, Tg.slots, Tg.slotss, wipe, indexV, D.index, atI, ixN, cmpV, deref, asB, asD, asDs, asI, bltV, lenDic, bltD, derefs, D.blt, D.bLen, D.bTuple, D.bList, D.seq, mthV, mthOk, setV, ci_eq, ci_ne, ci_lt, ci_le, ci_gt, ci_ge, cs_eq, cs_ne, cb_eq, cb_ne, D.bin, D.slice, cut, sIx, isNon, f_law_parts, runFn, Pg.d, Pg.kidD, inB, D.mem, fine, D.dep, D.depAll, D.eqv, hb, leave]
theorem off_word {p : Pg} (h : p.isOff = false) (sk : p.sk := by assumption) : ∃ w its, p.d = .tup (.str w :: its) ∧ ¬ w = "off" := by
  cases p with
  | off q => cases h
  | num i => exact ⟨_, _, rfl, by decide⟩
  | truth i => exact ⟨_, _, rfl, by decide⟩
  | name i => exact ⟨_, _, rfl, by decide⟩
  | nil => exact ⟨_, _, rfl, by decide⟩
  | one w xs q =>
    refine ⟨_, _, rfl, ?_⟩
    rcases sk.1 with ⟨hw, _⟩ | ⟨rfl, _⟩ | ⟨rfl, _⟩
    · rintro rfl; exact absurd hw (by decide)
    · decide
    · decide
  | two w xs q r =>
    refine ⟨_, _, rfl, ?_⟩
    rcases sk.1 with ⟨hw, _⟩ | ⟨rfl, _⟩
    · rintro rfl; exact absurd hw (by decide)
    · decide
  | thr w xs q r s => exact ⟨_, _, rfl, by rw [sk.1]; decide⟩
set_option maxHeartbeats 4000000 in
theorem rows_ok : ∀ (p : Pg), p.sk → ∀ (n c : Nat) (st : Store) (R : List D), p.h + 3 ≤ n → st[c]? = some (.lst R) → R.length + p.pl ≤ 10000 →
    callN T n "_law_rows" [.d p.d, .ref c] st = .ok (.d (.int R.length)) (st.set c (.lst (R ++ p.rws R.length)))
  | .num _, sk, n + 3, c, st, R, hn, hc, hl | .truth _, sk, n + 3, c, st, R, hn, hc, hl | .name _, sk, n + 3, c, st, R, hn, hc, hl | .nil, sk, n + 3, c, st, R, hn, hc, hl => by
    have hcl := lt_of_get hc
    have hpa := fun st => parts_ok (n := n) (st := st) sk rfl
    simp only [Pg.d] at hpa
    have hg : ∀ L, (st.set c (.lst L))[c]? = some (.lst L) := fun L => List.getElem?_set_self hcl
    have hR : R.length < LIM := by rw [LIM_eq]; omega
    apply eq_of_wp
    rw [callN_run T_f_law_rows]
    simp [-List.append_assoc, Tg.putV, Tg.put, Tg.puts, Tg.putF_eq, setAll, Tg.slots, Tg.slotss, wipe, indexV, D.index, atI, ixN, cmpV, deref, asB, asD, asDs, asI, bltV, lenDic, bltD, derefs, D.blt, D.bLen, D.bTuple, D.bList, D.seq, mthV, mthOk, setV, ci_eq, ci_ne, ci_lt, ci_le, ci_gt, ci_ge, cs_eq, cs_ne, cb_eq, cb_ne, D.bin, D.slice, cut, sIx, isNon, f_law_rows, f_law_rows_c0, runFn, Pg.d, hpa, Pg.kidD, hc, hg, mAppend, hR, compL, compStep, setV, leave, Pg.rws]
    rw [List.take_of_length_le (by simp)]
  | .off p, sk, n + 3, c, st, R, hn, hc, hl => by
    have ih := rows_ok p sk.1 (n + 3) c st R (by simp only [Pg.h] at hn; omega) hc hl
    rw [callN_run T_f_law_rows] at ih ⊢
    refine Eq.trans ?_ ih
    obtain ⟨w, its, hd, hw⟩ := off_word sk.2 sk.1
    rw [Pg.d, hd]
    have e1 : exec (callN T (n + 2)) (.asg (.name 0) (.ite (.cmp .eq (.idx (.var 0) (.con (.int 0))) (.con (.str "off"))) (.idx (.var 0) (.con (.int 1))) (.var 0))) [some (.d (.tup [.str "off", .tup (.str w :: its)])), some (.ref c), none, none, none] st = .ok (.nx [some (.d (.tup (.str w :: its))), some (.ref c), none, none, none]) st := by
      simp [Tg.putV, Tg.put, Tg.puts, Tg.putF_eq, setAll, Tg.slots, Tg.slotss, wipe, indexV, D.index, atI, ixN, cmpV, deref, asB, asD, asDs, asI, bltV, lenDic, bltD, derefs, D.blt, D.bLen, D.bTuple, D.bList, D.seq, mthV, mthOk, setV, ci_eq, ci_ne, ci_lt, ci_le, ci_gt, ci_ge, cs_eq, cs_ne, cb_eq, cb_ne, D.bin, D.slice, cut, sIx, isNon]
    have e2 : exec (callN T (n + 2)) (.asg (.name 0) (.ite (.cmp .eq (.idx (.var 0) (.con (.int 0))) (.con (.str "off"))) (.idx (.var 0) (.con (.int 1))) (.var 0))) [some (.d (.tup (.str w :: its))), some (.ref c), none, none, none] st = .ok (.nx [some (.d (.tup (.str w :: its))), some (.ref c), none, none, none]) st := by
      simp [Tg.putV, Tg.put, Tg.puts, Tg.putF_eq, setAll, Tg.slots, Tg.slotss, wipe, indexV, D.index, atI, ixN, cmpV, deref, asB, asD, asDs, asI, bltV, lenDic, bltD, derefs, D.blt, D.bLen, D.bTuple, D.bList, D.seq, mthV, mthOk, setV, ci_eq, ci_ne, ci_lt, ci_le, ci_gt, ci_ge, cs_eq, cs_ne, cb_eq, cb_ne, D.bin, D.slice, cut, sIx, isNon, hw]
    have key : ∀ σ : Env, exec (callN T (n + 2)) (.asg (.name 0) (.ite (.cmp .eq (.idx (.var 0) (.con (.int 0))) (.con (.str "off"))) (.idx (.var 0) (.con (.int 1))) (.var 0))) σ st = .ok (.nx [some (.d (.tup (.str w :: its))), some (.ref c), none, none, none]) st → execs (callN T (n + 2)) f_law_rows.body σ st = execs (callN T (n + 2)) f_law_rows.body.tail [some (.d (.tup (.str w :: its))), some (.ref c), none, none, none] st := fun σ e => by
      show (exec _ _ σ st).bind _ = _
      rw [e]; rfl
    have E := (key _ e1).trans (key _ e2).symm
    unfold runFn
    rw [if_pos ⟨rfl, by decide⟩, if_pos ⟨rfl, by decide⟩]
    have l1 : ([Val.d (D.tup [D.str "off", D.tup (D.str w :: its)]), Val.ref c].map some ++ List.replicate (f_law_rows.many - f_law_rows.pars) none) = [some (.d (.tup [.str "off", .tup (.str w :: its)])), some (.ref c), none, none, none] := rfl
    have l2 : ([Val.d (D.tup (D.str w :: its)), Val.ref c].map some ++ List.replicate (f_law_rows.many - f_law_rows.pars) none) = [some (.d (.tup (.str w :: its))), some (.ref c), none, none, none] := rfl
    rw [l1, l2, E]
  | .one h xs q, sk, n + 3, c, st, R, hn, hc, hl => by
    have hcl := lt_of_get hc
    have hpa := fun st => parts_ok (n := n) (st := st) (p := .one h xs q) sk rfl
    have hg : ∀ L, (st.set c (.lst L))[c]? = some (.lst L) := fun L => List.getElem?_set_self hcl
    have ih := rows_ok q sk.2 (n + 2) c (st.set c (.lst (R ++ [.non]))) (R ++ [.non]) (by simp only [Pg.h] at hn; omega) (hg _) (by simp only [Pg.pl] at hl; simp; omega)
    have hlen : (R ++ [D.non]).length = R.length + 1 := by simp
    rw [hlen, List.set_set] at ih
    have hR : R.length < LIM := by rw [LIM_eq]; omega
    apply eq_of_wp
    rw [callN_run T_f_law_rows]
    rcases sk.1 with ⟨hw, rfl⟩ | ⟨rfl, x, rfl, _⟩ | ⟨rfl, f, x, rfl, _⟩
    · simp only [ONES, List.mem_cons, List.not_mem_nil, or_false] at hw
      simp only [Pg.d, List.map_nil, List.nil_append] at hpa
      rcases hw with rfl | rfl | rfl | rfl | rfl <;> (simp [-List.append_assoc, Tg.putV, Tg.put, Tg.puts, Tg.putF_eq, setAll, Tg.slots, Tg.slotss, wipe, indexV, D.index, atI, ixN, cmpV, deref, asB, asD, asDs, asI, bltV, lenDic, bltD, derefs, D.blt, D.bLen, D.bTuple, D.bList, D.seq, mthV, mthOk, setV, ci_eq, ci_ne, ci_lt, ci_le, ci_gt, ci_ge, cs_eq, cs_ne, cb_eq, cb_ne, D.bin, D.slice, cut, sIx, isNon, f_law_rows, f_law_rows_c0, runFn, Pg.d, hpa, Pg.kidD, hc, hg, mAppend, hR, compL, compStep, ih, setV, leave, Pg.rws]; refine ⟨fun _ => ?_, by omega⟩; rw [List.take_of_length_le (by simp)]; simp)
    · simp only [Pg.d, List.map_nil, List.map_cons, List.nil_append, List.cons_append] at hpa
      (simp [-List.append_assoc, Tg.putV, Tg.put, Tg.puts, Tg.putF_eq, setAll, Tg.slots, Tg.slotss, wipe, indexV, D.index, atI, ixN, cmpV, deref, asB, asD, asDs, asI, bltV, lenDic, bltD, derefs, D.blt, D.bLen, D.bTuple, D.bList, D.seq, mthV, mthOk, setV, ci_eq, ci_ne, ci_lt, ci_le, ci_gt, ci_ge, cs_eq, cs_ne, cb_eq, cb_ne, D.bin, D.slice, cut, sIx, isNon, f_law_rows, f_law_rows_c0, runFn, Pg.d, hpa, Pg.kidD, hc, hg, mAppend, hR, compL, compStep, ih, setV, leave, Pg.rws]; refine ⟨fun _ => ?_, by omega⟩; rw [List.take_of_length_le (by simp)]; simp)
    · simp only [Pg.d, List.map_nil, List.map_cons, List.nil_append, List.cons_append] at hpa
      (simp [-List.append_assoc, Tg.putV, Tg.put, Tg.puts, Tg.putF_eq, setAll, Tg.slots, Tg.slotss, wipe, indexV, D.index, atI, ixN, cmpV, deref, asB, asD, asDs, asI, bltV, lenDic, bltD, derefs, D.blt, D.bLen, D.bTuple, D.bList, D.seq, mthV, mthOk, setV, ci_eq, ci_ne, ci_lt, ci_le, ci_gt, ci_ge, cs_eq, cs_ne, cb_eq, cb_ne, D.bin, D.slice, cut, sIx, isNon, f_law_rows, f_law_rows_c0, runFn, Pg.d, hpa, Pg.kidD, hc, hg, mAppend, hR, compL, compStep, ih, setV, leave, Pg.rws]; refine ⟨fun _ => ?_, by omega⟩; rw [List.take_of_length_le (by simp)]; simp)
  | .two h xs q r, sk, n + 3, c, st, R, hn, hc, hl => by
    have hcl := lt_of_get hc
    have hpa := fun st => parts_ok (n := n) (st := st) (p := .two h xs q r) sk rfl
    have hg : ∀ L, (st.set c (.lst L))[c]? = some (.lst L) := fun L => List.getElem?_set_self hcl
    simp only [Pg.h] at hn
    simp only [Pg.pl] at hl
    have ih := rows_ok q sk.2.1 (n + 2) c (st.set c (.lst (R ++ [.non]))) (R ++ [.non]) (by omega) (hg _) (by simp; omega)
    have ih2 := rows_ok r sk.2.2 (n + 2) c (st.set c (.lst (R ++ [.non] ++ q.rws (R.length + 1)))) (R ++ [.non] ++ q.rws (R.length + 1)) (by omega) (hg _) (by simp [q.rws_length]; omega)
    have hlen : (R ++ [D.non]).length = R.length + 1 := by simp
    have hlen2 : (R ++ [D.non] ++ q.rws (R.length + 1)).length = R.length + 1 + q.pl := by simp [q.rws_length]; omega
    rw [hlen, List.set_set] at ih
    rw [hlen2, List.set_set] at ih2
    have hR : R.length < LIM := by rw [LIM_eq]; omega
    apply eq_of_wp
    rw [callN_run T_f_law_rows]
    rcases sk.1 with ⟨hw, rfl⟩ | ⟨rfl, x, rfl, _⟩
    · simp only [TWOS, List.mem_cons, List.not_mem_nil, or_false] at hw
      simp only [Pg.d, List.map_nil, List.nil_append] at hpa
      rcases hw with rfl | rfl | rfl | rfl | rfl <;> (simp [-List.append_assoc, Tg.putV, Tg.put, Tg.puts, Tg.putF_eq, setAll, Tg.slots, Tg.slotss, wipe, indexV, D.index, atI, ixN, cmpV, deref, asB, asD, asDs, asI, bltV, lenDic, bltD, derefs, D.blt, D.bLen, D.bTuple, D.bList, D.seq, mthV, mthOk, setV, ci_eq, ci_ne, ci_lt, ci_le, ci_gt, ci_ge, cs_eq, cs_ne, cb_eq, cb_ne, D.bin, D.slice, cut, sIx, isNon, f_law_rows, f_law_rows_c0, runFn, Pg.d, hpa, Pg.kidD, hc, hg, mAppend, hR, compL, compStep, ih, ih2, setV, leave, Pg.rws]; refine ⟨fun _ => ?_, by omega⟩; rw [List.take_of_length_le (by simp)]; simp)
    · simp only [Pg.d, List.map_nil, List.map_cons, List.nil_append, List.cons_append] at hpa
      (simp [-List.append_assoc, Tg.putV, Tg.put, Tg.puts, Tg.putF_eq, setAll, Tg.slots, Tg.slotss, wipe, indexV, D.index, atI, ixN, cmpV, deref, asB, asD, asDs, asI, bltV, lenDic, bltD, derefs, D.blt, D.bLen, D.bTuple, D.bList, D.seq, mthV, mthOk, setV, ci_eq, ci_ne, ci_lt, ci_le, ci_gt, ci_ge, cs_eq, cs_ne, cb_eq, cb_ne, D.bin, D.slice, cut, sIx, isNon, f_law_rows, f_law_rows_c0, runFn, Pg.d, hpa, Pg.kidD, hc, hg, mAppend, hR, compL, compStep, ih, ih2, setV, leave, Pg.rws]; refine ⟨fun _ => ?_, by omega⟩; rw [List.take_of_length_le (by simp)]; simp)
  | .thr h xs q r s, ⟨hh, hx, k1, k2, k3⟩, n + 3, c, st, R, hn, hc, hl => by
    subst hh
    subst hx
    have hcl := lt_of_get hc
    have hpa := fun st => parts_ok (n := n) (st := st) (p := .thr "if" [] q r s) ⟨rfl, rfl, k1, k2, k3⟩ rfl
    have hg : ∀ L, (st.set c (.lst L))[c]? = some (.lst L) := fun L => List.getElem?_set_self hcl
    simp only [Pg.h] at hn
    simp only [Pg.pl] at hl
    have ih := rows_ok q k1 (n + 2) c (st.set c (.lst (R ++ [.non]))) (R ++ [.non]) (by omega) (hg _) (by simp; omega)
    have ih2 := rows_ok r k2 (n + 2) c (st.set c (.lst (R ++ [.non] ++ q.rws (R.length + 1)))) (R ++ [.non] ++ q.rws (R.length + 1)) (by omega) (hg _) (by simp [q.rws_length]; omega)
    have ih3 := rows_ok s k3 (n + 2) c (st.set c (.lst (R ++ [.non] ++ q.rws (R.length + 1) ++ r.rws (R.length + 1 + q.pl)))) (R ++ [.non] ++ q.rws (R.length + 1) ++ r.rws (R.length + 1 + q.pl)) (by omega) (hg _) (by simp [q.rws_length, r.rws_length]; omega)
    have hlen : (R ++ [D.non]).length = R.length + 1 := by simp
    have hlen2 : (R ++ [D.non] ++ q.rws (R.length + 1)).length = R.length + 1 + q.pl := by simp [q.rws_length]; omega
    have hlen3 : (R ++ [D.non] ++ q.rws (R.length + 1) ++ r.rws (R.length + 1 + q.pl)).length = R.length + 1 + q.pl + r.pl := by simp [q.rws_length, r.rws_length]; omega
    rw [hlen, List.set_set] at ih
    rw [hlen2, List.set_set] at ih2
    rw [hlen3, List.set_set] at ih3
    have hR : R.length < LIM := by rw [LIM_eq]; omega
    apply eq_of_wp
    rw [callN_run T_f_law_rows]
    simp only [Pg.d, List.map_nil, List.nil_append] at hpa
    (simp [-List.append_assoc, Tg.putV, Tg.put, Tg.puts, Tg.putF_eq, setAll, Tg.slots, Tg.slotss, wipe, indexV, D.index, atI, ixN, cmpV, deref, asB, asD, asDs, asI, bltV, lenDic, bltD, derefs, D.blt, D.bLen, D.bTuple, D.bList, D.seq, mthV, mthOk, setV, ci_eq, ci_ne, ci_lt, ci_le, ci_gt, ci_ge, cs_eq, cs_ne, cb_eq, cb_ne, D.bin, D.slice, cut, sIx, isNon, f_law_rows, f_law_rows_c0, runFn, Pg.d, hpa, Pg.kidD, hc, hg, mAppend, hR, compL, compStep, ih, ih2, ih3, setV, leave, Pg.rws]; refine ⟨fun _ => ?_, by omega⟩; rw [List.take_of_length_le (by simp)]; simp)
end
end Prog

namespace Prog
open Ir
/-! ### values and names as the law has them -/
mutual
def Vl.dL : Vl → D
  | .num i => .tup [.str "num", .int i]
  | .tru b => .tup [.str "truth", .bool b]
  | .nil => .tup [.str "nil"]
  | .pr c x y => .tup [.str (pw c), x.dL, y.dL, .int (1 + x.sz + y.sz : Nat)]
  | .fn xs p a e => .tup [.str "fn", .lst (xs.map .str), .int a, .lst e.dL]
def En.dL : En → List D
  | .nil => []
  | .cons x v e => e.dL ++ [.tup [.str x, v.dL]]
end
theorem En.dL_len : ∀ e : En, e.dL.length = e.nms.length
  | .nil => rfl
  | .cons x v e => by simp only [En.dL, En.nms, List.length_append, List.length_singleton, e.dL_len]
def tkL (t : Tk) : D := .tup [.int t.2.1, .lst t.2.2.1.dL, .bool t.2.2.2]
abbrev tsL (K : List Tk) : List D := (K.map tkL).reverse
abbrev vsL (V : List Vl) : List D := (V.map Vl.dL).reverse
theorem Vl.il0 (v : Vl) : D.index v.dL (.int 0) = some (.str v.wd) := by
  cases v <;> simp [Vl.dL, D.index, atI, ixN, Vl.wd]
theorem inS2 (st : Store) (z a b : String) : inB st (.d (.str z)) (.d (.lst [.str a, .str b])) = some (decide (z = a ∨ z = b)) := by
  have e : D.mem (.str z) (.lst [.str a, .str b]) = some (([D.str a, D.str b]).any fun y => y.eqv (.str z)) := by
    simp [D.mem, fine, D.dep, D.depAll]
  simp only [inB]
  rw [e]
  congr 1
  by_cases h1 : z = a <;> by_cases h2 : z = b <;> simp [D.eqv, h1, h2, eq_comm]
theorem at_row {R : List D} {a : Nat} {x : D} (h : R[a]? = some x) : atI R (a : Int) = some x := by
  have hl := lt_of_get h
  unfold atI ixN
  have : (a : Int) < R.length := by omega
  simp [this, h]
theorem ixL10 (a : D) : D.index (.lst [a]) (.int 0) = some a := by simp [D.index, atI, ixN]
theorem ixL20 (a b : D) : D.index (.lst [a, b]) (.int 0) = some a := by simp [D.index, atI, ixN]
theorem ixL21 (a b : D) : D.index (.lst [a, b]) (.int 1) = some b := by simp [D.index, atI, ixN]
section
variable {n : Nat} {st : Store}
theorem lsize_wd (v : Vl) : (v.wd = "pair" ∨ v.wd = "cons") → D.index v.dL (.int 3) = some (.int v.sz) := by
  intro h
  cases v <;> simp [Vl.wd] at h
  simp [Vl.dL, D.index, atI, ixN, Vl.sz]
theorem lsize_ok (v : Vl) (st : Store) : callN T (n + 1) "_law_size" [.d v.dL] st = .ok (.d (.int v.sz)) st := by
  apply eq_of_wp
  rw [callN_run T_f_law_size]
  have h0 := v.il0
  have h3 := lsize_wd v
  have h4 := size_wd' v
  generalize hw : v.wd = w at *
  have h1 := inS2 st w "pair" "cons"
  by_cases c : w = "pair" ∨ w = "cons"
  · simp [Tg.putV, Tg.put, Tg.puts, Tg.putF_eq, setAll, Tg.slots, Tg.slotss, wipe, indexV, cmpV, deref, asB, asD, asDs, asI, bltV, lenDic, bltD, derefs, D.blt, D.bLen, D.bTuple, D.bList, D.seq, mthV, mthOk, setV, ci_eq, ci_ne, ci_lt, ci_le, ci_gt, ci_ge, cs_eq, cs_ne, cb_eq, cb_ne, D.bin, isNon, f_law_size, runFn, h0, h1, h3 c, c, leave]
  · simp [Tg.putV, Tg.put, Tg.puts, Tg.putF_eq, setAll, Tg.slots, Tg.slotss, wipe, indexV, cmpV, deref, asB, asD, asDs, asI, bltV, lenDic, bltD, derefs, D.blt, D.bLen, D.bTuple, D.bList, D.seq, mthV, mthOk, setV, ci_eq, ci_ne, ci_lt, ci_le, ci_gt, ci_ge, cs_eq, cs_ne, cb_eq, cb_ne, D.bin, isNon, f_law_size, runFn, h0, h1, h4 c, c, leave]
/-- what the law tells of a word -/
def ouD : Ou → D
  | .v x => .tup [.str "value", x.dL]
  | .st => .tup [.str "stuck"]
  | .em => .tup [.str "empty"]
set_option maxHeartbeats 2000000 in
theorem told2_ok {h : String} (hh : h = "plus" ∨ h = "less" ∨ h = "pair" ∨ h = "cons") (x y : Vl) :
    callN T (n + 2) "_law_told" [.d (.str h), .d (.lst [x.dL, y.dL])] st = .ok (.d (ouD (twoO h x y))) st := by
  have hx := x.il0
  have hy := y.il0
  have sx := fun st => lsize_ok (n := n) x st
  have sy := fun st => lsize_ok (n := n) y st
  rcases hh with rfl | rfl | rfl | rfl
  · by_cases hc : x.wd = "num" ∧ y.wd = "num"
    · obtain ⟨i, rfl⟩ := Vl.wd_num.mp hc.1
      obtain ⟨j, rfl⟩ := Vl.wd_num.mp hc.2
      apply eq_of_wp
      rw [callN_run T_f_law_told]
      simp [Tg.putV, Tg.put, Tg.puts, Tg.putF_eq, setAll, Tg.slots, Tg.slotss, wipe, indexV, D.index, atI, ixN, cmpV, deref, asB, asD, asDs, asI, bltV, lenDic, bltD, derefs, D.blt, D.bLen, D.bTuple, D.bList, D.seq, mthV, mthOk, setV, ci_eq, ci_ne, ci_lt, ci_le, ci_gt, ci_ge, cs_eq, cs_ne, cb_eq, cb_ne, D.bin, D.slice, cut, sIx, isNon, f_law_told, runFn, Vl.dL, inB, D.mem, fine, D.dep, D.depAll, D.eqv, twoO, plusO, ouD, leave]
    · have e : twoO "plus" x y = .st := (plus_st hc).1
      rw [e]
      apply eq_of_wp
      rw [callN_run T_f_law_told]
      by_cases c1 : x.wd = "num"
      · have c2 : ¬ y.wd = "num" := fun q => hc ⟨c1, q⟩
        simp [Tg.putV, Tg.put, Tg.puts, Tg.putF_eq, setAll, Tg.slots, Tg.slotss, wipe, indexV, cmpV, deref, asB, asD, asDs, asI, bltV, lenDic, bltD, derefs, D.blt, D.bLen, D.bTuple, D.bList, D.seq, mthV, mthOk, setV, ci_eq, ci_ne, ci_lt, ci_le, ci_gt, ci_ge, cs_eq, cs_ne, cb_eq, cb_ne, D.bin, isNon, f_law_told, runFn, ixL10, ixL20, ixL21, hx, hy, inB, D.mem, fine, D.dep, D.depAll, D.eqv, ouD, leave, c1, c2]
      · simp [Tg.putV, Tg.put, Tg.puts, Tg.putF_eq, setAll, Tg.slots, Tg.slotss, wipe, indexV, cmpV, deref, asB, asD, asDs, asI, bltV, lenDic, bltD, derefs, D.blt, D.bLen, D.bTuple, D.bList, D.seq, mthV, mthOk, setV, ci_eq, ci_ne, ci_lt, ci_le, ci_gt, ci_ge, cs_eq, cs_ne, cb_eq, cb_ne, D.bin, isNon, f_law_told, runFn, ixL10, ixL20, ixL21, hx, hy, inB, D.mem, fine, D.dep, D.depAll, D.eqv, ouD, leave, c1]
  · by_cases hc : x.wd = "num" ∧ y.wd = "num"
    · obtain ⟨i, rfl⟩ := Vl.wd_num.mp hc.1
      obtain ⟨j, rfl⟩ := Vl.wd_num.mp hc.2
      apply eq_of_wp
      rw [callN_run T_f_law_told]
      simp [Tg.putV, Tg.put, Tg.puts, Tg.putF_eq, setAll, Tg.slots, Tg.slotss, wipe, indexV, D.index, atI, ixN, cmpV, deref, asB, asD, asDs, asI, bltV, lenDic, bltD, derefs, D.blt, D.bLen, D.bTuple, D.bList, D.seq, mthV, mthOk, setV, ci_eq, ci_ne, ci_lt, ci_le, ci_gt, ci_ge, cs_eq, cs_ne, cb_eq, cb_ne, D.bin, D.slice, cut, sIx, isNon, f_law_told, runFn, Vl.dL, inB, D.mem, fine, D.dep, D.depAll, D.eqv, twoO, lessO, ouD, leave]
    · have e : twoO "less" x y = .st := (plus_st hc).2
      rw [e]
      apply eq_of_wp
      rw [callN_run T_f_law_told]
      by_cases c1 : x.wd = "num"
      · have c2 : ¬ y.wd = "num" := fun q => hc ⟨c1, q⟩
        simp [Tg.putV, Tg.put, Tg.puts, Tg.putF_eq, setAll, Tg.slots, Tg.slotss, wipe, indexV, cmpV, deref, asB, asD, asDs, asI, bltV, lenDic, bltD, derefs, D.blt, D.bLen, D.bTuple, D.bList, D.seq, mthV, mthOk, setV, ci_eq, ci_ne, ci_lt, ci_le, ci_gt, ci_ge, cs_eq, cs_ne, cb_eq, cb_ne, D.bin, isNon, f_law_told, runFn, ixL10, ixL20, ixL21, hx, hy, inB, D.mem, fine, D.dep, D.depAll, D.eqv, ouD, leave, c1, c2]
      · simp [Tg.putV, Tg.put, Tg.puts, Tg.putF_eq, setAll, Tg.slots, Tg.slotss, wipe, indexV, cmpV, deref, asB, asD, asDs, asI, bltV, lenDic, bltD, derefs, D.blt, D.bLen, D.bTuple, D.bList, D.seq, mthV, mthOk, setV, ci_eq, ci_ne, ci_lt, ci_le, ci_gt, ci_ge, cs_eq, cs_ne, cb_eq, cb_ne, D.bin, isNon, f_law_told, runFn, ixL10, ixL20, ixL21, hx, hy, inB, D.mem, fine, D.dep, D.depAll, D.eqv, ouD, leave, c1]
  · apply eq_of_wp
    rw [callN_run T_f_law_told]
    simp [Tg.putV, Tg.put, Tg.puts, Tg.putF_eq, setAll, Tg.slots, Tg.slotss, wipe, indexV, cmpV, deref, asB, asD, asDs, asI, bltV, lenDic, bltD, derefs, D.blt, D.bLen, D.bTuple, D.bList, D.seq, mthV, mthOk, setV, ci_eq, ci_ne, ci_lt, ci_le, ci_gt, ci_ge, cs_eq, cs_ne, cb_eq, cb_ne, D.bin, isNon, f_law_told, runFn, ixL10, ixL20, ixL21, hx, hy, inB, D.mem, fine, D.dep, D.depAll, D.eqv, ouD, leave, sx, sy, twoO, Vl.dL, pw]
  · have hl := list_wd (v := y)
    have h2 := inS2 st y.wd "nil" "cons"
    by_cases c : y.wd = "nil" ∨ y.wd = "cons"
    · have e : twoO "cons" x y = .v (.pr true x y) := by simp [twoO, consO, hl, c]
      rw [e]
      apply eq_of_wp
      rw [callN_run T_f_law_told]
      simp [Tg.putV, Tg.put, Tg.puts, Tg.putF_eq, setAll, Tg.slots, Tg.slotss, wipe, indexV, cmpV, deref, asB, asD, asDs, asI, bltV, lenDic, bltD, derefs, D.blt, D.bLen, D.bTuple, D.bList, D.seq, mthV, mthOk, setV, ci_eq, ci_ne, ci_lt, ci_le, ci_gt, ci_ge, cs_eq, cs_ne, cb_eq, cb_ne, D.bin, isNon, f_law_told, runFn, ixL10, ixL20, ixL21, hx, hy, inB, D.mem, fine, D.dep, D.depAll, D.eqv, ouD, leave, sx, sy, Vl.dL, pw]
      intro q
      rcases c with c | c
      · exact absurd c.symm q
      · exact c.symm
    · have e : twoO "cons" x y = .st := by simp [twoO, consO, hl, c]
      rw [e]
      apply eq_of_wp
      rw [callN_run T_f_law_told]
      simp [Tg.putV, Tg.put, Tg.puts, Tg.putF_eq, setAll, Tg.slots, Tg.slotss, wipe, indexV, cmpV, deref, asB, asD, asDs, asI, bltV, lenDic, bltD, derefs, D.blt, D.bLen, D.bTuple, D.bList, D.seq, mthV, mthOk, setV, ci_eq, ci_ne, ci_lt, ci_le, ci_gt, ci_ge, cs_eq, cs_ne, cb_eq, cb_ne, D.bin, isNon, f_law_told, runFn, ixL10, ixL20, ixL21, hx, hy, inB, D.mem, fine, D.dep, D.depAll, D.eqv, ouD, leave, sx, sy]
      exact ⟨fun q => c (.inl q.symm), fun q => c (.inr q.symm)⟩
set_option maxHeartbeats 4000000 in
theorem told1_ok {h : String} (hh : h ∈ ONES) (v : Vl) : callN T (n + 2) "_law_told" [.d (.str h), .d (.lst [v.dL])] st = .ok (.d (ouD (partO h v))) st := by
  simp only [ONES, List.mem_cons, List.not_mem_nil, or_false] at hh
  have key : ∀ o, partO h v = o → callN T (n + 2) "_law_told" [.d (.str h), .d (.lst [v.dL])] st = .ok (.d (ouD o)) st → callN T (n + 2) "_law_told" [.d (.str h), .d (.lst [v.dL])] st = .ok (.d (ouD (partO h v))) st := fun o e q => by rw [e]; exact q
  cases v with
  | pr c x y =>
    cases c <;> rcases hh with rfl | rfl | rfl | rfl | rfl
    all_goals
      first
      | (refine key .st rfl ?_
         apply eq_of_wp
         rw [callN_run T_f_law_told]
         simp [Tg.putV, Tg.put, Tg.puts, Tg.putF_eq, setAll, Tg.slots, Tg.slotss, wipe, indexV, D.index, atI, ixN, cmpV, deref, asB, asD, asDs, asI, bltV, lenDic, bltD, derefs, D.blt, D.bLen, D.bTuple, D.bList, D.seq, mthV, mthOk, setV, ci_eq, ci_ne, ci_lt, ci_le, ci_gt, ci_ge, cs_eq, cs_ne, cb_eq, cb_ne, D.bin, D.slice, cut, sIx, isNon, f_law_told, runFn, inB, D.mem, fine, D.dep, D.depAll, D.eqv, ouD, Vl.dL, pw, D.bInt, leave]
         done)
      | (refine key (.v _) rfl ?_
         apply eq_of_wp
         rw [callN_run T_f_law_told]
         simp [Tg.putV, Tg.put, Tg.puts, Tg.putF_eq, setAll, Tg.slots, Tg.slotss, wipe, indexV, D.index, atI, ixN, cmpV, deref, asB, asD, asDs, asI, bltV, lenDic, bltD, derefs, D.blt, D.bLen, D.bTuple, D.bList, D.seq, mthV, mthOk, setV, ci_eq, ci_ne, ci_lt, ci_le, ci_gt, ci_ge, cs_eq, cs_ne, cb_eq, cb_ne, D.bin, D.slice, cut, sIx, isNon, f_law_told, runFn, inB, D.mem, fine, D.dep, D.depAll, D.eqv, ouD, Vl.dL, pw, D.bInt, leave]
         done)
  | _ =>
    rcases hh with rfl | rfl | rfl | rfl | rfl
    all_goals
      first
      | (refine key .st rfl ?_
         apply eq_of_wp
         rw [callN_run T_f_law_told]
         simp [Tg.putV, Tg.put, Tg.puts, Tg.putF_eq, setAll, Tg.slots, Tg.slotss, wipe, indexV, D.index, atI, ixN, cmpV, deref, asB, asD, asDs, asI, bltV, lenDic, bltD, derefs, D.blt, D.bLen, D.bTuple, D.bList, D.seq, mthV, mthOk, setV, ci_eq, ci_ne, ci_lt, ci_le, ci_gt, ci_ge, cs_eq, cs_ne, cb_eq, cb_ne, D.bin, D.slice, cut, sIx, isNon, f_law_told, runFn, inB, D.mem, fine, D.dep, D.depAll, D.eqv, ouD, Vl.dL, pw, D.bInt, leave]
         done)
      | (refine key .em rfl ?_
         apply eq_of_wp
         rw [callN_run T_f_law_told]
         simp [Tg.putV, Tg.put, Tg.puts, Tg.putF_eq, setAll, Tg.slots, Tg.slotss, wipe, indexV, D.index, atI, ixN, cmpV, deref, asB, asD, asDs, asI, bltV, lenDic, bltD, derefs, D.blt, D.bLen, D.bTuple, D.bList, D.seq, mthV, mthOk, setV, ci_eq, ci_ne, ci_lt, ci_le, ci_gt, ci_ge, cs_eq, cs_ne, cb_eq, cb_ne, D.bin, D.slice, cut, sIx, isNon, f_law_told, runFn, inB, D.mem, fine, D.dep, D.depAll, D.eqv, ouD, Vl.dL, pw, D.bInt, leave]
         done)
      | (refine key (.v _) rfl ?_
         apply eq_of_wp
         rw [callN_run T_f_law_told]
         simp [Tg.putV, Tg.put, Tg.puts, Tg.putF_eq, setAll, Tg.slots, Tg.slotss, wipe, indexV, D.index, atI, ixN, cmpV, deref, asB, asD, asDs, asI, bltV, lenDic, bltD, derefs, D.blt, D.bLen, D.bTuple, D.bList, D.seq, mthV, mthOk, setV, ci_eq, ci_ne, ci_lt, ci_le, ci_gt, ci_ge, cs_eq, cs_ne, cb_eq, cb_ne, D.bin, D.slice, cut, sIx, isNon, f_law_told, runFn, inB, D.mem, fine, D.dep, D.depAll, D.eqv, ouD, Vl.dL, pw, D.bInt, leave]
         done)
end
end Prog

namespace Prog
open Ir
theorem ix_row {R : List D} {a : Nat} {x : D} (h : R[a]? = some x) : D.index (.lst R) (.int a) = some x := by
  simp only [D.index]; exact at_row h
theorem il31 (a b c : D) : D.index (.lst [a, b, c]) (.int 1) = some b := by simp [D.index, atI, ixN]
theorem il32 (a b c : D) : D.index (.lst [a, b, c]) (.int 2) = some c := by simp [D.index, atI, ixN]
theorem ixT21 (a b : D) : D.index (.tup [a, b]) (.int 1) = some b := by simp [D.index, atI, ixN]
theorem ixT20 (a b : D) : D.index (.tup [a, b]) (.int 0) = some a := by simp [D.index, atI, ixN]
theorem ixL1m (a : D) : D.index (.lst [a]) (.int (-1)) = some a := by simp [D.index, atI, ixN]
theorem ixL2m (a b : D) : D.index (.lst [a, b]) (.int (-1)) = some b := by simp [D.index, atI, ixN]
theorem il30 (a b c : D) : D.index (.lst [a, b, c]) (.int 0) = some a := by simp [D.index, atI, ixN]
section
variable {n : Nat} {st : Store}
/-! ### what is entered -/
theorem enter_let {c a : Nat} {R : List D} (hc : st[c]? = some (.lst R)) {x : String} {k1 k2 : D} (hr : R[a]? = some (rwD "let" [.str x] [k1, k2])) {env : List D} (he : env.length < 100000) (v : D) :
    callN T (n + 1) "_law_entered" [.ref c, .d (.int a), .d (.lst env), .d (.lst [v])] st = .ok (.d (.lst [k2, .lst (env ++ [.tup [.str x, v]])])) st := by
  have hlt := lt_of_get hr
  have hI := ix_row hr
  have hL : env.length + 1 ≤ LIM := by rw [LIM_eq]; omega
  apply eq_of_wp
  rw [callN_run T_f_law_entered]
  simp [Tg.putV, Tg.put, Tg.puts, Tg.putF_eq, setAll, Tg.slots, Tg.slotss, wipe, indexV, cmpV, deref, asB, asD, asDs, asI, bltV, lenDic, bltD, derefs, D.blt, D.bLen, D.bTuple, D.bList, D.seq, mthV, mthOk, setV, ci_eq, ci_ne, ci_lt, ci_le, ci_gt, ci_ge, cs_eq, cs_ne, cb_eq, cb_ne, D.bin, isNon, f_law_entered, runFn, hc, hI, ixL10, ixL21, hL, leave]
  done
theorem enter_if {c a : Nat} {R : List D} (hc : st[c]? = some (.lst R)) {k1 k2 k3 : D} (hr : R[a]? = some (rwD "if" [] [k1, k2, k3])) {env : List D} (v : Vl) :
    callN T (n + 1) "_law_entered" [.ref c, .d (.int a), .d (.lst env), .d (.lst [v.dL])] st = .ok (.d (match v with | .tru b => .lst [if b then k2 else k3, .lst env] | _ => .non)) st := by
  have hlt := lt_of_get hr
  have hI := ix_row hr
  have h0 := v.il0
  have st : ∀ w, v.wd = w → ¬ w = "truth" → callN T (n + 1) "_law_entered" [.ref c, .d (.int a), .d (.lst env), .d (.lst [v.dL])] st = .ok (.d .non) st := fun w hw hne => by
    rw [hw] at h0
    apply eq_of_wp
    rw [callN_run T_f_law_entered]
    simp [Tg.putV, Tg.put, Tg.puts, Tg.putF_eq, setAll, Tg.slots, Tg.slotss, wipe, indexV, cmpV, deref, asB, asD, asDs, asI, bltV, lenDic, bltD, derefs, D.blt, D.bLen, D.bTuple, D.bList, D.seq, mthV, mthOk, setV, ci_eq, ci_ne, ci_lt, ci_le, ci_gt, ci_ge, cs_eq, cs_ne, cb_eq, cb_ne, D.bin, isNon, f_law_entered, runFn, hc, hI, il30, ixL10, h0, hne, leave]
    done
  cases v with
  | tru b =>
    apply eq_of_wp
    rw [callN_run T_f_law_entered]
    cases b <;> simp [Tg.putV, Tg.put, Tg.puts, Tg.putF_eq, setAll, Tg.slots, Tg.slotss, wipe, indexV, cmpV, deref, asB, asD, asDs, asI, bltV, lenDic, bltD, derefs, D.blt, D.bLen, D.bTuple, D.bList, D.seq, mthV, mthOk, setV, ci_eq, ci_ne, ci_lt, ci_le, ci_gt, ci_ge, cs_eq, cs_ne, cb_eq, cb_ne, D.bin, isNon, f_law_entered, runFn, hc, hI, ixL10, ixT20, ixT21, il31, il32, Vl.dL, D.bInt, leave]
  | num i => exact st _ rfl (by simp [Vl.wd])
  | nil => exact st _ rfl (by simp [Vl.wd])
  | fn _ _ _ _ => exact st _ rfl (by simp [Vl.wd])
  | pr c x y => exact st _ rfl (by cases c <;> simp [Vl.wd, pw])
theorem enter_call {c a : Nat} {R : List D} (hc : st[c]? = some (.lst R)) {k1 k2 : D} (hr : R[a]? = some (rwD "call" [] [k1, k2])) {env : List D} (f g : Vl) (hf : ∀ xs q b e, f = .fn xs q b e → ((∃ x, xs = [x]) ∨ ∃ h x, xs = [h, x]) ∧ e.nms.length < 100000) :
    callN T (n + 1) "_law_entered" [.ref c, .d (.int a), .d (.lst env), .d (.lst [f.dL, g.dL])] st = .ok (.d (match f with | .fn xs q b e => .lst [.int b, .lst (callE xs (.fn xs q b e) g e).dL] | _ => .non)) st := by
  have hlt := lt_of_get hr
  have hI := ix_row hr
  have h0 := f.il0
  have st : ∀ w, f.wd = w → ¬ w = "fn" → callN T (n + 1) "_law_entered" [.ref c, .d (.int a), .d (.lst env), .d (.lst [f.dL, g.dL])] st = .ok (.d .non) st := fun w hw hne => by
    rw [hw] at h0
    apply eq_of_wp
    rw [callN_run T_f_law_entered]
    simp [Tg.putV, Tg.put, Tg.puts, Tg.putF_eq, setAll, Tg.slots, Tg.slotss, wipe, indexV, cmpV, deref, asB, asD, asDs, asI, bltV, lenDic, bltD, derefs, D.blt, D.bLen, D.bTuple, D.bList, D.seq, mthV, mthOk, setV, ci_eq, ci_ne, ci_lt, ci_le, ci_gt, ci_ge, cs_eq, cs_ne, cb_eq, cb_ne, D.bin, isNon, f_law_entered, runFn, hc, hI, ixL20, h0, hne, leave]
    done
  cases f with
  | fn xs q b e =>
    obtain ⟨hx, hl⟩ := hf xs q b e rfl
    have hl' := e.dL_len
    have hL1 : e.dL.length + 1 ≤ LIM := by rw [LIM_eq]; omega
    have hL2 : e.dL.length + 2 ≤ LIM := by rw [LIM_eq]; omega
    have q1 : 1 ≤ LIM := by rw [LIM_eq]; decide
    have q2 : 2 ≤ LIM := by rw [LIM_eq]; decide
    have q3 : (1 : Int) ≤ (LIM : Int) := by rw [LIM_eq]; decide
    rcases hx with ⟨x, rfl⟩ | ⟨h, x, rfl⟩
    · have iF : ∀ c d : D, D.index (.tup [.str "fn", c, d, .lst e.dL]) (.int 0) = some (.str "fn") := fun c d => by simp [D.index, atI, ixN]
      apply eq_of_wp
      rw [callN_run T_f_law_entered]
      simp [iF, Tg.putV, Tg.put, Tg.puts, Tg.putF_eq, setAll, Tg.slots, Tg.slotss, wipe, indexV, cmpV, deref, asB, asD, asDs, asI, bltV, lenDic, bltD, derefs, D.blt, D.bLen, D.bTuple, D.bList, D.seq, mthV, mthOk, setV, ci_eq, ci_ne, ci_lt, ci_le, ci_gt, ci_ge, cs_eq, cs_ne, cb_eq, cb_ne, D.bin, isNon, D.slice, cut, sIx, f_law_entered, runFn, hc, hI, ixL10, ixL20, ixL21, ixL1m, ixL2m, ixT20, Vl.dL, D.bInt, hL1, q1, callE, En.dL, leave]
      done
    · have iF : ∀ c d : D, D.index (.tup [.str "fn", c, d, .lst e.dL]) (.int 0) = some (.str "fn") := fun c d => by simp [D.index, atI, ixN]
      apply eq_of_wp
      rw [callN_run T_f_law_entered]
      simp [iF, Tg.putV, Tg.put, Tg.puts, Tg.putF_eq, setAll, Tg.slots, Tg.slotss, wipe, indexV, cmpV, deref, asB, asD, asDs, asI, bltV, lenDic, bltD, derefs, D.blt, D.bLen, D.bTuple, D.bList, D.seq, mthV, mthOk, setV, ci_eq, ci_ne, ci_lt, ci_le, ci_gt, ci_ge, cs_eq, cs_ne, cb_eq, cb_ne, D.bin, isNon, D.slice, cut, sIx, f_law_entered, runFn, hc, hI, ixL10, ixL20, ixL21, ixL1m, ixL2m, ixT20, Vl.dL, D.bInt, hL1, hL2, q1, q2, q3, callE, En.dL, leave]
      done
  | num i => exact st _ rfl (by simp [Vl.wd])
  | nil => exact st _ rfl (by simp [Vl.wd])
  | tru _ => exact st _ rfl (by simp [Vl.wd])
  | pr c x y => exact st _ rfl (by cases c <;> simp [Vl.wd, pw])
end
end Prog

namespace Prog
open Ir
section
variable {n : Nat}
theorem lshown_big (v : Vl) (h : 200 < v.sz) (st : Store) : callN T (n + 2) "_law_shown" [.d v.dL] st = .ok (.d (.str "large")) st := by
  have hs := fun st => lsize_ok (n := n) v st
  have h' : (200 : Int) < (v.sz : Int) := by omega
  apply eq_of_wp
  rw [callN_run T_f_law_shown]
  simp [Tg.putV, Tg.put, Tg.puts, Tg.putF_eq, setAll, Tg.slots, Tg.slotss, wipe, indexV, cmpV, deref, asB, asD, asDs, asI, bltV, lenDic, bltD, derefs, D.blt, D.bLen, D.bTuple, D.bList, D.seq, mthV, mthOk, setV, ci_eq, ci_ne, ci_lt, ci_le, ci_gt, ci_ge, cs_eq, cs_ne, cb_eq, cb_ne, D.bin, isNon, f_law_shown, runFn, hs, h', leave]
set_option maxHeartbeats 2000000 in
theorem lshown_ok {R : List D} {b : Nat} (hb : b ≤ 1919) : ∀ (v : Vl), v.ok R b → v.sz ≤ 200 → ∀ (n : Nat) (st : Store), v.dp + 1 ≤ n → callN T n "_law_shown" [.d v.dL] st = .ok (.d (.str v.txt)) st
  | .num i, h, hz, n + 2, st, _ => by
    have hl := log_big (Nat.lt_of_lt_of_le h (Nat.pow_le_pow_right (by decide) hb))
    have hs := fun st => lsize_ok (n := n) (.num i) st
    simp only [Vl.dL, Vl.sz] at hs
    apply eq_of_wp
    rw [callN_run T_f_law_shown]
    simp [Tg.putV, Tg.put, Tg.puts, Tg.putF_eq, setAll, Tg.slots, Tg.slotss, wipe, indexV, D.index, atI, ixN, cmpV, deref, asB, asD, asDs, asI, bltV, lenDic, bltD, derefs, D.blt, D.bLen, D.bTuple, D.bList, D.seq, mthV, mthOk, setV, ci_eq, ci_ne, ci_lt, ci_le, ci_gt, ci_ge, cs_eq, cs_ne, cb_eq, cb_ne, D.bin, D.slice, cut, sIx, isNon, f_law_shown, runFn, Vl.dL, hs, inB, D.mem, fine, D.dep, D.depAll, D.eqv, D.bStr, hl, leave, Vl.txt]
  | .tru c, _, _, n + 2, st, _ => by
    have hs := fun st => lsize_ok (n := n) (.tru c) st
    simp only [Vl.dL, Vl.sz] at hs
    apply eq_of_wp
    rw [callN_run T_f_law_shown]
    cases c <;> simp [Tg.putV, Tg.put, Tg.puts, Tg.putF_eq, setAll, Tg.slots, Tg.slotss, wipe, indexV, D.index, atI, ixN, cmpV, deref, asB, asD, asDs, asI, bltV, lenDic, bltD, derefs, D.blt, D.bLen, D.bTuple, D.bList, D.seq, mthV, mthOk, setV, ci_eq, ci_ne, ci_lt, ci_le, ci_gt, ci_ge, cs_eq, cs_ne, cb_eq, cb_ne, D.bin, D.slice, cut, sIx, isNon, f_law_shown, runFn, Vl.dL, hs, inB, D.mem, fine, D.dep, D.depAll, D.eqv, leave, Vl.txt]
  | .nil, _, _, n + 2, st, _ => by
    have hs := fun st => lsize_ok (n := n) .nil st
    simp only [Vl.dL, Vl.sz] at hs
    apply eq_of_wp
    rw [callN_run T_f_law_shown]
    simp [Tg.putV, Tg.put, Tg.puts, Tg.putF_eq, setAll, Tg.slots, Tg.slotss, wipe, indexV, D.index, atI, ixN, cmpV, deref, asB, asD, asDs, asI, bltV, lenDic, bltD, derefs, D.blt, D.bLen, D.bTuple, D.bList, D.seq, mthV, mthOk, setV, ci_eq, ci_ne, ci_lt, ci_le, ci_gt, ci_ge, cs_eq, cs_ne, cb_eq, cb_ne, D.bin, D.slice, cut, sIx, isNon, f_law_shown, runFn, Vl.dL, hs, inB, D.mem, fine, D.dep, D.depAll, D.eqv, leave, Vl.txt]
  | .fn xs p a e, _, _, n + 2, st, _ => by
    have hs := fun st => lsize_ok (n := n) (.fn xs p a e) st
    simp only [Vl.dL, Vl.sz] at hs
    apply eq_of_wp
    rw [callN_run T_f_law_shown]
    simp [Tg.putV, Tg.put, Tg.puts, Tg.putF_eq, setAll, Tg.slots, Tg.slotss, wipe, indexV, D.index, atI, ixN, cmpV, deref, asB, asD, asDs, asI, bltV, lenDic, bltD, derefs, D.blt, D.bLen, D.bTuple, D.bList, D.seq, mthV, mthOk, setV, ci_eq, ci_ne, ci_lt, ci_le, ci_gt, ci_ge, cs_eq, cs_ne, cb_eq, cb_ne, D.bin, D.slice, cut, sIx, isNon, f_law_shown, runFn, Vl.dL, hs, inB, D.mem, fine, D.dep, D.depAll, D.eqv, leave, Vl.txt]
  | .pr c x y, h, hz, n + 2, st, hn => by
    have hs := fun st => lsize_ok (n := n) (.pr c x y) st
    have h1 := fun st => lshown_ok hb x h.1 (by simp only [Vl.sz] at hz; omega) (n + 1) st (by simp only [Vl.dp] at hn; omega)
    have h2 := fun st => lshown_ok hb y h.2 (by simp only [Vl.sz] at hz; omega) (n + 1) st (by simp only [Vl.dp] at hn; omega)
    have l1 := x.txt_len hb h.1
    have l2 := y.txt_len hb h.2
    have q3 : ("pair" : String).length = 4 := by decide
    have q4 : ("cons" : String).length = 4 := by decide
    have e1 : ("(" : String).length = 1 := by decide
    have e2 : (" " : String).length = 1 := by decide
    have e3 : (")" : String).length = 1 := by decide
    have hz' : ¬ (200 : Int) < ((Vl.pr c x y).sz : Int) := by omega
    have z : ∀ k : Nat, k ≤ 20 + x.txt.length + y.txt.length → k ≤ LIM := fun k hk => by rw [LIM_eq]; simp only [Vl.sz] at hz; omega
    have i0 : D.index (Vl.pr c x y).dL (.int 0) = some (.str (pw c)) := by simp [Vl.dL, D.index, atI, ixN]
    have i1 : D.index (Vl.pr c x y).dL (.int 1) = some x.dL := by simp [Vl.dL, D.index, atI, ixN]
    have i2 : D.index (Vl.pr c x y).dL (.int 2) = some y.dL := by simp [Vl.dL, D.index, atI, ixN]
    apply eq_of_wp
    rw [callN_run T_f_law_shown]
    cases c
    · have w1 : ("(pair" : String).length = 5 := by decide
      have w2 : ("(pair " : String).length = 6 := by decide
      have w3 : ("(pair " : String) = "(" ++ ("pair" ++ " ") := by decide
      simp [Tg.putV, Tg.put, Tg.puts, Tg.putF_eq, setAll, Tg.slots, Tg.slotss, wipe, indexV, cmpV, deref, asB, asD, asDs, asI, bltV, lenDic, bltD, derefs, D.blt, D.bLen, D.bTuple, D.bList, D.seq, mthV, mthOk, setV, ci_eq, ci_ne, ci_lt, ci_le, ci_gt, ci_ge, cs_eq, cs_ne, cb_eq, cb_ne, D.bin, isNon, f_law_shown, runFn, hs, hz', i0, i1, i2, h1, h2, inB, D.mem, fine, D.dep, D.depAll, D.eqv, pw, q3, q4, e1, e2, e3, leave, Vl.txt, String.append_assoc]
      simp only [w1, w2]
      refine ⟨fun _ => ⟨fun _ => ⟨fun _ => ⟨fun _ => ⟨fun _ => ⟨fun _ => ?_, z _ (by omega)⟩, z _ (by omega)⟩, z _ (by omega)⟩, z _ (by omega)⟩, z _ (by omega)⟩, z _ (by omega)⟩
      rw [w3]
      simp only [String.append_assoc]
    · have w1 : ("(cons" : String).length = 5 := by decide
      have w2 : ("(cons " : String).length = 6 := by decide
      have w3 : ("(cons " : String) = "(" ++ ("cons" ++ " ") := by decide
      simp [Tg.putV, Tg.put, Tg.puts, Tg.putF_eq, setAll, Tg.slots, Tg.slotss, wipe, indexV, cmpV, deref, asB, asD, asDs, asI, bltV, lenDic, bltD, derefs, D.blt, D.bLen, D.bTuple, D.bList, D.seq, mthV, mthOk, setV, ci_eq, ci_ne, ci_lt, ci_le, ci_gt, ci_ge, cs_eq, cs_ne, cb_eq, cb_ne, D.bin, isNon, f_law_shown, runFn, hs, hz', i0, i1, i2, h1, h2, inB, D.mem, fine, D.dep, D.depAll, D.eqv, pw, q3, q4, e1, e2, e3, leave, Vl.txt, String.append_assoc]
      simp only [w1, w2]
      refine ⟨fun _ => ⟨fun _ => ⟨fun _ => ⟨fun _ => ⟨fun _ => ⟨fun _ => ?_, z _ (by omega)⟩, z _ (by omega)⟩, z _ (by omega)⟩, z _ (by omega)⟩, z _ (by omega)⟩, z _ (by omega)⟩
      rw [w3]
      simp only [String.append_assoc]
  | .pr _ _ _, _, _, 0, _, hn | .pr _ _ _, _, _, 1, _, hn => by simp [Vl.dp] at hn
  | .num _, _, _, 0, _, hn | .tru _, _, _, 0, _, hn | .nil, _, _, 0, _, hn | .fn _ _ _ _, _, _, 0, _, hn => by simp [Vl.dp] at hn
  | .num _, _, _, 1, _, hn | .tru _, _, _, 1, _, hn | .nil, _, _, 1, _, hn | .fn _ _ _ _, _, _, 1, _, hn => by simp [Vl.dp] at hn
end
end Prog

namespace Prog
open Ir
/-! ### the law's own run: its four things behind what is there -/
def lwS (st : Store) (R ts vs : List D) (ks : List (D × D)) (jk : Store) : Store := st ++ (.lst R :: .lst ts :: .lst vs :: .dic ks :: jk)
section
variable {st jk : Store} {R ts vs : List D} {ks : List (D × D)}
theorem lw0 : (lwS st R ts vs ks jk)[st.length]? = some (.lst R) := by rw [lwS, List.getElem?_append_right (by omega)]; simp
theorem lw1 : (lwS st R ts vs ks jk)[st.length + 1]? = some (.lst ts) := by rw [lwS, List.getElem?_append_right (by omega)]; simp
theorem lw2 : (lwS st R ts vs ks jk)[st.length + 2]? = some (.lst vs) := by rw [lwS, List.getElem?_append_right (by omega)]; simp
theorem lw3 : (lwS st R ts vs ks jk)[st.length + 3]? = some (.dic ks) := by rw [lwS, List.getElem?_append_right (by omega)]; simp
theorem ls1 {ts' : List D} : (lwS st R ts vs ks jk).set (st.length + 1) (.lst ts') = lwS st R ts' vs ks jk := by simp [lwS, List.set_append]
theorem ls2 {vs' : List D} : (lwS st R ts vs ks jk).set (st.length + 2) (.lst vs') = lwS st R ts vs' ks jk := by simp [lwS, List.set_append]
theorem ls3 {ks' : List (D × D)} : (lwS st R ts vs ks jk).set (st.length + 3) (.dic ks') = lwS st R ts vs ks' jk := by simp [lwS, List.set_append]
theorem lpush {c : Cell} : lwS st R ts vs ks jk ++ [c] = lwS st R ts vs ks (jk ++ [c]) := by simp [lwS]
theorem ltake : (lwS st R ts vs ks jk).take st.length = st := by simp [lwS]
theorem lpopT {x : D} : mPop (st.length + 1) (lwS st R (ts ++ [x]) vs ks jk) [] = .ok (.d x) (lwS st R ts vs ks jk) := by
  simp only [mPop, lw1]
  rw [List.length_append, List.length_singleton, Nat.add_sub_cancel, List.getElem?_append_right (Nat.le_refl _), Nat.sub_self]
  simp only [List.getElem?_cons_zero, List.dropLast_concat, ls1]
theorem lpopV {x : D} : mPop (st.length + 2) (lwS st R ts (vs ++ [x]) ks jk) [] = .ok (.d x) (lwS st R ts vs ks jk) := by
  simp only [mPop, lw2]
  rw [List.length_append, List.length_singleton, Nat.add_sub_cancel, List.getElem?_append_right (Nat.le_refl _), Nat.sub_self]
  simp only [List.getElem?_cons_zero, List.dropLast_concat, ls2]
theorem lappT {x : D} (h : ts.length < 100000) : mAppend (st.length + 1) (lwS st R ts vs ks jk) [.d x] = .ok (.d .non) (lwS st R (ts ++ [x]) vs ks jk) := by
  simp only [mAppend, lw1]
  rw [if_pos (by rw [LIM_eq]; omega), ls1]
theorem lappV {x : D} (h : vs.length < 100000) : mAppend (st.length + 2) (lwS st R ts vs ks jk) [.d x] = .ok (.d .non) (lwS st R ts (vs ++ [x]) ks jk) := by
  simp only [mAppend, lw2]
  rw [if_pos (by rw [LIM_eq]; omega), ls2]
theorem lset {i : Int} (h : ks.length < 100000) : setV (.ref (st.length + 3)) (.d (.int i)) (.bool true) (lwS st R ts vs ks jk) = some (lwS st R ts vs (putK ks (.int i) (.bool true)) jk) := by
  simp only [setV, lw3]
  rw [if_pos (by rw [LIM_eq]; omega), ls3]
theorem lnn : nnV (lwS st R ts vs ks jk) (.ref (st.length + 1)) = some (.bool (!ts.isEmpty)) := by simp only [nnV, lw1]
theorem ldk {bg : List Nat} (h : bg.length < 64) : dkeysV (lwS st R ts vs (ksD bg) jk) (.ref (st.length + 3)) = some (bgD bg) := by
  simp only [dkeysV, lw3, ints_ks, Option.bind_some]
  rw [if_pos (by simpa using h)]
theorem merge_l2 : mergeF [] [D.str "let", D.int 1, D.str "if", D.int 1] = some [(.str "let", .int 1), (.str "if", .int 1)] := by simp [mergeF, D.key, putK, D.eqv]
theorem lget {s : Store} {h : String} {k : Int} : mGet s.length (s ++ [.dic [(.str "let", .int 1), (.str "if", .int 1)]]) [.d (.str h), .d (.int k)] = .ok (.d (.int (if h = "let" then 1 else if h = "if" then 1 else k))) (s ++ [.dic [(.str "let", .int 1), (.str "if", .int 1)]]) := by
  simp only [mGet, get_push, D.key, if_true]
  by_cases h1 : h = "let"
  · subst h1; simp [lookK, D.eqv]
  · by_cases h2 : h = "if"
    · subst h2; simp [lookK, D.eqv]
    · simp [lookK, D.eqv, h1, h2, eq_comm]
theorem lget' {h : String} {k : Int} : mGet (lwS st R ts vs ks jk).length (lwS st R ts vs ks (jk ++ [.dic [(.str "let", .int 1), (.str "if", .int 1)]])) [.d (.str h), .d (.int k)] = .ok (.d (.int (if h = "let" then 1 else if h = "if" then 1 else k))) (lwS st R ts vs ks (jk ++ [.dic [(.str "let", .int 1), (.str "if", .int 1)]])) := by
  rw [← lpush]; exact lget
end
/-! ### names looked up by the law -/
def En.prs : En → List (String × Vl)
  | .nil => []
  | .cons x v e => e.prs ++ [(x, v)]
theorem En.dL_prs : ∀ e : En, e.dL = e.prs.map fun q => .tup [.str q.1, q.2.dL]
  | .nil => rfl
  | .cons x v e => by simp only [En.dL, En.prs, List.map_append, List.map_cons, List.map_nil, e.dL_prs]
theorem En.look_prs {x : String} : ∀ {e : En}, x ∈ e.nms → ∃ pre, ((e.prs.filter fun q => decide (q.1 = x)).map fun q => q.2.dL) = pre ++ [(e.look x).dL]
  | .nil, h => by simp [En.nms] at h
  | .cons y v e, h => by
    simp only [En.prs, En.look, List.filter_append, List.map_append]
    by_cases c : y = x
    · exact ⟨_, by simp [c]; rfl⟩
    · have h : x ∈ e.nms := by simpa [En.nms, Ne.symm c] using h
      obtain ⟨pre, q⟩ := En.look_prs h
      exact ⟨pre, by simp [c, q]⟩
end Prog

namespace Prog
open Ir
abbrev lwE (pd : D) (most B g : Nat) (x7 x8 x9 x10 x11 x12 x13 x14 x15 x16 x17 x18 x19 : Option Val) : Env :=
  [some (.d pd), some (.d (.int most)), some (.ref B), some (.ref (B + 1)), some (.ref (B + 2)), some (.ref (B + 3)), some (.d (.int g)), x7, x8, x9, x10, x11, x12, x13, x14, x15, x16, x17, x18, x19]
def LE (pd : D) (most B g : Nat) (σ : Env) : Prop := ∃ x7 x8 x9 x10 x11 x12 x13 x14 x15 x16 x17 x18 x19, σ = lwE pd most B g x7 x8 x9 x10 x11 x12 x13 x14 x15 x16 x17 x18 x19
theorem comp_look {C : Calls} {σ : Env} {s : Store} {x : String} (h : σ[11]? = some (some (.d (.lst [.str x])))) (hl : 19 < σ.length) : ∀ l : List (String × Vl),
    compL (compStep (eval C f_law_run_c0) (conds C f_law_run_k0) (.name 19) σ) (l.map fun q => .tup [.str q.1, q.2.dL]) s = .ok ((l.filter fun q => decide (q.1 = x)).map fun q => q.2.dL) s
  | [] => rfl
  | (y, v) :: l => by
    have ih := comp_look (C := C) (s := s) h hl l
    have h1 : (σ.set 19 (some (.d (.tup [.str y, v.dL]))))[19]? = some (some (.d (.tup [.str y, v.dL]))) := List.getElem?_set_self hl
    have h2 : (σ.set 19 (some (.d (.tup [.str y, v.dL]))))[11]? = some (some (.d (.lst [.str x]))) := by rw [List.getElem?_set_ne (by decide)]; exact h
    have hs : compStep (eval C f_law_run_c0) (conds C f_law_run_k0) (.name 19) σ (.tup [.str y, v.dL]) s = .ok (if y = x then some v.dL else none) s := by
      by_cases c : y = x
      · subst c
        simp [Tg.putV, Tg.put, Tg.puts, Tg.putF_eq, setAll, Tg.slots, Tg.slotss, wipe, indexV, cmpV, deref, asB, asD, asDs, asI, bltV, lenDic, bltD, derefs, D.blt, D.bLen, D.bTuple, D.bList, D.seq, mthV, mthOk, setV, ci_eq, ci_ne, ci_lt, ci_le, ci_gt, ci_ge, cs_eq, cs_ne, cb_eq, cb_ne, D.bin, isNon, compStep, h1, h2, ixT20, ixT21, ixL10, conds]
      · simp [Tg.putV, Tg.put, Tg.puts, Tg.putF_eq, setAll, Tg.slots, Tg.slotss, wipe, indexV, cmpV, deref, asB, asD, asDs, asI, bltV, lenDic, bltD, derefs, D.blt, D.bLen, D.bTuple, D.bList, D.seq, mthV, mthOk, setV, ci_eq, ci_ne, ci_lt, ci_le, ci_gt, ci_ge, cs_eq, cs_ne, cb_eq, cb_ne, D.bin, isNon, compStep, h1, h2, ixT20, ixT21, ixL10, c, conds]
    simp only [List.map_cons, compL, hs, Res.bind_ok, ih]
    by_cases c : y = x
    · simp [c]
    · simp [c]
theorem ix_last (pre : List D) (x : D) : D.index (.lst (pre ++ [x])) (.int (-1)) = some x := by
  simp only [D.index]
  unfold atI ixN
  rw [if_neg (by omega), if_pos (by simp; omega), show (-1 + (((pre ++ [x]).length : Nat) : Int)).toNat = pre.length by simp; omega]
  simp
theorem lgetc {st jk : Store} {R ts vs : List D} {ks : List (D × D)} {c : Cell} : (lwS st R ts vs ks (jk ++ [c]))[(lwS st R ts vs ks jk).length]? = some c := by rw [← lpush]; exact get_push _ _
section
variable {st jk : Store} {R : List D} {n : Nat}
theorem tl1 (K : List Tk) (t : Tk) : tsL (t :: K) = tsL K ++ [tkL t] := by simp [tsL]
theorem tl3 (K : List Tk) (t u v : Tk) : tsL (t :: u :: v :: K) = tsL K ++ [tkL v] ++ [tkL u] ++ [tkL t] := by simp [tsL]
theorem vl1 (V : List Vl) (x : Vl) : vsL (x :: V) = vsL V ++ [x.dL] := by simp [vsL]
theorem vl2 (V : List Vl) (x y : Vl) : vsL (y :: x :: V) = vsL V ++ [x.dL] ++ [y.dL] := by simp [vsL]
set_option maxHeartbeats 8000000 in
theorem turn_begin {p : Pg} {a l g most : Nat} {e : En} {K : List Tk} {V : List Vl} {bg : List Nat} {pd : D} {σ : Env} (hσ : LE pd most st.length g σ) (hg : g < most) (sk : p.sk) (cl : p.cl e.nms = true) (sb : Sb R p a) (hK : K.length < 10000) (hV : V.length < 10000) (hb : bg.length < 10000) :
    @Wp _ (execs (callN T (n + 2)) f_law_run_b1 σ (lwS st R (tsL ((p, a, e, false) :: K)) (vsL V) (ksD bg) jk)) ⟨fun o s => ∃ σ' jk', o = .nx σ' ∧ LE pd most st.length (g + 1) σ' ∧ s = lwS st R (tsL (bgn p a e K V p.core).1) (vsL (bgn p a e K V p.core).2) (ksD (addK bg a)) jk'⟩ := by
  obtain ⟨x7, x8, x9, x10, x11, x12, x13, x14, x15, x16, x17, x18, x19, rfl⟩ := hσ
  rw [tl1]
  have hr := sb.core.row
  have sk' := Pg.core_sk sk
  rw [← Pg.core_cl] at cl
  have hl : (tsL K).length < 100000 := by simp [tsL]; omega
  have hl1 : ∀ x, (tsL K ++ [x]).length < 100000 := fun x => by simp [tsL]; omega
  have hl2 : ∀ x y, (tsL K ++ [x] ++ [y]).length < 100000 := fun x y => by simp [tsL]; omega
  have hv : (vsL V).length < 100000 := by simp [vsL]; omega
  have hk : (ksD bg).length < 100000 := by simp [ksD]; omega
  have hB := putK_ks bg a
  have hbl : bg.length < 16777216 := by omega
  have c1 : ¬ ((g : Int) = most) := by omega
  have aT := fun (vs : List D) (ks : List (D × D)) (jk : Store) (x : D) => lappT (st := st) (R := R) (ts := tsL K) (vs := vs) (ks := ks) (jk := jk) (x := x) hl
  have aT1 := fun (vs : List D) (ks : List (D × D)) (jk : Store) (y x : D) => lappT (st := st) (R := R) (ts := tsL K ++ [y]) (vs := vs) (ks := ks) (jk := jk) (x := x) (hl1 y)
  have aT2 := fun (vs : List D) (ks : List (D × D)) (jk : Store) (z y x : D) => lappT (st := st) (R := R) (ts := tsL K ++ [z] ++ [y]) (vs := vs) (ks := ks) (jk := jk) (x := x) (hl2 z y)
  have aV := fun (ts : List D) (ks : List (D × D)) (jk : Store) (x : D) => lappV (st := st) (R := R) (ts := ts) (vs := vsL V) (ks := ks) (jk := jk) (x := x) hv
  have sB := fun (ts vs : List D) (jk : Store) => lset (st := st) (R := R) (ts := ts) (vs := vs) (ks := ksD bg) (jk := jk) (i := (a : Int)) hk
  cases hp : p.core with
  | off q => rw [hp] at sk'; cases sk'.2
  | num i =>
    rw [hp] at hr
    have hr : D.index (.lst R) (.int a) = some (rwD "num" [.int i] []) := ix_row hr
    simp [-List.append_assoc, -List.map_append, Tg.putV, Tg.put, Tg.puts, Tg.putF_eq, setAll, Tg.slots, Tg.slotss, wipe, indexV, cmpV, deref, asB, asD, asDs, asI, bltV, lenDic, bltD, derefs, D.blt, D.bLen, D.bTuple, D.bList, D.seq, mthV, mthOk, setV, ci_eq, ci_ne, ci_lt, ci_le, ci_gt, ci_ge, cs_eq, cs_ne, cb_eq, cb_ne, D.bin, isNon, f_law_run_b1, f_law_run_b0, lpopT, tkL, lw0, lw1, lw2, lw3, ls1, ls2, ls3, hr, merge_l2, lpush, lget', lgetc, c1, hbl, hB, aT, aT1, aT2, aV, inB, D.mem, fine, D.dep, D.depAll, D.eqv, D.bTuple, LIM_eq, bgn, tl1, tl3, vl1, Vl.dL, tkL, ixL10, ixL20, ixL21, il30, il31, il32, D.slice, cut, sIx, revV, loopL]
    exact ⟨⟨_, _, _, _, _, _, _, _, _, _, _, _, _, rfl⟩, _, rfl⟩
  | truth i =>
    rw [hp] at hr
    have hr : D.index (.lst R) (.int a) = some (rwD "truth" [.bool i] []) := ix_row hr
    simp [-List.append_assoc, -List.map_append, Tg.putV, Tg.put, Tg.puts, Tg.putF_eq, setAll, Tg.slots, Tg.slotss, wipe, indexV, cmpV, deref, asB, asD, asDs, asI, bltV, lenDic, bltD, derefs, D.blt, D.bLen, D.bTuple, D.bList, D.seq, mthV, mthOk, setV, ci_eq, ci_ne, ci_lt, ci_le, ci_gt, ci_ge, cs_eq, cs_ne, cb_eq, cb_ne, D.bin, isNon, f_law_run_b1, f_law_run_b0, lpopT, tkL, lw0, lw1, lw2, lw3, ls1, ls2, ls3, hr, merge_l2, lpush, lget', lgetc, c1, hbl, hB, aT, aT1, aT2, aV, inB, D.mem, fine, D.dep, D.depAll, D.eqv, D.bTuple, LIM_eq, bgn, tl1, tl3, vl1, Vl.dL, tkL, ixL10, ixL20, ixL21, il30, il31, il32, D.slice, cut, sIx, revV, loopL]
    exact ⟨⟨_, _, _, _, _, _, _, _, _, _, _, _, _, rfl⟩, _, rfl⟩
  | nil =>
    rw [hp] at hr
    have hr : D.index (.lst R) (.int a) = some (rwD "nil" [] []) := ix_row hr
    simp [-List.append_assoc, -List.map_append, Tg.putV, Tg.put, Tg.puts, Tg.putF_eq, setAll, Tg.slots, Tg.slotss, wipe, indexV, cmpV, deref, asB, asD, asDs, asI, bltV, lenDic, bltD, derefs, D.blt, D.bLen, D.bTuple, D.bList, D.seq, mthV, mthOk, setV, ci_eq, ci_ne, ci_lt, ci_le, ci_gt, ci_ge, cs_eq, cs_ne, cb_eq, cb_ne, D.bin, isNon, f_law_run_b1, f_law_run_b0, lpopT, tkL, lw0, lw1, lw2, lw3, ls1, ls2, ls3, hr, merge_l2, lpush, lget', lgetc, c1, hbl, hB, aT, aT1, aT2, aV, inB, D.mem, fine, D.dep, D.depAll, D.eqv, D.bTuple, LIM_eq, bgn, tl1, tl3, vl1, Vl.dL, tkL, ixL10, ixL20, ixL21, il30, il31, il32, D.slice, cut, sIx, revV, loopL]
    exact ⟨⟨_, _, _, _, _, _, _, _, _, _, _, _, _, rfl⟩, _, rfl⟩
  | name x =>
    rw [hp] at hr cl
    have hr : D.index (.lst R) (.int a) = some (rwD "name" [.str x] []) := ix_row hr
    have hx : x ∈ e.nms := by simpa [Pg.cl] using cl
    obtain ⟨pre, hpre⟩ := En.look_prs hx
    have hcl : ∀ (σ : Env) (s : Store), σ[11]? = some (some (.d (.lst [.str x]))) → 19 < σ.length → compL (compStep (eval (callN T (n + 2)) f_law_run_c0) (conds (callN T (n + 2)) f_law_run_k0) (.name 19) σ) e.dL s = .ok (pre ++ [(e.look x).dL]) s := fun σ s h1 h2 => by
      rw [e.dL_prs, comp_look h1 h2, hpre]
    have hlast := ix_last pre (e.look x).dL
    simp [-List.append_assoc, -List.map_append, Tg.putV, Tg.put, Tg.puts, Tg.putF_eq, setAll, Tg.slots, Tg.slotss, wipe, indexV, cmpV, deref, asB, asD, asDs, asI, bltV, lenDic, bltD, derefs, D.blt, D.bLen, D.bTuple, D.bList, D.seq, mthV, mthOk, setV, ci_eq, ci_ne, ci_lt, ci_le, ci_gt, ci_ge, cs_eq, cs_ne, cb_eq, cb_ne, D.bin, isNon, f_law_run_b1, f_law_run_b0, lpopT, tkL, lw0, lw1, lw2, lw3, ls1, ls2, ls3, hr, merge_l2, lpush, lget', lgetc, c1, hbl, hB, aT, aT1, aT2, aV, inB, D.mem, fine, D.dep, D.depAll, D.eqv, D.bTuple, LIM_eq, bgn, tl1, tl3, vl1, Vl.dL, tkL, ixL10, ixL20, ixL21, il30, il31, il32, D.slice, cut, sIx, revV, loopL, hcl, hlast]
    exact ⟨⟨_, _, _, _, _, _, _, _, _, _, _, _, _, rfl⟩, _, rfl⟩
  | one w xs q =>
    rw [hp] at hr sk'
    have hr : D.index (.lst R) (.int a) = some (rwD w (xs.map .str) [.int (a + 1 : Nat)]) := ix_row hr
    rcases sk'.1.1 with ⟨hw, rfl⟩ | ⟨rfl, x, rfl, _⟩ | ⟨rfl, f, x, rfl, _⟩
    · simp only [ONES, List.mem_cons, List.not_mem_nil, or_false] at hw
      rcases hw with rfl | rfl | rfl | rfl | rfl <;> (simp [-List.append_assoc, -List.map_append, Tg.putV, Tg.put, Tg.puts, Tg.putF_eq, setAll, Tg.slots, Tg.slotss, wipe, indexV, cmpV, deref, asB, asD, asDs, asI, bltV, lenDic, bltD, derefs, D.blt, D.bLen, D.bTuple, D.bList, D.seq, mthV, mthOk, setV, ci_eq, ci_ne, ci_lt, ci_le, ci_gt, ci_ge, cs_eq, cs_ne, cb_eq, cb_ne, D.bin, isNon, f_law_run_b1, f_law_run_b0, lpopT, tkL, lw0, lw1, lw2, lw3, ls1, ls2, ls3, hr, merge_l2, lpush, lget', lgetc, c1, hbl, hB, aT, aT1, aT2, aV, inB, D.mem, fine, D.dep, D.depAll, D.eqv, D.bTuple, LIM_eq, bgn, tl1, tl3, vl1, Vl.dL, tkL, ixL10, ixL20, ixL21, il30, il31, il32, D.slice, cut, sIx, revV, loopL]; exact ⟨⟨_, _, _, _, _, _, _, _, _, _, _, _, _, rfl⟩, _, rfl⟩)
    · simp [-List.append_assoc, -List.map_append, Tg.putV, Tg.put, Tg.puts, Tg.putF_eq, setAll, Tg.slots, Tg.slotss, wipe, indexV, cmpV, deref, asB, asD, asDs, asI, bltV, lenDic, bltD, derefs, D.blt, D.bLen, D.bTuple, D.bList, D.seq, mthV, mthOk, setV, ci_eq, ci_ne, ci_lt, ci_le, ci_gt, ci_ge, cs_eq, cs_ne, cb_eq, cb_ne, D.bin, isNon, f_law_run_b1, f_law_run_b0, lpopT, tkL, lw0, lw1, lw2, lw3, ls1, ls2, ls3, hr, merge_l2, lpush, lget', lgetc, c1, hbl, hB, aT, aT1, aT2, aV, inB, D.mem, fine, D.dep, D.depAll, D.eqv, D.bTuple, LIM_eq, bgn, tl1, tl3, vl1, Vl.dL, tkL, ixL10, ixL20, ixL21, il30, il31, il32, D.slice, cut, sIx, revV, loopL]
      exact ⟨⟨_, _, _, _, _, _, _, _, _, _, _, _, _, rfl⟩, _, rfl⟩
    · simp [-List.append_assoc, -List.map_append, Tg.putV, Tg.put, Tg.puts, Tg.putF_eq, setAll, Tg.slots, Tg.slotss, wipe, indexV, cmpV, deref, asB, asD, asDs, asI, bltV, lenDic, bltD, derefs, D.blt, D.bLen, D.bTuple, D.bList, D.seq, mthV, mthOk, setV, ci_eq, ci_ne, ci_lt, ci_le, ci_gt, ci_ge, cs_eq, cs_ne, cb_eq, cb_ne, D.bin, isNon, f_law_run_b1, f_law_run_b0, lpopT, tkL, lw0, lw1, lw2, lw3, ls1, ls2, ls3, hr, merge_l2, lpush, lget', lgetc, c1, hbl, hB, aT, aT1, aT2, aV, inB, D.mem, fine, D.dep, D.depAll, D.eqv, D.bTuple, LIM_eq, bgn, tl1, tl3, vl1, Vl.dL, tkL, ixL10, ixL20, ixL21, il30, il31, il32, D.slice, cut, sIx, revV, loopL]
      exact ⟨⟨_, _, _, _, _, _, _, _, _, _, _, _, _, rfl⟩, _, rfl⟩
  | two w xs q r =>
    rw [hp] at hr sk'
    have hr : D.index (.lst R) (.int a) = some (rwD w (xs.map .str) [.int (a + 1 : Nat), .int (a + 1 + q.pl : Nat)]) := ix_row hr
    rcases sk'.1.1 with ⟨hw, rfl⟩ | ⟨rfl, x, rfl, _⟩
    · simp only [TWOS, List.mem_cons, List.not_mem_nil, or_false] at hw
      rcases hw with rfl | rfl | rfl | rfl | rfl <;> (simp [-List.append_assoc, -List.map_append, Tg.putV, Tg.put, Tg.puts, Tg.putF_eq, setAll, Tg.slots, Tg.slotss, wipe, indexV, cmpV, deref, asB, asD, asDs, asI, bltV, lenDic, bltD, derefs, D.blt, D.bLen, D.bTuple, D.bList, D.seq, mthV, mthOk, setV, ci_eq, ci_ne, ci_lt, ci_le, ci_gt, ci_ge, cs_eq, cs_ne, cb_eq, cb_ne, D.bin, isNon, f_law_run_b1, f_law_run_b0, lpopT, tkL, lw0, lw1, lw2, lw3, ls1, ls2, ls3, hr, merge_l2, lpush, lget', lgetc, c1, hbl, hB, aT, aT1, aT2, aV, inB, D.mem, fine, D.dep, D.depAll, D.eqv, D.bTuple, LIM_eq, bgn, tl1, tl3, vl1, Vl.dL, tkL, ixL10, ixL20, ixL21, il30, il31, il32, D.slice, cut, sIx, revV, loopL]; exact ⟨⟨_, _, _, _, _, _, _, _, _, _, _, _, _, rfl⟩, _, rfl⟩)
    · simp [-List.append_assoc, -List.map_append, Tg.putV, Tg.put, Tg.puts, Tg.putF_eq, setAll, Tg.slots, Tg.slotss, wipe, indexV, cmpV, deref, asB, asD, asDs, asI, bltV, lenDic, bltD, derefs, D.blt, D.bLen, D.bTuple, D.bList, D.seq, mthV, mthOk, setV, ci_eq, ci_ne, ci_lt, ci_le, ci_gt, ci_ge, cs_eq, cs_ne, cb_eq, cb_ne, D.bin, isNon, f_law_run_b1, f_law_run_b0, lpopT, tkL, lw0, lw1, lw2, lw3, ls1, ls2, ls3, hr, merge_l2, lpush, lget', lgetc, c1, hbl, hB, aT, aT1, aT2, aV, inB, D.mem, fine, D.dep, D.depAll, D.eqv, D.bTuple, LIM_eq, bgn, tl1, tl3, vl1, Vl.dL, tkL, ixL10, ixL20, ixL21, il30, il31, il32, D.slice, cut, sIx, revV, loopL]
      exact ⟨⟨_, _, _, _, _, _, _, _, _, _, _, _, _, rfl⟩, _, rfl⟩
  | thr w xs q r s =>
    rw [hp] at hr sk'
    have hr : D.index (.lst R) (.int a) = some (rwD w (xs.map .str) [.int (a + 1 : Nat), .int (a + 1 + q.pl : Nat), .int (a + 1 + q.pl + r.pl : Nat)]) := ix_row hr
    obtain ⟨⟨rfl, rfl, _⟩, _⟩ := sk'
    simp [-List.append_assoc, -List.map_append, Tg.putV, Tg.put, Tg.puts, Tg.putF_eq, setAll, Tg.slots, Tg.slotss, wipe, indexV, cmpV, deref, asB, asD, asDs, asI, bltV, lenDic, bltD, derefs, D.blt, D.bLen, D.bTuple, D.bList, D.seq, mthV, mthOk, setV, ci_eq, ci_ne, ci_lt, ci_le, ci_gt, ci_ge, cs_eq, cs_ne, cb_eq, cb_ne, D.bin, isNon, f_law_run_b1, f_law_run_b0, lpopT, tkL, lw0, lw1, lw2, lw3, ls1, ls2, ls3, hr, merge_l2, lpush, lget', lgetc, c1, hbl, hB, aT, aT1, aT2, aV, inB, D.mem, fine, D.dep, D.depAll, D.eqv, D.bTuple, LIM_eq, bgn, tl1, tl3, vl1, Vl.dL, tkL, ixL10, ixL20, ixL21, il30, il31, il32, D.slice, cut, sIx, revV, loopL]
    exact ⟨⟨_, _, _, _, _, _, _, _, _, _, _, _, _, rfl⟩, _, rfl⟩
end
end Prog

namespace Prog
open Ir
theorem ixT10 (a : D) : D.index (.tup [a]) (.int 0) = some a := by simp [D.index, atI, ixN]
theorem ivdL (st : Store) (a k : D) : indexV st (.d a) (.d k) = a.index k := rfl
theorem bR1 : D.bRange [.int 1] = some (.lst [.int 0]) := by
  exact bRange_nat (n := 1) (by rw [LIM_eq]; decide)
theorem bR2 : D.bRange [.int 2] = some (.lst [.int 0, .int 1]) := by
  exact bRange_nat (n := 2) (by rw [LIM_eq]; decide)
/-- what a turn comes to -/
def Tn (st : Store) (R : List D) (bg : List Nat) (pd : D) (most g : Nat) (r : (List Tk × List Vl) ⊕ Fin') (o : Out) (s : Store) : Prop := match r with
  | .inl (t, v) => ∃ σ' jk', o = .nx σ' ∧ LE pd most st.length g σ' ∧ s = lwS st R (tsL t) (vsL v) (ksD bg) jk'
  | .inr f => o = .ret (.d (.tup [f.d, bgD bg, .int g])) ∧ ∃ ts vs jk', s = lwS st R ts vs (ksD bg) jk'
/-- one statement alone -/
theorem execs_one (C : Calls) (s : Stm) (σ : Env) (st : Store) : execs C [s] σ st = exec C s σ st := by
  rw [execs_cons]
  cases exec C s σ st with
  | ok o s1 => cases o <;> rfl
  | exc c as s1 => rfl
  | bad => rfl
def Stm.thn : Stm → List Stm
  | .ite _ a _ => a
  | _ => []
def Stm.els : Stm → List Stm
  | .ite _ _ b => b
  | _ => []
/-- the turn of a place whose parts were run; its look at what it is to do -/
abbrev rB : List Stm := Stm.els (f_law_run_b1.getD 4 .pass)
abbrev rI : Stm := rB.getD 1 .pass
section
variable {st jk : Store} {R : List D} {n : Nat}
set_option maxHeartbeats 4000000 in
theorem fin_pre {p : Pg} {a g most : Nat} {e : En} {ts vs : List D} {bg : List Nat} {pd : D} {w : String} {own kids : List D} {x7 x8 x9 x10 x11 x12 x13 x14 x15 x16 x17 x18 x19 : Option Val} {pp : Post Out} (hr : D.index (.lst R) (.int a) = some (rwD w own kids)) (hk : kids.length ≤ 3)
    (k : ∀ jk', @Wp _ (execs (callN T (n + 2)) rB (lwE pd most st.length g (some (.d (.int a))) (some (.d (.lst e.dL))) (some (.d (.bool true))) (some (.d (.str w))) (some (.d (.lst own))) (some (.d (.lst kids))) (some (.d (.int (if w = "let" then 1 else if w = "if" then 1 else kids.length)))) x14 x15 x16 x17 x18 x19) (lwS st R ts vs (ksD bg) jk')) pp) :
    @Wp _ (execs (callN T (n + 2)) f_law_run_b1 (lwE pd most st.length g x7 x8 x9 x10 x11 x12 x13 x14 x15 x16 x17 x18 x19) (lwS st R (ts ++ [tkL (p, a, e, true)]) vs (ksD bg) jk)) pp := by
  have e4 : ∃ A, f_law_run_b1.getD 4 .pass = .ite (.not (.var 9)) A rB := ⟨_, rfl⟩
  obtain ⟨A, e4⟩ := e4
  obtain ⟨Z, hZ⟩ : ∃ Z, f_law_run_b1.getD 4 .pass = Z := ⟨_, rfl⟩
  have eb : f_law_run_b1 = f_law_run_b1.take 4 ++ [Z] := by rw [← hZ]; rfl
  have fin : ∀ σ s, σ[9]? = some (some (.d (.bool true))) → @Wp _ (execs (callN T (n + 2)) rB σ s) pp → @Wp _ (execs (callN T (n + 2)) [Z] σ s) pp := fun σ s h9 h => by
    rw [execs_one, ← hZ, e4]
    simp [h9, asB]
    exact h
  rw [eb]
  have hll : (kids.length : Nat) ≤ LIM := by rw [LIM_eq]; omega
  obtain ⟨Y, hY⟩ : ∃ Y, [Z] = Y := ⟨_, rfl⟩
  rw [hY] at fin ⊢
  simp [-List.append_assoc, Tg.putV, Tg.put, Tg.puts, Tg.putF_eq, setAll, Tg.slots, Tg.slotss, wipe, indexV, cmpV, deref, asB, asD, asDs, asI, bltV, lenDic, bltD, derefs, D.blt, D.bLen, D.bTuple, D.bList, D.seq, mthV, mthOk, setV, ci_eq, ci_ne, ci_lt, ci_le, ci_gt, ci_ge, cs_eq, cs_ne, cb_eq, cb_ne, D.bin, isNon, f_law_run_b1, lpopT, tkL, lw0, lw1, hr, merge_l2, lpush, lget', lgetc]
  exact fin _ _ rfl (k _)
set_option maxHeartbeats 4000000 in
theorem fin_some1 {g most : Nat} {V : List Vl} {v : Vl} {bg : List Nat} {pd : D} {ts : List D} {x7 x8 x9 x10 x11 x12 x14 x15 x16 x17 x18 x19 : Option Val} {pp : Post Out}
    (k : @Wp _ (exec (callN T (n + 2)) rI (lwE pd most st.length g x7 x8 x9 x10 x11 x12 (some (.d (.int 1))) (some (.d (.lst [v.dL]))) x15 x16 x17 x18 x19) (lwS st R ts (vsL V) (ksD bg) jk)) pp) :
    @Wp _ (execs (callN T (n + 2)) rB (lwE pd most st.length g x7 x8 x9 x10 x11 x12 (some (.d (.int 1))) x14 x15 x16 x17 x18 x19) (lwS st R ts (vsL (v :: V)) (ksD bg) jk)) pp := by
  obtain ⟨Z, hZ⟩ : ∃ Z, rI = Z := ⟨_, rfl⟩
  have eb : rB = rB.take 1 ++ [Z] := by rw [← hZ]; rfl
  have fin := (execs_one (callN T (n + 2)) Z)
  rw [eb]
  rw [hZ] at k
  obtain ⟨Y, hY⟩ : ∃ Y, [Z] = Y := ⟨_, rfl⟩
  rw [hY] at fin ⊢
  have h1 := bR1
  simp [-List.append_assoc, -List.map_append, Tg.putV, Tg.put, Tg.puts, Tg.putF_eq, setAll, Tg.slots, Tg.slotss, wipe, indexV, cmpV, deref, asB, asD, asDs, asI, bltV, lenDic, bltD, derefs, D.blt, D.bLen, D.bTuple, D.bList, D.seq, mthV, mthOk, setV, ci_eq, ci_ne, ci_lt, ci_le, ci_gt, ci_ge, cs_eq, cs_ne, cb_eq, cb_ne, D.bin, isNon, rB, Stm.els, f_law_run_b1, lpopV, lw2, vl1, bR1, compL, compStep, conds, revV, fin]
  exact k
set_option maxHeartbeats 4000000 in
theorem fin_some2 {g most : Nat} {V : List Vl} {x y : Vl} {bg : List Nat} {pd : D} {ts : List D} {x7 x8 x9 x10 x11 x12 x14 x15 x16 x17 x18 x19 : Option Val} {pp : Post Out}
    (k : @Wp _ (exec (callN T (n + 2)) rI (lwE pd most st.length g x7 x8 x9 x10 x11 x12 (some (.d (.int 2))) (some (.d (.lst [x.dL, y.dL]))) x15 x16 x17 x18 x19) (lwS st R ts (vsL V) (ksD bg) jk)) pp) :
    @Wp _ (execs (callN T (n + 2)) rB (lwE pd most st.length g x7 x8 x9 x10 x11 x12 (some (.d (.int 2))) x14 x15 x16 x17 x18 x19) (lwS st R ts (vsL (y :: x :: V)) (ksD bg) jk)) pp := by
  obtain ⟨Z, hZ⟩ : ∃ Z, rI = Z := ⟨_, rfl⟩
  have eb : rB = rB.take 1 ++ [Z] := by rw [← hZ]; rfl
  have fin := (execs_one (callN T (n + 2)) Z)
  rw [eb]
  rw [hZ] at k
  obtain ⟨Y, hY⟩ : ∃ Y, [Z] = Y := ⟨_, rfl⟩
  rw [hY] at fin ⊢
  simp [-List.append_assoc, -List.map_append, Tg.putV, Tg.put, Tg.puts, Tg.putF_eq, setAll, Tg.slots, Tg.slotss, wipe, indexV, cmpV, deref, asB, asD, asDs, asI, bltV, lenDic, bltD, derefs, D.blt, D.bLen, D.bTuple, D.bList, D.seq, mthV, mthOk, setV, ci_eq, ci_ne, ci_lt, ci_le, ci_gt, ci_ge, cs_eq, cs_ne, cb_eq, cb_ne, D.bin, isNon, rB, Stm.els, f_law_run_b1, lpopV, lw2, vl2, bR2, compL, compStep, conds, revV, fin]
  exact k
set_option maxHeartbeats 4000000 in
theorem fin_told {g most a : Nat} {ts vs : List D} {bg : List Nat} {pd : D} {w k : String} {own kids env some' : D} {x9 x13 x15 x16 x17 x18 x19 : Option Val} {pp : Post Out} (hb : bg.length < 64) (hw : w ≠ "let" ∧ w ≠ "if" ∧ w ≠ "call") (r : D)
    (ht : ∀ s, callN T (n + 2) "_law_told" [.d (.str w), .d some'] s = .ok (.d r) s) (hr0 : D.index r (.int 0) = some (.str k))
    (K1 : k = "value" → ∃ z, D.index r (.int 1) = some z ∧ vs.length < 100000 ∧ ∀ σ', LE pd most st.length g σ' → pp.q (.nx σ') (lwS st R ts (vs ++ [z]) (ksD bg) jk))
    (K2 : k ≠ "value" → pp.q (.ret (.d (.tup [.tup [.str k, .int a], bgD bg, .int g]))) (lwS st R ts vs (ksD bg) jk)) :
    @Wp _ (exec (callN T (n + 2)) rI (lwE pd most st.length g (some (.d (.int a))) (some (.d env)) x9 (some (.d (.str w))) (some (.d own)) (some (.d kids)) x13 (some (.d some')) x15 x16 x17 x18 x19) (lwS st R ts vs (ksD bg) jk)) pp := by
  have hin : ∀ s, cmpV .isin s (.d (.str w)) (.d (.lst [.str "let", .str "if", .str "call"])) = some false := fun s => by
    have := mem_strs w ["let", "if", "call"]
    simp only [List.map_cons, List.map_nil] at this
    simp only [cmpV, inB, this]
    simp [hw.1, hw.2.1, hw.2.2]
  have dk := ldk (st := st) (R := R) (ts := ts) (vs := vs) (jk := jk) hb
  have hcm : ∀ s, cmpV .ne s (.d (.str k)) (.d (.str "value")) = some (!decide (k = "value")) := fun s => by simp [cmpV, deref, cs_ne]
  by_cases hk : k = "value"
  · obtain ⟨z, h1, h2, h3⟩ := K1 hk
    subst hk
    have aV := lappV (st := st) (R := R) (ts := ts) (vs := vs) (ks := ksD bg) (jk := jk) (x := z) h2
    simp [-List.append_assoc, rI, rB, Stm.els, f_law_run_b1, asDs, hin, asB, ht, Tg.putV, ivdL, hr0, h1, hcm, mthOk, mthV, lw2, aV]
    exact h3 _ ⟨_, _, _, _, _, _, _, _, _, _, _, _, _, rfl⟩
  · have := K2 hk
    simp [-List.append_assoc, rI, rB, Stm.els, f_law_run_b1, asDs, hin, asB, ht, Tg.putV, ivdL, hr0, hcm, hk, asDs, dk]
    exact this
set_option maxHeartbeats 4000000 in
theorem fin_enter {g most a : Nat} {ts vs : List D} {bg : List Nat} {pd : D} {w : String} {own kids env some' : D} {x9 x13 x15 x16 x17 x18 x19 : Option Val} {pp : Post Out} (hb : bg.length < 64) (hw : w = "let" ∨ w = "if" ∨ w = "call") (r : Option (D × D))
    (ht : callN T (n + 2) "_law_entered" [.ref st.length, .d (.int a), .d env, .d some'] (lwS st R ts vs (ksD bg) jk) = .ok (.d (match r with | some (x, y) => .lst [x, y] | none => .non)) (lwS st R ts vs (ksD bg) jk))
    (K1 : ∀ x y, r = some (x, y) → ts.length < 100000 ∧ ∀ σ', LE pd most st.length g σ' → pp.q (.nx σ') (lwS st R (ts ++ [.tup [x, y, .bool false]]) vs (ksD bg) jk))
    (K2 : r = none → pp.q (.ret (.d (.tup [.tup [.str "stuck", .int a], bgD bg, .int g]))) (lwS st R ts vs (ksD bg) jk)) :
    @Wp _ (exec (callN T (n + 2)) rI (lwE pd most st.length g (some (.d (.int a))) (some (.d env)) x9 (some (.d (.str w))) (some (.d own)) (some (.d kids)) x13 (some (.d some')) x15 x16 x17 x18 x19) (lwS st R ts vs (ksD bg) jk)) pp := by
  have hin : ∀ s, cmpV .isin s (.d (.str w)) (.d (.lst [.str "let", .str "if", .str "call"])) = some true := fun s => by
    have := mem_strs w ["let", "if", "call"]
    simp only [List.map_cons, List.map_nil] at this
    simp only [cmpV, inB, this]
    simp [hw]
  have dk := ldk (st := st) (R := R) (ts := ts) (vs := vs) (jk := jk) hb
  cases r with
  | some xy =>
    obtain ⟨x, y⟩ := xy
    obtain ⟨h2, h3⟩ := K1 x y rfl
    have aT := lappT (st := st) (R := R) (ts := ts) (vs := vs) (ks := ksD bg) (jk := jk) (x := .tup [x, y, .bool false]) h2
    have hn : ∀ s, cmpV .is s (.d (.lst [x, y])) (.d .non) = some false := fun s => rfl
    simp only at ht
    simp [-List.append_assoc, rI, rB, Stm.els, f_law_run_b1, asDs, hin, asB, ht, Tg.putV, ivdL, hn, asDs, mthOk, mthV, lw1, aT, ixL20, ixL21]
    exact h3 _ ⟨_, _, _, _, _, _, _, _, _, _, _, _, _, rfl⟩
  | none =>
    have := K2 rfl
    have hn : ∀ s, cmpV .is s (.d .non) (.d .non) = some true := fun s => rfl
    simp only at ht
    simp [-List.append_assoc, rI, rB, Stm.els, f_law_run_b1, asDs, hin, asB, ht, Tg.putV, hn, asDs, dk]
    exact this
theorem turn_finish {p : Pg} {a g most : Nat} {e : En} {K : List Tk} {told : List Vl} {bg : List Nat} {pd : D} {σ : Env} (hσ : LE pd most st.length g σ) (sk : p.sk) (sb : Sb R p a) (h1 : 1 ≤ early p.core) (ho : ∀ h xs q, p.core = .one h xs q → h ∈ ONES) (h2 : early p.core ≤ told.length)
    (hK : K.length < 10000) (hV : told.length < 10000) (hb : bg.length < 64) (he : e.nms.length < 50000) (hf : ∀ v ∈ told, ∀ xs q b e, v = .fn xs q b e → ((∃ x, xs = [x]) ∨ ∃ h x, xs = [h, x]) ∧ e.nms.length < 100000) :
    @Wp _ (execs (callN T (n + 2)) f_law_run_b1 σ (lwS st R (tsL ((p, a, e, true) :: K)) (vsL told) (ksD bg) jk)) ⟨fun o s => Tn st R bg pd most g (fns a e K p.core told) o s⟩ := by
  obtain ⟨x7, x8, x9, x10, x11, x12, x13, x14, x15, x16, x17, x18, x19, rfl⟩ := hσ
  rw [tl1]
  have hrw := sb.core.row
  have sk' := Pg.core_sk sk
  have hl : (tsL K).length < 100000 := by simp [tsL]; omega
  have go : ∀ (t : List Tk) (v : List Vl) (jk' : Store) (σ' : Env) (r : (List Tk × List Vl) ⊕ Fin'), r = .inl (t, v) → LE pd most st.length g σ' → Tn st R bg pd most g r (.nx σ') (lwS st R (tsL t) (vsL v) (ksD bg) jk') := fun t v jk' σ' r hr h => by
    rw [hr]; exact ⟨σ', jk', rfl, h, rfl⟩
  have ret : ∀ (f : Fin') (ts vs : List D) (jk' : Store) (r : (List Tk × List Vl) ⊕ Fin'), r = .inr f → Tn st R bg pd most g r (.ret (.d (.tup [f.d, bgD bg, .int g]))) (lwS st R ts vs (ksD bg) jk') := fun f ts vs jk' r hr => by
    rw [hr]; exact ⟨rfl, ts, vs, jk', rfl⟩
  cases hp : p.core with
  | off q => rw [hp] at sk'; cases sk'.2
  | num i => rw [hp] at h1; simp [early] at h1
  | truth i => rw [hp] at h1; simp [early] at h1
  | nil => rw [hp] at h1; simp [early] at h1
  | name x => rw [hp] at h1; simp [early] at h1
  | one w xs q =>
    have hw := ho _ _ _ hp
    rw [hp] at hrw sk' h2
    cases told with
    | nil => simp [early] at h2
    | cons v V =>
      have hv : (vsL V).length < 100000 := by simp [vsL] at hV ⊢; omega
      have hxs : xs = [] := by
        rcases sk'.1.1 with ⟨_, rfl⟩ | ⟨rfl, _⟩ | ⟨rfl, _⟩
        · rfl
        · exact absurd hw (by decide)
        · exact absurd hw (by decide)
      subst hxs
      have hr : D.index (.lst R) (.int a) = some (rwD w [] [.int (a + 1 : Nat)]) := ix_row hrw
      have hne : w ≠ "let" ∧ w ≠ "if" ∧ w ≠ "call" := by
        have : ∀ w ∈ ONES, w ≠ "let" ∧ w ≠ "if" ∧ w ≠ "call" := by decide
        exact this w hw
      refine fin_pre hr (by simp) fun jk' => ?_
      simp only [if_neg hne.1, if_neg hne.2.1, List.length_singleton]
      refine fin_some1 ?_
      have ef : fns a e K (.one w [] q) (v :: V) = oud a K V (partO w v) := rfl
      rw [ef]
      cases hO : partO w v with
      | v x =>
        exact fin_told hb hne (ouD (partO w v)) (fun s => told1_ok hw v) (k := "value") (by rw [hO]; exact ixT20 _ _) (fun _ => ⟨x.dL, by rw [hO]; exact ixT21 _ _, hv, fun σ' h => by rw [← vl1]; exact go _ _ _ _ _ rfl h⟩) (fun h => absurd rfl h)
      | st =>
        exact fin_told hb hne (ouD (partO w v)) (fun s => told1_ok hw v) (k := "stuck") (by rw [hO]; exact ixT10 _) (fun h => absurd h (by decide)) (fun h => ret (.stuck a) _ _ _ _ rfl)
      | em =>
        exact fin_told hb hne (ouD (partO w v)) (fun s => told1_ok hw v) (k := "empty") (by rw [hO]; exact ixT10 _) (fun h => absurd h (by decide)) (fun h => ret (.empt a) _ _ _ _ rfl)
  | two w xs q r =>
    rw [hp] at hrw sk' h2
    rcases sk'.1.1 with ⟨hw, rfl⟩ | ⟨rfl, x, rfl, _⟩
    · have hne : ¬ (w = "let") := by
        rintro rfl; exact absurd hw (by decide)
      have hni : ¬ (w = "if") := by
        rintro rfl; exact absurd hw (by decide)
      simp only [early, if_neg hne] at h2
      have hr : D.index (.lst R) (.int a) = some (rwD w [] [.int (a + 1 : Nat), .int (a + 1 + q.pl : Nat)]) := ix_row hrw
      match told, h2 with
      | [], h2 => simp at h2
      | [_], h2 => simp at h2
      | y :: x :: V, _ =>
        have hv : (vsL V).length < 100000 := by simp [vsL] at hV ⊢; omega
        refine fin_pre hr (by simp) fun jk' => ?_
        simp only [if_neg hne, if_neg hni]
        refine fin_some2 ?_
        by_cases hc : w = "call"
        · subst hc
          have hE := fun (ts vs : List D) (jk : Store) => enter_call (n := n + 1) (st := lwS st R ts vs (ksD bg) jk) (c := st.length) lw0 hrw (env := e.dL) x y (hf x (by simp))
          have stk : ∀ (r : (List Tk × List Vl) ⊕ Fin'), r = .inr (.stuck a) → callN T (n + 2) "_law_entered" [.ref st.length, .d (.int a), .d (.lst e.dL), .d (.lst [x.dL, y.dL])] (lwS st R (tsL K) (vsL V) (ksD bg) jk') = .ok (.d .non) (lwS st R (tsL K) (vsL V) (ksD bg) jk') → _ := fun r hr hh =>
            fin_enter (pd := pd) (most := most) (pp := ⟨fun o s => Tn st R bg pd most g r o s⟩) (own := .lst []) (kids := .lst [.int (a + 1 : Nat), .int (a + 1 + q.pl : Nat)]) (x9 := some (.d (.bool true))) (x13 := some (.d (.int 2))) (x15 := x15) (x16 := x16) (x17 := x17) (x18 := x18) (x19 := x19) hb (.inr (.inr rfl)) none hh (fun _ _ h => nomatch h) (fun _ => ret (.stuck a) _ _ _ _ hr)
          show @Wp _ _ ⟨fun (o : Out) (s : Store) => Tn st R bg pd most g (enter a K V y x) o s⟩
          have hE0 := hE (tsL K) (vsL V) jk'
          cases x with
          | fn ys q' b' e' =>
            exact fin_enter hb (.inr (.inr rfl)) (some (.int b', .lst (callE ys (.fn ys q' b' e') y e').dL)) hE0 (fun x y h => by
              cases h
              exact ⟨hl, fun σ' h => by
                have := go ((q', b', callE ys (.fn ys q' b' e') y e', false) :: K) V jk' σ' (enter a K V y (.fn ys q' b' e')) rfl h
                rw [tl1] at this
                exact this⟩) (fun h => nomatch h)
          | num i => exact stk _ rfl hE0
          | tru i => exact stk _ rfl hE0
          | nil => exact stk _ rfl hE0
          | pr c z z' => exact stk _ rfl hE0
        · have hw2 : w = "plus" ∨ w = "less" ∨ w = "pair" ∨ w = "cons" := by
            simp only [TWOS, List.mem_cons, List.not_mem_nil, or_false] at hw
            rcases hw with rfl | h
            · exact absurd rfl hc
            · exact h
          have hnn : w ≠ "let" ∧ w ≠ "if" ∧ w ≠ "call" := ⟨hne, hni, hc⟩
          have ef : fns a e K (.two w [] q r) (y :: x :: V) = oud a K V (twoO w x y) := by simp only [fns, if_neg hne, if_neg hc]
          rw [ef]
          cases hO : twoO w x y with
          | v z =>
            exact fin_told hb hnn (ouD (twoO w x y)) (fun s => told2_ok hw2 x y) (k := "value") (by rw [hO]; exact ixT20 _ _) (fun _ => ⟨z.dL, by rw [hO]; exact ixT21 _ _, hv, fun σ' h => by rw [← vl1]; exact go _ _ _ _ _ rfl h⟩) (fun h => absurd rfl h)
          | st =>
            exact fin_told hb hnn (ouD (twoO w x y)) (fun s => told2_ok hw2 x y) (k := "stuck") (by rw [hO]; exact ixT10 _) (fun h => absurd h (by decide)) (fun h => ret (.stuck a) _ _ _ _ rfl)
          | em =>
            exact fin_told hb hnn (ouD (twoO w x y)) (fun s => told2_ok hw2 x y) (k := "empty") (by rw [hO]; exact ixT10 _) (fun h => absurd h (by decide)) (fun h => ret (.empt a) _ _ _ _ rfl)
    · simp only [early, if_true] at h2
      have hr : D.index (.lst R) (.int a) = some (rwD "let" [.str x] [.int (a + 1 : Nat), .int (a + 1 + q.pl : Nat)]) := ix_row hrw
      have hel : e.dL.length < 100000 := by rw [e.dL_len]; omega
      match told, h2 with
      | [], h2 => simp at h2
      | v :: V, _ =>
        have hE := fun (ts vs : List D) (jk : Store) => enter_let (n := n + 1) (st := lwS st R ts vs (ksD bg) jk) (c := st.length) lw0 hrw (env := e.dL) hel v.dL
        refine fin_pre hr (by simp) fun jk' => ?_
        simp only [if_true]
        refine fin_some1 ?_
        exact fin_enter hb (.inl rfl) (some (.int (a + 1 + q.pl : Nat), .lst (En.cons x v e).dL)) (hE _ _ _) (fun x' y' h => by
          cases h
          exact ⟨hl, fun σ' h => by
            have := go ((r, a + 1 + q.pl, .cons x v e, false) :: K) V jk' σ' (fns a e K (.two "let" [x] q r) (v :: V)) (by simp [fns]) h
            rw [tl1] at this
            exact this⟩) (fun h => nomatch h)
  | thr w xs q r z =>
    rw [hp] at hrw sk' h2
    obtain ⟨⟨rfl, rfl, _⟩, _⟩ := sk'
    have hr : D.index (.lst R) (.int a) = some (rwD "if" [] [.int (a + 1 : Nat), .int (a + 1 + q.pl : Nat), .int (a + 1 + q.pl + r.pl : Nat)]) := ix_row hrw
    match told, h2 with
    | [], h2 => simp [early] at h2
    | v :: V, _ =>
      have hE := fun (ts vs : List D) (jk : Store) => enter_if (n := n + 1) (st := lwS st R ts vs (ksD bg) jk) (c := st.length) lw0 hrw (env := e.dL) v
      refine fin_pre hr (by simp) fun jk' => ?_
      have c1 : ¬ ("if" = "let") := by decide
      simp only [if_neg c1, if_true]
      refine fin_some1 ?_
      have hE0 := hE (tsL K) (vsL V) jk'
      have stk : ∀ (r' : (List Tk × List Vl) ⊕ Fin'), r' = .inr (.stuck a) → callN T (n + 2) "_law_entered" [.ref st.length, .d (.int a), .d (.lst e.dL), .d (.lst [v.dL])] (lwS st R (tsL K) (vsL V) (ksD bg) jk') = .ok (.d .non) (lwS st R (tsL K) (vsL V) (ksD bg) jk') → _ := fun r' hr hh =>
        fin_enter (pd := pd) (most := most) (pp := ⟨fun o s => Tn st R bg pd most g r' o s⟩) (own := .lst []) (kids := .lst [.int (a + 1 : Nat), .int (a + 1 + q.pl : Nat), .int (a + 1 + q.pl + r.pl : Nat)]) (x9 := some (.d (.bool true))) (x13 := some (.d (.int 1))) (x15 := x15) (x16 := x16) (x17 := x17) (x18 := x18) (x19 := x19) hb (.inr (.inl rfl)) none hh (fun _ _ h => nomatch h) (fun _ => ret (.stuck a) _ _ _ _ hr)
      cases v with
      | tru c =>
        cases c with
        | false => exact fin_enter hb (.inr (.inl rfl)) (some (.int (a + 1 + q.pl + r.pl : Nat), .lst e.dL)) hE0 (fun x' y' h => by
            cases h
            exact ⟨hl, fun σ' h => by
              have := go ((z, a + 1 + q.pl + r.pl, e, false) :: K) V jk' σ' (fns a e K (.thr "if" [] q r z) (.tru false :: V)) rfl h
              rw [tl1] at this
              exact this⟩) (fun h => nomatch h)
        | true => exact fin_enter hb (.inr (.inl rfl)) (some (.int (a + 1 + q.pl : Nat), .lst e.dL)) hE0 (fun x' y' h => by
            cases h
            exact ⟨hl, fun σ' h => by
              have := go ((r, a + 1 + q.pl, e, false) :: K) V jk' σ' (fns a e K (.thr "if" [] q r z) (.tru true :: V)) rfl h
              rw [tl1] at this
              exact this⟩) (fun h => nomatch h)
      | num i => exact stk _ rfl hE0
      | nil => exact stk _ rfl hE0
      | fn _ _ _ _ => exact stk _ rfl hE0
      | pr c y y' => exact stk _ rfl hE0
end
end Prog

namespace Prog
open Ir
/-! ### a run, how many steps are left at its end -/
inductive RunsL : Ms → Fin' → List Nat → Nat → Prop
  | fin {m f} : stp m = .inr f → RunsL m f m.bg m.left
  | go {m m' f b l} : stp m = .inl m' → RunsL m' f b l → RunsL m f b l
theorem RunsL.runs {m : Ms} {f : Fin'} {b : List Nat} {l : Nat} (h : RunsL m f b l) : Runs m f b := by
  induction h with
  | fin e => exact .fin e
  | go e _ ih => exact .go e ih
theorem RunsL.det {m : Ms} {f : Fin'} {b : List Nat} {l : Nat} (h : RunsL m f b l) : ∀ {f' b' l'}, RunsL m f' b' l' → f = f' ∧ b = b' ∧ l = l' := by
  induction h with
  | fin e => intro f' b' l' k; cases k with
    | fin e' => rw [e] at e'; cases e'; exact ⟨rfl, rfl, rfl⟩
    | go e' _ => rw [e] at e'; cases e'
  | go e _ ih => intro f' b' l' k; cases k with
    | fin e' => rw [e] at e'; cases e'
    | go e' k => rw [e] at e'; cases e'; exact ih k
/-- a machine with other steps left -/
def Ms.wl (m : Ms) (l : Nat) : Ms := ⟨m.todo, m.told, m.bg, l⟩
theorem addK_sub {bg : List Nat} {a x : Nat} (h : x ∈ bg) : x ∈ addK bg a := by
  unfold addK
  split
  · exact h
  · exact List.mem_append_left _ h
/-- one step: what it does whatever is left -/
theorem stp_cases (m : Ms) : (∃ f : Fin', ∀ l, stp (m.wl l) = .inr f) ∨ (∃ m' : Ms, (∀ x ∈ m.bg, x ∈ m'.bg) ∧ ∀ l, stp (m.wl l) = .inl (m'.wl l)) ∨ (∃ m' : Ms, (∀ x ∈ m.bg, x ∈ m'.bg) ∧ stp (m.wl 0) = .inr .far ∧ ∀ l, stp (m.wl (l + 1)) = .inl (m'.wl l)) := by
  obtain ⟨todo, told, bg, left⟩ := m
  cases todo with
  | nil => exact .inl ⟨.val (told.headD .nil), fun l => rfl⟩
  | cons t K =>
    obtain ⟨p, a, e, r⟩ := t
    cases r with
    | false => exact .inr (.inr ⟨⟨(bgn p a e K told p.core).1, (bgn p a e K told p.core).2, addK bg a, 0⟩, fun x hx => addK_sub hx, rfl, fun l => rfl⟩)
    | true =>
      have key : ∀ l, stp (Ms.wl ⟨(p, a, e, true) :: K, told, bg, left⟩ l) = (match fns a e K p.core told with | .inl (t, v) => .inl ⟨t, v, bg, l⟩ | .inr f => .inr f) := fun l => rfl
      cases hf : fns a e K p.core told with
      | inl tv =>
        obtain ⟨t, v⟩ := tv
        exact .inr (.inl ⟨⟨t, v, bg, 0⟩, fun x hx => hx, fun l => by rw [key, hf]; rfl⟩)
      | inr f => exact .inl ⟨f, fun l => by rw [key, hf]⟩
theorem RunsL.le {m : Ms} {f : Fin'} {b : List Nat} {l : Nat} (h : RunsL m f b l) : l ≤ m.left := by
  induction h with
  | fin _ => exact Nat.le_refl _
  | @go m m' f b l e _ ih =>
    have : m'.left ≤ m.left := by
      rcases stp_cases m with ⟨f, h⟩ | ⟨m1, _, h⟩ | ⟨m1, _, h0, h⟩
      · have := h m.left; rw [show m.wl m.left = m from rfl, e] at this; cases this
      · have := h m.left; rw [show m.wl m.left = m from rfl, e] at this; cases this; exact Nat.le_refl _
      · cases hl : m.left with
        | zero => have : stp m = .inr .far := by rw [← hl] at h0; exact h0
                  rw [e] at this; cases this
        | succ k => have := h k; rw [← hl, show m.wl m.left = m from rfl, e] at this; cases this; exact Nat.le_succ _
    omega
/-- with fewer steps it is far; what it begins then is begun by any longer run -/
theorem RunsL.sub {m : Ms} {f : Fin'} {b : List Nat} {l : Nat} (h : RunsL m f b l) : ∀ x ∈ m.bg, x ∈ b := by
  induction h with
  | fin _ => exact fun x hx => hx
  | @go m m' f b l e _ ih =>
    intro x hx
    refine ih x ?_
    rcases stp_cases m with ⟨f', h⟩ | ⟨m1, hs, h⟩ | ⟨m1, hs, h0, h⟩
    · have := h m.left; rw [show m.wl m.left = m from rfl, e] at this; cases this
    · have := h m.left; rw [show m.wl m.left = m from rfl, e] at this; cases this; exact hs x hx
    · cases hl : m.left with
      | zero => have : stp m = .inr .far := by rw [← hl] at h0; exact h0
                rw [e] at this; cases this
      | succ z => have := h z; rw [← hl, show m.wl m.left = m from rfl, e] at this; cases this; exact hs x hx
theorem RunsL.cut {m : Ms} {f : Fin'} {b : List Nat} {l : Nat} (h : RunsL m f b l) : ∀ j, j < m.left - l → ∃ b' l', RunsL (m.wl j) .far b' l' ∧ ∀ x ∈ b', x ∈ b := by
  induction h with
  | fin e => intro j hj; omega
  | @go m m' f b l e k ih =>
    intro j hj
    have hle := k.le
    have sub := k.sub
    rcases stp_cases m with ⟨f', h⟩ | ⟨m1, hs, h⟩ | ⟨m1, hs, h0, h⟩
    · have := h m.left; rw [show m.wl m.left = m from rfl, e] at this; cases this
    · have := h m.left; rw [show m.wl m.left = m from rfl, e] at this
      cases this
      obtain ⟨b', l', r, hb'⟩ := ih j hj
      exact ⟨b', l', .go (h _) r, hb'⟩
    · cases hl : m.left with
      | zero => have : stp m = .inr .far := by rw [← hl] at h0; exact h0
                rw [e] at this; cases this
      | succ z =>
        have := h z; rw [← hl, show m.wl m.left = m from rfl, e] at this
        cases this
        have hz : (m1.wl z).left = z := rfl
        rw [hz] at hle ih
        cases j with
        | zero => exact ⟨m.bg, 0, .fin (m := m.wl 0) h0, fun x hx => sub x (hs x hx)⟩
        | succ j =>
          obtain ⟨b', l', r, hb'⟩ := ih j (by rw [hl] at hj; omega)
          exact ⟨b', l', .go (h _) r, hb'⟩
/-- the places begun are more and more -/
theorem RunsL.mono {m : Ms} {f : Fin'} {b : List Nat} {l : Nat} (h : RunsL m f b l) : ∀ {j : Nat} {f2 : Fin'} {b2 : List Nat} {l2 : Nat}, RunsL (m.wl j) f2 b2 l2 → m.left ≤ j → ∀ x ∈ b, x ∈ b2 := by
  induction h with
  | fin _ => intro j f2 b2 l2 k _ x hx; exact k.sub x hx
  | @go m m' f b l e _ ih =>
    intro j f2 b2 l2 k hj
    rcases stp_cases m with ⟨f', h⟩ | ⟨m1, hs, h⟩ | ⟨m1, hs, h0, h⟩
    · have := h m.left; rw [show m.wl m.left = m from rfl, e] at this; cases this
    · have := h m.left; rw [show m.wl m.left = m from rfl, e] at this
      cases this
      cases k with
      | fin e' => rw [h] at e'; cases e'
      | go e' k' => rw [h] at e'; cases e'; exact ih k' hj
    · cases hl : m.left with
      | zero => have : stp m = .inr .far := by rw [← hl] at h0; exact h0
                rw [e] at this; cases this
      | succ z =>
        have := h z; rw [← hl, show m.wl m.left = m from rfl, e] at this
        cases this
        obtain ⟨j', rfl⟩ : ∃ j', j = j' + 1 := ⟨j - 1, by omega⟩
        cases k with
        | fin e' => rw [h] at e'; cases e'
        | go e' k' => rw [h] at e'; cases e'; exact ih k' (show z ≤ j' by omega)
end Prog

namespace Prog
open Ir
section
variable {st : Store} {n : Nat}
theorem Sb.rowD {R : List D} {p : Pg} {a : Nat} (s : Sb R p a) : ∃ h own ks, R[a]? = some (rwD h own ks) := by
  have h := s.core.row
  have ho := p.core_off
  cases hp : p.core with
  | off q => rw [hp] at ho; cases ho
  | num i => rw [hp] at h; exact ⟨_, _, _, h⟩
  | truth i => rw [hp] at h; exact ⟨_, _, _, h⟩
  | nil => rw [hp] at h; exact ⟨_, _, _, h⟩
  | name i => rw [hp] at h; exact ⟨_, _, _, h⟩
  | one w xs q => rw [hp] at h; exact ⟨_, _, _, h⟩
  | two w xs q r => rw [hp] at h; exact ⟨_, _, _, h⟩
  | thr w xs q r z => rw [hp] at h; exact ⟨_, _, _, h⟩
theorem turn_far {R : List D} {jk : Store} {p : Pg} {a g most : Nat} {e : En} {K : List Tk} {V : List Vl} {bg : List Nat} {pd : D} {σ : Env} (hσ : LE pd most st.length g σ) (hg : g = most) (sb : Sb R p a) (hb : bg.length < 64) :
    @Wp _ (execs (callN T n) f_law_run_b1 σ (lwS st R (tsL ((p, a, e, false) :: K)) (vsL V) (ksD bg) jk)) ⟨fun o s => o = .ret (.d (.tup [Fin'.far.d, bgD bg, .int g])) ∧ ∃ ts vs jk', s = lwS st R ts vs (ksD bg) jk'⟩ := by
  obtain ⟨x7, x8, x9, x10, x11, x12, x13, x14, x15, x16, x17, x18, x19, rfl⟩ := hσ
  subst hg
  rw [tl1]
  obtain ⟨h, own, kids, hr⟩ := sb.rowD
  have hr := ix_row hr
  have dk := fun (ts vs : List D) (jk : Store) => ldk (st := st) (R := R) (ts := ts) (vs := vs) (jk := jk) hb
  simp [-List.append_assoc, -List.map_append, Tg.putV, Tg.put, Tg.puts, Tg.putF_eq, setAll, Tg.slots, Tg.slotss, wipe, indexV, cmpV, deref, asB, asD, asDs, asI, bltV, lenDic, bltD, derefs, D.blt, D.bLen, D.bTuple, D.bList, D.seq, mthV, mthOk, setV, ci_eq, ci_ne, ci_lt, ci_le, ci_gt, ci_ge, cs_eq, cs_ne, cb_eq, cb_ne, D.bin, isNon, f_law_run_b1, lpopT, tkL, lw0, lw1, lw2, lw3, hr, merge_l2, lpush, lget', lgetc, dk, Fin'.d]
  exact ⟨_, _, _, rfl⟩
set_option maxHeartbeats 4000000 in
theorem lrun_okL {p : Pg} {most : Nat} (sk : p.sk) (nb : p.nb) (cl : p.cl [] = true) (hp : p.pl < 64) (hh : p.h ≤ 98) (hm : most ≤ 3000) :
    ∃ f bg l, RunsL (msO p most) f bg l ∧ bg.length < 64 ∧ callN T (n + 103) "_law_run" [.d p.d, .d (.int most)] st = .ok (.d (.tup [f.eD, bgD bg, .int ((most - l : Nat) : Int)])) st := by
  suffices h : @Wp _ (callN T (n + 103) "_law_run" [.d p.d, .d (.int most)] st) ⟨fun v s => ∃ f bg l, RunsL (msO p most) f bg l ∧ bg.length < 64 ∧ v = .d (.tup [f.eD, bgD bg, .int ((most - l : Nat) : Int)]) ∧ s = st⟩ by
    obtain ⟨v, s, e, f, bg, l, h1, h2, rfl, rfl⟩ := wp_iff.mp h
    exact ⟨f, bg, l, h1, h2, e⟩
  have wf0 := wf_top (most := most) sk nb cl
  have hR : (p.rws 0).length < 64 := by rw [p.rws_length]; exact hp
  have hC : 400 + most ≤ 3838 := by omega
  generalize hCe : 400 + most = C at wf0 hC
  have hro := rows_ok p sk (n + 102) st.length (st ++ [.lst []]) [] (by omega) (get_push _ _) (by simp; omega)
  rw [set_push] at hro
  simp only [List.length_nil, List.nil_append, Int.natCast_zero] at hro
  rw [callN_run T_f_law_run]
  have hlen : ∀ (x : Cell), (st ++ [x]).length = st.length + 1 := fun x => by simp
  have h0 : (st ++ [.lst (p.rws 0)] ++ [.lst [.tup [.int 0, .lst [], .bool false]]] ++ [.lst []] ++ [.dic []] : Store) = lwS st (p.rws 0) (tsL (msO p most).todo) (vsL []) (ksD []) [] := by
    simp [lwS, msO, tsL, tkL, vsL, En.dL]
  simp [-List.append_assoc, runFn, f_law_run, hro, asDs, Tg.putV]
  rw [h0]
  refine wp_while (I := fun k σ s => ∃ (m : Ms) (b g : Nat) (jk : Store), Wf (p.rws 0) C m b ∧ k = 2 * m.left + rdy m.todo ∧ LE p.d most st.length g σ ∧ g + m.left = most ∧ s = lwS st (p.rws 0) (tsL m.todo) (vsL m.told) (ksD m.bg) jk ∧ ∀ f bg l, RunsL m f bg l → RunsL (msO p most) f bg l)
    ?_ (2 * (msO p most).left + rdy (msO p most).todo) _ _ ⟨msO p most, 200, 0, [], wf0, rfl, ⟨_, _, _, _, _, _, _, _, _, _, _, _, _, rfl⟩, by simp [msO], rfl, fun _ _ _ h => h⟩
  rintro k σ s ⟨m, b, g, jk, wf, rfl, hσ, hg, rfl, hr⟩
  obtain ⟨todo, told, bg, left⟩ := m
  have hbb : 2 * b ≤ C := by have := wf.hC; omega
  simp only at wf hr hg ⊢
  have hbg : bg.length < 64 := by
    have := bounded_len wf.nd wf.lt
    simp at this; omega
  have hσ' := hσ
  obtain ⟨x7, x8, x9, x10, x11, x12, x13, x14, x15, x16, x17, x18, x19, rfl⟩ := hσ'
  have dk := fun (ts vs : List D) (jk : Store) => ldk (st := st) (R := p.rws 0) (ts := ts) (vs := vs) (jk := jk) hbg
  cases todo with
  | nil =>
    simp only [f_law_run_w0, condB]
    have hb : told.length = 1 := wf.bl
    match told, hb with
    | [v], _ =>
      have hv := wf.vs v (by simp)
      have run : RunsL ⟨[], [v], bg, left⟩ (.val v) bg left := .fin rfl
      have hvs : vsL [v] = [v.dL] := rfl
      by_cases hz : 200 < v.sz
      · have hs := fun st => lshown_big (n := n + 100) v hz st
        simp [-List.append_assoc, Tg.putV, Tg.put, Tg.puts, Tg.putF_eq, setAll, Tg.slots, Tg.slotss, wipe, indexV, cmpV, deref, asB, asD, asDs, asI, bltV, lenDic, bltD, derefs, D.blt, D.bLen, D.bTuple, D.bList, D.seq, mthV, mthOk, setV, ci_eq, ci_ne, ci_lt, ci_le, ci_gt, ci_ge, cs_eq, cs_ne, cb_eq, cb_ne, D.bin, isNon, lnn, tsL, lw2, hvs, ixL10, hs, dk, ltake, leave]
        exact ⟨.val v, bg, left, hr _ _ _ run, hbg, by simp [Fin'.eD, hz], rfl, by omega⟩
      · have hs := fun st => lshown_ok (R := p.rws 0) (b := b) (by omega) v hv (by omega) (n + 102) st (by have := v.dp_sz; omega)
        simp [-List.append_assoc, Tg.putV, Tg.put, Tg.puts, Tg.putF_eq, setAll, Tg.slots, Tg.slotss, wipe, indexV, cmpV, deref, asB, asD, asDs, asI, bltV, lenDic, bltD, derefs, D.blt, D.bLen, D.bTuple, D.bList, D.seq, mthV, mthOk, setV, ci_eq, ci_ne, ci_lt, ci_le, ci_gt, ci_ge, cs_eq, cs_ne, cb_eq, cb_ne, D.bin, isNon, lnn, tsL, lw2, hvs, ixL10, hs, dk, ltake, leave]
        exact ⟨.val v, bg, left, hr _ _ _ run, hbg, by simp [Fin'.eD, hz], rfl, by omega⟩
  | cons t K =>
    obtain ⟨p', a, e, r⟩ := t
    have ne : ∀ (ts : List D) (x : D), (ts ++ [x]).isEmpty = false := fun ts x => by cases ts <;> rfl
    have tk0 := wf.tk _ List.mem_cons_self
    have hK : K.length < 10000 := by have := wf.hT; simp at this; omega
    have hV : told.length < 10000 := by have := wf.hC; simp at this; omega
    have hln := tk0.ln
    simp only at hln
    have hcond : nnV (lwS st (p.rws 0) (tsL ((p', a, e, r) :: K)) (vsL told) (ksD bg) jk) (.ref (st.length + 1)) = some (.bool true) := by
      rw [lnn, tl1, ne]; rfl
    have hcd : condB (eval (callN T (n + 102)) f_law_run_w0) (lwE p.d most st.length g x7 x8 x9 x10 x11 x12 x13 x14 x15 x16 x17 x18 x19) (lwS st (p.rws 0) (tsL ((p', a, e, r) :: K)) (vsL told) (ksD bg) jk) = .ok true (lwS st (p.rws 0) (tsL ((p', a, e, r) :: K)) (vsL told) (ksD bg) jk) := by
      simp [condB, f_law_run_w0, hcond, asB]
    refine Wp.of hcd ⟨fun _ => ?_, fun h => nomatch h⟩
    clear hcd hcond
    cases r with
    | false =>
      cases left with
      | zero =>
        have run : RunsL ⟨(p', a, e, false) :: K, told, bg, 0⟩ .far bg 0 := .fin rfl
        refine Wp.mono (turn_far hσ (show g = most by omega) tk0.sb hbg) ?_
        rintro o s ⟨rfl, ts, vs, jk', rfl⟩
        simp [ltake, leave]
        exact ⟨.far, bg, 0, hr _ _ _ run, hbg, rfl, rfl, by omega⟩
      | succ l =>
        have hst : stp ⟨(p', a, e, false) :: K, told, bg, l + 1⟩ = .inl ⟨(bgn p' a e K told p'.core).1, (bgn p' a e K told p'.core).2, addK bg a, l⟩ := rfl
        obtain ⟨b', wf', hm'⟩ := wf_step wf hst
        refine Wp.mono (turn_begin (l := 0) hσ (show g < most by omega) tk0.sk tk0.cl tk0.sb hK hV (by omega)) ?_
        rintro o s ⟨σ', jk', rfl, hL, rfl⟩
        exact ⟨_, hm', _, b', g + 1, jk', wf', rfl, hL, by simp only; omega, rfl, fun f bg' l' r => hr f bg' l' (.go hst r)⟩
    | true =>
      have bl := wf.bl
      simp only [bal] at bl
      have hst : stp ⟨(p', a, e, true) :: K, told, bg, left⟩ = (match fns a e K p'.core told with | .inl (t, v) => .inl ⟨t, v, bg, left⟩ | .inr f => .inr f) := rfl
      refine Wp.mono (turn_finish hσ tk0.sk tk0.sb bl.1 bl.2.1 bl.2.2.1 hK hV hbg (by omega) (fun v hv xs q b' e' hx => by
        have := wf.vs v hv
        rw [hx] at this
        exact ⟨this.1, by have := this.2.2.2.2.2.1; omega⟩)) ?_
      intro o s hT
      cases hf : fns a e K p'.core told with
      | inl tv =>
        obtain ⟨t, v⟩ := tv
        rw [hf] at hT hst
        obtain ⟨σ', jk', rfl, hL, rfl⟩ := hT
        obtain ⟨b', wf', hm'⟩ := wf_step wf hst
        exact ⟨_, hm', _, b', g, jk', wf', rfl, hL, hg, rfl, fun f bg' l' r => hr f bg' l' (.go hst r)⟩
      | inr f =>
        rw [hf] at hT hst
        obtain ⟨rfl, ts, vs, jk', rfl⟩ := hT
        simp [ltake, leave]
        exact ⟨f, bg, left, hr _ _ _ (.fin hst), hbg, (fns_nv hf).symm, rfl, by omega⟩
end
end Prog

namespace Prog
open Ir
/-! ### stores whose arena grows -/
structure Kg (B : Nat) (a s : Store) : Prop where
  len : a.length ≤ s.length
  eq : ∀ i, i < a.length → i ≠ B → i ≠ 0 → s[i]? = a[i]?
  ar : ∀ os, a[0]? = some (.arena os) → ∃ x, s[0]? = some (.arena (os ++ x))
theorem Kg.refl (B : Nat) (a : Store) : Kg B a a := ⟨Nat.le_refl _, fun _ _ _ _ => rfl, fun os h => ⟨[], by rw [List.append_nil]; exact h⟩⟩
theorem Kg.trans {B : Nat} {a b c : Store} (h : Kg B a b) (k : Kg B b c) : Kg B a c :=
  ⟨Nat.le_trans h.len k.len, fun i hi hn h0 => (k.eq i (Nat.lt_of_lt_of_le hi h.len) hn h0).trans (h.eq i hi hn h0), fun os e => by
    obtain ⟨x, e1⟩ := h.ar os e
    obtain ⟨y, e2⟩ := k.ar _ e1
    exact ⟨x ++ y, by rw [e2, List.append_assoc]⟩⟩
theorem Kg.push {B : Nat} {a s : Store} (h : Kg B a s) (c : Cell) (h0 : 0 < a.length := by omega) : Kg B a (s ++ [c]) :=
  ⟨by have := h.len; simp; omega, fun i hi hn h1 => by rw [List.getElem?_append_left (Nat.lt_of_lt_of_le hi h.len)]; exact h.eq i hi hn h1, fun os e => by
    rw [List.getElem?_append_left (Nat.lt_of_lt_of_le h0 h.len)]; exact h.ar os e⟩
theorem Kg.set {B : Nat} {a s : Store} (h : Kg B a s) {i : Nat} (hi : a.length ≤ i) (c : Cell) (h0 : 0 < a.length := by omega) : Kg B a (s.set i c) :=
  ⟨by have := h.len; simp; omega, fun j hj hn h1 => by rw [List.getElem?_set_ne (by omega)]; exact h.eq j hj hn h1, fun os e => by rw [List.getElem?_set_ne (by omega)]; exact h.ar os e⟩
theorem Kg.take {B : Nat} {a s : Store} (h : Kg B a s) (h0 : 0 < a.length := by omega) : Kg B a (s.take a.length) ∧ (s.take a.length).length = a.length :=
  ⟨⟨by have := h.len; simp; omega, fun i hi hn h1 => by rw [List.getElem?_take, if_pos hi]; exact h.eq i hi hn h1, fun os e => by rw [List.getElem?_take, if_pos h0]; exact h.ar os e⟩, by have := h.len; simp; omega⟩
/-- as long as it was -/
def Ka (B : Nat) (a s : Store) : Prop := Kg B a s ∧ s.length = a.length
theorem Ka.refl (B : Nat) (a : Store) : Ka B a a := ⟨.refl _ _, rfl⟩
theorem Ka.trans {B : Nat} {a b c : Store} (h : Ka B a b) (k : Ka B b c) : Ka B a c := ⟨h.1.trans k.1, k.2.trans h.2⟩
theorem Ka.takes {B : Nat} {a s : Store} (h : Ka B a s) : s.take a.length = s := List.take_of_length_le (by rw [h.2]; exact Nat.le_refl _)
/-- the store of a law with objects -/
theorem Ka.hd {B : Nat} {os : List Obj} {tl s : Store} (h : Ka B (.arena os :: tl) s) : ∃ x tl', s = .arena (os ++ x) :: tl' ∧ tl'.length = tl.length := by
  obtain ⟨x, e⟩ := h.1.ar os rfl
  have hl := h.2
  cases s with
  | nil => simp at e
  | cons c r => simp at e hl; exact ⟨x, r, by rw [e], hl⟩
theorem Ka.len {B : Nat} {a s : Store} (h : Ka B a s) : s.length = a.length := h.2
/-- an arena that has grown -/
theorem Bag.grow {os x : List Obj} {tl : Store} {B : Nat} (h : Bag (.arena os :: tl) B) (h0 : B ≠ 0) : Bag (.arena (os ++ x) :: tl) B := by
  obtain ⟨b, e, i, j⟩ := h
  refine ⟨b, ?_, i, j.mono ?_⟩
  · cases B with
    | zero => exact absurd rfl h0
    | succ n => exact e
  · intro l n o h1 h2
    have h1 : some os = some l := h1
    cases h1
    exact ⟨os ++ x, rfl, by rw [List.getElem?_append_left (List.getElem?_eq_some_iff.mp h2).1]; exact h2⟩
/-! ### names drawn out of a pool of eight -/
end Prog

namespace Prog
open Ir
theorem Bu.of {s s' : Store} {B : Nat} {u : List D} (h : Bu s B u) (e : s'[B]? = s[B]?) : Bu s' B u := let ⟨b, eb, i, j⟩ := h; ⟨b, e.trans eb, i, j⟩
set_option maxHeartbeats 4000000 in
theorem ivd (st : Store) (a k : D) : indexV st (.d a) (.d k) = a.index k := rfl
end Prog

namespace Prog
open Ir
theorem Wp.bind_ok {C : Calls} {s : Stm} {r : List Stm} {σ σ' : Env} {st st' : Store} {pp : Post Out} (e : exec C s σ st = .ok (.nx σ') st') (h : @Wp _ (execs C r σ' st') pp) : @Wp _ (execs C (s :: r) σ st) pp := by
  have : execs C (s :: r) σ st = execs C r σ' st' := by
    show (exec C s σ st).bind _ = _
    rw [e]; rfl
  rw [this]; exact h
/-- a program drawn: its form, its names bound, at most so deep, at most so many places -/
structure GP (k m : Nat) (p : Pg) : Prop where
  sk : p.sk
  nb : p.nb
  cl : p.cl [] = true
  hk : p.h ≤ k
  pm : p.pl ≤ m
theorem GP.mono {k m k' m' : Nat} {p : Pg} (h : GP k m p) (hk : k ≤ k') (hm : m ≤ m') : GP k' m' p := ⟨h.sk, h.nb, h.cl, Nat.le_trans h.hk hk, Nat.le_trans h.pm hm⟩
theorem Pg.cl_mono : ∀ {p : Pg} {e f : List String}, (∀ x ∈ e, x ∈ f) → p.cl e = true → p.cl f = true
  | .num _, _, _, _, _ | .truth _, _, _, _, _ | .nil, _, _, _, _ => rfl
  | .name x, e, f, h, k => by
    have : x ∈ e := by simpa [Pg.cl] using k
    simpa [Pg.cl] using h x this
  | .off p, e, f, h, k => Pg.cl_mono (p := p) h k
  | .one _ xs p, e, f, h, k => Pg.cl_mono (p := p) (fun x hx => by
      rcases List.mem_append.mp hx with q | q
      · exact List.mem_append_left _ (h x q)
      · exact List.mem_append_right _ q) k
  | .two _ xs p q, e, f, h, k => by
    simp only [Pg.cl, Bool.and_eq_true] at k ⊢
    exact ⟨Pg.cl_mono h k.1, Pg.cl_mono (fun x hx => by
      rcases List.mem_append.mp hx with q | q
      · exact List.mem_append_left _ (h x q)
      · exact List.mem_append_right _ q) k.2⟩
  | .thr _ xs p q r, e, f, h, k => by
    simp only [Pg.cl, Bool.and_eq_true] at k ⊢
    exact ⟨⟨Pg.cl_mono h k.1.1, Pg.cl_mono h k.1.2⟩, Pg.cl_mono h k.2⟩
theorem GP.cls {k m : Nat} {p : Pg} (h : GP k m p) (e : List String) : p.cl e = true := Pg.cl_mono (fun x hx => by cases hx) h.cl
theorem at_mem {l : List D} {d : Int} (h0 : 0 ≤ d) (h1 : d < l.length) : ∃ x ∈ l, atI l d = some x := by
  have hlt : d.toNat < l.length := by omega
  refine ⟨l[d.toNat], List.getElem_mem hlt, ?_⟩
  unfold atI ixN
  rw [if_pos h0, if_pos h1]
  simp [List.getElem?_eq_getElem hlt]
theorem ix_mem {l : List D} {d : Int} (h0 : 0 ≤ d) (h1 : d < l.length) : ∃ x ∈ l, D.index (.lst l) (.int d) = some x := at_mem h0 h1
theorem sub_ii (a b : Int) : D.bin .sub (.int a) (.int b) = some (.int (a - b)) := rfl
theorem add_ii (a b : Int) : D.bin .add (.int a) (.int b) = some (.int (a + b)) := rfl
theorem nx : NameOk "x" := ⟨by decide, by decide, by decide, by decide⟩
theorem ny : NameOk "y" := ⟨by decide, by decide, by decide, by decide⟩
theorem ng : NameOk "g" := ⟨by decide, by decide, by decide, by decide⟩
theorem nf : NameOk "f" := ⟨by decide, by decide, by decide, by decide⟩
theorem kR0 : D.bRange [.int 0] = some (.lst []) := by exact bRange_nat (n := 0) (by rw [LIM_eq]; decide)
theorem kR1 : D.bRange [.int 1] = some (.lst [.int 0]) := by exact bRange_nat (n := 1) (by rw [LIM_eq]; decide)
theorem kR2 : D.bRange [.int 2] = some (.lst [.int 0, .int 1]) := by exact bRange_nat (n := 2) (by rw [LIM_eq]; decide)
theorem kR3 : D.bRange [.int 3] = some (.lst [.int 0, .int 1, .int 2]) := by exact bRange_nat (n := 3) (by rw [LIM_eq]; decide)
/-! ### a word with its names and parts -/
/-- what is known of a part -/
structure Gc (e : List String) (H : Nat) (p : Pg) : Prop where
  sk : p.sk
  nb : p.nb
  cl : p.cl e = true
  hk : p.h ≤ H
theorem Gc.mono {e f : List String} {H K : Nat} {p : Pg} (g : Gc e H p) (h : ∀ x ∈ e, x ∈ f) (k : H ≤ K) : Gc f K p := ⟨g.sk, g.nb, Pg.cl_mono h g.cl, Nat.le_trans g.hk k⟩
theorem GP.gc {k m : Nat} {p : Pg} (g : GP k m p) : Gc [] k p := ⟨g.sk, g.nb, g.cl, g.hk⟩
/-- a leaf of a program -/
structure Lf (e : List String) (p : Pg) : Prop where
  sk : p.sk
  nb : p.nb
  cl : p.cl e = true
  h0 : p.h = 0
  p1 : p.pl = 1
  no : p.isOff = false
theorem Lf.gc {e : List String} {p : Pg} (l : Lf e p) (H : Nat) : Gc e H p := ⟨l.sk, l.nb, l.cl, by rw [l.h0]; omega⟩
end Prog

namespace Prog
open Ir
/-! ### bounded -/
abbrev Ly := List (Pg × Bool)
def lyD (L : Ly) : List D := L.map fun q => .tup [q.1.d, .bool q.2]
theorem lyD_app (L M : Ly) : lyD (L ++ M) = lyD L ++ lyD M := by simp [lyD]
theorem lyD_len (L : Ly) : (lyD L).length = L.length := by simp [lyD]
def lyP (L : Ly) : Nat := (L.map fun q => q.1.pl).sum
theorem lyP_app (L M : Ly) : lyP (L ++ M) = lyP L + lyP M := by simp [lyP]
def Lo (H : Nat) (L : Ly) : Prop := ∀ q ∈ L, q.1.sk ∧ q.1.h ≤ H
theorem Lo.app {H : Nat} {L M : Ly} (h : Lo H L) (k : Lo H M) : Lo H (L ++ M) := fun q hq => by
  rcases List.mem_append.mp hq with q1 | q1
  · exact h q q1
  · exact k q q1
theorem ixT0 (a : D) (l : List D) : D.index (.tup (a :: l)) (.int 0) = some a := by simp [D.index, atI, ixN]
set_option maxHeartbeats 8000000 in
theorem bnd_rest {n H : Nat} {st : Store} {S : List D} {x0 x1 x3 x7 x8 : Option Val} {p : Pg} {f : Bool} {L : Ly} (sk : p.sk) (ho : p.isOff = false) (hh : p.h ≤ H) (hH : H ≤ 50) (hL : L.length ≤ 5000) (hS : S.length ≤ 5000) :
    @Wp _ (execs (callN T (n + 2)) f_law_bounded_b0.tail [x0, x1, some (.ref st.length), x3, some (.d (.lst (lyD L))), some (.d p.d), some (.d (.bool f)), x7, x8] (st ++ [.lst S])) ⟨fun o s => ∃ (F : Ly) (c : Bool) (y5 y6 y7 y8 : Option Val), o = .nx [x0, x1, some (.ref st.length), x3, some (.d (.lst (lyD (L ++ F)))), y5, y6, y7, y8] ∧ s = st ++ [.lst (S ++ [.bool c])] ∧ Lo H F ∧ lyP F + 1 = p.pl ∧ F.length ≤ 3⟩ := by
  have hpa := fun st => parts_ok (n := n) (st := st) sk ho
  have hSl : S.length < LIM := by rw [LIM_eq]; omega
  have hL0 : (lyD L).length ≤ LIM := by rw [LIM_eq, lyD_len]; omega
  have hL1 : (lyD L).length + 1 ≤ LIM := by rw [LIM_eq, lyD_len]; omega
  have hL2 : (lyD L).length + 2 ≤ LIM := by rw [LIM_eq, lyD_len]; omega
  have hL3 : (lyD L).length + 3 ≤ LIM := by rw [LIM_eq, lyD_len]; omega
  cases p with
  | off q => cases ho
  | num i =>
    simp only [Pg.d] at hpa
    cases f <;> (simp [-List.append_assoc, Tg.putV, Tg.put, Tg.puts, Tg.putF_eq, setAll, Tg.slots, Tg.slotss, wipe, indexV, cmpV, deref, asB, asD, asDs, asI, bltV, lenDic, bltD, derefs, D.blt, D.bLen, D.bTuple, D.bList, D.seq, mthV, mthOk, setV, ci_eq, ci_ne, ci_lt, ci_le, ci_gt, ci_ge, cs_eq, cs_ne, cb_eq, cb_ne, D.bin, isNon, f_law_bounded_b0, Pg.d, hpa, Pg.kidD, get_push, set_push, mAppend, hSl, D.mem, inB, fine, D.dep, D.depAll, D.eqv, kR0, kR1, kR2, kR3, compL, compStep, conds, ixT0, ixL10, ixL20, ixL21, il30, il31, il32, hL0, hL1, hL2, hL3]; exact ⟨[], by simp [lyD], fun q hq => (by cases hq), by simp [lyP, Pg.pl], by simp⟩)
  | truth i =>
    simp only [Pg.d] at hpa
    cases f <;> (simp [-List.append_assoc, Tg.putV, Tg.put, Tg.puts, Tg.putF_eq, setAll, Tg.slots, Tg.slotss, wipe, indexV, cmpV, deref, asB, asD, asDs, asI, bltV, lenDic, bltD, derefs, D.blt, D.bLen, D.bTuple, D.bList, D.seq, mthV, mthOk, setV, ci_eq, ci_ne, ci_lt, ci_le, ci_gt, ci_ge, cs_eq, cs_ne, cb_eq, cb_ne, D.bin, isNon, f_law_bounded_b0, Pg.d, hpa, Pg.kidD, get_push, set_push, mAppend, hSl, D.mem, inB, fine, D.dep, D.depAll, D.eqv, kR0, kR1, kR2, kR3, compL, compStep, conds, ixT0, ixL10, ixL20, ixL21, il30, il31, il32, hL0, hL1, hL2, hL3]; exact ⟨[], by simp [lyD], fun q hq => (by cases hq), by simp [lyP, Pg.pl], by simp⟩)
  | name i =>
    simp only [Pg.d] at hpa
    cases f <;> (simp [-List.append_assoc, Tg.putV, Tg.put, Tg.puts, Tg.putF_eq, setAll, Tg.slots, Tg.slotss, wipe, indexV, cmpV, deref, asB, asD, asDs, asI, bltV, lenDic, bltD, derefs, D.blt, D.bLen, D.bTuple, D.bList, D.seq, mthV, mthOk, setV, ci_eq, ci_ne, ci_lt, ci_le, ci_gt, ci_ge, cs_eq, cs_ne, cb_eq, cb_ne, D.bin, isNon, f_law_bounded_b0, Pg.d, hpa, Pg.kidD, get_push, set_push, mAppend, hSl, D.mem, inB, fine, D.dep, D.depAll, D.eqv, kR0, kR1, kR2, kR3, compL, compStep, conds, ixT0, ixL10, ixL20, ixL21, il30, il31, il32, hL0, hL1, hL2, hL3]; exact ⟨[], by simp [lyD], fun q hq => (by cases hq), by simp [lyP, Pg.pl], by simp⟩)
  | nil =>
    simp only [Pg.d] at hpa
    cases f <;> (simp [-List.append_assoc, Tg.putV, Tg.put, Tg.puts, Tg.putF_eq, setAll, Tg.slots, Tg.slotss, wipe, indexV, cmpV, deref, asB, asD, asDs, asI, bltV, lenDic, bltD, derefs, D.blt, D.bLen, D.bTuple, D.bList, D.seq, mthV, mthOk, setV, ci_eq, ci_ne, ci_lt, ci_le, ci_gt, ci_ge, cs_eq, cs_ne, cb_eq, cb_ne, D.bin, isNon, f_law_bounded_b0, Pg.d, hpa, Pg.kidD, get_push, set_push, mAppend, hSl, D.mem, inB, fine, D.dep, D.depAll, D.eqv, kR0, kR1, kR2, kR3, compL, compStep, conds, ixT0, ixL10, ixL20, ixL21, il30, il31, il32, hL0, hL1, hL2, hL3]; exact ⟨[], by simp [lyD], fun q hq => (by cases hq), by simp [lyP, Pg.pl], by simp⟩)
  | one w xs q =>
    have K : ∀ b : Bool, ∃ F : Ly, lyD L ++ [.tup [q.d, .bool b]] = lyD (L ++ F) ∧ Lo H F ∧ lyP F + 1 = (Pg.one w xs q).pl ∧ F.length ≤ 3 := fun b => by
      exact ⟨[(q, b)], by rw [lyD_app]; rfl, fun x hx => by rw [List.mem_singleton.mp hx]; exact ⟨sk.2, by simp only [Pg.h] at hh; show q.h ≤ H; omega⟩, by simp [lyP, Pg.pl], by simp⟩
    rcases sk.1 with ⟨hw, rfl⟩ | ⟨rfl, x, rfl, _⟩ | ⟨rfl, g, x, rfl, _⟩
    · simp only [ONES, List.mem_cons, List.not_mem_nil, or_false] at hw
      simp only [Pg.d, List.map_nil, List.nil_append] at hpa
      rcases hw with rfl | rfl | rfl | rfl | rfl <;> cases f <;> (simp [-List.append_assoc, Tg.putV, Tg.put, Tg.puts, Tg.putF_eq, setAll, Tg.slots, Tg.slotss, wipe, indexV, cmpV, deref, asB, asD, asDs, asI, bltV, lenDic, bltD, derefs, D.blt, D.bLen, D.bTuple, D.bList, D.seq, mthV, mthOk, setV, ci_eq, ci_ne, ci_lt, ci_le, ci_gt, ci_ge, cs_eq, cs_ne, cb_eq, cb_ne, D.bin, isNon, f_law_bounded_b0, Pg.d, hpa, Pg.kidD, get_push, set_push, mAppend, hSl, D.mem, inB, fine, D.dep, D.depAll, D.eqv, kR0, kR1, kR2, kR3, compL, compStep, conds, ixT0, ixL10, ixL20, ixL21, il30, il31, il32, hL0, hL1, hL2, hL3]; exact K _)
    · simp only [Pg.d, List.map_nil, List.map_cons, List.nil_append, List.cons_append] at hpa
      cases f <;> (simp [-List.append_assoc, Tg.putV, Tg.put, Tg.puts, Tg.putF_eq, setAll, Tg.slots, Tg.slotss, wipe, indexV, cmpV, deref, asB, asD, asDs, asI, bltV, lenDic, bltD, derefs, D.blt, D.bLen, D.bTuple, D.bList, D.seq, mthV, mthOk, setV, ci_eq, ci_ne, ci_lt, ci_le, ci_gt, ci_ge, cs_eq, cs_ne, cb_eq, cb_ne, D.bin, isNon, f_law_bounded_b0, Pg.d, hpa, Pg.kidD, get_push, set_push, mAppend, hSl, D.mem, inB, fine, D.dep, D.depAll, D.eqv, kR0, kR1, kR2, kR3, compL, compStep, conds, ixT0, ixL10, ixL20, ixL21, il30, il31, il32, hL0, hL1, hL2, hL3]; exact K _)
    · simp only [Pg.d, List.map_nil, List.map_cons, List.nil_append, List.cons_append] at hpa
      cases f <;> (simp [-List.append_assoc, Tg.putV, Tg.put, Tg.puts, Tg.putF_eq, setAll, Tg.slots, Tg.slotss, wipe, indexV, cmpV, deref, asB, asD, asDs, asI, bltV, lenDic, bltD, derefs, D.blt, D.bLen, D.bTuple, D.bList, D.seq, mthV, mthOk, setV, ci_eq, ci_ne, ci_lt, ci_le, ci_gt, ci_ge, cs_eq, cs_ne, cb_eq, cb_ne, D.bin, isNon, f_law_bounded_b0, Pg.d, hpa, Pg.kidD, get_push, set_push, mAppend, hSl, D.mem, inB, fine, D.dep, D.depAll, D.eqv, kR0, kR1, kR2, kR3, compL, compStep, conds, ixT0, ixL10, ixL20, ixL21, il30, il31, il32, hL0, hL1, hL2, hL3]; exact K _)
  | two w xs q r =>
    have K : ∀ b c : Bool, ∃ F : Ly, lyD L ++ [.tup [q.d, .bool b], .tup [r.d, .bool c]] = lyD (L ++ F) ∧ Lo H F ∧ lyP F + 1 = (Pg.two w xs q r).pl ∧ F.length ≤ 3 := fun b c => by
      exact ⟨[(q, b), (r, c)], by rw [lyD_app]; rfl, fun x hx => by
        rcases List.mem_cons.mp hx with rfl | hx
        · exact ⟨sk.2.1, by simp only [Pg.h] at hh; simp only; omega⟩
        · rw [List.mem_singleton.mp hx]; exact ⟨sk.2.2, by simp only [Pg.h] at hh; simp only; omega⟩, by simp [lyP, Pg.pl], by simp⟩
    rcases sk.1 with ⟨hw, rfl⟩ | ⟨rfl, x, rfl, _⟩
    · simp only [TWOS, List.mem_cons, List.not_mem_nil, or_false] at hw
      simp only [Pg.d, List.map_nil, List.nil_append] at hpa
      rcases hw with rfl | rfl | rfl | rfl | rfl <;> cases f <;> (simp [-List.append_assoc, Tg.putV, Tg.put, Tg.puts, Tg.putF_eq, setAll, Tg.slots, Tg.slotss, wipe, indexV, cmpV, deref, asB, asD, asDs, asI, bltV, lenDic, bltD, derefs, D.blt, D.bLen, D.bTuple, D.bList, D.seq, mthV, mthOk, setV, ci_eq, ci_ne, ci_lt, ci_le, ci_gt, ci_ge, cs_eq, cs_ne, cb_eq, cb_ne, D.bin, isNon, f_law_bounded_b0, Pg.d, hpa, Pg.kidD, get_push, set_push, mAppend, hSl, D.mem, inB, fine, D.dep, D.depAll, D.eqv, kR0, kR1, kR2, kR3, compL, compStep, conds, ixT0, ixL10, ixL20, ixL21, il30, il31, il32, hL0, hL1, hL2, hL3]; exact K _ _)
    · simp only [Pg.d, List.map_nil, List.map_cons, List.nil_append, List.cons_append] at hpa
      cases f <;> (simp [-List.append_assoc, Tg.putV, Tg.put, Tg.puts, Tg.putF_eq, setAll, Tg.slots, Tg.slotss, wipe, indexV, cmpV, deref, asB, asD, asDs, asI, bltV, lenDic, bltD, derefs, D.blt, D.bLen, D.bTuple, D.bList, D.seq, mthV, mthOk, setV, ci_eq, ci_ne, ci_lt, ci_le, ci_gt, ci_ge, cs_eq, cs_ne, cb_eq, cb_ne, D.bin, isNon, f_law_bounded_b0, Pg.d, hpa, Pg.kidD, get_push, set_push, mAppend, hSl, D.mem, inB, fine, D.dep, D.depAll, D.eqv, kR0, kR1, kR2, kR3, compL, compStep, conds, ixT0, ixL10, ixL20, ixL21, il30, il31, il32, hL0, hL1, hL2, hL3]; exact K _ _)
  | thr w xs q r z =>
    have K : ∀ b c e : Bool, ∃ F : Ly, lyD L ++ [.tup [q.d, .bool b], .tup [r.d, .bool c], .tup [z.d, .bool e]] = lyD (L ++ F) ∧ Lo H F ∧ lyP F + 1 = (Pg.thr w xs q r z).pl ∧ F.length ≤ 3 := fun b c e => by
      exact ⟨[(q, b), (r, c), (z, e)], by rw [lyD_app]; rfl, fun x hx => by
        rcases List.mem_cons.mp hx with rfl | hx
        · exact ⟨sk.2.2.1, by simp only [Pg.h] at hh; simp only; omega⟩
        · rcases List.mem_cons.mp hx with rfl | hx
          · exact ⟨sk.2.2.2.1, by simp only [Pg.h] at hh; simp only; omega⟩
          · rw [List.mem_singleton.mp hx]; exact ⟨sk.2.2.2.2, by simp only [Pg.h] at hh; simp only; omega⟩, by simp [lyP, Pg.pl]; omega, by simp⟩
    obtain ⟨rfl, rfl, _⟩ := sk
    simp only [Pg.d, List.map_nil, List.nil_append] at hpa
    cases f <;> (simp [-List.append_assoc, Tg.putV, Tg.put, Tg.puts, Tg.putF_eq, setAll, Tg.slots, Tg.slotss, wipe, indexV, cmpV, deref, asB, asD, asDs, asI, bltV, lenDic, bltD, derefs, D.blt, D.bLen, D.bTuple, D.bList, D.seq, mthV, mthOk, setV, ci_eq, ci_ne, ci_lt, ci_le, ci_gt, ci_ge, cs_eq, cs_ne, cb_eq, cb_ne, D.bin, isNon, f_law_bounded_b0, Pg.d, hpa, Pg.kidD, get_push, set_push, mAppend, hSl, D.mem, inB, fine, D.dep, D.depAll, D.eqv, kR0, kR1, kR2, kR3, compL, compStep, conds, ixT0, ixL10, ixL20, ixL21, il30, il31, il32, hL0, hL1, hL2, hL3]; exact K _ _ _)
theorem any_bools : ∀ (S : List D), (∀ x ∈ S, ∃ b, x = .bool b) → ∃ b, D.bAny [.lst S] = some (.bool b) := by
  intro S h
  have : ∀ S : List D, (∀ x ∈ S, ∃ b, x = .bool b) → ∃ bs, D.bools S = some bs := by
    intro S
    induction S with
    | nil => intro _; exact ⟨[], rfl⟩
    | cons x S ih =>
      intro h
      obtain ⟨b, rfl⟩ := h x List.mem_cons_self
      obtain ⟨bs, e⟩ := ih fun y hy => h y (List.mem_cons_of_mem _ hy)
      exact ⟨b :: bs, by simp [D.bools, e]⟩
  obtain ⟨bs, e⟩ := this S h
  exact ⟨bs.any id, by simp only [D.bAny, e, Option.map_some]⟩
set_option maxHeartbeats 2000000 in
theorem bnd_turn {n H : Nat} {st : Store} {S : List D} {x0 x1 x3 x7 x8 : Option Val} {p : Pg} {f : Bool} {L : Ly} (sk : p.sk) (hh : p.h ≤ H) (hH : H ≤ 50) (hL : L.length ≤ 5000) (hS : S.length ≤ 5000) :
    @Wp _ (execs (callN T (n + 2)) f_law_bounded_b0 [x0, x1, some (.ref st.length), x3, some (.d (.lst (lyD L))), some (.d p.d), some (.d (.bool f)), x7, x8] (st ++ [.lst S])) ⟨fun o s => ∃ (F : Ly) (c : Bool) (y5 y6 y7 y8 : Option Val), o = .nx [x0, x1, some (.ref st.length), x3, some (.d (.lst (lyD (L ++ F)))), y5, y6, y7, y8] ∧ s = st ++ [.lst (S ++ [.bool c])] ∧ Lo H F ∧ lyP F + 1 = p.pl ∧ F.length ≤ 3⟩ := by
  have main : ∀ q : Pg, q.sk → q.isOff = false → q.h ≤ H → exec (callN T (n + 2)) (.asg (.name 5) (.ite (.cmp .eq (.idx (.var 5) (.con (.int 0))) (.con (.str "off"))) (.idx (.var 5) (.con (.int 1))) (.var 5))) [x0, x1, some (.ref st.length), x3, some (.d (.lst (lyD L))), some (.d p.d), some (.d (.bool f)), x7, x8] (st ++ [.lst S]) = .ok (.nx [x0, x1, some (.ref st.length), x3, some (.d (.lst (lyD L))), some (.d q.d), some (.d (.bool f)), x7, x8]) (st ++ [.lst S]) → q.pl = p.pl → @Wp _ (execs (callN T (n + 2)) f_law_bounded_b0 [x0, x1, some (.ref st.length), x3, some (.d (.lst (lyD L))), some (.d p.d), some (.d (.bool f)), x7, x8] (st ++ [.lst S])) ⟨fun (o : Out) (s : Store) => ∃ (F : Ly) (c : Bool) (y5 y6 y7 y8 : Option Val), o = .nx [x0, x1, some (.ref st.length), x3, some (.d (.lst (lyD (L ++ F)))), y5, y6, y7, y8] ∧ s = st ++ [.lst (S ++ [.bool c])] ∧ Lo H F ∧ lyP F + 1 = p.pl ∧ F.length ≤ 3⟩ := fun q k1 k2 k3 e k4 => by
    refine Wp.bind_ok e ?_
    have h := bnd_rest (n := n) (st := st) (x0 := x0) (x1 := x1) (x3 := x3) (x7 := x7) (x8 := x8) (f := f) k1 k2 k3 hH hL hS
    rw [k4] at h
    exact h
  cases ho : p.isOff with
  | true =>
    cases p with
    | off q => exact main q sk.1 sk.2 (by simp only [Pg.h] at hh; omega) (by simp [Tg.putV, Tg.put, Tg.puts, Tg.putF_eq, setAll, Tg.slots, Tg.slotss, wipe, indexV, D.index, atI, ixN, cmpV, deref, asB, asD, asDs, asI, bltV, lenDic, bltD, derefs, D.blt, D.bLen, D.bTuple, D.bList, D.seq, mthV, mthOk, setV, ci_eq, ci_ne, ci_lt, ci_le, ci_gt, ci_ge, cs_eq, cs_ne, cb_eq, cb_ne, D.bin, D.slice, cut, sIx, isNon, Pg.d]) rfl
    | _ => cases ho
  | false =>
    obtain ⟨w, its, hd, hw⟩ := off_word ho sk
    exact main p sk ho hh (by rw [hd]; simp [Tg.putV, Tg.put, Tg.puts, Tg.putF_eq, setAll, Tg.slots, Tg.slotss, wipe, indexV, D.index, atI, ixN, cmpV, deref, asB, asD, asDs, asI, bltV, lenDic, bltD, derefs, D.blt, D.bLen, D.bTuple, D.bList, D.seq, mthV, mthOk, setV, ci_eq, ci_ne, ci_lt, ci_le, ci_gt, ci_ge, cs_eq, cs_ne, cb_eq, cb_ne, D.bin, D.slice, cut, sIx, isNon, hw]) rfl
theorem dep_ly {H : Nat} {L : Ly} (h : Lo H L) (hH : H ≤ 50) : fine (.lst (lyD L)) = true := by
  unfold fine
  rw [decide_eq_true_eq]
  have h1 : D.depAll (lyD L) ≤ 60 := by
    rw [depAll_le]
    intro x hx
    obtain ⟨q, hq, rfl⟩ := List.mem_map.mp hx
    have := (h q hq).2
    simp only [D.dep, D.depAll, q.1.dep_d]
    omega
  simp only [D.dep]
  omega
theorem lyP_pos {L : Ly} (h : L ≠ []) : 1 ≤ lyP L := by
  cases L with
  | nil => exact absurd rfl h
  | cons q L => have := q.1.pl_pos; simp [lyP]; omega
theorem lyP_len (L : Ly) : L.length ≤ lyP L := by
  induction L with
  | nil => exact Nat.zero_le _
  | cons q L ih => have := q.1.pl_pos; simp only [lyP, List.map_cons, List.sum_cons, List.length_cons] at ih ⊢; omega
set_option maxHeartbeats 4000000 in
theorem bounded_wp {n H : Nat} {st : Store} {pp : Post Val} {p : Pg} (sk : p.sk) (hh : p.h ≤ H) (hH : H ≤ 50) (hp : p.pl ≤ 500) (K : ∀ b : Bool, (b = true → p.pl ≤ 40) → pp.q (.d (.bool b)) st) : @Wp _ (callN T (n + 3) "_law_bounded" [.d p.d] st) pp := by
  rw [callN_run T_f_law_bounded]
  simp [Tg.putV, Tg.put, Tg.puts, Tg.putF_eq, setAll, Tg.slots, Tg.slotss, wipe, indexV, cmpV, deref, asB, asD, asDs, asI, bltV, lenDic, bltD, derefs, D.blt, D.bLen, D.bTuple, D.bList, D.seq, mthV, mthOk, setV, ci_eq, ci_ne, ci_lt, ci_le, ci_gt, ci_ge, cs_eq, cs_ne, cb_eq, cb_ne, D.bin, isNon, f_law_bounded, runFn, -List.append_assoc]
  refine wp_while (I := fun k σ s => ∃ (L : Ly) (S : List D) (dp : Nat) (x4 x5 x6 x7 x8 : Option Val), σ = [some (.d p.d), some (.d (.lst (lyD L))), some (.ref st.length), some (.d (.int dp)), x4, x5, x6, x7, x8] ∧ s = st ++ [.lst S] ∧ Lo H L ∧ S.length + lyP L = p.pl ∧ k = lyP L ∧ (∀ x ∈ S, ∃ b, x = .bool b))
    ?_ p.pl _ _ ⟨[(p, false)], [], 0, none, none, none, none, none, rfl, rfl, fun q hq => by rw [List.mem_singleton.mp hq]; exact ⟨sk, hh⟩, by simp [lyP], by simp [lyP], fun x hx => by cases hx⟩
  rintro k σ s ⟨L, S, dp, x4, x5, x6, x7, x8, rfl, rfl, hL, hsum, rfl, hbs⟩
  have hf := dep_ly hL hH
  have hf0 : fine (.lst []) = true := by decide
  have hcmp : D.cmp .ne (.lst (lyD L)) (.lst []) = some (!(lyD L).isEmpty) := by
    simp only [D.cmp, hf, hf0, Bool.and_self, if_true]
    cases hl : lyD L <;> simp [D.eqv, D.eqvAll]
  simp only [f_law_bounded_w0, condB]
  cases L with
  | nil =>
    have hS : S.length = p.pl := by simpa [lyP] using hsum
    obtain ⟨b, hb⟩ := any_bools S hbs
    have hl0 : lyD [] = [] := rfl
    rw [hl0] at hcmp
    simp only [hl0]
    simp [Tg.putV, Tg.put, Tg.puts, Tg.putF_eq, setAll, Tg.slots, Tg.slotss, wipe, indexV, cmpV, deref, asB, asD, asDs, asI, bltV, lenDic, bltD, derefs, D.blt, D.bLen, D.bTuple, D.bList, D.seq, mthV, mthOk, setV, ci_eq, ci_ne, ci_lt, ci_le, ci_gt, ci_ge, cs_eq, cs_ne, cb_eq, cb_ne, D.bin, isNon, -List.append_assoc, hcmp, get_push, leave]
    refine ⟨fun h1 => ⟨fun h2 => ⟨fun _ => K true (fun _ => by omega), fun _ => ?_⟩, fun _ => K false (fun h => nomatch h)⟩, fun _ => K false (fun h => nomatch h)⟩
    simp only [hb]
    cases b <;> simp [asB]
    · exact K true (fun _ => by omega)
    · exact K false (fun h => nomatch h)
  | cons q0 L0 =>
    have hne : (lyD (q0 :: L0)).isEmpty = false := rfl
    rw [hne] at hcmp
    have hpos := lyP_pos (L := q0 :: L0) (by simp)
    generalize hLL : q0 :: L0 = LL at *
    have hLL1 : 1 ≤ LL.length := by rw [← hLL]; simp
    clear hne
    simp [Tg.putV, Tg.put, Tg.puts, Tg.putF_eq, setAll, Tg.slots, Tg.slotss, wipe, indexV, cmpV, deref, asB, asD, asDs, asI, bltV, lenDic, bltD, derefs, D.blt, D.bLen, D.bTuple, D.bList, D.seq, mthV, mthOk, setV, ci_eq, ci_ne, ci_lt, ci_le, ci_gt, ci_ge, cs_eq, cs_ne, cb_eq, cb_ne, D.bin, isNon, -List.append_assoc, hcmp]
    refine wp_loop (fun xs σ s => ∃ (L1 M : Ly) (S1 : List D) (y5 y6 y7 y8 : Option Val), xs = lyD L1 ∧ Lo H L1 ∧ Lo H M ∧ σ = [some (.d p.d), some (.d (.lst (lyD LL))), some (.ref st.length), some (.d (.int dp)), some (.d (.lst (lyD M))), y5, y6, y7, y8] ∧ s = st ++ [.lst S1] ∧ S1.length + (lyP L1 + lyP M) = p.pl ∧ (∀ x ∈ S1, ∃ b, x = .bool b) ∧ lyP L1 + lyP M + (LL.length - L1.length) = lyP LL ∧ L1.length ≤ LL.length) ?_ ?_ _ _ _ ⟨LL, [], S, _, _, _, _, rfl, hL, fun q hq => (by cases hq), rfl, rfl, by simpa [lyP] using hsum, hbs, by simp [lyP], Nat.le_refl _⟩
    · rintro x xs σ s ⟨L1, M, S1, y5, y6, y7, y8, hx, h1, h2, rfl, rfl, h3, h4, h5, h6⟩
      cases L1 with
      | nil => cases hx
      | cons q L1 =>
        have hx : x :: xs = .tup [q.1.d, .bool q.2] :: lyD L1 := hx
        cases hx
        have hMl := lyP_len M
        have hq := h1 q List.mem_cons_self
        have hpq : lyP (q :: L1) = q.1.pl + lyP L1 := by simp [lyP]
        rw [hpq] at h3 h5
        simp only [List.length_cons] at h5 h6
        refine ⟨_, rfl, ?_⟩
        refine (bnd_turn (n := n) (H := H) (x0 := some (.d p.d)) (x1 := some (.d (.lst (lyD LL)))) (x3 := some (.d (.int dp))) (x7 := y7) (x8 := y8) (f := q.2) (L := M) (S := S1) hq.1 hq.2 hH (by omega) (by omega)).mono ?_
        rintro o s ⟨F, c, z5, z6, z7, z8, rfl, rfl, f1, f2, f3⟩
        refine ⟨L1, M ++ F, _, _, _, _, _, rfl, fun r hr => h1 r (List.mem_cons_of_mem _ hr), h2.app f1, rfl, rfl, ?_, fun x hx => ?_, ?_, by omega⟩
        · rw [lyP_app, List.length_append, List.length_singleton]; omega
        · rcases List.mem_append.mp hx with hx | hx
          · exact h4 x hx
          · exact ⟨c, List.mem_singleton.mp hx⟩
        · rw [lyP_app]; omega
    · rintro σ s ⟨L1, M, S1, y5, y6, y7, y8, hx, h1, h2, rfl, rfl, h3, h4, h5, h6⟩
      have hL1 : L1 = [] := by
        cases L1 with
        | nil => rfl
        | cons _ _ => cases hx
      subst hL1
      have e0 : lyP [] = 0 := rfl
      rw [e0, Nat.zero_add] at h3 h5
      simp only [List.length_nil, Nat.sub_zero] at h5
      simp [Tg.putV, Tg.put, Tg.puts, Tg.putF_eq, setAll, Tg.slots, Tg.slotss, wipe, indexV, cmpV, deref, asB, asD, asDs, asI, bltV, lenDic, bltD, derefs, D.blt, D.bLen, D.bTuple, D.bList, D.seq, mthV, mthOk, setV, ci_eq, ci_ne, ci_lt, ci_le, ci_gt, ci_ge, cs_eq, cs_ne, cb_eq, cb_ne, D.bin, isNon, -List.append_assoc]
      exact ⟨lyP M, by omega, M, ⟨rfl, dp + 1, by simp⟩, h2, h3, rfl, fun x hx => by
        obtain ⟨b, rfl⟩ := h4 x hx
        cases b <;> simp⟩
end Prog

namespace Prog
open Ir
end Prog

namespace Prog
open Ir
end Prog

namespace Prog
open Ir
section
variable {e : List String} {H : Nat} {p q r : Pg} {x f : String}
theorem gc_num {i : Int} (h : i.natAbs < 10 ^ 60) : Gc e H (.num i) := ⟨trivial, h, rfl, Nat.zero_le _⟩
theorem gc_tru {b : Bool} : Gc e H (.truth b) := ⟨trivial, trivial, rfl, Nat.zero_le _⟩
theorem gc_nil : Gc e H .nil := ⟨trivial, trivial, rfl, Nat.zero_le _⟩
theorem gc_nm (h : NameOk x) (m : x ∈ e) : Gc e H (.name x) := ⟨h, trivial, by simpa [Pg.cl] using m, Nat.zero_le _⟩
theorem gc_one {h : String} (hh : h ∈ ONES) (g : Gc e H p) : Gc e (H + 1) (.one h [] p) := ⟨⟨.inl ⟨hh, rfl⟩, g.sk⟩, g.nb, by have := g.cl; simpa [Pg.cl] using this, by have := g.hk; simp only [Pg.h]; omega⟩
theorem gc_fn (hx : NameOk x) (g : Gc (e ++ [x]) H p) : Gc e (H + 1) (.one "fn" [x] p) := ⟨⟨.inr (.inl ⟨rfl, x, rfl, hx⟩), g.sk⟩, g.nb, g.cl, by have := g.hk; simp only [Pg.h]; omega⟩
theorem gc_two {h : String} (hh : h ∈ TWOS) (g : Gc e H p) (g' : Gc e H q) : Gc e (H + 1) (.two h [] p q) := ⟨⟨.inl ⟨hh, rfl⟩, g.sk, g'.sk⟩, ⟨g.nb, g'.nb⟩, by simp only [Pg.cl, Bool.and_eq_true, List.append_nil]; exact ⟨g.cl, g'.cl⟩, by have := g.hk; have := g'.hk; simp only [Pg.h]; omega⟩
theorem gc_let (hx : NameOk x) (g : Gc e H p) (g' : Gc (e ++ [x]) H q) : Gc e (H + 1) (.two "let" [x] p q) := ⟨⟨.inr ⟨rfl, x, rfl, hx⟩, g.sk, g'.sk⟩, ⟨g.nb, g'.nb⟩, by simp only [Pg.cl, Bool.and_eq_true]; exact ⟨g.cl, g'.cl⟩, by have := g.hk; have := g'.hk; simp only [Pg.h]; omega⟩
theorem gc_if (g : Gc e H p) (g' : Gc e H q) (g2 : Gc e H r) : Gc e (H + 1) (.thr "if" [] p q r) := ⟨⟨rfl, rfl, g.sk, g'.sk, g2.sk⟩, ⟨g.nb, g'.nb, g2.nb⟩, by simp only [Pg.cl, Bool.and_eq_true]; exact ⟨⟨g.cl, g'.cl⟩, g2.cl⟩, by have := g.hk; have := g'.hk; have := g2.hk; simp only [Pg.h]; omega⟩
theorem Gc.any (g : Gc [] H p) {K : Nat} (h : H ≤ K) : Gc e K p := g.mono (fun x hx => by cases hx) h
end
end Prog

namespace Prog
open Ir
/-! ### a part's run within any greater one: it tells a value in so many places begun -/
def Ev (p : Pg) (a : Nat) (e : En) (v : Vl) (N : Nat) : Prop := ∀ (K : List Tk) (V : List Vl) (bg : List Nat) (left : Nat), N ≤ left →
  ∃ bg', ∀ f b, Runs ⟨K, v :: V, bg', left - N⟩ f b → Runs ⟨(p, a, e, false) :: K, V, bg, left⟩ f b
theorem stp_b (p : Pg) (a : Nat) (e : En) (K : List Tk) (V : List Vl) (bg : List Nat) (l : Nat) :
    stp ⟨(p, a, e, false) :: K, V, bg, l + 1⟩ = .inl ⟨(bgn p a e K V p.core).1, (bgn p a e K V p.core).2, addK bg a, l⟩ := by simp [stp]
theorem stp_f {p : Pg} {a : Nat} {e : En} {K : List Tk} {V : List Vl} {bg : List Nat} {l : Nat} {t : List Tk} {v : List Vl} (h : fns a e K p.core V = .inl (t, v)) :
    stp ⟨(p, a, e, true) :: K, V, bg, l⟩ = .inl ⟨t, v, bg, l⟩ := by simp [stp, h]
/-- a part that tells its value at once -/
theorem ev_leaf {p : Pg} {a : Nat} {e : En} {v : Vl} (h : ∀ K V, bgn p a e K V p.core = (K, v :: V)) : Ev p a e v 1 := by
  intro K V bg left hl
  obtain ⟨l, rfl⟩ : ∃ l, left = l + 1 := ⟨left - 1, by omega⟩
  refine ⟨addK bg a, fun f b r => .go (stp_b p a e K V bg l) ?_⟩
  rw [h]; exact r
theorem ev_num (i : Int) (a : Nat) (e : En) : Ev (.num i) a e (.num i) 1 := ev_leaf fun _ _ => rfl
theorem ev_tru (i : Bool) (a : Nat) (e : En) : Ev (.truth i) a e (.tru i) 1 := ev_leaf fun _ _ => rfl
theorem ev_nil (a : Nat) (e : En) : Ev .nil a e .nil 1 := ev_leaf fun _ _ => rfl
theorem ev_name (x : String) (a : Nat) (e : En) : Ev (.name x) a e (e.look x) 1 := ev_leaf fun _ _ => rfl
theorem ev_fn (xs : List String) (q : Pg) (a : Nat) (e : En) : Ev (.one "fn" xs q) a e (.fn xs q (a + 1) e) 1 := ev_leaf fun _ _ => by simp [Pg.core, bgn]
theorem ev_one {h : String} {xs : List String} {q : Pg} {a : Nat} {e : En} {u w : Vl} {N : Nat} (n1 : h ≠ "fn") (n2 : h ≠ "rec") (k : Ev q (a + 1) e u N) (o : partO h u = .v w) : Ev (.one h xs q) a e w (N + 1) := by
  intro K V bg left hl
  obtain ⟨l, rfl⟩ : ∃ l, left = l + 1 := ⟨left - 1, by omega⟩
  obtain ⟨b1, k1⟩ := k ((.one h xs q, a, e, true) :: K) V (addK bg a) l (by omega)
  refine ⟨b1, fun f b r => .go (stp_b _ a e K V bg l) ?_⟩
  simp only [Pg.core, bgn, n1, n2, or_self, if_false]
  refine k1 f b (.go (stp_f (t := K) (v := w :: V) (by simp [Pg.core, fns, oud, o])) ?_)
  rwa [show l + 1 - (N + 1) = l - N by omega] at r
theorem ev_two {h : String} {xs : List String} {q r : Pg} {a : Nat} {e : En} {x y w : Vl} {N M : Nat} (n1 : h ≠ "let") (n2 : h ≠ "call") (k : Ev q (a + 1) e x N) (k' : Ev r (a + 1 + q.pl) e y M) (o : twoO h x y = .v w) : Ev (.two h xs q r) a e w (N + M + 1) := by
  intro K V bg left hl
  obtain ⟨l, rfl⟩ : ∃ l, left = l + 1 := ⟨left - 1, by omega⟩
  obtain ⟨b1, k1⟩ := k ((r, a + 1 + q.pl, e, false) :: (.two h xs q r, a, e, true) :: K) V (addK bg a) l (by omega)
  obtain ⟨b2, k2⟩ := k' ((.two h xs q r, a, e, true) :: K) (x :: V) b1 (l - N) (by omega)
  refine ⟨b2, fun f b r => .go (stp_b _ a e K V bg l) ?_⟩
  simp only [Pg.core, bgn, n1, if_false]
  refine k1 f b (k2 f b (.go (stp_f (t := K) (v := w :: V) (by simp [Pg.core, fns, n1, n2, oud, o])) ?_))
  rwa [show l + 1 - (N + M + 1) = l - N - M by omega] at r
theorem ev_let {x : String} {q r : Pg} {a : Nat} {e : En} {v w : Vl} {N M : Nat} (k : Ev q (a + 1) e v N) (k' : Ev r (a + 1 + q.pl) (.cons x v e) w M) : Ev (.two "let" [x] q r) a e w (N + M + 1) := by
  intro K V bg left hl
  obtain ⟨l, rfl⟩ : ∃ l, left = l + 1 := ⟨left - 1, by omega⟩
  obtain ⟨b1, k1⟩ := k ((.two "let" [x] q r, a, e, true) :: K) V (addK bg a) l (by omega)
  obtain ⟨b2, k2⟩ := k' K V b1 (l - N) (by omega)
  refine ⟨b2, fun f b rr => .go (stp_b _ a e K V bg l) ?_⟩
  simp only [Pg.core, bgn, if_true]
  refine k1 f b (.go (stp_f (t := (r, a + 1 + q.pl, .cons x v e, false) :: K) (v := V) (by simp [Pg.core, fns])) (k2 f b ?_))
  rwa [show l + 1 - (N + M + 1) = l - N - M by omega] at rr
theorem ev_call {ys xs : List String} {q r bd : Pg} {a c : Nat} {e e' : En} {y w : Vl} {N M L : Nat} (k : Ev q (a + 1) e (.fn xs bd c e') N) (k' : Ev r (a + 1 + q.pl) e y M) (k'' : Ev bd c (callE xs (.fn xs bd c e') y e') w L) :
    Ev (.two "call" ys q r) a e w (N + M + L + 1) := by
  intro K V bg left hl
  obtain ⟨l, rfl⟩ : ∃ l, left = l + 1 := ⟨left - 1, by omega⟩
  obtain ⟨b1, k1⟩ := k ((r, a + 1 + q.pl, e, false) :: (.two "call" ys q r, a, e, true) :: K) V (addK bg a) l (by omega)
  obtain ⟨b2, k2⟩ := k' ((.two "call" ys q r, a, e, true) :: K) ((.fn xs bd c e') :: V) b1 (l - N) (by omega)
  obtain ⟨b3, k3⟩ := k'' K V b2 (l - N - M) (by omega)
  refine ⟨b3, fun f b rr => .go (stp_b _ a e K V bg l) ?_⟩
  simp only [Pg.core, bgn, (by decide : ("call" : String) ≠ "let"), if_false]
  refine k1 f b (k2 f b (.go (stp_f (t := (bd, c, callE xs (.fn xs bd c e') y e', false) :: K) (v := V) (by simp [Pg.core, fns, enter])) (k3 f b ?_)))
  rwa [show l + 1 - (N + M + L + 1) = l - N - M - L by omega] at rr
theorem ev_ifT {xs : List String} {q r s : Pg} {a : Nat} {e : En} {w : Vl} {N M : Nat} (k : Ev q (a + 1) e (.tru true) N) (k' : Ev r (a + 1 + q.pl) e w M) : Ev (.thr "if" xs q r s) a e w (N + M + 1) := by
  intro K V bg left hl
  obtain ⟨l, rfl⟩ : ∃ l, left = l + 1 := ⟨left - 1, by omega⟩
  obtain ⟨b1, k1⟩ := k ((.thr "if" xs q r s, a, e, true) :: K) V (addK bg a) l (by omega)
  obtain ⟨b2, k2⟩ := k' K V b1 (l - N) (by omega)
  refine ⟨b2, fun f b rr => .go (stp_b _ a e K V bg l) ?_⟩
  simp only [Pg.core, bgn]
  refine k1 f b (.go (stp_f (t := (r, a + 1 + q.pl, e, false) :: K) (v := V) (by simp [Pg.core, fns, chose])) (k2 f b ?_))
  rwa [show l + 1 - (N + M + 1) = l - N - M by omega] at rr
/-- a whole program's run -/
theorem ev_runs {p : Pg} {v : Vl} {N most : Nat} (k : Ev p 0 .nil v N) (h : N ≤ most) : ∃ bg, Runs ⟨[(p, 0, .nil, false)], [], [], most⟩ (.val v) bg := by
  obtain ⟨bg, k1⟩ := k [] [] [] most h
  exact ⟨bg, k1 _ _ (.fin (m := ⟨[], [v], bg, most - N⟩) rfl)⟩
/-! ### programs that tell a value -/
/-- wherever it stands it tells such a value, each place begun at most once -/
def Tells (P : Vl → Prop) (p : Pg) : Prop := ∀ a e, ∃ N v, N ≤ p.pl ∧ v.sz ≤ p.pl ∧ P v ∧ Ev p a e v N
theorem Tells.num {P : Vl → Prop} (i : Int) (h : P (.num i)) : Tells P (.num i) := fun a e => ⟨1, _, Nat.le_refl _, Nat.le_refl _, h, ev_num i a e⟩
theorem Tells.tru {P : Vl → Prop} (i : Bool) (h : P (.tru i)) : Tells P (.truth i) := fun a e => ⟨1, _, Nat.le_refl _, Nat.le_refl _, h, ev_tru i a e⟩
theorem Tells.nil {P : Vl → Prop} (h : P .nil) : Tells P .nil := fun a e => ⟨1, _, Nat.le_refl _, Nat.le_refl _, h, ev_nil a e⟩
theorem Tells.fn {P : Vl → Prop} {xs : List String} {q : Pg} (h : ∀ a e, P (.fn xs q a e)) : Tells P (.one "fn" xs q) := fun a e => ⟨1, .fn xs q (a + 1) e, (Pg.one "fn" xs q).pl_pos, (show 1 ≤ _ from (Pg.one "fn" xs q).pl_pos), h _ _, ev_fn xs q a e⟩
theorem Tells.pr {P Q O : Vl → Prop} {q r : Pg} (h1 : Tells P q) (h2 : Tells Q r) (h : ∀ x y, P x → Q y → O (.pr false x y)) : Tells O (.two "pair" [] q r) := fun a e => by
  obtain ⟨N, x, n1, n2, n3, n4⟩ := h1 (a + 1) e
  obtain ⟨M, y, m1, m2, m3, m4⟩ := h2 (a + 1 + q.pl) e
  exact ⟨N + M + 1, .pr false x y, by simp only [Pg.pl]; omega, by simp only [Pg.pl, Vl.sz]; omega, h _ _ n3 m3, ev_two (by decide) (by decide) n4 m4 (by simp [twoO])⟩
theorem Tells.cons {P Q O : Vl → Prop} {q r : Pg} (h1 : Tells P q) (h2 : Tells Q r) (hq : ∀ y, Q y → y.isList = true) (h : ∀ x y, P x → Q y → O (.pr true x y)) : Tells O (.two "cons" [] q r) := fun a e => by
  obtain ⟨N, x, n1, n2, n3, n4⟩ := h1 (a + 1) e
  obtain ⟨M, y, m1, m2, m3, m4⟩ := h2 (a + 1 + q.pl) e
  exact ⟨N + M + 1, .pr true x y, by simp only [Pg.pl]; omega, by simp only [Pg.pl, Vl.sz]; omega, h _ _ n3 m3, ev_two (by decide) (by decide) n4 m4 (by simp [twoO, consO, hq y m3])⟩
theorem Tells.mono {P Q : Vl → Prop} {p : Pg} (h : Tells P p) (k : ∀ v, P v → Q v) : Tells Q p := fun a e => by
  obtain ⟨N, x, n1, n2, n3, n4⟩ := h a e
  exact ⟨N, x, n1, n2, k _ n3, n4⟩
/-! the same value otherwise -/
theorem Tells.let1 {P : Vl → Prop} {p : Pg} (h : Tells P p) : Tells P (.two "let" ["v"] p (.name "v")) := fun a e => by
  obtain ⟨N, x, n1, n2, n3, n4⟩ := h (a + 1) e
  have k := ev_name "v" (a + 1 + p.pl) (.cons "v" x e)
  simp only [En.look, if_true] at k
  exact ⟨N + 1 + 1, x, by simp only [Pg.pl]; omega, by simp only [Pg.pl]; omega, n3, ev_let n4 k⟩
theorem Tells.call1 {P : Vl → Prop} {p : Pg} (h : Tells P p) : Tells P (.two "call" [] (.one "fn" ["y"] (.name "y")) p) := fun a e => by
  obtain ⟨N, x, n1, n2, n3, n4⟩ := h (a + 1 + (Pg.one "fn" ["y"] (.name "y")).pl) e
  have k := fun c v => ev_name "y" c (callE ["y"] v x e)
  simp only [callE, En.look, if_true] at k
  exact ⟨1 + N + 1 + 1, x, by simp only [Pg.pl]; omega, by simp only [Pg.pl]; omega, n3, ev_call (ev_fn ["y"] (.name "y") (a + 1) e) n4 (k _ .nil)⟩
theorem Tells.if1 {P : Vl → Prop} {p : Pg} (h : Tells P p) : Tells P (.thr "if" [] (.two "less" [] (.num 1) (.num 2)) p .nil) := fun a e => by
  obtain ⟨N, x, n1, n2, n3, n4⟩ := h (a + 1 + (Pg.two "less" [] (.num 1) (.num 2)).pl) e
  have k : Ev (.two "less" [] (.num 1) (.num 2)) (a + 1) e (.tru true) (1 + 1 + 1) := ev_two (by decide) (by decide) (ev_num 1 _ e) (ev_num 2 _ e) (by simp [twoO, lessO])
  exact ⟨1 + 1 + 1 + N + 1, x, by simp only [Pg.pl]; omega, by simp only [Pg.pl]; omega, n3, ev_ifT k n4⟩
theorem Tells.first1 {P : Vl → Prop} {p : Pg} (h : Tells P p) : Tells P (.one "first" [] (.two "pair" [] p (.num 1))) := fun a e => by
  obtain ⟨N, x, n1, n2, n3, n4⟩ := h (a + 1 + 1) e
  exact ⟨N + 1 + 1 + 1, x, by simp only [Pg.pl]; omega, by simp only [Pg.pl]; omega, n3, ev_one (u := .pr false x (.num 1)) (by decide) (by decide) (ev_two (by decide) (by decide) n4 (ev_num 1 _ e) (by simp [twoO])) (by simp [partO, fstO])⟩
theorem Tells.second1 {P : Vl → Prop} {p : Pg} (h : Tells P p) : Tells P (.one "second" [] (.two "pair" [] .nil p)) := fun a e => by
  obtain ⟨N, x, n1, n2, n3, n4⟩ := h (a + 1 + 1 + Pg.nil.pl) e
  exact ⟨1 + N + 1 + 1, x, by simp only [Pg.pl]; omega, by simp only [Pg.pl]; omega, n3, ev_one (u := .pr false .nil x) (by decide) (by decide) (ev_two (by decide) (by decide) (ev_nil _ e) n4 (by simp [twoO])) (by simp [partO, sndO])⟩
theorem Tells.head1 {P : Vl → Prop} {p : Pg} (h : Tells P p) : Tells P (.one "head" [] (.two "cons" [] p .nil)) := fun a e => by
  obtain ⟨N, x, n1, n2, n3, n4⟩ := h (a + 1 + 1) e
  exact ⟨N + 1 + 1 + 1, x, by simp only [Pg.pl]; omega, by simp only [Pg.pl]; omega, n3, ev_one (u := .pr true x .nil) (by decide) (by decide) (ev_two (by decide) (by decide) n4 (ev_nil _ e) (by simp [twoO, consO, Vl.isList])) (by simp [partO, headO])⟩
theorem Tells.twice1 {P : Vl → Prop} {p : Pg} (h : Tells P p) : Tells P (.two "call" [] (.two "call" [] (.one "fn" ["x"] (.one "fn" ["y"] (.name "x"))) p) .nil) := fun a e => by
  obtain ⟨N, x, n1, n2, n3, n4⟩ := h (a + 1 + 1 + (Pg.one "fn" ["x"] (.one "fn" ["y"] (.name "x"))).pl) e
  have k1 := ev_call (ys := []) (ev_fn ["x"] (.one "fn" ["y"] (.name "x")) (a + 1 + 1) e) n4 (ev_fn ["y"] (.name "x") _ _)
  have k2 := ev_call (ys := []) k1 (ev_nil _ e) (ev_name "x" _ _)
  simp only [callE, En.look] at k2
  rw [if_neg (by decide), if_pos trivial] at k2
  exact ⟨_, x, by simp only [Pg.pl]; omega, by simp only [Pg.pl]; omega, n3, k2⟩
end Prog

namespace Prog
open Ir
theorem nv : NameOk "v" := ⟨by decide, by decide, by decide, by decide⟩
/-- a program that tells such a value, with the value's text -/
structure Wq (P : Vl → Prop) (H m : Nat) (p : Pg) (t : String) : Prop where
  g : Gc [] H p
  te : Tells (fun v => P v ∧ v.txt = t) p
  pm : p.pl ≤ m
  len : t.length ≤ 70 * m
abbrev Wo := Wq (fun _ => True)
abbrev Wl := Wq (fun v => v.isList = true)
theorem Wq.mono {P : Vl → Prop} {H m H' m' : Nat} {p : Pg} {t : String} (w : Wq P H m p t) (h : H ≤ H') (k : m ≤ m') : Wq P H' m' p t := ⟨w.g.any h, w.te, Nat.le_trans w.pm k, by have := w.len; omega⟩
theorem Wq.wo {P : Vl → Prop} {H m : Nat} {p : Pg} {t : String} (w : Wq P H m p t) : Wo H m p t := ⟨w.g, w.te.mono fun v h => ⟨trivial, h.2⟩, w.pm, w.len⟩
/-! ### the text of two -/
def jn (w t u : String) : String := "(" ++ (w ++ (" " ++ (t ++ (" " ++ (u ++ ")")))))
theorem jn_pair (t u : String) : "(pair " ++ t ++ " " ++ u ++ ")" = jn "pair" t u := by
  have : "(pair " = "(" ++ ("pair" ++ " ") := by decide
  rw [this, jn]; simp only [String.append_assoc]
theorem jn_cons (t u : String) : "(cons " ++ t ++ " " ++ u ++ ")" = jn "cons" t u := by
  have : "(cons " = "(" ++ ("cons" ++ " ") := by decide
  rw [this, jn]; simp only [String.append_assoc]
theorem jn_len (w t u : String) : (jn w t u).length = 4 + w.length + t.length + u.length := by
  have h1 : "(".length = 1 := rfl
  have h2 : ")".length = 1 := rfl
  have h3 : " ".length = 1 := rfl
  simp only [jn, String.length_append, h1, h2, h3]; omega
theorem add_ss {x y : String} (h : x.length + y.length ≤ LIM) : D.bin .add (.str x) (.str y) = some (.str (x ++ y)) := by
  simp only [D.bin]; rw [if_pos h]
/-- the four sums of two texts and their front -/
theorem cat4 {w t u : String} (hw : w.length = 6) (ht : t.length ≤ 10000) (hu : u.length ≤ 10000) :
    D.bin .add (.str w) (.str t) = some (.str (w ++ t)) ∧ D.bin .add (.str (w ++ t)) (.str " ") = some (.str (w ++ t ++ " ")) ∧
    D.bin .add (.str (w ++ t ++ " ")) (.str u) = some (.str (w ++ t ++ " " ++ u)) ∧ D.bin .add (.str (w ++ t ++ " " ++ u)) (.str ")") = some (.str (w ++ t ++ " " ++ u ++ ")")) := by
  have h2 : ")".length = 1 := rfl
  have h3 : " ".length = 1 := rfl
  refine ⟨add_ss ?_, add_ss ?_, add_ss ?_, add_ss ?_⟩ <;> simp only [String.length_append, h2, h3, LIM_eq] <;> omega
theorem Wq.pr {P Q : Vl → Prop} {H m k : Nat} {p q : Pg} {t u : String} (a : Wq P H m p t) (b : Wq Q H k q u) : Wo (H + 1) (m + k + 1) (.two "pair" [] p q) (jn "pair" t u) := by
  refine ⟨gc_two (by decide) a.g b.g, Tells.pr a.te b.te fun x y hx hy => ⟨trivial, ?_⟩, by have := a.pm; have := b.pm; simp only [Pg.pl]; omega, ?_⟩
  · simp only [Vl.txt, pw, hx.2, hy.2, jn]
  · have := a.len; have := b.len; have h : "pair".length = 4 := rfl
    rw [jn_len, h]; omega
theorem Wq.cn {P : Vl → Prop} {H m k : Nat} {p q : Pg} {t u : String} (a : Wq P H m p t) (b : Wl H k q u) : Wl (H + 1) (m + k + 1) (.two "cons" [] p q) (jn "cons" t u) := by
  refine ⟨gc_two (by decide) a.g b.g, Tells.cons a.te b.te (fun y hy => hy.1) fun x y hx hy => ⟨rfl, ?_⟩, by have := a.pm; have := b.pm; simp only [Pg.pl]; omega, ?_⟩
  · simp only [Vl.txt, pw, hx.2, hy.2, jn]
  · have := a.len; have := b.len; have h : "cons".length = 4 := rfl
    rw [jn_len, h]; omega
theorem Wl.nil : Wl 0 1 .nil "nil" := ⟨gc_nil, Tells.nil ⟨rfl, rfl⟩, Nat.le_refl _, by decide⟩
/-! ### leaves -/
def lf6 (i : Int) : List D := [.tup [.tup [.str "num", .int i], .str (toString i)], .tup [.tup [.str "truth", .bool true], .str "true"], .tup [.tup [.str "truth", .bool false], .str "false"], .tup [.tup [.str "nil"], .str "nil"],
  .tup [.tup [.str "fn", .str "x", .tup [.str "name", .str "x"]], .str "fn"], .tup [.tup [.str "num", .int i], .str (toString i)]]
theorem lf6_ok {i : Int} (h : i.natAbs < 10 ^ 60) {x : D} (hx : x ∈ lf6 i) : ∃ p t, x = .tup [p.d, .str t] ∧ Wo 1 2 p t := by
  have hn : Wo 1 2 (.num i) (toString i) := ⟨gc_num h, Tells.num i ⟨trivial, rfl⟩, by simp [Pg.pl], by have := str_60 h; omega⟩
  simp only [lf6, List.mem_cons, List.not_mem_nil, or_false] at hx
  rcases hx with rfl | rfl | rfl | rfl | rfl | rfl
  · exact ⟨_, _, rfl, hn⟩
  · exact ⟨.truth true, _, rfl, gc_tru, Tells.tru true ⟨trivial, rfl⟩, by simp [Pg.pl], by decide⟩
  · exact ⟨.truth false, _, rfl, gc_tru, Tells.tru false ⟨trivial, rfl⟩, by simp [Pg.pl], by decide⟩
  · exact ⟨.nil, _, rfl, Wl.nil.wo.mono (by omega) (by omega)⟩
  · exact ⟨.one "fn" ["x"] (.name "x"), _, rfl, gc_fn nx (gc_nm nx (by simp)), Tells.fn fun a e => ⟨trivial, rfl⟩, by simp [Pg.pl], by decide⟩
  · exact ⟨_, _, rfl, hn⟩
theorem lf6_add (i : Int) : D.bin .add (.lst [.tup [.tup [.str "num", .int i], .str (toString i)], .tup [.tup [.str "truth", .bool true], .str "true"], .tup [.tup [.str "truth", .bool false], .str "false"], .tup [.tup [.str "nil"], .str "nil"]])
    (.lst [.tup [.tup [.str "fn", .str "x", .tup [.str "name", .str "x"]], .str "fn"], .tup [.tup [.str "num", .int i], .str (toString i)]]) = some (.lst (lf6 i)) := by
  simp only [D.bin]
  rw [if_pos (by rw [LIM_eq]; simp)]
  rfl
set_option maxHeartbeats 4000000 in
theorem wleaf {n : Nat} {st : Store} {pp : Post Out} {L : List Stm} (hL : Stm.ite (.or (.cmp .lt (.var 1) (.con (.int 3))) (.cmp .lt (.var 2) (.con (.int 3)))) L [] = f_law_worth.body.getD 1 .pass) (hB : Bag st 1) (hn : 2 ≤ n) {x1 x2 x3 x4 x5 x6 x7 x8 x9 x10 x11 : Option Val}
    (k : ∀ p t s, Wo 1 2 p t → Bag s 1 → Kp 1 st s → pp.q (.ret (.d (.tup [p.d, .str t]))) s) : @Wp _ (execs (callN T n) L [some (.ref 1), x1, x2, x3, x4, x5, x6, x7, x8, x9, x10, x11] st) pp := by
  simp [f_law_worth] at hL
  subst hL
  have hp10 : bigOk 10 = true := pow_lits.1
  have hp60 : bigOk (10 ^ 60) = true := pow_lits.2.1
  have hpw : D.bin .pow (.int 10) (.int 60) = some (.int (10 ^ 60)) := by simp [D.bin, hp10]
  simp
  refine draw_wp hB (by decide) (by decide +kernel) (by omega) fun a s1 a0 a1 hB1 k1 => ?_
  simp [deref, sub_ii, hpw]
  refine draw_wp hB1 (by decide) hp60 (by omega) fun b s2 b0 b1 hB2 k2 => ?_
  simp [deref, hpw]
  refine draw_wp hB2 (by decide) hp60 (by omega) fun c s3 c0 c1 hB3 k3 => ?_
  simp [deref, sub_ii, asDs]
  refine draw_wp hB3 (by decide) (by decide +kernel) (by omega) fun d s4 d0 d1 hB4 k4 => ?_
  obtain ⟨x, hx, e1⟩ := ix_mem (l := [.int (a - 5), .int b, .int (1 - c)]) d0 (by simpa using d1)
  obtain ⟨i, rfl, hi⟩ : ∃ i, x = .int i ∧ i.natAbs < 10 ^ 60 := by
    have hbig : (1000 : Nat) < 10 ^ 60 := by decide
    have up : ∀ z : Int, 0 ≤ z → z < 10 ^ 60 → z.natAbs < 10 ^ 60 := fun z h0 h1 => by
      have h2 : ((z.natAbs : Nat) : Int) < ((10 ^ 60 : Nat) : Int) := by rw [show ((10 ^ 60 : Nat) : Int) = (10 : Int) ^ 60 by decide]; omega
      exact Int.ofNat_lt.mp h2
    simp only [List.mem_cons, List.not_mem_nil, or_false] at hx
    rcases hx with rfl | rfl | rfl
    · exact ⟨_, rfl, by omega⟩
    · exact ⟨_, rfl, up b b0 b1⟩
    · refine ⟨_, rfl, ?_⟩
      have := up c c0 c1
      omega
  have hs : ∀ s, bltV .str [.d (.int i)] s = .ok (.d (.str (toString i))) s := fun s => by
    have : D.bStr [.int i] = some (.str (toString i)) := by simp only [D.bStr]; rw [if_pos (log_60 hi)]
    simp [bltV, lenDic, bltD, derefs, deref, D.blt, this]
  have ha := lf6_add i
  generalize toString i = ti at hs ha
  simp -implicitDefEqProofs [ivd, e1, Tg.putV, hs, asDs, deref, ha]
  refine draw_wp hB4 (by decide) (by decide +kernel) (by omega) fun z s5 z0 z1 hB5 k5 => ?_
  obtain ⟨y, hy, e2⟩ := ix_mem (l := lf6 i) z0 (by simpa [lf6] using z1)
  obtain ⟨p, t, rfl, hw⟩ := lf6_ok hi hy
  simp [ivd, e2]
  exact k p t s5 hw hB5 ((((k1.trans k2).trans k3).trans k4).trans k5)
set_option maxHeartbeats 4000000 in
theorem worth_wp : ∀ (left : Nat), 1 ≤ left → left ≤ 30 → ∀ {n : Nat} {st : Store} {pp : Post Val}, left + 4 ≤ n → Bag st 1 → (∀ p t s, Wo left (2 * left) p t → Bag s 1 → Kp 1 st s → pp.q (.d (.tup [p.d, .str t])) s) →
    @Wp _ (callN T n "_law_worth" [.ref 1, .d (.int (left : Nat))] st) pp := by
  intro left
  induction left using Nat.strongRecOn with
  | ind left ih =>
  intro l1 l2 n st pp hn hB k
  obtain ⟨n, rfl⟩ : ∃ n', n = n' + 1 := ⟨n - 1, by omega⟩
  rw [callN_run T_f_law_worth]
  obtain ⟨L, hL⟩ : ∃ L, Stm.ite (.or (.cmp .lt (.var 1) (.con (.int 3))) (.cmp .lt (.var 2) (.con (.int 3)))) L [] = f_law_worth.body.getD 1 .pass := ⟨_, rfl⟩
  obtain ⟨R, hR⟩ : ∃ R, f_law_worth.body.drop 2 = R := ⟨_, rfl⟩
  have eb : f_law_worth.body = [f_law_worth.body.getD 0 .pass, .ite (.or (.cmp .lt (.var 1) (.con (.int 3))) (.cmp .lt (.var 2) (.con (.int 3)))) L []] ++ R := by rw [hL, ← hR]; rfl
  simp only [w_runFn]
  refine ⟨⟨rfl, by decide⟩, ?_⟩
  rw [eb]
  simp [f_law_worth]
  refine draw_wp hB (by decide) (by decide) (by omega) fun d s1 d0 d1 hB1 k1 => ?_
  have h1 : ∀ s, cmpV .lt s (.d (.int (left : Nat))) (.d (.int 3)) = some (decide (left < 3)) := fun s => by
    have : ((left : Int) < 3) = (left < 3) := by simp; omega
    simp only [cmpV, deref, ci_lt, this]
  have h2 : ∀ s, cmpV .lt s (.d (.int d)) (.d (.int 3)) = some (decide (d < 3)) := fun _ => rfl
  have h6 : ∀ s, cmpV .lt s (.d (.int d)) (.d (.int 6)) = some (decide (d < 6)) := fun _ => rfl
  by_cases c1 : left < 3
  · rw [decide_eq_true c1] at h1
    simp [Tg.putV, h1, asB]
    refine wleaf hL hB1 (by omega) fun p t s hw hB2 k2 => ?_
    simp [leave, (k1.trans k2).take]
    exact k p t s (hw.mono l1 (by omega)) hB2 (k1.trans k2)
  rw [decide_eq_false c1] at h1
  by_cases c2 : d < 3
  · rw [decide_eq_true c2] at h2
    simp [Tg.putV, h1, h2, asB]
    refine wleaf hL hB1 (by omega) fun p t s hw hB2 k2 => ?_
    simp [leave, (k1.trans k2).take]
    exact k p t s (hw.mono l1 (by omega)) hB2 (k1.trans k2)
  rw [decide_eq_false c2] at h2
  have big2 : bigOk 2 = true := by decide
  have big4 : bigOk 4 = true := by decide
  obtain ⟨lh, elh⟩ : ∃ lh, lh = left / 2 := ⟨_, rfl⟩
  obtain ⟨lq, elq⟩ : ∃ lq, lq = left / 4 := ⟨_, rfl⟩
  obtain ⟨ld, eld⟩ : ∃ ld, ld = left - 1 := ⟨_, rfl⟩
  obtain ⟨lr, elr⟩ : ∃ lr, lr = left - 1 - lh := ⟨_, rfl⟩
  obtain ⟨mx, emx⟩ : ∃ mx, mx = max 1 lq := ⟨_, rfl⟩
  have f2 : D.bin .fdiv (.int (left : Nat)) (.int 2) = some (.int (lh : Nat)) := by rw [elh]; simp [D.bin, big2]
  have f4 : D.bin .fdiv (.int (left : Nat)) (.int 4) = some (.int (lq : Nat)) := by rw [elq]; simp [D.bin, big4]
  have g1 : D.bin .sub (.int (left : Nat)) (.int 1) = some (.int (ld : Nat)) := by rw [sub_ii, eld]; congr 2; omega
  have g2 : D.bin .sub (.int (ld : Nat)) (.int (lh : Nat)) = some (.int (lr : Nat)) := by rw [sub_ii, elr, eld]; congr 2; omega
  simp [Tg.putV, h1, h2, asB]
  rw [← hR]
  simp [f_law_worth, deref, f2]
  refine ih lh (by omega) (by omega) (by omega) (by omega) hB1 fun p t s2 hw hB2 k2 => ?_
  have htl : t.length ≤ 10000 := by have := hw.len; omega
  by_cases c3 : d < 6
  · rw [decide_eq_true c3] at h6
    simp [Tg.putV, Tg.puts, Tg.put, h6, asB, deref, g1, f2, g2]
    refine ih lr (by omega) (by omega) (by omega) (by omega) hB2 fun q u s3 hq hB3 k3 => ?_
    obtain ⟨a1, a2, a3, a4⟩ := cat4 (w := "(pair ") rfl htl (u := u) (by have := hq.len; omega)
    rw [jn_pair] at a4
    simp -implicitDefEqProofs [Tg.putV, Tg.puts, Tg.put, asDs, deref, a1, a2, a3, a4, leave, ((k1.trans k2).trans k3).take]
    refine k (.two "pair" [] p q) (jn "pair" t u) s3 ?_ hB3 ((k1.trans k2).trans k3)
    exact (((hw.mono (H' := left - 1) (by omega) (Nat.le_refl _)).pr (hq.mono (H' := left - 1) (by omega) (Nat.le_refl _))).mono (by omega) (by omega))
  rw [decide_eq_false c3] at h6
  have hmx : ∀ s, bltV .max [.d (.int 1), .d (.int (lq : Nat))] s = .ok (.d (.int (mx : Nat))) s := fun s => by
    have : D.bMax [.int 1, .int (lq : Nat)] = some (.int (mx : Nat)) := by
      simp only [D.bMax]; congr 2; split <;> omega
    simp only [bltV, lenDic, bltD, derefs, deref, D.blt, List.mapM_cons, List.mapM_nil]
    simp [this]
  obtain ⟨R2, hR2⟩ : ∃ R2, f_law_worth.body.drop 6 = R2 := ⟨_, rfl⟩
  simp [Tg.putV, Tg.puts, Tg.put, h6, asB, asDs, deref, f4, hmx]
  refine draw_wp (many := (mx : Nat)) hB2 (by omega) (big_of (by omega) (by omega)) (by omega) fun m s3 m0 m1 hB3 k3 => ?_
  have hr : ∀ s, bltV .range [.d (.int m)] s = .ok (.d (.lst (rangeL 0 m.toNat))) s := fun s => by
    have := bRange_nat (n := m.toNat) (by simp only [LIM_eq]; omega)
    rw [show ((m.toNat : Nat) : Int) = m by omega] at this
    simp [bltV, lenDic, bltD, derefs, deref, D.blt, this]
  have hlen : (rangeL 0 m.toNat).length = m.toNat := rangeL_len _
  simp [hr, asD, D.seq]
  refine wp_loop (fun xs σ s => ∃ (q : Pg) (u : String) (j : Nat) (x7 x10 x11 : Option Val), σ = [some (.ref 1), some (.d (.int (left : Nat))), some (.d (.int d)), some (.d p.d), some (.d (.str t)), some (.d q.d), some (.d (.str u)), x7, none, none, x10, x11] ∧ j + xs.length = m.toNat ∧ Wl (j + 1) (3 * j + 1) q u ∧ Bag s 1 ∧ Kp 1 st s) ?_ ?_ _ _ _ ⟨.nil, "nil", 0, none, none, none, rfl, by omega, Wl.nil.mono (by omega) (by omega), hB3, (k1.trans k2).trans k3⟩
  · rintro x xs σ s ⟨q, u, j, x7, x10, x11, rfl, hj, hq, hB4, k4⟩
    refine ⟨[some (.ref 1), some (.d (.int (left : Nat))), some (.d (.int d)), some (.d p.d), some (.d (.str t)), some (.d q.d), some (.d (.str u)), some (.d x), none, none, x10, x11], rfl, ?_⟩
    simp [f_law_worth_b0]
    simp at hj
    refine ih 1 (by omega) (by omega) (by omega) (by omega) hB4 fun p1 t1 s4 hw1 hB5 k5 => ?_
    obtain ⟨a1, a2, a3, a4⟩ := cat4 (w := "(cons ") rfl (t := t1) (by have := hw1.len; omega) (u := u) (by have := hq.len; omega)
    rw [jn_cons] at a4
    simp -implicitDefEqProofs [Tg.putV, Tg.puts, Tg.put, asDs, deref, a1, a2, a3, a4]
    refine ⟨.two "cons" [] p1 q, jn "cons" t1 u, ⟨rfl, rfl⟩, j + 1, by omega, ?_, hB5, k4.trans k5⟩
    exact ((hw1.mono (H' := j + 1) (by omega) (Nat.le_refl _)).cn hq).mono (by omega) (by omega)
  · rintro σ s ⟨q, u, j, x7, x10, x11, rfl, hj, hq, hB4, k4⟩
    simp at hj
    obtain ⟨a1, a2, a3, a4⟩ := cat4 (w := "(cons ") rfl htl (u := u) (by have := hq.len; omega)
    rw [jn_cons] at a4
    simp -implicitDefEqProofs [asDs, deref, a1, a2, a3, a4, leave, k4.take]
    refine k (.two "cons" [] p q) (jn "cons" t u) s ?_ hB4 k4
    exact (((hw.mono (H' := left - 1) (by omega) (Nat.le_refl _)).cn (hq.mono (H' := left - 1) (by omega) (Nat.le_refl _))).wo.mono (by omega) (by omega))
end Prog

namespace Prog
open Ir
/-- the same value otherwise -/
def told8 (p : Pg) : List Pg := [p, .two "let" ["v"] p (.name "v"), .two "call" [] (.one "fn" ["y"] (.name "y")) p, .thr "if" [] (.two "less" [] (.num 1) (.num 2)) p .nil, .one "first" [] (.two "pair" [] p (.num 1)),
  .one "second" [] (.two "pair" [] .nil p), .one "head" [] (.two "cons" [] p .nil), .two "call" [] (.two "call" [] (.one "fn" ["x"] (.one "fn" ["y"] (.name "x"))) p) .nil]
theorem told8_ok {H m : Nat} {p : Pg} {t : String} (w : Wo H m p t) (h3 : 3 ≤ H) {q : Pg} (hq : q ∈ told8 p) : Wo (H + 2) (m + 6) q t := by
  have g := w.g
  have hm := w.pm
  have hl := w.len
  have hy : ∀ K, 1 ≤ K → Gc [] K (.one "fn" ["y"] (.name "y")) := fun K hK => (gc_fn (H := 0) ny (gc_nm ny (by simp))).any hK
  simp only [told8, List.mem_cons, List.not_mem_nil, or_false] at hq
  rcases hq with rfl | rfl | rfl | rfl | rfl | rfl | rfl | rfl
  · exact w.mono (by omega) (by omega)
  · exact ⟨(gc_let nv g (gc_nm nv (by simp))).any (by omega), w.te.let1, by simp only [Pg.pl]; omega, by omega⟩
  · exact ⟨(gc_two (by decide) (hy H (by omega)) g).any (by omega), w.te.call1, by simp only [Pg.pl]; omega, by omega⟩
  · exact ⟨(gc_if ((gc_two (H := 0) (by decide) (gc_num (by decide)) (gc_num (by decide))).any (K := H) (by omega)) g gc_nil).any (by omega), w.te.if1, by simp only [Pg.pl]; omega, by omega⟩
  · exact ⟨(gc_one (by decide) (gc_two (by decide) g (gc_num (by decide)))).any (by omega), w.te.first1, by simp only [Pg.pl]; omega, by omega⟩
  · exact ⟨(gc_one (by decide) (gc_two (by decide) gc_nil g)).any (by omega), w.te.second1, by simp only [Pg.pl]; omega, by omega⟩
  · exact ⟨(gc_one (by decide) (gc_two (by decide) g gc_nil)).any (by omega), w.te.head1, by simp only [Pg.pl]; omega, by omega⟩
  · exact ⟨gc_two (by decide) (gc_two (by decide) ((gc_fn (H := 1) nx (gc_fn (H := 0) ny (gc_nm nx (by simp)))).any (K := H) (by omega)) g) gc_nil, w.te.twice1, by simp only [Pg.pl]; omega, by omega⟩
theorem app_d {s : Store} {l : List D} {x : D} (h : l.length ≤ 20) : mAppend s.length (s ++ [.lst l]) [.d x] = .ok (.d .non) (s ++ [.lst (l ++ [x])]) := by
  simp only [mAppend, get_push]; rw [if_pos (by rw [LIM_eq]; omega), set_push]
set_option maxHeartbeats 4000000 in
theorem told_wp {n : Nat} {st : Store} {pp : Post Val} {H m : Nat} {p : Pg} {t : String} (w : Wo H m p t) (h3 : 3 ≤ H) (hB : Bag st 1) (hn : 3 ≤ n) (k : ∀ q s, Wo (H + 2) (m + 6) q t → Bag s 1 → Kp 1 st s → pp.q (.d q.d) s) :
    @Wp _ (callN T n "_law_told_otherwise" [.ref 1, .d p.d] st) pp := by
  obtain ⟨n, rfl⟩ : ∃ n', n = n' + 1 := ⟨n - 1, by omega⟩
  have hlt := hB.lt
  have key : ∀ q ∈ told8 p, Wo (H + 2) (m + 6) q t := fun q hq => told8_ok w h3 hq
  have hd : (told8 p).map Pg.d = [p.d, .tup [.str "let", .str "v", p.d, .tup [.str "name", .str "v"]], .tup [.str "call", .tup [.str "fn", .str "y", .tup [.str "name", .str "y"]], p.d],
    .tup [.str "if", .tup [.str "less", .tup [.str "num", .int 1], .tup [.str "num", .int 2]], p.d, .tup [.str "nil"]], .tup [.str "first", .tup [.str "pair", p.d, .tup [.str "num", .int 1]]],
    .tup [.str "second", .tup [.str "pair", .tup [.str "nil"], p.d]], .tup [.str "head", .tup [.str "cons", p.d, .tup [.str "nil"]]],
    .tup [.str "call", .tup [.str "call", .tup [.str "fn", .str "x", .tup [.str "fn", .str "y", .tup [.str "name", .str "x"]]], p.d], .tup [.str "nil"]]] := rfl
  have hlen : (told8 p).length = 8 := rfl
  generalize told8 p = qs at key hd hlen
  rw [callN_run T_f_law_told_otherwise]
  simp [f_law_told_otherwise]
  refine draw_wp hB (by decide) (by decide) (by omega) fun d s1 d0 d1 hB1 k1 => ?_
  have l8 : 8 ≤ LIM := by rw [LIM_eq]; decide
  have ll : s1.length = st.length := k1.1
  obtain ⟨x, hx, e1⟩ := ix_mem (l := qs.map Pg.d) d0 (by simp [hlen]; omega)
  obtain ⟨q, hq, rfl⟩ := List.mem_map.mp hx
  rw [hd] at e1
  generalize p.d = pd at e1
  generalize hqd : q.d = qd at e1
  simp -implicitDefEqProofs [Tg.putV, Tg.put, Tg.puts, Tg.putF_eq, setAll, Tg.slots, Tg.slotss, wipe, indexV, cmpV, deref, asB, asD, asDs, asI, bltV, lenDic, bltD, derefs, D.blt, D.bLen, D.bTuple, D.bList, D.seq, mthV, mthOk, setV, ci_eq, ci_ne, ci_lt, ci_le, ci_gt, ci_ge, cs_eq, cs_ne, cb_eq, cb_ne, D.bin, isNon, asDs, e1, app_d]
  rw [List.take_append_of_le_length (by omega), List.take_of_length_le (by omega), ← hqd]
  exact k q s1 (key q hq) hB1 k1
end Prog

namespace Prog
open Ir
/-! ### the places of a program -/
structure Spot where
  path : List Nat
  pg : Pg
  off : Bool
def Pg.go : Pg → Bool → List Nat → List Nat → List Spot
  | .off p, false, path, deeper => p.go true path (deeper ++ [1])
  | .off p, true, path, deeper => ⟨path, .off p, true⟩ :: p.go false (deeper ++ [1]) (deeper ++ [1])
  | .one h xs p, b, path, deeper => ⟨path, .one h xs p, b⟩ :: p.go false (deeper ++ [xs.length + 1]) (deeper ++ [xs.length + 1])
  | .two h xs p q, b, path, deeper => ⟨path, .two h xs p q, b⟩ :: (p.go false (deeper ++ [xs.length + 1]) (deeper ++ [xs.length + 1]) ++ q.go false (deeper ++ [xs.length + 2]) (deeper ++ [xs.length + 2]))
  | .thr h xs p q r, b, path, deeper => ⟨path, .thr h xs p q r, b⟩ :: (p.go false (deeper ++ [xs.length + 1]) (deeper ++ [xs.length + 1]) ++ (q.go false (deeper ++ [xs.length + 2]) (deeper ++ [xs.length + 2]) ++ r.go false (deeper ++ [xs.length + 3]) (deeper ++ [xs.length + 3])))
  | p, b, path, _ => [⟨path, p, b⟩]
def natsD (l : List Nat) : List D := l.map fun k => .int (k : Nat)
def Spot.d (s : Spot) : D := .tup [.tup (natsD s.path), s.pg.d, .bool s.off]
end Prog

namespace Prog
open Ir
end Prog

namespace Prog
open Ir
/-- the parts of a program, with their numbers -/
def Pg.kids : Pg → List (Nat × Pg)
  | .one _ xs p => [(xs.length + 1, p)]
  | .two _ xs p q => [(xs.length + 1, p), (xs.length + 2, q)]
  | .thr _ xs p q r => [(xs.length + 1, p), (xs.length + 2, q), (xs.length + 3, r)]
  | .off p => [(1, p)]
  | _ => []
def Pg.xs : Pg → List String
  | .one _ xs _ | .two _ xs _ _ | .thr _ xs _ _ _ => xs
  | _ => []
def Pg.hd : Pg → String
  | .num _ => "num" | .truth _ => "truth" | .name _ => "name" | .nil => "nil" | .off _ => "off"
  | .one h _ _ | .two h _ _ _ | .thr h _ _ _ _ => h
end Prog

namespace Prog
open Ir
/-! ### places put off and on -/
def wrapO (b : Bool) (p : Pg) : Pg := if b then .off p else p
/-- just some places off, numbered from a number on -/
def Pg.setO (S : Nat → Bool) : Nat → Pg → Pg
  | k, .off p => p.setO S k
  | k, .one h xs p => wrapO (S k) (.one h xs (p.setO S (k + 1)))
  | k, .two h xs p q => wrapO (S k) (.two h xs (p.setO S (k + 1)) (q.setO S (k + 1 + p.pl)))
  | k, .thr h xs p q r => wrapO (S k) (.thr h xs (p.setO S (k + 1)) (q.setO S (k + 1 + p.pl)) (r.setO S (k + 1 + p.pl + q.pl)))
  | k, p => wrapO (S k) p
def Pg.pre : Pg → List D
  | .num i => [.int i]
  | .truth b => [.bool b]
  | .name x => [.str x]
  | .one _ xs _ | .two _ xs _ _ | .thr _ xs _ _ _ => xs.map .str
  | _ => []
def Pg.kd (p : Pg) : List Pg := p.kids.map (·.2)
/-! ### what setO does -/
end Prog

namespace Prog
open Ir
/-! ### another tuple at a place -/
end Prog

namespace Prog
open Ir
end Prog

namespace Prog
open Ir
/-- a program put in at a place -/
def Pg.putN : Pg → Nat → Pg → Pg
  | .off p, k, r => if k = 0 then r else .off (p.putN k r)
  | .one h xs p, k, r => if k = 0 then r else .one h xs (p.putN (k - 1) r)
  | .two h xs p q, k, r => if k = 0 then r else if k ≤ p.pl then .two h xs (p.putN (k - 1) r) q else .two h xs p (q.putN (k - 1 - p.pl) r)
  | .thr h xs p q s, k, r => if k = 0 then r else if k ≤ p.pl then .thr h xs (p.putN (k - 1) r) q s else if k ≤ p.pl + q.pl then .thr h xs p (q.putN (k - 1 - p.pl) r) s else .thr h xs p q (s.putN (k - 1 - p.pl - q.pl) r)
  | _, _, r => r
end Prog

namespace Prog
open Ir
/-! ### which places are off -/
def Pg.fl : Pg → List Bool
  | .off p => true :: p.fl.tail
  | .one _ _ p => false :: p.fl
  | .two _ _ p q => false :: (p.fl ++ q.fl)
  | .thr _ _ p q r => false :: (p.fl ++ (q.fl ++ r.fl))
  | _ => [false]
/-! ### setO -/
end Prog

namespace Prog
open Ir
/-! ### the parts at the places -/
def Pg.pgs : Pg → List Pg
  | .off p => p.pgs
  | .one h xs p => .one h xs p :: p.pgs
  | .two h xs p q => .two h xs p q :: (p.pgs ++ q.pgs)
  | .thr h xs p q r => .thr h xs p q r :: (p.pgs ++ (q.pgs ++ r.pgs))
  | p => [p]
/-- a part by its number -/
def Pg.at (p : Pg) (k : Nat) : Pg := p.pgs.getD k .nil
/-- what a change at a place does, at once -/
structure PutR (p : Pg) (k : Nat) (r : Pg) : Prop where
  pl : (p.putN k r).pl + (p.at k).pl = p.pl + r.pl
  le : k + (p.at k).pl ≤ p.pl
  pgs : (p.putN k r).pgs.drop k = r.pgs ++ p.pgs.drop (k + (p.at k).pl)
  fl : (p.putN k r).fl = p.fl.take k ++ (r.fl ++ p.fl.drop (k + (p.at k).pl))
/-- more names bound -/
theorem cl_mono : ∀ (p : Pg) (e f : List String), (∀ x ∈ e, x ∈ f) → p.cl e = true → p.cl f = true
  | .num _, _, _, _, _ | .truth _, _, _, _, _ | .nil, _, _, _, _ => rfl
  | .name x, e, f, h, c => by simp only [Pg.cl, decide_eq_true_eq] at c ⊢; exact h x c
  | .off p, e, f, h, c => cl_mono p e f h c
  | .one _ xs p, e, f, h, c => cl_mono p (e ++ xs) (f ++ xs) (fun x hx => by simp only [List.mem_append] at hx ⊢; exact hx.imp (h x) id) c
  | .two _ xs p q, e, f, h, c => by
    simp only [Pg.cl, Bool.and_eq_true] at c ⊢
    exact ⟨cl_mono p e f h c.1, cl_mono q (e ++ xs) (f ++ xs) (fun x hx => by simp only [List.mem_append] at hx ⊢; exact hx.imp (h x) id) c.2⟩
  | .thr _ xs p q r, e, f, h, c => by
    simp only [Pg.cl, Bool.and_eq_true] at c ⊢
    exact ⟨⟨cl_mono p e f h c.1.1, cl_mono q e f h c.1.2⟩, cl_mono r e f h c.2⟩
end Prog

namespace Prog
open Ir
set_option maxHeartbeats 2000000 in
theorem alike_tup {T : Tab} (hT : T "_law_alike" = some f_law_alike) {n : Nat} {st : Store} {xs : List D} (hl : xs.length ≤ LIM) (h : ∀ x ∈ xs, callN T n "_law_alike" [.d x, .d x] st = .ok (.d (.bool true)) st) :
    callN T (n + 1) "_law_alike" [.d (.tup xs), .d (.tup xs)] st = .ok (.d (.bool true)) st := by
  have ec := comp_const (f := compStep (eval (callN T n) (.call "_law_alike" [.idx (.var 0) (.var 2), .idx (.var 1) (.var 2)])) (conds (callN T n) []) (.name 2) [some (.d (.tup xs)), some (.d (.tup xs)), none]) (st := st) (fun i : Nat => D.int i) (fun _ => D.bool true) (List.range xs.length) (fun i hi => by
    have hi := List.mem_range.mp hi
    simp [compStep, Tg.put, indexV, D.index, atI_of hi, h _ (List.getElem_mem hi), asD])
  rw [callN_run hT]
  simp [runFn, f_law_alike, deref, D.tyOk, asB, cmpV, D.cmp, fine, D.dep, D.eqv, bltV, lenDic, bltD, derefs, D.blt, D.bLen, bRange_nat hl, asD, D.seq, Tg.slots, wipe, range_nat, ec, all_true, leave]
theorem alike_str {T : Tab} (hT : T "_law_alike" = some f_law_alike) {n : Nat} {st : Store} {x : String} : callN T (n + 1) "_law_alike" [.d (.str x), .d (.str x)] st = .ok (.d (.bool true)) st := by
  rw [callN_run hT]
  simp [runFn, f_law_alike, deref, D.tyOk, asB, cmpV, D.cmp, fine, D.dep, D.eqv, leave]
theorem alike_int {T : Tab} (hT : T "_law_alike" = some f_law_alike) {n : Nat} {st : Store} {x : Int} : callN T (n + 1) "_law_alike" [.d (.int x), .d (.int x)] st = .ok (.d (.bool true)) st := by
  rw [callN_run hT]
  simp [runFn, f_law_alike, deref, D.tyOk, asB, cmpV, D.cmp, fine, D.dep, D.eqv, leave]
mutual
/-- data that may be asked for likeness -/
def okA : D → Prop
  | .non => True
  | .bool _ => True
  | .int _ => True
  | .str _ => True
  | .tup xs => xs.length ≤ LIM ∧ okAs xs
  | .lst xs => xs.length ≤ LIM ∧ okAs xs
  | .ro _ => False
  | .oid _ => False
  | .fn _ => False
  | .exn _ _ _ => False
def okAs : List D → Prop
  | [] => True
  | x :: xs => okA x ∧ okAs xs
end
set_option maxHeartbeats 2000000 in
theorem alike_lst {n : Nat} {st : Store} {xs : List D} (hl : xs.length ≤ LIM) (h : ∀ x ∈ xs, callN T n "_law_alike" [.d x, .d x] st = .ok (.d (.bool true)) st) :
    callN T (n + 1) "_law_alike" [.d (.lst xs), .d (.lst xs)] st = .ok (.d (.bool true)) st := by
  have ec := comp_const (f := compStep (eval (callN T n) (.call "_law_alike" [.idx (.var 0) (.var 2), .idx (.var 1) (.var 2)])) (conds (callN T n) []) (.name 2) [some (.d (.lst xs)), some (.d (.lst xs)), none]) (st := st) (fun i : Nat => D.int i) (fun _ => D.bool true) (List.range xs.length) (fun i hi => by
    have hi := List.mem_range.mp hi
    simp [compStep, Tg.put, indexV, D.index, atI_of hi, h _ (List.getElem_mem hi), asD])
  rw [callN_run T_f_law_alike]
  simp [runFn, f_law_alike, deref, D.tyOk, asB, cmpV, D.cmp, fine, D.dep, D.eqv, bltV, lenDic, bltD, derefs, D.blt, D.bLen, bRange_nat hl, asD, D.seq, Tg.slots, wipe, range_nat, ec, all_true, leave]
theorem alike_bool {n : Nat} {st : Store} {x : Bool} : callN T (n + 1) "_law_alike" [.d (.bool x), .d (.bool x)] st = .ok (.d (.bool true)) st := by
  rw [callN_run T_f_law_alike]
  simp [runFn, f_law_alike, deref, D.tyOk, asB, cmpV, D.cmp, fine, D.dep, D.eqv, leave]
theorem alike_non {n : Nat} {st : Store} : callN T (n + 1) "_law_alike" [.d .non, .d .non] st = .ok (.d (.bool true)) st := by
  rw [callN_run T_f_law_alike]
  simp [runFn, f_law_alike, deref, D.tyOk, asB, cmpV, D.cmp, fine, D.dep, D.eqv, leave]
mutual
theorem alike_same {st : Store} : ∀ (x : D), okA x → ∀ n, x.dep + 1 ≤ n → callN T n "_law_alike" [.d x, .d x] st = .ok (.d (.bool true)) st
  | .non, _, n, hn => by
    obtain ⟨n, rfl⟩ : ∃ n', n = n' + 1 := ⟨n - 1, by omega⟩
    exact alike_non
  | .bool b, _, n, hn => by
    obtain ⟨n, rfl⟩ : ∃ n', n = n' + 1 := ⟨n - 1, by omega⟩
    exact alike_bool
  | .int i, _, n, hn => by
    obtain ⟨n, rfl⟩ : ∃ n', n = n' + 1 := ⟨n - 1, by omega⟩
    exact alike_int T_f_law_alike
  | .str s, _, n, hn => by
    obtain ⟨n, rfl⟩ : ∃ n', n = n' + 1 := ⟨n - 1, by omega⟩
    exact alike_str T_f_law_alike
  | .tup xs, h, n, hn => by
    obtain ⟨n, rfl⟩ : ∃ n', n = n' + 1 := ⟨n - 1, by omega⟩
    simp only [D.dep] at hn
    simp only [okA] at h
    exact alike_tup T_f_law_alike h.1 (alike_sames xs h.2 n (by omega))
  | .lst xs, h, n, hn => by
    obtain ⟨n, rfl⟩ : ∃ n', n = n' + 1 := ⟨n - 1, by omega⟩
    simp only [D.dep] at hn
    simp only [okA] at h
    exact alike_lst h.1 (alike_sames xs h.2 n (by omega))
  | .ro xs, h, n, hn => by simp [okA] at h
  | .oid xs, h, n, hn => by simp [okA] at h
  | .fn xs, h, n, hn => by simp [okA] at h
theorem alike_sames {st : Store} : ∀ (xs : List D), okAs xs → ∀ n, D.depAll xs + 1 ≤ n → ∀ x ∈ xs, callN T n "_law_alike" [.d x, .d x] st = .ok (.d (.bool true)) st
  | [], _, n, hn, x, hx => by cases hx
  | y :: ys, h, n, hn, x, hx => by
    simp only [D.depAll] at hn
    simp only [okAs] at h
    rcases List.mem_cons.mp hx with e | hx
    · rw [e]; exact alike_same y h.1 n (by omega)
    · exact alike_sames ys h.2 n (by omega) x hx
end
end Prog

namespace Prog
open Ir
theorem insI_perm (i : Int) : ∀ l : List Int, (insI i l).Perm (i :: l)
  | [] => .refl _
  | j :: l => by
    simp only [insI]
    split
    · exact .refl _
    · exact ((insI_perm i l).cons j).trans (.swap i j l)
theorem sortI_perm' : ∀ l : List Int, (sortI l).Perm l
  | [] => .refl _
  | i :: l => (insI_perm i _).trans ((sortI_perm' l).cons i)
theorem okA_ints (l : List Int) : okAs (l.map .int) ∧ D.depAll (l.map .int) ≤ 1 := by
  induction l with
  | nil => exact ⟨trivial, by simp [D.depAll]⟩
  | cons i l ih => exact ⟨⟨trivial, ih.1⟩, by have := ih.2; simp only [List.map_cons, D.depAll, D.dep]; omega⟩
theorem ans_ok (t : String) (bg : List Nat) (hb : bg.length < 64) : okA (.tup [.tup [.str "value", .str t], bgD bg]) ∧ (D.tup [.tup [.str "value", .str t], bgD bg]).dep ≤ 4 := by
  have h1 := okA_ints (sortI (bg.map fun k : Nat => (k : Int)))
  have hl : ((sortI (bg.map fun k : Nat => (k : Int))).map D.int).length ≤ LIM := by
    rw [List.length_map, (sortI_perm' _).length_eq, List.length_map, LIM_eq]; omega
  have hl2 : (sortI (bg.map fun k : Nat => (k : Int))).length ≤ LIM := by rw [List.length_map] at hl; exact hl
  have l1 : 1 ≤ LIM := by rw [LIM_eq]; decide
  have l2 : 2 ≤ LIM := by rw [LIM_eq]; decide
  have hd := h1.2
  simp [okA, okAs, h1.1, l1, l2, D.dep, D.depAll, hl2] <;> omega
/-- one run: both give the value as it is written -/
theorem one_run {H m : Nat} {p : Pg} {t : String} (w : Wo H m p t) (hH : H ≤ 90) (hp : p.pl ≤ 40) : ∃ bg g, bg.length < 64 ∧
    (∀ st, callN T 119 "_law_run" [.d p.d, .d (.int 400)] st = .ok (.d (.tup [.tup [.str "value", .str t], bgD bg, .int g])) st) ∧
    (∀ os tl, ∃ X, callN T 119 "run" [.d p.d, .d (.int 400)] (.arena os :: tl) = .ok (.d (.tup [.tup [.str "value", .str t], bgD bg])) (.arena (os ++ X) :: tl)) := by
  obtain ⟨N, v, n1, n2, n3, n4⟩ := w.te 0 .nil
  obtain ⟨bg, r⟩ := ev_runs (most := 400) n4 (by omega)
  have r : Runs (msO p 400) (.val v) bg := r
  have hv : (Fin'.val v).eD = .tup [.str "value", .str t] := by
    have := n3.2
    simp only [Fin'.eD, this]
    rw [if_neg (by omega)]
  have hk := w.g.hk
  obtain ⟨f, b, l, h1, h2, _⟩ := lrun_okL (st := []) (n := 16) (most := 400) w.g.sk w.g.nb w.g.cl (by omega) (by omega) (by omega)
  obtain ⟨rfl, rfl⟩ := r.det h1.runs
  refine ⟨bg, ((400 - l : Nat) : Int), h2, fun st => ?_, fun os tl => ?_⟩
  · obtain ⟨f', b', l', h1', _, e⟩ := lrun_okL (st := st) (n := 16) (most := 400) w.g.sk w.g.nb w.g.cl (by omega) (by omega) (by omega)
    obtain ⟨rfl, rfl, rfl⟩ := h1.det h1'
    rw [hv] at e
    exact e
  · obtain ⟨f', b', X, h1', _, e⟩ := run_ok (os := os) (tl := tl) (n := 12) (most := 400) w.g.sk w.g.nb w.g.cl (by omega) (by omega) (by omega)
    obtain ⟨rfl, rfl⟩ := r.det h1'
    rw [hv] at e
    exact ⟨X, e⟩
theorem arena_hd {os : List Obj} {tl s : Store} (h : Kp 1 (.arena os :: tl) s) : ∃ tl', s = .arena os :: tl' := by
  have := h.2 0 (by omega)
  cases s with
  | nil => simp at this
  | cons c r => simp at this; exact ⟨r, by rw [this]⟩
set_option maxHeartbeats 4000000 in
/-- the asking -/
theorem ask_wp {H m : Nat} {p : Pg} {t : String} (w : Wo H m p t) (hH : H ≤ 50) (hm : m ≤ 500) {R : List Stm} (hR : f_law_b1.drop 2 = R) {os : List Obj} {tl : Store} {x0 x2 x5 x6 : Option Val} {pp : Post Out} (hB : Bag (.arena os :: tl) 1)
    (K : ∀ os' tl' x6, Bag (.arena os' :: tl') 1 → pp.q (.nx [x0, some (.ref 1), x2, some (.d p.d), some (.d (.str t)), x5, x6]) (.arena os' :: tl')) :
    @Wp _ (execs (callN T 119) R [x0, some (.ref 1), x2, some (.d p.d), some (.d (.str t)), x5, x6] (.arena os :: tl)) pp := by
  subst hR
  simp -implicitDefEqProofs [f_law_b1]
  refine bounded_wp (n := 116) (H := 50) w.g.sk (by have := w.g.hk; omega) (by omega) (by have := w.pm; omega) fun b hb => ?_
  cases b with
  | false =>
    simp [asB]
    exact K _ _ _ hB
  | true =>
    obtain ⟨bg, g, h1, h2, h3⟩ := one_run w (by omega) (hb rfl)
    obtain ⟨X, e⟩ := h3 os tl
    have ha := ans_ok t bg h1
    have a := alike_same (st := .arena (os ++ X) :: tl) _ ha.1 119 (by have := ha.2; omega)
    have K := fun x6 => K (os ++ X) tl x6 (hB.grow (by omega))
    have i1 : ∀ x y z : D, D.index (.tup [x, y, z]) (.int 1) = some y := fun _ _ _ => by simp [D.index, atI, ixN]
    generalize bgD bg = BD at h2 e a K
    generalize p.d = pd at h2 e a K ⊢
    simp -implicitDefEqProofs [asB, h2, ivd, Tg.putV, i1, e, asDs, a]
    exact K _
def tuE (x0 x2 x3 x4 x5 x6 : Option Val) : Env := [x0, some (.ref 1), x2, x3, x4, x5, x6]
theorem rng (m : Int) (h0 : 0 ≤ m) (h1 : m ≤ 1000) (s : Store) : bltV .range [.d (.int m)] s = .ok (.d (.lst (rangeL 0 m.toNat))) s := by
  have := bRange_nat (n := m.toNat) (by simp only [LIM_eq]; omega)
  rw [show ((m.toNat : Nat) : Int) = m by omega] at this
  simp [bltV, lenDic, bltD, derefs, deref, D.blt, this]
set_option maxHeartbeats 4000000 in
theorem turn {os : List Obj} {tl : Store} {x0 x2 x3 x4 x5 x6 : Option Val} {pp : Post Out} (hB : Bag (.arena os :: tl) 1)
    (K : ∀ os' tl' x3 x4 x5 x6, Bag (.arena os' :: tl') 1 → pp.q (.nx (tuE x0 x2 x3 x4 x5 x6)) (.arena os' :: tl')) :
    @Wp _ (execs (callN T 119) f_law_b1 (tuE x0 x2 x3 x4 x5 x6) (.arena os :: tl)) pp := by
  obtain ⟨R, hR⟩ : ∃ R, f_law_b1.drop 2 = R := ⟨_, rfl⟩
  have eb : f_law_b1 = f_law_b1.take 2 ++ R := by rw [← hR]; rfl
  rw [eb]
  unfold tuE at K ⊢
  simp [f_law_b1]
  refine draw_wp hB (by decide) (by decide) (by omega) fun d s1 d0 d1 hB1 k1 => ?_
  obtain ⟨lf, elf⟩ : ∃ lf : Nat, lf = (1 + d).toNat := ⟨_, rfl⟩
  have ha : D.bin .add (.int 1) (.int d) = some (.int (lf : Nat)) := by rw [add_ii]; congr 2; omega
  simp -implicitDefEqProofs [deref, ha]
  refine worth_wp lf (by omega) (by omega) (by omega) hB1 fun p t s2 hw hB2 k2 => ?_
  simp [Tg.putV, Tg.puts, Tg.put]
  refine draw_wp hB2 (by decide) (by decide) (by omega) fun m s3 m0 m1 hB3 k3 => ?_
  obtain ⟨tl3, rfl⟩ := arena_hd ((k1.trans k2).trans k3)
  have hlen : (rangeL 0 m.toNat).length = m.toNat := rangeL_len _
  simp [rng m m0 (by omega), asD, D.seq]
  refine wp_loop (fun xs σ s => ∃ (q : Pg) (j : Nat) (tl' : Store) (x5 : Option Val), σ = [x0, some (.ref 1), x2, some (.d q.d), some (.d (.str t)), x5, x6] ∧ j + xs.length = m.toNat ∧ Wo (24 + 2 * j) (48 + 6 * j) q t ∧ s = .arena os :: tl' ∧ Bag s 1) ?_ ?_ _ _ _
    ⟨p, 0, tl3, x5, rfl, by omega, hw.mono (by omega) (by omega), rfl, hB3⟩
  · rintro x xs σ s ⟨q, j, tl', x5, rfl, hj, hq, rfl, hB4⟩
    refine ⟨[x0, some (.ref 1), x2, some (.d q.d), some (.d (.str t)), some (.d x), x6], rfl, ?_⟩
    simp at hj
    simp [f_law_b0]
    refine told_wp hq (by omega) hB4 (by omega) fun q2 s4 hw2 hB5 k5 => ?_
    obtain ⟨tl5, rfl⟩ := arena_hd k5
    simp [Tg.putV]
    exact ⟨q2, rfl, j + 1, by omega, hw2.mono (by omega) (by omega), hB5⟩
  · rintro σ s ⟨q, j, tl', x5, rfl, hj, hq, rfl, hB4⟩
    simp at hj
    exact ask_wp hq (by omega) (by omega) hR hB4 fun os' tl' x6 hB5 => K _ _ _ _ _ _ hB5
set_option maxHeartbeats 2000000 in
theorem law_wp (ns : List Int) (hl : ns.length ≤ 63) : @Wp _ (Ir.callN T 120 "law" [.d (.ro (ns.map Ir.D.int))] [.arena []]) ⟨fun v _ => v = .d (.bool true)⟩ := by
  rw [callN_run T_f_law]
  simp [Tg.putV, Tg.put, Tg.puts, Tg.putF_eq, setAll, Tg.slots, Tg.slotss, wipe, indexV, D.index, atI, ixN, cmpV, deref, asB, asD, asDs, asI, bltV, lenDic, bltD, derefs, D.blt, D.bLen, D.bTuple, D.bList, D.seq, mthV, mthOk, setV, ci_eq, ci_ne, ci_lt, ci_le, ci_gt, ci_ge, cs_eq, cs_ne, cb_eq, cb_ne, D.bin, D.slice, cut, sIx, isNon, f_law]
  refine bag_wp ns (by omega) fun s1 hB1 hl1 hk1 => ?_
  obtain ⟨tl, rfl⟩ : ∃ tl, s1 = .arena [] :: tl := by
    have := hk1.2 0 (by simp) (by simp)
    cases s1 with
    | nil => simp at hl1
    | cons c r => simp at this; exact ⟨r, by rw [this]⟩
  obtain ⟨q, hq⟩ : ∃ q, q = (if (5 : Int) < (ns.length : Int) / 4 then (5 : Int) else (ns.length : Int) / 4) := ⟨_, rfl⟩
  have hqb : 0 ≤ q ∧ q ≤ 20 := by rw [hq]; split <;> omega
  have hmin : D.bMin [.int ((ns.length : Int) / 4), .int 5] = some (.int q) := by simp only [D.bMin, hq]
  have hb2 : bigOk 4 = true := by decide +kernel
  have hr : D.bRange [.int (1 + q)] = some (.lst (rangeL 0 (1 + q).toNat)) := by
    have := bRange_nat (n := (1 + q).toNat) (by simp only [LIM_eq]; omega)
    rwa [show (((1 + q).toNat : Nat) : Int) = 1 + q by omega] at this
  simp [Tg.putV, Tg.put, Tg.puts, Tg.putF_eq, setAll, Tg.slots, Tg.slotss, wipe, indexV, D.index, atI, ixN, cmpV, deref, asB, asD, asDs, asI, bltV, lenDic, bltD, derefs, D.blt, D.bLen, D.bTuple, D.bList, D.seq, mthV, mthOk, setV, ci_eq, ci_ne, ci_lt, ci_le, ci_gt, ci_ge, cs_eq, cs_ne, cb_eq, cb_ne, D.bin, D.slice, cut, sIx, isNon, hmin, hr, hb2]
  refine wp_loop (fun xs σ s => ∃ os tl x0 x2 x3 x4 x5 x6, s = .arena os :: tl ∧ Bag s 1 ∧ σ = tuE x0 x2 x3 x4 x5 x6) ?_ ?_ _ _ _ ⟨[], tl, _, _, _, _, _, _, rfl, hB1, rfl⟩
  · rintro x xs σ s ⟨os, tl, x0, x2, x3, x4, x5, x6, rfl, hB, rfl⟩
    refine ⟨tuE x0 (some (.d x)) x3 x4 x5 x6, rfl, ?_⟩
    refine turn hB fun os' tl' y3 y4 y5 y6 hB' => ?_
    exact ⟨_, _, _, _, _, _, _, _, rfl, hB', rfl⟩
  · rintro σ s ⟨os, tl, x0, x2, x3, x4, x5, x6, rfl, hB, rfl⟩
    simp [Tg.putV, Tg.put, Tg.puts, Tg.putF_eq, setAll, Tg.slots, Tg.slotss, wipe, indexV, D.index, atI, ixN, cmpV, deref, asB, asD, asDs, asI, bltV, lenDic, bltD, derefs, D.blt, D.bLen, D.bTuple, D.bList, D.seq, mthV, mthOk, setV, ci_eq, ci_ne, ci_lt, ci_le, ci_gt, ci_ge, cs_eq, cs_ne, cb_eq, cb_ne, D.bin, D.slice, cut, sIx, isNon, tuE, leave]
theorem law_true (ns : List Int) (hl : ns.length ≤ 63) : ∃ st', Ir.callN T 120 "law" [.d (.ro (ns.map Ir.D.int))] [.arena []] = .ok (.d (.bool true)) st' := by
  obtain ⟨v, s, e, h⟩ := wp_iff.mp (law_wp ns hl)
  have h : v = .d (.bool true) := h
  exact ⟨s, by rw [e, h]⟩
end Prog

open PySem PySem.W PyProof.Rows
set_option maxRecDepth 100000 in
set_option maxHeartbeats 0 in
theorem PySem.Challenge.cw_leastmends_k62_values_written_holds : PySem.Challenge.rw_leastmends_k62_values_written.Holds := by
  w_on; o_law; k_head; (case hw => w_witness2)
  k_fill
  refine L2.walk_ofB (l := PySem.Challenge.rw_leastmends_k62_values_written) (n := 63) (k := 122) (x := "_law_script") (CX := fun _ => L2.CX0) (sp := fun w => Prog.spLaw 120 _) rfl (by decide) rfl ⟨rfl, by decide, by decide⟩ (fun w h Y => PySem.W.kIn_of Y) ?F (fun _ H a ns hl hb hO hS => Snd.law_spA hO hS hl (Prog.law_true ns hl).choose_spec) (fun _ _ _ _ _ h => h)
  case F =>
    intro w mg fa h KX G hmg
    refine' Prog.all_mk KX G hmg ?ka_Runner ?kp_Runner ?kh_Runner ?ko_Runner ?ks_Runner ?km_Runner ?kk_Runner ?kn_Runner_tasks ?kn_Runner_told ?kn_Runner_begun ?kn_Runner_left ?x0 ?l0 ?c0 ?k0 ?x1 ?l1 ?c1 ?k1 ?x2 ?l2 ?c2 ?k2 ?x3 ?l3 ?c3 ?k3 ?x4 ?l4 ?c4 ?k4 ?x5 ?i5 ?l5 ?c5 ?k5 ?x6 ?i6 ?l6 ?c6 ?k6 ?x7 ?i7 ?l7 ?c7 ?k7 ?x8 ?i8 ?l8 ?c8 ?k8 ?x9 ?i9 ?l9 ?c9 ?k9 ?x10 ?i10 ?l10 ?c10 ?k10 ?x11 ?i11 ?l11 ?c11 ?k11 ?x12 ?i12 ?l12 ?c12 ?k12 ?x13 ?i13 ?l13 ?c13 ?k13 ?x14 ?l14 ?c14 ?k14 ?x15 ?l15 ?c15 ?k15 ?x16 ?l16 ?c16 ?k16 ?x17 ?l17 ?c17 ?k17 ?x18 ?l18 ?c18 ?k18 ?x19 ?l19 ?c19 ?k19 ?x20 ?l20 ?c20 ?k20 ?x21 ?l21 ?c21 ?k21 ?x22 ?l22 ?c22 ?k22 ?x23 ?l23 ?c23 ?k23 ?x24 ?l24 ?c24 ?k24 ?x25 ?l25 ?c25 ?k25 ?x26 ?l26 ?c26 ?k26 ?x27 ?l27 ?c27 ?k27 ?x28 ?l28 ?c28 ?k28 ?x29 ?l29 ?c29 ?k29 ?x30 ?l30 ?c30 ?k30  ?kN14 ?kK14 ?g_PLAIN ?gl_PLAIN ?gz_PLAIN ?gk_PLAIN ?g_BINDERS ?gl_BINDERS ?gk_BINDERS ?go_BINDERS ?g_MOST_PARTS ?gk_MOST_PARTS ?xg_Ended ?xk_Ended ?xb_Ended ?xt_Ended ?xi_Ended ?xs_Ended ?oi_Ended ?oo_Ended ?os_Ended ?oh_Ended ?on_Ended ?ot_Ended ?oz_Ended ?of_Ended ?og_Ended ?oa_Ended ?ob_Ended ?ol_Ended ?oc_Ended ?ok_Ended ?z0 ?z1 ?z2 ?z3 ?z4 ?z5 ?z6 ?z7 ?z8 ?z9 ?z10 ?z11 ?z12 ?z13 ?z14
    (case ka_Runner => k_is); (case kp_Runner => k_is); (case kh_Runner => k_is); (case ko_Runner => k_is); (case ks_Runner => k_is); (case km_Runner => k_is); (case kk_Runner => k_is); (case kn_Runner_tasks => k_is); (case kn_Runner_told => k_is); (case kn_Runner_begun => k_is); (case kn_Runner_left => k_is); (case x0 => k_is); (case l0 => k_is); (case c0 => k_is); (case k0 => k_is); (case x1 => k_is); (case l1 => k_is); (case c1 => k_is); (case k1 => k_is); (case x2 => k_is); (case l2 => k_is); (case c2 => k_is); (case k2 => k_is); (case x3 => k_is); (case l3 => k_is); (case c3 => k_is); (case k3 => k_is); (case x4 => k_is); (case l4 => k_is); (case c4 => k_is); (case k4 => k_is); (case x5 => k_is); (case i5 => k_is); (case l5 => k_is); (case c5 => k_is); (case k5 => k_is); (case x6 => k_is); (case i6 => k_is); (case l6 => k_is); (case c6 => k_is); (case k6 => k_is); (case x7 => k_is); (case i7 => k_is); (case l7 => k_is); (case c7 => k_is); (case k7 => k_is); (case x8 => k_is); (case i8 => k_is); (case l8 => k_is); (case c8 => k_is); (case k8 => k_is); (case x9 => k_is); (case i9 => k_is); (case l9 => k_is); (case c9 => k_is); (case k9 => k_is); (case x10 => k_is); (case i10 => k_is); (case l10 => k_is); (case c10 => k_is); (case k10 => k_is); (case x11 => k_is); (case i11 => k_is); (case l11 => k_is); (case c11 => k_is); (case k11 => k_is); (case x12 => k_is); (case i12 => k_is); (case l12 => k_is); (case c12 => k_is); (case k12 => k_is); (case x13 => k_is); (case i13 => k_is); (case l13 => k_is); (case c13 => k_is); (case k13 => k_is); (case x14 => k_is); (case l14 => k_is); (case c14 => k_is); (case k14 => k_is); (case x15 => k_is); (case l15 => k_is); (case c15 => k_is); (case k15 => k_is); (case x16 => k_is); (case l16 => k_is); (case c16 => k_is); (case k16 => k_is); (case x17 => k_is); (case l17 => k_is); (case c17 => k_is); (case k17 => k_is); (case x18 => k_is); (case l18 => k_is); (case c18 => k_is); (case k18 => k_is); (case x19 => k_is); (case l19 => k_is); (case c19 => k_is); (case k19 => k_is); (case x20 => k_is); (case l20 => k_is); (case c20 => k_is); (case k20 => k_is); (case x21 => k_is); (case l21 => k_is); (case c21 => k_is); (case k21 => k_is); (case x22 => k_is); (case l22 => k_is); (case c22 => k_is); (case k22 => k_is); (case x23 => k_is); (case l23 => k_is); (case c23 => k_is); (case k23 => k_is); (case x24 => k_is); (case l24 => k_is); (case c24 => k_is); (case k24 => k_is); (case x25 => k_is); (case l25 => k_is); (case c25 => k_is); (case k25 => k_is); (case x26 => k_is); (case l26 => k_is); (case c26 => k_is); (case k26 => k_is); (case x27 => k_is); (case l27 => k_is); (case c27 => k_is); (case k27 => k_is); (case x28 => k_is); (case l28 => k_is); (case c28 => k_is); (case k28 => k_is); (case x29 => k_is); (case l29 => k_is); (case c29 => k_is); (case k29 => k_is); (case x30 => k_is); (case l30 => k_is); (case c30 => k_is); (case k30 => k_is)
    (case kN14 => k_is); (case kK14 => exact (.cons (.int _ _) .nil)); (case g_PLAIN => k_is); (case gl_PLAIN => k_is); (case gz_PLAIN => decide); (case gk_PLAIN => exact (.cons (.str _ _) (.cons (.str _ _) (.cons (.str _ _) .nil)))); (case g_BINDERS => k_is); (case gl_BINDERS => k_is); (case gk_BINDERS => exact (.cons rfl rfl (.int _ _) (.cons rfl rfl (.int _ _) (.cons rfl rfl (.int _ _) .nil)))); (case go_BINDERS => rfl); (case g_MOST_PARTS => k_is); (case gk_MOST_PARTS => exact (.int _ _)); (case xg_Ended => k_is); (case xk_Ended => k_is); (case xb_Ended => k_is); (case xt_Ended => k_is); (case xi_Ended => k_is); (case xs_Ended => first | rfl | k_is); (case oi_Ended => kx_is); (case oo_Ended => kx_is); (case os_Ended => k_is); (case oh_Ended => k_is); (case on_Ended => k_is); (case ot_Ended => k_is); (case oz_Ended => k_is); (case of_Ended => k_is); (case og_Ended => k_is); (case oa_Ended => k_is); (case ob_Ended => k_is); (case ol_Ended => k_is); (case oc_Ended => k_is); (case ok_Ended => k_is)
    (case z0 => k_is); (case z1 => k_is); (case z2 => k_is); (case z3 => k_is); (case z4 => k_is); (case z5 => k_is); (case z6 => k_is); (case z7 => k_is); (case z8 => k_is); (case z9 => k_is); (case z10 => k_is); (case z11 => k_is); (case z12 => k_is); (case z13 => k_is); (case z14 => k_is)


