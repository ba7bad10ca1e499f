import PyProof.Rows.All
import Wide.All
import OpenK.AllK
import Wide.FinOn
import HandS.ForMost
import HandS.Wide
import HandS.WideBits
import HandS.IsInst
import HandS.SetKeys
import HandS.Zip
import HandS.EndBits
import KE.KUnpackStar
import HandS.TupAny
import HandS.Deep
import HandS.TupLe
import HandS.ForExc
import KE.KItemsList
import KE.KDictZip
import HandS.ListItems
import HandS.FStr
import HandS.RaiseMore
import KE.IntTextLaws
import PyProof.Draws
import PyProof.EnumMake
import PyProof.StrLoop
import HandS.RevRange
import HandS.Codes
import HandS.WrittenGet
import HandS.Defaults
import HandS.More
import HandS.SortInts
import HandS.Conv
import HandS.Iter
import HandS.TryOnly
import HandS.Style
import HandS.SetFor
import HandS.Strs
import HandS.Lambda
import HandS.SortKw
import KE.DataMinMax
import ObjForm.LawKit
import PyProof.EqAt
import PyProof.NeKinds
import HandS.TryMany
import PyProof.StrBlock2
import HandS.ExcValue
import HandS.ExcIs
import HandS.List
import KE.KExcInit
import HandS.ExcInit
import HandS.ExcField
import HandS.IterVal
import PySem.Challenge.RW_leastmends_k21_rules_of_single_parts
set_option linter.all false
set_option maxRecDepth 100000
/-! A small language with explicit store: what the given defs compute, as total functions. -/
namespace Ir
/-- deep data, never changed -/
inductive D where
  | non | bool (b : Bool) | int (i : Int) | str (s : String) | tup (xs : List D) | lst (xs : List D) | ro (xs : List D)
  | oid (n : Nat) | fn (f : String)
  | exn (c : String) (ns : List String) (as : List D)
deriving Inhabited
inductive Val where
  | d (x : D) | ref (n : Nat)
deriving Inhabited
/-- what lives in the arena: instances, lists and dicts that they hold -/
inductive Obj where
  | inst (c : String) (fs : List (String × D)) | lst (xs : List D) | dic (kvs : List (D × D)) | dicT (kvs : List (List D × D))
deriving Inhabited
inductive Cell where
  | lst (xs : List D) | dic (kvs : List (D × D)) | dead | arena (os : List Obj)
deriving Inhabited
abbrev Store := List Cell
abbrev Env := List (Option Val)
inductive Res (α : Type) where
  | ok (a : α) (st : Store) | exc (c : String) (as : List (String × D)) (st : Store) | bad
def Res.bind {α β : Type} : Res α → (α → Store → Res β) → Res β
  | .ok a st, f => f a st
  | .exc c as st, _ => .exc c as st
  | .bad, _ => .bad
@[simp] theorem Res.bind_ok {α β : Type} (a : α) (st : Store) (f : α → Store → Res β) : (Res.ok a st).bind f = f a st := rfl
@[simp] theorem Res.bind_bad {α β : Type} (f : α → Store → Res β) : (Res.bad : Res α).bind f = .bad := rfl
@[simp] theorem Res.bind_exc {α β : Type} (c as st) (f : α → Store → Res β) : (Res.exc c as st : Res α).bind f = .exc c as st := rfl
theorem Res.bind_eq_ok {α β : Type} {r : Res α} {f : α → Store → Res β} {b : β} {st : Store} (h : r.bind f = .ok b st) : ∃ a s1, r = .ok a s1 ∧ f a s1 = .ok b st := by
  cases r with
  | ok a s1 => exact ⟨a, s1, rfl, h⟩
  | exc c as s1 => cases h
  | bad => cases h

theorem LIMx : ∃ n : Nat, n = 16777216 := ⟨_, rfl⟩
/-- a bound that is never counted out -/
noncomputable def LIM : Nat := Classical.choose LIMx
theorem LIM_eq : LIM = 16777216 := Classical.choose_spec LIMx
noncomputable section
/-! ### data -/
mutual
def D.dep : D → Nat
  | .tup xs | .lst xs => D.depAll xs + 1
  | .non | .bool _ | .int _ | .str _ => 0
  | .ro _ | .oid _ | .fn _ | .exn _ _ _ => 1000
def D.depAll : List D → Nat
  | [] => 0
  | x :: xs => max x.dep (D.depAll xs)
end
mutual
/-- Python's == -/
def D.eqv : D → D → Bool
  | .non, .non => true
  | .bool a, .bool b => a == b
  | .bool a, .int j => (if a then 1 else 0) == j
  | .int i, .bool b => i == (if b then 1 else 0)
  | .int i, .int j => i == j
  | .str x, .str y => decide (x = y)
  | .lst xs, .lst ys => D.eqvAll xs ys
  | .tup xs, .tup ys => D.eqvAll xs ys
  | _, _ => false
def D.eqvAll : List D → List D → Bool
  | [], [] => true
  | x :: xs, y :: ys => D.eqv x y && D.eqvAll xs ys
  | [], _ :: _ => false
  | _ :: _, [] => false
end
/-- an index: negative ones from behind -/
def ixN (n : Nat) (i : Int) : Option Nat := if 0 ≤ i then (if i < n then some i.toNat else none) else if -(n : Int) ≤ i then some (i + n).toNat else none
def atI {α : Type} (xs : List α) (i : Int) : Option α := (ixN xs.length i).bind fun j => xs[j]?
/-- a slice's bound: clamp -/
def sIx (n : Nat) (d : Nat) : Option Int → Nat
  | none => d
  | some i => if i < 0 then (i + n).toNat else min i.toNat n
def cut {α : Type} (xs : List α) (lo hi : Option Int) : List α := (xs.drop (sIx xs.length 0 lo)).take (sIx xs.length xs.length hi - sIx xs.length 0 lo)

inductive Op where | add | sub | mul | fdiv | mod | pow | lmul | smul
deriving DecidableEq
inductive Cmp where | eq | ne | lt | le | gt | ge | isin | notin | is | isnot | sin | snin
deriving DecidableEq
inductive Bi where | len | abs | tuple | list | all | any | sum | min | max | range | zip | lzip | int | str | enum | revR | chars | zipS | maxd | lrange | sorted | rngS | sset | revT
deriving DecidableEq
def Bi.name : Bi → String
  | .len => "len" | .abs => "abs" | .tuple => "tuple" | .list => "list" | .all => "all" | .any => "any" | .sum => "sum" | .min => "min" | .max => "max" | .range => "range" | .zip => "zip" | .lzip => "list" | .int => "int" | .str => "str" | .enum => "enumerate" | .revR => "reversed" | .chars => "" | .zipS => "zip" | .maxd => "max" | .lrange => "list" | .sorted => "sorted" | .rngS => "range" | .sset => "sorted" | .revT => ""
inductive Mt where | append | extend | pop | pop0 | setdefault | get | bit_length | join | reverse
deriving DecidableEq
inductive Ty where | bool | int | str | tuple | list
deriving DecidableEq
def Ty.name : Ty → String
  | .bool => "bool" | .int => "int" | .str => "str" | .tuple => "tuple" | .list => "list"
inductive Tg where
  | name (i : Nat) | tup (ts : List Tg) | star (pre : List Nat) (i : Nat) (post : List Nat)
/-- questions to a dict that is never changed -/
inductive Kq where | get | isin | notin | idx
deriving DecidableEq
/-- questions to an object's list or dict -/
inductive Oq where | len | isnil | notnil | idx | get | tup
deriving DecidableEq
/-- its changes -/
inductive Om where | append | extend | pop | reverse
deriving DecidableEq
/-- questions to a list that may be one of the arena or data -/
inductive Aq where
  | isi (ts : List Ty) | len | idx
inductive Ex where
  | var (i : Nat)
  | con (d : D)
  | tup (es : List Ex)
  | lst (es : List Ex)
  | newL (e : Ex)
  | newD
  | newDP (e : Ex)
  | newDC (e : Ex)
  | newDd (es : List Ex)
  | frz (e : Ex)
  | bin (o : Op) (a b : Ex)
  | neg (a : Ex)
  | cmp (o : Cmp) (a b : Ex)
  | chain (o o' : Cmp) (a b c : Ex)
  | and (a b : Ex) | or (a b : Ex) | not (a : Ex)
  | ite (c a b : Ex)
  | idx (a b : Ex)
  | sli (a : Ex) (lo hi : Option Ex)
  | call (f : String) (es : List Ex)
  | callP (f : String) (es : List Ex) (perm : List Nat)
  | blt (f : Bi) (es : List Ex)
  | mth (m : Mt) (o : Ex) (es : List Ex)
  | isi (e : Ex) (ts : List Ty)
  | fs (es : List Ex)
  | kd (o : Kq) (kvs : List (String × D)) (e : Ex)
  | rev (e : Ex)
  | comp (elt : Ex) (tg : Tg) (it : Ex) (cs : List Ex)
  | newI (c : String)
  | newO (e : Ex)
  | newOD
  | fld (c : String) (o : Ex) (f : String)
  | meth (c m : String) (o : Ex) (es : List Ex)
  | oq (q : Oq) (o : Ex) (es : List Ex)
  | oin (neg : Bool) (k o : Ex)
  | om (m : Om) (o : Ex) (es : List Ex)
  | dkeys (e : Ex)
  | nn (e : Ex)
  | xfld (e : Ex) (f : String)
  | isx (e : Ex) (tb : List (String × Bool))
  | newX (c f : String) (e : Ex)
  | anyQ (q : Aq) (e : Ex) (es : List Ex)
  | kdd (kvs : List (String × D)) (e f : Ex)
  | frzT (e : Ex)
  | callV (fs : List String) (o : Ex) (es : List Ex)
  | compO (elt : Ex) (tg : Tg) (o : Ex) (cs : List Ex)
/-- expressions that may raise -/
inductive EX where
  | p (e : Ex)
  | call (f : String) (es : List EX)
  | callP (f : String) (es : List EX) (perm : List Nat)
  | ite (c : Ex) (a b : EX)
  | meth (c m : String) (o : Ex) (es : List EX)
  | methN (c m : String) (o : Ex) (es : List EX)
inductive Stm where
  | asg (t : Tg) (e : Ex)
  | par (i j : Nat) (a b : Ex)
  | set (o i e : Ex)
  | ex (e : Ex)
  | ret (e : Ex)
  | ite (c : Ex) (a b : List Stm)
  | loop (t : Tg) (it : Ex) (body : List Stm)
  | while (c : Ex) (body : List Stm)
  | aug (i : Nat) (o : Op) (e : Ex)
  | pass | brk | cnt
  | never
  | asgX (t : Tg) (e : EX)
  | exX (e : EX)
  | retX (e : EX)
  | raise (c : String)
  | tryX (body : List Stm) (c : String) (h : List Stm)
  | tryX2 (body : List Stm) (c : String) (h : List Stm) (c2 : String) (h2 : List Stm)
  | setf (c : String) (o : Ex) (f : String) (e : Ex)
  | augf (c : String) (o : Ex) (f : String) (p : Op) (e : Ex)
  | setO (o i e : Ex)
  | asgO (t : Tg) (e : Ex)
  | raiseA (c f : String) (e : Ex)
  | tryK (body : List Stm) (cs : List String) (i j : Nat) (cs2 : List String) (i2 j2 : Nat)
  | tryF (body : List Stm) (c : String) (i : Nat) (f : String)
/-- a def, a method, a class that is called -/
inductive Fk where
  | df | mt (c m : String) | ct (c : String) | dk
structure Fn where
  many : Nat            -- slots
  pars : Nat
  body : List Stm
  x : Bool              -- may raise
  k : Fk := .df
abbrev Calls := String → List Val → Store → Res Val

/-! ### operators -/
def bigOk (i : Int) : Bool := decide (i.natAbs < 2 ^ 4000)
def smallOk (i : Int) : Bool := decide (-(2 ^ 64) < i ∧ i < 2 ^ 64)
def D.bin : Op → D → D → Option D
  | .add, .int i, .int j => some (.int (i + j))
  | .add, .str x, .str y => if x.length + y.length ≤ LIM then some (.str (x ++ y)) else none
  | .add, .tup xs, .tup ys => if xs.length + ys.length ≤ LIM then some (.tup (xs ++ ys)) else none
  | .add, .lst xs, .lst ys => if xs.length + ys.length ≤ LIM then some (.lst (xs ++ ys)) else none
  | .sub, .int i, .int j => some (.int (i - j))
  | .mul, .int i, .int j => if (bigOk i && bigOk j) || (smallOk i || smallOk j) then some (.int (i * j)) else none
  | .fdiv, .int i, .int j => if 0 < j && bigOk j then some (.int (i / j)) else none
  | .mod, .int i, .int j => if 0 < j then some (.int (i % j)) else none
  | .smul, .str z, .int n => if 0 ≤ n && decide (n ≤ (LIM : Int)) && decide (z.length * n.toNat ≤ LIM) then some (.str (String.ofList (List.replicate n.toNat z.toList).flatten)) else none
  | .lmul, .lst xs, .int n => if 0 ≤ n && decide (n ≤ (LIM : Int)) && decide (xs.length * n.toNat ≤ LIM) then some (.lst (List.replicate n.toNat xs).flatten) else none
  | .pow, .int i, .int j => if 0 ≤ j && decide (j ≤ 100) && bigOk i then some (.int (i ^ j.toNat)) else none
  | _, _, _ => none
/-- the content of a value: a cell's list as data -/
def deref (st : Store) : Val → Option D
  | .d x => some x
  | .ref n => match st[n]? with
    | some (.lst xs) => some (.lst xs)
    | _ => none
def fine (x : D) : Bool := decide (x.dep ≤ 64)
def flat : D → Bool
  | .non | .bool _ | .int _ | .str _ => true
  | _ => false
def D.key : D → Bool
  | .int _ | .str _ => true
  | _ => false
def lookK (kvs : List (D × D)) (k : D) : Option D := (kvs.find? fun p => p.1.eqv k).map (·.2)
def putK (kvs : List (D × D)) (k v : D) : List (D × D) :=
  if kvs.any fun p => p.1.eqv k then kvs.map fun p => if p.1.eqv k then (p.1, v) else p else kvs ++ [(k, v)]
/-- pairs put into a dict, one by one -/
def mergeP : List (D × D) → List D → Option (List (D × D))
  | acc, [] => some acc
  | acc, .tup [k, v] :: r => if k.key then mergeP (putK acc k v) r else none
  | _, _ :: _ => none
/-- keys and values by turns -/
def mergeF : List (D × D) → List D → Option (List (D × D))
  | acc, [] => some acc
  | acc, k :: v :: r => if k.key then mergeF (putK acc k v) r else none
  | _, [_] => none
def D.cmp : Cmp → D → D → Option Bool
  | .eq, x, y => if fine x && fine y then some (x.eqv y) else none
  | .ne, x, y => if fine x && fine y then some (!x.eqv y) else none
  | .lt, .int i, .int j => some (decide (i < j))
  | .le, .int i, .int j => some (decide (i ≤ j))
  | .gt, .int i, .int j => some (decide (i > j))
  | .ge, .int i, .int j => some (decide (i ≥ j))
  | _, _, _ => none
def D.mem (x : D) : D → Option Bool
  | .lst ys => if fine x && fine (.lst ys) then some (ys.any fun y => y.eqv x) else none
  | .tup ys => if flat x && ys.all flat then some (ys.any fun y => y.eqv x) else none
  | _ => none
def inB (st : Store) (x c : Val) : Option Bool :=
  match x, c with
  | .d k, .ref n => match st[n]? with
    | some (.dic kvs) => if k.key then some (lookK kvs k).isSome else none
    | some (.lst xs) => k.mem (.lst xs)
    | _ => none
  | .d k, .d y => k.mem y
  | _, _ => none
def isNon : Val → Val → Option Bool
  | .ref _, .d .non => some false
  | .d x, .d .non => some (match x with | .non => true | _ => false)
  | .d (.bool b), .d (.bool c) => some (decide (b = c))
  | _, _ => none
/-- a sign in a text -/
def strIn : Val → Val → Option Bool
  | .d (.str y), .d (.str z) => match y.toList with
    | [c] => if z.length ≤ LIM then some (decide (c ∈ z.toList)) else none
    | _ => none
  | _, _ => none
def cmpV (o : Cmp) (st : Store) (x y : Val) : Option Bool :=
  match o with
  | .isin => inB st x y
  | .notin => (inB st x y).map (!·)
  | .is => isNon x y
  | .isnot => (isNon x y).map (!·)
  | .sin => strIn x y
  | .snin => (strIn x y).map (!·)
  | o => match deref st x, deref st y with
    | some a, some b => D.cmp o a b
    | _, _ => none
/-- a text of one sign -/
def sgn (c : Char) : D := .str (String.singleton c)
def D.index : D → D → Option D
  | .str z, .int i => if z.length ≤ LIM then (atI z.toList i).map sgn else none
  | .tup xs, .int i => atI xs i
  | .lst xs, .int i => atI xs i
  | .ro xs, .int i => atI xs i
  | _, _ => none
def indexV (st : Store) (x y : Val) : Option D :=
  match x, y with
  | .ref n, .d k => match st[n]? with
    | some (.lst xs) => D.index (.lst xs) k
    | some (.dic kvs) => if k.key then lookK kvs k else none
    | _ => none
  | .d a, .d k => a.index k
  | _, _ => none
def D.slice : D → Option Int → Option Int → Option D
  | .str z, lo, hi => if z.length ≤ LIM then some (.str (String.ofList (cut z.toList lo hi))) else none
  | .tup xs, lo, hi => some (.tup (cut xs lo hi))
  | .lst xs, lo, hi => some (.lst (cut xs lo hi))
  | .ro xs, lo, hi => some (.lst (cut xs lo hi))
  | _, _, _ => none
def D.seq : D → Option (List D)
  | .tup xs => some xs
  | .lst xs => some xs
  | _ => none
def D.tyOk : D → Ty → Bool
  | .bool _, .bool => true
  | .bool _, .int => true
  | .int _, .int => true
  | .str _, .str => true
  | .tup _, .tuple => true
  | .lst _, .list => true
  | .ro _, .list => true
  | _, _ => false
/-- no object, no function -/
def D.plain : D → Bool
  | .oid _ | .fn _ | .exn _ _ _ => false
  | _ => true
def isiV (ts : List Ty) (p : D) : Option D := if p.plain then some (.bool (ts.any fun t => p.tyOk t)) else none
@[simp] theorem plain_non : D.plain .non = true := rfl
@[simp] theorem plain_bool (b : Bool) : D.plain (.bool b) = true := rfl
@[simp] theorem plain_int (b : Int) : D.plain (.int b) = true := rfl
@[simp] theorem plain_str (b : String) : D.plain (.str b) = true := rfl
@[simp] theorem plain_tup (b : List D) : D.plain (.tup b) = true := rfl
@[simp] theorem plain_lst (b : List D) : D.plain (.lst b) = true := rfl
@[simp] theorem plain_ro (b : List D) : D.plain (.ro b) = true := rfl
theorem isiV_of {ts : List Ty} {p : D} (h : p.plain = true) : isiV ts p = some (.bool (ts.any fun t => p.tyOk t)) := by rw [isiV, if_pos h]
@[simp] theorem isiV_non {ts : List Ty} : isiV ts .non = some (.bool (ts.any fun t => D.tyOk .non t)) := rfl
@[simp] theorem isiV_bool {ts : List Ty} {b : Bool} : isiV ts (.bool b) = some (.bool (ts.any fun t => D.tyOk (.bool b) t)) := rfl
@[simp] theorem isiV_int {ts : List Ty} {b : Int} : isiV ts (.int b) = some (.bool (ts.any fun t => D.tyOk (.int b) t)) := rfl
@[simp] theorem isiV_str {ts : List Ty} {b : String} : isiV ts (.str b) = some (.bool (ts.any fun t => D.tyOk (.str b) t)) := rfl
@[simp] theorem isiV_tup {ts : List Ty} {b : List D} : isiV ts (.tup b) = some (.bool (ts.any fun t => D.tyOk (.tup b) t)) := rfl
@[simp] theorem isiV_lst {ts : List Ty} {b : List D} : isiV ts (.lst b) = some (.bool (ts.any fun t => D.tyOk (.lst b) t)) := rfl
@[simp] theorem isiV_ro {ts : List Ty} {b : List D} : isiV ts (.ro b) = some (.bool (ts.any fun t => D.tyOk (.ro b) t)) := rfl
def D.bools : List D → Option (List Bool)
  | [] => some []
  | .bool b :: r => (D.bools r).map (b :: ·)
  | _ :: _ => none
def D.ints : List D → Option (List Int)
  | [] => some []
  | .int b :: r => (D.ints r).map (b :: ·)
  | _ :: _ => none
def intBits (i : Int) : Nat := if i.natAbs = 0 then 0 else i.natAbs.log2 + 1
def rangeL (lo : Int) (n : Nat) : List D := (List.range n).map fun i => .int (lo + (i : Nat))
/-- by steps of two -/
def rangeS (lo : Int) (n : Nat) : List D := (List.range n).map fun i => .int (lo + (i : Nat) * 2)
def stepN (i j : Int) : Nat := if i < j then ((j - i - 1) / 2 + 1).toNat else 0
def zipL (xs ys : List D) : List D := (xs.zip ys).map fun p => .tup [p.1, p.2]
/-- built-in calls upon data -/
def D.bLen : List D → Option D
  | [.ro xs] => some (.int xs.length)
  | [.tup xs] => some (.int xs.length)
  | [.lst xs] => some (.int xs.length)
  | [.str z] => if z.length ≤ LIM then some (.int z.length) else none
  | _ => none
def D.bAbs : List D → Option D
  | [.int i] => some (.int (if i < 0 then -i else i))
  | _ => none
def D.bTuple : List D → Option D
  | [.tup xs] => some (.tup xs)
  | [.lst xs] => some (.tup xs)
  | _ => none
def D.bList : List D → Option D
  | [.tup xs] => some (.lst xs)
  | [.lst xs] => some (.lst xs)
  | _ => none
def D.bAll : List D → Option D
  | [.lst xs] => (D.bools xs).map fun bs => .bool (bs.all id)
  | _ => none
def D.bAny : List D → Option D
  | [.lst xs] => (D.bools xs).map fun bs => .bool (bs.any id)
  | _ => none
def D.bSum : List D → Option D
  | [.lst xs] => (D.ints xs).map fun bs => .int bs.sum
  | _ => none
def D.bMin : List D → Option D
  | [.int i, .int j] => some (.int (if j < i then j else i))
  | _ => none
def D.bMax : List D → Option D
  | [.int i, .int j] => some (.int (if j > i then j else i))
  | _ => none
def D.bRange : List D → Option D
  | [.int n] => if -(LIM : Int) ≤ n ∧ n ≤ (LIM : Int) then some (.lst (rangeL 0 n.toNat)) else none
  | [.int i, .int j] => if -(LIM : Int) ≤ i ∧ i ≤ (LIM : Int) ∧ -(LIM : Int) ≤ j ∧ j ≤ (LIM : Int) ∧ j - i ≤ (LIM : Int) then some (.lst (rangeL i (j - i).toNat)) else none
  | _ => none
def D.bZip : List D → Option D
  | [.lst xs, .lst ys] => some (.lst (zipL xs ys))
  | [.tup xs, .tup ys] => some (.lst (zipL xs ys))
  | [.lst xs, .tup ys] => some (.lst (zipL xs ys))
  | _ => none
/-- the number that figures write -/
def digV (cs : List Char) : Nat := cs.foldl (fun a c => a * 10 + (c.toNat - 48)) 0
def isDig (c : Char) : Bool := decide (48 ≤ c.toNat ∧ c.toNat ≤ 57)
def txtInt (cs : List Char) : Option Int :=
  if cs.length ≤ 600 then (match cs with
    | '-' :: r => if r ≠ [] ∧ r.all isDig = true then some (-((digV r : Nat) : Int)) else none
    | r => if r ≠ [] ∧ r.all isDig = true then some ((digV r : Nat) : Int) else none) else none
def D.bInt : List D → Option D
  | [.int i] => some (.int i)
  | [.bool b] => some (.int (if b then 1 else 0))
  | [.str z] => (txtInt z.toList).map .int
  | _ => none
def D.bStr : List D → Option D
  | [.int i] => if i.natAbs.log2 < 1920 then some (.str (toString i)) else none
  | [.str z] => if z.length ≤ LIM then some (.str z) else none
  | _ => none
/-- list(zip(a, b)) -/
def D.bLzip : List D → Option D
  | [.tup xs, .tup ys] => some (.lst (zipL xs ys))
  | _ => none
/-- enumerate(xs) -/
def enumL (xs : List D) : List D := (List.range xs.length).zip xs |>.map fun p => .tup [.int (p.1 : Nat), p.2]
def D.bEnum : List D → Option D
  | [.tup xs] => some (.lst (enumL xs))
  | [.lst xs] => some (.lst (enumL xs))
  | _ => none
/-- reversed(range(..)) -/
def D.bRevR : List D → Option D
  | [.int n] => if -(LIM : Int) ≤ n ∧ n ≤ (LIM : Int) then some (.lst (rangeL 0 n.toNat).reverse) else none
  | [.int i, .int j] => if -(LIM : Int) ≤ i ∧ i ≤ (LIM : Int) ∧ -(LIM : Int) ≤ j ∧ j ≤ (LIM : Int) ∧ j - i ≤ (LIM : Int) then some (.lst (rangeL i (j - i).toNat).reverse) else none
  | _ => none
def D.bChars : List D → Option D
  | [.str z] => if z.length ≤ LIM then some (.lst (z.toList.map sgn)) else none
  | _ => none
def D.bZipS : List D → Option D
  | [.lst xs, .str z] => if z.length ≤ LIM then some (.lst (zipL xs (z.toList.map sgn))) else none
  | _ => none
/-- max(xs, default=d) -/
def D.bMaxd : List D → Option D
  | [.lst xs, .int d] => (D.ints xs).map fun bs => .int (match bs with | [] => d | b :: r => r.foldl (fun m x => if x > m then x else m) b)
  | _ => none
/-- list(range(..)) -/
def D.bLrange : List D → Option D
  | [.int n] => if -(LIM : Int) ≤ n ∧ n ≤ (LIM : Int) then some (.lst (rangeL 0 n.toNat)) else none
  | _ => none
/-- ints in order -/
def insI (x : Int) : List Int → List Int
  | [] => [x]
  | y :: l => if x ≤ y then x :: y :: l else y :: insI x l
def sortI : List Int → List Int
  | [] => []
  | x :: l => insI x (sortI l)
def D.bRngS : List D → Option D
  | [.int i, .int j, .int c] => if c = 2 ∧ 0 ≤ i ∧ i ≤ (LIM : Int) ∧ -(LIM : Int) ≤ j ∧ j ≤ (LIM : Int) then some (.lst (rangeS i (stepN i j))) else none
  | _ => none
def D.bSorted : List D → Option D
  | [.lst xs] => (D.ints xs).map fun l => .lst ((sortI l).map .int)
  | _ => none
/-- sorted(set(xs)), of ints -/
def insD (x : Int) : List Int → List Int
  | [] => [x]
  | y :: l => if x < y then x :: y :: l else if x = y then y :: l else y :: insD x l
def ssetI : List Int → List Int
  | [] => []
  | x :: l => insD x (ssetI l)
def D.bSset : List D → Option D
  | [.lst xs] => (D.ints xs).bind fun l => if l.length ≤ 1000 ∧ (ssetI l).length < 64 then some (.lst ((ssetI l).map .int)) else none
  | _ => none
/-- t[::-1] -/
def D.bRevT : List D → Option D
  | [.tup xs] => some (.tup xs.reverse)
  | _ => none
def D.blt : Bi → List D → Option D
  | .len => D.bLen
  | .abs => D.bAbs
  | .tuple => D.bTuple
  | .list => D.bList
  | .all => D.bAll
  | .any => D.bAny
  | .sum => D.bSum
  | .min => D.bMin
  | .max => D.bMax
  | .range => D.bRange
  | .zip => D.bZip
  | .lzip => D.bLzip
  | .int => D.bInt
  | .str => D.bStr
  | .enum => D.bEnum
  | .revR => D.bRevR
  | .chars => D.bChars
  | .zipS => D.bZipS
  | .maxd => D.bMaxd
  | .lrange => D.bLrange
  | .sorted => D.bSorted
  | .rngS => D.bRngS
  | .sset => D.bSset
  | .revT => D.bRevT
def derefs (st : Store) : List Val → Option (List D)
  | [] => some []
  | v :: r => match deref st v, derefs st r with
    | some d, some ds => some (d :: ds)
    | _, _ => none
def asDs : List Val → Option (List D)
  | [] => some []
  | .d x :: r => (asDs r).map (x :: ·)
  | .ref _ :: _ => none
def bltD (f : Bi) (vs : List Val) (st : Store) : Res Val :=
  match derefs st vs with
  | some ds => match D.blt f ds with
    | some r => .ok (.d r) st
    | none => .bad
  | none => .bad
def lenDic (vs : List Val) (st : Store) : Option Nat :=
  match vs with
  | [.ref n] => match st[n]? with
    | some (.dic kvs) => some kvs.length
    | _ => none
  | _ => none
def bltV (f : Bi) (vs : List Val) (st : Store) : Res Val :=
  match f with
  | .len => match lenDic vs st with
    | some n => .ok (.d (.int n)) st
    | none => bltD .len vs st
  | .zip => match asDs vs with
    | some _ => bltD .zip vs st
    | none => .bad
  | .enum => match asDs vs with
    | some _ => bltD .enum vs st
    | none => .bad
  | .zipS => match asDs vs with
    | some _ => bltD .zipS vs st
    | none => .bad
  | f => bltD f vs st
/-- methods of cells and data -/
def mAppend (n : Nat) (st : Store) : List Val → Res Val
  | [.d x] => match st[n]? with
    | some (.lst xs) => if xs.length < LIM then .ok (.d .non) (st.set n (.lst (xs ++ [x]))) else .bad
    | _ => .bad
  | _ => .bad
def mExtend (n : Nat) (st : Store) : List Val → Res Val
  | [.d (.lst ys)] => match st[n]? with
    | some (.lst xs) => if xs.length + ys.length ≤ LIM then .ok (.d .non) (st.set n (.lst (xs ++ ys))) else .bad
    | _ => .bad
  | _ => .bad
def mPop (n : Nat) (st : Store) : List Val → Res Val
  | [] => match st[n]? with
    | some (.lst xs) => match xs[xs.length - 1]? with
      | some y => .ok (.d y) (st.set n (.lst xs.dropLast))
      | none => .bad
    | _ => .bad
  | _ => .bad
def mPop0 (n : Nat) (st : Store) : List Val → Res Val
  | [] => match st[n]? with
    | some (.lst (y :: ys)) => .ok (.d y) (st.set n (.lst ys))
    | _ => .bad
  | _ => .bad
def mSetdefault (n : Nat) (st : Store) : List Val → Res Val
  | [.d k, .d v] => match st[n]? with
    | some (.dic kvs) => if k.key && decide (kvs.length < LIM) then (match lookK kvs k with
      | some w => .ok (.d w) st
      | none => .ok (.d v) (st.set n (.dic (putK kvs k v)))) else .bad
    | _ => .bad
  | _ => .bad
def mGet (n : Nat) (st : Store) : List Val → Res Val
  | [.d k, .d v] => match st[n]? with
    | some (.dic kvs) => if k.key then .ok (.d ((lookK kvs k).getD v)) st else .bad
    | _ => .bad
  | _ => .bad
def mBits (st : Store) : D → List Val → Res Val
  | .int i, [] => .ok (.d (.int (intBits i))) st
  | _, _ => .bad
def D.strs : List D → Option (List String)
  | [] => some []
  | .str x :: r => (D.strs r).map (x :: ·)
  | _ :: _ => none
def joinS (a : String) : List String → String
  | [] => ""
  | [x] => x
  | x :: y :: r => x ++ a ++ joinS a (y :: r)
def mJoin (st : Store) : D → List Val → Res Val
  | .str a, [.d (.lst xs)] => match D.strs xs with
    | some ys => if (ys.map (·.length)).sum + ys.length * a.length ≤ LIM then .ok (.d (.str (joinS a ys))) st else .bad
    | none => .bad
  | _, _ => .bad
def mReverse (n : Nat) (st : Store) : List Val → Res Val
  | [] => match st[n]? with
    | some (.lst xs) => .ok (.d .non) (st.set n (.lst xs.reverse))
    | _ => .bad
  | _ => .bad
def mthV (m : Mt) (o : Val) (vs : List Val) (st : Store) : Res Val :=
  match m, o with
  | .append, .ref n => mAppend n st vs
  | .extend, .ref n => mExtend n st vs
  | .pop, .ref n => mPop n st vs
  | .pop0, .ref n => mPop0 n st vs
  | .reverse, .ref n => mReverse n st vs
  | .setdefault, .ref n => mSetdefault n st vs
  | .get, .ref n => mGet n st vs
  | .bit_length, .d x => mBits st x vs
  | .join, .d x => mJoin st x vs
  | _, _ => .bad
/-- the receiver's kind, ahead of the arguments -/
def mthOk (m : Mt) (o : Val) (st : Store) : Bool :=
  match m, o with
  | .append, .ref n | .extend, .ref n | .pop, .ref n | .pop0, .ref n | .reverse, .ref n => match st[n]? with
    | some (.lst _) => true
    | _ => false
  | .setdefault, .ref n | .get, .ref n => match st[n]? with
    | some (.dic _) => true
    | _ => false
  | .bit_length, .d (.int _) => true
  | .join, .d (.str _) => true
  | _, _ => false
/-- what a dict that is never changed tells of a text -/
def kdV (o : Kq) (kvs : List (String × D)) : Val → Option D
  | .d (.str z) => match o with
    | .get => some ((kvs.lookup z).getD .non)
    | .isin => some (.bool (kvs.lookup z).isSome)
    | .notin => some (.bool (!(kvs.lookup z).isSome))
    | .idx => kvs.lookup z
  | _ => none
def kddV (kvs : List (String × D)) : Val → Val → Option D
  | .d (.str z), .d v => some ((kvs.lookup z).getD v)
  | _, _ => none
def revV : D → Option D
  | .lst xs => some (.lst xs.reverse)
  | _ => none
def optR {α : Type} (o : Option α) (st : Store) : Res α :=
  match o with
  | some a => .ok a st
  | none => .bad
@[simp] theorem optR_some {α : Type} (a : α) (st : Store) : optR (some a) st = .ok a st := rfl
@[simp] theorem optR_none {α : Type} (st : Store) : optR (none : Option α) st = .bad := rfl
theorem optR_ok {α : Type} {o : Option α} {st st' : Store} {a : α} (h : optR o st = .ok a st') : o = some a ∧ st' = st := by
  cases o with
  | none => cases h
  | some b => cases h; exact ⟨rfl, rfl⟩

/-! ### the arena -/
def arenaOf (st : Store) : Option (List Obj) :=
  match st[(0 : Nat)]? with
  | some (.arena os) => some os
  | _ => none
def getO (st : Store) : Val → Option (Nat × Obj)
  | .d (.oid n) => match arenaOf st with
    | some os => (os[n]?).map fun o => (n, o)
    | none => none
  | _ => none
def putO (st : Store) (n : Nat) (o : Obj) : Store :=
  match arenaOf st with
  | some os => st.set 0 (.arena (os.set n o))
  | none => st
def pushO (st : Store) (o : Obj) : Res Val :=
  match arenaOf st with
  | some os => .ok (.d (.oid os.length)) (st.set 0 (.arena (os ++ [o])))
  | none => .bad
def lookF (f : String) : List (String × D) → Option D
  | [] => none
  | (g, x) :: r => if f = g then some x else lookF f r
def putFd (f : String) (x : D) : List (String × D) → List (String × D)
  | [] => [(f, x)]
  | (g, y) :: r => if g = f then (g, x) :: r else (g, y) :: putFd f x r
def fldV (st : Store) (v : Val) (c f : String) : Option D :=
  match getO st v with
  | some (_, .inst c' fs) => if c' = c then lookF f fs else none
  | _ => none
def setFV (st : Store) (v : Val) (c f : String) (x : D) : Option Store :=
  match getO st v with
  | some (n, .inst c' fs) => if c' = c ∧ fs.length < 1000 then some (putO st n (.inst c (putFd f x fs))) else none
  | _ => none
/-- what a list of the arena holds -/
def lstO (st : Store) (v : Val) : Option D :=
  match getO st v with
  | some (_, .lst xs) => some (.lst xs)
  | _ => none
/-- the content of a list, be it of the arena or not -/
def anyD (st : Store) (v : Val) : Option D :=
  match lstO st v with
  | some d => some d
  | none => deref st v
def anyV (q : Aq) (st : Store) (v : Val) (vs : List Val) : Option D :=
  match anyD st v with
  | some d => match q, vs with
    | .isi ts, [] => isiV ts d
    | .len, [] => D.bLen [d]
    | .idx, [.d k] => d.index k
    | _, _ => none
  | none => none
/-- it is of this class, and has no such attribute -/
def methOk (st : Store) (v : Val) (c m : String) : Bool :=
  match getO st v with
  | some (_, .inst c' fs) => decide (c' = c) && (lookF m fs).isNone
  | _ => false
def oqV (q : Oq) (st : Store) (v : Val) (vs : List Val) : Option D :=
  match getO st v with
  | some (_, .lst xs) => match q, vs with
    | .len, [] => some (.int xs.length)
    | .tup, [] => some (.tup xs)
    | .isnil, [] => some (.bool xs.isEmpty)
    | .notnil, [] => some (.bool (!xs.isEmpty))
    | .idx, [.d (.int i)] => atI xs i
    | _, _ => none
  | some (_, .dic kvs) => match q, vs with
    | .len, [] => some (.int kvs.length)
    | .idx, [.d k] => if k.key then lookK kvs k else none
    | .get, [.d k, .d v] => if k.key then some ((lookK kvs k).getD v) else none
    | _, _ => none
  | _ => none
def oinV (st : Store) (k v : Val) : Option Bool :=
  match k, getO st v with
  | .d k, some (_, .dic kvs) => if k.key then some (lookK kvs k).isSome else none
  | _, _ => none
def omV (m : Om) (st : Store) (v : Val) (vs : List Val) : Res Val :=
  match getO st v with
  | some (n, .lst xs) => match m, vs with
    | .append, [.d x] => if xs.length < LIM then .ok (.d .non) (putO st n (.lst (xs ++ [x]))) else .bad
    | .extend, [.d (.lst ys)] => if xs.length + ys.length ≤ LIM then .ok (.d .non) (putO st n (.lst (xs ++ ys))) else .bad
    | .pop, [] => match xs[xs.length - 1]? with
      | some y => .ok (.d y) (putO st n (.lst xs.dropLast))
      | none => .bad
    | .reverse, [] => .ok (.d .non) (putO st n (.lst xs.reverse))
    | _, _ => .bad
  | _ => .bad
def omOk (st : Store) (v : Val) : Bool :=
  match getO st v with
  | some (_, .lst _) => true
  | _ => false
/-- the keys of a dict, in order -/
def dkeysV (st : Store) : Val → Option D
  | .ref n => match st[n]? with
    | some (.dic kvs) => (D.ints (kvs.map (·.1))).bind fun l => if l.length < 64 then some (.lst ((sortI l).map .int)) else none
    | _ => none
  | v => match getO st v with
    | some (_, .dic kvs) => (D.ints (kvs.map (·.1))).bind fun l => if l.length < 64 then some (.lst ((sortI l).map .int)) else none
    | _ => none
/-- whether a list is not empty -/
def nnV (st : Store) : Val → Option D
  | .ref n => match st[n]? with
    | some (.lst xs) => some (.bool (!xs.isEmpty))
    | _ => none
  | _ => none
/-- an error's field -/
def xfldV (f : String) : Val → Option D
  | .d (.exn _ ns as) => lookF f (ns.zip as)
  | _ => none
/-- whether an error is of a class, by its own -/
def isxV (tb : List (String × Bool)) : Val → Option D
  | .d (.exn c [] []) => (tb.lookup c).map .bool
  | _ => none
def exnOf (c : String) (as : List (String × D)) : D := .exn c (as.map (·.1)) (as.map (·.2))
def setOV (st : Store) (o i : Val) (x : D) : Option Store :=
  match getO st o, i with
  | some (n, .dic kvs), .d k => if k.key && decide (kvs.length < LIM) then some (putO st n (.dic (putK kvs k x))) else none
  | _, _ => none
/-! ### targets -/
def wipe (σ : Env) : List Nat → Env
  | [] => σ
  | v :: vs => (wipe σ vs).set v none
mutual
def Tg.slots : Tg → List Nat
  | .name i => [i]
  | .tup ts => Tg.slotss ts
  | .star pre i post => pre ++ i :: post
def Tg.slotss : List Tg → List Nat
  | [] => []
  | t :: r => t.slots ++ Tg.slotss r
end
def setAll : List Nat → List D → Env → Option Env
  | [], [], σ => some σ
  | i :: is, x :: xs, σ => setAll is xs (σ.set i (some (.d x)))
  | _, _, _ => none
mutual
def Tg.put : Tg → D → Env → Option Env
  | .name i, x, σ => some (σ.set i (some (.d x)))
  | .tup ts, .tup xs, σ => Tg.puts ts xs σ
  | .tup ts, .lst xs, σ => Tg.puts ts xs σ
  | .tup _, _, _ => none
  | .star pre i post, x, σ => match x.seq with
    | none => none
    | some xs => if xs.length < pre.length + post.length then none else
      match setAll pre (xs.take pre.length) σ with
      | none => none
      | some σ1 => setAll post (xs.drop (xs.length - post.length)) (σ1.set i (some (.d (.lst ((xs.drop pre.length).take (xs.length - pre.length - post.length))))))
def Tg.puts : List Tg → List D → Env → Option Env
  | [], [], σ => some σ
  | t :: ts, x :: xs, σ => (t.put x σ).bind fun σ1 => Tg.puts ts xs σ1
  | [], _ :: _, _ => none
  | _ :: _, [], _ => none
end
def Tg.putV (t : Tg) (v : Val) (σ : Env) : Option Env :=
  match t, v with
  | .name i, v => some (σ.set i (some v))
  | t, .d x => t.put x σ
  | _, _ => none
def Tg.putF (t : Tg) : D → Env → Option Env := t.put
theorem Tg.putF_eq (t : Tg) (y : D) (σ : Env) : t.putF y σ = t.put y σ := rfl
/-- a comprehension's turns -/
def compL (f : D → Store → Res (Option D)) : List D → Store → Res (List D)
  | [], st => .ok [] st
  | x :: r, st => (f x st).bind fun y s1 => (compL f r s1).bind fun ys s2 => .ok (match y with | some y => y :: ys | none => ys) s2
def asD : Val → Option D
  | .d x => some x
  | .ref _ => none
def asB : Val → Option Bool
  | .d (.bool b) => some b
  | _ => none
def asI : Val → Option Int
  | .d (.int i) => some i
  | _ => none

/-- one turn of a comprehension -/
def compStep (f : Env → Store → Res Val) (g : Env → Store → Res Bool) (tg : Tg) (σ : Env) (y : D) (s : Store) : Res (Option D) :=
  (optR (tg.put y σ) s).bind fun σ1 s4 => (g σ1 s4).bind fun b s5 => if b then (f σ1 s5).bind fun z s6 => (optR (asD z) s6).bind fun d s7 => .ok (some d) s7 else .ok none s5
/-- the content of a list of the arena -/
def lstOf (st : Store) (v : Val) : Option (List D) :=
  match getO st v with
  | some (_, .lst xs) => some xs
  | _ => none
/-- a turn over a list of the arena, which stays as it is -/
def guardO {α : Type} (x : Val) (xs : List D) (r : Res α) (s : Store) : Res α := @ite _ (lstOf s x = some xs) (Classical.propDecidable _) r .bad
def guardL (x : Val) (xs : List D) (f : D → Store → Res (Option D)) (y : D) (s : Store) : Res (Option D) := guardO x xs (f y s) s
theorem guardO_of {α : Type} {x : Val} {xs : List D} {r : Res α} {s : Store} (h : lstOf s x = some xs) : guardO x xs r s = r := if_pos h
theorem guardO_inv {α : Type} {x : Val} {xs : List D} {r : Res α} {s s' : Store} {a : α} (h : guardO x xs r s = .ok a s') : lstOf s x = some xs ∧ r = .ok a s' := by
  by_cases c : lstOf s x = some xs
  · exact ⟨c, by rw [← h, guardO_of c]⟩
  · have e : guardO x xs r s = .bad := if_neg c
    rw [e] at h; cases h
/-- a test -/
def condB (f : Env → Store → Res Val) (σ : Env) (st : Store) : Res Bool := (f σ st).bind fun x s1 => optR (asB x) s1
mutual
def eval (C : Calls) : Ex → Env → Store → Res Val
  | .var i, σ, st => match σ[i]? with
    | some (some v) => .ok v st
    | _ => .bad
  | .con d, _, st => .ok (.d d) st
  | .tup es, σ, st => (evals C es σ st).bind fun vs s1 => (optR (asDs vs) s1).bind fun ds s2 => .ok (.d (.tup ds)) s2
  | .lst es, σ, st => (evals C es σ st).bind fun vs s1 => (optR (asDs vs) s1).bind fun ds s2 => .ok (.d (.lst ds)) s2
  | .newL e, σ, st => (eval C e σ st).bind fun v s1 => match v with
    | .d (.lst xs) => .ok (.ref s1.length) (s1 ++ [.lst xs])
    | _ => .bad
  | .newD, _, st => .ok (.ref st.length) (st ++ [.dic []])
  | .newDC e, σ, st => (eval C e σ st).bind fun v s1 => match v with
    | .ref n => match s1[n]? with
      | some (.dic kvs) => .ok (.ref s1.length) (s1 ++ [.dic kvs])
      | _ => .bad
    | _ => .bad
  | .newDP e, σ, st => (eval C e σ st).bind fun v s1 => match v with
    | .d (.lst xs) => match mergeP [] xs with
      | some kvs => .ok (.ref s1.length) (s1 ++ [.dic kvs])
      | none => .bad
    | _ => .bad
  | .newDd es, σ, st => (evals C es σ st).bind fun us s1 => (optR (asDs us) s1).bind fun ds s2 => match mergeF [] ds with
    | some kvs => .ok (.ref s2.length) (s2 ++ [.dic kvs])
    | none => .bad
  | .frz e, σ, st => (eval C e σ st).bind fun v s1 => match v with
    | .ref n => match s1[n]? with
      | some (.lst xs) => .ok (.d (.lst xs)) (s1.set n .dead)
      | _ => .bad
    | _ => .bad
  | .frzT e, σ, st => (eval C e σ st).bind fun v s1 => match v with
    | .ref n => if st.length ≤ n then match s1[n]? with
      | some (.lst xs) => .ok (.d (.lst xs)) (s1.take st.length)
      | _ => .bad
      else .bad
    | _ => .bad
  | .bin o a b, σ, st => (eval C a σ st).bind fun x s1 => (eval C b σ s1).bind fun y s2 => (optR (deref s2 x) s2).bind fun p s3 => (optR (deref s2 y) s3).bind fun q s4 => (optR (D.bin o p q) s4).bind fun r s5 => .ok (.d r) s5
  | .neg a, σ, st => (eval C a σ st).bind fun x s1 => (optR (asI x) s1).bind fun i s2 => .ok (.d (.int (-i))) s2
  | .cmp o a b, σ, st => (eval C a σ st).bind fun x s1 => (eval C b σ s1).bind fun y s2 => (optR (cmpV o s2 x y) s2).bind fun r s3 => .ok (.d (.bool r)) s3
  | .chain o o' a b c, σ, st => (eval C a σ st).bind fun x s1 => (eval C b σ s1).bind fun y s2 => (optR (cmpV o s2 x y) s2).bind fun r s3 =>
      if r then (eval C c σ s3).bind fun z s4 => (optR (cmpV o' s4 y z) s4).bind fun q s5 => .ok (.d (.bool q)) s5 else .ok (.d (.bool false)) s3
  | .and a b, σ, st => (eval C a σ st).bind fun x s1 => (optR (asB x) s1).bind fun c s2 => if c then eval C b σ s2 else .ok (.d (.bool false)) s2
  | .or a b, σ, st => (eval C a σ st).bind fun x s1 => (optR (asB x) s1).bind fun c s2 => if c then .ok (.d (.bool true)) s2 else eval C b σ s2
  | .not a, σ, st => (eval C a σ st).bind fun x s1 => (optR (asB x) s1).bind fun c s2 => .ok (.d (.bool (!c))) s2
  | .ite c a b, σ, st => (eval C c σ st).bind fun x s1 => (optR (asB x) s1).bind fun c s2 => if c then eval C a σ s2 else eval C b σ s2
  | .idx a b, σ, st => (eval C a σ st).bind fun x s1 => (eval C b σ s1).bind fun y s2 => (optR (indexV s2 x y) s2).bind fun r s3 => .ok (.d r) s3
  | .sli a lo hi, σ, st => (eval C a σ st).bind fun x s1 => (evalO C lo σ s1).bind fun l s2 => (evalO C hi σ s2).bind fun h s3 => (optR (deref s3 x) s3).bind fun p s4 => (optR (p.slice l h) s4).bind fun r s5 => .ok (.d r) s5
  | .call f es, σ, st => (evals C es σ st).bind fun vs s1 => C f vs s1
  | .callP f es perm, σ, st => (evals C es σ st).bind fun vs s1 => C f (perm.filterMap fun i => vs[i]?) s1
  | .blt f es, σ, st => (evals C es σ st).bind fun vs s1 => bltV f vs s1
  | .mth m o es, σ, st => (eval C o σ st).bind fun x s1 => if mthOk m x s1 then (evals C es σ s1).bind fun vs s2 => mthV m x vs s2 else .bad
  | .isi e ts, σ, st => (eval C e σ st).bind fun x s1 => (optR (deref s1 x) s1).bind fun p s2 => (optR (isiV ts p) s2).bind fun r s3 => .ok (.d r) s3
  | .fs es, σ, st => (evals C es σ st).bind fun vs s1 => (optR (asDs vs) s1).bind fun ds s2 => (optR (D.strs ds) s2).bind fun ys s3 => if (ys.map (·.length)).sum ≤ LIM then .ok (.d (.str (joinS "" ys))) s3 else .bad
  | .kd o kvs e, σ, st => (eval C e σ st).bind fun x s1 => (optR (kdV o kvs x) s1).bind fun r s2 => .ok (.d r) s2
  | .rev e, σ, st => (eval C e σ st).bind fun x s1 => (optR (deref s1 x) s1).bind fun p s2 => (optR (revV p) s2).bind fun r s3 => .ok (.d r) s3
  | .comp elt tg it cs, σ, st => (eval C it σ st).bind fun x s1 => (optR (asD x) s1).bind fun p s2 => (optR p.seq s2).bind fun xs s3 =>
      (compL (compStep (eval C elt) (conds C cs) tg (wipe σ tg.slots)) xs s3).bind fun ys s8 => .ok (.d (.lst ys)) s8
  | .newI c, σ, st => pushO st (.inst c [])
  | .newO e, σ, st => (eval C e σ st).bind fun v s1 => match v with
    | .d (.lst xs) => pushO s1 (.lst xs)
    | _ => .bad
  | .newOD, σ, st => pushO st (.dic [])
  | .fld c o f, σ, st => (eval C o σ st).bind fun x s1 => (optR (fldV s1 x c f) s1).bind fun r s2 => .ok (.d r) s2
  | .meth c m o es, σ, st => (eval C o σ st).bind fun x s1 => if methOk s1 x c m then (evals C es σ s1).bind fun vs s2 => C (c ++ "." ++ m) (x :: vs) s2 else .bad
  | .oq q o es, σ, st => (eval C o σ st).bind fun x s1 => (evals C es σ s1).bind fun vs s2 => (optR (oqV q s2 x vs) s2).bind fun r s3 => .ok (.d r) s3
  | .oin b k o, σ, st => (eval C k σ st).bind fun y s1 => (eval C o σ s1).bind fun x s2 => (optR (oinV s2 y x) s2).bind fun r s3 => .ok (.d (.bool (r != b))) s3
  | .om m o es, σ, st => (eval C o σ st).bind fun x s1 => if omOk s1 x then (evals C es σ s1).bind fun vs s2 => omV m s2 x vs else .bad
  | .dkeys e, σ, st => (eval C e σ st).bind fun x s1 => (optR (dkeysV s1 x) s1).bind fun r s2 => .ok (.d r) s2
  | .nn e, σ, st => (eval C e σ st).bind fun x s1 => (optR (nnV s1 x) s1).bind fun r s2 => .ok (.d r) s2
  | .xfld e f, σ, st => (eval C e σ st).bind fun x s1 => (optR (xfldV f x) s1).bind fun r s2 => .ok (.d r) s2
  | .isx e tb, σ, st => (eval C e σ st).bind fun x s1 => (optR (isxV tb x) s1).bind fun r s2 => .ok (.d r) s2
  | .anyQ q e es, σ, st => (eval C e σ st).bind fun x s1 => (evals C es σ s1).bind fun vs s2 => (optR (anyV q s2 x vs) s2).bind fun r s3 => .ok (.d r) s3
  | .kdd kvs e f, σ, st => (eval C e σ st).bind fun x s1 => (eval C f σ s1).bind fun y s2 => (optR (kddV kvs x y) s2).bind fun r s3 => .ok (.d r) s3
  | .newX c f e, σ, st => (eval C e σ st).bind fun x s1 => (optR (asD x) s1).bind fun d s2 => .ok (.d (exnOf c [(f, d)])) s2
  | .callV fs o es, σ, st => (eval C o σ st).bind fun x s1 => match x with
    | .d (.fn f) => if f ∈ fs then (evals C es σ s1).bind fun vs s2 => C f vs s2 else .bad
    | _ => .bad
  | .compO elt tg o cs, σ, st => (eval C o σ st).bind fun x s1 => (optR (lstOf s1 x) s1).bind fun xs s3 =>
      (compL (guardL x xs (compStep (eval C elt) (conds C cs) tg (wipe σ tg.slots))) xs s3).bind fun ys s8 => guardO x xs (.ok (.d (.lst ys)) s8) s8
def evals (C : Calls) : List Ex → Env → Store → Res (List Val)
  | [], _, st => .ok [] st
  | e :: es, σ, st => (eval C e σ st).bind fun v s1 => (evals C es σ s1).bind fun vs s2 => .ok (v :: vs) s2
def evalO (C : Calls) : Option Ex → Env → Store → Res (Option Int)
  | none, _, st => .ok none st
  | some e, σ, st => (eval C e σ st).bind fun v s1 => (optR (asI v) s1).bind fun i s2 => .ok (some i) s2
def conds (C : Calls) : List Ex → Env → Store → Res Bool
  | [], _, st => .ok true st
  | e :: es, σ, st => (eval C e σ st).bind fun v s1 => (optR (asB v) s1).bind fun c s2 => if c then conds C es σ s2 else .ok false s2
end

/-! ### statements -/
inductive Out where
  | nx (σ : Env) | ret (v : Val) | brk (σ : Env) | cnt (σ : Env) | thr (c : String) (as : List (String × D)) (σ : Env)
/-- a for's turns -/
def loopL (g : D → Env → Option Env) (f : Env → Store → Res Out) : List D → Env → Store → Res Out
  | [], σ, st => .ok (.nx σ) st
  | x :: r, σ, st => (optR (g x σ) st).bind fun σ1 s1 => (f σ1 s1).bind fun o s2 => match o with
    | .nx σ2 => loopL g f r σ2 s2
    | .cnt σ2 => loopL g f r σ2 s2
    | .brk σ2 => .ok (.nx σ2) s2
    | .ret v => .ok (.ret v) s2
    | .thr c as σ2 => .ok (.thr c as σ2) s2
/-- a while's turns -/
def whileL (c : Env → Store → Res Bool) (f : Env → Store → Res Out) : Nat → Env → Store → Res Out
  | 0, _, _ => .bad
  | n + 1, σ, st => (c σ st).bind fun b s1 => if b then (f σ s1).bind fun o s2 => (match o with
    | .nx σ2 => whileL c f n σ2 s2
    | .cnt σ2 => whileL c f n σ2 s2
    | .brk σ2 => .ok (.nx σ2) s2
    | .ret v => .ok (.ret v) s2
    | .thr c as σ2 => .ok (.thr c as σ2) s2) else .ok (.nx σ) s1
def setV (o i : Val) (x : D) (st : Store) : Option Store :=
  match o, i with
  | .ref n, .d (.int k) => match st[n]? with
    | some (.lst xs) => (ixN xs.length k).map fun j => st.set n (.lst (xs.set j x))
    | some (.dic kvs) => if kvs.length < LIM then some (st.set n (.dic (putK kvs (.int k) x))) else none
    | _ => none
  | .ref n, .d (.str k) => match st[n]? with
    | some (.dic kvs) => if kvs.length < LIM then some (st.set n (.dic (putK kvs (.str k) x))) else none
    | _ => none
  | _, _ => none
def augI : Op → Int → Int → Option Int
  | .add, i, j => some (i + j)
  | .sub, i, j => some (i - j)
  | _, _, _ => none
theorem whileL_mono {c : Env → Store → Res Bool} {f : Env → Store → Res Out} : ∀ {n m : Nat} {σ : Env} {st : Store} {r : Out} {s : Store}, n ≤ m → whileL c f n σ st = .ok r s → whileL c f m σ st = .ok r s
  | 0, _, _, _, _, _, _, h => by simp [whileL] at h
  | n + 1, 0, _, _, _, _, hl, _ => by omega
  | n + 1, m + 1, σ, st, r, s, hl, h => by
    rw [whileL] at h ⊢
    obtain ⟨b, s1, e1, h1⟩ := Res.bind_eq_ok h
    rw [e1, Res.bind_ok]
    cases b with
    | false => simpa using h1
    | true =>
      simp only [if_true] at h1 ⊢
      obtain ⟨o, s2, e2, h2⟩ := Res.bind_eq_ok h1
      rw [e2, Res.bind_ok]
      cases o with
      | nx σ2 => exact whileL_mono (by omega) h2
      | cnt σ2 => exact whileL_mono (by omega) h2
      | brk σ2 => exact h2
      | ret v => exact h2
      | thr c as σ2 => exact h2
open Classical in
/-- a while: as many turns as it takes -/
noncomputable def whileU (c : Env → Store → Res Bool) (f : Env → Store → Res Out) (σ : Env) (st : Store) : Res Out :=
  if h : ∃ n r s, whileL c f n σ st = .ok r s then whileL c f h.choose σ st else .bad
theorem whileU_of {c : Env → Store → Res Bool} {f : Env → Store → Res Out} {n : Nat} {σ : Env} {st : Store} {r : Out} {s : Store} (h : whileL c f n σ st = .ok r s) : whileU c f σ st = .ok r s := by
  have hx : ∃ n r s, whileL c f n σ st = .ok r s := ⟨n, r, s, h⟩
  unfold whileU
  rw [dif_pos hx]
  obtain ⟨r', s', e⟩ := hx.choose_spec
  rw [e]
  have h1 := whileL_mono (Nat.le_max_left n hx.choose) h
  have h2 := whileL_mono (Nat.le_max_right n hx.choose) e
  rw [h1] at h2
  exact h2.symm
theorem whileU_ok {c : Env → Store → Res Bool} {f : Env → Store → Res Out} {σ : Env} {st : Store} {r : Out} {s : Store} (h : whileU c f σ st = .ok r s) : ∃ n, whileL c f n σ st = .ok r s := by
  unfold whileU at h
  split at h
  · exact ⟨_, h⟩
  · cases h
/-- a handler throws nothing -/
def noThr (o : Out) (s : Store) : Res Out :=
  match o with
  | .thr _ _ _ => .bad
  | o => .ok o s
@[simp] theorem noThr_nx (σ : Env) (s : Store) : noThr (.nx σ) s = .ok (.nx σ) s := rfl
@[simp] theorem noThr_ret (v : Val) (s : Store) : noThr (.ret v) s = .ok (.ret v) s := rfl
/-- nothing raised -/
def noexc {α : Type} : Res α → Res α
  | .ok a st => .ok a st
  | _ => .bad
@[simp] theorem noexc_ok {α : Type} (a : α) (st : Store) : noexc (.ok a st) = .ok a st := rfl
@[simp] theorem noexc_bad {α : Type} : noexc (.bad : Res α) = .bad := rfl
theorem noexc_inv {α : Type} {r : Res α} {a : α} {st : Store} (h : noexc r = .ok a st) : r = .ok a st := by
  cases r with
  | ok b s => exact h
  | exc c as s => cases h
  | bad => cases h
/-- what is raised goes on as a way out -/
def catchX {α : Type} (r : Res α) (σ : Env) (f : α → Store → Res Out) : Res Out :=
  match r with
  | .ok a st => f a st
  | .exc c as st => .ok (.thr c as σ) st
  | .bad => .bad
@[simp] theorem catchX_ok {α : Type} (a : α) (st : Store) (σ : Env) (f : α → Store → Res Out) : catchX (.ok a st) σ f = f a st := rfl
@[simp] theorem catchX_exc {α : Type} (c as) (st : Store) (σ : Env) (f : α → Store → Res Out) : catchX (.exc c as st) σ f = .ok (.thr c as σ) st := rfl
@[simp] theorem catchX_bad {α : Type} (σ : Env) (f : α → Store → Res Out) : catchX .bad σ f = .bad := rfl
mutual
def evalX (C : Calls) : EX → Env → Store → Res Val
  | .p e, σ, st => noexc (eval C e σ st)
  | .call f es, σ, st => (evalXs C es σ st).bind fun vs s1 => C f vs s1
  | .callP f es perm, σ, st => (evalXs C es σ st).bind fun vs s1 => C f (perm.filterMap fun i => vs[i]?) s1
  | .ite c a b, σ, st => (noexc (eval C c σ st)).bind fun x s1 => (optR (asB x) s1).bind fun c s2 => if c then evalX C a σ s2 else evalX C b σ s2
  | .meth c m o es, σ, st => (noexc (eval C o σ st)).bind fun x s1 => if methOk s1 x c m then (evalXs C es σ s1).bind fun vs s2 => C (c ++ "." ++ m) (x :: vs) s2 else .bad
  | .methN c m o es, σ, st => (noexc (eval C o σ st)).bind fun x s1 => if methOk s1 x c m then (evalXs C es σ s1).bind fun vs s2 => noexc (C (c ++ "." ++ m) (x :: vs) s2) else .bad
def evalXs (C : Calls) : List EX → Env → Store → Res (List Val)
  | [], _, st => .ok [] st
  | e :: es, σ, st => (evalX C e σ st).bind fun v s1 => (evalXs C es σ s1).bind fun vs s2 => .ok (v :: vs) s2
end
mutual
noncomputable def exec (C : Calls) : Stm → Env → Store → Res Out
  | .asg t e, σ, st => (eval C e σ st).bind fun v s1 => (optR (t.putV v σ) s1).bind fun σ1 s2 => .ok (.nx σ1) s2
  | .par i j a b, σ, st => (eval C a σ st).bind fun x s1 => (eval C b σ s1).bind fun y s2 => .ok (.nx ((σ.set i (some x)).set j (some y))) s2
  | .set o i e, σ, st => (eval C e σ st).bind fun v s1 => (eval C o σ s1).bind fun x s2 => (eval C i σ s2).bind fun k s3 => (optR (asD v) s3).bind fun d s4 => (optR (setV x k d s4) s4).bind fun s5 _ => .ok (.nx σ) s5
  | .ex e, σ, st => (eval C e σ st).bind fun _ s1 => .ok (.nx σ) s1
  | .ret e, σ, st => (eval C e σ st).bind fun v s1 => .ok (.ret v) s1
  | .ite c a b, σ, st => (eval C c σ st).bind fun x s1 => (optR (asB x) s1).bind fun c s2 => if c then execs C a σ s2 else execs C b σ s2
  | .loop t it body, σ, st => (eval C it σ st).bind fun x s1 => (optR (asD x) s1).bind fun p s2 => (optR p.seq s2).bind fun xs s3 => loopL t.putF (execs C body) xs σ s3
  | .while c body, σ, st => whileU (condB (eval C c)) (execs C body) σ st
  | .aug i o e, σ, st => match σ[i]? with
    | some (some x) => (eval C e σ st).bind fun y s1 => (optR (asI x) s1).bind fun p s2 => (optR (asI y) s2).bind fun q s3 => (optR (augI o p q) s3).bind fun r s4 => .ok (.nx (σ.set i (some (.d (.int r))))) s4
    | _ => .bad
  | .pass, σ, st => .ok (.nx σ) st
  | .brk, σ, st => .ok (.brk σ) st
  | .cnt, σ, st => .ok (.cnt σ) st
  | .never, _, _ => .bad
  | .asgX t e, σ, st => catchX (evalX C e σ st) σ fun v s1 => (optR (t.putV v σ) s1).bind fun σ1 s2 => .ok (.nx σ1) s2
  | .exX e, σ, st => catchX (evalX C e σ st) σ fun _ s1 => .ok (.nx σ) s1
  | .retX e, σ, st => catchX (evalX C e σ st) σ fun v s1 => .ok (.ret v) s1
  | .raise c, σ, st => .ok (.thr c [] σ) st
  | .tryX body c h, σ, st => (execs C body σ st).bind fun o s1 => match o with
    | .thr c' as σ1 => if c' = c then (execs C h σ1 s1).bind noThr else .bad
    | o => .ok o s1
  | .tryX2 body c h c2 h2, σ, st => (execs C body σ st).bind fun o s1 => match o with
    | .thr c' as σ1 => if c' = c then (execs C h σ1 s1).bind noThr else if c' = c2 then (execs C h2 σ1 s1).bind noThr else .bad
    | o => .ok o s1
  | .setf c o f e, σ, st => (eval C e σ st).bind fun v s1 => (eval C o σ s1).bind fun x s2 => (optR (asD v) s2).bind fun d s3 => (optR (setFV s3 x c f d) s3).bind fun s4 _ => .ok (.nx σ) s4
  | .augf c o f p e, σ, st => (eval C o σ st).bind fun x s1 => (optR (fldV s1 x c f) s1).bind fun a s2 => (optR (asI (.d a)) s2).bind fun i s3 => (eval C e σ s3).bind fun y s4 => (optR (asI y) s4).bind fun j s5 => (optR (augI p i j) s5).bind fun r s6 => (optR (setFV s6 x c f (.int r)) s6).bind fun s7 _ => .ok (.nx σ) s7
  | .setO o i e, σ, st => (eval C e σ st).bind fun v s1 => (eval C o σ s1).bind fun x s2 => (eval C i σ s2).bind fun k s3 => (optR (asD v) s3).bind fun d s4 => (optR (setOV s4 x k d) s4).bind fun s5 _ => .ok (.nx σ) s5
  | .asgO t e, σ, st => (eval C e σ st).bind fun v s1 => (optR (lstO s1 v) s1).bind fun d s2 => (optR (t.put d σ) s2).bind fun σ1 s3 => .ok (.nx σ1) s3
  | .raiseA c f e, σ, st => (eval C e σ st).bind fun x s1 => (optR (asD x) s1).bind fun d s2 => .ok (.thr c [(f, d)] σ) s2
  | .tryK body cs i j cs2 i2 j2, σ, st => (execs C body σ st).bind fun o s1 => match o with
    | .thr c' as σ1 => if c' ∈ cs then .ok (.nx ((σ1.set j (some (.d (exnOf c' as)))).set i none)) s1 else if c' ∈ cs2 then .ok (.nx ((σ1.set j2 (some (.d (exnOf c' as)))).set i2 none)) s1 else .bad
    | o => .ok o s1
  | .tryF body c i f, σ, st => (execs C body σ st).bind fun o s1 => match o with
    | .thr c' as σ1 => if c' = c then (optR (lookF f as) s1).bind fun v s2 => .ok (.ret (.d v)) s2 else .bad
    | o => .ok o s1
noncomputable def execs (C : Calls) : List Stm → Env → Store → Res Out
  | [], σ, st => .ok (.nx σ) st
  | s :: r, σ, st => (exec C s σ st).bind fun o s1 => match o with
    | .nx σ1 => execs C r σ1 s1
    | o => .ok o s1
end
/-! ### the equations, for whole applications alone -/
set_option autoImplicit true in
@[simp] theorem eval_var {C : Calls} {σ : Env} {st : Store} : eval C (Ex.var i) σ st = (match σ[i]? with
    | some (some v) => .ok v st
    | _ => .bad) := rfl
set_option autoImplicit true in
@[simp] theorem eval_con {C : Calls} {σ : Env} {st : Store} : eval C (Ex.con d) σ st = (.ok (.d d) st) := rfl
set_option autoImplicit true in
@[simp] theorem eval_tup {C : Calls} {σ : Env} {st : Store} : eval C (Ex.tup es) σ st = ((evals C es σ st).bind fun vs s1 => (optR (asDs vs) s1).bind fun ds s2 => .ok (.d (.tup ds)) s2) := rfl
set_option autoImplicit true in
@[simp] theorem eval_lst {C : Calls} {σ : Env} {st : Store} : eval C (Ex.lst es) σ st = ((evals C es σ st).bind fun vs s1 => (optR (asDs vs) s1).bind fun ds s2 => .ok (.d (.lst ds)) s2) := rfl
set_option autoImplicit true in
@[simp] theorem eval_newL {C : Calls} {σ : Env} {st : Store} : eval C (Ex.newL e) σ st = ((eval C e σ st).bind fun v s1 => match v with
    | .d (.lst xs) => .ok (.ref s1.length) (s1 ++ [.lst xs])
    | _ => .bad) := rfl
set_option autoImplicit true in
@[simp] theorem eval_newD {C : Calls} {σ : Env} {st : Store} : eval C (Ex.newD) σ st = (.ok (.ref st.length) (st ++ [.dic []])) := rfl
set_option autoImplicit true in
@[simp] theorem eval_newDC {C : Calls} {σ : Env} {st : Store} : eval C (Ex.newDC e) σ st = ((eval C e σ st).bind fun v s1 => match v with
    | .ref n => match s1[n]? with
      | some (.dic kvs) => .ok (.ref s1.length) (s1 ++ [.dic kvs])
      | _ => .bad
    | _ => .bad) := rfl
set_option autoImplicit true in
@[simp] theorem eval_newDP {C : Calls} {σ : Env} {st : Store} : eval C (Ex.newDP e) σ st = ((eval C e σ st).bind fun v s1 => match v with
    | .d (.lst xs) => match mergeP [] xs with
      | some kvs => .ok (.ref s1.length) (s1 ++ [.dic kvs])
      | none => .bad
    | _ => .bad) := rfl
set_option autoImplicit true in
@[simp] theorem eval_newDd {C : Calls} {σ : Env} {st : Store} : eval C (Ex.newDd es) σ st = ((evals C es σ st).bind fun us s1 => (optR (asDs us) s1).bind fun ds s2 => match mergeF [] ds with
    | some kvs => .ok (.ref s2.length) (s2 ++ [.dic kvs])
    | none => .bad) := rfl
set_option autoImplicit true in
@[simp] theorem eval_frz {C : Calls} {σ : Env} {st : Store} : eval C (Ex.frz e) σ st = ((eval C e σ st).bind fun v s1 => match v with
    | .ref n => match s1[n]? with
      | some (.lst xs) => .ok (.d (.lst xs)) (s1.set n .dead)
      | _ => .bad
    | _ => .bad) := rfl
set_option autoImplicit true in
@[simp] theorem eval_frzT {C : Calls} {σ : Env} {st : Store} : eval C (Ex.frzT e) σ st = ((eval C e σ st).bind fun v s1 => match v with
    | .ref n => if st.length ≤ n then match s1[n]? with
      | some (.lst xs) => .ok (.d (.lst xs)) (s1.take st.length)
      | _ => .bad
      else .bad
    | _ => .bad) := rfl
set_option autoImplicit true in
@[simp] theorem eval_bin {C : Calls} {σ : Env} {st : Store} : eval C (Ex.bin o a b) σ st = ((eval C a σ st).bind fun x s1 => (eval C b σ s1).bind fun y s2 => (optR (deref s2 x) s2).bind fun p s3 => (optR (deref s2 y) s3).bind fun q s4 => (optR (D.bin o p q) s4).bind fun r s5 => .ok (.d r) s5) := rfl
set_option autoImplicit true in
@[simp] theorem eval_neg {C : Calls} {σ : Env} {st : Store} : eval C (Ex.neg a) σ st = ((eval C a σ st).bind fun x s1 => (optR (asI x) s1).bind fun i s2 => .ok (.d (.int (-i))) s2) := rfl
set_option autoImplicit true in
@[simp] theorem eval_cmp {C : Calls} {σ : Env} {st : Store} : eval C (Ex.cmp o a b) σ st = ((eval C a σ st).bind fun x s1 => (eval C b σ s1).bind fun y s2 => (optR (cmpV o s2 x y) s2).bind fun r s3 => .ok (.d (.bool r)) s3) := rfl
set_option autoImplicit true in
@[simp] theorem eval_chain {C : Calls} {σ : Env} {st : Store} : eval C (Ex.chain o o' a b c) σ st = ((eval C a σ st).bind fun x s1 => (eval C b σ s1).bind fun y s2 => (optR (cmpV o s2 x y) s2).bind fun r s3 =>
      if r then (eval C c σ s3).bind fun z s4 => (optR (cmpV o' s4 y z) s4).bind fun q s5 => .ok (.d (.bool q)) s5 else .ok (.d (.bool false)) s3) := rfl
set_option autoImplicit true in
@[simp] theorem eval_and {C : Calls} {σ : Env} {st : Store} : eval C (Ex.and a b) σ st = ((eval C a σ st).bind fun x s1 => (optR (asB x) s1).bind fun c s2 => if c then eval C b σ s2 else .ok (.d (.bool false)) s2) := rfl
set_option autoImplicit true in
@[simp] theorem eval_or {C : Calls} {σ : Env} {st : Store} : eval C (Ex.or a b) σ st = ((eval C a σ st).bind fun x s1 => (optR (asB x) s1).bind fun c s2 => if c then .ok (.d (.bool true)) s2 else eval C b σ s2) := rfl
set_option autoImplicit true in
@[simp] theorem eval_not {C : Calls} {σ : Env} {st : Store} : eval C (Ex.not a) σ st = ((eval C a σ st).bind fun x s1 => (optR (asB x) s1).bind fun c s2 => .ok (.d (.bool (!c))) s2) := rfl
set_option autoImplicit true in
@[simp] theorem eval_ite {C : Calls} {σ : Env} {st : Store} : eval C (Ex.ite c a b) σ st = ((eval C c σ st).bind fun x s1 => (optR (asB x) s1).bind fun c s2 => if c then eval C a σ s2 else eval C b σ s2) := rfl
set_option autoImplicit true in
@[simp] theorem eval_idx {C : Calls} {σ : Env} {st : Store} : eval C (Ex.idx a b) σ st = ((eval C a σ st).bind fun x s1 => (eval C b σ s1).bind fun y s2 => (optR (indexV s2 x y) s2).bind fun r s3 => .ok (.d r) s3) := rfl
set_option autoImplicit true in
@[simp] theorem eval_sli {C : Calls} {σ : Env} {st : Store} : eval C (Ex.sli a lo hi) σ st = ((eval C a σ st).bind fun x s1 => (evalO C lo σ s1).bind fun l s2 => (evalO C hi σ s2).bind fun h s3 => (optR (deref s3 x) s3).bind fun p s4 => (optR (p.slice l h) s4).bind fun r s5 => .ok (.d r) s5) := rfl
set_option autoImplicit true in
@[simp] theorem eval_call {C : Calls} {σ : Env} {st : Store} : eval C (Ex.call f es) σ st = ((evals C es σ st).bind fun vs s1 => C f vs s1) := rfl
set_option autoImplicit true in
@[simp] theorem eval_callP {C : Calls} {σ : Env} {st : Store} : eval C (Ex.callP f es perm) σ st = ((evals C es σ st).bind fun vs s1 => C f (perm.filterMap fun i => vs[i]?) s1) := rfl
set_option autoImplicit true in
@[simp] theorem eval_blt {C : Calls} {σ : Env} {st : Store} : eval C (Ex.blt f es) σ st = ((evals C es σ st).bind fun vs s1 => bltV f vs s1) := rfl
set_option autoImplicit true in
@[simp] theorem eval_mth {C : Calls} {σ : Env} {st : Store} : eval C (Ex.mth m o es) σ st = ((eval C o σ st).bind fun x s1 => if mthOk m x s1 then (evals C es σ s1).bind fun vs s2 => mthV m x vs s2 else .bad) := rfl
set_option autoImplicit true in
@[simp] theorem eval_isi {C : Calls} {σ : Env} {st : Store} : eval C (Ex.isi e ts) σ st = ((eval C e σ st).bind fun x s1 => (optR (deref s1 x) s1).bind fun p s2 => (optR (isiV ts p) s2).bind fun r s3 => .ok (.d r) s3) := rfl
set_option autoImplicit true in
@[simp] theorem eval_fs {C : Calls} {σ : Env} {st : Store} : eval C (Ex.fs es) σ st = ((evals C es σ st).bind fun vs s1 => (optR (asDs vs) s1).bind fun ds s2 => (optR (D.strs ds) s2).bind fun ys s3 => if (ys.map (·.length)).sum ≤ LIM then .ok (.d (.str (joinS "" ys))) s3 else .bad) := rfl
set_option autoImplicit true in
@[simp] theorem eval_kd {C : Calls} {σ : Env} {st : Store} : eval C (Ex.kd o kvs e) σ st = ((eval C e σ st).bind fun x s1 => (optR (kdV o kvs x) s1).bind fun r s2 => .ok (.d r) s2) := rfl
set_option autoImplicit true in
@[simp] theorem eval_rev {C : Calls} {σ : Env} {st : Store} : eval C (Ex.rev e) σ st = ((eval C e σ st).bind fun x s1 => (optR (deref s1 x) s1).bind fun p s2 => (optR (revV p) s2).bind fun r s3 => .ok (.d r) s3) := rfl
set_option autoImplicit true in
@[simp] theorem eval_comp {C : Calls} {σ : Env} {st : Store} : eval C (Ex.comp elt tg it cs) σ st = ((eval C it σ st).bind fun x s1 => (optR (asD x) s1).bind fun p s2 => (optR p.seq s2).bind fun xs s3 =>
      (compL (compStep (eval C elt) (conds C cs) tg (wipe σ tg.slots)) xs s3).bind fun ys s8 => .ok (.d (.lst ys)) s8) := rfl
set_option autoImplicit true in
@[simp] theorem eval_callV {C : Calls} {σ : Env} {st : Store} : eval C (Ex.callV fs o es) σ st = ((eval C o σ st).bind fun x s1 => match x with
    | .d (.fn f) => if f ∈ fs then (evals C es σ s1).bind fun vs s2 => C f vs s2 else .bad
    | _ => .bad) := rfl
set_option autoImplicit true in
@[simp] theorem eval_compO {C : Calls} {σ : Env} {st : Store} : eval C (Ex.compO elt tg o cs) σ st = ((eval C o σ st).bind fun x s1 => (optR (lstOf s1 x) s1).bind fun xs s3 =>
      (compL (guardL x xs (compStep (eval C elt) (conds C cs) tg (wipe σ tg.slots))) xs s3).bind fun ys s8 => guardO x xs (.ok (.d (.lst ys)) s8) s8) := rfl
set_option autoImplicit true in
@[simp] theorem eval_newI {C : Calls} {σ : Env} {st : Store} : eval C (Ex.newI c) σ st = (pushO st (.inst c [])) := rfl
set_option autoImplicit true in
@[simp] theorem eval_newO {C : Calls} {σ : Env} {st : Store} : eval C (Ex.newO e) σ st = ((eval C e σ st).bind fun v s1 => match v with
    | .d (.lst xs) => pushO s1 (.lst xs)
    | _ => .bad) := rfl
set_option autoImplicit true in
@[simp] theorem eval_newOD {C : Calls} {σ : Env} {st : Store} : eval C (Ex.newOD) σ st = (pushO st (.dic [])) := rfl
set_option autoImplicit true in
@[simp] theorem eval_fld {C : Calls} {σ : Env} {st : Store} : eval C (Ex.fld c o f) σ st = ((eval C o σ st).bind fun x s1 => (optR (fldV s1 x c f) s1).bind fun r s2 => .ok (.d r) s2) := rfl
set_option autoImplicit true in
@[simp] theorem eval_meth {C : Calls} {σ : Env} {st : Store} : eval C (Ex.meth c m o es) σ st = ((eval C o σ st).bind fun x s1 => if methOk s1 x c m then (evals C es σ s1).bind fun vs s2 => C (c ++ "." ++ m) (x :: vs) s2 else .bad) := rfl
set_option autoImplicit true in
@[simp] theorem eval_oq {C : Calls} {σ : Env} {st : Store} : eval C (Ex.oq q o es) σ st = ((eval C o σ st).bind fun x s1 => (evals C es σ s1).bind fun vs s2 => (optR (oqV q s2 x vs) s2).bind fun r s3 => .ok (.d r) s3) := rfl
set_option autoImplicit true in
@[simp] theorem eval_oin {C : Calls} {σ : Env} {st : Store} : eval C (Ex.oin b k o) σ st = ((eval C k σ st).bind fun y s1 => (eval C o σ s1).bind fun x s2 => (optR (oinV s2 y x) s2).bind fun r s3 => .ok (.d (.bool (r != b))) s3) := rfl
set_option autoImplicit true in
@[simp] theorem eval_om {C : Calls} {σ : Env} {st : Store} : eval C (Ex.om m o es) σ st = ((eval C o σ st).bind fun x s1 => if omOk s1 x then (evals C es σ s1).bind fun vs s2 => omV m s2 x vs else .bad) := rfl
set_option autoImplicit true in
@[simp] theorem eval_dkeys {C : Calls} {σ : Env} {st : Store} : eval C (Ex.dkeys e) σ st = ((eval C e σ st).bind fun x s1 => (optR (dkeysV s1 x) s1).bind fun r s2 => .ok (.d r) s2) := rfl
set_option autoImplicit true in
@[simp] theorem eval_nn {C : Calls} {σ : Env} {st : Store} : eval C (Ex.nn e) σ st = ((eval C e σ st).bind fun x s1 => (optR (nnV s1 x) s1).bind fun r s2 => .ok (.d r) s2) := rfl
set_option autoImplicit true in
@[simp] theorem eval_xfld {C : Calls} {σ : Env} {st : Store} : eval C (Ex.xfld e f) σ st = ((eval C e σ st).bind fun x s1 => (optR (xfldV f x) s1).bind fun r s2 => .ok (.d r) s2) := rfl
set_option autoImplicit true in
@[simp] theorem eval_kdd {C : Calls} {σ : Env} {st : Store} : eval C (Ex.kdd kvs e f) σ st = ((eval C e σ st).bind fun x s1 => (eval C f σ s1).bind fun y s2 => (optR (kddV kvs x y) s2).bind fun r s3 => .ok (.d r) s3) := rfl
set_option autoImplicit true in
@[simp] theorem eval_anyQ {C : Calls} {σ : Env} {st : Store} : eval C (Ex.anyQ q e es) σ st = ((eval C e σ st).bind fun x s1 => (evals C es σ s1).bind fun vs s2 => (optR (anyV q s2 x vs) s2).bind fun r s3 => .ok (.d r) s3) := rfl
set_option autoImplicit true in
@[simp] theorem eval_isx {C : Calls} {σ : Env} {st : Store} : eval C (Ex.isx e tb) σ st = ((eval C e σ st).bind fun x s1 => (optR (isxV tb x) s1).bind fun r s2 => .ok (.d r) s2) := rfl
set_option autoImplicit true in
@[simp] theorem eval_newX {C : Calls} {σ : Env} {st : Store} : eval C (Ex.newX c f e) σ st = ((eval C e σ st).bind fun x s1 => (optR (asD x) s1).bind fun d s2 => .ok (.d (exnOf c [(f, d)])) s2) := rfl
set_option autoImplicit true in
@[simp] theorem evals_nil {C : Calls} {σ : Env} {st : Store} : evals C ([]) σ st = (.ok [] st) := rfl
set_option autoImplicit true in
@[simp] theorem evals_cons {C : Calls} {σ : Env} {st : Store} : evals C (e :: es) σ st = ((eval C e σ st).bind fun v s1 => (evals C es σ s1).bind fun vs s2 => .ok (v :: vs) s2) := rfl
set_option autoImplicit true in
@[simp] theorem evalO_none {C : Calls} {σ : Env} {st : Store} : evalO C (none) σ st = (.ok none st) := rfl
set_option autoImplicit true in
@[simp] theorem evalO_some {C : Calls} {σ : Env} {st : Store} : evalO C (some e) σ st = ((eval C e σ st).bind fun v s1 => (optR (asI v) s1).bind fun i s2 => .ok (some i) s2) := rfl
set_option autoImplicit true in
@[simp] theorem conds_nil {C : Calls} {σ : Env} {st : Store} : conds C ([]) σ st = (.ok true st) := rfl
set_option autoImplicit true in
@[simp] theorem conds_cons {C : Calls} {σ : Env} {st : Store} : conds C (e :: es) σ st = ((eval C e σ st).bind fun v s1 => (optR (asB v) s1).bind fun c s2 => if c then conds C es σ s2 else .ok false s2) := rfl
set_option autoImplicit true in
@[simp] theorem exec_asg {C : Calls} {σ : Env} {st : Store} : exec C (Stm.asg t e) σ st = ((eval C e σ st).bind fun v s1 => (optR (t.putV v σ) s1).bind fun σ1 s2 => .ok (.nx σ1) s2) := rfl
set_option autoImplicit true in
@[simp] theorem exec_par {C : Calls} {σ : Env} {st : Store} : exec C (Stm.par i j a b) σ st = ((eval C a σ st).bind fun x s1 => (eval C b σ s1).bind fun y s2 => .ok (.nx ((σ.set i (some x)).set j (some y))) s2) := rfl
set_option autoImplicit true in
@[simp] theorem exec_set {C : Calls} {σ : Env} {st : Store} : exec C (Stm.set o i e) σ st = ((eval C e σ st).bind fun v s1 => (eval C o σ s1).bind fun x s2 => (eval C i σ s2).bind fun k s3 => (optR (asD v) s3).bind fun d s4 => (optR (setV x k d s4) s4).bind fun s5 _ => .ok (.nx σ) s5) := rfl
set_option autoImplicit true in
@[simp] theorem exec_ex {C : Calls} {σ : Env} {st : Store} : exec C (Stm.ex e) σ st = ((eval C e σ st).bind fun _ s1 => .ok (.nx σ) s1) := rfl
set_option autoImplicit true in
@[simp] theorem exec_ret {C : Calls} {σ : Env} {st : Store} : exec C (Stm.ret e) σ st = ((eval C e σ st).bind fun v s1 => .ok (.ret v) s1) := rfl
set_option autoImplicit true in
@[simp] theorem exec_ite {C : Calls} {σ : Env} {st : Store} : exec C (Stm.ite c a b) σ st = ((eval C c σ st).bind fun x s1 => (optR (asB x) s1).bind fun c s2 => if c then execs C a σ s2 else execs C b σ s2) := rfl
set_option autoImplicit true in
@[simp] theorem exec_loop {C : Calls} {σ : Env} {st : Store} : exec C (Stm.loop t it body) σ st = ((eval C it σ st).bind fun x s1 => (optR (asD x) s1).bind fun p s2 => (optR p.seq s2).bind fun xs s3 => loopL t.putF (execs C body) xs σ s3) := rfl
set_option autoImplicit true in
@[simp] theorem exec_while {C : Calls} {σ : Env} {st : Store} : exec C (Stm.while c body) σ st = (whileU (condB (eval C c)) (execs C body) σ st) := rfl
set_option autoImplicit true in
@[simp] theorem exec_aug {C : Calls} {σ : Env} {st : Store} : exec C (Stm.aug i o e) σ st = (match σ[i]? with
    | some (some x) => (eval C e σ st).bind fun y s1 => (optR (asI x) s1).bind fun p s2 => (optR (asI y) s2).bind fun q s3 => (optR (augI o p q) s3).bind fun r s4 => .ok (.nx (σ.set i (some (.d (.int r))))) s4
    | _ => .bad) := rfl
set_option autoImplicit true in
@[simp] theorem exec_pass {C : Calls} {σ : Env} {st : Store} : exec C (Stm.pass) σ st = (.ok (.nx σ) st) := rfl
set_option autoImplicit true in
@[simp] theorem exec_brk {C : Calls} {σ : Env} {st : Store} : exec C (Stm.brk) σ st = (.ok (.brk σ) st) := rfl
set_option autoImplicit true in
@[simp] theorem exec_cnt {C : Calls} {σ : Env} {st : Store} : exec C (Stm.cnt) σ st = (.ok (.cnt σ) st) := rfl
set_option autoImplicit true in
@[simp] theorem exec_never {C : Calls} {σ : Env} {st : Store} : exec C (Stm.never) σ st = (.bad) := rfl
set_option autoImplicit true in
@[simp] theorem exec_asgX {C : Calls} {σ : Env} {st : Store} : exec C (Stm.asgX t e) σ st = (catchX (evalX C e σ st) σ fun v s1 => (optR (t.putV v σ) s1).bind fun σ1 s2 => .ok (.nx σ1) s2) := rfl
set_option autoImplicit true in
@[simp] theorem exec_exX {C : Calls} {σ : Env} {st : Store} : exec C (Stm.exX e) σ st = (catchX (evalX C e σ st) σ fun _ s1 => .ok (.nx σ) s1) := rfl
set_option autoImplicit true in
@[simp] theorem exec_retX {C : Calls} {σ : Env} {st : Store} : exec C (Stm.retX e) σ st = (catchX (evalX C e σ st) σ fun v s1 => .ok (.ret v) s1) := rfl
set_option autoImplicit true in
@[simp] theorem exec_raise {C : Calls} {σ : Env} {st : Store} : exec C (Stm.raise c) σ st = (.ok (.thr c [] σ) st) := rfl
set_option autoImplicit true in
@[simp] theorem exec_tryX {C : Calls} {σ : Env} {st : Store} : exec C (Stm.tryX body c h) σ st = ((execs C body σ st).bind fun o s1 => match o with
    | .thr c' as σ1 => if c' = c then (execs C h σ1 s1).bind noThr else .bad
    | o => .ok o s1) := rfl
set_option autoImplicit true in
@[simp] theorem exec_tryX2 {C : Calls} {σ : Env} {st : Store} : exec C (Stm.tryX2 body c h c2 h2) σ st = ((execs C body σ st).bind fun o s1 => match o with
    | .thr c' as σ1 => if c' = c then (execs C h σ1 s1).bind noThr else if c' = c2 then (execs C h2 σ1 s1).bind noThr else .bad
    | o => .ok o s1) := rfl
set_option autoImplicit true in
@[simp] theorem exec_setf {C : Calls} {σ : Env} {st : Store} : exec C (Stm.setf c o f e) σ st = ((eval C e σ st).bind fun v s1 => (eval C o σ s1).bind fun x s2 => (optR (asD v) s2).bind fun d s3 => (optR (setFV s3 x c f d) s3).bind fun s4 _ => .ok (.nx σ) s4) := rfl
set_option autoImplicit true in
@[simp] theorem exec_augf {C : Calls} {σ : Env} {st : Store} : exec C (Stm.augf c o f p e) σ st = ((eval C o σ st).bind fun x s1 => (optR (fldV s1 x c f) s1).bind fun a s2 => (optR (asI (.d a)) s2).bind fun i s3 => (eval C e σ s3).bind fun y s4 => (optR (asI y) s4).bind fun j s5 => (optR (augI p i j) s5).bind fun r s6 => (optR (setFV s6 x c f (.int r)) s6).bind fun s7 _ => .ok (.nx σ) s7) := rfl
set_option autoImplicit true in
@[simp] theorem exec_asgO {C : Calls} {σ : Env} {st : Store} : exec C (Stm.asgO t e) σ st = ((eval C e σ st).bind fun v s1 => (optR (lstO s1 v) s1).bind fun d s2 => (optR (t.put d σ) s2).bind fun σ1 s3 => .ok (.nx σ1) s3) := rfl
set_option autoImplicit true in
@[simp] theorem exec_setO {C : Calls} {σ : Env} {st : Store} : exec C (Stm.setO o i e) σ st = ((eval C e σ st).bind fun v s1 => (eval C o σ s1).bind fun x s2 => (eval C i σ s2).bind fun k s3 => (optR (asD v) s3).bind fun d s4 => (optR (setOV s4 x k d) s4).bind fun s5 _ => .ok (.nx σ) s5) := rfl
set_option autoImplicit true in
@[simp] theorem exec_raiseA {C : Calls} {σ : Env} {st : Store} : exec C (Stm.raiseA c f e) σ st = ((eval C e σ st).bind fun x s1 => (optR (asD x) s1).bind fun d s2 => .ok (.thr c [(f, d)] σ) s2) := rfl
set_option autoImplicit true in
@[simp] theorem exec_tryK {C : Calls} {σ : Env} {st : Store} : exec C (Stm.tryK body cs i j cs2 i2 j2) σ st = ((execs C body σ st).bind fun o s1 => match o with
    | .thr c' as σ1 => if c' ∈ cs then .ok (.nx ((σ1.set j (some (.d (exnOf c' as)))).set i none)) s1 else if c' ∈ cs2 then .ok (.nx ((σ1.set j2 (some (.d (exnOf c' as)))).set i2 none)) s1 else .bad
    | o => .ok o s1) := rfl
set_option autoImplicit true in
@[simp] theorem exec_tryF {C : Calls} {σ : Env} {st : Store} : exec C (Stm.tryF body c i f) σ st = ((execs C body σ st).bind fun o s1 => match o with
    | .thr c' as σ1 => if c' = c then (optR (lookF f as) s1).bind fun v s2 => .ok (.ret (.d v)) s2 else .bad
    | o => .ok o s1) := rfl
set_option autoImplicit true in
@[simp] theorem evalX_p {C : Calls} {σ : Env} {st : Store} : evalX C (EX.p e) σ st = noexc (eval C e σ st) := rfl
set_option autoImplicit true in
@[simp] theorem evalX_call {C : Calls} {σ : Env} {st : Store} : evalX C (EX.call f es) σ st = ((evalXs C es σ st).bind fun vs s1 => C f vs s1) := rfl
set_option autoImplicit true in
@[simp] theorem evalX_callP {C : Calls} {σ : Env} {st : Store} : evalX C (EX.callP f es perm) σ st = ((evalXs C es σ st).bind fun vs s1 => C f (perm.filterMap fun i => vs[i]?) s1) := rfl
set_option autoImplicit true in
@[simp] theorem evalX_ite {C : Calls} {σ : Env} {st : Store} : evalX C (EX.ite c a b) σ st = ((noexc (eval C c σ st)).bind fun x s1 => (optR (asB x) s1).bind fun c s2 => if c then evalX C a σ s2 else evalX C b σ s2) := rfl
set_option autoImplicit true in
@[simp] theorem evalX_meth {C : Calls} {σ : Env} {st : Store} : evalX C (EX.meth c m o es) σ st = ((noexc (eval C o σ st)).bind fun x s1 => if methOk s1 x c m then (evalXs C es σ s1).bind fun vs s2 => C (c ++ "." ++ m) (x :: vs) s2 else .bad) := rfl
set_option autoImplicit true in
@[simp] theorem evalX_methN {C : Calls} {σ : Env} {st : Store} : evalX C (EX.methN c m o es) σ st = ((noexc (eval C o σ st)).bind fun x s1 => if methOk s1 x c m then (evalXs C es σ s1).bind fun vs s2 => noexc (C (c ++ "." ++ m) (x :: vs) s2) else .bad) := rfl
set_option autoImplicit true in
@[simp] theorem evalXs_nil {C : Calls} {σ : Env} {st : Store} : evalXs C ([]) σ st = (.ok [] st) := rfl
set_option autoImplicit true in
@[simp] theorem evalXs_cons {C : Calls} {σ : Env} {st : Store} : evalXs C (e :: es) σ st = ((evalX C e σ st).bind fun v s1 => (evalXs C es σ s1).bind fun vs s2 => .ok (v :: vs) s2) := rfl
set_option autoImplicit true in
@[simp] theorem execs_nil {C : Calls} {σ : Env} {st : Store} : execs C ([]) σ st = (.ok (.nx σ) st) := rfl
set_option autoImplicit true in
@[simp] theorem execs_cons {C : Calls} {σ : Env} {st : Store} : execs C (s :: r) σ st = ((exec C s σ st).bind fun o s1 => match o with
    | .nx σ1 => execs C r σ1 s1
    | o => .ok o s1) := rfl
/-- what a def leaves: its own cells are dropped, but one that it hands back -/
def leave (m : Nat) (v : Val) (st : Store) : Res Val :=
  match v with
  | .d x => .ok (.d x) (st.take m)
  | .ref n => if n < m then .ok (.ref n) (st.take m) else match st[n]? with
    | some (.lst xs) => .ok (.ref m) (st.take m ++ [.lst xs])
    | some (.dic kvs) => .ok (.ref m) (st.take m ++ [.dic kvs])
    | _ => .bad
noncomputable def runFn (C : Calls) (f : Fn) (vs : List Val) (st : Store) : Res Val :=
  if vs.length = f.pars ∧ f.pars ≤ f.many then
    (noexc (execs C f.body (vs.map some ++ List.replicate (f.many - f.pars) none) st)).bind fun o s1 => match o with
      | .nx _ => leave st.length (.d .non) s1
      | .ret v => leave st.length v s1
      | .thr c as _ => .exc c as (s1.take st.length)
      | _ => .bad
  else .bad
abbrev Tab := String → Option Fn
noncomputable def callN (T : Tab) : Nat → Calls
  | 0, _, _, _ => .bad
  | n + 1, f, vs, st => match T f with
    | some fn => runFn (callN T n) fn vs st
    | none => .bad
theorem callN_run {T : Tab} {f : String} {fn : Fn} (h : T f = some fn) (n : Nat) (vs : List Val) (st : Store) : callN T (n + 1) f vs st = runFn (callN T n) fn vs st := by rw [callN, h]
/-- a table by a list -/
def tabOf (l : List (String × Fn)) : Tab := fun s => l.lookup s
theorem tab_mem {l : List (String × Fn)} {f : String} {fn : Fn} (h : tabOf l f = some fn) : (f, fn) ∈ l := by
  unfold tabOf at h
  induction l with
  | nil => cases h
  | cons p l ih =>
    obtain ⟨g, gn⟩ := p
    simp only [List.lookup] at h
    split at h
    · rename_i e
      cases h
      rw [eq_of_beq e]
      exact List.mem_cons_self
    · exact List.mem_cons_of_mem _ (ih h)
end
end Ir

set_option Elab.async false
namespace Snd
open PySem PySem.Spec PyProof.Rows L2
/-! ### what stands for what -/
/-- the cells' addresses by number; addresses that are kept for a list that is being made -/
structure Rho where
  ix : List (Option Addr)
  res : List Addr := []
  ob : List Addr := []
def Rho.own (ρ : Rho) (a : Addr) : Prop := some a ∈ ρ.ix ∨ a ∈ ρ.res ∨ a ∈ ρ.ob
def TpAt (ρ : Rho) (K : PySem.W.Frag) (H : Hp) (a : Addr) (ys : List V) : Prop :=
  (Rd H a (.tup ys) ∧ ¬ ρ.own a) ∨
    ∃ (o : Obj) (its : Array Value) (n : Nat), K.lookup a = some o ∧ o.cls = .type "tuple" ∧ o.data = .seq its n ∧ its.size ≤ sizeLine ∧ Vals ys its.toList
theorem TpAt.sq {ρ : Rho} {K : PySem.W.Frag} {H : Hp} {a : Addr} {ys : List V} (h : TpAt ρ K H a ys) : SqT K H a ys := by
  rcases h with ⟨h, _⟩ | h
  · exact .inl h
  · exact .inr h
def LrAt (ρ : Rho) (K : PySem.W.Frag) (H : Hp) (a : Addr) (ys : List V) : Prop :=
  ((∃ o, H a = some (.frz o (.lst ys))) ∧ ¬ ρ.own a) ∨
    ∃ (o : Obj) (its : Array Value) (n : Nat), K.lookup a = some o ∧ o.cls = .type "list" ∧ o.dict = none ∧ o.data = .seq its n ∧ its.size ≤ sizeLine ∧ Vals ys its.toList
theorem LrAt.sq {ρ : Rho} {K : PySem.W.Frag} {H : Hp} {a : Addr} {ys : List V} (h : LrAt ρ K H a ys) : SqL K H a ys := by
  rcases h with ⟨h, _⟩ | h
  · exact .inl (.inr h)
  · exact .inr h
/-- an error that is kept: of the class at C, its dict at d -/
def ExK (C : Addr) (d : Option Addr) (a : Addr) : HO := .ext fun h => ∃ (oe : Obj) (vs : Array Value), h.get? a = some oe ∧ oe.cls = .ref C ∧ oe.dict = d ∧ oe.data = .fields vs
/-- an error's dict -/
def XD (ρ : Rho) (H : Hp) (d : Option Addr) (gs : List (Str × V)) : Prop := (d = none ∧ gs = []) ∨ ∃ dd, d = some dd ∧ H dd = some (.xd gs) ∧ ¬ ρ.own dd ∧ gs ≠ []
def XnAt (ρ : Rho) (K : PySem.W.Frag) (H : Hp) (c : String) (ns : List String) (a : Addr) (ys : List V) : Prop :=
  ∃ C d, PySem.W.nsIn K mainGlobals (Str.ofString c) = some (some (.ref C)) ∧ H a = some (ExK C d a) ∧ ¬ ρ.own a ∧ XD ρ H d ((ns.map Str.ofString).zip ys)
mutual
inductive RD (ρ : Rho) (K : PySem.W.Frag) (H : Hp) : Ir.D → V → Prop
  | non : RD ρ K H .non .non
  | bool (b : Bool) : RD ρ K H (.bool b) (.bl b)
  | int (i : Int) : RD ρ K H (.int i) (.int i)
  | str (s : String) : RD ρ K H (.str s) (.str (Str.ofString s))
  | tup {a : Addr} {xs : List Ir.D} {ys : List V} : TpAt ρ K H a ys → ys.length ≤ sizeLine → RDs ρ K H xs ys → RD ρ K H (.tup xs) (.ref a)
  | lst {a : Addr} {xs : List Ir.D} {ys : List V} : H a = some (.lst ys) → ¬ ρ.own a → ys.length ≤ sizeLine → RDs ρ K H xs ys → RD ρ K H (.lst xs) (.ref a)
  | ro {a : Addr} {xs : List Ir.D} {ys : List V} : LrAt ρ K H a ys → ys.length ≤ sizeLine → RDs ρ K H xs ys → RD ρ K H (.ro xs) (.ref a)
  | oid {n : Nat} {a : Addr} : ρ.ob[n]? = some a → RD ρ K H (.oid n) (.ref a)
  | fn {f : String} {a : Addr} : PySem.W.nsIn K mainGlobals (Str.ofString f) = some (some (.ref a)) → RD ρ K H (.fn f) (.ref a)
  | exn {c : String} {ns : List String} {as : List Ir.D} {a : Addr} {ys : List V} : XnAt ρ K H c ns a ys → ns.length = ys.length → RDs ρ K H as ys → RD ρ K H (.exn c ns as) (.ref a)
inductive RDs (ρ : Rho) (K : PySem.W.Frag) (H : Hp) : List Ir.D → List V → Prop
  | nil : RDs ρ K H [] []
  | cons {x : Ir.D} {xs : List Ir.D} {y : V} {ys : List V} : RD ρ K H x y → RDs ρ K H xs ys → RDs ρ K H (x :: xs) (y :: ys)
end
structure Ext (ρ : Rho) (H : Hp) (ρ' : Rho) (H' : Hp) : Prop where
  fr : ∀ a o, H a = some o → some a ∉ ρ.ix → a ∉ ρ.ob → H' a = some o
  nw : ∀ a, ρ'.own a → ρ.own a ∨ H a = none
  len : ρ.ix.length ≤ ρ'.ix.length
  ix : ∀ (n : Nat) (a : Addr), ρ'.ix[n]? = some (some a) → n < ρ.ix.length → ρ.ix[n]? = some (some a)
  rs : ∀ a ∈ ρ.res, a ∈ ρ'.res
  rn : ∀ a ∈ ρ.res, some a ∉ ρ.ix → a ∉ ρ.ob → some a ∉ ρ'.ix ∧ a ∉ ρ'.ob
  al : ∀ a, H' a = none → H a = none
  ob : ∀ (n : Nat) (a : Addr), ρ.ob[n]? = some a → ρ'.ob[n]? = some a
theorem Ext.refl (ρ : Rho) (H : Hp) : Ext ρ H ρ H := ⟨fun _ _ h _ _ => h, fun _ h => .inl h, Nat.le_refl _, fun _ _ h _ => h, fun _ h => h, fun _ _ h k => ⟨h, k⟩, fun _ h => h, fun _ _ h => h⟩
theorem own_no {ρ : Rho} {a : Addr} (h : ¬ ρ.own a) : some a ∉ ρ.ix := fun z => h (.inl z)
theorem own_nob {ρ : Rho} {a : Addr} (h : ¬ ρ.own a) : a ∉ ρ.ob := fun z => h (.inr (.inr z))
theorem Ext.notin {ρ ρ' : Rho} {H H' : Hp} (e : Ext ρ H ρ' H') {a : Addr} {o : HO} (h : H a = some o) (n : ¬ ρ.own a) : ¬ ρ'.own a := fun z => by
  rcases e.nw a z with q | q
  · exact n q
  · rw [h] at q; cases q
theorem Ext.notix {ρ ρ' : Rho} {H H' : Hp} (e : Ext ρ H ρ' H') {a : Addr} {o : HO} (h : H a = some o) (n : some a ∉ ρ.ix) (m : a ∉ ρ.ob) : some a ∉ ρ'.ix ∧ a ∉ ρ'.ob := by
  by_cases hr : a ∈ ρ.res
  · exact e.rn a hr n m
  · have q := e.notin h (fun z => z.elim n fun z => z.elim hr m)
    exact ⟨own_no q, own_nob q⟩
theorem Ext.trans {ρ ρ1 ρ2 : Rho} {H H1 H2 : Hp} (e : Ext ρ H ρ1 H1) (f : Ext ρ1 H1 ρ2 H2) : Ext ρ H ρ2 H2 where
  fr := fun a o h n m => f.fr a o (e.fr a o h n m) (e.notix h n m).1 (e.notix h n m).2
  nw := fun a h => by
    rcases f.nw a h with q | q
    · exact e.nw a q
    · by_cases ha : some a ∈ ρ.ix
      · exact .inl (.inl ha)
      · by_cases hb : a ∈ ρ.ob
        · exact .inl (.inr (.inr hb))
        · cases hh : H a with
          | none => exact .inr rfl
          | some o => rw [e.fr a o hh ha hb] at q; cases q
  len := Nat.le_trans e.len f.len
  ix := fun n a h hn => e.ix n a (f.ix n a h (Nat.lt_of_lt_of_le hn e.len)) hn
  rs := fun a h => f.rs a (e.rs a h)
  rn := fun a h n m => f.rn a (e.rs a h) (e.rn a h n m).1 (e.rn a h n m).2
  al := fun a h => e.al a (f.al a h)
  ob := fun n a h => f.ob n a (e.ob n a h)
theorem upd_al {H : Hp} {p : Addr} {o : HO} (a : Addr) (h : upd H p o a = none) : H a = none := by
  by_cases e : a = p
  · subst e; rw [upd_same] at h; cases h
  · rw [upd_ne e] at h; exact h
theorem TpAt.mono {ρ ρ' : Rho} {K : PySem.W.Frag} {H H' : Hp} (e : Ext ρ H ρ' H') {a : Addr} {ys : List V} (h : TpAt ρ K H a ys) : TpAt ρ' K H' a ys := by
  rcases h with ⟨h, n⟩ | h
  · rcases h with h | ⟨o, h⟩
    · exact .inl ⟨.inl (e.fr _ _ h (own_no n) (own_nob n)), e.notin h n⟩
    · exact .inl ⟨.inr ⟨o, e.fr _ _ h (own_no n) (own_nob n)⟩, e.notin h n⟩
  · exact .inr h
theorem LrAt.mono {ρ ρ' : Rho} {K : PySem.W.Frag} {H H' : Hp} (e : Ext ρ H ρ' H') {a : Addr} {ys : List V} (h : LrAt ρ K H a ys) : LrAt ρ' K H' a ys := by
  rcases h with ⟨⟨o, h⟩, n⟩ | h
  · exact .inl ⟨⟨o, e.fr _ _ h (own_no n) (own_nob n)⟩, e.notin h n⟩
  · exact .inr h
theorem XD.mono {ρ ρ' : Rho} {H H' : Hp} (e : Ext ρ H ρ' H') {d : Option Addr} {gs : List (Str × V)} (h : XD ρ H d gs) : XD ρ' H' d gs := by
  rcases h with h | ⟨dd, h1, h2, h3, h5⟩
  · exact .inl h
  · exact .inr ⟨dd, h1, e.fr _ _ h2 (own_no h3) (own_nob h3), e.notin h2 h3, h5⟩
theorem XnAt.mono {ρ ρ' : Rho} {K : PySem.W.Frag} {H H' : Hp} (e : Ext ρ H ρ' H') {c : String} {ns : List String} {a : Addr} {ys : List V} (h : XnAt ρ K H c ns a ys) : XnAt ρ' K H' c ns a ys := by
  obtain ⟨C, d, h1, h2, h3, h4⟩ := h
  exact ⟨C, d, h1, e.fr _ _ h2 (own_no h3) (own_nob h3), e.notin h2 h3, h4.mono e⟩
mutual
theorem RD.mono {ρ ρ' : Rho} {K : PySem.W.Frag} {H H' : Hp} (e : Ext ρ H ρ' H') : ∀ {x : Ir.D} {v : V}, RD ρ K H x v → RD ρ' K H' x v
  | _, _, .non => .non
  | _, _, .bool b => .bool b
  | _, _, .int i => .int i
  | _, _, .str s => .str s
  | _, _, .tup h z r => .tup (h.mono e) z (RDs.mono e r)
  | _, _, .ro h z r => .ro (h.mono e) z (RDs.mono e r)
  | _, _, .lst h n z r => .lst (e.fr _ _ h (own_no n) (own_nob n)) (e.notin h n) z (RDs.mono e r)
  | _, _, .oid h => .oid (e.ob _ _ h)
  | _, _, .fn h => .fn h
  | _, _, .exn h z r => .exn (h.mono e) z (RDs.mono e r)
theorem RDs.mono {ρ ρ' : Rho} {K : PySem.W.Frag} {H H' : Hp} (e : Ext ρ H ρ' H') : ∀ {xs : List Ir.D} {vs : List V}, RDs ρ K H xs vs → RDs ρ' K H' xs vs
  | _, _, .nil => .nil
  | _, _, .cons h r => .cons (RD.mono e h) (RDs.mono e r)
end
section
variable {ρ : Rho} {K : PySem.W.Frag} {H : Hp}
theorem RDs.length : ∀ {xs : List Ir.D} {vs : List V}, RDs ρ K H xs vs → xs.length = vs.length
  | _, _, .nil => rfl
  | _, _, .cons _ r => congrArg (· + 1) r.length
theorem RDs.get : ∀ {xs : List Ir.D} {vs : List V} {i : Nat} {x : Ir.D}, RDs ρ K H xs vs → xs[i]? = some x → ∃ v, vs[i]? = some v ∧ RD ρ K H x v
  | _, _, _, _, .nil, h => by simp at h
  | _, _, 0, _, .cons h _, e => by simp at e; subst e; exact ⟨_, rfl, h⟩
  | _, _, i + 1, _, .cons _ r, e => by
    obtain ⟨v, h1, h2⟩ := RDs.get (i := i) r (by simpa using e)
    exact ⟨v, by simpa using h1, h2⟩
theorem RDs.append : ∀ {xs ys : List Ir.D} {vs ws : List V}, RDs ρ K H xs vs → RDs ρ K H ys ws → RDs ρ K H (xs ++ ys) (vs ++ ws)
  | _, _, _, _, .nil, s => s
  | _, _, _, _, .cons h r, s => .cons h (RDs.append r s)
theorem RDs.drop : ∀ (n : Nat) {xs : List Ir.D} {vs : List V}, RDs ρ K H xs vs → RDs ρ K H (xs.drop n) (vs.drop n)
  | 0, _, _, r => r
  | _ + 1, _, _, .nil => .nil
  | n + 1, _, _, .cons _ r => RDs.drop n r
theorem RDs.take : ∀ (n : Nat) {xs : List Ir.D} {vs : List V}, RDs ρ K H xs vs → RDs ρ K H (xs.take n) (vs.take n)
  | 0, _, _, _ => .nil
  | _ + 1, _, _, .nil => .nil
  | n + 1, _, _, .cons h r => .cons h (RDs.take n r)
theorem RDs.set {x : Ir.D} {v : V} (h : RD ρ K H x v) : ∀ (n : Nat) {xs : List Ir.D} {vs : List V}, RDs ρ K H xs vs → RDs ρ K H (xs.set n x) (vs.set n v)
  | _, _, _, .nil => .nil
  | 0, _, _, .cons _ r => .cons h r
  | n + 1, _, _, .cons q r => .cons q (RDs.set h n r)
end
def RV (ρ : Rho) (K : PySem.W.Frag) (H : Hp) : Ir.Val → V → Prop
  | .d x, v => RD ρ K H x v
  | .ref n, v => n < ρ.ix.length ∧ ∃ a, v = .ref a ∧ ∀ b, ρ.ix[n]? = some (some b) → b = a
theorem RV.mono {ρ ρ' : Rho} {K : PySem.W.Frag} {H H' : Hp} (e : Ext ρ H ρ' H') : ∀ {x : Ir.Val} {v : V}, RV ρ K H x v → RV ρ' K H' x v
  | .d _, _, h => RD.mono e h
  | .ref n, _, ⟨h1, a, h2, h3⟩ => ⟨Nat.lt_of_lt_of_le h1 e.len, a, h2, fun b q => h3 b (e.ix n b q h1)⟩
inductive RVs (ρ : Rho) (K : PySem.W.Frag) (H : Hp) : List Ir.Val → List V → Prop
  | nil : RVs ρ K H [] []
  | cons {x : Ir.Val} {xs : List Ir.Val} {y : V} {ys : List V} : RV ρ K H x y → RVs ρ K H xs ys → RVs ρ K H (x :: xs) (y :: ys)
theorem RVs.mono {ρ ρ' : Rho} {K : PySem.W.Frag} {H H' : Hp} (e : Ext ρ H ρ' H') : ∀ {xs : List Ir.Val} {vs : List V}, RVs ρ K H xs vs → RVs ρ' K H' xs vs
  | _, _, .nil => .nil
  | _, _, .cons h r => .cons (RV.mono e h) (RVs.mono e r)
theorem RVs.length {ρ : Rho} {K : PySem.W.Frag} {H : Hp} : ∀ {xs : List Ir.Val} {vs : List V}, RVs ρ K H xs vs → xs.length = vs.length
  | _, _, .nil => rfl
  | _, _, .cons _ r => congrArg (· + 1) r.length
theorem RVs.ds {ρ : Rho} {K : PySem.W.Frag} {H : Hp} : ∀ {xs : List Ir.Val} {vs : List V} {ds : List Ir.D}, RVs ρ K H xs vs → Ir.asDs xs = some ds → RDs ρ K H ds vs
  | _, _, _, .nil, h => by simp [Ir.asDs] at h; subst h; exact .nil
  | .d x :: xs, _, _, .cons h r, e => by
    simp only [Ir.asDs, Option.map_eq_some_iff] at e
    obtain ⟨ds, e1, e2⟩ := e
    subst e2
    exact .cons h (RVs.ds r e1)
  | .ref n :: xs, _, _, .cons h r, e => by simp [Ir.asDs] at e
def RK : Ir.D → Key → Prop
  | .int i, k => k = .inl i
  | .str s, k => k = .inr (Str.ofString s)
  | _, _ => False
inductive RKs (ρ : Rho) (K : PySem.W.Frag) (H : Hp) : List (Ir.D × Ir.D) → List (Key × V) → Prop
  | nil : RKs ρ K H [] []
  | cons {k v : Ir.D} {xs : List (Ir.D × Ir.D)} {k' : Key} {v' : V} {ys : List (Key × V)} : RK k k' → RD ρ K H v v' → RKs ρ K H xs ys → RKs ρ K H ((k, v) :: xs) ((k', v') :: ys)
theorem RKs.mono {ρ ρ' : Rho} {K : PySem.W.Frag} {H H' : Hp} (e : Ext ρ H ρ' H') : ∀ {xs : List (Ir.D × Ir.D)} {vs : List (Key × V)}, RKs ρ K H xs vs → RKs ρ' K H' xs vs
  | _, _, .nil => .nil
  | _, _, .cons h q r => .cons h (RD.mono e q) (RKs.mono e r)
theorem RKs.length {ρ : Rho} {K : PySem.W.Frag} {H : Hp} : ∀ {xs : List (Ir.D × Ir.D)} {vs : List (Key × V)}, RKs ρ K H xs vs → xs.length = vs.length
  | _, _, .nil => rfl
  | _, _, .cons _ _ r => congrArg (· + 1) r.length
def RC (ρ : Rho) (K : PySem.W.Frag) (H : Hp) (a : Addr) : Ir.Cell → Prop
  | .lst xs => ∃ ys, H a = some (.lst ys) ∧ ys.length ≤ sizeLine ∧ RDs ρ K H xs ys
  | .dic kvs => ∃ ks, H a = some (.dK ks) ∧ ks.length ≤ sizeLine ∧ RKs ρ K H kvs ks
  | .dead => False
  | .arena _ => False
/-- a class by its name -/
def CN (K : PySem.W.Frag) (c : String) (C : Addr) : Prop := PySem.W.nsIn K mainGlobals (Str.ofString c) = some (some (.ref C))
theorem CN.inj {K : PySem.W.Frag} {c : String} {C D : Addr} (h : CN K c C) (g : CN K c D) : C = D := by
  unfold CN at h g; rw [h] at g; cases g; rfl
inductive RFs (ρ : Rho) (K : PySem.W.Frag) (H : Hp) : List (String × Ir.D) → List (Str × V) → Prop
  | nil : RFs ρ K H [] []
  | cons {f : String} {x : Ir.D} {xs : List (String × Ir.D)} {y : V} {ys : List (Str × V)} : RD ρ K H x y → RFs ρ K H xs ys → RFs ρ K H ((f, x) :: xs) ((Str.ofString f, y) :: ys)
inductive RTk : List Ir.D → List Key → Prop
  | nil : RTk [] []
  | cons {x : Ir.D} {xs : List Ir.D} {y : Key} {ys : List Key} : RK x y → RTk xs ys → RTk (x :: xs) (y :: ys)
inductive RTs (ρ : Rho) (K : PySem.W.Frag) (H : Hp) : List (List Ir.D × Ir.D) → List (List Key × V) → Prop
  | nil : RTs ρ K H [] []
  | cons {k : List Ir.D} {v : Ir.D} {xs : List (List Ir.D × Ir.D)} {k' : List Key} {v' : V} {ys : List (List Key × V)} : RTk k k' → RD ρ K H v v' → RTs ρ K H xs ys → RTs ρ K H ((k, v) :: xs) ((k', v') :: ys)
/-- an object of the arena, at its address -/
def RO (ρ : Rho) (K : PySem.W.Frag) (H : Hp) (a : Addr) : Ir.Obj → Prop
  | .inst c fs => ∃ C dx gs, CN K c C ∧ H a = some (.ins C dx gs) ∧ RFs ρ K H fs gs
  | .lst xs => ∃ ys, H a = some (.lst ys) ∧ ys.length ≤ sizeLine ∧ RDs ρ K H xs ys
  | .dic kvs => ∃ ks, H a = some (.dK ks) ∧ ks.length ≤ sizeLine ∧ RKs ρ K H kvs ks
  | .dicT kvs => ∃ ks, H a = some (.dT ks) ∧ ks.length ≤ sizeLine ∧ RTs ρ K H kvs ks
theorem RFs.map {ρ ρ' : Rho} {K : PySem.W.Frag} {H H' : Hp} (w : ∀ {x : Ir.D} {v : V}, RD ρ K H x v → RD ρ' K H' x v) : ∀ {xs : List (String × Ir.D)} {vs : List (Str × V)}, RFs ρ K H xs vs → RFs ρ' K H' xs vs
  | _, _, .nil => .nil
  | _, _, .cons h r => .cons (w h) (RFs.map w r)
theorem RTs.map {ρ ρ' : Rho} {K : PySem.W.Frag} {H H' : Hp} (w : ∀ {x : Ir.D} {v : V}, RD ρ K H x v → RD ρ' K H' x v) : ∀ {xs : List (List Ir.D × Ir.D)} {vs : List (List Key × V)}, RTs ρ K H xs vs → RTs ρ' K H' xs vs
  | _, _, .nil => .nil
  | _, _, .cons k h r => .cons k (w h) (RTs.map w r)
theorem RKs.map {ρ ρ' : Rho} {K : PySem.W.Frag} {H H' : Hp} (w : ∀ {x : Ir.D} {v : V}, RD ρ K H x v → RD ρ' K H' x v) : ∀ {xs : List (Ir.D × Ir.D)} {vs : List (Key × V)}, RKs ρ K H xs vs → RKs ρ' K H' xs vs
  | _, _, .nil => .nil
  | _, _, .cons k h r => .cons k (w h) (RKs.map w r)
theorem RDs.map {ρ ρ' : Rho} {K : PySem.W.Frag} {H H' : Hp} (w : ∀ {x : Ir.D} {v : V}, RD ρ K H x v → RD ρ' K H' x v) : ∀ {xs : List Ir.D} {vs : List V}, RDs ρ K H xs vs → RDs ρ' K H' xs vs
  | _, _, .nil => .nil
  | _, _, .cons h r => .cons (w h) (RDs.map w r)
theorem RO.map {ρ ρ' : Rho} {K : PySem.W.Frag} {H H' : Hp} (w : ∀ {x : Ir.D} {v : V}, RD ρ K H x v → RD ρ' K H' x v) {a : Addr} {o : Ir.Obj} (s : H' a = H a) (h : RO ρ K H a o) : RO ρ' K H' a o := by
  cases o with
  | inst c fs => obtain ⟨C, dx, gs, h0, h1, h2⟩ := h; exact ⟨C, dx, gs, h0, s.trans h1, h2.map w⟩
  | lst xs => obtain ⟨ys, h1, h2, h3⟩ := h; exact ⟨ys, s.trans h1, h2, h3.map w⟩
  | dic xs => obtain ⟨ys, h1, h2, h3⟩ := h; exact ⟨ys, s.trans h1, h2, h3.map w⟩
  | dicT xs => obtain ⟨ys, h1, h2, h3⟩ := h; exact ⟨ys, s.trans h1, h2, h3.map w⟩
theorem RO.mono {ρ ρ' : Rho} {K : PySem.W.Frag} {H H' : Hp} (e : Ext ρ H ρ' H') {a : Addr} {o : Ir.Obj} (h : RO ρ K H a o) (s : H' a = H a) : RO ρ' K H' a o := h.map (fun h => RD.mono e h) s
theorem RO.some {ρ : Rho} {K : PySem.W.Frag} {H : Hp} {a : Addr} {o : Ir.Obj} (h : RO ρ K H a o) : ∃ u, H a = Option.some u ∧ Mut (Option.some u) := by
  cases o with
  | inst c fs => obtain ⟨C, dx, gs, h0, h1, h2⟩ := h; exact ⟨_, h1, trivial⟩
  | lst xs => obtain ⟨ys, h1, h2, h3⟩ := h; exact ⟨_, h1, trivial⟩
  | dic xs => obtain ⟨ys, h1, h2, h3⟩ := h; exact ⟨_, h1, trivial⟩
  | dicT xs => obtain ⟨ys, h1, h2, h3⟩ := h; exact ⟨_, h1, trivial⟩
/-- what is true of the arena -/
structure RA (ρ : Rho) (K : PySem.W.Frag) (st : Ir.Store) (H : Hp) : Prop where
  obj : ∀ os, Ir.arenaOf st = some os → ρ.ob.length = os.length ∧ ∀ (n : Nat) (a : Addr), ρ.ob[n]? = some a → ∃ o, os[n]? = some o ∧ RO ρ K H a o
  inj : ∀ (i j : Nat) (a : Addr), ρ.ob[i]? = some a → ρ.ob[j]? = some a → i = j
  kept : ∀ a ∈ ρ.ob, ∃ o, H a = some o
  nix : ∀ a ∈ ρ.ob, some a ∉ ρ.ix
  nres : ∀ a ∈ ρ.res, a ∉ ρ.ob
theorem RA.step {ρ ρ' : Rho} {K : PySem.W.Frag} {st st' : Ir.Store} {H H' : Hp} (r : RA ρ K st H) (w : ∀ {x : Ir.D} {v : V}, RD ρ K H x v → RD ρ' K H' x v) (eo : ρ'.ob = ρ.ob) (hs : ∀ os, Ir.arenaOf st' = some os → Ir.arenaOf st = some os)
    (hh : ∀ a ∈ ρ.ob, H' a = H a) (hi : ∀ a ∈ ρ.ob, some a ∉ ρ'.ix) (hr : ∀ a ∈ ρ'.res, a ∉ ρ.ob) : RA ρ' K st' H' := by
  refine ⟨fun os h => ?_, by rw [eo]; exact r.inj, by rw [eo]; intro a ha; rw [hh a ha]; exact r.kept a ha, by rw [eo]; exact hi, by rw [eo]; exact hr⟩
  obtain ⟨h1, h2⟩ := r.obj os (hs os h)
  rw [eo]
  refine ⟨h1, fun n a q => ?_⟩
  obtain ⟨o, h3, h4⟩ := h2 n a q
  exact ⟨o, h3, h4.map w (hh a (List.mem_of_getElem? q))⟩
theorem arena_iff {st : Ir.Store} {os : List Ir.Obj} : Ir.arenaOf st = some os ↔ st[(0 : Nat)]? = some (.arena os) := by
  unfold Ir.arenaOf
  split
  · rename_i h; rw [h]; simp
  · rename_i h; constructor
    · intro z; cases z
    · intro z; exact absurd z (h os)
theorem arena_set {st : Ir.Store} {n : Nat} {c : Ir.Cell} (hc : ∀ os, c ≠ .arena os) : ∀ os, Ir.arenaOf (st.set n c) = some os → Ir.arenaOf st = some os := fun os h => by
  rw [arena_iff] at h ⊢
  rw [List.getElem?_set] at h
  split at h
  · split at h
    · cases h; exact absurd rfl (hc os)
    · cases h
  · exact h
theorem arena_push {st : Ir.Store} {c : Ir.Cell} (hc : ∀ os, c ≠ .arena os) : ∀ os, Ir.arenaOf (st ++ [c]) = some os → Ir.arenaOf st = some os := fun os h => by
  rw [arena_iff] at h ⊢
  cases st with
  | nil => simp at h; exact absurd h (hc os)
  | cons d r => simpa using h
theorem arena_take {st : Ir.Store} {m : Nat} : ∀ os, Ir.arenaOf (st.take m) = some os → Ir.arenaOf st = some os := fun os h => by
  rw [arena_iff] at h ⊢
  rw [List.getElem?_take] at h
  split at h
  · exact h
  · cases h
structure RS (ρ : Rho) (K : PySem.W.Frag) (st : Ir.Store) (H : Hp) : Prop where
  len : st.length = ρ.ix.length
  inj : ∀ (i j : Nat) (a : Addr), ρ.ix[i]? = some (some a) → ρ.ix[j]? = some (some a) → i = j
  cell : ∀ (n : Nat) (a : Addr), ρ.ix[n]? = some (some a) → ∃ c, st[n]? = some c ∧ RC ρ K H a c
  dd : ∀ (n : Nat), ρ.ix[n]? = some none → st[n]? = some .dead ∨ ∃ os, n = 0 ∧ st[n]? = some (.arena os)
  kept : ∀ a ∈ ρ.res, ∃ o, H a = some o
  disj : ∀ a ∈ ρ.res, some a ∉ ρ.ix
  ra : RA ρ K st H
section
variable {ρ : Rho} {K : PySem.W.Frag} {st : Ir.Store} {H : Hp}
theorem RS.get (r : RS ρ K st H) {n : Nat} {c : Ir.Cell} (h : st[n]? = some c) (d : c ≠ .dead ∧ ∀ os, c ≠ .arena os) : ∃ a, ρ.ix[n]? = some (some a) ∧ RC ρ K H a c := by
  have hn : n < ρ.ix.length := by rw [← r.len]; exact (List.getElem?_eq_some_iff.mp h).1
  cases q : ρ.ix[n]? with
  | none => rw [List.getElem?_eq_none_iff] at q; omega
  | some o =>
    cases o with
    | none =>
      rcases r.dd n q with this | ⟨os, _, this⟩
      · rw [h] at this; cases this
        exact absurd rfl d.1
      · rw [h] at this; cases this
        exact absurd rfl (d.2 os)
    | some a =>
      obtain ⟨c', h1, h2⟩ := r.cell n a q
      rw [h] at h1; cases h1
      exact ⟨a, rfl, h2⟩
theorem RC.some {a : Addr} {c : Ir.Cell} (h : RC ρ K H a c) : ∃ o, H a = Option.some o ∧ Mut (Option.some o) := by
  cases c with
  | lst xs => obtain ⟨ys, h, _⟩ := h; exact ⟨_, h, trivial⟩
  | dic xs => obtain ⟨ys, h, _⟩ := h; exact ⟨_, h, trivial⟩
  | dead => exact False.elim h
  | arena os => exact False.elim h
theorem RC.nar {a : Addr} {c : Ir.Cell} (h : RC ρ K H a c) : ∀ os, c ≠ .arena os := fun os e => by subst e; exact h
theorem RS.mem (r : RS ρ K st H) {a : Addr} (h : some a ∈ ρ.ix) : ∃ (n : Nat) (c : Ir.Cell), ρ.ix[n]? = some (some a) ∧ st[n]? = some c ∧ RC ρ K H a c := by
  obtain ⟨n, hn⟩ := List.getElem?_of_mem h
  obtain ⟨c, h1, h2⟩ := r.cell n a hn
  exact ⟨n, c, hn, h1, h2⟩
theorem RS.fresh (r : RS ρ K st H) {p : Addr} (h : H p = none) : ¬ ρ.own p := fun z => by
  rcases z with z | z
  · obtain ⟨n, c, _, _, q⟩ := r.mem z
    obtain ⟨o, e, _⟩ := q.some
    rw [h] at e; cases e
  · rcases z with z | z
    · obtain ⟨o, e⟩ := r.kept p z
      rw [h] at e; cases e
    · obtain ⟨o, e⟩ := r.ra.kept p z
      rw [h] at e; cases e
theorem RC.mono {ρ' : Rho} {H' : Hp} (e : Ext ρ H ρ' H') {a : Addr} {c : Ir.Cell} (h : RC ρ K H a c) (s : H' a = H a) : RC ρ' K H' a c := by
  cases c with
  | lst xs => obtain ⟨ys, h1, h2, h3⟩ := h; exact ⟨ys, s.trans h1, h2, h3.mono e⟩
  | dic xs => obtain ⟨ys, h1, h2, h3⟩ := h; exact ⟨ys, s.trans h1, h2, h3.mono e⟩
  | dead => exact h
  | arena os => exact h
/-- a new thing that no cell is -/
theorem Ext.grow (r : RS ρ K st H) {p : Addr} (h : H p = none) (o : HO) : Ext ρ H ρ (upd H p o) :=
  ⟨fun a u q _ _ => by rw [upd_ne (ne_of_none q h)]; exact q, fun _ q => .inl q, Nat.le_refl _, fun _ _ q _ => q, fun _ q => q, fun _ _ q q' => ⟨q, q'⟩, upd_al, fun _ _ q => q⟩
theorem RS.ext (r : RS ρ K st H) {H' : Hp} (e : Ext ρ H ρ H') (s : ∀ a, some a ∈ ρ.ix → H' a = H a) (so : ∀ a ∈ ρ.ob, H' a = H a) : RS ρ K st H' :=
  ⟨r.len, r.inj, fun n a q => let ⟨c, h1, h2⟩ := r.cell n a q; ⟨c, h1, h2.mono e (s a (List.mem_of_getElem? q))⟩, r.dd, fun a q => let ⟨o, h⟩ := r.kept a q; ⟨o, e.fr a o h (r.disj a q) (r.ra.nres a q)⟩, r.disj,
    r.ra.step (fun h => RD.mono e h) rfl (fun _ h => h) so r.ra.nix r.ra.nres⟩
theorem RS.grow (r : RS ρ K st H) {p : Addr} (h : H p = none) (o : HO) : RS ρ K st (upd H p o) :=
  r.ext (.grow r h o) (fun a q => upd_ne fun z => r.fresh h (.inl (by rw [← z]; exact q))) fun a q => upd_ne fun z => r.fresh h (.inr (.inr (by rw [← z]; exact q)))
/-- a cell changed -/
theorem Ext.write (r : RS ρ K st H) {n : Nat} {a : Addr} (h : ρ.ix[n]? = some (some a)) (o : HO) : Ext ρ H ρ (upd H a o) :=
  ⟨fun b u q z _ => by rw [upd_ne (fun e => z (by rw [e]; exact List.mem_of_getElem? h))]; exact q, fun _ q => .inl q, Nat.le_refl _, fun _ _ q _ => q, fun _ q => q, fun _ _ q q' => ⟨q, q'⟩, upd_al, fun _ _ q => q⟩
theorem RS.write (r : RS ρ K st H) {n : Nat} {a : Addr} (h : ρ.ix[n]? = some (some a)) {o : HO} {c : Ir.Cell} (q : RC ρ K (upd H a o) a c) : RS ρ K (st.set n c) (upd H a o) := by
  have hn : n < st.length := by rw [r.len]; exact (List.getElem?_eq_some_iff.mp h).1
  refine ⟨by rw [List.length_set]; exact r.len, r.inj, fun m b hm => ?_, fun m hm => ?_, fun b hb => ?_, r.disj,
    r.ra.step (fun h' => RD.mono (Ext.write r h o) h') rfl (arena_set q.nar) (fun b hb => upd_ne fun e => r.ra.nix b hb (by rw [e]; exact List.mem_of_getElem? h)) r.ra.nix r.ra.nres⟩
  · by_cases e : m = n
    · subst e
      rw [h] at hm; cases hm
      exact ⟨c, List.getElem?_set_self hn, q⟩
    · obtain ⟨c', h1, h2⟩ := r.cell m b hm
      refine ⟨c', by rw [List.getElem?_set_ne (Ne.symm e)]; exact h1, h2.mono (.write r h o) (upd_ne fun z => e (r.inj m n b hm (by rw [z]; exact h)))⟩
  · have e : m ≠ n := fun e => by subst e; rw [h] at hm; cases hm
    rw [List.getElem?_set_ne (Ne.symm e)]
    exact r.dd m hm
  · obtain ⟨u, hu⟩ := r.kept b hb
    exact ⟨u, (Ext.write r h o).fr b u hu (r.disj b hb) (r.ra.nres b hb)⟩
/-- a new cell -/
def Rho.push (ρ : Rho) (p : Addr) : Rho := ⟨ρ.ix ++ [some p], ρ.res, ρ.ob⟩
theorem Ext.push (r : RS ρ K st H) {p : Addr} (h : H p = none) (o : HO) : Ext ρ H (ρ.push p) (upd H p o) := by
  refine ⟨fun a u q _ _ => by rw [upd_ne (ne_of_none q h)]; exact q, fun a q => ?_, by simp [Rho.push], fun n a q hn => ?_, fun _ q => q, fun a ha hn hb => ⟨fun z => ?_, hb⟩, upd_al, fun _ _ q => q⟩
  · rcases q with q | q
    · rcases List.mem_append.mp q with z | z
      · exact .inl (.inl z)
      · simp at z; subst z; exact .inr h
    · exact .inl (.inr q)
  · simp only [Rho.push] at q
    rw [List.getElem?_append_left hn] at q; exact q
  · rcases List.mem_append.mp z with z | z
    · exact hn z
    · simp at z
      subst z
      exact r.fresh h (.inr (.inl ha))
theorem RS.dd_push (r : RS ρ K st H) {p : Addr} {c : Ir.Cell} {n : Nat} (hn : (ρ.ix ++ [some p])[n]? = some none) : (st ++ [c])[n]? = some .dead ∨ ∃ os, n = 0 ∧ (st ++ [c])[n]? = some (.arena os) := by
  by_cases hl : n < ρ.ix.length
  · rw [List.getElem?_append_left hl] at hn
    rcases r.dd n hn with this | ⟨os, e, this⟩
    · rw [List.getElem?_append_left (List.getElem?_eq_some_iff.mp this).1]; exact .inl this
    · rw [List.getElem?_append_left (List.getElem?_eq_some_iff.mp this).1]; exact .inr ⟨os, e, this⟩
  · rw [List.getElem?_append_right (by omega)] at hn
    cases z : n - ρ.ix.length with
    | zero => rw [z] at hn; simp at hn
    | succ k => rw [z] at hn; simp at hn
theorem RS.push (r : RS ρ K st H) {p : Addr} (h : H p = none) {o : HO} {c : Ir.Cell} (q : RC (ρ.push p) K (upd H p o) p c) : RS (ρ.push p) K (st ++ [c]) (upd H p o) := by
  have np : some p ∉ ρ.ix := fun z => r.fresh h (.inl z)
  have npo : p ∉ ρ.ob := fun z => r.fresh h (.inr (.inr z))
  have key : ∀ (i : Nat) (a : Addr), (ρ.ix ++ [some p])[i]? = some (some a) → (ρ.ix[i]? = some (some a) ∧ a ≠ p) ∨ (i = ρ.ix.length ∧ a = p) := fun i a hi => by
    by_cases hl : i < ρ.ix.length
    · rw [List.getElem?_append_left hl] at hi
      exact .inl ⟨hi, fun e => np (by rw [← e]; exact List.mem_of_getElem? hi)⟩
    · rw [List.getElem?_append_right (by omega)] at hi
      have : i - ρ.ix.length = 0 := by
        by_cases z : i - ρ.ix.length = 0
        · exact z
        · rw [List.getElem?_eq_none (by simp; omega)] at hi; cases hi
      rw [this] at hi
      simp at hi
      exact .inr ⟨by omega, hi.symm⟩
  refine ⟨by simp [Rho.push, r.len], fun i j a hi hj => ?_, fun n a hn => ?_, fun n hn => r.dd_push hn, fun a ha => ?_, fun a ha z => ?_,
    r.ra.step (fun h' => RD.mono (Ext.push r h o) h') rfl (arena_push q.nar) (fun b hb => upd_ne fun e => npo (by rw [← e]; exact hb)) (fun b hb z => ?_) r.ra.nres⟩
  · rcases key i a hi with ⟨h1, n1⟩ | ⟨h1, n1⟩ <;> rcases key j a hj with ⟨h2, n2⟩ | ⟨h2, n2⟩
    · exact r.inj i j a h1 h2
    · exact absurd n2 n1
    · exact absurd n1 n2
    · omega
  · rcases key n a hn with ⟨h1, n1⟩ | ⟨h1, n1⟩
    · obtain ⟨c', h2, h3⟩ := r.cell n a h1
      refine ⟨c', ?_, h3.mono (.push r h o) (upd_ne n1)⟩
      rw [List.getElem?_append_left (List.getElem?_eq_some_iff.mp h2).1]; exact h2
    · subst h1 n1
      refine ⟨c, ?_, q⟩
      rw [← r.len, List.getElem?_append_right (Nat.le_refl _)]; simp
  · obtain ⟨u, hu⟩ := r.kept a ha
    exact ⟨u, (Ext.push r h o).fr a u hu (r.disj a ha) (r.ra.nres a ha)⟩
  · exact ((Ext.push r h o).rn a ha (r.disj a ha) (r.ra.nres a ha)).1 z
  · rcases List.mem_append.mp z with z | z
    · exact r.ra.nix b hb z
    · simp at z; subst z; exact npo hb
/-- a cell that is not changed any more -/
def Rho.kill (ρ : Rho) (n : Nat) : Rho := ⟨ρ.ix.set n none, ρ.res, ρ.ob⟩
theorem kill_mem {ρ : Rho} {n : Nat} {a : Addr} (q : some a ∈ (ρ.kill n).ix) : ∃ m : Nat, m ≠ n ∧ ρ.ix[m]? = some (some a) := by
  obtain ⟨m, hm⟩ := List.getElem?_of_mem q
  have hm : (ρ.ix.set n none)[m]? = some (some a) := hm
  by_cases e : m = n
  · subst e
    rw [List.getElem?_set] at hm
    simp at hm
  · rw [List.getElem?_set_ne (Ne.symm e)] at hm
    exact ⟨m, e, hm⟩
theorem Ext.kill (ρ : Rho) (H : Hp) (n : Nat) : Ext ρ H (ρ.kill n) H := by
  refine ⟨fun _ _ q _ _ => q, fun a q => ?_, by simp [Rho.kill], fun m a q hm => ?_, fun _ q => q, fun a _ hn hb => ⟨fun z => ?_, hb⟩, fun _ q => q, fun _ _ q => q⟩
  · rcases q with q | q
    · obtain ⟨m, _, hm⟩ := kill_mem q
      exact .inl (.inl (List.mem_of_getElem? hm))
    · exact .inl (.inr q)
  · have q : (ρ.ix.set n none)[m]? = some (some a) := q
    by_cases e : m = n
    · subst e
      rw [List.getElem?_set] at q
      simp at q
    · rw [List.getElem?_set_ne (Ne.symm e)] at q; exact q
  · obtain ⟨m, _, hm⟩ := kill_mem z
    exact hn (List.mem_of_getElem? hm)
theorem RS.kill (r : RS ρ K st H) {n : Nat} (h : n < ρ.ix.length) : RS (ρ.kill n) K (st.set n .dead) H := by
  have hs : n < st.length := by rw [r.len]; exact h
  refine ⟨by simp [Rho.kill, r.len], fun i j a hi hj => ?_, fun m a hm => ?_, fun m hm => ?_, r.kept, fun a ha z => ?_,
    r.ra.step (fun h' => RD.mono (Ext.kill ρ H n) h') rfl (arena_set (fun _ e => by cases e)) (fun _ _ => rfl) (fun b hb z => ?_) r.ra.nres⟩
  · have key : ∀ i : Nat, (ρ.kill n).ix[i]? = some (some a) → ρ.ix[i]? = some (some a) := fun i hi => (Ext.kill ρ H n).ix i a hi (by
      have := (List.getElem?_eq_some_iff.mp hi).1
      simpa [Rho.kill] using this)
    exact r.inj i j a (key i hi) (key j hj)
  · have hm : (ρ.ix.set n none)[m]? = some (some a) := hm
    have e : m ≠ n := fun e => by
      subst e
      rw [List.getElem?_set] at hm
      simp at hm
    have hm' := hm
    rw [List.getElem?_set_ne (Ne.symm e)] at hm'
    obtain ⟨c, h1, h2⟩ := r.cell m a hm'
    exact ⟨c, by rw [List.getElem?_set_ne (Ne.symm e)]; exact h1, h2.mono (.kill ρ H n) rfl⟩
  · have hm : (ρ.ix.set n none)[m]? = some none := hm
    by_cases e : m = n
    · subst e; exact .inl (List.getElem?_set_self hs)
    · rw [List.getElem?_set_ne (Ne.symm e)] at hm ⊢
      exact r.dd m hm
  · obtain ⟨m, _, hm⟩ := kill_mem z
    exact r.disj a ha (List.mem_of_getElem? hm)
  · obtain ⟨m, _, hm⟩ := kill_mem z
    exact r.ra.nix b hb (List.mem_of_getElem? hm)
/-- an address kept aside -/
def Rho.keep (ρ : Rho) (p : Addr) : Rho := ⟨ρ.ix, p :: ρ.res, ρ.ob⟩
theorem Ext.keep (r : RS ρ K st H) {p : Addr} (h : H p = none) (o : HO) : Ext ρ H (ρ.keep p) (upd H p o) := by
  refine ⟨fun a u q _ _ => by rw [upd_ne (ne_of_none q h)]; exact q, fun a q => ?_, Nat.le_refl _, fun _ _ q _ => q, fun _ q => List.mem_cons_of_mem _ q, fun _ _ q q' => ⟨q, q'⟩, upd_al, fun _ _ q => q⟩
  rcases q with q | q | q
  · exact .inl (.inl q)
  · rcases List.mem_cons.mp q with e | q
    · subst e; exact .inr h
    · exact .inl (.inr (.inl q))
  · exact .inl (.inr (.inr q))
theorem RS.keep (r : RS ρ K st H) {p : Addr} (h : H p = none) (o : HO) : RS (ρ.keep p) K st (upd H p o) := by
  have np : some p ∉ ρ.ix := fun z => r.fresh h (.inl z)
  have npo : p ∉ ρ.ob := fun z => r.fresh h (.inr (.inr z))
  refine ⟨r.len, r.inj, fun n a q => ?_, r.dd, fun a ha => ?_, fun a ha => ?_,
    r.ra.step (fun h' => RD.mono (Ext.keep r h o) h') rfl (fun _ h => h) (fun b hb => upd_ne fun e => npo (by rw [← e]; exact hb)) r.ra.nix (fun b hb => ?_)⟩
  · obtain ⟨c, h1, h2⟩ := r.cell n a q
    exact ⟨c, h1, h2.mono (.keep r h o) (upd_ne fun z => np (by rw [← z]; exact List.mem_of_getElem? q))⟩
  · rcases List.mem_cons.mp ha with e | ha
    · subst e; exact ⟨o, upd_same⟩
    · obtain ⟨u, hu⟩ := r.kept a ha
      exact ⟨u, by rw [upd_ne (ne_of_none hu h)]; exact hu⟩
  · rcases List.mem_cons.mp ha with e | ha
    · subst e; exact np
    · exact r.disj a ha
  · rcases List.mem_cons.mp hb with e | hb
    · subst e; exact npo
    · exact r.ra.nres b hb
end
/-- what was kept aside changes: nothing else leans on it -/
theorem TpAt.aside {ρ : Rho} {K : PySem.W.Frag} {H : Hp} {a p : Addr} {o : HO} {ys : List V} (hp : p ∈ ρ.res) (h : TpAt ρ K H a ys) : TpAt ρ K (upd H p o) a ys := by
  rcases h with ⟨h, n⟩ | h
  · have e : a ≠ p := fun e => n (.inr (.inl (by rw [e]; exact hp)))
    refine .inl ⟨?_, n⟩
    rcases h with h | ⟨u, h⟩
    · exact .inl (by rw [upd_ne e]; exact h)
    · exact .inr ⟨u, by rw [upd_ne e]; exact h⟩
  · exact .inr h
theorem LrAt.aside {ρ : Rho} {K : PySem.W.Frag} {H : Hp} {a p : Addr} {o : HO} {ys : List V} (hp : p ∈ ρ.res) (h : LrAt ρ K H a ys) : LrAt ρ K (upd H p o) a ys := by
  rcases h with ⟨⟨u, h⟩, n⟩ | h
  · have e : a ≠ p := fun e => n (.inr (.inl (by rw [e]; exact hp)))
    exact .inl ⟨⟨u, by rw [upd_ne e]; exact h⟩, n⟩
  · exact .inr h
theorem XD.aside {ρ : Rho} {H : Hp} {p : Addr} {o : HO} (hp : p ∈ ρ.res) {d : Option Addr} {gs : List (Str × V)} (h : XD ρ H d gs) : XD ρ (upd H p o) d gs := by
  rcases h with h | ⟨dd, h1, h2, h3, h5⟩
  · exact .inl h
  · exact .inr ⟨dd, h1, by rw [upd_ne (fun e => h3 (.inr (.inl (by rw [e]; exact hp))))]; exact h2, h3, h5⟩
theorem XnAt.aside {ρ : Rho} {K : PySem.W.Frag} {H : Hp} {p : Addr} {o : HO} (hp : p ∈ ρ.res) {c : String} {ns : List String} {a : Addr} {ys : List V} (h : XnAt ρ K H c ns a ys) : XnAt ρ K (upd H p o) c ns a ys := by
  obtain ⟨C, d, h1, h2, h3, h4⟩ := h
  exact ⟨C, d, h1, by rw [upd_ne (fun e => h3 (.inr (.inl (by rw [e]; exact hp))))]; exact h2, h3, h4.aside hp⟩
mutual
theorem RD.aside {ρ : Rho} {K : PySem.W.Frag} {H : Hp} {p : Addr} {o : HO} (hp : p ∈ ρ.res) : ∀ {x : Ir.D} {v : V}, RD ρ K H x v → RD ρ K (upd H p o) x v
  | _, _, .non => .non
  | _, _, .bool b => .bool b
  | _, _, .int i => .int i
  | _, _, .str s => .str s
  | _, _, .tup h z r => .tup (h.aside hp) z (RDs.aside hp r)
  | _, _, .ro h z r => .ro (h.aside hp) z (RDs.aside hp r)
  | _, _, .lst h n z r => .lst (by rw [upd_ne (fun e => n (.inr (.inl (by rw [e]; exact hp))))]; exact h) n z (RDs.aside hp r)
  | _, _, .oid h => .oid h
  | _, _, .fn h => .fn h
  | _, _, .exn h z r => .exn (h.aside hp) z (RDs.aside hp r)
theorem RDs.aside {ρ : Rho} {K : PySem.W.Frag} {H : Hp} {p : Addr} {o : HO} (hp : p ∈ ρ.res) : ∀ {xs : List Ir.D} {vs : List V}, RDs ρ K H xs vs → RDs ρ K (upd H p o) xs vs
  | _, _, .nil => .nil
  | _, _, .cons h r => .cons (RD.aside hp h) (RDs.aside hp r)
end
theorem RKs.aside {ρ : Rho} {K : PySem.W.Frag} {H : Hp} {p : Addr} {o : HO} (hp : p ∈ ρ.res) : ∀ {xs : List (Ir.D × Ir.D)} {vs : List (Key × V)}, RKs ρ K H xs vs → RKs ρ K (upd H p o) xs vs
  | _, _, .nil => .nil
  | _, _, .cons h q r => .cons h (RD.aside hp q) (RKs.aside hp r)
theorem RC.aside {ρ : Rho} {K : PySem.W.Frag} {H : Hp} {a p : Addr} {o : HO} {c : Ir.Cell} (hp : p ∈ ρ.res) (h : RC ρ K H a c) (e : a ≠ p) : RC ρ K (upd H p o) a c := by
  cases c with
  | lst xs => obtain ⟨ys, h1, h2, h3⟩ := h; exact ⟨ys, by rw [upd_ne e]; exact h1, h2, h3.aside hp⟩
  | dic xs => obtain ⟨ys, h1, h2, h3⟩ := h; exact ⟨ys, by rw [upd_ne e]; exact h1, h2, h3.aside hp⟩
  | dead => exact h
  | arena os => exact h
theorem RS.aside {ρ : Rho} {K : PySem.W.Frag} {st : Ir.Store} {H : Hp} {p : Addr} {o : HO} (r : RS ρ K st H) (hp : p ∈ ρ.res) : RS ρ K st (upd H p o) := by
  refine ⟨r.len, r.inj, fun n a q => ?_, r.dd, fun a ha => ?_, r.disj,
    r.ra.step (fun h' => RD.aside hp h') rfl (fun _ h => h) (fun b hb => upd_ne fun e => r.ra.nres p hp (by rw [← e]; exact hb)) r.ra.nix r.ra.nres⟩
  · obtain ⟨c, h1, h2⟩ := r.cell n a q
    exact ⟨c, h1, h2.aside hp fun e => r.disj p hp (by rw [← e]; exact List.mem_of_getElem? q)⟩
  · by_cases e : a = p
    · subst e; exact ⟨o, upd_same⟩
    · obtain ⟨u, hu⟩ := r.kept a ha
      exact ⟨u, by rw [upd_ne e]; exact hu⟩
/-- what was free ahead may be anything behind -/
theorem Ext.aside {ρ ρ' : Rho} {H H' : Hp} {p : Addr} {o : HO} (e : Ext ρ H ρ' H') (h : H p = none) : Ext ρ H ρ' (upd H' p o) :=
  ⟨fun a u q n m => by rw [upd_ne (ne_of_none q h)]; exact e.fr a u q n m, e.nw, e.len, e.ix, e.rs, e.rn, fun a q => e.al a (upd_al a q), e.ob⟩
/-- an address is given free -/
def Rho.drop (ρ : Rho) (rs : List Addr) : Rho := ⟨ρ.ix, rs, ρ.ob⟩
theorem own_drop {ρ : Rho} {rs : List Addr} (hs : ∀ a ∈ rs, a ∈ ρ.res) {a : Addr} (h : ¬ ρ.own a) : ¬ (ρ.drop rs).own a := fun z => h (z.elim .inl fun z => .inr (z.elim (fun z => .inl (hs a z)) .inr))
theorem XD.less {ρ ρ' : Rho} {H : Hp} (hs : ∀ b, ρ'.own b → ρ.own b) {d : Option Addr} {gs : List (Str × V)} (h : XD ρ H d gs) : XD ρ' H d gs := by
  rcases h with h | ⟨dd, h1, h2, h3, h5⟩
  · exact .inl h
  · exact .inr ⟨dd, h1, h2, fun z => h3 (hs _ z), h5⟩
theorem XnAt.less {ρ ρ' : Rho} {K : PySem.W.Frag} {H : Hp} (hs : ∀ b, ρ'.own b → ρ.own b) {c : String} {ns : List String} {a : Addr} {ys : List V} (h : XnAt ρ K H c ns a ys) : XnAt ρ' K H c ns a ys := by
  obtain ⟨C, d, h1, h2, h3, h4⟩ := h
  exact ⟨C, d, h1, h2, fun z => h3 (hs _ z), h4.less hs⟩
theorem own_dropS {ρ : Rho} {rs : List Addr} (hs : ∀ a ∈ rs, a ∈ ρ.res) (b : Addr) (q : (ρ.drop rs).own b) : ρ.own b := by
  rcases q with q | q | q
  · exact .inl q
  · exact .inr (.inl (hs b q))
  · exact .inr (.inr q)
mutual
theorem RD.drop {ρ : Rho} {K : PySem.W.Frag} {H : Hp} {rs : List Addr} (hs : ∀ a ∈ rs, a ∈ ρ.res) : ∀ {x : Ir.D} {v : V}, RD ρ K H x v → RD (ρ.drop rs) K H x v
  | _, _, .non => .non
  | _, _, .bool b => .bool b
  | _, _, .int i => .int i
  | _, _, .str s => .str s
  | _, _, .tup h z r => .tup (h.elim (fun q => .inl ⟨q.1, own_drop hs q.2⟩) .inr) z (RDs.drop' hs r)
  | _, _, .ro h z r => .ro (h.elim (fun q => .inl ⟨q.1, own_drop hs q.2⟩) .inr) z (RDs.drop' hs r)
  | _, _, .lst h n z r => .lst h (own_drop hs n) z (RDs.drop' hs r)
  | _, _, .oid h => .oid h
  | _, _, .fn h => .fn h
  | _, _, .exn h z r => .exn (h.less (own_dropS hs)) z (RDs.drop' hs r)
theorem RDs.drop' {ρ : Rho} {K : PySem.W.Frag} {H : Hp} {rs : List Addr} (hs : ∀ a ∈ rs, a ∈ ρ.res) : ∀ {xs : List Ir.D} {vs : List V}, RDs ρ K H xs vs → RDs (ρ.drop rs) K H xs vs
  | _, _, .nil => .nil
  | _, _, .cons h r => .cons (RD.drop hs h) (RDs.drop' hs r)
end
theorem RKs.drop {ρ : Rho} {K : PySem.W.Frag} {H : Hp} {rs : List Addr} (hs : ∀ a ∈ rs, a ∈ ρ.res) : ∀ {xs : List (Ir.D × Ir.D)} {vs : List (Key × V)}, RKs ρ K H xs vs → RKs (ρ.drop rs) K H xs vs
  | _, _, .nil => .nil
  | _, _, .cons h q r => .cons h (RD.drop hs q) (RKs.drop hs r)
theorem RC.drop {ρ : Rho} {K : PySem.W.Frag} {H : Hp} {rs : List Addr} {a : Addr} {c : Ir.Cell} (hs : ∀ a ∈ rs, a ∈ ρ.res) (h : RC ρ K H a c) : RC (ρ.drop rs) K H a c := by
  cases c with
  | lst xs => obtain ⟨ys, h1, h2, h3⟩ := h; exact ⟨ys, h1, h2, h3.drop' hs⟩
  | dic xs => obtain ⟨ys, h1, h2, h3⟩ := h; exact ⟨ys, h1, h2, h3.drop hs⟩
  | dead => exact h
  | arena os => exact h
theorem RS.drop {ρ : Rho} {K : PySem.W.Frag} {st : Ir.Store} {H : Hp} {rs : List Addr} (r : RS ρ K st H) (hs : ∀ a ∈ rs, a ∈ ρ.res) : RS (ρ.drop rs) K st H :=
  ⟨r.len, r.inj, fun n a q => let ⟨c, h1, h2⟩ := r.cell n a q; ⟨c, h1, h2.drop hs⟩, r.dd, fun a q => r.kept a (hs a q), fun a q => r.disj a (hs a q), r.ra.step (fun h' => RD.drop hs h') rfl (fun _ h => h) (fun _ _ => rfl) r.ra.nix fun a q => r.ra.nres a (hs a q)⟩
/-- less is owned: what stood stands -/
theorem own_sub {ρ ρ' : Rho} (hs : ∀ b, ρ'.own b → ρ.own b) {a : Addr} (h : ¬ ρ.own a) : ¬ ρ'.own a := fun z => h (hs a z)
mutual
theorem RD.sub {ρ ρ' : Rho} {K : PySem.W.Frag} {H : Hp} (hs : ∀ b, ρ'.own b → ρ.own b) (ho : ∀ (n : Nat) (b : Addr), ρ.ob[n]? = some b → ρ'.ob[n]? = some b) : ∀ {x : Ir.D} {v : V}, RD ρ K H x v → RD ρ' K H x v
  | _, _, .non => .non
  | _, _, .bool b => .bool b
  | _, _, .int i => .int i
  | _, _, .str s => .str s
  | _, _, .tup h z r => .tup (h.elim (fun q => .inl ⟨q.1, own_sub hs q.2⟩) .inr) z (RDs.sub hs ho r)
  | _, _, .ro h z r => .ro (h.elim (fun q => .inl ⟨q.1, own_sub hs q.2⟩) .inr) z (RDs.sub hs ho r)
  | _, _, .lst h n z r => .lst h (own_sub hs n) z (RDs.sub hs ho r)
  | _, _, .oid h => .oid (ho _ _ h)
  | _, _, .fn h => .fn h
  | _, _, .exn h z r => .exn (h.less hs) z (RDs.sub hs ho r)
theorem RDs.sub {ρ ρ' : Rho} {K : PySem.W.Frag} {H : Hp} (hs : ∀ b, ρ'.own b → ρ.own b) (ho : ∀ (n : Nat) (b : Addr), ρ.ob[n]? = some b → ρ'.ob[n]? = some b) : ∀ {xs : List Ir.D} {vs : List V}, RDs ρ K H xs vs → RDs ρ' K H xs vs
  | _, _, .nil => .nil
  | _, _, .cons h r => .cons (RD.sub hs ho h) (RDs.sub hs ho r)
end
theorem RKs.sub {ρ ρ' : Rho} {K : PySem.W.Frag} {H : Hp} (hs : ∀ b, ρ'.own b → ρ.own b) (ho : ∀ (n : Nat) (b : Addr), ρ.ob[n]? = some b → ρ'.ob[n]? = some b) : ∀ {xs : List (Ir.D × Ir.D)} {vs : List (Key × V)}, RKs ρ K H xs vs → RKs ρ' K H xs vs
  | _, _, .nil => .nil
  | _, _, .cons h q r => .cons h (RD.sub hs ho q) (RKs.sub hs ho r)
theorem RC.sub {ρ ρ' : Rho} {K : PySem.W.Frag} {H : Hp} (hs : ∀ b, ρ'.own b → ρ.own b) (ho : ∀ (n : Nat) (b : Addr), ρ.ob[n]? = Option.some b → ρ'.ob[n]? = Option.some b) {a : Addr} {c : Ir.Cell} (h : RC ρ K H a c) : RC ρ' K H a c := by
  cases c with
  | lst xs => obtain ⟨ys, h1, h2, h3⟩ := h; exact ⟨ys, h1, h2, h3.sub hs ho⟩
  | dic xs => obtain ⟨ys, h1, h2, h3⟩ := h; exact ⟨ys, h1, h2, h3.sub hs ho⟩
  | dead => exact h
  | arena os => exact h
/-- what is kept aside becomes a cell -/
theorem RS.cellOf {ρ : Rho} {K : PySem.W.Frag} {st : Ir.Store} {H : Hp} {rs : List Addr} {a : Addr} {c : Ir.Cell} (r : RS ρ K st H) (hs : ∀ b ∈ rs, b ∈ ρ.res) (ha : a ∈ ρ.res) (hn : a ∉ rs) (q : RC ⟨ρ.ix ++ [some a], rs, ρ.ob⟩ K H a c) : RS ⟨ρ.ix ++ [some a], rs, ρ.ob⟩ K (st ++ [c]) H := by
  have sub : ∀ b, Rho.own ⟨ρ.ix ++ [some a], rs, ρ.ob⟩ b → ρ.own b := fun b z => by
    rcases z with z | z | z
    · rcases List.mem_append.mp z with z | z
      · exact .inl z
      · simp at z; subst z; exact .inr (.inl ha)
    · exact .inr (.inl (hs b z))
    · exact .inr (.inr z)
  have np : some a ∉ ρ.ix := r.disj a ha
  have key : ∀ (i : Nat) (b : Addr), (ρ.ix ++ [some a])[i]? = some (some b) → (ρ.ix[i]? = some (some b) ∧ b ≠ a) ∨ (i = ρ.ix.length ∧ b = a) := fun i b hi => by
    by_cases hl : i < ρ.ix.length
    · rw [List.getElem?_append_left hl] at hi
      exact .inl ⟨hi, fun e => np (by rw [← e]; exact List.mem_of_getElem? hi)⟩
    · rw [List.getElem?_append_right (by omega)] at hi
      have : i - ρ.ix.length = 0 := by
        by_cases z : i - ρ.ix.length = 0
        · exact z
        · rw [List.getElem?_eq_none (by simp; omega)] at hi; cases hi
      rw [this] at hi
      simp at hi
      exact .inr ⟨by omega, hi.symm⟩
  refine ⟨by simp [r.len], fun i j b hi hj => ?_, fun n b hb => ?_, fun n hb => r.dd_push hb, fun b hb => r.kept b (hs b hb), fun b hb z => ?_,
    r.ra.step (fun h' => RD.sub sub (fun _ _ q => q) h') rfl (arena_push q.nar) (fun _ _ => rfl) (fun b hb z => ?_) fun b hb => r.ra.nres b (hs b hb)⟩
  · rcases key i b hi with ⟨h1, n1⟩ | ⟨h1, n1⟩ <;> rcases key j b hj with ⟨h2, n2⟩ | ⟨h2, n2⟩
    · exact r.inj i j b h1 h2
    · exact absurd n2 n1
    · exact absurd n1 n2
    · omega
  · rcases key n b hb with ⟨h1, n1⟩ | ⟨h1, n1⟩
    · obtain ⟨c', h2, h3⟩ := r.cell n b h1
      exact ⟨c', by rw [List.getElem?_append_left (List.getElem?_eq_some_iff.mp h2).1]; exact h2, h3.sub sub fun _ _ q => q⟩
    · subst h1 n1
      refine ⟨c, ?_, q⟩
      rw [← r.len, List.getElem?_append_right (Nat.le_refl _)]; simp
  · rcases List.mem_append.mp z with z | z
    · exact r.disj b (hs b hb) z
    · simp at z; subst z; exact hn hb
  · rcases List.mem_append.mp z with z | z
    · exact r.ra.nix b hb z
    · simp at z; subst z; exact r.ra.nres _ ha hb
theorem Ext.cellOf {ρ ρ' : Rho} {H H' : Hp} {a : Addr} (e : Ext ρ H ρ' H') (ha : H a = none) (hn : a ∉ ρ.res) : Ext ρ H ⟨ρ'.ix ++ [some a], ρ.res, ρ'.ob⟩ H' := by
  refine ⟨e.fr, fun b q => ?_, by have := e.len; simp; omega, fun n b q hl => ?_, fun _ q => q, fun b hb n m => ⟨fun z => ?_, (e.rn b hb n m).2⟩, e.al, e.ob⟩
  · rcases q with q | q | q
    · rcases List.mem_append.mp q with z | z
      · exact e.nw b (.inl z)
      · simp at z; subst z; exact .inr ha
    · exact .inl (.inr (.inl q))
    · exact e.nw b (.inr (.inr q))
  · have q : (ρ'.ix ++ [some a])[n]? = some (some b) := q
    rw [List.getElem?_append_left (Nat.lt_of_lt_of_le hl e.len)] at q
    exact e.ix n b q hl
  · rcases List.mem_append.mp z with z | z
    · exact (e.rn b hb n m).1 z
    · simp at z; subst z; exact hn hb
theorem Ext.drop {ρ ρ' : Rho} {H H' : Hp} (e : Ext ρ H ρ' H') : Ext ρ H (ρ'.drop ρ.res) H' :=
  ⟨e.fr, fun a q => q.elim (fun z => e.nw a (.inl z)) fun z => z.elim (fun z => .inl (.inr (.inl z))) fun z => e.nw a (.inr (.inr z)), e.len, e.ix, fun _ q => q, e.rn, e.al, e.ob⟩
/-! ### objects -/
section
variable {ρ : Rho} {K : PySem.W.Frag} {st : Ir.Store} {H : Hp}
theorem arena_lt {os : List Ir.Obj} (h : Ir.arenaOf st = some os) : 0 < st.length := (List.getElem?_eq_some_iff.mp (arena_iff.mp h)).1
theorem arena_put {os os' : List Ir.Obj} (h : Ir.arenaOf st = some os) : Ir.arenaOf (st.set 0 (.arena os')) = some os' := by
  rw [arena_iff, List.getElem?_set_self (arena_lt h)]
theorem RS.arena_ix (r : RS ρ K st H) {os : List Ir.Obj} (h : Ir.arenaOf st = some os) : ρ.ix[(0 : Nat)]? = some none := by
  have h0 := arena_iff.mp h
  have hl : 0 < ρ.ix.length := by rw [← r.len]; exact arena_lt h
  cases q : ρ.ix[(0 : Nat)]? with
  | none => rw [List.getElem?_eq_none_iff] at q; omega
  | some o =>
    cases o with
    | none => rfl
    | some a =>
      obtain ⟨c, h1, h2⟩ := r.cell 0 a q
      rw [h0] at h1; cases h1
      exact h2.elim
/-- the arena's cell is set: what is true of the cells stays -/
theorem RS.set0 {ρ' : Rho} {H' : Hp} (r : RS ρ K st H) (e : Ext ρ H ρ' H') (hix : ρ'.ix = ρ.ix) {os os' : List Ir.Obj} (h : Ir.arenaOf st = some os) (s : ∀ a, some a ∈ ρ.ix → H' a = H a) (hk : ∀ a ∈ ρ'.res, ∃ o, H' a = some o) (hd : ∀ a ∈ ρ'.res, some a ∉ ρ.ix) (ra : RA ρ' K (st.set 0 (.arena os')) H') : RS ρ' K (st.set 0 (.arena os')) H' := by
  have h0 := r.arena_ix h
  refine ⟨by rw [List.length_set, hix]; exact r.len, by rw [hix]; exact r.inj, fun n a q => ?_, fun n q => ?_, hk, by rw [hix]; exact hd, ra⟩
  · rw [hix] at q
    obtain ⟨c, h1, h2⟩ := r.cell n a q
    have hn : 0 ≠ n := fun z => by subst z; rw [h0] at q; cases q
    exact ⟨c, by rw [List.getElem?_set_ne hn]; exact h1, h2.mono e (s a (List.mem_of_getElem? q))⟩
  · rw [hix] at q
    by_cases hn : n = 0
    · subst hn
      exact .inr ⟨os', rfl, List.getElem?_set_self (arena_lt h)⟩
    · rw [List.getElem?_set_ne (Ne.symm hn)]
      rcases r.dd n q with this | ⟨_, e, _⟩
      · exact .inl this
      · exact absurd e hn
theorem RS.getO (r : RS ρ K st H) {os : List Ir.Obj} (h : Ir.arenaOf st = some os) {n : Nat} {o : Ir.Obj} (ho : os[n]? = some o) : ∃ a, ρ.ob[n]? = some a ∧ RO ρ K H a o := by
  obtain ⟨h1, h2⟩ := r.ra.obj os h
  have hn : n < ρ.ob.length := by rw [h1]; exact (List.getElem?_eq_some_iff.mp ho).1
  have hb := List.getElem?_eq_getElem hn
  obtain ⟨o', h3, h4⟩ := h2 n _ hb
  rw [ho] at h3; cases h3
  exact ⟨_, hb, h4⟩
/-- an object changed -/
theorem Ext.writeO (r : RS ρ K st H) {n : Nat} {a : Addr} (h : ρ.ob[n]? = some a) (o : HO) : Ext ρ H ρ (upd H a o) :=
  ⟨fun b u q _ z => by rw [upd_ne (fun e => z (by rw [e]; exact List.mem_of_getElem? h))]; exact q, fun _ q => .inl q, Nat.le_refl _, fun _ _ q _ => q, fun _ q => q, fun _ _ q q' => ⟨q, q'⟩, upd_al, fun _ _ q => q⟩
theorem RS.writeO (r : RS ρ K st H) {os : List Ir.Obj} (h : Ir.arenaOf st = some os) {n : Nat} {a : Addr} (ha : ρ.ob[n]? = some a) {o : HO} {c : Ir.Obj} (q : RO ρ K (upd H a o) a c) : RS ρ K (st.set 0 (.arena (os.set n c))) (upd H a o) := by
  have ex := Ext.writeO r ha o
  have hm := List.mem_of_getElem? ha
  refine r.set0 ex rfl h (fun b hb => upd_ne fun e => r.ra.nix a hm (by rw [← e]; exact hb)) (fun b hb => ?_) r.disj ⟨fun os' h' => ?_, r.ra.inj, fun b hb => ?_, r.ra.nix, r.ra.nres⟩
  · obtain ⟨u, hu⟩ := r.kept b hb
    exact ⟨u, ex.fr b u hu (r.disj b hb) (r.ra.nres b hb)⟩
  · rw [arena_put h] at h'; cases h'
    obtain ⟨h1, h2⟩ := r.ra.obj os h
    refine ⟨by rw [List.length_set]; exact h1, fun m b hb => ?_⟩
    obtain ⟨o', h3, h4⟩ := h2 m b hb
    by_cases e : m = n
    · subst e
      rw [ha] at hb; cases hb
      exact ⟨c, List.getElem?_set_self (List.getElem?_eq_some_iff.mp h3).1, q⟩
    · exact ⟨o', by rw [List.getElem?_set_ne (Ne.symm e)]; exact h3, h4.mono ex (upd_ne fun z => e (r.ra.inj m n b hb (by rw [z]; exact ha)))⟩
  · by_cases e : b = a
    · subst e; exact ⟨o, upd_same⟩
    · rw [upd_ne e]; exact r.ra.kept b hb
/-- a new object -/
def Rho.pushO (ρ : Rho) (p : Addr) : Rho := ⟨ρ.ix, ρ.res, ρ.ob ++ [p]⟩
theorem ob_push {l : List Addr} {p : Addr} {n : Nat} {a : Addr} (h : (l ++ [p])[n]? = some a) : l[n]? = some a ∨ (n = l.length ∧ a = p) := by
  by_cases hl : n < l.length
  · rw [List.getElem?_append_left hl] at h; exact .inl h
  · rw [List.getElem?_append_right (by omega)] at h
    have : n - l.length = 0 := by
      by_cases z : n - l.length = 0
      · exact z
      · rw [List.getElem?_eq_none (by simp; omega)] at h; cases h
    rw [this] at h
    simp at h
    exact .inr ⟨by omega, h.symm⟩
theorem Ext.pushO (r : RS ρ K st H) {p : Addr} (h : H p = none) (o : HO) : Ext ρ H (ρ.pushO p) (upd H p o) := by
  refine ⟨fun a u q _ _ => by rw [upd_ne (ne_of_none q h)]; exact q, fun a q => ?_, Nat.le_refl _, fun n a q _ => q, fun _ q => q, fun a ha hn hb => ⟨hn, fun z => ?_⟩, upd_al, fun n a q => ?_⟩
  · rcases q with q | q | q
    · exact .inl (.inl q)
    · exact .inl (.inr (.inl q))
    · rcases List.mem_append.mp q with z | z
      · exact .inl (.inr (.inr z))
      · simp at z; subst z; exact .inr h
  · rcases List.mem_append.mp z with z | z
    · exact hb z
    · simp at z
      subst z
      exact r.fresh h (.inr (.inl ha))
  · show (ρ.ob ++ [p])[n]? = some a
    rw [List.getElem?_append_left (List.getElem?_eq_some_iff.mp q).1]; exact q
/-- what is at hand of a new object: its address is none of the others -/
theorem RS.addO {ρ' : Rho} {H' : Hp} (r : RS ρ K st H) (e : Ext ρ H ρ' H') {p : Addr} (hix : ρ'.ix = ρ.ix) (hob : ρ'.ob = ρ.ob ++ [p]) {os : List Ir.Obj} (h : Ir.arenaOf st = some os) (np : some p ∉ ρ.ix) (npo : p ∉ ρ.ob) (s : ∀ a, a ≠ p → (some a ∈ ρ.ix ∨ a ∈ ρ.ob) → H' a = H a)
    (hk : ∀ a ∈ ρ'.res, ∃ o, H' a = some o) (hd : ∀ a ∈ ρ'.res, some a ∉ ρ.ix ∧ a ∉ ρ.ob ∧ a ≠ p) {c : Ir.Obj} (q : RO ρ' K H' p c) : RS ρ' K (st.set 0 (.arena (os ++ [c]))) H' := by
  refine r.set0 e hix h (fun a ha => s a (fun z => np (by rw [← z]; exact ha)) (.inl ha)) hk (fun a ha => (hd a ha).1) ⟨fun os' h' => ?_, fun i j a hi hj => ?_, fun b hb => ?_, fun b hb z => ?_, fun b hb z => ?_⟩
  · rw [arena_put h] at h'; cases h'
    obtain ⟨h1, h2⟩ := r.ra.obj os h
    refine ⟨by rw [hob]; simp [h1], fun m b hb => ?_⟩
    rw [hob] at hb
    rcases ob_push hb with hb | ⟨e1, e2⟩
    · obtain ⟨o', h3, h4⟩ := h2 m b hb
      have hm := List.mem_of_getElem? hb
      exact ⟨o', by rw [List.getElem?_append_left (List.getElem?_eq_some_iff.mp h3).1]; exact h3, h4.mono e (s b (fun z => npo (by rw [← z]; exact hm)) (.inr hm))⟩
    · subst e1 e2
      exact ⟨c, by rw [h1]; simp, q⟩
  · rw [hob] at hi hj
    rcases ob_push hi with h1 | ⟨h1, n1⟩ <;> rcases ob_push hj with h2 | ⟨h2, n2⟩
    · exact r.ra.inj i j a h1 h2
    · exact absurd (by rw [← n2]; exact List.mem_of_getElem? h1) npo
    · exact absurd (by rw [← n1]; exact List.mem_of_getElem? h2) npo
    · omega
  · rw [hob] at hb
    rcases List.mem_append.mp hb with hb | hb
    · rw [s b (fun z => npo (by rw [← z]; exact hb)) (.inr hb)]; exact r.ra.kept b hb
    · simp at hb; subst hb
      obtain ⟨u, hu, _⟩ := q.some
      exact ⟨u, hu⟩
  · rw [hob] at hb; rw [hix] at z
    rcases List.mem_append.mp hb with hb | hb
    · exact r.ra.nix b hb z
    · simp at hb; subst hb; exact np z
  · rw [hob] at z
    rcases List.mem_append.mp z with z | z
    · exact (hd b hb).2.1 z
    · simp at z; exact (hd b hb).2.2 z
theorem RS.pushO (r : RS ρ K st H) {os : List Ir.Obj} (ha : Ir.arenaOf st = some os) {p : Addr} (h : H p = none) {o : HO} {c : Ir.Obj} (q : RO (ρ.pushO p) K (upd H p o) p c) : RS (ρ.pushO p) K (st.set 0 (.arena (os ++ [c]))) (upd H p o) := by
  have nf := r.fresh h
  have ex := Ext.pushO r h o
  refine r.addO ex rfl rfl ha (own_no nf) (own_nob nf) (fun a hne _ => upd_ne hne) (fun a hr => ?_) (fun a hr => ⟨r.disj a hr, r.ra.nres a hr, fun z => nf (.inr (.inl (by rw [← z]; exact hr)))⟩) q
  obtain ⟨u, hu⟩ := r.kept a hr
  exact ⟨u, ex.fr a u hu (r.disj a hr) (r.ra.nres a hr)⟩
/-- what is kept aside becomes an object -/
theorem RS.objOf {rs : List Addr} {a : Addr} {c : Ir.Obj} (r : RS ρ K st H) {os : List Ir.Obj} (hA : Ir.arenaOf st = some os) (hs : ∀ b ∈ rs, b ∈ ρ.res) (ha : a ∈ ρ.res) (hn : a ∉ rs) (q : RO ⟨ρ.ix, rs, ρ.ob ++ [a]⟩ K H a c) : RS ⟨ρ.ix, rs, ρ.ob ++ [a]⟩ K (st.set 0 (.arena (os ++ [c]))) H := by
  have sub : ∀ b, Rho.own ⟨ρ.ix, rs, ρ.ob ++ [a]⟩ b → ρ.own b := fun b z => by
    rcases z with z | z | z
    · exact .inl z
    · exact .inr (.inl (hs b z))
    · rcases List.mem_append.mp z with z | z
      · exact .inr (.inr z)
      · simp at z; subst z; exact .inr (.inl ha)
  have obs : ∀ (n : Nat) (b : Addr), ρ.ob[n]? = some b → (ρ.ob ++ [a])[n]? = some b := fun n b q => by rw [List.getElem?_append_left (List.getElem?_eq_some_iff.mp q).1]; exact q
  have r1 := r.drop (rs := rs) hs
  have ex : Ext (ρ.drop rs) H ⟨ρ.ix, rs, ρ.ob ++ [a]⟩ H ∨ True := .inr trivial
  have np := r.disj a ha
  have npo := r.ra.nres a ha
  have h0 := r.arena_ix hA
  refine ⟨by rw [List.length_set]; exact r.len, r.inj, fun n b hb => ?_, fun n hb => ?_, fun b hb => r.kept b (hs b hb), fun b hb => r.disj b (hs b hb), ⟨fun os' h' => ?_, fun i j b hi hj => ?_, fun b hb => ?_, fun b hb z => ?_, fun b hb z => ?_⟩⟩
  · obtain ⟨c', h1, h2⟩ := r.cell n b hb
    have hn0 : 0 ≠ n := fun z => by subst z; rw [h0] at hb; cases hb
    exact ⟨c', by rw [List.getElem?_set_ne hn0]; exact h1, h2.sub sub obs⟩
  · by_cases hn0 : n = 0
    · subst hn0
      exact .inr ⟨_, rfl, List.getElem?_set_self (arena_lt hA)⟩
    · rw [List.getElem?_set_ne (Ne.symm hn0)]
      rcases r.dd n hb with this | ⟨_, e, _⟩
      · exact .inl this
      · exact absurd e hn0
  · rw [arena_put hA] at h'; cases h'
    obtain ⟨h1, h2⟩ := r.ra.obj os hA
    refine ⟨by simp [h1], fun m b hb => ?_⟩
    rcases ob_push hb with hb | ⟨e1, e2⟩
    · obtain ⟨o', h3, h4⟩ := h2 m b hb
      exact ⟨o', by rw [List.getElem?_append_left (List.getElem?_eq_some_iff.mp h3).1]; exact h3, h4.map (fun h' => RD.sub sub obs h') rfl⟩
    · subst e1 e2
      exact ⟨c, by rw [h1]; simp, q⟩
  · rcases ob_push hi with h1 | ⟨h1, n1⟩ <;> rcases ob_push hj with h2 | ⟨h2, n2⟩
    · exact r.ra.inj i j b h1 h2
    · exact absurd (by rw [← n2]; exact List.mem_of_getElem? h1) npo
    · exact absurd (by rw [← n1]; exact List.mem_of_getElem? h2) npo
    · omega
  · rcases List.mem_append.mp hb with hb | hb
    · exact r.ra.kept b hb
    · simp at hb; subst hb; exact r.kept _ ha
  · rcases List.mem_append.mp hb with hb | hb
    · exact r.ra.nix b hb z
    · simp at hb; subst hb; exact np z
  · rcases List.mem_append.mp z with z | z
    · exact r.ra.nres b (hs b hb) z
    · simp at z; subst z; exact hn hb
theorem Ext.objOf {ρ ρ' : Rho} {H H' : Hp} {a : Addr} (e : Ext ρ H ρ' H') (ha : H a = none) (hn : a ∉ ρ.res) : Ext ρ H ⟨ρ'.ix, ρ.res, ρ'.ob ++ [a]⟩ H' := by
  refine ⟨e.fr, fun b q => ?_, e.len, fun n b q hl => e.ix n b q hl, fun _ q => q, fun b hb n m => ⟨(e.rn b hb n m).1, fun z => ?_⟩, e.al, fun n b q => ?_⟩
  · rcases q with q | q | q
    · exact e.nw b (.inl q)
    · exact .inl (.inr (.inl q))
    · rcases List.mem_append.mp q with z | z
      · exact e.nw b (.inr (.inr z))
      · simp at z; subst z; exact .inr ha
  · rcases List.mem_append.mp z with z | z
    · exact (e.rn b hb n m).2 z
    · simp at z; subst z; exact hn hb
  · have := e.ob n b q
    show (ρ'.ob ++ [a])[n]? = some b
    rw [List.getElem?_append_left (List.getElem?_eq_some_iff.mp this).1]; exact this
end
end Snd

namespace Snd
open PySem PySem.Spec PyProof.Rows L2
/-! ### readings -/
def REnv (ρ : Rho) (K : PySem.W.Frag) (H : Hp) (env : Ir.Env) (σ : L2.St) : Prop :=
  env.length = σ.length ∧ ∀ (i : Nat) (v : Ir.Val), env[i]? = some (some v) → ∃ x, σ[i]? = some (some x) ∧ RV ρ K H v x
theorem REnv.mono {ρ ρ' : Rho} {K : PySem.W.Frag} {H H' : Hp} {env : Ir.Env} {σ : L2.St} (h : REnv ρ K H env σ) (e : Ext ρ H ρ' H') : REnv ρ' K H' env σ :=
  ⟨h.1, fun i v q => let ⟨x, h1, h2⟩ := h.2 i v q; ⟨x, h1, h2.mono e⟩⟩
theorem REnv.set {ρ : Rho} {K : PySem.W.Frag} {H : Hp} {env : Ir.Env} {σ : L2.St} (h : REnv ρ K H env σ) {v : Ir.Val} {x : V} (r : RV ρ K H v x) (i : Nat) : REnv ρ K H (env.set i (some v)) (σ.set i (some x)) := by
  refine ⟨by simp [h.1], fun j u q => ?_⟩
  by_cases e : i = j
  · subst e
    rw [List.getElem?_set] at q ⊢
    simp only [if_true] at q ⊢
    split at q
    · rename_i hl
      rw [if_pos (by rw [← h.1]; exact hl)]
      cases q
      exact ⟨x, rfl, r⟩
    · cases q
  · rw [List.getElem?_set_ne e] at q ⊢
    exact h.2 j u q
theorem REnv.wipe {ρ : Rho} {K : PySem.W.Frag} {H : Hp} {env : Ir.Env} {σ : L2.St} (h : REnv ρ K H env σ) : ∀ vs : List Nat, REnv ρ K H (Ir.wipe env vs) (L2.wipe σ vs)
  | [] => h
  | v :: vs => by
    have ih := REnv.wipe h vs
    refine ⟨by simp [Ir.wipe, L2.wipe, ih.1], fun j u q => ?_⟩
    simp only [Ir.wipe, L2.wipe] at q ⊢
    by_cases e : v = j
    · subst e
      rw [List.getElem?_set] at q
      simp at q
    · rw [List.getElem?_set_ne e] at q ⊢
      exact ih.2 j u q
/-- data that may be a cell's list -/
def VD (ρ : Rho) (K : PySem.W.Frag) (H : Hp) : Ir.D → V → Prop
  | .lst xs, v => ∃ a ys, v = .ref a ∧ H a = some (.lst ys) ∧ ys.length ≤ sizeLine ∧ RDs ρ K H xs ys
  | x, v => RD ρ K H x v
theorem VD.of {ρ : Rho} {K : PySem.W.Frag} {H : Hp} {x : Ir.D} {v : V} (h : RD ρ K H x v) : VD ρ K H x v := by
  cases h with
  | lst h n z r => exact ⟨_, _, rfl, h, z, r⟩
  | non => exact .non
  | bool b => exact .bool b
  | int i => exact .int i
  | str s => exact .str s
  | tup h z r => exact RD.tup h z r
  | ro h z r => exact RD.ro h z r
  | oid h => exact RD.oid h
  | fn h => exact RD.fn h
  | exn h z r => exact RD.exn h z r
theorem RV.cell {ρ : Rho} {K : PySem.W.Frag} {H : Hp} {st : Ir.Store} {n : Nat} {c : Ir.Cell} {x : V} (r : RS ρ K st H) (h : RV ρ K H (.ref n) x) (e : st[n]? = some c) (d : c ≠ .dead ∧ ∀ os, c ≠ .arena os) : ∃ a, x = .ref a ∧ ρ.ix[n]? = some (some a) ∧ RC ρ K H a c := by
  obtain ⟨a, h1, h2⟩ := r.get e d
  obtain ⟨_, b, h3, h4⟩ := h
  have := h4 a h1
  subst this
  exact ⟨a, h3, h1, h2⟩
theorem VD.deref {ρ : Rho} {K : PySem.W.Frag} {H : Hp} {st : Ir.Store} {v : Ir.Val} {x : V} {p : Ir.D} (r : RS ρ K st H) (h : RV ρ K H v x) (e : Ir.deref st v = some p) : VD ρ K H p x := by
  cases v with
  | d y =>
    simp only [Ir.deref, Option.some.injEq] at e
    subst e
    exact .of h
  | ref n =>
    simp only [Ir.deref] at e
    split at e
    · rename_i xs hx
      cases e
      obtain ⟨a, e1, e2, ys, h1, h2, h3⟩ := RV.cell r h hx (by simp)
      exact ⟨a, ys, e1, h1, h2, h3⟩
    · cases e

variable {X : Cx} {C : Ir.Calls}
def tI (C : Ir.Calls) (K : PySem.W.Frag) (e : Ir.Ex) : TE := fun σ H Q => ∃ ρ env st v st', RS ρ K st H ∧ REnv ρ K H env σ ∧ Ir.eval C e env st = .ok v st' ∧
  ∀ ρ' H' x, Ext ρ H ρ' H' → RS ρ' K st' H' → RV ρ' K H' v x → Q x H'
def tIs (C : Ir.Calls) (K : PySem.W.Frag) (es : List Ir.Ex) : TA := fun σ H Q => ∃ ρ env st vs st', RS ρ K st H ∧ REnv ρ K H env σ ∧ Ir.evals C es env st = .ok vs st' ∧
  ∀ ρ' H' xs, Ext ρ H ρ' H' → RS ρ' K st' H' → RVs ρ' K H' vs xs → Q xs H'
def tIT (C : Ir.Calls) (K : PySem.W.Frag) (e : Ir.Ex) : TT := fun σ H Q => ∃ ρ env st b st', RS ρ K st H ∧ REnv ρ K H env σ ∧ Ir.eval C e env st = .ok (.d (.bool b)) st' ∧
  ∀ ρ' H', Ext ρ H ρ' H' → RS ρ' K st' H' → Q b H'
def tIO (C : Ir.Calls) (K : PySem.W.Frag) (e : Option Ir.Ex) : TO := fun σ H Q => ∃ ρ env st v st', RS ρ K st H ∧ REnv ρ K H env σ ∧ Ir.evalO C e env st = .ok v st' ∧
  ∀ ρ' H', Ext ρ H ρ' H' → RS ρ' K st' H' → Q v H'
def tICs (C : Ir.Calls) (K : PySem.W.Frag) (es : List Ir.Ex) : TT := fun σ H Q => ∃ ρ env st b st', RS ρ K st H ∧ REnv ρ K H env σ ∧ Ir.conds C es env st = .ok b st' ∧
  ∀ ρ' H', Ext ρ H ρ' H' → RS ρ' K st' H' → Q b H'
abbrev SE (X : Cx) (C : Ir.Calls) (e : Expr) (ir : Ir.Ex) : Prop := PE X e (tI C X.K ir)
abbrev SEs (X : Cx) (C : Ir.Calls) (es : List Expr) (ir : List Ir.Ex) : Prop := PA X es (tIs C X.K ir)
abbrev ST (X : Cx) (C : Ir.Calls) (e : Expr) (ir : Ir.Ex) : Prop := PT X e (tIT C X.K ir)
abbrev SW (X : Cx) (C : Ir.Calls) (e : Expr) (ir : Ir.Ex) : Prop := PW X e (tIT C X.K ir)
abbrev SO (X : Cx) (C : Ir.Calls) (e : Option Expr) (ir : Option Ir.Ex) : Prop := PO X e (tIO C X.K ir)
abbrev SCs (X : Cx) (C : Ir.Calls) (es : List Expr) (ir : List Ir.Ex) : Prop := PTs X es (tICs C X.K ir)
theorem pe_imp {e : Expr} {t t' : TE} (h : PE X e t) (w : ∀ σ H Q, t' σ H Q → t σ H Q) : PE X e t' := ⟨fun pins s σ H Q I q => h.run pins s σ H Q I (w σ H Q q)⟩
theorem pt_imp {e : Expr} {t t' : TT} (h : PT X e t) (w : ∀ σ H Q, t' σ H Q → t σ H Q) : PT X e t' := ⟨fun pins s σ H Q I q => h.run pins s σ H Q I (w σ H Q q)⟩
theorem pw_imp {e : Expr} {t t' : TT} (h : PW X e t) (w : ∀ σ H Q, t' σ H Q → t σ H Q) : PW X e t' := ⟨fun wh pins s σ H Q I q => h.run wh pins s σ H Q I (w σ H Q q)⟩
theorem pa_imp {es : List Expr} {t t' : TA} (h : PA X es t) (w : ∀ σ H Q, t' σ H Q → t σ H Q) : PA X es t' := ⟨fun p pins s σ H Q I q => h.run p pins s σ H Q I (w σ H Q q)⟩
theorem po_imp {e : Option Expr} {t t' : TO} (h : PO X e t) (w : ∀ σ H Q, t' σ H Q → t σ H Q) : PO X e t' := ⟨fun pins s σ H Q I q => h.run pins s σ H Q I (w σ H Q q)⟩
theorem pts_imp {es : List Expr} {t t' : TT} (h : PTs X es t) (w : ∀ σ H Q, t' σ H Q → t σ H Q) : PTs X es t' := ⟨fun pins s σ H Q I q => h.run pins s σ H Q I (w σ H Q q)⟩

theorem bok {α β : Type} {r : Ir.Res α} {f : α → Ir.Store → Ir.Res β} {b : β} {st : Ir.Store} (h : r.bind f = .ok b st) : ∃ a s1, r = .ok a s1 ∧ f a s1 = .ok b st := Ir.Res.bind_eq_ok h
theorem ook {α β : Type} {o : Option α} {s : Ir.Store} {f : α → Ir.Store → Ir.Res β} {b : β} {st : Ir.Store} (h : (Ir.optR o s).bind f = .ok b st) : ∃ a, o = some a ∧ f a s = .ok b st := by
  obtain ⟨a, s1, h1, h2⟩ := bok h
  obtain ⟨e, rfl⟩ := Ir.optR_ok h1
  exact ⟨a, e, h2⟩
/-! ### names, constants -/
theorem se_var (i : Nat) {x : Str} {pos : Pos} (hN : X.N[i]? = some x := by rfl) (hv : Vis X.env.scope x := by first | exact Or.inl rfl | exact Or.inr (Or.inl rfl) | exact Or.inr (Or.inr rfl)) (hd : (x == ("__debug__" : Str)) = false := by decide) (hcd : (x == ("__classdict__" : Str)) = false := by decide) : SE X C (.Name x pos) (.var i) := by
  refine pe_imp (pe_var (i := i) hN hv hd hcd) fun σ H Q ⟨ρ, env, st, v, st', rs, re, ev, k⟩ => ?_
  simp only [Ir.eval] at ev
  split at ev
  · rename_i w hw
    cases ev
    obtain ⟨x, h1, h2⟩ := re.2 i _ hw
    exact ⟨x, h1, k ρ H x (.refl _ _) rs h2⟩
  · cases ev
theorem se_int {i j pos} : SE X C (.Constant (.int i) j pos) (.con (.int i)) := pe_imp pe_int fun σ H Q ⟨ρ, env, st, v, st', rs, re, ev, k⟩ => by
  simp only [Ir.eval] at ev; cases ev; exact k ρ H _ (.refl _ _) rs (.int i)
theorem se_bool {b j pos} : SE X C (.Constant (.bool b) j pos) (.con (.bool b)) := pe_imp pe_bl fun σ H Q ⟨ρ, env, st, v, st', rs, re, ev, k⟩ => by
  simp only [Ir.eval] at ev; cases ev; exact k ρ H _ (.refl _ _) rs (.bool b)
theorem se_non {j pos} : SE X C (.Constant .none j pos) (.con .non) := pe_imp pe_non fun σ H Q ⟨ρ, env, st, v, st', rs, re, ev, k⟩ => by
  simp only [Ir.eval] at ev; cases ev; exact k ρ H _ (.refl _ _) rs .non
theorem se_str {s : String} {j pos} : SE X C (.Constant (.str (Str.ofString s)) j pos) (.con (.str s)) := pe_imp pe_str fun σ H Q ⟨ρ, env, st, v, st', rs, re, ev, k⟩ => by
  simp only [Ir.eval] at ev; cases ev; exact k ρ H _ (.refl _ _) rs (.str s)
/-! ### lists of expressions -/
theorem ses_nil : SEs X C [] [] := pa_imp pa_nil fun σ H Q ⟨ρ, env, st, v, st', rs, re, ev, k⟩ => by
  simp only [Ir.evals] at ev; cases ev; exact k ρ H _ (.refl _ _) rs .nil
theorem ses_cons {e : Expr} {es : List Expr} {i : Ir.Ex} {is : List Ir.Ex} (h : SE X C e i) (hs : SEs X C es is) (hst : starEach (e :: es) X.env = (false, eval e X.env) :: starEach es X.env := by rfl) : SEs X C (e :: es) (i :: is) := by
  refine pa_imp (pa_cons h hs hst) fun σ H Q ⟨ρ, env, st, v, st', rs, re, ev, k⟩ => ?_
  simp only [Ir.evals] at ev
  obtain ⟨x, s1, e1, ev⟩ := bok ev
  obtain ⟨xs, s2, e2, ev⟩ := bok ev
  cases ev
  exact ⟨ρ, env, st, x, s1, rs, re, e1, fun ρ1 H1 X1 x1 rs1 rx => ⟨ρ1, env, s1, xs, st', rs1, re.mono x1, e2, fun ρ2 H2 XS x2 rs2 rxs => k ρ2 H2 (X1 :: XS) (x1.trans x2) rs2 (.cons (rx.mono x2) rxs)⟩⟩
/-- a new tuple, list -/
theorem grow_tup {ρ : Rho} {K : PySem.W.Frag} {st : Ir.Store} {H : Hp} {xs : List Ir.D} {ys : List V} (rs : RS ρ K st H) (r : RDs ρ K H xs ys) (z : ys.length ≤ sizeLine) {p : Addr} (hp : H p = none) : RD ρ K (upd H p (.tup ys)) (.tup xs) (.ref p) :=
  .tup (.inl ⟨.inl upd_same, rs.fresh hp⟩) z (r.mono (.grow rs hp _))
theorem grow_lst {ρ : Rho} {K : PySem.W.Frag} {st : Ir.Store} {H : Hp} {xs : List Ir.D} {ys : List V} (rs : RS ρ K st H) (r : RDs ρ K H xs ys) (z : ys.length ≤ sizeLine) {p : Addr} (hp : H p = none) : RD ρ K (upd H p (.lst ys)) (.lst xs) (.ref p) :=
  .lst upd_same (rs.fresh hp) z (r.mono (.grow rs hp _))
theorem se_tup {es : List Expr} {is : List Ir.Ex} {x1} {pos : Pos} (hs : SEs X C es is) (hl : is.length ≤ sizeLine := by decide) : SE X C (.Tuple es x1 pos) (.tup is) := by
  refine pe_imp (pe_tup hs) fun σ H Q ⟨ρ, env, st, v, st', rs, re, ev, k⟩ => ?_
  simp only [Ir.eval] at ev
  obtain ⟨vs, s1, e1, ev⟩ := bok ev
  obtain ⟨ds, e2, ev⟩ := ook ev
  cases ev
  refine ⟨ρ, env, st, vs, st', rs, re, e1, fun ρ1 H1 XS x1 rs1 rx => ?_⟩
  have hlen : XS.length ≤ sizeLine := by
    have : ∀ (es : List Ir.Ex) (env : Ir.Env) (st st' : Ir.Store) (vs : List Ir.Val), Ir.evals C es env st = .ok vs st' → vs.length = es.length := by
      intro es
      induction es with
      | nil => intro env st st' vs h; simp only [Ir.evals] at h; cases h; rfl
      | cons e es ih =>
        intro env st st' vs h
        simp only [Ir.evals] at h
        obtain ⟨x, s1, e1, h⟩ := bok h
        obtain ⟨xs, s2, e2, h⟩ := bok h
        cases h
        simp [ih _ _ _ _ e2]
    rw [← rx.length, this _ _ _ _ _ e1]; exact hl
  refine ⟨hlen, fun p hp => k ρ1 _ _ (x1.trans (.grow rs1 hp _)) (rs1.grow hp _) (grow_tup rs1 (rx.ds e2) hlen hp)⟩
theorem evals_len : ∀ (es : List Ir.Ex) (env : Ir.Env) (st st' : Ir.Store) (vs : List Ir.Val), Ir.evals C es env st = .ok vs st' → vs.length = es.length := by
  intro es
  induction es with
  | nil => intro env st st' vs h; simp only [Ir.evals] at h; cases h; rfl
  | cons e es ih =>
    intro env st st' vs h
    simp only [Ir.evals] at h
    obtain ⟨x, s1, e1, h⟩ := bok h
    obtain ⟨xs, s2, e2, h⟩ := bok h
    cases h
    simp [ih _ _ _ _ e2]
/-! ### expressions that make a new list: as data, or as a cell -/
/-- ir makes a list of data at an address that was free -/
def tN (C : Ir.Calls) (K : PySem.W.Frag) (e : Ir.Ex) : TE := fun σ H Q => ∃ ρ env st xs st', RS ρ K st H ∧ REnv ρ K H env σ ∧ Ir.eval C e env st = .ok (.d (.lst xs)) st' ∧
  ∀ ρ' H' a ys, Ext ρ H ρ' H' → RS ρ' K st' H' → H a = none → a ∈ ρ'.res → H' a = some (.lst ys) → ys.length ≤ sizeLine → RDs ρ' K H' xs ys → Q (.ref a) H'
abbrev SN (X : Cx) (C : Ir.Calls) (e : Expr) (ir : Ir.Ex) : Prop := PE X e (tN C X.K ir)
theorem tI_list {K : PySem.W.Frag} {ir : Ir.Ex} (hl : ∀ env st v st', Ir.eval C ir env st = .ok v st' → ∃ xs, v = .d (.lst xs)) : ∀ σ H Q, tI C K ir σ H Q → tN C K ir σ H Q := by
  intro σ H Q ⟨ρ, env, st, v, st', rs, re, ev, k⟩
  obtain ⟨xs, rfl⟩ := hl _ _ _ _ ev
  refine ⟨ρ, env, st, xs, st', rs, re, ev, fun ρ' H' a ys x rs' ha hr hh z r => k (ρ'.drop ρ.res) H' _ x.drop (rs'.drop x.rs) (RD.lst hh ?_ z (r.drop' x.rs))⟩
  rintro (q | q | q)
  · exact rs'.disj a hr q
  · exact rs.fresh ha (.inr (.inl q))
  · exact rs'.ra.nres a hr q
theorem tI_newL {K : PySem.W.Frag} {ir : Ir.Ex} : ∀ σ H Q, tI C K (.newL ir) σ H Q → tN C K ir σ H Q := by
  intro σ H Q ⟨ρ, env, st, v, st', rs, re, ev, k⟩
  simp only [Ir.eval] at ev
  obtain ⟨x, s1, e1, ev⟩ := bok ev
  split at ev
  · rename_i xs
    cases ev
    refine ⟨ρ, env, st, xs, s1, rs, re, e1, fun ρ' H' a ys x rs' ha hr hh z r => ?_⟩
    have hn : a ∉ ρ.res := fun q => rs.fresh ha (.inr (.inl q))
    have sub : ∀ b, Rho.own ⟨ρ'.ix ++ [some a], ρ.res, ρ'.ob⟩ b → ρ'.own b := fun b q => by
      rcases q with q | q | q
      · rcases List.mem_append.mp q with q | q
        · exact .inl q
        · simp at q; subst q; exact .inr (.inl hr)
      · exact .inr (.inl (x.rs b q))
      · exact .inr (.inr q)
    refine k ⟨ρ'.ix ++ [some a], ρ.res, ρ'.ob⟩ _ _ (x.cellOf ha hn) (rs'.cellOf x.rs hr hn ⟨ys, hh, z, r.sub sub fun _ _ q => q⟩) ⟨by simp [rs'.len], a, rfl, fun b hb => ?_⟩
    have hb : (ρ'.ix ++ [some a])[s1.length]? = some (some b) := hb
    rw [rs'.len, List.getElem?_append_right (Nat.le_refl _)] at hb
    simp at hb
    exact hb.symm
  · cases ev
theorem se_list {e : Expr} {ir : Ir.Ex} (hl : ∀ env st v st', Ir.eval C ir env st = .ok v st' → ∃ xs, v = .d (.lst xs)) (h : SN X C e ir) : SE X C e ir := pe_imp h (tI_list hl)
theorem se_newL {e : Expr} {ir : Ir.Ex} (h : SN X C e ir) : SE X C e (.newL ir) := pe_imp h tI_newL
/-- a new list, kept aside -/
theorem sn_fin {K : PySem.W.Frag} {ρ ρ1 : Rho} {H H1 : Hp} {st : Ir.Store} {xs : List Ir.D} {ys : List V} {Q : VK} (x : Ext ρ H ρ1 H1) (rs : RS ρ1 K st H1) (r : RDs ρ1 K H1 xs ys) (z : ys.length ≤ sizeLine) {p : Addr} (hp : H1 p = none)
    (k : ∀ ρ' H' a ys, Ext ρ H ρ' H' → RS ρ' K st H' → H a = none → a ∈ ρ'.res → H' a = some (.lst ys) → ys.length ≤ sizeLine → RDs ρ' K H' xs ys → Q (.ref a) H') : Q (.ref p) (upd H1 p (.lst ys)) :=
  k (ρ1.keep p) _ p ys (x.trans (.keep rs hp _)) (rs.keep hp _) (x.al p hp) List.mem_cons_self upd_same z (r.mono (.keep rs hp _))
theorem sn_lst {es : List Expr} {is : List Ir.Ex} {pos : Pos} (hs : SEs X C es is) (hl : is.length ≤ sizeLine := by decide) : SN X C (.List es pos) (.lst is) := by
  refine pe_imp (pe_lst hs) fun σ H Q ⟨ρ, env, st, v, st', rs, re, ev, k⟩ => ?_
  simp only [Ir.eval] at ev
  obtain ⟨vs, s1, e1, ev⟩ := bok ev
  obtain ⟨ds, e2, ev⟩ := ook ev
  cases ev
  refine ⟨ρ, env, st, vs, st', rs, re, e1, fun ρ1 H1 XS x1 rs1 rx => ?_⟩
  have hlen : XS.length ≤ sizeLine := by rw [← rx.length, evals_len _ _ _ _ _ e1]; exact hl
  exact ⟨hlen, fun p hp => sn_fin x1 rs1 (rx.ds e2) hlen hp k⟩
theorem is_lst {is : List Ir.Ex} : ∀ env st v st', Ir.eval C (.lst is) env st = .ok v st' → ∃ xs, v = .d (.lst xs) := fun env st v st' ev => by
  simp only [Ir.eval] at ev
  obtain ⟨vs, s1, e1, ev⟩ := bok ev
  obtain ⟨ds, e2, ev⟩ := ook ev
  cases ev
  exact ⟨_, rfl⟩
theorem se_newD {pos : Pos} : SE X C (.Dict [] [] pos) .newD := by
  refine pe_imp pe_dnewK fun σ H Q ⟨ρ, env, st, v, st', rs, re, ev, k⟩ => fun p hp => ?_
  simp only [Ir.eval] at ev
  cases ev
  refine k (ρ.push p) _ _ (.push rs hp _) (rs.push hp ⟨[], upd_same, Nat.zero_le _, .nil⟩) ⟨by simp [Rho.push, rs.len], p, rfl, fun b hb => ?_⟩
  simp only [Rho.push] at hb
  rw [rs.len, List.getElem?_append_right (Nat.le_refl _)] at hb
  simp at hb
  exact hb.symm
end Snd

namespace Snd
open PySem PySem.Spec PyProof.Rows L2
/-! ### data as the library's data -/
mutual
def toPy : Ir.D → PyData
  | .non => .none
  | .bool b => .bool b
  | .int i => .int i
  | .str s => .str (Str.ofString s)
  | .tup xs => .tuple (toPys xs)
  | .lst xs => .list (toPys xs)
  | .ro _ => .none
  | .oid _ => .none
  | .fn _ => .none
  | .exn _ _ _ => .none
def toPys : List Ir.D → List PyData
  | [] => []
  | x :: xs => toPy x :: toPys xs
end
theorem ofString_inj {x y : String} (h : Str.ofString x = Str.ofString y) : x = y := by
  rw [Str.ofString_eq_toList, Str.ofString_eq_toList] at h
  have h1 := congrArg (fun z : Str => z.cps.toList) h
  simp only at h1
  have h2 : x.toList.map Char.toNat = y.toList.map Char.toNat := by simpa using h1
  have inj : ∀ a b : Char, a.toNat = b.toNat → a = b := fun a b e => Char.ext (UInt32.toNat_inj.mp e)
  have h3 : x.toList = y.toList := (List.map_inj_right inj).mp h2
  exact String.toList_inj.mp h3
theorem ofString_beq (x y : String) : (Str.ofString x == Str.ofString y) = decide (x = y) := by
  by_cases e : x = y
  · subst e; simp
  · have : ¬ Str.ofString x = Str.ofString y := fun h => e (ofString_inj h)
    rw [decide_eq_false e]
    simpa using this
mutual
theorem eqv_toPy : ∀ (x y : Ir.D), x.dep < 1000 → y.dep < 1000 → PyData.eqv (toPy x) (toPy y) = x.eqv y
  | .tup xs, .tup ys, hx, hy => by
    simp only [Ir.D.dep] at hx hy
    simp only [toPy, PyData.eqv, Ir.D.eqv]
    exact eqv_toPys xs ys (by omega) (by omega)
  | .lst xs, .lst ys, hx, hy => by
    simp only [Ir.D.dep] at hx hy
    simp only [toPy, PyData.eqv, Ir.D.eqv]
    exact eqv_toPys xs ys (by omega) (by omega)
  | .str a, .str b, _, _ => by simp only [toPy, PyData.eqv, Ir.D.eqv, ofString_beq]
  | .ro _, _, hx, _ => by simp [Ir.D.dep] at hx
  | .oid _, _, hx, _ => by simp [Ir.D.dep] at hx
  | .fn _, _, hx, _ => by simp [Ir.D.dep] at hx
  | .exn _ _ _, _, hx, _ => by simp [Ir.D.dep] at hx
  | .non, .exn _ _ _, _, hy => by simp [Ir.D.dep] at hy
  | .bool _, .exn _ _ _, _, hy => by simp [Ir.D.dep] at hy
  | .int _, .exn _ _ _, _, hy => by simp [Ir.D.dep] at hy
  | .str _, .exn _ _ _, _, hy => by simp [Ir.D.dep] at hy
  | .tup _, .exn _ _ _, _, hy => by simp [Ir.D.dep] at hy
  | .lst _, .exn _ _ _, _, hy => by simp [Ir.D.dep] at hy
  | .non, .oid _, _, hy => by simp [Ir.D.dep] at hy
  | .non, .fn _, _, hy => by simp [Ir.D.dep] at hy
  | .bool _, .oid _, _, hy => by simp [Ir.D.dep] at hy
  | .bool _, .fn _, _, hy => by simp [Ir.D.dep] at hy
  | .int _, .oid _, _, hy => by simp [Ir.D.dep] at hy
  | .int _, .fn _, _, hy => by simp [Ir.D.dep] at hy
  | .str _, .oid _, _, hy => by simp [Ir.D.dep] at hy
  | .str _, .fn _, _, hy => by simp [Ir.D.dep] at hy
  | .tup _, .oid _, _, hy => by simp [Ir.D.dep] at hy
  | .tup _, .fn _, _, hy => by simp [Ir.D.dep] at hy
  | .lst _, .oid _, _, hy => by simp [Ir.D.dep] at hy
  | .lst _, .fn _, _, hy => by simp [Ir.D.dep] at hy
  | .non, .ro _, _, hy => by simp [Ir.D.dep] at hy
  | .bool _, .ro _, _, hy => by simp [Ir.D.dep] at hy
  | .int _, .ro _, _, hy => by simp [Ir.D.dep] at hy
  | .str _, .ro _, _, hy => by simp [Ir.D.dep] at hy
  | .tup _, .ro _, _, hy => by simp [Ir.D.dep] at hy
  | .lst _, .ro _, _, hy => by simp [Ir.D.dep] at hy
  | .non, .non, _, _ => by simp [toPy, PyData.eqv, Ir.D.eqv]
  | .non, .bool _, _, _ => by simp [toPy, PyData.eqv, Ir.D.eqv]
  | .non, .int _, _, _ => by simp [toPy, PyData.eqv, Ir.D.eqv]
  | .non, .str _, _, _ => by simp [toPy, PyData.eqv, Ir.D.eqv]
  | .non, .tup _, _, _ => by simp [toPy, PyData.eqv, Ir.D.eqv]
  | .non, .lst _, _, _ => by simp [toPy, PyData.eqv, Ir.D.eqv]
  | .bool _, .non, _, _ => by simp [toPy, PyData.eqv, Ir.D.eqv]
  | .bool _, .bool _, _, _ => by simp [toPy, PyData.eqv, Ir.D.eqv]
  | .bool _, .int _, _, _ => by simp [toPy, PyData.eqv, Ir.D.eqv]
  | .bool _, .str _, _, _ => by simp [toPy, PyData.eqv, Ir.D.eqv]
  | .bool _, .tup _, _, _ => by simp [toPy, PyData.eqv, Ir.D.eqv]
  | .bool _, .lst _, _, _ => by simp [toPy, PyData.eqv, Ir.D.eqv]
  | .int _, .non, _, _ => by simp [toPy, PyData.eqv, Ir.D.eqv]
  | .int _, .bool _, _, _ => by simp [toPy, PyData.eqv, Ir.D.eqv]
  | .int _, .int _, _, _ => by simp [toPy, PyData.eqv, Ir.D.eqv]
  | .int _, .str _, _, _ => by simp [toPy, PyData.eqv, Ir.D.eqv]
  | .int _, .tup _, _, _ => by simp [toPy, PyData.eqv, Ir.D.eqv]
  | .int _, .lst _, _, _ => by simp [toPy, PyData.eqv, Ir.D.eqv]
  | .str _, .non, _, _ => by simp [toPy, PyData.eqv, Ir.D.eqv]
  | .str _, .bool _, _, _ => by simp [toPy, PyData.eqv, Ir.D.eqv]
  | .str _, .int _, _, _ => by simp [toPy, PyData.eqv, Ir.D.eqv]
  | .str _, .tup _, _, _ => by simp [toPy, PyData.eqv, Ir.D.eqv]
  | .str _, .lst _, _, _ => by simp [toPy, PyData.eqv, Ir.D.eqv]
  | .tup _, .non, _, _ => by simp [toPy, PyData.eqv, Ir.D.eqv]
  | .tup _, .bool _, _, _ => by simp [toPy, PyData.eqv, Ir.D.eqv]
  | .tup _, .int _, _, _ => by simp [toPy, PyData.eqv, Ir.D.eqv]
  | .tup _, .str _, _, _ => by simp [toPy, PyData.eqv, Ir.D.eqv]
  | .tup _, .lst _, _, _ => by simp [toPy, PyData.eqv, Ir.D.eqv]
  | .lst _, .non, _, _ => by simp [toPy, PyData.eqv, Ir.D.eqv]
  | .lst _, .bool _, _, _ => by simp [toPy, PyData.eqv, Ir.D.eqv]
  | .lst _, .int _, _, _ => by simp [toPy, PyData.eqv, Ir.D.eqv]
  | .lst _, .str _, _, _ => by simp [toPy, PyData.eqv, Ir.D.eqv]
  | .lst _, .tup _, _, _ => by simp [toPy, PyData.eqv, Ir.D.eqv]
theorem eqv_toPys : ∀ (xs ys : List Ir.D), Ir.D.depAll xs < 1000 → Ir.D.depAll ys < 1000 → PyData.eqvAll (toPys xs) (toPys ys) = Ir.D.eqvAll xs ys
  | [], [], _, _ => by simp [toPys, PyData.eqvAll, Ir.D.eqvAll]
  | [], _ :: _, _, _ => by simp [toPys, PyData.eqvAll, Ir.D.eqvAll]
  | _ :: _, [], _, _ => by simp [toPys, PyData.eqvAll, Ir.D.eqvAll]
  | x :: xs, y :: ys, hx, hy => by
    simp only [Ir.D.depAll] at hx hy
    simp only [toPys, PyData.eqvAll, Ir.D.eqvAll]
    rw [eqv_toPy x y (by omega) (by omega), eqv_toPys xs ys (by omega) (by omega)]
end
mutual
theorem dep_toPy : ∀ x : Ir.D, x.dep < 1000 → (toPy x).depth = x.dep
  | .non, _ => by simp [toPy, PyData.depth, Ir.D.dep]
  | .bool _, _ => by simp [toPy, PyData.depth, Ir.D.dep]
  | .int _, _ => by simp [toPy, PyData.depth, Ir.D.dep]
  | .str _, _ => by simp [toPy, PyData.depth, Ir.D.dep]
  | .tup xs, h => by simp only [Ir.D.dep] at h; simp only [toPy, PyData.depth, Ir.D.dep]; rw [dep_toPys xs (by omega)]
  | .lst xs, h => by simp only [Ir.D.dep] at h; simp only [toPy, PyData.depth, Ir.D.dep]; rw [dep_toPys xs (by omega)]
  | .ro _, h => by simp [Ir.D.dep] at h
  | .oid _, h => by simp [Ir.D.dep] at h
  | .fn _, h => by simp [Ir.D.dep] at h
  | .exn _ _ _, h => by simp [Ir.D.dep] at h
theorem dep_toPys : ∀ xs : List Ir.D, Ir.D.depAll xs < 1000 → PyData.depthAll (toPys xs) = Ir.D.depAll xs
  | [], _ => by simp [toPys, PyData.depthAll, Ir.D.depAll]
  | x :: xs, h => by
    simp only [Ir.D.depAll] at h
    simp only [toPys, PyData.depthAll, Ir.D.depAll]
    rw [dep_toPy x (by omega), dep_toPys xs (by omega)]
end
theorem strOk_ofString (s : String) : PyData.strOk (Str.ofString s) = true := by
  rw [Str.ofString_eq_toList]
  unfold PyData.strOk
  simp only [List.all_toArray, List.all_eq_true]
  intro x hx
  simp only [List.mem_map] at hx
  obtain ⟨c, _, rfl⟩ := hx
  have h : c.toNat < 0xD800 ∨ (0xDFFF < c.toNat ∧ c.toNat < 0x110000) := c.valid
  have h2 : c.toNat < 0x110000 := by omega
  exact decide_eq_true h2
mutual
theorem lay_toPy : ∀ x : Ir.D, (toPy x).canLay0 = true
  | .non => by simp [toPy, PyData.canLay0]
  | .bool _ => by simp [toPy, PyData.canLay0]
  | .int _ => by simp [toPy, PyData.canLay0]
  | .str s => by simp [toPy, PyData.canLay0, strOk_ofString]
  | .tup xs => by simp only [toPy, PyData.canLay0]; exact lay_toPys xs
  | .lst xs => by simp only [toPy, PyData.canLay0]; exact lay_toPys xs
  | .ro _ => by simp [toPy, PyData.canLay0]
  | .oid _ => by simp [toPy, PyData.canLay0]
  | .fn _ => by simp [toPy, PyData.canLay0]
  | .exn _ _ _ => by simp [toPy, PyData.canLay0]
theorem lay_toPys : ∀ xs : List Ir.D, PyData.canLayAll0 (toPys xs) = true
  | [] => by simp [toPys, PyData.canLayAll0]
  | x :: xs => by simp [toPys, PyData.canLayAll0, lay_toPy x, lay_toPys xs]
end
theorem shaped_toPy {x : Ir.D} (h : Ir.fine x = true) : SeqAt.shaped (toPy x) = true := by
  have h1 : x.dep ≤ 64 := by simpa [Ir.fine] using h
  unfold SeqAt.shaped
  rw [lay_toPy, dep_toPy x (by omega)]
  simpa using h1
section
variable {ρ : Rho} {K : PySem.W.Frag} {H : Hp}
mutual
theorem RD.dp : ∀ {x : Ir.D} {v : V}, x.dep < 1000 → RD ρ K H x v → Dp K H v (toPy x)
  | _, _, _, .non => .non
  | _, _, _, .bool b => .bl b
  | _, _, _, .int i => .int i
  | _, _, _, .str s => .str _
  | _, _, h, .tup t z r => .tup t.sq (RDs.dp (by simp only [Ir.D.dep] at h; omega) r)
  | _, _, h, .lst t n z r => .lst (SqL.of t) (RDs.dp (by simp only [Ir.D.dep] at h; omega) r)
  | _, _, h, .ro _ _ _ => by simp [Ir.D.dep] at h
  | _, _, h, .oid _ => by simp [Ir.D.dep] at h
  | _, _, h, .fn _ => by simp [Ir.D.dep] at h
  | _, _, h, .exn _ _ _ => by simp [Ir.D.dep] at h
theorem RDs.dp : ∀ {xs : List Ir.D} {vs : List V}, Ir.D.depAll xs < 1000 → RDs ρ K H xs vs → DpAll K H vs (toPys xs)
  | _, _, _, .nil => .nil
  | _, _, h, .cons a r => .cons (RD.dp (by simp only [Ir.D.depAll] at h; omega) a) (RDs.dp (by simp only [Ir.D.depAll] at h; omega) r)
end
theorem VD.dp {x : Ir.D} {v : V} (h : x.dep < 1000) (r : VD ρ K H x v) : Dp K H v (toPy x) := by
  cases x with
  | lst xs =>
    obtain ⟨a, ys, rfl, h1, h2, h3⟩ := r
    exact .lst (SqL.of h1) (h3.dp (by simp only [Ir.D.dep] at h; omega))
  | non => exact RD.dp h r
  | bool b => exact RD.dp h r
  | int i => exact RD.dp h r
  | str s => exact RD.dp h r
  | tup xs => exact RD.dp h r
  | ro xs => exact RD.dp h r
  | oid n => exact RD.dp h r
  | fn n => exact RD.dp h r
  | exn c ns as => exact RD.dp h r
end
theorem fine_dep {x : Ir.D} (h : Ir.fine x = true) : x.dep < 1000 := by
  have h1 : x.dep ≤ 64 := by simpa [Ir.fine] using h
  omega
/-! ### operators -/
variable {X : Cx} {C : Ir.Calls}
theorem opR_or {f : Value → Value → Sem Value} {r r' : R2} (h : OpR X f r) (h' : OpR X f r') : OpR X f (fun x y H Q => r x y H Q ∨ r' x y H Q) := by
  intro pins s σ H x y v u Q I rx ry q
  rcases q with q | q
  · exact h pins s σ H x y v u Q I rx ry q
  · exact h' pins s σ H x y v u Q I rx ry q
theorem opR_imp {f : Value → Value → Sem Value} {r r' : R2} (h : OpR X f r) (w : ∀ x y H Q, r' x y H Q → r x y H Q) : OpR X f r' := fun pins s σ H x y v u Q I rx ry q => h pins s σ H x y v u Q I rx ry (w _ _ _ _ q)
/-- data in, data out -/
def rBin (K : PySem.W.Frag) (o : Ir.Op) : R2 := fun x y H Q => ∃ ρ st p q d, RS ρ K st H ∧ VD ρ K H p x ∧ VD ρ K H q y ∧ Ir.D.bin o p q = some d ∧ ∀ ρ' H' z, Ext ρ H ρ' H' → RS ρ' K st H' → RD ρ' K H' d z → Q z H'
theorem RD.int_inv {ρ : Rho} {K : PySem.W.Frag} {H : Hp} {i : Int} {v : V} (h : RD ρ K H (.int i) v) : v = .int i := by cases h; rfl
theorem RD.str_inv {ρ : Rho} {K : PySem.W.Frag} {H : Hp} {i : String} {v : V} (h : RD ρ K H (.str i) v) : v = .str (Str.ofString i) := by cases h; rfl
theorem RD.bool_inv {ρ : Rho} {K : PySem.W.Frag} {H : Hp} {i : Bool} {v : V} (h : RD ρ K H (.bool i) v) : v = .bl i := by cases h; rfl
theorem RD.non_inv {ρ : Rho} {K : PySem.W.Frag} {H : Hp} {v : V} (h : RD ρ K H .non v) : v = .non := by cases h; rfl
theorem RD.tup_inv {ρ : Rho} {K : PySem.W.Frag} {H : Hp} {xs : List Ir.D} {v : V} (h : RD ρ K H (.tup xs) v) : ∃ a ys, v = .ref a ∧ TpAt ρ K H a ys ∧ ys.length ≤ sizeLine ∧ RDs ρ K H xs ys := by
  cases h with
  | tup h z r => exact ⟨_, _, rfl, h, z, r⟩
theorem RD.ro_inv {ρ : Rho} {K : PySem.W.Frag} {H : Hp} {xs : List Ir.D} {v : V} (h : RD ρ K H (.ro xs) v) : ∃ a ys, v = .ref a ∧ LrAt ρ K H a ys ∧ ys.length ≤ sizeLine ∧ RDs ρ K H xs ys := by
  cases h with
  | ro h z r => exact ⟨_, _, rfl, h, z, r⟩
theorem lim_eq : Ir.LIM = sizeLine := by rw [Ir.LIM_eq]; decide
theorem bin_int {o : Ir.Op} {op : Operator} {g : Int → Int → Int} {Cd : Int → Int → Prop} (h : OpR X (binaryOp op) (rI Cd fun i j => .int (g i j)))
    (hd : ∀ p q d, Ir.D.bin o p q = some d → ∃ i j, p = .int i ∧ q = .int j ∧ Cd i j ∧ d = .int (g i j)) : OpR X (binaryOp op) (rBin X.K o) := by
  refine opR_imp h fun x y H Q ⟨ρ, st, p, q, d, rs, hp, hq, hb, k⟩ => ?_
  obtain ⟨i, j, rfl, rfl, hc, rfl⟩ := hd p q d hb
  exact ⟨i, j, RD.int_inv hp, RD.int_inv hq, hc, k ρ H _ (.refl _ _) rs (.int _)⟩
theorem op_sub0 : OpR X (binaryOp .Sub) (rI (fun _ _ => True) fun i j => .int (i - j)) := opI fun _ _ _ _ _ _ _ _ q => sub_int q
theorem op_add0 : OpR X (binaryOp .Add) (rI (fun _ _ => True) fun i j => .int (i + j)) := opI fun _ _ _ _ _ _ _ _ q => add_int q
theorem bin_sub : OpR X (binaryOp .Sub) (rBin X.K .sub) := bin_int op_sub0 fun p q d h => by
  cases p <;> cases q <;> simp [Ir.D.bin] at h
  exact ⟨_, _, rfl, rfl, trivial, h.symm⟩
theorem big_lt {i : Int} (h : Ir.bigOk i = true) : i.natAbs < 2 ^ 4000 := by
  unfold Ir.bigOk at h
  exact of_decide_eq_true h
theorem bin_mul : OpR X (binaryOp .Mult) (rBin X.K .mul) := by
  refine opR_imp (opR_or op_mulW op_mul) fun x y H Q ⟨ρ, st, p, q, d, rs, hp, hq, hb, k⟩ => ?_
  cases p <;> cases q <;> simp only [Ir.D.bin, reduceCtorEq] at hb
  rename_i i j
  split at hb
  · rename_i hc
    cases hb
    have kk := k ρ H _ (.refl _ _) rs (.int (i * j))
    rw [Bool.or_eq_true, Bool.and_eq_true, Bool.or_eq_true] at hc
    rcases hc with hc | hc | hc
    · exact .inl ⟨i, j, RD.int_inv hp, RD.int_inv hq, wide_mul (big_lt hc.1) (big_lt hc.2) (by decide) (by decide) (by decide), kk⟩
    · exact .inr ⟨i, j, RD.int_inv hp, RD.int_inv hq, .inl (of_decide_eq_true hc), kk⟩
    · exact .inr ⟨i, j, RD.int_inv hp, RD.int_inv hq, .inr (of_decide_eq_true hc), kk⟩
  · cases hb
theorem bin_fdiv : OpR X (binaryOp .FloorDiv) (rBin X.K .fdiv) := bin_int op_fdivW fun p q d h => by
  cases p <;> cases q <;> simp only [Ir.D.bin, reduceCtorEq] at h
  rename_i i j
  split at h
  · rename_i hc
    rw [Bool.and_eq_true] at hc
    cases h
    exact ⟨_, _, rfl, rfl, wide_div (of_decide_eq_true hc.1) (big_lt hc.2) (by decide) (by decide), rfl⟩
  · cases h
theorem bin_mod : OpR X (binaryOp .Mod) (rBin X.K .mod) := bin_int op_mod fun p q d h => by
  cases p <;> cases q <;> simp only [Ir.D.bin, reduceCtorEq] at h
  rename_i i j
  split at h
  · rename_i hc
    cases h
    exact ⟨_, _, rfl, rfl, hc, rfl⟩
  · cases h
theorem bits_of {i : Int} {n : Nat} (h : i.natAbs < 2 ^ n) : Builtin.Int.intBits i ≤ n := by
  unfold Builtin.Int.intBits
  split
  · exact Nat.zero_le _
  · rename_i h0
    have : i.natAbs ≠ 0 := by
      intro z
      apply h0
      simpa using z
    exact (Nat.log2_lt this).mpr h
theorem op_powB : OpR X (binaryOp .Pow) (rI (fun i j => 0 ≤ j ∧ j ≤ 100 ∧ i.natAbs < 2 ^ 4000) fun i j => .int (i ^ j.toNat)) := opI fun i j _ _ _ _ _ hc q => pow_int hc.1 (by
  have h1 := bits_of hc.2.2
  have h2 := hc.1
  have h3 := hc.2.1
  have h4 : (Builtin.Int.intBits i : Int) ≤ 4000 := by omega
  calc (Builtin.Int.intBits i : Int) * j ≤ 4000 * j := Int.mul_le_mul_of_nonneg_right h4 h2
    _ ≤ 2 ^ 27 := by omega) q
theorem bin_pow : OpR X (binaryOp .Pow) (rBin X.K .pow) := bin_int op_powB fun p q d h => by
  cases p <;> cases q <;> simp only [Ir.D.bin, reduceCtorEq] at h
  rename_i i j
  split at h
  · rename_i hc
    rw [Bool.and_eq_true, Bool.and_eq_true] at hc
    cases h
    exact ⟨_, _, rfl, rfl, ⟨of_decide_eq_true hc.1.1, of_decide_eq_true hc.1.2, big_lt hc.2⟩, rfl⟩
  · cases h
theorem ofString_app (x y : String) : Str.ofString x ++ Str.ofString y = Str.ofString (x ++ y) := by
  have h : ∀ a b : Str, a ++ b = ⟨a.cps ++ b.cps⟩ := fun a b => by first | rfl | (simp [HAppend.hAppend, Append.append]; rfl)
  rw [Str.ofString_eq_toList, Str.ofString_eq_toList, Str.ofString_eq_toList, h]
  simp
theorem ofString_len (x : String) : (Str.ofString x).length = x.length := by
  rw [Str.ofString_eq_toList]
  show ((x.toList.map Char.toNat).toArray).size = x.length
  simp [String.length_toList]
theorem bin_add : OpR X (binaryOp .Add) (rBin X.K .add) := by
  refine opR_imp (opR_or (opR_or op_add0 op_add_str) (opR_or op_catA op_cat)) fun x y H Q ⟨ρ, st, p, q, d, rs, hp, hq, hb, k⟩ => ?_
  cases p <;> cases q <;> simp only [Ir.D.bin, reduceCtorEq] at hb
  · cases hb
    exact .inl (.inl ⟨_, _, RD.int_inv hp, RD.int_inv hq, trivial, k ρ H _ (.refl _ _) rs (.int _)⟩)
  · rename_i a b
    split at hb
    · rename_i hl
      cases hb
      refine .inl (.inr ⟨_, _, RD.str_inv hp, RD.str_inv hq, by rw [ofString_len, ofString_len, ← lim_eq]; exact hl, ?_⟩)
      rw [ofString_app]
      exact k ρ H _ (.refl _ _) rs (.str _)
    · cases hb
  · rename_i xs ys
    split at hb
    · rename_i hl
      cases hb
      obtain ⟨a, as, rfl, ta, za, ra⟩ := RD.tup_inv hp
      obtain ⟨b, bs, rfl, tb, zb, rb⟩ := RD.tup_inv hq
      have hl2 : as.length + bs.length ≤ sizeLine := by rw [← ra.length, ← rb.length, ← lim_eq]; exact hl
      refine .inr (.inl ⟨a, b, as, bs, rfl, rfl, ta.sq, tb.sq, hl2, fun z => ?_, fun _ z => ?_, fun _ _ p hp => ?_⟩)
      · subst z
        cases ra
        exact k ρ H _ (.refl _ _) rs (.tup tb zb rb)
      · subst z
        cases rb
        rw [List.append_nil] at k
        exact k ρ H _ (.refl _ _) rs (.tup ta za ra)
      · exact k ρ _ _ (.grow rs hp _) (rs.grow hp _) (grow_tup rs (ra.append rb) (by rw [List.length_append]; exact hl2) hp)
    · cases hb
  · rename_i xs ys
    split at hb
    · rename_i hl
      cases hb
      obtain ⟨a, as, rfl, ha, za, ra⟩ := hp
      obtain ⟨b, bs, rfl, hb', zb, rb⟩ := hq
      have hl2 : as.length + bs.length ≤ sizeLine := by rw [← ra.length, ← rb.length, ← lim_eq]; exact hl
      refine .inr (.inr ⟨a, b, as, bs, rfl, rfl, ha, hb', hl2, fun p hp => ?_⟩)
      exact k ρ _ _ (.grow rs hp _) (rs.grow hp _) (grow_lst rs (ra.append rb) (by rw [List.length_append]; exact hl2) hp)
    · cases hb
theorem se_bin {a b : Expr} {op : Operator} {o : Ir.Op} {ia ib : Ir.Ex} {pos : Pos} (ho : OpR X (binaryOp op) (rBin X.K o)) (ha : SE X C a ia) (hb : SE X C b ib) : SE X C (.BinOp a op b pos) (.bin o ia ib) := by
  refine pe_imp (pe_op ho ha hb) fun σ H Q ⟨ρ, env, st, v, st', rs, re, ev, k⟩ => ?_
  simp only [Ir.eval] at ev
  obtain ⟨x, s1, e1, ev⟩ := bok ev
  obtain ⟨y, s2, e2, ev⟩ := bok ev
  obtain ⟨p, e3, ev⟩ := ook ev
  obtain ⟨q, e4, ev⟩ := ook ev
  obtain ⟨d, e5, ev⟩ := ook ev
  cases ev
  exact ⟨ρ, env, st, x, s1, rs, re, e1, fun ρ1 H1 X1 x1 rs1 rx => ⟨ρ1, env, s1, y, st', rs1, re.mono x1, e2, fun ρ2 H2 Y x2 rs2 ry =>
    ⟨ρ2, st', p, q, d, rs2, .deref rs2 (rx.mono x2) e3, .deref rs2 ry e4, e5, fun ρ' H' z x3 rs3 rz => k ρ' H' z ((x1.trans x2).trans x3) rs3 rz⟩⟩⟩
end Snd

namespace Snd
open PySem PySem.Spec PyProof.Rows L2
variable {X : Cx} {C : Ir.Calls}
/-! ### comparisons -/
def rCmp (K : PySem.W.Frag) (o : Ir.Cmp) : R2 := fun x y H Q => ∃ ρ st p q b, RS ρ K st H ∧ RV ρ K H p x ∧ RV ρ K H q y ∧ Ir.cmpV o st p q = some b ∧ Q (.bl b) H
theorem cmpV_plain {o : Ir.Cmp} (h : o ≠ .isin ∧ o ≠ .notin ∧ o ≠ .is ∧ o ≠ .isnot ∧ o ≠ .sin ∧ o ≠ .snin) {st : Ir.Store} {p q : Ir.Val} {b : Bool} (e : Ir.cmpV o st p q = some b) : ∃ x y, Ir.deref st p = some x ∧ Ir.deref st q = some y ∧ Ir.D.cmp o x y = some b := by
  obtain ⟨h1, h2, h3, h4, h5, h6⟩ := h
  unfold Ir.cmpV at e
  split at e
  · exact absurd rfl h1
  · exact absurd rfl h2
  · exact absurd rfl h3
  · exact absurd rfl h4
  · exact absurd rfl h5
  · exact absurd rfl h6
  · split at e
    · rename_i a b' ha hb
      exact ⟨a, b', ha, hb, e⟩
    · cases e
theorem cmp_eq {n : Nat} (hr : Room n X.A) : OpR X (compareOp .Eq) (rCmp X.K .eq) := by
  refine opR_imp (op_eqD hr.units) fun x y H Q ⟨ρ, st, p, q, b, rs, hp, hq, hb, k⟩ => ?_
  obtain ⟨a, c, e1, e2, e3⟩ := cmpV_plain (by decide) hb
  simp only [Ir.D.cmp] at e3
  split at e3
  · rename_i hf
    rw [Bool.and_eq_true] at hf
    cases e3
    refine ⟨toPy a, toPy c, (VD.deref rs hp e1).dp (fine_dep hf.1), (VD.deref rs hq e2).dp (fine_dep hf.2), shaped_toPy hf.1, shaped_toPy hf.2, ?_⟩
    rw [eqv_toPy a c (fine_dep hf.1) (fine_dep hf.2)]
    exact k
  · cases e3
theorem cmp_ne {n : Nat} (hr : Room n X.A) : OpR X (compareOp .NotEq) (rCmp X.K .ne) := by
  refine opR_imp (op_neD hr.units) fun x y H Q ⟨ρ, st, p, q, b, rs, hp, hq, hb, k⟩ => ?_
  obtain ⟨a, c, e1, e2, e3⟩ := cmpV_plain (by decide) hb
  simp only [Ir.D.cmp] at e3
  split at e3
  · rename_i hf
    rw [Bool.and_eq_true] at hf
    cases e3
    refine ⟨toPy a, toPy c, (VD.deref rs hp e1).dp (fine_dep hf.1), (VD.deref rs hq e2).dp (fine_dep hf.2), shaped_toPy hf.1, shaped_toPy hf.2, ?_⟩
    rw [eqv_toPy a c (fine_dep hf.1) (fine_dep hf.2)]
    exact k
  · cases e3
theorem cmp_int {op : CmpOp} {o : Ir.Cmp} {g : Int → Int → Bool} (h : OpR X (compareOp op) (rI0 fun i j => .bl (g i j))) (hp : o ≠ .isin ∧ o ≠ .notin ∧ o ≠ .is ∧ o ≠ .isnot ∧ o ≠ .sin ∧ o ≠ .snin)
    (hd : ∀ p q b, Ir.D.cmp o p q = some b → ∃ i j, p = .int i ∧ q = .int j ∧ b = g i j) : OpR X (compareOp op) (rCmp X.K o) := by
  refine opR_imp h fun x y H Q ⟨ρ, st, p, q, b, rs, rp, rq, hb, k⟩ => ?_
  obtain ⟨a, c, e1, e2, e3⟩ := cmpV_plain hp hb
  obtain ⟨i, j, rfl, rfl, rfl⟩ := hd _ _ _ e3
  exact ⟨i, j, RD.int_inv (VD.deref rs rp e1), RD.int_inv (VD.deref rs rq e2), k⟩
theorem cmp_lt : OpR X (compareOp .Lt) (rCmp X.K .lt) := cmp_int op_lt (by decide) fun p q b h => by
  cases p <;> cases q <;> simp only [Ir.D.cmp, reduceCtorEq] at h
  cases h; exact ⟨_, _, rfl, rfl, rfl⟩
theorem RD.non_iff {ρ : Rho} {K : PySem.W.Frag} {H : Hp} {x : Ir.D} {v : V} (h : RD ρ K H x v) : decide (v = .non) = (match x with | .non => true | _ => false) := by
  cases h <;> simp
theorem isNon_ok {p q : Ir.Val} {b : Bool} {ρ : Rho} {K : PySem.W.Frag} {H : Hp} {x y : V} (rp : RV ρ K H p x) (rq : RV ρ K H q y) (e : Ir.isNon p q = some b) : (y = .non ∧ b = decide (x = .non)) ∨ ∃ u w, x = .bl u ∧ y = .bl w ∧ b = decide (u = w) := by
  unfold Ir.isNon at e
  split at e
  · cases e
    obtain ⟨_, a, rfl, _⟩ := rp
    exact .inl ⟨RD.non_inv rq, by simp⟩
  · rename_i u
    refine .inl ⟨RD.non_inv rq, ?_⟩
    rw [RD.non_iff rp]
    cases u <;> simpa using e.symm
  · cases e
    exact .inr ⟨_, _, RD.bool_inv rp, RD.bool_inv rq, rfl⟩
  · cases e
theorem cmp_is : OpR X (compareOp .Is) (rCmp X.K .is) := opR_imp (opR_or op_isN op_is_bl) fun x y H Q ⟨ρ, st, p, q, b, rs, hp, hq, hb, k⟩ => by
  rcases isNon_ok hp hq (show Ir.isNon p q = some b from hb) with ⟨h1, h2⟩ | ⟨u, w, h1, h2, h3⟩
  · exact .inl ⟨h1, by rw [← h2]; exact k⟩
  · exact .inr ⟨u, w, h1, h2, by rw [← h3]; exact k⟩
theorem cmp_isnot : OpR X (compareOp .IsNot) (rCmp X.K .isnot) := opR_imp (opR_or op_notN op_isnot_bl) fun x y H Q ⟨ρ, st, p, q, b, rs, hp, hq, hb, k⟩ => by
  have hb : (Ir.isNon p q).map (!·) = some b := hb
  simp only [Option.map_eq_some_iff] at hb
  obtain ⟨c, hc, rfl⟩ := hb
  rcases isNon_ok hp hq hc with ⟨h1, h2⟩ | ⟨u, w, h1, h2, h3⟩
  · exact .inl ⟨h1, by rw [← h2]; exact k⟩
  · exact .inr ⟨u, w, h1, h2, by rw [← h3]; exact k⟩
/-- what two expressions give, then a relation over both -/
theorem tI_two {a b : Ir.Ex} {K : PySem.W.Frag} {R : V → V → Hp → Prop} {σ : L2.St} {H : Hp} {ρ : Rho} {env : Ir.Env} {st s1 s2 : Ir.Store} {x y : Ir.Val} (rs : RS ρ K st H) (re : REnv ρ K H env σ) (e1 : Ir.eval C a env st = .ok x s1) (e2 : Ir.eval C b env s1 = .ok y s2)
    (k : ∀ ρ' H' X Y, Ext ρ H ρ' H' → RS ρ' K s2 H' → RV ρ' K H' x X → RV ρ' K H' y Y → R X Y H') : tI C K a σ H fun X H1 => tI C K b σ H1 fun Y H2 => R X Y H2 :=
  ⟨ρ, env, st, x, s1, rs, re, e1, fun ρ1 H1 X1 x1 rs1 rx => ⟨ρ1, env, s1, y, s2, rs1, re.mono x1, e2, fun ρ2 H2 Y x2 rs2 ry => k ρ2 H2 X1 Y (x1.trans x2) rs2 (rx.mono x2) ry⟩⟩
theorem se_cmp {a b : Expr} {op : CmpOp} {o : Ir.Cmp} {ia ib : Ir.Ex} {pos : Pos} (ho : OpR X (compareOp op) (rCmp X.K o)) (ha : SE X C a ia) (hb : SE X C b ib) (hm : behindInMarks op b = false := by first | exact nomark _ | rfl) : SE X C (.Compare a [op] [b] pos) (.cmp o ia ib) := by
  refine pe_imp (pe_cmpR ho ha hb hm) fun σ H Q ⟨ρ, env, st, v, st', rs, re, ev, k⟩ => ?_
  simp only [Ir.eval] at ev
  obtain ⟨x, s1, e1, ev⟩ := bok ev
  obtain ⟨y, s2, e2, ev⟩ := bok ev
  obtain ⟨r, e3, ev⟩ := ook ev
  cases ev
  exact tI_two rs re e1 e2 fun ρ' H' X Y x1 rs1 rx ry => ⟨ρ', _, x, y, r, rs1, rx, ry, e3, k ρ' H' _ x1 rs1 (.bool r)⟩
theorem st_val {e : Expr} {ir : Ir.Ex} (h : SE X C e ir) (he : ∀ whole, isTrue e X.env whole = (do let v ← whole; standAt e.pos; holding [v] (truthy v)) := by intro _; rfl) : ST X C e ir :=
  pt_imp (pt_val h he) fun σ H Q ⟨ρ, env, st, b, st', rs, re, ev, k⟩ => ⟨ρ, env, st, _, st', rs, re, ev, fun ρ' H' x x1 rs1 rx => ⟨b, RD.bool_inv rx, k ρ' H' x1 rs1⟩⟩
theorem st_cmp {a b : Expr} {op : CmpOp} {o : Ir.Cmp} {ia ib : Ir.Ex} {pos : Pos} (ho : OpR X (compareOp op) (rCmp X.K o)) (ha : SE X C a ia) (hb : SE X C b ib) (hm : behindInMarks op b = false := by first | exact nomark _ | rfl) : ST X C (.Compare a [op] [b] pos) (.cmp o ia ib) := by
  refine pt_imp (pt_cmpR ho ha hb hm) fun σ H Q ⟨ρ, env, st, v, st', rs, re, ev, k⟩ => ?_
  simp only [Ir.eval] at ev
  obtain ⟨x, s1, e1, ev⟩ := bok ev
  obtain ⟨y, s2, e2, ev⟩ := bok ev
  obtain ⟨r, e3, ev⟩ := ook ev
  cases ev
  exact tI_two rs re e1 e2 fun ρ' H' X Y x1 rs1 rx ry => ⟨ρ', _, x, y, _, rs1, rx, ry, e3, _, rfl, k ρ' H' x1 rs1⟩
/-! ### in a list, a tuple, a dict -/
theorem RK.kv {ρ : Rho} {K : PySem.W.Frag} {H : Hp} {d : Ir.D} {v : V} (h : RD ρ K H d v) (k : d.key = true) : ∃ k', RK d k' ∧ v = kV k' := by
  cases h <;> simp only [Ir.D.key, Bool.false_eq_true] at k
  · exact ⟨.inl _, rfl, rfl⟩
  · exact ⟨.inr _, rfl, rfl⟩
theorem RK.beq : ∀ {a b : Ir.D} {x y : Key}, RK a x → RK b y → a.eqv b = decide (x = y)
  | .int i, .int j, _, _, rfl, rfl => by simp only [Ir.D.eqv]; rw [key_ll]
  | .int i, .str j, _, _, rfl, rfl => by simp only [Ir.D.eqv]; rw [key_lr]
  | .str i, .int j, _, _, rfl, rfl => by simp only [Ir.D.eqv]; rw [key_rl]
  | .str i, .str j, _, _, rfl, rfl => by
    simp only [Ir.D.eqv]; rw [key_rr]
    by_cases e : i = j
    · subst e; simp
    · have : ¬ Str.ofString i = Str.ofString j := fun h => e (ofString_inj h)
      simp [e, this]
  | .non, _, _, _, h, _ => h.elim
  | .bool _, _, _, _, h, _ => h.elim
  | .tup _, _, _, _, h, _ => h.elim
  | .lst _, _, _, _, h, _ => h.elim
  | .ro _, _, _, _, h, _ => h.elim
  | .int _, .non, _, _, _, h => h.elim
  | .int _, .bool _, _, _, _, h => h.elim
  | .int _, .tup _, _, _, _, h => h.elim
  | .int _, .lst _, _, _, _, h => h.elim
  | .int _, .ro _, _, _, _, h => h.elim
  | .str _, .non, _, _, _, h => h.elim
  | .str _, .bool _, _, _, _, h => h.elim
  | .str _, .tup _, _, _, _, h => h.elim
  | .str _, .lst _, _, _, _, h => h.elim
  | .str _, .ro _, _, _, _, h => h.elim
theorem RKs.look {ρ : Rho} {K : PySem.W.Frag} {H : Hp} {k : Ir.D} {k' : Key} (hk : RK k k') : ∀ {kvs : List (Ir.D × Ir.D)} {ks : List (Key × V)}, RKs ρ K H kvs ks →
    (Ir.lookK kvs k = none ∧ valV ks k' = none) ∨ ∃ v x, Ir.lookK kvs k = some v ∧ valV ks k' = some x ∧ RD ρ K H v x
  | _, _, .nil => .inl ⟨rfl, rfl⟩
  | (a, v) :: kvs, (b, x) :: ks, .cons h1 h2 r => by
    have e := RK.beq h1 hk
    by_cases c : b = k'
    · refine .inr ⟨v, x, ?_, valV_pos c, h2⟩
      simp [Ir.lookK, List.find?_cons, e, c]
    · rw [valV_neg (p := (b, x)) c]
      have : Ir.lookK ((a, v) :: kvs) k = Ir.lookK kvs k := by simp [Ir.lookK, List.find?_cons, e, c]
      rw [this]
      exact RKs.look hk r
theorem RKs.map_put {ρ : Rho} {K : PySem.W.Frag} {H : Hp} {k v : Ir.D} {k' : Key} {x : V} (hk : RK k k') (hv : RD ρ K H v x) : ∀ {kvs : List (Ir.D × Ir.D)} {ks : List (Key × V)}, RKs ρ K H kvs ks →
    RKs ρ K H (kvs.map fun p => if p.1.eqv k then (p.1, v) else p) (ks.map fun kv => if kv.1 = k' then (kv.1, x) else kv)
  | _, _, .nil => .nil
  | (a, w) :: kvs, (b, y) :: ks, .cons h1 h2 r => by
    have e := RK.beq h1 hk
    simp only [List.map_cons]
    by_cases c : b = k'
    · simp only [e, c, decide_true, if_true]
      exact .cons (by rw [← c]; exact h1) hv (RKs.map_put hk hv r)
    · simp only [e, c, decide_false, if_false, Bool.false_eq_true]
      exact .cons h1 h2 (RKs.map_put hk hv r)
theorem RKs.any {ρ : Rho} {K : PySem.W.Frag} {H : Hp} {k : Ir.D} {k' : Key} (hk : RK k k') : ∀ {kvs : List (Ir.D × Ir.D)} {ks : List (Key × V)}, RKs ρ K H kvs ks → (kvs.any fun p => p.1.eqv k) = (ks.any fun kv => decide (kv.1 = k'))
  | _, _, .nil => rfl
  | (a, v) :: kvs, (b, x) :: ks, .cons h1 h2 r => by
    simp only [List.any_cons, RK.beq h1 hk, RKs.any hk r]
theorem RKs.append {ρ : Rho} {K : PySem.W.Frag} {H : Hp} {k v : Ir.D} {k' : Key} {x : V} (hk : RK k k') (hv : RD ρ K H v x) : ∀ {kvs : List (Ir.D × Ir.D)} {ks : List (Key × V)}, RKs ρ K H kvs ks → RKs ρ K H (kvs ++ [(k, v)]) (ks ++ [(k', x)])
  | _, _, .nil => .cons hk hv .nil
  | _, _, .cons h1 h2 r => .cons h1 h2 (RKs.append hk hv r)
theorem RKs.put {ρ : Rho} {K : PySem.W.Frag} {H : Hp} {k v : Ir.D} {k' : Key} {x : V} (hk : RK k k') (hv : RD ρ K H v x) {kvs : List (Ir.D × Ir.D)} {ks : List (Key × V)} (r : RKs ρ K H kvs ks) : RKs ρ K H (Ir.putK kvs k v) (putK ks k' x) := by
  unfold Ir.putK putK
  rw [RKs.any hk r]
  split
  · exact RKs.map_put hk hv r
  · exact RKs.append hk hv r
theorem RD.flat {ρ : Rho} {K : PySem.W.Frag} {H : Hp} {d : Ir.D} {v : V} (h : RD ρ K H d v) (k : Ir.flat d = true) : flatV v = true := by
  cases h <;> simp_all [Ir.flat, flatV]
theorem RD.eqV {ρ : Rho} {K : PySem.W.Frag} {H : Hp} {d e : Ir.D} {v u : V} (h : RD ρ K H d v) (k : Ir.flat d = true) (h' : RD ρ K H e u) (k' : Ir.flat e = true) : L2.eqV v u = d.eqv e := by
  cases h <;> cases h' <;> simp_all [Ir.flat, L2.eqV, Ir.D.eqv, ofString_beq]
theorem RDs.inV {ρ : Rho} {K : PySem.W.Frag} {H : Hp} {d : Ir.D} {v : V} (h : RD ρ K H d v) (k : Ir.flat d = true) : ∀ {xs : List Ir.D} {ys : List V}, RDs ρ K H xs ys → xs.all Ir.flat = true → ys.all flatV = true ∧ L2.inV v ys = xs.any fun y => y.eqv d
  | _, _, .nil, _ => ⟨rfl, rfl⟩
  | _, _, .cons a r, hf => by
    simp only [List.all_cons, Bool.and_eq_true] at hf
    obtain ⟨h1, h2⟩ := RDs.inV h k r hf.2
    refine ⟨by simp only [List.all_cons, Bool.and_eq_true]; exact ⟨a.flat hf.1, h1⟩, ?_⟩
    unfold L2.inV at h2 ⊢
    simp only [List.any_cons, a.eqV hf.1 h k, h2]
theorem pe_or {e : Expr} {t t' : TE} (h : PE X e t) (h' : PE X e t') : PE X e (fun σ H Q => t σ H Q ∨ t' σ H Q) := ⟨fun pins s σ H Q I q => by
  rcases q with q | q
  · exact h.run pins s σ H Q I q
  · exact h'.run pins s σ H Q I q⟩
theorem pt_or {e : Expr} {t t' : TT} (h : PT X e t) (h' : PT X e t') : PT X e (fun σ H Q => t σ H Q ∨ t' σ H Q) := ⟨fun pins s σ H Q I q => by
  rcases q with q | q
  · exact h.run pins s σ H Q I q
  · exact h'.run pins s σ H Q I q⟩
theorem any_toPys (d : Ir.D) (hd : d.dep < 1000) : ∀ xs : List Ir.D, Ir.D.depAll xs < 1000 → ((toPys xs).any fun z => PyData.eqv z (toPy d)) = xs.any fun y => y.eqv d
  | [], _ => rfl
  | x :: xs, h => by
    simp only [Ir.D.depAll] at h
    simp only [toPys, List.any_cons, eqv_toPy x d (by omega) hd, any_toPys d hd xs (by omega)]
/-- in a list or a tuple, by values -/
theorem mem_seq {ρ : Rho} {K : PySem.W.Frag} {H : Hp} {d e : Ir.D} {x y : V} {b : Bool} (hd : RD ρ K H d x) (he : VD ρ K H e y) (h : Ir.D.mem d e = some b) :
    (∃ d' ds, Dp K H x d' ∧ Dp K H y (.list ds) ∧ SeqAt.shaped d' = true ∧ SeqAt.shaped (.list ds) = true ∧ (ds.any fun z => PyData.eqv z d') = b) ∨
    ∃ p xs, y = .ref p ∧ (SqL K H p xs ∨ SqT K H p xs) ∧ flatV x = true ∧ xs.all flatV = true ∧ L2.inV x xs = b := by
  cases e <;> simp only [Ir.D.mem, reduceCtorEq] at h
  · rename_i xs
    split at h
    · rename_i hf
      rw [Bool.and_eq_true] at hf
      cases h
      obtain ⟨a, ys, rfl, t, z, r⟩ := RD.tup_inv he
      obtain ⟨h1, h2⟩ := RDs.inV hd hf.1 r hf.2
      exact .inr ⟨a, ys, rfl, .inr t.sq, hd.flat hf.1, h1, h2⟩
    · cases h
  · rename_i xs
    split at h
    · rename_i hf
      rw [Bool.and_eq_true] at hf
      cases h
      have f2 := fine_dep hf.2
      exact .inl ⟨toPy d, toPys xs, hd.dp (fine_dep hf.1), VD.dp f2 he, shaped_toPy hf.1, shaped_toPy hf.2, any_toPys d (fine_dep hf.1) xs (by simp only [Ir.D.dep] at f2; omega)⟩
    · cases h
theorem inB_seq {ρ : Rho} {K : PySem.W.Frag} {H : Hp} {st : Ir.Store} {p q : Ir.Val} {x y : V} {b : Bool} (rs : RS ρ K st H) (rp : RV ρ K H p x) (rq : RV ρ K H q y) (hd : ¬ ∃ n kvs, q = .ref n ∧ st[n]? = some (.dic kvs)) (e : Ir.inB st p q = some b) :
    (∃ d' ds, Dp K H x d' ∧ Dp K H y (.list ds) ∧ SeqAt.shaped d' = true ∧ SeqAt.shaped (.list ds) = true ∧ (ds.any fun z => PyData.eqv z d') = b) ∨
    ∃ p xs, y = .ref p ∧ (SqL K H p xs ∨ SqT K H p xs) ∧ flatV x = true ∧ xs.all flatV = true ∧ L2.inV x xs = b := by
  unfold Ir.inB at e
  split at e
  · rename_i k n
    split at e
    · rename_i kvs hk
      exact absurd ⟨n, kvs, rfl, hk⟩ hd
    · rename_i xs hk
      obtain ⟨a, rfl, h1, ys, h2, h3, h4⟩ := RV.cell rs rq hk (by simp)
      exact mem_seq rp (show VD ρ K H (.lst xs) _ from ⟨a, ys, rfl, h2, h3, h4⟩) e
    · cases e
  · exact mem_seq rp (VD.of rq) e
  · cases e
theorem inB_dic {ρ : Rho} {K : PySem.W.Frag} {H : Hp} {st : Ir.Store} {p q : Ir.Val} {x y : V} {b : Bool} (rs : RS ρ K st H) (rp : RV ρ K H p x) (rq : RV ρ K H q y) (hd : ∃ n kvs, q = .ref n ∧ st[n]? = some (.dic kvs)) (e : Ir.inB st p q = some b) :
    ∃ a o, y = .ref a ∧ DGet H a x o ∧ o.isSome = b := by
  obtain ⟨n, kvs, rfl, hk⟩ := hd
  unfold Ir.inB at e
  split at e
  · rename_i d m e0
    cases e0
    rw [hk] at e
    simp only at e
    split at e
    · rename_i hkey
      cases e
      obtain ⟨a, rfl, h1, ks, h2, h3, h4⟩ := RV.cell rs rq hk (by simp)
      obtain ⟨k', hk1, rfl⟩ := RK.kv rp hkey
      refine ⟨a, _, rfl, .k h2, ?_⟩
      rcases RKs.look hk1 h4 with ⟨e1, e2⟩ | ⟨v, z, e1, e2, _⟩
      · rw [e1, e2]; rfl
      · rw [e1, e2]; rfl
    · cases e
  · rename_i e0
    cases e0
  · cases e
theorem units65 {n : Nat} {A : Around} (hr : Room n A) : A.units + 65 < cLine := by have := hr.un; omega
/-- a comparison, as a test -/
theorem st_in {a b : Expr} {ia ib : Ir.Ex} {pos : Pos} {n : Nat} (hr : Room n X.A) (ha : SE X C a ia) (hb : SE X C b ib) (hm : behindInMarks .In b = false := by first | rfl | with_unfolding_all rfl) : ST X C (.Compare a [.In] [b] pos) (.cmp .isin ia ib) := by
  refine pt_imp (pt_or (pt_cmpR (opR_or (op_inD (units65 hr)) op_in_seq) ha hb hm) (pt_cmp (pc_din (hu_of hr) ha hb) hm)) fun σ H Q ⟨ρ, env, st, v, st', rs, re, ev, k⟩ => ?_
  simp only [Ir.eval] at ev
  obtain ⟨x, s1, e1, ev⟩ := bok ev
  obtain ⟨y, s2, e2, ev⟩ := bok ev
  obtain ⟨r, e3, ev⟩ := ook ev
  cases ev
  have e3 : Ir.inB st' x y = some v := e3
  by_cases hd : ∃ n kvs, y = .ref n ∧ st'[n]? = some (.dic kvs)
  · refine .inr (tI_two rs re e1 e2 fun ρ' H' X Y x1 rs1 rx ry => ?_)
    obtain ⟨a, o, h1, h2, h3⟩ := inB_dic rs1 rx ry hd e3
    exact ⟨a, o, h1, h2, _, rfl, by rw [h3]; exact k ρ' H' x1 rs1⟩
  · refine .inl (tI_two rs re e1 e2 fun ρ' H' X Y x1 rs1 rx ry => ?_)
    have kk := k ρ' H' x1 rs1
    rcases inB_seq rs1 rx ry hd e3 with ⟨d, ds, h1, h2, h3, h4, h5⟩ | ⟨p, xs, h1, h2, h3, h4, h5⟩
    · exact .inl ⟨d, ds, h1, h2, h3, h4, _, rfl, by rw [h5]; exact kk⟩
    · exact .inr ⟨p, xs, h1, h2, h3, h4, _, rfl, by simp only [Bool.false_eq_true, if_false, h5]; exact kk⟩
end Snd

namespace Snd
open PySem PySem.Spec PyProof.Rows L2
variable {X : Cx} {C : Ir.Calls}
theorem asB_ok {v : Ir.Val} {b : Bool} (h : Ir.asB v = some b) : v = .d (.bool b) := by
  cases v with
  | ref n => simp [Ir.asB] at h
  | d y => cases y <;> simp [Ir.asB] at h; subst h; rfl
theorem asI_ok {v : Ir.Val} {b : Int} (h : Ir.asI v = some b) : v = .d (.int b) := by
  cases v with
  | ref n => simp [Ir.asI] at h
  | d y => cases y <;> simp [Ir.asI] at h; subst h; rfl
theorem asD_ok {v : Ir.Val} {x : Ir.D} (h : Ir.asD v = some x) : v = .d x := by
  cases v with
  | ref n => simp [Ir.asD] at h
  | d y => simp [Ir.asD] at h; subst h; rfl
/-! ### and, or, not, if -/
section
variable {a b c : Expr} {rest : List Expr} {ia ib ic : Ir.Ex} {pos : Pos}
theorem se_one {op} (h : SE X C a ia) : SE X C (.BoolOp op [a] pos) ia := pe_one h
theorem se_and (ha : SE X C a ia) (hb : SE X C (.BoolOp .And (b :: rest) pos) ib) : SE X C (.BoolOp .And (a :: b :: rest) pos) (.and ia ib) := by
  refine pe_imp (pe_and ha hb) fun σ H Q ⟨ρ, env, st, v, st', rs, re, ev, k⟩ => ?_
  simp only [Ir.eval] at ev
  obtain ⟨x, s1, e1, ev⟩ := bok ev
  obtain ⟨c, e2, ev⟩ := ook ev
  obtain rfl := asB_ok e2
  refine ⟨ρ, env, st, _, s1, rs, re, e1, fun ρ1 H1 X1 x1 rs1 rx => ⟨c, RD.bool_inv rx, ?_⟩⟩
  cases c with
  | true =>
    simp only [if_true] at ev ⊢
    exact ⟨ρ1, env, s1, v, st', rs1, re.mono x1, ev, fun ρ2 H2 Y x2 rs2 ry => k ρ2 H2 Y (x1.trans x2) rs2 ry⟩
  | false =>
    simp only [Bool.false_eq_true, if_false] at ev ⊢
    cases ev
    exact k ρ1 H1 _ x1 rs1 (.bool false)
theorem sw_and1 (ha : ST X C a ia) : SW X C (.BoolOp .And [a] pos) ia := pw_and1 ha
theorem sw_or1 (ha : ST X C a ia) : SW X C (.BoolOp .Or [a] pos) ia := pw_or1 ha
theorem sw_and (ha : ST X C a ia) (hb : SW X C (.BoolOp .And (b :: rest) pos) ib) : SW X C (.BoolOp .And (a :: b :: rest) pos) (.and ia ib) := by
  refine pw_imp (pw_and ha hb) fun σ H Q ⟨ρ, env, st, v, st', rs, re, ev, k⟩ => ?_
  simp only [Ir.eval] at ev
  obtain ⟨x, s1, e1, ev⟩ := bok ev
  obtain ⟨c, e2, ev⟩ := ook ev
  obtain rfl := asB_ok e2
  refine ⟨ρ, env, st, _, s1, rs, re, e1, fun ρ1 H1 x1 rs1 => ?_⟩
  cases c with
  | true =>
    simp only [if_true] at ev ⊢
    exact ⟨ρ1, env, s1, v, st', rs1, re.mono x1, ev, fun ρ2 H2 x2 rs2 => k ρ2 H2 (x1.trans x2) rs2⟩
  | false =>
    simp only [Bool.false_eq_true, if_false] at ev ⊢
    cases ev
    exact k ρ1 H1 x1 rs1
theorem sw_or (ha : ST X C a ia) (hb : SW X C (.BoolOp .Or (b :: rest) pos) ib) : SW X C (.BoolOp .Or (a :: b :: rest) pos) (.or ia ib) := by
  refine pw_imp (pw_or ha hb) fun σ H Q ⟨ρ, env, st, v, st', rs, re, ev, k⟩ => ?_
  simp only [Ir.eval] at ev
  obtain ⟨x, s1, e1, ev⟩ := bok ev
  obtain ⟨c, e2, ev⟩ := ook ev
  obtain rfl := asB_ok e2
  refine ⟨ρ, env, st, _, s1, rs, re, e1, fun ρ1 H1 x1 rs1 => ?_⟩
  cases c with
  | false =>
    simp only [Bool.false_eq_true, if_false] at ev ⊢
    exact ⟨ρ1, env, s1, v, st', rs1, re.mono x1, ev, fun ρ2 H2 x2 rs2 => k ρ2 H2 (x1.trans x2) rs2⟩
  | true =>
    simp only [if_true] at ev ⊢
    cases ev
    exact k ρ1 H1 x1 rs1
theorem st_w {e : Expr} {i : Ir.Ex} (h : SW X C e i) : ST X C e i := h.pt
theorem st_not (ha : ST X C a ia) : ST X C (.UnaryOp .Not a pos) (.not ia) := by
  refine pt_imp (pt_not ha) fun σ H Q ⟨ρ, env, st, v, st', rs, re, ev, k⟩ => ?_
  simp only [Ir.eval] at ev
  obtain ⟨x, s1, e1, ev⟩ := bok ev
  obtain ⟨c, e2, ev⟩ := ook ev
  obtain rfl := asB_ok e2
  cases ev
  exact ⟨ρ, env, st, _, _, rs, re, e1, fun ρ1 H1 x1 rs1 => k ρ1 H1 x1 rs1⟩
theorem se_ite (hc : ST X C c ic) (ha : SE X C a ia) (hb : SE X C b ib) : SE X C (.IfExp c a b pos) (.ite ic ia ib) := by
  refine pe_imp (pe_ifExp hc ha hb) fun σ H Q ⟨ρ, env, st, v, st', rs, re, ev, k⟩ => ?_
  simp only [Ir.eval] at ev
  obtain ⟨x, s1, e1, ev⟩ := bok ev
  obtain ⟨c, e2, ev⟩ := ook ev
  obtain rfl := asB_ok e2
  refine ⟨ρ, env, st, c, s1, rs, re, e1, fun ρ1 H1 x1 rs1 => ?_⟩
  cases c with
  | false =>
    simp only [Bool.false_eq_true, if_false] at ev ⊢
    exact ⟨ρ1, env, s1, v, st', rs1, re.mono x1, ev, fun ρ2 H2 Y x2 rs2 ry => k ρ2 H2 Y (x1.trans x2) rs2 ry⟩
  | true =>
    simp only [if_true] at ev ⊢
    exact ⟨ρ1, env, s1, v, st', rs1, re.mono x1, ev, fun ρ2 H2 Y x2 rs2 ry => k ρ2 H2 Y (x1.trans x2) rs2 ry⟩
end
/-! ### subscripts -/
theorem atI_rel {ρ : Rho} {K : PySem.W.Frag} {H : Hp} {xs : List Ir.D} {ys : List V} {i : Int} {d : Ir.D} (r : RDs ρ K H xs ys) (h : Ir.atI xs i = some d) : ∃ v, L2.atI ys i = some v ∧ RD ρ K H d v := by
  unfold Ir.atI at h
  unfold L2.atI
  have e : Ir.ixN xs.length i = L2.ixN ys.length i := by rw [r.length]; rfl
  rw [← e]
  cases q : Ir.ixN xs.length i with
  | none => rw [q] at h; cases h
  | some j =>
    rw [q] at h
    exact r.get h
theorem ofString_cps (z : String) : (Str.ofString z).cps.toList = z.toList.map Char.toNat := by
  rw [Str.ofString_eq_toList]
theorem ofString_sgn (c : Char) : (⟨#[c.toNat]⟩ : Str) = Str.ofString (String.singleton c) := by
  rw [Str.ofString_eq_toList]; simp
theorem atI_str {z : String} {i : Int} {c : Char} (h : Ir.atI z.toList i = some c) : L2.atI (Str.ofString z).cps.toList i = some c.toNat := by
  unfold Ir.atI at h
  unfold L2.atI
  rw [ofString_cps]
  have e : Ir.ixN z.toList.length i = L2.ixN (z.toList.map Char.toNat).length i := by rw [List.length_map]; rfl
  rw [← e]
  cases q : Ir.ixN z.toList.length i with
  | none => rw [q] at h; cases h
  | some j =>
    rw [q] at h
    have h : z.toList[j]? = some c := h
    show (z.toList.map Char.toNat)[j]? = _
    rw [List.getElem?_map, h]; rfl
theorem index_ok {ρ : Rho} {K : PySem.W.Frag} {H : Hp} {d k r : Ir.D} {x y : V} {Q : VK} (hd : VD ρ K H d x) (hk : RD ρ K H k y) (h : d.index k = some r) (q : ∀ z, RD ρ K H r z → Q z H) : rIx K x y H Q := by
  cases d <;> cases k <;> simp only [Ir.D.index, reduceCtorEq] at h
  · rename_i z i
    split at h
    · rename_i hl
      obtain ⟨c, h1, rfl⟩ := Option.map_eq_some_iff.mp h
      exact .inr (.inr ⟨_, i, c.toNat, RD.str_inv hd, RD.int_inv hk, by rw [ofString_len, ← lim_eq]; exact hl, atI_str h1, by rw [ofString_sgn]; exact q _ (.str _)⟩)
    · cases h
  · obtain ⟨a, ys, rfl, t, z, rr⟩ := RD.tup_inv hd
    obtain ⟨v, h1, h2⟩ := atI_rel rr h
    exact .inr (.inl ⟨a, ys, _, v, rfl, RD.int_inv hk, t.sq, h1, q v h2⟩)
  · obtain ⟨a, ys, rfl, t, z, rr⟩ := hd
    obtain ⟨v, h1, h2⟩ := atI_rel rr h
    exact .inl ⟨a, ys, _, v, rfl, RD.int_inv hk, SqL.of t, h1, q v h2⟩
  · obtain ⟨a, ys, rfl, t, z, rr⟩ := RD.ro_inv hd
    obtain ⟨v, h1, h2⟩ := atI_rel rr h
    exact .inl ⟨a, ys, _, v, rfl, RD.int_inv hk, t.sq, h1, q v h2⟩
theorem se_idx {a b : Expr} {ia ib : Ir.Ex} {pos : Pos} {n : Nat} (hr : Room n X.A) (ha : SE X C a ia) (hb : SE X C b ib) (hs : PlainIx b := by exact fun _ _ => rfl) : SE X C (.Subscript a b pos) (.idx ia ib) := by
  refine pe_imp (pe_or (pe_ix ix_seq ha hb hs) (pe_dget (hu_of hr) ha hb hs)) fun σ H Q ⟨ρ, env, st, v, st', rs, re, ev, k⟩ => ?_
  simp only [Ir.eval] at ev
  obtain ⟨x, s1, e1, ev⟩ := bok ev
  obtain ⟨y, s2, e2, ev⟩ := bok ev
  obtain ⟨r, e3, ev⟩ := ook ev
  cases ev
  by_cases hd : ∃ n kvs, x = .ref n ∧ st'[n]? = some (.dic kvs)
  · refine .inr (tI_two rs re e1 e2 fun ρ1 H1 X Y x1 rs1 rx ry => ?_)
    obtain ⟨n, kvs, rfl, hk⟩ := hd
    cases y with
    | ref m => simp [Ir.indexV] at e3
    | d key =>
      simp only [Ir.indexV, hk] at e3
      split at e3
      · rename_i hkey
        obtain ⟨a, rfl, h1, ks, h2, h3, h4⟩ := RV.cell rs1 rx hk (by simp)
        obtain ⟨k', hk1, rfl⟩ := RK.kv ry hkey
        rcases RKs.look hk1 h4 with ⟨z1, z2⟩ | ⟨w, z, z1, z2, z3⟩
        · rw [z1] at e3; cases e3
        · rw [z1] at e3; cases e3
          exact ⟨a, z, rfl, by rw [← z2]; exact .k h2, k ρ1 H1 z x1 rs1 z3⟩
      · cases e3
  · refine .inl (tI_two rs re e1 e2 fun ρ1 H1 X Y x1 rs1 rx ry => ?_)
    cases y with
    | ref m => cases x <;> simp [Ir.indexV] at e3
    | d key =>
      cases x with
      | d w =>
        simp only [Ir.indexV] at e3
        exact index_ok (VD.of rx) ry e3 fun z hz => k ρ1 H1 z x1 rs1 hz
      | ref n =>
        simp only [Ir.indexV] at e3
        split at e3
        · rename_i xs hx
          obtain ⟨a, rfl, h1, ys, h2, h3, h4⟩ := RV.cell rs1 rx hx (by simp)
          exact index_ok (show VD ρ1 _ H1 (.lst xs) _ from ⟨a, ys, rfl, h2, h3, h4⟩) ry e3 fun z hz => k ρ1 H1 z x1 rs1 hz
        · rename_i kvs hk
          exact absurd ⟨n, kvs, rfl, hk⟩ hd
        · cases e3
theorem so_none : SO X C none none := po_imp po_none fun σ H Q ⟨ρ, env, st, v, st', rs, re, ev, k⟩ => by
  simp only [Ir.evalO] at ev; cases ev; exact k ρ H (.refl _ _) rs
theorem so_some {e : Expr} {i : Ir.Ex} (h : SE X C e i) : SO X C (some e) (some i) := po_imp (po_some h) fun σ H Q ⟨ρ, env, st, v, st', rs, re, ev, k⟩ => by
  simp only [Ir.evalO] at ev
  obtain ⟨x, s1, e1, ev⟩ := bok ev
  obtain ⟨c, e2, ev⟩ := ook ev
  obtain rfl := asI_ok e2
  cases ev
  exact ⟨ρ, env, st, _, _, rs, re, e1, fun ρ1 H1 X1 x1 rs1 rx => ⟨c, RD.int_inv rx, k ρ1 H1 x1 rs1⟩⟩
theorem cut_rel {ρ : Rho} {K : PySem.W.Frag} {H : Hp} {xs : List Ir.D} {ys : List V} {lo hi : Option Int} (r : RDs ρ K H xs ys) : RDs ρ K H (Ir.cut xs lo hi) (cutV ys lo hi) := by
  unfold Ir.cut cutV
  rw [r.length]
  exact (r.drop _).take _
theorem sIx_same (n d : Nat) (o : Option Int) : Ir.sIx n d o = HT.sIx n d o := by cases o <;> rfl
theorem ofString_cut (z : String) (lo hi : Option Int) : cutS (Str.ofString z) lo hi = Str.ofString (String.ofList (Ir.cut z.toList lo hi)) := by
  unfold cutS Ir.cut
  rw [ofString_cps, ofString_len, Str.ofString_eq_toList, sIx_same, sIx_same, String.length_toList]
  simp [List.map_take, List.map_drop]
theorem cut_len (ys : List V) (lo hi : Option Int) (z : ys.length ≤ sizeLine) : (cutV ys lo hi).length ≤ sizeLine := Nat.le_trans (cutV_length ys lo hi) z
theorem slice_ok {ρ : Rho} {K : PySem.W.Frag} {H : Hp} {st : Ir.Store} {d r : Ir.D} {lo hi : Option Int} {x : V} {Q : VK} (rs : RS ρ K st H) (hd : VD ρ K H d x) (h : d.slice lo hi = some r) (q : ∀ H' z, Ext ρ H ρ H' → RS ρ K st H' → RD ρ K H' r z → Q z H') : (rSlL K x lo hi H Q ∨ rSlA K x lo hi H Q) ∨ rSlS x lo hi H Q := by
  cases d <;> simp only [Ir.D.slice, reduceCtorEq] at h
  · split at h
    · rename_i z hl
      cases h
      exact .inr ⟨_, RD.str_inv hd, by rw [ofString_len, ← lim_eq]; exact hl, by rw [ofString_cut]; exact q H _ (.refl _ _) rs (.str _)⟩
    · cases h
  · cases h
    obtain ⟨a, ys, rfl, t, z, rr⟩ := RD.tup_inv hd
    refine .inl (.inr ⟨a, ys, rfl, t.sq, fun hw => ?_, fun _ p hp => ?_⟩)
    · refine q H _ (.refl _ _) rs ?_
      have e : ∀ {α : Type} (l : List α), l.length = ys.length → Ir.cut l lo hi = l := fun l hl => by
        unfold Ir.cut
        rw [hl, sIx_same, sIx_same, hw.1, hw.2, List.drop_zero, Nat.sub_zero, ← hl, List.take_length]
      rw [e _ rr.length]
      exact .tup t z rr
    · exact q _ _ (.grow rs hp _) (rs.grow hp _) (grow_tup rs (cut_rel rr) (cut_len _ _ _ z) hp)
  · cases h
    obtain ⟨a, ys, rfl, t, z, rr⟩ := hd
    exact .inl (.inl ⟨a, ys, rfl, SqL.of t, fun p hp => q _ _ (.grow rs hp _) (rs.grow hp _) (grow_lst rs (cut_rel rr) (cut_len _ _ _ z) hp)⟩)
  · cases h
    obtain ⟨a, ys, rfl, t, z, rr⟩ := RD.ro_inv hd
    exact .inl (.inl ⟨a, ys, rfl, t.sq, fun p hp => q _ _ (.grow rs hp _) (rs.grow hp _) (grow_lst rs (cut_rel rr) (cut_len _ _ _ z) hp)⟩)
theorem se_sli {a : Expr} {lo hi : Option Expr} {ia : Ir.Ex} {il ih : Option Ir.Ex} {pos p2 : Pos} (ha : SE X C a ia) (hl : SO X C lo il) (hh : SO X C hi ih) : SE X C (.Subscript a (.Slice lo hi none p2) pos) (.sli ia il ih) := by
  refine pe_imp (pe_slice (SlR.or (SlR.or sl_list sl_tupA) sl_str) ha hl hh) fun σ H Q ⟨ρ, env, st, v, st', rs, re, ev, k⟩ => ?_
  simp only [Ir.eval] at ev
  obtain ⟨x, s1, e1, ev⟩ := bok ev
  obtain ⟨l, s2, e2, ev⟩ := bok ev
  obtain ⟨h, s3, e3, ev⟩ := bok ev
  obtain ⟨p, e4, ev⟩ := ook ev
  obtain ⟨r, e5, ev⟩ := ook ev
  cases ev
  exact ⟨ρ, env, st, x, s1, rs, re, e1, fun ρ1 H1 X1 x1 rs1 rx => ⟨ρ1, env, s1, l, s2, rs1, re.mono x1, e2, fun ρ2 H2 x2 rs2 => ⟨ρ2, env, s2, h, _, rs2, re.mono (x1.trans x2), e3, fun ρ3 H3 x3 rs3 =>
    slice_ok rs3 (.deref rs3 (rx.mono (x2.trans x3)) e4) e5 fun H' z x4 rs4 rz => k ρ3 H' z (((x1.trans x2).trans x3).trans x4) rs4 rz⟩⟩⟩
/-! ### calls of own defs -/
def spI (T : Ir.Tab) (n : Nat) (K : PySem.W.Frag) (f : String) : Sp := fun vs H Q _ => ∃ ρ st args v st', RS ρ K st H ∧ RVs ρ K H args vs ∧ Ir.callN T n f args st = .ok v st' ∧ ∀ ρ' H' x, Ext ρ H ρ' H' → RS ρ' K st' H' → RV ρ' K H' v x → Q x H'
/-- what stands for a raised thing -/
def RXc (ρ : Rho) (K : PySem.W.Frag) (H : Hp) (mg : Str → Option Value) (c : String) (as : List (String × Ir.D)) (cls : Value) (d : Option Addr) : Prop := mg (Str.ofString c) = some cls ∧ ∃ gs, XD ρ H d gs ∧ RFs ρ K H as gs
/-- what is wanted of a run that may raise -/
def GX (K : PySem.W.Frag) (mg : Str → Option Value) (ρ : Rho) (H : Hp) (Q : VK) (E : XK) : Ir.Res Ir.Val → Prop
  | .ok v st' => ∀ ρ' H' x, Ext ρ H ρ' H' → RS ρ' K st' H' → RV ρ' K H' v x → Q x H'
  | .exc c as st' => ∀ ρ' H' cls d, Ext ρ H ρ' H' → RS ρ' K st' H' → RXc ρ' K H' mg c as cls d → E cls d H'
  | .bad => False
theorem GX.mono {K : PySem.W.Frag} {mg : Str → Option Value} {ρ ρ1 : Rho} {H H1 : Hp} {Q : VK} {E : XK} {r : Ir.Res Ir.Val} (x : Ext ρ H ρ1 H1) (h : GX K mg ρ H Q E r) : GX K mg ρ1 H1 Q E r := by
  cases r with
  | ok v s => exact fun ρ' H' y x1 rs ry => h ρ' H' y (x.trans x1) rs ry
  | exc c as s => exact fun ρ' H' cls d x1 rs rx => h ρ' H' cls d (x.trans x1) rs rx
  | bad => exact h
def spX (T : Ir.Tab) (n : Nat) (K : PySem.W.Frag) (mg : Str → Option Value) (f : String) : Sp := fun vs H Q E => ∃ ρ st args r, RS ρ K st H ∧ RVs ρ K H args vs ∧ Ir.callN T n f args st = r ∧ GX K mg ρ H Q E r
/-- how a call with keywords binds: a positional arguments, the keywords ks, the parameters' order perm -/
abbrev Kw := String × Nat × List Str × List Nat × List Ir.D
def permV {α : Type} (perm : List Nat) (vs : List α) : List α := perm.filterMap fun i => vs[i]?
def KwOk (K : PySem.W.Frag) (fd : FuncData) (ps : List Str) (q : Kw) : Prop := ∃ (dv : List Value) (dvs : List V), Vals dvs dv ∧ (∀ ρ H, RDs ρ K H q.2.2.2.2 dvs) ∧ ∀ (s : Shared) (us ws : List Value), K.In s.heap → us.length = q.2.1 → ws.length = q.2.2.1.length → BindsTo s fd ⟨us, q.2.2.1.zip ws⟩ (ps.zip (permV q.2.2.2.1 (us ++ ws ++ dv)))
/-- a class that is called: a new instance, then its __init__ -/
def ctorFn (c : String) (p : Nat) : Ir.Fn := ⟨p + 2, p, [.asg (.name p) (.newI c), .asg (.name (p + 1)) (.call (c ++ ".__init__") (.var p :: (List.range p).map .var)), .ite (.cmp .is (.var (p + 1)) (.con .non)) [.ret (.var p)] [.never]], false, .ct c⟩
structure FT (T : Ir.Tab) (KW : List Kw) (n : Nat) (P : Program) (w : World) (K : PySem.W.Frag) (mg : Str → Option Value) (base : Heap) : Prop where
  ok : ∀ f fn, T f = some fn → fn.x = false → fn.k = .df → ∃ a fd ps, FnOk P w K mg base CX0 (n + 2) a fd ps (spI T n K f) ∧ mg (Str.ofString f) = some (.ref a) ∧ PySem.W.keepIn K (.ref a) = true ∧ Binds K fd ps [] ∧ ∀ q ∈ KW, q.1 = f → KwOk K fd ps q
  okX : ∀ f fn, T f = some fn → fn.x = true → fn.k = .df → ∃ a fd ps, FnOk P w K mg base (CX P w) (n + 2) a fd ps (spX T n K mg f) ∧ mg (Str.ofString f) = some (.ref a) ∧ PySem.W.keepIn K (.ref a) = true ∧ Binds K fd ps [] ∧ ∀ q ∈ KW, q.1 = f → KwOk K fd ps q
  okM : ∀ f fn, T f = some fn → fn.x = false → ∀ c m, fn.k = .mt c m → ∃ Cc a fd ps, CN K c Cc ∧ Cls K Cc ∧ Meth K Cc (Str.ofString m) a ∧ FnOk P w K mg base CX0 (n + 2) a fd ps (spI T n K f) ∧ Binds K fd ps []
  okMX : ∀ f fn, T f = some fn → fn.x = true → ∀ c m, fn.k = .mt c m → ∃ Cc a fd ps, CN K c Cc ∧ Cls K Cc ∧ Meth K Cc (Str.ofString m) a ∧ FnOk P w K mg base (CX P w) (n + 2) a fd ps (spX T n K mg f) ∧ Binds K fd ps []
  okC : ∀ f fn, T f = some fn → ∀ c, fn.k = .ct c → ∃ Cc a fd ps, mg (Str.ofString f) = some (.ref Cc) ∧ CN K c Cc ∧ Mk K Cc a ∧ (∀ m, n = m + 1 → FnOk P w K mg base CX0 (m + 2) a fd ps (spI T m K (c ++ ".__init__"))) ∧ Binds K fd ps [] ∧ f = c ∧ fn = ctorFn c fn.pars
  okK : ∀ f fn, T f = some fn → fn.x = false → fn.k = .dk → ∃ a fd ps, FnOk P w K mg base CX0 (n + 2) a fd ps (spI T n K f) ∧ mg (Str.ofString f) = some (.ref a) ∧ PySem.W.keepIn K (.ref a) = true ∧ ∀ q ∈ KW, q.1 = f → KwOk K fd ps q
theorem FT.okA {T : Ir.Tab} {KW : List Kw} {n : Nat} {P : Program} {w : World} {K : PySem.W.Frag} {mg : Str → Option Value} {base : Heap} (ft : FT T KW n P w K mg base) (f : String) (fn : Ir.Fn) (hT : T f = some fn) (hx : fn.x = false) (hk : fn.k = .df ∨ fn.k = .dk) : ∃ a fd ps, FnOk P w K mg base CX0 (n + 2) a fd ps (spI T n K f) ∧ mg (Str.ofString f) = some (.ref a) ∧ PySem.W.keepIn K (.ref a) = true ∧ ∀ q ∈ KW, q.1 = f → KwOk K fd ps q := by
  rcases hk with h | h
  · obtain ⟨a, fd, ps, h1, h2, h3, _, h4⟩ := ft.ok f fn hT hx h
    exact ⟨a, fd, ps, h1, h2, h3, h4⟩
  · exact ft.okK f fn hT hx h
theorem se_call {T : Ir.Tab} {KW : List Kw} {n : Nat} {f : String} {fn : Ir.Fn} {e : Expr} {es : List Expr} {is : List Ir.Ex} {p pos : Pos} (ft : FT T KW n X.prog X.w X.K X.mg X.base) (hT : T f = some fn) (hr : Room (n + 2) X.A) (hs : SEs X (Ir.callN T n) (e :: es) is) (hg : Gl X (Str.ofString f) := by rfl)
    (hx : fn.x = false := by rfl) (hkd : fn.k = .df := by rfl) (hdb : (Str.ofString f == ("__debug__" : Str)) = false := by decide) (he : starEach (e :: es) X.env = (false, eval e X.env) :: starEach es X.env := by rfl) (hpl : (backTo pos (starEach es X.env)).any (·.1) = false := by rfl) :
    SE X (Ir.callN T n) (.Call (.Name (Str.ofString f) p) (e :: es) [] pos) (.call f is) := by
  obtain ⟨a, fd, ps, F, hm, hk, hb, _⟩ := ft.ok f fn hT hx hkd
  refine pe_imp (pe_call F hr hg hm hk hb .nil pass0 hs hdb he hpl) fun σ H Q ⟨ρ, env, st, v, st', rs, re, ev, k⟩ => ?_
  simp only [Ir.eval] at ev
  obtain ⟨vs, s1, e1, ev⟩ := bok ev
  refine ⟨ρ, env, st, vs, s1, rs, re, e1, fun ρ1 H1 XS x1 rs1 rx => ?_⟩
  show spI T n X.K f (XS ++ []) H1 Q E0
  rw [List.append_nil]
  exact ⟨ρ1, s1, vs, v, st', rs1, rx, ev, fun ρ' H' x x2 rs2 r2 => k ρ' H' x (x1.trans x2) rs2 r2⟩
/-! ### calls with keywords -/
theorem permV_vals {xs : List V} {us : List Value} (h : Vals xs us) : ∀ perm : List Nat, Vals (permV perm xs) (permV perm us)
  | [] => .nil
  | i :: perm => by
    unfold permV
    have ih := permV_vals h perm
    unfold permV at ih
    simp only [List.filterMap_cons]
    cases q : xs[i]? with
    | none => rw [h.none_of q]; exact ih
    | some x =>
      obtain ⟨u, e, r⟩ := h.get q
      rw [e]
      exact .cons r ih
theorem RVs.get {ρ : Rho} {K : PySem.W.Frag} {H : Hp} : ∀ {xs : List Ir.Val} {vs : List V}, RVs ρ K H xs vs → ∀ i : Nat, (xs[i]? = none ∧ vs[i]? = none) ∨ ∃ x v, xs[i]? = some x ∧ vs[i]? = some v ∧ RV ρ K H x v
  | _, _, .nil, i => .inl ⟨by simp, by simp⟩
  | _, _, .cons h _, 0 => .inr ⟨_, _, rfl, rfl, h⟩
  | _, _, .cons _ r, i + 1 => by simpa using RVs.get r i
theorem permV_rvs {ρ : Rho} {K : PySem.W.Frag} {H : Hp} {xs : List Ir.Val} {vs : List V} (h : RVs ρ K H xs vs) : ∀ perm : List Nat, RVs ρ K H (permV perm xs) (permV perm vs)
  | [] => .nil
  | i :: perm => by
    unfold permV
    have ih := permV_rvs h perm
    unfold permV at ih
    simp only [List.filterMap_cons]
    rcases RVs.get h i with ⟨e1, e2⟩ | ⟨x, v, e1, e2, r⟩
    · rw [e1, e2]; exact ih
    · rw [e1, e2]; exact .cons r ih
theorem RVs.append {ρ : Rho} {K : PySem.W.Frag} {H : Hp} : ∀ {xs ys : List Ir.Val} {vs ws : List V}, RVs ρ K H xs vs → RVs ρ K H ys ws → RVs ρ K H (xs ++ ys) (vs ++ ws)
  | _, _, _, _, .nil, s => s
  | _, _, _, _, .cons h r, s => .cons h (RVs.append r s)
abbrev SKs (X : Cx) (C : Ir.Calls) (kws : List Keyword) (is : List Ir.Ex) : Prop := PK X kws (tIs C X.K is)
theorem pk_imp {kws : List Keyword} {t t' : TA} (h : PK X kws t) (w : ∀ σ H Q, t' σ H Q → t σ H Q) : PK X kws t' := ⟨fun p pins s σ H Q I q => h.run p pins s σ H Q I (w σ H Q q)⟩
theorem sks_nil : SKs X C [] [] := pk_imp pk_nil fun σ H Q ⟨ρ, env, st, v, st', rs, re, ev, k⟩ => by
  simp only [Ir.evals] at ev; cases ev; exact k ρ H _ (.refl _ _) rs .nil
theorem sks_cons {nm : Option Str} {e : Expr} {kpos : Pos} {kws : List Keyword} {i : Ir.Ex} {is : List Ir.Ex} (h : SE X C e i) (hs : SKs X C kws is) : SKs X C (⟨nm, e, kpos⟩ :: kws) (i :: is) := by
  refine pk_imp (pk_cons h hs) fun σ H Q ⟨ρ, env, st, v, st', rs, re, ev, k⟩ => ?_
  simp only [Ir.evals] at ev
  obtain ⟨x, s1, e1, ev⟩ := bok ev
  obtain ⟨xs, s2, e2, ev⟩ := bok ev
  cases ev
  exact ⟨ρ, env, st, x, s1, rs, re, e1, fun ρ1 H1 X1 x1 rs1 rx => ⟨ρ1, env, s1, xs, st', rs1, re.mono x1, e2, fun ρ2 H2 XS x2 rs2 rxs => k ρ2 H2 (X1 :: XS) (x1.trans x2) rs2 (.cons (rx.mono x2) rxs)⟩⟩
theorem run_kwD {k : Nat} {f : Addr} {fd : FuncData} {ps : List Str} {sp : Sp} {pins : List (Addr × Obj)} {σ : L2.St} {H : Hp} {s : Shared} {Q : VK} {us ws : List Value} {vs zs : List V} {q : Kw} (F : FnOk X.prog X.w X.K X.mg X.base CX0 k f fd ps sp) (hr : Room k X.A) (hb : KwOk X.K fd ps q) (h1 : us.length = q.2.1) (h2 : ws.length = q.2.2.1.length)
    (I : Inv X pins σ H s) (r : Vals vs us) (rz : Vals zs ws) (h : ∀ dvs, (∀ ρ H, RDs ρ X.K H q.2.2.2.2 dvs) → sp (permV q.2.2.2.1 (vs ++ zs ++ dvs)) H Q E0) : wpAny (model X.prog X.w) X.A (call (.ref f) us (q.2.2.1.zip ws)) (EP X pins σ Q) X.xe s := by
  obtain ⟨dv, dvs, rd, rds, hb⟩ := hb
  have r2 := permV_vals ((r.append rz).append rd) q.2.2.2.1
  refine wpAny_call (codeAny_mono (F.run X.A X.stack s H ⟨us, q.2.2.1.zip ws⟩ _ _ Q E0 hr I.env0 (hb s us ws I.kIn h1 h2) r2 (h dvs rds)) fun r s' hq => ?_)
  cases r with
  | error e => exact (show False from hq).elim
  | ok fl =>
    cases fl with
    | ret u => exact I.after hq
    | next => exact False.elim hq
    | brk => exact False.elim hq
    | cont => exact False.elim hq
theorem run_kw {k : Nat} {f : Addr} {fd : FuncData} {ps : List Str} {sp : Sp} {pins : List (Addr × Obj)} {σ : L2.St} {H : Hp} {s : Shared} {Q : VK} {us ws : List Value} {vs zs : List V} {q : Kw} (hq : q.2.2.2.2 = []) (F : FnOk X.prog X.w X.K X.mg X.base CX0 k f fd ps sp) (hr : Room k X.A) (hb : KwOk X.K fd ps q) (h1 : us.length = q.2.1) (h2 : ws.length = q.2.2.1.length)
    (I : Inv X pins σ H s) (r : Vals vs us) (rz : Vals zs ws) (h : sp (permV q.2.2.2.1 (vs ++ zs)) H Q E0) : wpAny (model X.prog X.w) X.A (call (.ref f) us (q.2.2.1.zip ws)) (EP X pins σ Q) X.xe s :=
  run_kwD F hr hb h1 h2 I r rz fun dvs hd => by
    have e := hd ⟨[], [], []⟩ H
    rw [hq] at e
    cases e
    rw [List.append_nil]; exact h
theorem kw_end {T : Ir.Tab} {n : Nat} {f : String} {K : PySem.W.Frag} {ρ1 : Rho} {H1 : Hp} {s1 st' : Ir.Store} {vs : List Ir.Val} {XS : List V} {v : Ir.Val} {perm : List Nat} {Q : VK} (rs1 : RS ρ1 K s1 H1) (rx : RVs ρ1 K H1 vs XS) (ev : Ir.callN T n f (permV perm vs) s1 = .ok v st') (k : ∀ ρ' H' x, Ext ρ1 H1 ρ' H' → RS ρ' K st' H' → RV ρ' K H' v x → Q x H') : spI T n K f (permV perm XS) H1 Q E0 :=
  ⟨ρ1, s1, _, v, st', rs1, permV_rvs rx perm, ev, k⟩
theorem se_callK0 {T : Ir.Tab} {KW : List Kw} {n : Nat} {f : String} {fn : Ir.Fn} {ks : List Str} {perm : List Nat} {kws : List Keyword} {is : List Ir.Ex} {p pos : Pos} (ft : FT T KW n X.prog X.w X.K X.mg X.base) (hT : T f = some fn) (hq : (f, 0, ks, perm, []) ∈ KW) (hr : Room (n + 2) X.A) (hs : SKs X (Ir.callN T n) kws is) (hl : is.length = ks.length := by rfl) (hg : Gl X (Str.ofString f) := by rfl)
    (hx : fn.x = false := by rfl) (hkd : fn.k = .df ∨ fn.k = .dk := by first | exact .inl rfl | exact .inr rfl) (hdb : (Str.ofString f == ("__debug__" : Str)) = false := by decide) (hall : (backToKw pos (keywordEach kws X.env)).all (·.1.isSome) = true := by rfl) (hks : (backToKw pos (keywordEach kws X.env)).filterMap (·.1) = ks := by rfl)
    (hpl : ((backTo pos (starEach [] X.env)).any (·.1) || (backToKw pos (keywordEach kws X.env)).any (·.1.isNone)) = false := by rfl) :
    SE X (Ir.callN T n) (.Call (.Name (Str.ofString f) p) [] kws pos) (.callP f is perm) := by
  obtain ⟨a, fd, ps, F, hm, hk, hkw⟩ := ft.okA f fn hT hx hkd
  refine ⟨fun pins s σ H Q I h => ?_⟩
  obtain ⟨ρ, env, st, v, st', rs, re, ev, k⟩ := h
  simp only [Ir.eval] at ev
  obtain ⟨vs, s1, e1, ev⟩ := bok ev
  refine wpAny_Call_Name_kw (ld_glob I hg hm ?_ hdb)
  refine PySem.W.callWith_KW0 (h₀ := X.base) I.ok.mod.kin hk hall ?_ hpl
  refine thn (hs.run pos pins s σ H (fun zs H2 => zs.length = ks.length ∧ spI T n X.K f (permV perm zs) H2 Q E0) I ⟨ρ, env, st, vs, s1, rs, re, e1, fun ρ1 H1 XS x1 rs1 rx => ⟨?_, kw_end rs1 rx ev fun ρ' H' x x2 rs2 r2 => k ρ' H' x (x1.trans x2) rs2 r2⟩⟩) fun ws s2 ⟨zs, H2, I2, rz, hzl, q2⟩ => ⟨I2.kIn, ?_⟩
  · rw [← rx.length, evals_len _ _ _ _ _ e1, hl]
  · rw [hks]
    exact run_kw (q := (f, 0, ks, perm, [])) rfl (us := []) (vs := []) F hr (hkw _ hq rfl) rfl (by rw [← rz.length]; exact hzl) I2 .nil rz q2
/-! ### calls that leave defaults -/
end Snd

namespace Snd
open PySem PySem.Spec PyProof.Rows L2
variable {X : Cx} {C : Ir.Calls}
/-! ### built-in calls -/
theorem callR_or {f : Value} {r r' : List V → Hp → VK → Prop} (h : CallR X f r) (h' : CallR X f r') : CallR X f (fun xs H Q => r xs H Q ∨ r' xs H Q) := by
  intro pins s σ H xs us Q I r q
  rcases q with q | q
  · exact h pins s σ H xs us Q I r q
  · exact h' pins s σ H xs us Q I r q
theorem callR_imp {f : Value} {r r' : List V → Hp → VK → Prop} (h : CallR X f r) (w : ∀ xs H Q, r' xs H Q → r xs H Q) : CallR X f r' := fun pins s σ H xs us Q I r q => h pins s σ H xs us Q I r (w _ _ _ q)
def rB (K : PySem.W.Frag) (f : Ir.Bi) : List V → Hp → VK → Prop := fun xs H Q => ∃ ρ st vs v st', RS ρ K st H ∧ RVs ρ K H vs xs ∧ Ir.bltV f vs st = .ok v st' ∧ ∀ ρ' H' x, Ext ρ H ρ' H' → RS ρ' K st' H' → RV ρ' K H' v x → Q x H'
inductive VDs (ρ : Rho) (K : PySem.W.Frag) (H : Hp) : List Ir.D → List V → Prop
  | nil : VDs ρ K H [] []
  | cons {x : Ir.D} {xs : List Ir.D} {y : V} {ys : List V} : VD ρ K H x y → VDs ρ K H xs ys → VDs ρ K H (x :: xs) (y :: ys)
theorem VDs.derefs {ρ : Rho} {K : PySem.W.Frag} {H : Hp} {st : Ir.Store} (rs : RS ρ K st H) : ∀ {vs : List Ir.Val} {xs : List V} {ds : List Ir.D}, RVs ρ K H vs xs → Ir.derefs st vs = some ds → VDs ρ K H ds xs
  | [], _, _, .nil, e => by simp [Ir.derefs] at e; subst e; exact .nil
  | v :: vs, _, _, .cons h r, e => by
    simp only [Ir.derefs] at e
    split at e
    · rename_i d ds h1 h2
      cases e
      exact .cons (.deref rs h h1) (VDs.derefs rs r h2)
    · cases e
theorem bltD_inv {f : Ir.Bi} {vs : List Ir.Val} {st st' : Ir.Store} {v : Ir.Val} (h : Ir.bltD f vs st = .ok v st') : st' = st ∧ ∃ ds r, Ir.derefs st vs = some ds ∧ Ir.D.blt f ds = some r ∧ v = .d r := by
  unfold Ir.bltD at h
  split at h
  · rename_i ds hds
    split at h
    · rename_i r hr
      cases h
      exact ⟨rfl, ds, r, hds, hr, rfl⟩
    · cases h
  · cases h
theorem not_len {f : Ir.Bi} (h : f ≠ .len ∧ f ≠ .zip ∧ f ≠ .enum ∧ f ≠ .zipS) {vs : List Ir.Val} {st st' : Ir.Store} {v : Ir.Val} (e : Ir.bltV f vs st = .ok v st') : st' = st ∧ ∃ ds r, Ir.derefs st vs = some ds ∧ Ir.D.blt f ds = some r ∧ v = .d r := by
  unfold Ir.bltV at e
  split at e
  · exact absurd rfl h.1
  · exact absurd rfl h.2.1
  · exact absurd rfl h.2.2.1
  · exact absurd rfl h.2.2.2
  · exact bltD_inv e
theorem zip_inv {vs : List Ir.Val} {st st' : Ir.Store} {v : Ir.Val} (e : Ir.bltV .zip vs st = .ok v st') : st' = st ∧ ∃ ds r, Ir.asDs vs = some ds ∧ Ir.D.bZip ds = some r ∧ v = .d r := by
  have e : (match Ir.asDs vs with | some _ => Ir.bltD .zip vs st | none => Ir.Res.bad) = .ok v st' := e
  split at e
  · rename_i ds hds
    obtain ⟨h1, ds', r, h2, h3, h4⟩ := bltD_inv e
    have : ∀ {vs : List Ir.Val} {ds : List Ir.D}, Ir.asDs vs = some ds → Ir.derefs st vs = some ds := by
      intro vs
      induction vs with
      | nil => intro ds h; simp [Ir.asDs] at h; subst h; rfl
      | cons v vs ih =>
        intro ds h
        cases v with
        | ref _ => simp [Ir.asDs] at h
        | d x =>
          simp only [Ir.asDs, Option.map_eq_some_iff] at h
          obtain ⟨ds, h1, rfl⟩ := h
          simp [Ir.derefs, Ir.deref, ih h1]
    rw [this hds] at h2
    cases h2
    exact ⟨h1, _, r, hds, h3, h4⟩
  · cases e
theorem blt_len : CallR X (.builtin "len") (rB X.K .len) := by
  refine callR_imp (callR_or (callR_or call_len_seq call_lenD) call_len_str) fun xs H Q ⟨ρ, st, vs, v, st', rs, rv, ev, k⟩ => ?_
  have ev : (match Ir.lenDic vs st with | some n => Ir.Res.ok (Ir.Val.d (.int n)) st | none => Ir.bltD .len vs st) = .ok v st' := ev
  split at ev
  · rename_i n hn
    cases ev
    unfold Ir.lenDic at hn
    split at hn
    · rename_i m
      split at hn
      · rename_i kvs hk
        cases hn
        cases rv with
        | cons rv t =>
          cases t
          obtain ⟨a, rfl, _, ks, h2, h3, h4⟩ := RV.cell rs rv hk (by simp)
          refine .inl (.inr ⟨a, ks, rfl, h2, ?_⟩)
          rw [← h4.length]
          exact k ρ H _ (.refl _ _) rs (.int _)
      · cases hn
    · cases hn
  · obtain ⟨rfl, ds, r, h1, h2, rfl⟩ := bltD_inv ev
    have vd := VDs.derefs rs rv h1
    simp only [Ir.D.blt] at h2
    unfold Ir.D.bLen at h2
    split at h2
    · cases h2
      cases vd with
      | cons vd t =>
        cases t
        obtain ⟨a, ys, rfl, t, z, r⟩ := RD.ro_inv vd
        refine .inl (.inl ⟨a, ys, rfl, .inl t.sq, ?_⟩)
        rw [← r.length]
        exact k ρ H _ (.refl _ _) rs (.int _)
    · cases h2
      cases vd with
      | cons vd t =>
        cases t
        obtain ⟨a, ys, rfl, t, z, r⟩ := RD.tup_inv vd
        refine .inl (.inl ⟨a, ys, rfl, .inr t.sq, ?_⟩)
        rw [← r.length]
        exact k ρ H _ (.refl _ _) rs (.int _)
    · cases h2
      cases vd with
      | cons vd t =>
        cases t
        obtain ⟨a, ys, rfl, t, z, r⟩ := vd
        refine .inl (.inl ⟨a, ys, rfl, .inl (SqL.of t), ?_⟩)
        rw [← r.length]
        exact k ρ H _ (.refl _ _) rs (.int _)
    · rename_i z
      split at h2
      · rename_i hl
        cases h2
        cases vd with
        | cons vd t =>
          cases t
          refine .inr ⟨_, by rw [RD.str_inv vd], by rw [ofString_len, ← lim_eq]; exact hl, ?_⟩
          rw [ofString_len]
          exact k ρ H _ (.refl _ _) rs (.int _)
      · cases h2
    · cases h2
theorem blt_abs : CallR X (.builtin "abs") (rB X.K .abs) := by
  refine callR_imp call_abs fun xs H Q ⟨ρ, st, vs, v, st', rs, rv, ev, k⟩ => ?_
  obtain ⟨rfl, ds, r, h1, h2, rfl⟩ := not_len (by decide) ev
  have vd := VDs.derefs rs rv h1
  simp only [Ir.D.blt] at h2
  unfold Ir.D.bAbs at h2
  split at h2
  · cases h2
    cases vd with
    | cons vd t =>
      cases t
      exact ⟨_, by rw [RD.int_inv vd], k ρ H _ (.refl _ _) rs (.int _)⟩
  · cases h2
theorem blt_tuple : CallR X (.type "tuple") (rB X.K .tuple) := by
  refine callR_imp call_tuple_of fun xs H Q ⟨ρ, st, vs, v, st', rs, rv, ev, k⟩ => ?_
  obtain ⟨rfl, ds, r, h1, h2, rfl⟩ := not_len (by decide) ev
  have vd := VDs.derefs rs rv h1
  simp only [Ir.D.blt] at h2
  unfold Ir.D.bTuple at h2
  split at h2
  · cases h2
    cases vd with
    | cons vd t =>
      cases t
      obtain ⟨a, ys, rfl, t, z, r⟩ := RD.tup_inv vd
      exact ⟨a, ys, rfl, .inr ⟨t.sq, k ρ H _ (.refl _ _) rs (RD.tup t z r)⟩⟩
  · cases h2
    cases vd with
    | cons vd t =>
      cases t
      obtain ⟨a, ys, rfl, t, z, r⟩ := vd
      exact ⟨a, ys, rfl, .inl ⟨SqL.of t, fun p hp => k ρ _ _ (.grow rs hp _) (rs.grow hp _) (grow_tup rs r z hp)⟩⟩
  · cases h2
theorem bools_ok {ρ : Rho} {K : PySem.W.Frag} {H : Hp} : ∀ {xs : List Ir.D} {ys : List V} {bs : List Bool}, RDs ρ K H xs ys → Ir.D.bools xs = some bs → ys = bs.map V.bl
  | [], _, _, .nil, e => by simp [Ir.D.bools] at e; subst e; rfl
  | x :: xs, _, _, .cons h r, e => by
    cases x <;> simp [Ir.D.bools] at e
    obtain ⟨bs, e1, rfl⟩ := e
    rw [RD.bool_inv h, bools_ok r e1]; rfl
theorem blt_all (hc : X.calm = true) : CallR X (.builtin "all") (rB X.K .all) := by
  refine callR_imp (cr_all hc) fun xs H Q ⟨ρ, st, vs, v, st', rs, rv, ev, k⟩ => ?_
  obtain ⟨rfl, ds, r, h1, h2, rfl⟩ := not_len (by decide) ev
  have vd := VDs.derefs rs rv h1
  simp only [Ir.D.blt] at h2
  unfold Ir.D.bAll at h2
  split at h2
  · simp only [Option.map_eq_some_iff] at h2
    obtain ⟨bs, e1, rfl⟩ := h2
    cases vd with
    | cons vd t =>
      cases t
      obtain ⟨a, ys, rfl, t, z, r⟩ := vd
      exact ⟨a, bs, rfl, by rw [← bools_ok r e1]; exact SqL.of t, k ρ H _ (.refl _ _) rs (.bool _)⟩
  · cases h2
theorem blt_any (hc : X.calm = true) : CallR X (.builtin "any") (rB X.K .any) := by
  refine callR_imp (cr_any hc) fun xs H Q ⟨ρ, st, vs, v, st', rs, rv, ev, k⟩ => ?_
  obtain ⟨rfl, ds, r, h1, h2, rfl⟩ := not_len (by decide) ev
  have vd := VDs.derefs rs rv h1
  simp only [Ir.D.blt] at h2
  unfold Ir.D.bAny at h2
  split at h2
  · simp only [Option.map_eq_some_iff] at h2
    obtain ⟨bs, e1, rfl⟩ := h2
    cases vd with
    | cons vd t =>
      cases t
      obtain ⟨a, ys, rfl, t, z, r⟩ := vd
      exact ⟨a, bs, rfl, by rw [← bools_ok r e1]; exact SqL.of t, k ρ H _ (.refl _ _) rs (.bool _)⟩
  · cases h2
theorem blt_min (hc : X.calm = true) : CallR X (.builtin "min") (rB X.K .min) := by
  refine callR_imp (call_min2 hc) fun xs H Q ⟨ρ, st, vs, v, st', rs, rv, ev, k⟩ => ?_
  obtain ⟨rfl, ds, r, h1, h2, rfl⟩ := not_len (by decide) ev
  have vd := VDs.derefs rs rv h1
  simp only [Ir.D.blt] at h2
  unfold Ir.D.bMin at h2
  split at h2
  · cases h2
    cases vd with
    | cons vd t =>
      cases t with
      | cons vd2 t =>
        cases t
        exact ⟨_, _, by rw [RD.int_inv vd, RD.int_inv vd2], k ρ H _ (.refl _ _) rs (.int _)⟩
  · cases h2
theorem se_blt {f : Ir.Bi} {x : String} {e : Expr} {es : List Expr} {is : List Ir.Ex} {p pos : Pos} (hc : CallR X (.builtin x) (rB X.K f)) (hs : SEs X C (e :: es) is) (hm : X.mg (Str.ofString x) = none) (hv : bootBuiltins (Str.ofString x) = some (.builtin x)) (hg : Gl X (Str.ofString x) := by rfl)
    (hn : Str.ofString x ≠ "__name__" := by decide) (hdb : (Str.ofString x == ("__debug__" : Str)) = false := by decide) (he : starEach (e :: es) X.env = (false, eval e X.env) :: starEach es X.env := by rfl) (hpl : (backTo pos (starEach es X.env)).any (·.1) = false := by rfl) :
    SE X C (.Call (.Name (Str.ofString x) p) (e :: es) [] pos) (.blt f is) := by
  refine pe_imp (pe_callB hc hg hm hv hs hn hdb he hpl) fun σ H Q ⟨ρ, env, st, v, st', rs, re, ev, k⟩ => ?_
  simp only [Ir.eval] at ev
  obtain ⟨vs, s1, e1, ev⟩ := bok ev
  exact ⟨ρ, env, st, vs, s1, rs, re, e1, fun ρ1 H1 XS x1 rs1 rx => ⟨ρ1, s1, vs, v, st', rs1, rx, ev, fun ρ' H' x x2 rs2 r2 => k ρ' H' x (x1.trans x2) rs2 r2⟩⟩
theorem se_bltT {f : Ir.Bi} {x : String} {e : Expr} {es : List Expr} {is : List Ir.Ex} {p pos : Pos} (hc : CallR X (.type x) (rB X.K f)) (hs : SEs X C (e :: es) is) (hm : X.mg (Str.ofString x) = none) (hv : bootBuiltins (Str.ofString x) = some (.type x)) (hg : Gl X (Str.ofString x) := by rfl)
    (hn : Str.ofString x ≠ "__name__" := by decide) (hdb : (Str.ofString x == ("__debug__" : Str)) = false := by decide) (he : starEach (e :: es) X.env = (false, eval e X.env) :: starEach es X.env := by rfl) (hpl : (backTo pos (starEach es X.env)).any (·.1) = false := by rfl) :
    SE X C (.Call (.Name (Str.ofString x) p) (e :: es) [] pos) (.blt f is) := by
  refine pe_imp (pe_callTy hc hg hm hv hs hn hdb he hpl) fun σ H Q ⟨ρ, env, st, v, st', rs, re, ev, k⟩ => ?_
  simp only [Ir.eval] at ev
  obtain ⟨vs, s1, e1, ev⟩ := bok ev
  exact ⟨ρ, env, st, vs, s1, rs, re, e1, fun ρ1 H1 XS x1 rs1 rx => ⟨ρ1, s1, vs, v, st', rs1, rx, ev, fun ρ' H' x x2 rs2 r2 => k ρ' H' x (x1.trans x2) rs2 r2⟩⟩
/-! ### isinstance -/
def dTy : Ir.D → String
  | .non => "NoneType" | .bool _ => "bool" | .int _ => "int" | .str _ => "str" | .tup _ => "tuple" | .lst _ => "list" | .ro _ => "list" | _ => ""
theorem VD.ty {ρ : Rho} {K : PySem.W.Frag} {H : Hp} {d : Ir.D} {x : V} (hp : d.plain = true) (h : VD ρ K H d x) : TyX K H x (.type (dTy d)) := by
  cases d with
  | non => rw [RD.non_inv h]; exact .base .non
  | bool b => rw [RD.bool_inv h]; exact .base (.bl b)
  | int i => rw [RD.int_inv h]; exact .base (.int i)
  | str s => rw [RD.str_inv h]; exact .base (.str _)
  | tup xs =>
    obtain ⟨a, ys, rfl, t, z, r⟩ := RD.tup_inv h
    rcases t with ⟨t, _⟩ | ⟨o, its, n, h1, h2, _⟩
    · rcases t with t | ⟨o, t⟩
      · exact .base (.tup t)
      · exact .fTuple t
    · exact .kTuple h1 h2
  | lst xs =>
    obtain ⟨a, ys, rfl, t, z, r⟩ := h
    exact .base (.lst t)
  | ro xs =>
    obtain ⟨a, ys, rfl, t, z, r⟩ := RD.ro_inv h
    rcases t with ⟨⟨o, t⟩, _⟩ | ⟨o, its, n, h1, h2, _⟩
    · exact .base (.frz t)
    · exact .kList h1 h2
  | oid n => cases hp
  | fn n => cases hp
  | exn c ns as => cases hp
theorem kit_dTy (d : Ir.D) (hp : d.plain = true) (c : Ir.Ty) : kitB (dTy d) c.name = some (d.tyOk c) := by
  cases d <;> first | (cases hp; done) | (cases c <;> simp only [dTy, Ir.Ty.name, Ir.D.tyOk] <;> decide +kernel)
theorem isi_ok {ts : List Ir.Ty} {p r : Ir.D} (h : Ir.isiV ts p = some r) : p.plain = true ∧ r = .bool (ts.any fun t => p.tyOk t) := by
  unfold Ir.isiV at h
  split at h
  · cases h; exact ⟨by assumption, rfl⟩
  · cases h
end Snd

namespace Snd
open PySem PySem.Spec PyProof.Rows L2
variable {X : Cx} {C : Ir.Calls}
/-! ### isinstance -/
abbrev STy (X : Cx) (es : List Expr) (ts : List Ir.Ty) : Prop := PA X es (fun _ H Q => Q (ts.map fun t => V.ty t.name) H)
theorem sty_nil : STy X [] [] := pa_nil
theorem sty_cons {es : List Expr} {ts : List Ir.Ty} {t : Ir.Ty} {p : Pos} (hs : STy X es ts) (hm : X.mg (Str.ofString t.name) = none) (hv : bootBuiltins (Str.ofString t.name) = some (.type t.name)) (hg : Gl X (Str.ofString t.name) := by rfl) (hn : Str.ofString t.name ≠ "__name__" := by decide) (hd : (Str.ofString t.name == ("__debug__" : Str)) = false := by decide)
    (hst : starEach (.Name (Str.ofString t.name) p :: es) X.env = (false, eval (.Name (Str.ofString t.name) p) X.env) :: starEach es X.env := by rfl) : STy X (.Name (Str.ofString t.name) p :: es) (t :: ts) :=
  pa_imp (pa_cons (pe_bltn (v := .ty t.name) hg hm hv rfl hn hd) hs hst) fun σ H Q q => q
theorem kitAny_ok {K : PySem.W.Frag} (d : Ir.D) (hp : d.plain = true) : ∀ ts : List Ir.Ty, PySem.W.kitAny K (.type (dTy d)) (ts.map fun t => Value.type t.name) = some (ts.any fun t => d.tyOk t)
  | [] => rfl
  | t :: ts => by
    simp only [List.map_cons, List.any_cons]
    refine kitAny_cons (b := d.tyOk t) (kit_ty (kit_dTy d hp t)) (fun h => ?_) (fun h => ?_)
    · rw [h]; simpa using kitAny_ok d hp ts
    · rw [h]; rfl
theorem cls_all : ∀ ts : List Ir.Ty, Paired ClsV (ts.map fun t => V.ty t.name) (ts.map fun t => Value.type t.name)
  | [] => .nil
  | t :: ts => .cons (.ty _) (cls_all ts)
theorem se_isiT {e : Expr} {es : List Expr} {i : Ir.Ex} {ts : List Ir.Ty} {p pos p1 : Pos} {k1} (h : SE X C e i) (hs : STy X es ts) (hm : X.mg (Str.ofString "isinstance") = none) (hl : ts.length ≤ sizeLine := by decide) (hg : Gl X (Str.ofString "isinstance") := by rfl)
    (hv : bootBuiltins (Str.ofString "isinstance") = some (.builtin "isinstance") := by decide +kernel)
    (hst : starEach [e, .Tuple es k1 p1] X.env = (false, eval e X.env) :: starEach [.Tuple es k1 p1] X.env := by rfl) (hst2 : starEach [.Tuple es k1 p1] X.env = (false, eval (.Tuple es k1 p1) X.env) :: starEach [] X.env := by rfl) (hpl : (backTo pos (starEach [.Tuple es k1 p1] X.env)).any (·.1) = false := by rfl) :
    SE X C (.Call (.Name (Str.ofString "isinstance") p) [e, .Tuple es k1 p1] [] pos) (.isi i ts) := by
  refine pe_imp (pe_callB call_isiT hg hm hv (pa_cons h (pa_cons (pe_tup hs) pa_nil hst2) hst) (by decide) (by decide) hst hpl) fun σ H Q ⟨ρ, env, st, v, st', rs, re, ev, k⟩ => ?_
  simp only [Ir.eval] at ev
  obtain ⟨x, s1, e1, ev⟩ := bok ev
  obtain ⟨d, e2, ev⟩ := ook ev
  obtain ⟨d', e3, ev⟩ := ook ev
  obtain ⟨hpd, rfl⟩ := isi_ok e3
  cases ev
  refine ⟨ρ, env, st, x, _, rs, re, e1, fun ρ1 H1 X1 x1 rs1 rx => ⟨by simpa using hl, fun tp hp => ?_⟩⟩
  have x2 : Ext ρ1 H1 ρ1 (upd H1 tp (.tup (ts.map fun t => V.ty t.name))) := .grow rs1 hp _
  have rs2 := rs1.grow hp (.tup (ts.map fun t => V.ty t.name))
  have vd : VD ρ1 X.K _ d X1 := VD.deref rs2 (rx.mono x2) e2
  exact ⟨X1, tp, _, _, _, _, rfl, upd_same, cls_all ts, VD.ty hpd vd, kitAny_ok d hpd ts, k ρ1 _ _ (x1.trans x2) rs2 (.bool _)⟩
theorem se_isi {e : Expr} {i : Ir.Ex} {t : Ir.Ty} {p pos p1 : Pos} (h : SE X C e i) (hs : STy X [.Name (Str.ofString t.name) p1] [t]) (hm : X.mg (Str.ofString "isinstance") = none) (hg : Gl X (Str.ofString "isinstance") := by rfl)
    (hv : bootBuiltins (Str.ofString "isinstance") = some (.builtin "isinstance") := by decide +kernel)
    (hst : starEach [e, .Name (Str.ofString t.name) p1] X.env = (false, eval e X.env) :: starEach [.Name (Str.ofString t.name) p1] X.env := by rfl) (hpl : (backTo pos (starEach [.Name (Str.ofString t.name) p1] X.env)).any (·.1) = false := by rfl) :
    SE X C (.Call (.Name (Str.ofString "isinstance") p) [e, .Name (Str.ofString t.name) p1] [] pos) (.isi i [t]) := by
  refine pe_imp (pe_callB call_isi hg hm hv (pa_cons h hs hst) (by decide) (by decide) hst hpl) fun σ H Q ⟨ρ, env, st, v, st', rs, re, ev, k⟩ => ?_
  simp only [Ir.eval] at ev
  obtain ⟨x, s1, e1, ev⟩ := bok ev
  obtain ⟨d, e2, ev⟩ := ook ev
  obtain ⟨d', e3, ev⟩ := ook ev
  obtain ⟨hpd, rfl⟩ := isi_ok e3
  cases ev
  refine ⟨ρ, env, st, x, _, rs, re, e1, fun ρ1 H1 X1 x1 rs1 rx => ?_⟩
  have vd : VD ρ1 X.K _ d X1 := VD.deref rs1 rx e2
  have := k ρ1 _ _ x1 rs1 (.bool _)
  simp only [List.any_cons, List.any_nil, Bool.or_false] at this
  exact ⟨X1, _, _, _, _, rfl, .ty _, VD.ty hpd vd, kit_ty (kit_dTy d hpd t), this⟩
/-! ### methods -/
theorem mthOk_lst {m : Ir.Mt} {o : Ir.Val} {st : Ir.Store} (hm : m = .append ∨ m = .extend ∨ m = .pop) (h : Ir.mthOk m o st = true) : ∃ n xs, o = .ref n ∧ st[n]? = some (.lst xs) := by
  unfold Ir.mthOk at h
  split at h
  all_goals first
    | (cases h; done)
    | (split at h
       · rename_i n _ xs hx; exact ⟨_, xs, rfl, hx⟩
       · cases h)
    | (rcases hm with hm | hm | hm <;> cases hm)
theorem mthOk_dic {m : Ir.Mt} {o : Ir.Val} {st : Ir.Store} (hm : m = .setdefault ∨ m = .get) (h : Ir.mthOk m o st = true) : ∃ n kvs, o = .ref n ∧ st[n]? = some (.dic kvs) := by
  unfold Ir.mthOk at h
  split at h
  all_goals first
    | (cases h; done)
    | (split at h
       · rename_i n _ xs hx; exact ⟨_, xs, rfl, hx⟩
       · cases h)
    | (rcases hm with hm | hm <;> cases hm)
theorem tyV_lst {ρ : Rho} {K : PySem.W.Frag} {H : Hp} {st : Ir.Store} {n : Nat} {xs : List Ir.D} {x : V} (rs : RS ρ K st H) (r : RV ρ K H (.ref n) x) (h : st[n]? = some (.lst xs)) : tyV K "list" x H := by
  obtain ⟨a, rfl, h1, ys, h2, h3, h4⟩ := RV.cell rs r h (by simp)
  exact .inl ⟨rfl, ys, SqL.of h2⟩
theorem mth_ev {m : Ir.Mt} {io : Ir.Ex} {is : List Ir.Ex} {env : Ir.Env} {st st' : Ir.Store} {v : Ir.Val} (ev : Ir.eval C (.mth m io is) env st = .ok v st') : ∃ x s1 vs s2, Ir.eval C io env st = .ok x s1 ∧ Ir.mthOk m x s1 = true ∧ Ir.evals C is env s1 = .ok vs s2 ∧ Ir.mthV m x vs s2 = .ok v st' := by
  simp only [Ir.eval] at ev
  obtain ⟨x, s1, e1, ev⟩ := bok ev
  split at ev
  · rename_i hk
    obtain ⟨vs, s2, e2, ev⟩ := bok ev
    exact ⟨x, s1, vs, s2, e1, hk, e2, ev⟩
  · cases ev
section
variable {o e : Expr} {io ie : Ir.Ex} {apos cpos : Pos}
theorem se_append (ho : SE X C o io) (he : SE X C e ie) (hbase : attributeBase o (Str.ofString "append") X.env (eval o X.env) = eval o X.env := by rfl)
    (hfew : ((backTo cpos (starEach [e] X.env)).all (fun x => !x.1) && (backToKw cpos (keywordEach [] X.env)).all (fun x => x.1.isSome) && decide (([e] : List Expr).length + ([] : List Keyword).length + (if ([] : List Keyword).isEmpty then 0 else 1) < 30)) = true := by rfl)
    (hline : (apos.endLine == cpos.line) = true := by rfl) (hs : starEach [e] X.env = (false, eval e X.env) :: starEach [] X.env := by rfl) (hpl : (backTo cpos (starEach [] X.env)).any (·.1) = false := by rfl) :
    SE X C (.Call (.Attribute o (Str.ofString "append") apos) [e] [] cpos) (.mth .append io [ie]) := by
  refine pe_imp (pe_bm PySem.F.plainAttrs_list PySem.F.slot_list_append PySem.F.type_list_append mt_append ho (pa_cons he pa_nil hs) hbase hfew hline hs hpl) fun σ H Q ⟨ρ, env, st, v, st', rs, re, ev, k⟩ => ?_
  obtain ⟨x, s1, vs, s2, e1, hk, e2, ev⟩ := mth_ev ev
  obtain ⟨n, ys, rfl, hn⟩ := mthOk_lst (.inl rfl) hk
  simp only [Ir.evals] at e2
  obtain ⟨y, s3, e2, e3⟩ := bok e2
  simp only [Ir.Res.bind_ok] at e3
  cases e3
  refine ⟨ρ, env, st, _, s1, rs, re, e1, fun ρ1 H1 X1 x1 rs1 rx => ⟨tyV_lst rs1 rx hn, ρ1, env, s1, y, _, rs1, re.mono x1, e2, fun ρ2 H2 Y x2 rs2 ry => ?_⟩⟩
  have w0 : Ir.mAppend n s2 [y] = .ok v st' := ev
  clear ev
  unfold Ir.mAppend at w0
  split at w0
  · rename_i d hd
    cases hd
    split at w0
    · rename_i xs hx
      split at w0
      · rename_i hl
        cases w0
        obtain ⟨a, rfl, h1, zs, h2, h3, h4⟩ := RV.cell rs2 (rx.mono x2) hx (by simp)
        have hz : zs.length < sizeLine := by rw [← h4.length, ← lim_eq]; exact hl
        refine ⟨a, zs, Y, rfl, rfl, h2, hz, ?_⟩
        have w : Ext ρ2 H2 ρ2 (upd H2 a (.lst (zs ++ [Y]))) := .write rs2 h1 _
        exact k ρ2 _ _ ((x1.trans x2).trans w) (rs2.write h1 ⟨_, upd_same, by rw [List.length_append]; exact hz, (h4.mono w).append (.cons (ry.mono w) .nil)⟩) .non
      · cases w0
    · cases w0
  · cases w0
theorem RDs.dropLast {ρ : Rho} {K : PySem.W.Frag} {H : Hp} {xs : List Ir.D} {ys : List V} (r : RDs ρ K H xs ys) : RDs ρ K H xs.dropLast ys.dropLast := by
  rw [List.dropLast_eq_take, List.dropLast_eq_take, r.length]
  exact r.take _
theorem se_setdefault {f : Expr} {jf : Ir.Ex} (ho : SE X C o io) (he : SE X C e ie) (hf : SE X C f jf) (m : M2 X o (Str.ofString "setdefault") apos e f cpos := by exact ⟨rfl, rfl, rfl, rfl⟩) :
    SE X C (.Call (.Attribute o (Str.ofString "setdefault") apos) [e, f] [] cpos) (.mth .setdefault io [ie, jf]) := by
  refine pe_imp (pe_dsetd ho he hf m) fun σ H Q ⟨ρ, env, st, v, st', rs, re, ev, k⟩ => ?_
  obtain ⟨x, s1, vs, s2, e1, hk, e2, ev⟩ := mth_ev ev
  obtain ⟨n, ys, rfl, hn⟩ := mthOk_dic (.inl rfl) hk
  simp only [Ir.evals] at e2
  obtain ⟨y, s3, f2, e3⟩ := bok e2
  obtain ⟨zs, s4, e3, e4⟩ := bok e3
  obtain ⟨z, s5, f3, e5⟩ := bok e3
  simp only [Ir.Res.bind_ok] at e5
  cases e5
  cases e4
  refine ⟨ρ, env, st, _, s1, rs, re, e1, fun ρ1 H1 X1 x1 rs1 rx => ?_⟩
  obtain ⟨a, rfl, h1, ks, h2, h3, h4⟩ := RV.cell rs1 rx hn (by simp)
  refine ⟨a, rfl, .inl ⟨ks, .inl h2⟩, ρ1, env, s1, y, s3, rs1, re.mono x1, f2, fun ρ2 H2 Y x2 rs2 ry => ⟨ρ2, env, s3, z, _, rs2, re.mono (x1.trans x2), f3, fun ρ3 H3 Z x3 rs3 rz => ?_⟩⟩
  have w0 : Ir.mSetdefault n s2 [y, z] = .ok v st' := ev
  clear ev
  unfold Ir.mSetdefault at w0
  split at w0
  · rename_i kd vd hd
    cases hd
    split at w0
    · rename_i kvs hx
      split at w0
      · rename_i hc
        rw [Bool.and_eq_true] at hc
        obtain ⟨a', e', h1', ks', h2', h3', h4'⟩ := RV.cell rs3 (rx.mono (x2.trans x3)) hx (by simp)
        cases e'
        obtain ⟨k', hk1, rfl⟩ := RK.kv (ry.mono x3) hc.1
        have hlen : ks'.length < sizeLine := by rw [← h4'.length, ← lim_eq]; exact of_decide_eq_true hc.2
        refine ⟨ks', k', h2', rfl, hlen, fun w hw => ?_, fun hw => ?_⟩
        · rcases RKs.look hk1 h4' with ⟨z1, z2⟩ | ⟨u, q, z1, z2, z3⟩
          · rw [hw] at z2; cases z2
          · rw [hw] at z2; cases z2
            rw [z1] at w0
            cases w0
            exact k ρ3 H3 _ ((x1.trans x2).trans x3) rs3 z3
        · rcases RKs.look hk1 h4' with ⟨z1, z2⟩ | ⟨u, q, z1, z2, z3⟩
          · rw [z1] at w0
            cases w0
            have w : Ext ρ3 H3 ρ3 (upd H3 a (.dK (L2.putK ks' k' Z))) := .write rs3 h1' _
            refine k ρ3 _ _ (((x1.trans x2).trans x3).trans w) (rs3.write h1' ⟨_, upd_same, ?_, (h4'.mono w).put hk1 (rz.mono w)⟩) (rz.mono w)
            have := length_putK ks' k' Z
            omega
          · rw [hw] at z2; cases z2
      · cases w0
    · cases w0
  · cases w0
theorem se_get {f : Expr} {jf : Ir.Ex} {n0 : Nat} (hr : Room n0 X.A) (ho : SE X C o io) (he : SE X C e ie) (hf : SE X C f jf) (m : M2 X o (Str.ofString "get") apos e f cpos := by exact ⟨rfl, rfl, rfl, rfl⟩) :
    SE X C (.Call (.Attribute o (Str.ofString "get") apos) [e, f] [] cpos) (.mth .get io [ie, jf]) := by
  refine pe_imp (pe_dget2 (hu_of hr) ho he hf m) fun σ H Q ⟨ρ, env, st, v, st', rs, re, ev, k⟩ => ?_
  obtain ⟨x, s1, vs, s2, e1, hk, e2, ev⟩ := mth_ev ev
  obtain ⟨n, ys, rfl, hn⟩ := mthOk_dic (.inr rfl) hk
  simp only [Ir.evals] at e2
  obtain ⟨y, s3, f2, e3⟩ := bok e2
  obtain ⟨zs, s4, e3, e4⟩ := bok e3
  obtain ⟨z, s5, f3, e5⟩ := bok e3
  simp only [Ir.Res.bind_ok] at e5
  cases e5
  cases e4
  refine ⟨ρ, env, st, _, s1, rs, re, e1, fun ρ1 H1 X1 x1 rs1 rx => ?_⟩
  obtain ⟨a, rfl, h1, ks, h2, h3, h4⟩ := RV.cell rs1 rx hn (by simp)
  refine ⟨a, rfl, .inl ⟨ks, .inl h2⟩, ρ1, env, s1, y, s3, rs1, re.mono x1, f2, fun ρ2 H2 Y x2 rs2 ry => ⟨ρ2, env, s3, z, _, rs2, re.mono (x1.trans x2), f3, fun ρ3 H3 Z x3 rs3 rz => ?_⟩⟩
  have w0 : Ir.mGet n s2 [y, z] = .ok v st' := ev
  clear ev
  unfold Ir.mGet at w0
  split at w0
  · rename_i kd vd hd
    cases hd
    split at w0
    · rename_i kvs hx
      split at w0
      · rename_i hc
        cases w0
        obtain ⟨a', e', h1', ks', h2', h3', h4'⟩ := RV.cell rs3 (rx.mono (x2.trans x3)) hx (by simp)
        cases e'
        obtain ⟨k', hk1, rfl⟩ := RK.kv (ry.mono x3) hc
        refine ⟨_, .k h2', ?_⟩
        rcases RKs.look hk1 h4' with ⟨z1, z2⟩ | ⟨u, q, z1, z2, z3⟩
        · rw [z2]; rw [z1] at k
          exact k ρ3 H3 _ ((x1.trans x2).trans x3) rs3 rz
        · rw [z2]; rw [z1] at k
          exact k ρ3 H3 _ ((x1.trans x2).trans x3) rs3 z3
      · cases w0
    · cases w0
  · cases w0
theorem intBits_same (i : Int) : Ir.intBits i = Builtin.Int.intBits i := by
  unfold Ir.intBits Builtin.Int.intBits
  by_cases h : i = 0
  · subst h; rfl
  · have h1 : ¬ i.natAbs = 0 := by omega
    rw [if_neg h1, if_neg (by simpa using h)]
theorem se_bits (ho : SE X C o io) (hbase : attributeBase o (Str.ofString "bit_length") X.env (eval o X.env) = eval o X.env := by rfl) (hline : (apos.endLine == cpos.line) = true := by rfl) :
    SE X C (.Call (.Attribute o (Str.ofString "bit_length") apos) [] [] cpos) (.mth .bit_length io []) := by
  refine pe_imp (pe_bits ho hbase hline) fun σ H Q ⟨ρ, env, st, v, st', rs, re, ev, k⟩ => ?_
  obtain ⟨x, s1, vs, s2, e1, hk, e2, ev⟩ := mth_ev ev
  simp only [Ir.evals] at e2
  cases e2
  cases x with
  | ref n => cases ev
  | d y =>
    have ev : Ir.mBits s1 y [] = .ok v st' := ev
    cases y <;> simp only [Ir.mBits, reduceCtorEq] at ev
    cases ev
    refine ⟨ρ, env, st, _, _, rs, re, e1, fun ρ1 H1 X1 x1 rs1 rx => ⟨_, RD.int_inv rx, ?_⟩⟩
    rw [← intBits_same]
    exact k ρ1 H1 _ x1 rs1 (.int _)
end
end Snd

namespace Snd
open PySem PySem.Spec PyProof.Rows L2
/-! ### targets -/
section
variable {prog : Program} {w : World} {A : Around} {E : Value → Shared → Prop} {s : Shared}
theorem star_T {l : Addr} {items : Array Value} {n i : Nat} {Q : List Value → Shared → Prop} (hl : IsTup s.heap l items) (hh : A.handled = none) (hi : i < n) (hn : n ≤ items.size + 1) (hz : items.size ≤ sizeLine)
    (h : ∀ (h' : Heap) (tk : Nat), (∀ b o, s.heap.get? b = some o → h'.get? b = some o) → Q (items.toList.take i ++ [.ref h'.objs.size] ++ (items.toList.drop i).drop (items.size + 1 - n)) { s with heap := h'.push { cls := .type "list", data := .seq ((items.toList.drop i).take (items.size + 1 - n)).toArray }, toks := tk }) :
    wpAny (model prog w) A (unpackItems (.ref l) n (some i)) Q E s := by
  have hlt : l ≠ s.heap.objs.size := by obtain ⟨o, ho, _⟩ := hl; exact Nat.ne_of_lt (Heap.lt_size ho)
  unfold unpackItems
  refine wpAny_bind ?_
  unfold notIterableAtAll
  refine wpAny_bind (wpAny_specialOf hl.typeIs slot_tuple_iter.lookup ?_)
  refine wpAny_pure ?_
  simp only [Bool.false_eq_true, if_false]
  refine wpAny_bind (wpAny_holding (iter_tuple hl ?_))
  refine wpAny_bind (wpAny_holding (draw_tuple hlt i 0 _ _ ⟨_, Heap.get?_push_size _ rfl, rfl, rfl⟩ (hl.push _) (by omega) fun h₁ hit₁ hs₁ => ?_))
  have hl₁ : IsTup h₁ l items := (hl.push _).extBut hs₁.extBut hlt
  rw [Nat.zero_add] at hit₁
  have hit₁' := hit₁
  obtain ⟨oi, hoi, _⟩ := hit₁'
  have hl₁' := hl₁
  obtain ⟨ol, hol, _⟩ := hl₁'
  rw [List.drop_zero]
  have hfl : (items.toList.take i).length = i := by rw [List.length_take, Array.length_toList]; omega
  rw [if_neg (show ¬ ((items.toList.take i).length < i) by rw [hfl]; omega)]
  refine wpAny_bind (wpAny_holding (PySem.W.kun_collect (s := { s with heap := h₁ }) (T := "tuple_iterator") (.inr (.inr (.inr rfl))) (Walks.tuple (A := A.in1) hh s.heap.objs.size l hlt items) (fun j u st => st.1.typeIs) (k := i) (by omega) ⟨hit₁, hl₁⟩ (Heap.lt_size hoi) (Heap.lt_size hol) (fun h₂ tk hk => ?_) hz))
  have hrl : (items.toList.drop i).length = items.size - i := by rw [List.length_drop, Array.length_toList]
  have hmid : (items.toList.drop i).length - (n - 1 - i) = items.size + 1 - n := by rw [hrl]; omega
  show wpAny _ _ (if (items.toList.drop i).length < n - 1 - i then _ else _) _ _ _
  rw [if_neg (by rw [hrl]; omega)]
  show wpAny _ _ (newList ((items.toList.drop i).take ((items.toList.drop i).length - (n - 1 - i))) >>= fun d => pure (items.toList.take i ++ [d] ++ (items.toList.drop i).drop ((items.toList.drop i).length - (n - 1 - i)))) _ _ _
  rw [hmid]
  have he : ∀ b o, s.heap.get? b = some o → h₂.get? b = some o := fun b o e => hk b o (Nat.ne_of_lt (Heap.lt_size e)) (hs₁.extBut b o (Nat.ne_of_lt (Heap.lt_size e)) (Heap.get?_push_of_some _ e))
  refine wpAny_bind (wpAny_newObj_type (wpAny_pure (h h₂ tk he)) ?_)
  show (((items.toList.drop i).take (items.size + 1 - n)).toArray).size ≤ sizeLine
  rw [List.size_toArray, List.length_take, hrl]
  omega
theorem unpackItems_list {t : Addr} {items : Array Value} {Q : List Value → Shared → Prop} (hh : A.handled = none) (hl : s.heap.IsList t items)
    (hQ : ∀ h', Heap.ExtBut s.heap.objs.size s.heap h' → Q items.toList { s with heap := h' }) : wpAny (model prog w) A (unpackItems (.ref t) items.size none) Q E s := by
  have hlt : t ≠ s.heap.objs.size := by obtain ⟨o, ho, _⟩ := hl; exact Nat.ne_of_lt (Heap.lt_size ho)
  unfold unpackItems
  refine wpAny_bind ?_
  unfold notIterableAtAll
  refine wpAny_bind (wpAny_specialOf hl.typeIs slot_list_iter.lookup ?_)
  refine wpAny_pure ?_
  simp only [Bool.false_eq_true, if_false]
  refine wpAny_bind (wpAny_holding (wpAny_pyIter_list hl ?_))
  refine wpAny_bind (wpAny_holding (PySem.W.kun_draw hlt items.size 0 _ _ ⟨_, Heap.get?_push_size _ rfl, rfl, rfl⟩ (hl.push _) (by omega) fun h₁ hit₁ hs₁ => ?_))
  have hall : List.take items.size (List.drop 0 items.toList) = items.toList := by
    rw [List.drop_zero]; exact List.take_of_length_le (by simp)
  rw [hall]
  rw [if_neg (by simp)]
  have hl₁ : h₁.IsList t items := (hl.push _).extBut hs₁.extBut hlt
  refine wpAny_bind (wpAny_holding (wpAny_pyNext_list_end hh hit₁ hl₁ (by simp) fun h₂ he₂ => ?_))
  simp only [Option.isSome_none, Bool.false_eq_true, if_false]
  exact wpAny_pure (hQ h₂ fun b o hb e => he₂ b o hb (hs₁.extBut b o hb (Heap.get?_push_of_some _ e)))
theorem star_L {l : Addr} {items : Array Value} {n i : Nat} {Q : List Value → Shared → Prop} (hl : s.heap.IsList l items) (hh : A.handled = none) (hi : i < n) (hn : n ≤ items.size + 1) (hz : items.size ≤ sizeLine)
    (h : ∀ (h' : Heap) (tk : Nat), (∀ b o, s.heap.get? b = some o → h'.get? b = some o) → Q (items.toList.take i ++ [.ref h'.objs.size] ++ (items.toList.drop i).drop (items.size + 1 - n)) { s with heap := h'.push { cls := .type "list", data := .seq ((items.toList.drop i).take (items.size + 1 - n)).toArray }, toks := tk }) :
    wpAny (model prog w) A (unpackItems (.ref l) n (some i)) Q E s := by
  have hlt : l ≠ s.heap.objs.size := by obtain ⟨o, ho, _⟩ := hl; exact Nat.ne_of_lt (Heap.lt_size ho)
  unfold unpackItems
  refine wpAny_bind ?_
  unfold notIterableAtAll
  refine wpAny_bind (wpAny_specialOf hl.typeIs slot_list_iter.lookup ?_)
  refine wpAny_pure ?_
  simp only [Bool.false_eq_true, if_false]
  refine wpAny_bind (wpAny_holding (wpAny_pyIter_list hl ?_))
  refine wpAny_bind (wpAny_holding (PySem.W.kun_draw hlt i 0 _ _ ⟨_, Heap.get?_push_size _ rfl, rfl, rfl⟩ (hl.push _) (by omega) fun h₁ hit₁ hs₁ => ?_))
  have hl₁ : h₁.IsList l items := (hl.push _).extBut hs₁.extBut hlt
  rw [Nat.zero_add] at hit₁
  have hit₁' := hit₁
  obtain ⟨oi, hoi, _⟩ := hit₁'
  have hl₁' := hl₁
  obtain ⟨ol, hol, _⟩ := hl₁'
  rw [List.drop_zero]
  have hfl : (items.toList.take i).length = i := by rw [List.length_take, Array.length_toList]; omega
  rw [if_neg (show ¬ ((items.toList.take i).length < i) by rw [hfl]; omega)]
  refine wpAny_bind (wpAny_holding (PySem.W.kun_collect (s := { s with heap := h₁ }) (T := "list_iterator") (.inr (.inr (.inl rfl))) (Walks.list (A := A.in1) hh s.heap.objs.size l hlt items) (fun j u st => st.1.typeIs) (k := i) (by omega) ⟨hit₁, hl₁⟩ (Heap.lt_size hoi) (Heap.lt_size hol) (fun h₂ tk hk => ?_) hz))
  have hrl : (items.toList.drop i).length = items.size - i := by rw [List.length_drop, Array.length_toList]
  have hmid : (items.toList.drop i).length - (n - 1 - i) = items.size + 1 - n := by rw [hrl]; omega
  show wpAny _ _ (if (items.toList.drop i).length < n - 1 - i then _ else _) _ _ _
  rw [if_neg (by rw [hrl]; omega)]
  show wpAny _ _ (newList ((items.toList.drop i).take ((items.toList.drop i).length - (n - 1 - i))) >>= fun d => pure (items.toList.take i ++ [d] ++ (items.toList.drop i).drop ((items.toList.drop i).length - (n - 1 - i)))) _ _ _
  rw [hmid]
  have he : ∀ b o, s.heap.get? b = some o → h₂.get? b = some o := fun b o e => hk b o (Nat.ne_of_lt (Heap.lt_size e)) (hs₁.extBut b o (Nat.ne_of_lt (Heap.lt_size e)) (Heap.get?_push_of_some _ e))
  refine wpAny_bind (wpAny_newObj_type (wpAny_pure (h h₂ tk he)) ?_)
  show (((items.toList.drop i).take (items.size + 1 - n)).toArray).size ≤ sizeLine
  rw [List.size_toArray, List.length_take, hrl]
  omega
end
variable {X : Cx} {C : Ir.Calls}
/-- (a, .., *r, .., z) = a tuple or a list -/
def gStar (K : PySem.W.Frag) (n i : Nat) (t : TGs) : TG := fun v σ H Q => ∃ a xs, v = .ref a ∧ (SqT K H a xs ∨ SqL K H a xs) ∧ n ≤ xs.length + 1 ∧ ∀ p, H p = none → t (xs.take i ++ [.ref p] ++ (xs.drop i).drop (xs.length + 1 - n)) σ (upd H p (.lst ((xs.drop i).take (xs.length + 1 - n)))) Q
theorem pg_star {es : List Expr} {k : Nat} {t : TGs} {n i : Nat} {pos : Pos} (hc : X.calm = true) (h : PGs X es t) (hi : i < n) (hn : (assignEach es X.env).length = n := by rfl) (hst : (assignEach es X.env).findIdx? (·.1) = some i := by rfl) : PG X (.Tuple es k pos) (gStar X.K n i t) := by
  refine ⟨fun pins s σ H v u Q I r hw => ?_⟩
  obtain ⟨a, xs, e1, hq, hl, hw⟩ := hw
  subst e1
  cases r
  rw [assign_Tuple]
  refine wpAny_bind (wpAny_standAt ?_)
  unfold unpack
  rw [hn, hst]
  have core : ∀ its : List Value, Vals xs its → xs.length ≤ sizeLine → ∀ (h' : Heap) (tk : Nat), (∀ b o, s.heap.get? b = some o → h'.get? b = some o) →
      wpAny (model X.prog X.w) X.A (assignInOrder ((assignEach es X.env).map (·.2)) (its.toArray.toList.take i ++ [.ref h'.objs.size] ++ (its.toArray.toList.drop i).drop (its.toArray.size + 1 - n))) (fun _ s' => ∃ σ' H', Inv X pins σ' H' s' ∧ Q σ' H') X.xe
        { s with heap := h'.push { cls := .type "list", data := .seq ((its.toArray.toList.drop i).take (its.toArray.size + 1 - n)).toArray }, toks := tk } := fun its rv hz h' tk hk => by
    have I1 : Inv X pins σ H { s with heap := h', toks := tk } := I.kept (t' := tk) hk
    have hf : H h'.objs.size = none := I1.hok.fresh (Nat.le_refl _)
    have el : its.toArray.size = xs.length := by rw [List.size_toArray]; exact rv.length.symm
    have rm : Vals ((xs.drop i).take (xs.length + 1 - n)) ((its.toArray.toList.drop i).take (its.toArray.size + 1 - n)) := by
      rw [el]
      exact (Vals.drop i rv).take _
    have I2 : Inv X pins σ (upd H h'.objs.size (.lst ((xs.drop i).take (xs.length + 1 - n)))) { s with heap := h'.push { cls := .type "list", data := .seq ((its.toArray.toList.drop i).take (its.toArray.size + 1 - n)).toArray }, toks := tk } := by
      refine I1.laid (t' := tk) (fun b o e => Heap.get?_push_of_some _ e) (Nat.le_refl _) ⟨?_, _, 0, rm, Heap.get?_push_size _ rfl⟩
      rw [List.length_take, List.length_drop]
      omega
    refine h.run pins _ σ _ _ _ Q I2 ?_ (hw _ hf)
    refine Vals.append (Vals.append (Vals.take i rv) (.cons rfl .nil)) ?_
    rw [el]
    exact Vals.drop _ (Vals.drop i rv)
  rcases hq with hq | hq
  · obtain ⟨its, rv, ht, hz⟩ := I.tuple hq
    exact wpAny_bind (wpAny_holding (star_T ht (I.ok.hd hc) hi (by rw [List.size_toArray, ← rv.length]; omega) (by rw [List.size_toArray, ← rv.length]; exact hz) (core its rv hz)))
  · obtain ⟨its, rv, ht, hz⟩ := I.list hq
    exact wpAny_bind (wpAny_holding (star_L ht.isList (I.ok.hd hc) hi (by rw [List.size_toArray, ← rv.length]; omega) (by rw [List.size_toArray, ← rv.length]; exact hz) (core its rv hz)))
theorem pgs_star {e : Expr} {es : List Expr} {t : TG} {u : TGs} {p : Pos} (h1 : PG X e t) (h2 : PGs X es u)
    (hs : (assignEach (.Starred e p :: es) X.env).map (·.2) = assign e X.env :: (assignEach es X.env).map (·.2) := by rfl) : PGs X (.Starred e p :: es) (gCons t u) := by
  refine ⟨fun pins s σ H vs us Q I r h => ?_⟩
  obtain ⟨v, vr, e1, h⟩ := h
  subst e1
  cases r with
  | cons r rr =>
    rw [hs]
    refine assignInOrder_cons (thn (h1.run pins s σ H _ _ _ I r h) fun _ s1 ⟨σ1, H1, I1, q1⟩ => ?_)
    exact h2.run pins s1 σ1 H1 _ _ Q I1 rr q1
theorem pg_imp {e : Expr} {t t' : TG} (h : PG X e t) (w : ∀ v σ H Q, t' v σ H Q → t v σ H Q) : PG X e t' := ⟨fun pins s σ H v u Q I r q => h.run pins s σ H v u Q I r (w v σ H Q q)⟩
theorem pgs_imp {e : List Expr} {t t' : TGs} (h : PGs X e t) (w : ∀ v σ H Q, t' v σ H Q → t v σ H Q) : PGs X e t' := ⟨fun pins s σ H v u Q I r q => h.run pins s σ H v u Q I r (w v σ H Q q)⟩
theorem wipe_same {σ : L2.St} {i : Nat} {v : V} : ∀ {vs : List Nat}, i ∈ vs → L2.wipe (σ.set i (some v)) vs = L2.wipe σ vs
  | j :: vs, h => by
    simp only [L2.wipe]
    by_cases e : i ∈ vs
    · rw [wipe_same e]
    · have hj : i = j := by
        rcases List.mem_cons.mp h with q | q
        · exact q
        · exact absurd q e
      subst hj
      have : ∀ vs : List Nat, i ∉ vs → L2.wipe (σ.set i (some v)) vs = (L2.wipe σ vs).set i (some v) := by
        intro vs
        induction vs with
        | nil => intro _; rfl
        | cons j vs ih =>
          intro hn
          simp only [L2.wipe]
          rw [ih (fun q => hn (List.mem_cons_of_mem _ q)), List.set_comm _ _ (fun q => hn (by rw [q]; exact List.mem_cons_self))]
      rw [this vs e, List.set_set]
/-- nothing but these slots is changed -/
def OnlyS (is : List Nat) (σ σ' : L2.St) : Prop := ∀ vs : List Nat, (∀ i ∈ is, i ∈ vs) → L2.wipe σ' vs = L2.wipe σ vs
theorem OnlyS.one (i : Nat) (σ : L2.St) (v : V) : OnlyS [i] σ (σ.set i (some v)) := fun vs h => wipe_same (h i (by simp))
theorem OnlyS.trans {is js : List Nat} {σ σ1 σ2 : L2.St} (a : OnlyS is σ σ1) (b : OnlyS js σ1 σ2) : OnlyS (is ++ js) σ σ2 := fun vs h => (b vs fun i q => h i (List.mem_append_right _ q)).trans (a vs fun i q => h i (List.mem_append_left _ q))
theorem OnlyS.fold : ∀ (is : List Nat) (vs : List V) (σ : L2.St), OnlyS is σ ((is.zip vs).foldl (fun s p => s.set p.1 (some p.2)) σ)
  | [], _, σ => fun _ _ => rfl
  | _ :: _, [], σ => fun _ _ => rfl
  | i :: is, v :: vs, σ => OnlyS.trans (is := [i]) (OnlyS.one i σ v) (OnlyS.fold is vs _)
def tG (K : PySem.W.Frag) (t : Ir.Tg) : TG := fun v σ H Q => ∃ ρ env st x env', RS ρ K st H ∧ REnv ρ K H env σ ∧ RD ρ K H x v ∧ t.put x env = some env' ∧ ∀ ρ' H' σ', Ext ρ H ρ' H' → RS ρ' K st H' → REnv ρ' K H' env' σ' → OnlyS t.slots σ σ' → Q σ' H'
def tGs (K : PySem.W.Frag) (ts : List Ir.Tg) : TGs := fun vs σ H Q => ∃ ρ env st xs env', RS ρ K st H ∧ REnv ρ K H env σ ∧ RDs ρ K H xs vs ∧ Ir.Tg.puts ts xs env = some env' ∧ ∀ ρ' H' σ', Ext ρ H ρ' H' → RS ρ' K st H' → REnv ρ' K H' env' σ' → OnlyS (Ir.Tg.slotss ts) σ σ' → Q σ' H'
abbrev SG (X : Cx) (e : Expr) (t : Ir.Tg) : Prop := PG X e (tG X.K t)
abbrev SGs (X : Cx) (e : List Expr) (t : List Ir.Tg) : Prop := PGs X e (tGs X.K t)
theorem sg_name (i : Nat) {x : Str} {pos : Pos} (hN : X.N.Nodup) (hx : Loc X.env.scope x := by first | exact .inl rfl | exact .inr rfl) (hi : X.N[i]? = some x := by rfl) (hf : X.fn x = true ∨ X.env.scope.names.lookup x = some .local := by first | exact .inl rfl | exact .inr rfl | assumption) : SG X (.Name x pos) (.name i) :=
  pg_imp (pg_name hN hi hx hf) fun v σ H Q ⟨ρ, env, st, x, env', rs, re, rx, hp, k⟩ => by
    simp only [Ir.Tg.put, Option.some.injEq] at hp
    subst hp
    exact k ρ H _ (.refl _ _) rs (re.set (v := .d x) rx i) (by simp only [Ir.Tg.slots]; exact OnlyS.one i σ v)
theorem sgs_nil : SGs X [] [] := pgs_imp pgs_nil fun v σ H Q ⟨ρ, env, st, xs, env', rs, re, rx, hp, k⟩ => by
  cases rx with
  | nil =>
    simp only [Ir.Tg.puts, Option.some.injEq] at hp
    subst hp
    exact ⟨rfl, k ρ H _ (.refl _ _) rs re fun _ _ => rfl⟩
  | cons _ _ => simp [Ir.Tg.puts] at hp
theorem sgs_cons {e : Expr} {es : List Expr} {t : Ir.Tg} {ts : List Ir.Tg} (h1 : SG X e t) (h2 : SGs X es ts) (hs : (assignEach (e :: es) X.env).map (·.2) = assign e X.env :: (assignEach es X.env).map (·.2) := by rfl) : SGs X (e :: es) (t :: ts) :=
  pgs_imp (pgs_cons h1 h2 hs) fun v σ H Q ⟨ρ, env, st, xs, env', rs, re, rx, hp, k⟩ => by
    cases rx with
    | nil => simp [Ir.Tg.puts] at hp
    | cons rx rr =>
      simp only [Ir.Tg.puts, Option.bind_eq_some_iff] at hp
      obtain ⟨env1, hp1, hp2⟩ := hp
      exact ⟨_, _, rfl, ρ, env, st, _, env1, rs, re, rx, hp1, fun ρ1 H1 σ1 x1 rs1 re1 o1 => ⟨ρ1, env1, st, _, env', rs1, re1, rr.mono x1, hp2, fun ρ2 H2 σ2 x2 rs2 re2 o2 => k ρ2 H2 σ2 (x1.trans x2) rs2 re2 (by simp only [Ir.Tg.slotss]; exact o1.trans o2)⟩⟩
/-- (a, b, ..) = a list of that length -/
def gLst (K : PySem.W.Frag) (n : Nat) (t : TGs) : TG := fun v σ H Q => ∃ a xs, v = .ref a ∧ SqL K H a xs ∧ xs.length = n ∧ t xs σ H Q
theorem pg_lst {es : List Expr} {k : Nat} {pos : Pos} {t : TGs} {n : Nat} (hc : X.calm = true) (h : PGs X es t)
    (hn : (assignEach es X.env).length = n := by rfl) (hst : (assignEach es X.env).findIdx? (·.1) = none := by rfl) : PG X (.Tuple es k pos) (gLst X.K n t) := by
  refine ⟨fun pins s σ H v u Q I r hw => ?_⟩
  obtain ⟨a, xs, e1, hq, hl, hw⟩ := hw
  subst e1
  cases r
  obtain ⟨its, rv, ht, hz⟩ := I.list hq
  rw [assign_Tuple]
  refine wpAny_bind (wpAny_standAt ?_)
  unfold unpack
  rw [hn, hst]
  have hs : n = its.toArray.size := by simp [← hl, rv.length]
  rw [hs]
  refine wpAny_bind (wpAny_holding (unpackItems_list (I.ok.hd hc) ht.isList fun h' hx => ?_))
  have I1 : Inv X pins σ H { s with heap := h' } := I.kept (t' := s.toks) fun b o e => hx b o (Nat.ne_of_lt (Heap.lt_size e)) e
  exact h.run pins _ σ H xs _ Q I1 (by simpa using rv) hw
theorem pg_or {e : Expr} {t u : TG} (h1 : PG X e t) (h2 : PG X e u) : PG X e (fun v σ H Q => t v σ H Q ∨ u v σ H Q) :=
  ⟨fun pins s σ H v w Q I r h => h.elim (h1.run pins s σ H v w Q I r) (h2.run pins s σ H v w Q I r)⟩
theorem sg_tup {es : List Expr} {ts : List Ir.Tg} {k : Nat} {pos : Pos} (hc : X.calm = true) (h : SGs X es ts) (hl : ∀ xs env env', Ir.Tg.puts ts xs env = some env' → xs.length = ts.length) (hn : (assignEach es X.env).length = ts.length := by rfl) (hst : (assignEach es X.env).findIdx? (·.1) = none := by rfl) : SG X (.Tuple es k pos) (.tup ts) :=
  pg_imp (pg_or (pg_tup hc h hn hst) (pg_lst hc h hn hst)) fun v σ H Q ⟨ρ, env, st, x, env', rs, re, rx, hp, k⟩ => by
    cases x <;> simp only [Ir.Tg.put, reduceCtorEq] at hp
    · rename_i xs
      obtain ⟨a, ys, rfl, t, z, r⟩ := RD.tup_inv rx
      exact .inl ⟨a, ys, rfl, t.sq, by rw [← r.length]; exact hl _ _ _ hp, ρ, env, st, xs, env', rs, re, r, hp, by simpa only [Ir.Tg.slots] using k⟩
    · rename_i xs
      cases rx with
      | lst g1 g2 g3 g4 => exact .inr ⟨_, _, rfl, SqL.of g1, by rw [← g4.length]; exact hl _ _ _ hp, ρ, env, st, xs, env', rs, re, g4, hp, by simpa only [Ir.Tg.slots] using k⟩
theorem puts_len : ∀ (ts : List Ir.Tg) (xs : List Ir.D) (env env' : Ir.Env), Ir.Tg.puts ts xs env = some env' → xs.length = ts.length
  | [], [], _, _, _ => rfl
  | [], _ :: _, _, _, h => by simp [Ir.Tg.puts] at h
  | _ :: _, [], _, _, h => by simp [Ir.Tg.puts] at h
  | t :: ts, x :: xs, env, env', h => by
    simp only [Ir.Tg.puts, Option.bind_eq_some_iff] at h
    obtain ⟨e1, _, h2⟩ := h
    simp [puts_len ts xs e1 env' h2]
/-- names in a row -/
def gNames (is : List Nat) : TGs := fun vs σ H Q => vs.length = is.length ∧ Q ((is.zip vs).foldl (fun s p => s.set p.1 (some p.2)) σ) H
abbrev SNs (X : Cx) (es : List Expr) (is : List Nat) : Prop := PGs X es (gNames is)
theorem sns_nil : SNs X [] [] := pgs_imp pgs_nil fun v σ H Q ⟨h, q⟩ => by
  cases v with
  | nil => exact ⟨rfl, q⟩
  | cons _ _ => simp at h
theorem sns_cons (i : Nat) {x : Str} {pos : Pos} {es : List Expr} {is : List Nat} (hN : X.N.Nodup) (h : SNs X es is) (hx : Loc X.env.scope x := by first | exact .inl rfl | exact .inr rfl) (hi : X.N[i]? = some x := by rfl) (hf : X.fn x = true ∨ X.env.scope.names.lookup x = some .local := by first | exact .inl rfl | exact .inr rfl | assumption) (hs : (assignEach (.Name x pos :: es) X.env).map (·.2) = assign (.Name x pos) X.env :: (assignEach es X.env).map (·.2) := by rfl) : SNs X (.Name x pos :: es) (i :: is) :=
  pgs_imp (pgs_cons (pg_name hN hi hx hf) h hs) fun v σ H Q ⟨hl, q⟩ => by
    cases v with
    | nil => simp at hl
    | cons v vs => exact ⟨v, vs, rfl, by simpa using hl, q⟩
theorem sns_star (i : Nat) {x : Str} {pos p : Pos} {es : List Expr} {is : List Nat} (hN : X.N.Nodup) (h : SNs X es is) (hx : Loc X.env.scope x := by first | exact .inl rfl | exact .inr rfl) (hi : X.N[i]? = some x := by rfl) (hf : X.fn x = true ∨ X.env.scope.names.lookup x = some .local := by first | exact .inl rfl | exact .inr rfl | assumption) (hs : (assignEach (.Starred (.Name x pos) p :: es) X.env).map (·.2) = assign (.Name x pos) X.env :: (assignEach es X.env).map (·.2) := by rfl) : SNs X (.Starred (.Name x pos) p :: es) (i :: is) :=
  pgs_imp (pgs_star (pg_name hN hi hx hf) h hs) fun v σ H Q ⟨hl, q⟩ => by
    cases v with
    | nil => simp at hl
    | cons v vs => exact ⟨v, vs, rfl, by simpa using hl, q⟩
theorem setAll_ok {ρ : Rho} {K : PySem.W.Frag} {H : Hp} : ∀ {is : List Nat} {xs : List Ir.D} {vs : List V} {env env' : Ir.Env} {σ : L2.St}, RDs ρ K H xs vs → REnv ρ K H env σ → Ir.setAll is xs env = some env' → vs.length = is.length ∧ REnv ρ K H env' ((is.zip vs).foldl (fun s p => s.set p.1 (some p.2)) σ)
  | [], [], _, _, _, _, .nil, re, h => by simp only [Ir.setAll, Option.some.injEq] at h; subst h; exact ⟨rfl, re⟩
  | [], _ :: _, _, _, _, _, _, _, h => by simp [Ir.setAll] at h
  | _ :: _, [], _, _, _, _, _, _, h => by simp [Ir.setAll] at h
  | i :: is, x :: xs, _ :: vs, env, env', σ, .cons a r, re, h => by
    simp only [Ir.setAll] at h
    obtain ⟨h1, h2⟩ := setAll_ok r (re.set (v := .d x) a i) h
    exact ⟨by simp [h1], h2⟩
theorem foldl_zip_append (as bs : List Nat) (xs ys : List V) (σ : L2.St) (h : as.length = xs.length) : ((as ++ bs).zip (xs ++ ys)).foldl (fun (s : L2.St) p => s.set p.1 (some p.2)) σ = (bs.zip ys).foldl (fun s p => s.set p.1 (some p.2)) ((as.zip xs).foldl (fun s p => s.set p.1 (some p.2)) σ) := by
  rw [List.zip_append h, List.foldl_append]
/-- the same where the data may be a list of the arena -/
def tGV (K : PySem.W.Frag) (t : Ir.Tg) : TG := fun v σ H Q => ∃ ρ env st x env', RS ρ K st H ∧ REnv ρ K H env σ ∧ VD ρ K H x v ∧ t.put x env = some env' ∧ ∀ ρ' H' σ', Ext ρ H ρ' H' → RS ρ' K st H' → REnv ρ' K H' env' σ' → OnlyS t.slots σ σ' → Q σ' H'
theorem sg_starV {es : List Expr} {pre post : List Nat} {j : Nat} {k : Nat} {pos : Pos} (hc : X.calm = true) (h : SNs X es (pre ++ j :: post)) (hn : (assignEach es X.env).length = pre.length + 1 + post.length := by rfl) (hst : (assignEach es X.env).findIdx? (·.1) = some pre.length := by rfl) : PG X (.Tuple es k pos) (tGV X.K (.star pre j post)) :=
  pg_imp (pg_star hc h (by omega) hn hst) fun v σ H Q ⟨ρ, env, st, x, env', rs, re, rx, hp, k⟩ => by
    simp only [Ir.Tg.put] at hp
    cases hx : x.seq with
    | none => rw [hx] at hp; cases hp
    | some xs =>
      rw [hx] at hp
      simp only at hp
      split at hp
      · cases hp
      · rename_i hlen
        cases hs : Ir.setAll pre (xs.take pre.length) env with
        | none => rw [hs] at hp; cases hp
        | some env1 =>
          rw [hs] at hp
          simp only at hp
          have main : ∀ a ys, v = .ref a → (SqT X.K H a ys ∨ SqL X.K H a ys) → ys.length ≤ sizeLine → RDs ρ X.K H xs ys → gStar X.K (pre.length + 1 + post.length) pre.length (gNames (pre ++ j :: post)) v σ H Q := fun a ys hv hq hz r => by
            have hl := r.length
            refine ⟨a, ys, hv, hq, by omega, fun p hp0 => ?_⟩
            have x1 : Ext ρ H ρ (upd H p (.lst ((ys.drop pre.length).take (ys.length + 1 - (pre.length + 1 + post.length))))) := .grow rs hp0 _
            have rs1 := rs.grow hp0 (.lst ((ys.drop pre.length).take (ys.length + 1 - (pre.length + 1 + post.length))))
            have c1 : ys.length + 1 - (pre.length + 1 + post.length) = xs.length - pre.length - post.length := by omega
            have rm : RDs ρ X.K H ((xs.drop pre.length).take (xs.length - pre.length - post.length)) ((ys.drop pre.length).take (ys.length + 1 - (pre.length + 1 + post.length))) := by
              rw [c1]; exact (r.drop _).take _
            have rD := grow_lst rs rm (by rw [List.length_take, List.length_drop]; omega) hp0
            obtain ⟨g1, g2⟩ := setAll_ok ((r.take pre.length).mono x1) (re.mono x1) hs
            have ed : xs.drop (xs.length - post.length) = (xs.drop pre.length).drop (xs.length - pre.length - post.length) := by
              rw [List.drop_drop]; congr 1; omega
            have rl : RDs ρ X.K H (xs.drop (xs.length - post.length)) ((ys.drop pre.length).drop (ys.length + 1 - (pre.length + 1 + post.length))) := by
              rw [ed, c1]; exact (r.drop _).drop _
            obtain ⟨g3, g4⟩ := setAll_ok (rl.mono x1) (g2.set (v := .d (.lst _)) rD j) hp
            refine ⟨?_, ?_⟩
            · simp only [List.length_append, List.length_cons, List.length_nil, g3, g1]; omega
            · have := k ρ _ _ x1 rs1 g4 (by
                simp only [Ir.Tg.slots]
                have q := OnlyS.fold (pre ++ j :: post) (ys.take pre.length ++ (V.ref p :: (ys.drop pre.length).drop (ys.length + 1 - (pre.length + 1 + post.length)))) σ
                rw [foldl_zip_append _ _ _ _ _ g1.symm] at q
                exact q)
              have e2 : ys.take pre.length ++ [V.ref p] ++ (ys.drop pre.length).drop (ys.length + 1 - (pre.length + 1 + post.length)) = ys.take pre.length ++ (V.ref p :: (ys.drop pre.length).drop (ys.length + 1 - (pre.length + 1 + post.length))) := by simp
              rw [e2, foldl_zip_append _ _ _ _ _ g1.symm]
              exact this
          cases x <;> simp only [Ir.D.seq, reduceCtorEq, Option.some.injEq] at hx
          · subst hx
            obtain ⟨a, ys, rfl, t, z, r⟩ := RD.tup_inv rx
            exact main a ys rfl (.inl t.sq) z r
          · subst hx
            obtain ⟨a, ys, rfl, t, z, r⟩ := rx
            exact main a ys rfl (.inr (SqL.of t)) z r
theorem sg_star {es : List Expr} {pre post : List Nat} {j : Nat} {k : Nat} {pos : Pos} (hc : X.calm = true) (h : SNs X es (pre ++ j :: post)) (hn : (assignEach es X.env).length = pre.length + 1 + post.length := by rfl) (hst : (assignEach es X.env).findIdx? (·.1) = some pre.length := by rfl) : SG X (.Tuple es k pos) (.star pre j post) :=
  pg_imp (sg_starV hc h hn hst) fun v σ H Q ⟨ρ, env, st, x, env', rs, re, rx, hp, k⟩ => ⟨ρ, env, st, x, env', rs, re, VD.of rx, hp, k⟩
end Snd

set_option maxHeartbeats 1000000
namespace Snd
open PySem PySem.Spec PyProof.Rows L2
/-! zip of a list and a tuple: by what each of the two iterators does -/
/-- an iterator `it` over what stands at `l`: `P k h` tells that it is at place k -/
structure ItStep (prog : Program) (w : World) (it l : Addr) (P : Nat → Heap → Prop) (xs : Array Value) : Prop where
  next : ∀ {B : Around} {F : Value → Shared → Prop} {t : Shared} {k : Nat} {x : Value} {R : Value → Shared → Prop}, P k t.heap → xs[k]? = some x → (∀ g, P (k + 1) g → Heap.SameBut it t.heap g → R x { t with heap := g }) → wpAny (model prog w) B (Builtin.SmallTypes.nextOf (.ref it)) R F t
  over : ∀ {B : Around} {F : Value → Shared → Prop} {t : Shared} {k : Nat} {R : Value → Shared → Prop}, B.handled = none → P k t.heap → xs[k]? = none → (∀ g e, Heap.ExtBut it t.heap g → (∃ o, g.get? e = some o ∧ o.cls = .type "StopIteration") → F (.ref e) { t with heap := g }) → wpAny (model prog w) B (Builtin.SmallTypes.nextOf (.ref it)) R F t
  stay : ∀ {k : Nat} {g g' : Heap}, P k g → (∀ o, g.get? it = some o → g'.get? it = some o) → (∀ o, g.get? l = some o → g'.get? l = some o) → P k g'
theorem itr_list {prog : Program} {w : World} {it l : Addr} {xs : Array Value} (ne : l ≠ it) : ItStep prog w it l (fun k h => h.IsListIter it l k ∧ h.IsList l xs) xs where
  next := fun hp hx hR => wpAny_nextOf_list_item hp.1 hp.2 hx fun g h1 h2 => hR g ⟨h1, hp.2.extBut h2.extBut ne⟩ h2
  over := fun hh hp hx hF => wpAny_nextOf_list_end hh hp.1 hp.2 hx hF
  stay := fun hp h1 h2 => ⟨hp.1.at h1, hp.2.at h2⟩
theorem itr_tuple {prog : Program} {w : World} {it l : Addr} {xs : Array Value} (ne : l ≠ it) : ItStep prog w it l (fun k h => h.IsTupleIter it l k ∧ h.IsTuple l xs) xs where
  next := fun hp hx hR => RZ.nextOf_tuple_item hp.1 hp.2 hx fun g h1 h2 => hR g ⟨h1, hp.2.extBut h2.extBut ne⟩ h2
  over := fun hh hp hx hF => RZ.nextOf_tuple_end hh hp.1 hp.2 hx hF
  stay := fun hp h1 h2 => ⟨hp.1.at h1, hp.2.at h2⟩
section
variable {prog : Program} {w : World} {A : Around} {E : Value → Shared → Prop} {s : Shared}
variable {z TI TO i1 i2 l1 l2 : Addr} {P1 P2 : Nat → Heap → Prop} {xs ys : Array Value} {a b : Value}
/-- a zip at rest, its iterators at place k -/
structure ZpAt (h : Heap) (z TI TO i1 i2 : Addr) (P1 P2 : Nat → Heap → Prop) (a b : Value) (k : Nat) : Prop where
  zz : IsZip h z TI TO .none
  ti : IsPair h TI (.ref i1) (.ref i2)
  to : IsPair h TO a b
  p1 : P1 k h
  p2 : P2 k h
theorem zm_item (S1 : ItStep prog w i1 l1 P1 xs) (S2 : ItStep prog w i2 l2 P2 ys) (D : ZipApart z TI TO i1 i2 l1 l2) {k : Nat} {x y : Value} (Z : ZpAt s.heap z TI TO i1 i2 P1 P2 a b k) (hx : xs[k]? = some x) (hy : ys[k]? = some y) {R : Value → Shared → Prop}
    (hR : ∀ g, IsZip g z TI TO (rawInt s.heap.objs.size) → IsPair g TO x y → P1 (k + 1) g → P2 (k + 1) g → IsPair g s.heap.objs.size x y → g.objs.size = s.heap.objs.size + 1 → (∀ c o, c ≠ z → c ≠ TO → c ≠ i1 → c ≠ i2 → s.heap.get? c = some o → g.get? c = some o) → R (.ref s.heap.objs.size) { s with heap := g }) :
    wpAny (model prog w) A (Builtin.«zip.__next__» ⟨[.ref z], []⟩) (fun u t => ∃ v, u = .done (.ret v) ∧ R v t) E s := by
  have hz := Z.zz; have hi := Z.ti; have ho := Z.to
  show wpAny _ _ (field (.ref z) 2 >>= _) _ _ _; refine wpAny_bind (wpAny_field hz rfl (x := .bool false) rfl ?_)
  show wpAny _ _ (field (.ref z) 3 >>= _) _ _ _; refine wpAny_bind (wpAny_field hz rfl (x := .ref TI) rfl (wpAny_bind (wpAny_seqItems hi rfl ?_)))
  show wpAny _ _ (Builtin.SmallTypes.ownedTupleIsFree (.ref z) >>= _) _ _ _; refine wpAny_bind ?_
  unfold Builtin.SmallTypes.ownedTupleIsFree; refine wpAny_bind (wpAny_field hz rfl (x := .none) rfl (wpAny_pure ?_))
  simp only [if_true]; refine wpAny_bind (wpAny_rule (wpAny_bind (wpAny_field hz rfl (x := .ref TO) rfl ?_)))
  refine wpAny_bind (wpAny_setField_rec hz (by simp) fun g1 z1 w1 => ?_); replace z1 : IsZip g1 z TI TO .ellipsis := z1
  refine wpAny_bind ?_; simp only [List.zipIdx_cons, List.zipIdx_nil, List.forIn_cons, List.forIn_nil]
  refine wpAny_bind (wpAny_bind (wpAny_onRaise ?_)); show wpAny _ _ (Builtin.SmallTypes.nextOf (.ref i1) >>= _) _ _ _
  refine wpAny_bind (S1.next (S1.stay Z.p1 (fun o q => w1.extBut _ _ D.i1z q) (fun o q => w1.extBut _ _ D.l1z q)) hx fun g2 p12 w2 => wpAny_pure ?_)
  have o2 : IsPair g2 TO a b := w2.extBut _ _ D.TOi1 (w1.extBut _ _ D.TOz ho)
  refine wpAny_bind (wpAny_seqItems o2 rfl (wpAny_bind (wpAny_updateSeq_pair o2 fun g3 o3 w3 => ?_))); replace o3 : IsPair g3 TO x b := o3
  refine wpAny_bind (wpAny_letGo (wpAny_pure ?_)); refine wpAny_bind (wpAny_bind (wpAny_onRaise ?_))
  show wpAny _ _ (Builtin.SmallTypes.nextOf (.ref i2) >>= _) _ _ _; refine wpAny_bind (S2.next (S2.stay Z.p2 (fun o q => w3.extBut _ _ D.TOi2.symm (w2.extBut _ _ D.i12.symm (w1.extBut _ _ D.i2z q))) (fun o q => w3.extBut _ _ D.l2TO (w2.extBut _ _ D.l2i1 (w1.extBut _ _ D.l2z q)))) hy fun g4 p24 w4 => wpAny_pure ?_)
  have o4 : IsPair g4 TO x b := w4.extBut _ _ D.TOi2 o3
  refine wpAny_bind (wpAny_seqItems o4 rfl (wpAny_bind (wpAny_updateSeq_pair o4 fun g5 o5 w5 => ?_))); replace o5 : IsPair g5 TO x y := o5
  refine wpAny_bind (wpAny_letGo (wpAny_pure (wpAny_pure (wpAny_bind (wpAny_seqItems o5 rfl (wpAny_bind (wpAny_newTuple ?_)))))))
  have sz : g5.objs.size = s.heap.objs.size := by rw [w5.1, w4.1, w3.1, w2.1, w1.1]
  have z5 : IsZip g5 z TI TO .ellipsis := w5.extBut _ _ D.TOz.symm (w4.extBut _ _ D.i2z.symm (w3.extBut _ _ D.TOz.symm (w2.extBut _ _ D.i1z.symm z1)))
  have k5 : ∀ c o, c ≠ z → c ≠ TO → c ≠ i1 → c ≠ i2 → s.heap.get? c = some o → g5.get? c = some o := fun c o n1 n2 n3 n4 q => w5.extBut _ _ n2 (w4.extBut _ _ n4 (w3.extBut _ _ n2 (w2.extBut _ _ n3 (w1.extBut _ _ n1 q))))
  have p15 : P1 (k + 1) g5 := S1.stay p12 (fun o q => w5.extBut _ _ D.TOi1.symm (w4.extBut _ _ D.i12 (w3.extBut _ _ D.TOi1.symm q))) (fun o q => w5.extBut _ _ D.l1TO (w4.extBut _ _ D.l1i2 (w3.extBut _ _ D.l1TO q)))
  have p25 : P2 (k + 1) g5 := S2.stay p24 (fun o q => w5.extBut _ _ D.TOi2.symm q) (fun o q => w5.extBut _ _ D.l2TO q)
  have zl : z < g5.objs.size := Heap.lt_size z5
  show wpAny _ _ (Builtin.SmallTypes.ownedTupleHandOut (.ref z) (.ref g5.objs.size) >>= _) _ _ _; refine wpAny_bind ?_
  unfold Builtin.SmallTypes.ownedTupleHandOut
  have z6 : IsZip (g5.push { cls := .type "tuple", data := .seq #[x, y] }) z TI TO .ellipsis := Heap.get?_push_of_some _ z5
  refine wpAny_bind (wpAny_setField_rec z6 (by simp) fun g7 z7 w7 => ?_); replace z7 : IsZip g7 z TI TO (rawInt g5.objs.size) := z7
  refine wpAny_setField_rec z7 (by simp) fun g8 z8 w8 => ?_; replace z8 : IsZip g8 z TI TO (rawInt g5.objs.size) := z8
  have up : ∀ c o, c ≠ z → g5.get? c = some o → g8.get? c = some o := fun c o n q => w8.extBut _ _ n (w7.extBut _ _ n (Heap.get?_push_of_some _ q))
  have t8 : IsPair g8 g5.objs.size x y := w8.extBut _ _ (Nat.ne_of_gt zl) (w7.extBut _ _ (Nat.ne_of_gt zl) (Heap.get?_push_size _ rfl))
  have s8 : g8.objs.size = g5.objs.size + 1 := by rw [w8.1, w7.1, Heap.size_push]
  rw [sz] at z8 t8 s8; refine wpAny_pure ⟨_, rfl, ?_⟩
  show R (.ref g5.objs.size) _; rw [sz]
  exact hR g8 z8 (up _ _ D.TOz o5) (S1.stay p15 (fun o q => up _ o D.i1z q) (fun o q => up _ o D.l1z q)) (S2.stay p25 (fun o q => up _ o D.i2z q) (fun o q => up _ o D.l2z q)) t8 s8 fun c o n1 n2 n3 n4 q => up c o n1 (k5 c o n1 n2 n3 n4 q)
theorem zm_end (hh : A.handled = none) (S1 : ItStep prog w i1 l1 P1 xs) (S2 : ItStep prog w i2 l2 P2 ys) (D : ZipApart z TI TO i1 i2 l1 l2) {k : Nat} (Z : ZpAt s.heap z TI TO i1 i2 P1 P2 a b k) (hend : xs[k]? = none ∨ ys[k]? = none) {R : Fin → Shared → Prop}
    (hE : ∀ g e, (∀ c o, c ≠ z → c ≠ TO → c ≠ i1 → c ≠ i2 → s.heap.get? c = some o → g.get? c = some o) → (∃ o, g.get? e = some o ∧ o.cls = .type "StopIteration") → E (.ref e) { s with heap := g }) :
    wpAny (model prog w) A (Builtin.«zip.__next__» ⟨[.ref z], []⟩) R E s := by
  have hz := Z.zz; have hi := Z.ti; have ho := Z.to
  show wpAny _ _ (field (.ref z) 2 >>= _) _ _ _; refine wpAny_bind (wpAny_field hz rfl (x := .bool false) rfl ?_)
  show wpAny _ _ (field (.ref z) 3 >>= _) _ _ _; refine wpAny_bind (wpAny_field hz rfl (x := .ref TI) rfl (wpAny_bind (wpAny_seqItems hi rfl ?_)))
  show wpAny _ _ (Builtin.SmallTypes.ownedTupleIsFree (.ref z) >>= _) _ _ _; refine wpAny_bind ?_
  unfold Builtin.SmallTypes.ownedTupleIsFree; refine wpAny_bind (wpAny_field hz rfl (x := .none) rfl (wpAny_pure ?_))
  simp only [if_true]; refine wpAny_bind (wpAny_rule (wpAny_bind (wpAny_field hz rfl (x := .ref TO) rfl ?_)))
  refine wpAny_bind (wpAny_setField_rec hz (by simp) fun g1 z1 w1 => ?_); replace z1 : IsZip g1 z TI TO .ellipsis := z1
  refine wpAny_bind ?_; simp only [List.zipIdx_cons, List.zipIdx_nil, List.forIn_cons, List.forIn_nil]
  refine wpAny_bind (wpAny_bind (wpAny_onRaise ?_)); show wpAny _ _ (Builtin.SmallTypes.nextOf (.ref i1) >>= _) _ _ _
  cases hx : xs[k]? with
  | none =>
    refine wpAny_bind (S1.over hh (S1.stay Z.p1 (fun o q => w1.extBut _ _ D.i1z q) (fun o q => w1.extBut _ _ D.l1z q)) hx fun g2 e w2 he => ?_)
    obtain ⟨oe, q1, q2⟩ := he
    have z2 : IsZip g2 z TI TO .ellipsis := w2 _ _ D.i1z.symm z1
    have ez : e ≠ z := fun x => by subst x; rw [z2] at q1; cases q1; simp at q2
    refine wpAny_setField_rec z2 (by simp) fun g3 _ w3 => hE g3 e (fun c o n1 _ n3 _ q => w3.extBut _ _ n1 (w2 _ _ n3 (w1.extBut _ _ n1 q))) ⟨oe, w3.extBut _ _ ez q1, q2⟩
  | some x =>
    have hy : ys[k]? = none := hend.elim (fun q => by rw [hx] at q; cases q) id
    refine wpAny_bind (S1.next (S1.stay Z.p1 (fun o q => w1.extBut _ _ D.i1z q) (fun o q => w1.extBut _ _ D.l1z q)) hx fun g2 p12 w2 => wpAny_pure ?_)
    have o2 : IsPair g2 TO a b := w2.extBut _ _ D.TOi1 (w1.extBut _ _ D.TOz ho)
    refine wpAny_bind (wpAny_seqItems o2 rfl (wpAny_bind (wpAny_updateSeq_pair o2 fun g3 o3 w3 => ?_)))
    refine wpAny_bind (wpAny_letGo (wpAny_pure ?_)); refine wpAny_bind (wpAny_bind (wpAny_onRaise ?_))
    show wpAny _ _ (Builtin.SmallTypes.nextOf (.ref i2) >>= _) _ _ _; refine wpAny_bind (S2.over hh (S2.stay Z.p2 (fun o q => w3.extBut _ _ D.TOi2.symm (w2.extBut _ _ D.i12.symm (w1.extBut _ _ D.i2z q))) (fun o q => w3.extBut _ _ D.l2TO (w2.extBut _ _ D.l2i1 (w1.extBut _ _ D.l2z q)))) hy fun g4 e w4 he => ?_)
    obtain ⟨oe, q1, q2⟩ := he
    have z4 : IsZip g4 z TI TO .ellipsis := w4 _ _ D.i2z.symm (w3.extBut _ _ D.TOz.symm (w2.extBut _ _ D.i1z.symm z1))
    have ez : e ≠ z := fun x => by subst x; rw [z4] at q1; cases q1; simp at q2
    refine wpAny_setField_rec z4 (by simp) fun g5 _ w5 => hE g5 e (fun c o n1 n2 n3 n4 q => w5.extBut _ _ n1 (w4 _ _ n4 (w3.extBut _ _ n2 (w2.extBut _ _ n3 (w1.extBut _ _ n1 q))))) ⟨oe, w5.extBut _ _ ez q1, q2⟩
theorem zm_next (S1 : ItStep prog w i1 l1 P1 xs) (S2 : ItStep prog w i2 l2 P2 ys) (D : ZipApart z TI TO i1 i2 l1 l2) {k : Nat} {x y : Value} (Z : ZpAt s.heap z TI TO i1 i2 P1 P2 a b k) (hx : xs[k]? = some x) (hy : ys[k]? = some y) {R : Option Value → Shared → Prop}
    (hR : ∀ g, IsZip g z TI TO (rawInt s.heap.objs.size) → IsPair g TO x y → P1 (k + 1) g → P2 (k + 1) g → IsPair g s.heap.objs.size x y → g.objs.size = s.heap.objs.size + 1 → (∀ c o, c ≠ z → c ≠ TO → c ≠ i1 → c ≠ i2 → s.heap.get? c = some o → g.get? c = some o) → R (some (.ref s.heap.objs.size)) { s with heap := g }) :
    wpAny (model prog w) A (pyNext (.ref z)) R E s := by
  have hT : s.TypeIs (.ref z) "zip" := ⟨_, Z.zz, rfl⟩; unfold pyNext
  exact wpAny_bind (wpAny_attempt (wpAny_callSpecial?_slot (name := Str.ofString "__next__") hT F.slot_zip_next (wpAny_call_entry F.slot_zip_next hT F.entry_zip_next (zm_item S1 S2 D Z hx hy fun g b1 b2 b3 b4 b5 b6 b7 => wpAny_pure (hR g b1 b2 b3 b4 b5 b6 b7)) (F.args_zip_next_1 _))))
theorem zm_stop (hh : A.handled = none) (S1 : ItStep prog w i1 l1 P1 xs) (S2 : ItStep prog w i2 l2 P2 ys) (D : ZipApart z TI TO i1 i2 l1 l2) {k : Nat} (Z : ZpAt s.heap z TI TO i1 i2 P1 P2 a b k) (hend : xs[k]? = none ∨ ys[k]? = none) {R : Option Value → Shared → Prop}
    (hR : ∀ g, (∀ c o, c ≠ z → c ≠ TO → c ≠ i1 → c ≠ i2 → s.heap.get? c = some o → g.get? c = some o) → R none { s with heap := g }) : wpAny (model prog w) A (pyNext (.ref z)) R E s := by
  have hT : s.TypeIs (.ref z) "zip" := ⟨_, Z.zz, rfl⟩; unfold pyNext
  refine wpAny_bind (wpAny_attempt (wpAny_callSpecial?_slot (name := Str.ofString "__next__") hT F.slot_zip_next (wpAny_call_entry F.slot_zip_next hT F.entry_zip_next (zm_end (A := A.in1) (show A.in1.handled = none from hh) S1 S2 D Z hend fun g e hk he => ?_) (F.args_zip_next_1 _))))
  obtain ⟨o, ho, hc⟩ := he
  exact wpAny_bind (wpAny_isInstance (T := "StopIteration") (b := true) ⟨o, ho, hc⟩ isSubtype_stop (wpAny_pure (hR _ hk)))
end
end Snd

set_option maxHeartbeats 1000000
namespace Snd
open PySem PySem.Spec PyProof.Rows L2
/-- the five objects of a new zip over a list and a tuple -/
abbrev zmA (h : Heap) (l1 : Addr) : Heap := h.push { cls := .type "list_iterator", data := .fields #[.ref l1, .int 0 0] }
abbrev zmB (h : Heap) (l1 l2 : Addr) : Heap := (zmA h l1).push { cls := .type "tuple_iterator", data := .fields #[.ref l2, .int 0 0] }
abbrev zmC (h : Heap) (l1 l2 : Addr) : Heap := (zmB h l1 l2).push { cls := .type "tuple", data := .seq #[.ref h.objs.size, .ref (zmA h l1).objs.size] }
abbrev zmD (h : Heap) (l1 l2 : Addr) : Heap := (zmC h l1 l2).push { cls := .type "tuple", data := .seq #[.none, .none] }
abbrev zmE (h : Heap) (l1 l2 : Addr) : Heap := (zmD h l1 l2).push { cls := .type "zip", data := .fields #[.none, .bool false, .bool false, .ref (zmB h l1 l2).objs.size, .ref (zmC h l1 l2).objs.size] }
theorem zm_new (l1 l2 : Addr) (xs ys : Array Value) :
    Meets (Builtin.«zip.__new__» ⟨[.type "zip", .ref l1, .ref l2], []⟩) (fun _ R s => s.heap.IsList l1 xs ∧ s.heap.IsTuple l2 ys ∧ R (.ok (.ret (.ref (zmD s.heap l1 l2).objs.size))) { s with heap := zmE s.heap l1 l2 }) :=
  .of_wp fun prog w A R s h => by
    obtain ⟨hp, g, d, tk, os⟩ := s; obtain ⟨q1, q2, h⟩ := h; have hsub := sub_zip
    have hL1 : Heap.IsList (Shared.heap ⟨hp, g, d, tk, os⟩) l1 xs := q1
    have hL2 : Heap.IsTuple (Shared.heap ⟨zmA hp l1, g, d, tk, os⟩) l2 ys := Heap.IsTuple.push q2 _
    wp_walk using wpAny_pyIter_list hL1, wpAny_pyIter_tuple hL2
    exact ⟨_, rfl, h⟩
section
variable {prog : Program} {w : World} {A : Around} {E : Value → Shared → Prop} {s : Shared}
theorem zm_call {l1 l2 : Addr} {xs ys : Array Value} {R : Value → Shared → Prop} (q1 : s.heap.IsList l1 xs) (q2 : s.heap.IsTuple l2 ys)
    (h : ∀ g, ZpAt g (s.heap.objs.size + 4) (s.heap.objs.size + 2) (s.heap.objs.size + 3) s.heap.objs.size (s.heap.objs.size + 1) (fun k h => h.IsListIter s.heap.objs.size l1 k ∧ h.IsList l1 xs) (fun k h => h.IsTupleIter (s.heap.objs.size + 1) l2 k ∧ h.IsTuple l2 ys) .none .none 0 →
      (∀ c o, s.heap.get? c = some o → g.get? c = some o) → R (.ref (s.heap.objs.size + 4)) { s with heap := g }) :
    wpAny (model prog w) A (call (.type "zip") [.ref l1, .ref l2]) R E s := by
  refine callType_new F.called_zip (by decide) (F.typeCall_zip_2 _ _) (F.newCall_zip_2 _ _) (fun obj => F.args_object_init_3 obj _ _) F.entry_zip_new (zm_new l1 l2 xs ys) ⟨q1, q2, ?_⟩
  have n1 : (zmA s.heap l1).objs.size = s.heap.objs.size + 1 := Heap.size_push ..
  have n2 : (zmB s.heap l1 l2).objs.size = s.heap.objs.size + 2 := by rw [Heap.size_push, n1]
  have n3 : (zmC s.heap l1 l2).objs.size = s.heap.objs.size + 3 := by rw [Heap.size_push, n2]
  have n4 : (zmD s.heap l1 l2).objs.size = s.heap.objs.size + 4 := by rw [Heap.size_push, n3]
  have e5 : (zmE s.heap l1 l2).get? (zmD s.heap l1 l2).objs.size = some _ := Heap.get?_push_size _ rfl
  have e4 : (zmE s.heap l1 l2).get? (zmC s.heap l1 l2).objs.size = some _ := Heap.get?_push_of_some _ (Heap.get?_push_size _ rfl)
  have e3 : (zmE s.heap l1 l2).get? (zmB s.heap l1 l2).objs.size = some _ := Heap.get?_push_of_some _ (Heap.get?_push_of_some _ (Heap.get?_push_size _ rfl))
  have e2 : (zmE s.heap l1 l2).get? (zmA s.heap l1).objs.size = some _ := Heap.get?_push_of_some _ (Heap.get?_push_of_some _ (Heap.get?_push_of_some _ (Heap.get?_push_size _ rfl)))
  have e1 : (zmE s.heap l1 l2).get? s.heap.objs.size = some _ := Heap.get?_push_of_some _ (Heap.get?_push_of_some _ (Heap.get?_push_of_some _ (Heap.get?_push_of_some _ (Heap.get?_push_size _ rfl))))
  have kp : ∀ c o, s.heap.get? c = some o → (zmE s.heap l1 l2).get? c = some o := fun c o x => Heap.get?_push_of_some _ (Heap.get?_push_of_some _ (Heap.get?_push_of_some _ (Heap.get?_push_of_some _ (Heap.get?_push_of_some _ x))))
  show _ ∧ _
  rw [n2, n3, n4] at e5; rw [n1, n2] at e3; rw [n3] at e4; rw [n1] at e2; rw [n4]
  exact ⟨⟨_, e5, rfl⟩, h _ ⟨e5, e3, e4, ⟨⟨_, e1, rfl, rfl⟩, q1.at fun o x => kp _ o x⟩, ⟨⟨_, e2, rfl, rfl⟩, q2.at fun o x => kp _ o x⟩⟩ kp⟩
end
/-- the list at a and the tuple at b as they stand at each turn -/
def ItzM (K : PySem.W.Frag) (a b : Addr) : It where
  go i H := ∃ (xs ys : List V) (x y : V), SqL K H a xs ∧ SqT K H b ys ∧ xs[i]? = some x ∧ ys[i]? = some y
  yld i H v H' := ∃ T x y, v = .ref T ∧ H T = none ∧ H' = upd H T (.tup [x, y]) ∧ (∀ xs, SqL K H a xs → xs[i]? = some x) ∧ ∀ ys, SqT K H b ys → ys[i]? = some y
  stop i H := ∃ xs ys : List V, SqL K H a xs ∧ SqT K H b ys ∧ (xs.length ≤ i ∨ ys.length ≤ i)
theorem five {c z TI TO i1 i2 : Addr} (h : c ∈ [z, TI, TO, i1, i2]) : c = z ∨ c = TI ∨ c = TO ∨ c = i1 ∨ c = i2 := by simpa using h
theorem turn_zm {P : Program} {w : World} {K : PySem.W.Frag} {elts : List Expr} {kk : Nat} {tpos : Pos} {a b z TI TO i1 i2 : Addr} (D : ZipApart z TI TO i1 i2 a b) :
    Turn P w K (.Tuple elts kk tpos) (ItzM K a b) [z, TI, TO, i1, i2] z (fun i h => IsZip h z TI TO .none ∧ IsPair h TI (.ref i1) (.ref i2) ∧ (∃ x y, IsPair h TO x y) ∧ h.IsListIter i1 a i ∧ h.IsTupleIter i2 b i) where
  mem := by simp
  obj := fun i h st c hc => by
    obtain ⟨s1, s2, ⟨x, y, s3⟩, ⟨o1, e1, _, d1⟩, ⟨o2, e2, _, d2⟩⟩ := st
    rcases five hc with rfl | rfl | rfl | rfl | rfl
    · exact ⟨_, s1, fun v q => nomatch q⟩
    · exact ⟨_, s2, fun v q => nomatch q⟩
    · exact ⟨_, s3, fun v q => nomatch q⟩
    · exact ⟨o1, e1, fun v q => by rw [d1] at q; cases q⟩
    · exact ⟨o2, e2, fun v q => by rw [d2] at q; cases q⟩
  keep := fun i h h' st k => by
    obtain ⟨s1, s2, ⟨x, y, s3⟩, s4, s5⟩ := st
    exact ⟨k z (by simp) _ s1, k TI (by simp) _ s2, ⟨x, y, k TO (by simp) _ s3⟩, s4.at fun o q => k i1 (by simp) o q, s5.at fun o q => k i2 (by simp) o q⟩
  item := by
    intro X hP hw hK hc i pins s σ H E I hf st hg
    subst hP hw hK
    obtain ⟨s1, s2, ⟨x0, y0, s3⟩, s4, s5⟩ := st
    obtain ⟨xs, ys, x, y, qx, qy, hx, hy⟩ := hg
    obtain ⟨its, rv, p, _⟩ := I.list qx
    obtain ⟨its2, rv2, p2, _⟩ := I.tuple qy
    obtain ⟨u, hu, ru⟩ := rv.get hx
    obtain ⟨u2, hu2, ru2⟩ := rv2.get hy
    have zl : z < s.heap.objs.size := Heap.lt_size s1
    have Z : ZpAt s.heap z TI TO i1 i2 (fun k h => h.IsListIter i1 a k ∧ h.IsList a its.toArray) (fun k h => h.IsTupleIter i2 b k ∧ h.IsTuple b its2.toArray) x0 y0 i := ⟨s1, s2, s3, ⟨s4, p.isList⟩, ⟨s5, p2⟩⟩
    refine zm_next (itr_list D.l1i1) (itr_tuple D.l2i2) D Z (x := u) (y := u2) (by simpa using hu) (by simpa using hu2) fun g gz gO g1 g2 gT gs gk => ?_
    refine ⟨_, rfl, wpAny_letOwnedTupleGo_zip (s := { s with heap := g }) gz fun g' z' sb => ?_⟩
    have hT2 : g'.get? s.heap.objs.size = some { cls := .type "tuple", data := .seq #[u, u2] } := (sb.2 _ (Nat.ne_of_gt zl)).trans gT
    have new : ObjOk X.prog X.w (upd H s.heap.objs.size (.tup [x, y])) g' s.heap.objs.size (.tup [x, y]) := ⟨by show 2 ≤ sizeLine; decide, [u, u2], .cons ru (.cons ru2 .nil), ⟨_, hT2, rfl, _, rfl⟩⟩
    have I1 : Inv X pins σ (upd H s.heap.objs.size (.tup [x, y])) { s with heap := g' } := I.turnedNew (t' := s.toks) (ch := [z, TI, TO, i1, i2]) (fun c o hb q => (sb.2 c (fun e => hb (by simp [e]))).trans (gk c o (fun e => hb (by simp [e])) (fun e => hb (by simp [e])) (fun e => hb (by simp [e])) (fun e => hb (by simp [e])) q)) hf (Nat.le_refl _) new
    refine ⟨.ref s.heap.objs.size, _, I1, rfl, ⟨_, x, y, rfl, I.hok.fresh (Nat.le_refl _), rfl, fun l hl => by rw [I.list_inj hl qx]; exact hx, fun l hl => by rw [I.tuple_inj hl qy]; exact hy⟩, ⟨z', (sb.2 _ D.TIz).trans (gk _ _ D.TIz D.TITO D.TIi1 D.TIi2 s2), ⟨u, u2, (sb.2 _ D.TOz).trans gO⟩, g1.1.at fun o q => (sb.2 _ D.i1z).trans q, g2.1.at fun o q => (sb.2 _ D.i2z).trans q⟩, fun c hcm => ?_⟩
    have lt : c < s.heap.objs.size := by
      rcases five hcm with rfl | rfl | rfl | rfl | rfl
      · exact zl
      · exact Heap.lt_size s2
      · exact Heap.lt_size s3
      · obtain ⟨_, q, _⟩ := s4; exact Heap.lt_size q
      · obtain ⟨_, q, _⟩ := s5; exact Heap.lt_size q
    rw [upd_ne (Nat.ne_of_lt lt)]; exact (hf c hcm).1
  done := by
    intro X hP hw hK hc i pins s σ H E I hf st hg
    subst hP hw hK
    obtain ⟨s1, s2, ⟨x0, y0, s3⟩, s4, s5⟩ := st
    obtain ⟨xs, ys, qx, qy, hend⟩ := hg
    obtain ⟨its, rv, p, _⟩ := I.list qx
    obtain ⟨its2, rv2, p2, _⟩ := I.tuple qy
    have n1 := rv.length; have n2 := rv2.length
    have Z : ZpAt s.heap z TI TO i1 i2 (fun k h => h.IsListIter i1 a k ∧ h.IsList a its.toArray) (fun k h => h.IsTupleIter i2 b k ∧ h.IsTuple b its2.toArray) x0 y0 i := ⟨s1, s2, s3, ⟨s4, p.isList⟩, ⟨s5, p2⟩⟩
    have he : its.toArray[i]? = none ∨ its2.toArray[i]? = none := hend.imp (fun q => by simp; omega) (fun q => by simp; omega)
    exact zm_stop (I.ok.hd hc) (itr_list D.l1i1) (itr_tuple D.l2i2) D Z he fun g gk => ⟨rfl, I.turnedL (t' := s.toks) (ch := [z, TI, TO, i1, i2]) (fun c o hb q => gk c o (fun e => hb (by simp [e])) (fun e => hb (by simp [e])) (fun e => hb (by simp [e])) (fun e => hb (by simp [e])) q) hf⟩
  self := fun A i s Q E st h => wpAny_pyIter_zip st.1 h
def iZipM (K : PySem.W.Frag) (ta : TA) : TI := fun σ H R => ta σ H fun vs H1 => ∃ a b xs ys, vs = [.ref a, .ref b] ∧ SqL K H1 a xs ∧ SqT K H1 b ys ∧ R (ItzM K a b) H1
theorem pi_zipM {X : Cx} {e e2 : Expr} {ta : TA} {p pos tpos : Pos} {elts : List Expr} {kk : Nat} (hg : Gl X "zip") (hm : X.mg "zip" = none) (ha : PA X [e, e2] ta) (hs : starEach [e, e2] X.env = (false, eval e X.env) :: starEach [e2] X.env := by rfl) (hpl : (backTo pos (starEach [e2] X.env)).any (·.1) = false := by rfl) :
    PI X (.Tuple elts kk tpos) (.Call (.Name "zip" p) [e, e2] [] pos) (iZipM X.K ta) := by
  refine ⟨fun pins s σ H R I h => Call_ (ld_blt I hg hm PyProof.Rows.boot_zip (PyProof.Rows.callWith_type1 (thn (ha.run pos pins s σ H _ I h) fun us s1 ⟨vs, H1, I1, r1, q1⟩ => ?_) hs hpl))⟩
  obtain ⟨a, b, xs, ys, rfl, qx, qy, q⟩ := q1
  cases r1 with
  | cons r rr =>
    cases rr with
    | cons r' rr =>
      cases rr; cases r; cases r'
      have fr : ∀ c, c ∈ [s1.heap.objs.size + 4, s1.heap.objs.size + 2, s1.heap.objs.size + 3, s1.heap.objs.size, s1.heap.objs.size + 1] → FpOk X pins H1 c := fun c hcm => by
        have le : s1.heap.objs.size ≤ c := by rcases five hcm with rfl | rfl | rfl | rfl | rfl <;> omega
        exact I1.fpOk le (I1.hok.fresh le)
      obtain ⟨its, rv, p1, _⟩ := I1.list qx
      obtain ⟨its2, rv2, p2, _⟩ := I1.tuple qy
      obtain ⟨o2, ho2, _⟩ := id p2
      refine zm_call p1.isList (show s1.heap.IsTuple b its2.toArray from p2) fun g Z hk => wpAny_pyIter_zip Z.zz ?_
      have I2 : Inv X pins σ H1 { s1 with heap := g } := I1.kept (t' := s1.toks) hk
      exact ⟨s1.heap.objs.size + 4, _, _, _, H1, rfl, I2, turn_zm (PySem.W.ktu_apart s1.heap.objs.size a b p1.lt (Heap.lt_size ho2)), ⟨Z.zz, Z.ti, ⟨_, _, Z.to⟩, Z.p1.1, Z.p2.1⟩, fr, q⟩
end Snd

namespace Snd
open PySem PySem.Spec PyProof.Rows L2
variable {X : Cx} {C : Ir.Calls}
/-! ### what is walked -/
structure Wk (K : PySem.W.Frag) (ρ0 : Rho) (H0 : Hp) (J : It) (xs : List Ir.D) : Prop where
  go : ∀ (i : Nat) (x : Ir.D) (ρ : Rho) (H : Hp) (st : Ir.Store), Ext ρ0 H0 ρ H → RS ρ K st H → xs[i]? = some x → J.go i H ∧ ∀ v H', J.yld i H v H' → Ext ρ H ρ H' ∧ RS ρ K st H' ∧ RD ρ K H' x v
  len : xs.length ≤ sizeLine
  stop : ∀ (i : Nat) (ρ : Rho) (H : Hp) (st : Ir.Store), Ext ρ0 H0 ρ H → RS ρ K st H → xs.length ≤ i → J.stop i H
theorem Wk.mono {K : PySem.W.Frag} {ρ ρ' : Rho} {H H' : Hp} {J : It} {xs : List Ir.D} (w : Wk K ρ H J xs) (e : Ext ρ H ρ' H') : Wk K ρ' H' J xs :=
  ⟨fun i x ρ1 H1 st e1 rs h => w.go i x ρ1 H1 st (e.trans e1) rs h, w.len, fun i ρ1 H1 st e1 rs h => w.stop i ρ1 H1 st (e.trans e1) rs h⟩
/-- data whose items are walked -/
def tSrc (C : Ir.Calls) (K : PySem.W.Frag) (e : Ir.Ex) : TI := fun σ H R => ∃ ρ env st p xs st', RS ρ K st H ∧ REnv ρ K H env σ ∧ Ir.eval C e env st = .ok (.d p) st' ∧ p.seq = some xs ∧ ∀ ρ' H' J, Ext ρ H ρ' H' → RS ρ' K st' H' → Wk K ρ' H' J xs → R J H'
abbrev SI (X : Cx) (C : Ir.Calls) (tg e : Expr) (ir : Ir.Ex) : Prop := PI X tg e (tSrc C X.K ir)
theorem pi_imp {tg e : Expr} {t t' : TI} (h : PI X tg e t) (w : ∀ σ H R, t' σ H R → t σ H R) : PI X tg e t' := ⟨fun pins s σ H R I q => h.run pins s σ H R I (w σ H R q)⟩
theorem pi_or {tg e : Expr} {t t' : TI} (h : PI X tg e t) (h' : PI X tg e t') : PI X tg e (fun σ H R => t σ H R ∨ t' σ H R) := ⟨fun pins s σ H R I q => by
  rcases q with q | q
  · exact h.run pins s σ H R I q
  · exact h'.run pins s σ H R I q⟩
theorem wk_list {K : PySem.W.Frag} {ρ : Rho} {H : Hp} {a : Addr} {xs : List Ir.D} {ys : List V} (h : H a = some (.lst ys)) (n : ¬ ρ.own a) (z : ys.length ≤ sizeLine) (r : RDs ρ K H xs ys) : Wk K ρ H (Itl K a) xs where
  len := by rw [r.length]; exact z
  go := fun i x ρ1 H1 st e rs hx => by
    obtain ⟨v, h1, h2⟩ := r.get hx
    have q : SqL K H1 a ys := SqL.of (e.fr _ _ h (own_no n) (own_nob n))
    refine ⟨⟨ys, v, q, h1⟩, fun w H' hy => ?_⟩
    obtain ⟨rfl, hw⟩ := hy
    have := hw ys q
    rw [h1] at this; cases this
    exact ⟨.refl _ _, rs, h2.mono e⟩
  stop := fun i ρ1 H1 st e rs hl => ⟨ys, SqL.of (e.fr _ _ h (own_no n) (own_nob n)), by rw [← r.length]; exact hl⟩
theorem wk_tup {K : PySem.W.Frag} {ρ : Rho} {H : Hp} {a : Addr} {xs : List Ir.D} {ys : List V} (h : TpAt ρ K H a ys) (z : ys.length ≤ sizeLine) (r : RDs ρ K H xs ys) : Wk K ρ H (Itt K a) xs where
  len := by rw [r.length]; exact z
  go := fun i x ρ1 H1 st e rs hx => by
    obtain ⟨v, h1, h2⟩ := r.get hx
    have q : SqT K H1 a ys := (h.mono e).sq
    refine ⟨⟨ys, v, q, h1⟩, fun w H' hy => ?_⟩
    obtain ⟨rfl, hw⟩ := hy
    have := hw ys q
    rw [h1] at this; cases this
    exact ⟨.refl _ _, rs, h2.mono e⟩
  stop := fun i ρ1 H1 st e rs hl => ⟨ys, (h.mono e).sq, by rw [← r.length]; exact hl⟩
theorem si_seq {tg e : Expr} {ir : Ir.Ex} (h : SE X C e ir) : SI X C tg e ir := by
  refine pi_imp (pi_or (pi_list h) (pi_tup h)) fun σ H R ⟨ρ, env, st, p, xs, st', rs, re, ev, hs, k⟩ => ?_
  cases p <;> simp only [Ir.D.seq, reduceCtorEq, Option.some.injEq] at hs
  · subst hs
    refine .inr ⟨ρ, env, st, _, st', rs, re, ev, fun ρ1 H1 X1 x1 rs1 rx => ?_⟩
    obtain ⟨a, ys, rfl, t, z, r⟩ := RD.tup_inv rx
    exact ⟨a, rfl, ⟨ys, t.sq⟩, k ρ1 H1 _ x1 rs1 (wk_tup t z r)⟩
  · subst hs
    refine .inl ⟨ρ, env, st, _, st', rs, re, ev, fun ρ1 H1 X1 x1 rs1 rx => ?_⟩
    cases rx with
    | lst h n z r => exact ⟨_, rfl, ⟨_, SqL.of h⟩, k ρ1 H1 _ x1 rs1 (wk_list h n z r)⟩
theorem wk_range {K : PySem.W.Frag} {ρ : Rho} {H : Hp} (lo : Int) (n : Nat) (z : n ≤ sizeLine) : Wk K ρ H (Itr lo n) (Ir.rangeL lo n) where
  len := by simpa [Ir.rangeL] using z
  go := fun i x ρ1 H1 st e rs hx => by
    have hi : i < n := by
      have := (List.getElem?_eq_some_iff.mp hx).1
      simpa [Ir.rangeL] using this
    have ex : x = .int (lo + (i : Nat)) := by
      simp only [Ir.rangeL, List.getElem?_map, List.getElem?_range hi, Option.map_some, Option.some.injEq] at hx
      exact hx.symm
    subst ex
    refine ⟨hi, fun w H' hy => ?_⟩
    obtain ⟨rfl, rfl⟩ := hy
    exact ⟨.refl _ _, rs, .int _⟩
  stop := fun i ρ1 H1 st e rs hl => by
    have : n ≤ i := by simpa [Ir.rangeL] using hl
    exact this
theorem si_range1 {tg e : Expr} {i : Ir.Ex} {p pos : Pos} (h : SE X C e i) (hm : X.mg (Str.ofString "range") = none) (hg : Gl X (Str.ofString "range") := by rfl) (hs : starEach [e] X.env = [(false, eval e X.env)] := by rfl) : SI X C tg (.Call (.Name (Str.ofString "range") p) [e] [] pos) (.blt .range [i]) := by
  refine pi_imp (pi_range1 hg hm (pa_cons h pa_nil hs) hs) fun σ H R ⟨ρ, env, st, q, xs, st', rs, re, ev, hseq, k⟩ => ?_
  simp only [Ir.eval, Ir.evals] at ev
  obtain ⟨vs, s1, e1, ev⟩ := bok ev
  obtain ⟨v, s2, e2, e1⟩ := bok e1
  simp only [Ir.Res.bind_ok] at e1
  cases e1
  obtain ⟨rfl, ds, r, h1, h2, h3⟩ := not_len (by decide) ev
  cases h3
  refine ⟨ρ, env, st, v, _, rs, re, e2, fun ρ1 H1 V1 x1 rs1 rv => ?_⟩
  have vd := VDs.derefs rs1 (.cons rv .nil) h1
  simp only [Ir.D.blt] at h2
  unfold Ir.D.bRange at h2
  split at h2
  · rename_i n
    split at h2
    · rename_i hn
      cases h2
      simp only [Ir.D.seq, Option.some.injEq] at hseq
      subst hseq
      cases vd with
      | cons vd t =>
        cases t
        have e0 : (Ir.LIM : Int) = 16777216 := by rw [Ir.LIM_eq]; rfl
        have e1 : sizeLine = 16777216 := by decide
        exact ⟨n, by rw [RD.int_inv vd], by omega, by omega, k ρ1 H1 _ x1 rs1 (wk_range 0 n.toNat (by omega))⟩
    · cases h2
  · cases vd with
    | cons _ t => cases t
  · cases h2
theorem si_range2 {tg e f : Expr} {i j : Ir.Ex} {p pos : Pos} (h : SE X C e i) (h' : SE X C f j) (hm : X.mg (Str.ofString "range") = none) (hg : Gl X (Str.ofString "range") := by rfl) (hs : starEach [e, f] X.env = [(false, eval e X.env), (false, eval f X.env)] := by rfl) (hs2 : starEach [f] X.env = [(false, eval f X.env)] := by rfl) : SI X C tg (.Call (.Name (Str.ofString "range") p) [e, f] [] pos) (.blt .range [i, j]) := by
  refine pi_imp (pi_range2 hg hm (pa_cons h (pa_cons h' pa_nil hs2) (by rw [hs, hs2])) hs hs2) fun σ H R ⟨ρ, env, st, q, xs, st', rs, re, ev, hseq, k⟩ => ?_
  simp only [Ir.eval, Ir.evals] at ev
  obtain ⟨vs, s1, e1, ev⟩ := bok ev
  obtain ⟨v, s2, e2, e1⟩ := bok e1
  obtain ⟨ws, s3, e3, e1⟩ := bok e1
  obtain ⟨w, s4, e4, e3⟩ := bok e3
  simp only [Ir.Res.bind_ok] at e3
  cases e3
  cases e1
  obtain ⟨rfl, ds, r, h1, h2, h3⟩ := not_len (by decide) ev
  cases h3
  refine ⟨ρ, env, st, v, _, rs, re, e2, fun ρ1 H1 V1 x1 rs1 rv => ⟨ρ1, env, _, w, _, rs1, re.mono x1, e4, fun ρ2 H2 W1 x2 rs2 rw' => ?_⟩⟩
  have vd := VDs.derefs rs2 (.cons (rv.mono x2) (.cons rw' .nil)) h1
  simp only [Ir.D.blt] at h2
  unfold Ir.D.bRange at h2
  split at h2
  · cases vd with
    | cons _ t => cases t
  · rename_i a b
    split at h2
    · rename_i hn
      cases h2
      simp only [Ir.D.seq, Option.some.injEq] at hseq
      subst hseq
      cases vd with
      | cons vd t =>
        cases t with
        | cons vd2 t =>
          cases t
          have e0 : (Ir.LIM : Int) = 16777216 := by rw [Ir.LIM_eq]; rfl
          have e1 : sizeLine = 16777216 := by decide
          exact ⟨a, b, by rw [RD.int_inv vd, RD.int_inv vd2], ⟨by omega, by omega, by omega, by omega⟩, k ρ2 H2 _ (x1.trans x2) rs2 (wk_range a (b - a).toNat (by omega))⟩
    · cases h2
  · cases h2
theorem zip_get {xs ys : List Ir.D} {i : Nat} {d : Ir.D} (h : (Ir.zipL xs ys)[i]? = some d) : ∃ x y, xs[i]? = some x ∧ ys[i]? = some y ∧ d = .tup [x, y] := by
  simp only [Ir.zipL, List.getElem?_map, Option.map_eq_some_iff] at h
  obtain ⟨p, h1, rfl⟩ := h
  rw [List.getElem?_zip_eq_some] at h1
  exact ⟨p.1, p.2, h1.1, h1.2, rfl⟩
theorem zip_len (xs ys : List Ir.D) : (Ir.zipL xs ys).length = min xs.length ys.length := by simp [Ir.zipL]
theorem wk_zip {K : PySem.W.Frag} {ρ : Rho} {H : Hp} {a b : Addr} {xs zs : List Ir.D} {ys ws : List V} (h : H a = some (.lst ys)) (n : ¬ ρ.own a) (z : ys.length ≤ sizeLine) (r : RDs ρ K H xs ys) (h' : H b = some (.lst ws)) (n' : ¬ ρ.own b) (r' : RDs ρ K H zs ws) : Wk K ρ H (Itz K a b) (Ir.zipL xs zs) where
  len := by rw [zip_len, r.length]; omega
  go := fun i d ρ1 H1 st e rs hd => by
    obtain ⟨x, y, hx, hy, rfl⟩ := zip_get hd
    obtain ⟨v, h1, h2⟩ := r.get hx
    obtain ⟨u, h3, h4⟩ := r'.get hy
    have q : SqL K H1 a ys := SqL.of (e.fr _ _ h (own_no n) (own_nob n))
    have q' : SqL K H1 b ws := SqL.of (e.fr _ _ h' (own_no n') (own_nob n'))
    refine ⟨⟨ys, ws, v, u, q, q', h1, h3⟩, fun w H' hw => ?_⟩
    obtain ⟨T, x', y', rfl, nT, rfl, f1, f2⟩ := hw
    have e1 := f1 ys q
    have e2 := f2 ws q'
    rw [h1] at e1; cases e1
    rw [h3] at e2; cases e2
    exact ⟨.grow rs nT _, rs.grow nT _, grow_tup rs (.cons (h2.mono e) (.cons (h4.mono e) .nil)) (by show 2 ≤ sizeLine; decide) nT⟩
  stop := fun i ρ1 H1 st e rs hl => by
    refine ⟨ys, ws, SqL.of (e.fr _ _ h (own_no n) (own_nob n)), SqL.of (e.fr _ _ h' (own_no n') (own_nob n')), ?_⟩
    rw [zip_len, r.length, r'.length] at hl
    omega
theorem wk_zipM {K : PySem.W.Frag} {ρ : Rho} {H : Hp} {a b : Addr} {xs zs : List Ir.D} {ys ws : List V} (h : H a = some (.lst ys)) (n : ¬ ρ.own a) (z : ys.length ≤ sizeLine) (r : RDs ρ K H xs ys) (h' : TpAt ρ K H b ws) (r' : RDs ρ K H zs ws) : Wk K ρ H (ItzM K a b) (Ir.zipL xs zs) where
  len := by rw [zip_len, r.length]; omega
  go := fun i d ρ1 H1 st e rs hd => by
    obtain ⟨x, y, hx, hy, rfl⟩ := zip_get hd
    obtain ⟨v, h1, h2⟩ := r.get hx
    obtain ⟨u, h3, h4⟩ := r'.get hy
    have q : SqL K H1 a ys := SqL.of (e.fr _ _ h (own_no n) (own_nob n))
    have q' : SqT K H1 b ws := (h'.mono e).sq
    refine ⟨⟨ys, ws, v, u, q, q', h1, h3⟩, fun w H' hw => ?_⟩
    obtain ⟨T, x', y', rfl, nT, rfl, f1, f2⟩ := hw
    have e1 := f1 ys q
    have e2 := f2 ws q'
    rw [h1] at e1; cases e1
    rw [h3] at e2; cases e2
    exact ⟨.grow rs nT _, rs.grow nT _, grow_tup rs (.cons (h2.mono e) (.cons (h4.mono e) .nil)) (by show 2 ≤ sizeLine; decide) nT⟩
  stop := fun i ρ1 H1 st e rs hl => by
    refine ⟨ys, ws, SqL.of (e.fr _ _ h (own_no n) (own_nob n)), (h'.mono e).sq, ?_⟩
    rw [zip_len, r.length, r'.length] at hl
    omega
theorem wk_zipT {K : PySem.W.Frag} {ρ : Rho} {H : Hp} {a b : Addr} {xs zs : List Ir.D} {ys ws : List V} (h : TpAt ρ K H a ys) (z : ys.length ≤ sizeLine) (r : RDs ρ K H xs ys) (h' : TpAt ρ K H b ws) (r' : RDs ρ K H zs ws) : Wk K ρ H (RZ.ItzT K a b) (Ir.zipL xs zs) where
  len := by rw [zip_len, r.length]; omega
  go := fun i d ρ1 H1 st e rs hd => by
    obtain ⟨x, y, hx, hy, rfl⟩ := zip_get hd
    obtain ⟨v, h1, h2⟩ := r.get hx
    obtain ⟨u, h3, h4⟩ := r'.get hy
    have q : SqT K H1 a ys := (h.mono e).sq
    have q' : SqT K H1 b ws := (h'.mono e).sq
    refine ⟨⟨ys, ws, v, u, q, q', h1, h3⟩, fun w H' hw => ?_⟩
    obtain ⟨T, x', y', rfl, nT, rfl, f1, f2⟩ := hw
    have e1 := f1 ys q
    have e2 := f2 ws q'
    rw [h1] at e1; cases e1
    rw [h3] at e2; cases e2
    exact ⟨.grow rs nT _, rs.grow nT _, grow_tup rs (.cons (h2.mono e) (.cons (h4.mono e) .nil)) (by show 2 ≤ sizeLine; decide) nT⟩
  stop := fun i ρ1 H1 st e rs hl => by
    refine ⟨ys, ws, (h.mono e).sq, (h'.mono e).sq, ?_⟩
    rw [zip_len, r.length, r'.length] at hl
    omega
/-! ### comprehensions -/
theorem si_zip {e f : Expr} {i j : Ir.Ex} {p pos tpos : Pos} {elts : List Expr} {kk : Nat} (h : SE X C e i) (h' : SE X C f j) (hm : X.mg (Str.ofString "zip") = none) (hg : Gl X (Str.ofString "zip") := by rfl) (hs : starEach [e, f] X.env = (false, eval e X.env) :: starEach [f] X.env := by rfl) (hs2 : starEach [f] X.env = (false, eval f X.env) :: starEach [] X.env := by rfl) (hpl : (backTo pos (starEach [f] X.env)).any (·.1) = false := by rfl) :
    SI X C (.Tuple elts kk tpos) (.Call (.Name (Str.ofString "zip") p) [e, f] [] pos) (.blt .zip [i, j]) := by
  refine pi_imp (pi_or (RZ.pi_zipA hg hm (pa_cons h (pa_cons h' pa_nil hs2) hs) hs hpl) (pi_zipM hg hm (pa_cons h (pa_cons h' pa_nil hs2) hs) hs hpl)) fun σ H R ⟨ρ, env, st, q, xs, st', rs, re, ev, hseq, k⟩ => ?_
  simp only [Ir.eval, Ir.evals] at ev
  obtain ⟨vs, s1, e1, ev⟩ := bok ev
  obtain ⟨v, s2, e2, e1⟩ := bok e1
  obtain ⟨ws, s3, e3, e1⟩ := bok e1
  obtain ⟨w, s4, e4, e3⟩ := bok e3
  simp only [Ir.Res.bind_ok] at e3
  cases e3
  cases e1
  obtain ⟨rfl, ds, r, h1, h2, h3⟩ := zip_inv ev
  cases h3
  have vv : ∃ p q, v = .d p ∧ w = .d q ∧ ds = [p, q] := by
    cases v <;> cases w <;> simp [Ir.asDs] at h1
    exact ⟨_, _, rfl, rfl, h1.symm⟩
  obtain ⟨p1, q1, rfl, rfl, rfl⟩ := vv
  unfold Ir.D.bZip at h2
  split at h2
  · rename_i as bs hq
    simp only [List.cons.injEq, and_true] at hq
    obtain ⟨rfl, rfl⟩ := hq
    cases h2
    simp only [Ir.D.seq, Option.some.injEq] at hseq
    subst hseq
    refine .inl ⟨ρ, env, st, _, _, rs, re, e2, fun ρ1 H1 V1 x1 rs1 rv => ⟨ρ1, env, _, _, _, rs1, re.mono x1, e4, fun ρ2 H2 W1 x2 rs2 rw' => ?_⟩⟩
    have rv2 : RD ρ2 X.K H2 (.lst as) V1 := RD.mono x2 rv
    have rw2 : RD ρ2 X.K H2 (.lst bs) W1 := rw'
    cases rv2 with
    | lst g1 g2 g3 g4 =>
      cases rw2 with
      | lst f1 f2 f3 f4 => exact ⟨_, _, _, _, rfl, .inl ⟨SqL.of g1, SqL.of f1, k ρ2 H2 _ (x1.trans x2) rs2 (wk_zip g1 g2 g3 g4 f1 f2 f4)⟩⟩
  · rename_i as bs hq
    simp only [List.cons.injEq, and_true] at hq
    obtain ⟨rfl, rfl⟩ := hq
    cases h2
    simp only [Ir.D.seq, Option.some.injEq] at hseq
    subst hseq
    refine .inl ⟨ρ, env, st, _, _, rs, re, e2, fun ρ1 H1 V1 x1 rs1 rv => ⟨ρ1, env, _, _, _, rs1, re.mono x1, e4, fun ρ2 H2 W1 x2 rs2 rw' => ?_⟩⟩
    have rv2 : RD ρ2 X.K H2 (.tup as) V1 := RD.mono x2 rv
    have rw2 : RD ρ2 X.K H2 (.tup bs) W1 := rw'
    obtain ⟨a, ys, rfl, t, z, r⟩ := RD.tup_inv rv2
    obtain ⟨b, zs, rfl, t', z', r'⟩ := RD.tup_inv rw2
    exact ⟨_, _, _, _, rfl, .inr ⟨t.sq, t'.sq, k ρ2 H2 _ (x1.trans x2) rs2 (wk_zipT t z r t' r')⟩⟩
  · rename_i as bs hq
    simp only [List.cons.injEq, and_true] at hq
    obtain ⟨rfl, rfl⟩ := hq
    cases h2
    simp only [Ir.D.seq, Option.some.injEq] at hseq
    subst hseq
    refine .inr ⟨ρ, env, st, _, _, rs, re, e2, fun ρ1 H1 V1 x1 rs1 rv => ⟨ρ1, env, _, _, _, rs1, re.mono x1, e4, fun ρ2 H2 W1 x2 rs2 rw' => ?_⟩⟩
    have rv2 : RD ρ2 X.K H2 (.lst as) V1 := RD.mono x2 rv
    have rw2 : RD ρ2 X.K H2 (.tup bs) W1 := rw'
    obtain ⟨b, zs, rfl, t', z', r'⟩ := RD.tup_inv rw2
    cases rv2 with
    | lst g1 g2 g3 g4 => exact ⟨_, _, _, _, rfl, SqL.of g1, t'.sq, k ρ2 H2 _ (x1.trans x2) rs2 (wk_zipM g1 g2 g3 g4 t' r')⟩
  · cases h2
/-! ### comprehensions -/
theorem sc_nil : SCs X C [] [] := pts_imp pts_nil fun σ H Q ⟨ρ, env, st, b, st', rs, re, ev, k⟩ => by
  simp only [Ir.conds] at ev; cases ev; exact k ρ H (.refl _ _) rs
theorem sc_one {e : Expr} {i : Ir.Ex} (h : ST X C e i) : SCs X C [e] [i] := pts_imp (pts_one h) fun σ H Q ⟨ρ, env, st, b, st', rs, re, ev, k⟩ => by
  simp only [Ir.conds] at ev
  obtain ⟨x, s1, e1, ev⟩ := bok ev
  obtain ⟨c, e2, ev2⟩ := ook ev
  obtain rfl := asB_ok e2
  have : b = c ∧ st' = s1 := by
    split at ev2
    · rename_i hc
      cases ev2
      exact ⟨hc.symm, rfl⟩
    · rename_i hc
      cases ev2
      exact ⟨by simpa using hc, rfl⟩
  obtain ⟨rfl, rfl⟩ := this
  exact ⟨ρ, env, st, b, st', rs, re, e1, k⟩
theorem wipe_get (σ : L2.St) (i : Nat) : ∀ vs : List Nat, (L2.wipe σ vs)[i]? = if i ∈ vs then (σ[i]?).map (fun _ => none) else σ[i]?
  | [] => by simp [L2.wipe]
  | v :: vs => by
    simp only [L2.wipe]
    by_cases e : v = i
    · subst e
      rw [List.getElem?_set, L2.wipe_length]
      simp only [if_true, List.mem_cons, true_or]
      by_cases h : v < σ.length
      · rw [if_pos h, List.getElem?_eq_getElem h]; rfl
      · rw [if_neg h, List.getElem?_eq_none (by omega)]; rfl
    · rw [List.getElem?_set_ne e, wipe_get σ i vs]
      have : i ∈ v :: vs ↔ i ∈ vs := by simp [Ne.symm e]
      simp only [this]
theorem wipe_idem (σ : L2.St) (vs : List Nat) : L2.wipe (L2.wipe σ vs) vs = L2.wipe σ vs := by
  apply List.ext_getElem?
  intro i
  rw [wipe_get, wipe_get]
  split
  · cases σ[i]? <;> rfl
  · rfl
/-- the turns of a comprehension -/
theorem comp_core {K : PySem.W.Frag} {J : It} {xs : List Ir.D} {tg : Ir.Tg} {cs : List Ir.Ex} {elt : Ir.Ex} {σ : L2.St} {env : Ir.Env} {ρ1 : Rho} {H1 : Hp} {s3 s8 : Ir.Store} {ys : List Ir.D} {D : Addr} {Qd : Hp → Prop} (rs1 : RS ρ1 K s3 H1) (re1 : REnv ρ1 K H1 env σ) (wk : Wk K ρ1 H1 J xs) (hD : H1 D = none)
    (ev : Ir.compL (Ir.compStep (Ir.eval C elt) (Ir.conds C cs) tg (Ir.wipe env tg.slots)) xs s3 = .ok ys s8)
    (k : ∀ ρ' H' zs, Ext ρ1 H1 ρ' H' → RS ρ' K s8 H' → D ∈ ρ'.res → H' D = some (.lst zs) → zs.length ≤ sizeLine → RDs ρ' K H' ys zs → Qd H') :
    ∃ W : Nat → Nat → Hp → Prop, (∃ m, W 0 m (upd H1 D (.lst []))) ∧ ∀ i m H, W i m H →
      (J.stop i H ∧ Qd H) ∨ (J.go i H ∧ ∃ Nx : Hp → Prop, (∀ H', Nx H' → ∃ m', m' < m ∧ W (i + 1) m' H') ∧ ∀ x H', J.yld i H x H' → tG K tg x (L2.wipe σ tg.slots) H' fun σ2 H2 => L2.wipe σ2 tg.slots = L2.wipe σ tg.slots ∧ tICs C K cs σ2 H2 fun b H3 =>
        if b = true then tI C K elt σ2 H3 fun y H4 => ∃ acc, H4 D = some (.lst acc) ∧ acc.length < sizeLine ∧ Nx (upd H4 D (.lst (acc ++ [y]))) else Nx H3) := by
  -- between the turns: D holds what is made so far; the rest of the run is known
  refine ⟨fun i m H => ∃ ρ st acc done rest, Ext ρ1 H1 ρ H ∧ RS ρ K st H ∧ D ∈ ρ.res ∧ H D = some (.lst acc) ∧ RDs ρ K H done acc ∧ acc.length ≤ i ∧ i ≤ xs.length ∧ m = xs.length - i ∧ ys = done ++ rest ∧
      Ir.compL (Ir.compStep (Ir.eval C elt) (Ir.conds C cs) tg (Ir.wipe env tg.slots)) (xs.drop i) st = .ok rest s8,
    ⟨xs.length, ρ1.keep D, s3, [], [], ys, .keep rs1 hD _, rs1.keep hD _, List.mem_cons_self, upd_same, .nil, Nat.zero_le _, Nat.zero_le _, by omega, rfl, ev⟩, ?_⟩
  rintro i m H ⟨ρ, st, acc, done, rest, x1, rs, hres, hacc, rd, hl, hi, rfl, rfl, ec⟩
  by_cases hlt : i < xs.length
  · have hx : xs[i]? = some xs[i] := List.getElem?_eq_getElem hlt
    have hdrop : xs.drop i = xs[i] :: xs.drop (i + 1) := List.drop_eq_getElem_cons hlt
    rw [hdrop] at ec
    simp only [Ir.compL] at ec
    obtain ⟨oy, s1, e1, ec⟩ := bok ec
    obtain ⟨rest1, s2, e2, ec⟩ := bok ec
    unfold Ir.compStep at e1
    obtain ⟨env1, e3, e1⟩ := ook e1
    obtain ⟨b, s5, e4, e1⟩ := bok e1
    obtain ⟨go, yl⟩ := wk.go i _ ρ H st x1 rs hx
    refine .inr ⟨go, fun H' => ∃ m', m' < xs.length - i ∧ ∃ ρ st acc done rest, Ext ρ1 H1 ρ H' ∧ RS ρ K st H' ∧ D ∈ ρ.res ∧ H' D = some (.lst acc) ∧ RDs ρ K H' done acc ∧ acc.length ≤ i + 1 ∧ i + 1 ≤ xs.length ∧ m' = xs.length - (i + 1) ∧ _ = done ++ rest ∧ _, fun H' h => h, fun v H2 hy => ?_⟩
    obtain ⟨x2, rs2, rx⟩ := yl v H2 hy
    have hacc2 : H2 D = some (.lst acc) := x2.fr _ _ hacc (rs.disj D hres) (rs.ra.nres D hres)
    refine ⟨ρ, _, st, _, env1, rs2, ((re1.mono (x1.trans x2)).wipe tg.slots), rx, e3, fun ρ3 H3 σ3 x3 rs3 re3 on => ⟨?_, ρ3, env1, st, b, s5, rs3, re3, e4, fun ρ4 H4 x4 rs4 => ?_⟩⟩
    · have := on tg.slots fun _ q => q
      rw [this, wipe_idem]
    have hres3 : D ∈ ρ3.res := x3.rs D hres
    have hacc3 : H3 D = some (.lst acc) := x3.fr _ _ hacc2 (rs2.disj D hres) (rs2.ra.nres D hres)
    have hres4 : D ∈ ρ4.res := x4.rs D hres3
    have hacc4 : H4 D = some (.lst acc) := x4.fr _ _ hacc3 (rs3.disj D hres3) (rs3.ra.nres D hres3)
    have x14 : Ext ρ1 H1 ρ4 H4 := ((x1.trans x2).trans x3).trans x4
    cases b with
    | false =>
      simp only [Bool.false_eq_true, if_false] at e1 ⊢
      cases e1
      simp only at ec
      cases ec
      exact ⟨xs.length - (i + 1), by omega, ρ4, _, acc, done, _, x14, rs4, hres4, hacc4, ((rd.mono x2).mono x3).mono x4, by omega, hlt, rfl, rfl, e2⟩
    | true =>
      simp only [if_true] at e1 ⊢
      obtain ⟨z, s6, e5, e1⟩ := bok e1
      obtain ⟨d, e6, e1⟩ := ook e1
      obtain rfl := asD_ok e6
      cases e1
      simp only at ec
      cases ec
      refine ⟨ρ4, env1, s5, _, _, rs4, re3.mono x4, e5, fun ρ5 H5 Y x5 rs5 ry => ?_⟩
      have hres5 : D ∈ ρ5.res := x5.rs D hres4
      have hacc5 : H5 D = some (.lst acc) := x5.fr _ _ hacc4 (rs4.disj D hres4) (rs4.ra.nres D hres4)
      have hlen := wk.len
      refine ⟨acc, hacc5, by omega, xs.length - (i + 1), by omega, ρ5, _, acc ++ [Y], done ++ [d], _, (x14.trans x5).aside hD, rs5.aside hres5, hres5, upd_same, ?_, ?_, hlt, rfl, by simp, e2⟩
      · exact RDs.aside hres5 (((((rd.mono x2).mono x3).mono x4).mono x5).append (.cons ry .nil))
      · rw [List.length_append]; simp; omega
  · have e : i = xs.length := by omega
    subst e
    rw [List.drop_length] at ec
    simp only [Ir.compL] at ec
    cases ec
    rw [List.append_nil] at k
    have hlen := wk.len
    exact .inl ⟨wk.stop _ ρ H _ x1 rs (Nat.le_refl _), k ρ H acc x1 rs hres hacc (by omega) rd⟩
end Snd

namespace Snd
open PySem PySem.Spec PyProof.Rows L2
variable {X : Cx} {C : Ir.Calls} {W : WX}
/-! ### comprehensions -/
theorem tLc_of {K : PySem.W.Frag} {elt it : Ir.Ex} {tg : Ir.Tg} {cs : List Ir.Ex} {vs : List Nat} (hvs : vs = tg.slots) : ∀ σ H Q, tN C K (.comp elt tg it cs) σ H Q → tLc (tSrc C K it) (tG K tg) (tICs C K cs) (tI C K elt) vs σ H Q := by
  intro σ H Q ⟨ρ, env, st, ys, st', rs, re, ev, k⟩
  subst hvs
  simp only [Ir.eval] at ev
  obtain ⟨x, s1, e1, ev⟩ := bok ev
  obtain ⟨p, e2, ev1⟩ := ook ev
  clear ev
  obtain ⟨xs, e3, ev2⟩ := ook ev1
  clear ev1
  obtain ⟨zs, s8, e4, ev3⟩ := bok ev2
  clear ev2
  obtain rfl := asD_ok e2
  cases ev3
  exact ⟨ρ, env, st, p, xs, s1, rs, re, e1, e3, fun ρ1 H1 J x1 rs1 wk D hD => comp_core rs1 (re.mono x1) wk hD e4 fun ρ' H' ws x2 rs2 hr hh z r => k ρ' H' D ws (x1.trans x2) rs2 (x1.al D hD) hr hh z r⟩
theorem is_comp {elt it : Ir.Ex} {tg : Ir.Tg} {cs : List Ir.Ex} : ∀ env st v st', Ir.eval C (.comp elt tg it cs) env st = .ok v st' → ∃ xs, v = .d (.lst xs) := fun env st v st' ev => by
  simp only [Ir.eval] at ev
  obtain ⟨x, s1, e1, ev⟩ := bok ev
  obtain ⟨p, e2, ev⟩ := ook ev
  obtain ⟨xs, e3, ev⟩ := ook ev
  obtain ⟨zs, s8, e4, ev⟩ := bok ev
  cases ev
  exact ⟨_, rfl⟩
theorem sn_comp {elt tg iter : Expr} {ifs : List Expr} {scope : Scope} (own : List (Str × Nat)) {pos : Pos} {ie it : Ir.Ex} {t : Ir.Tg} {cs : List Ir.Ex} (hc : X.calm = true) (hN : X.N.Nodup) (hi : SI X C tg iter it) (ok : BlkOk X.N X.env.scope scope own)
    (hg : ∀ (s : Shared) (H : Hp) (Cc : Addr) (cl : List (Str × Addr)) (fp : List Addr), SG (X.blk s H scope (compEnvC scope cl Cc X.env) fp) tg t) (ht : ∀ (s : Shared) (H : Hp) (Cc : Addr) (cl : List (Str × Addr)) (fp : List Addr), SCs (X.blk s H scope (compEnvC scope cl Cc X.env) fp) C ifs cs)
    (he : ∀ (s : Shared) (H : Hp) (Cc : Addr) (cl : List (Str × Addr)) (fp : List Addr), SE (X.blk s H scope (compEnvC scope cl Cc X.env) fp) C elt ie) (hvs : own.map (·.2) = t.slots := by rfl) (hs : ∀ x, foldedSetIterable iter X.env x = pure x := by intro _; rfl) :
    SN X C (.ListComp elt [⟨tg, iter, ifs, 0⟩] scope pos) (.comp ie t it cs) := pe_imp (pe_lc hc hN hi ok hg ht he hs) (tLc_of hvs)
/-! ### statements -/
def Post (K : PySem.W.Frag) (mg : Str → Option Value) (W : WX) (D : Ends) (ρ : Rho) (H : Hp) (st' : Ir.Store) : Ir.Out → Prop
  | .nx env' => ∀ ρ' H' σ', Ext ρ H ρ' H' → RS ρ' K st' H' → REnv ρ' K H' env' σ' → D.nx σ' H'
  | .ret v => ∀ ρ' H' x, Ext ρ H ρ' H' → RS ρ' K st' H' → RV ρ' K H' v x → D.rt x H'
  | .brk env' => ∀ ρ' H' σ', Ext ρ H ρ' H' → RS ρ' K st' H' → REnv ρ' K H' env' σ' → D.bk σ' H'
  | .cnt env' => ∀ ρ' H' σ', Ext ρ H ρ' H' → RS ρ' K st' H' → REnv ρ' K H' env' σ' → D.ct σ' H'
  | .thr c as env' => ∀ ρ' H' σ' cls d, Ext ρ H ρ' H' → RS ρ' K st' H' → REnv ρ' K H' env' σ' → RXc ρ' K H' mg c as cls d → W cls d σ' H'
theorem Post.mono {K : PySem.W.Frag} {mg : Str → Option Value} {W : WX} {D : Ends} {ρ ρ1 : Rho} {H H1 : Hp} {st' : Ir.Store} {o : Ir.Out} (x : Ext ρ H ρ1 H1) (h : Post K mg W D ρ H st' o) : Post K mg W D ρ1 H1 st' o := by
  cases o with
  | nx e => exact fun ρ' H' σ' x1 rs re => h ρ' H' σ' (x.trans x1) rs re
  | ret v => exact fun ρ' H' σ' x1 rs re => h ρ' H' σ' (x.trans x1) rs re
  | brk e => exact fun ρ' H' σ' x1 rs re => h ρ' H' σ' (x.trans x1) rs re
  | cnt e => exact fun ρ' H' σ' x1 rs re => h ρ' H' σ' (x.trans x1) rs re
  | thr c as e => exact fun ρ' H' σ' cls d x1 rs re rx => h ρ' H' σ' cls d (x.trans x1) rs re rx
def tS1 (C : Ir.Calls) (K : PySem.W.Frag) (mg : Str → Option Value) (W : WX) (s : Ir.Stm) : TS := fun D σ H => ∃ ρ env st o st', RS ρ K st H ∧ REnv ρ K H env σ ∧ Ir.exec C s env st = .ok o st' ∧ Post K mg W D ρ H st' o
def tS (C : Ir.Calls) (K : PySem.W.Frag) (mg : Str → Option Value) (W : WX) (s : List Ir.Stm) : TS := fun D σ H => ∃ ρ env st o st', RS ρ K st H ∧ REnv ρ K H env σ ∧ Ir.execs C s env st = .ok o st' ∧ Post K mg W D ρ H st' o
abbrev SS (X : Cx) (C : Ir.Calls) (W : WX) (st : Stmt) (s : Ir.Stm) : Prop := PS X st (tS1 C X.K X.mg W s)
abbrev SSs (X : Cx) (C : Ir.Calls) (W : WX) (st : List Stmt) (s : List Ir.Stm) : Prop := PSs X st (tS C X.K X.mg W s)
theorem ps_imp {st : Stmt} {t t' : TS} (h : PS X st t) (w : ∀ D σ H, t' D σ H → t D σ H) : PS X st t' := ⟨fun pins s σ H D I q => h.run pins s σ H D I (w D σ H q)⟩
theorem pss_imp {st : List Stmt} {t t' : TS} (h : PSs X st t) (w : ∀ D σ H, t' D σ H → t D σ H) : PSs X st t' := ⟨fun pins s σ H D I q => h.run pins s σ H D I (w D σ H q)⟩
theorem ps_or {st : Stmt} {t t' : TS} (h : PS X st t) (h' : PS X st t') : PS X st (fun D σ H => t D σ H ∨ t' D σ H) := ⟨fun pins s σ H D I q => by
  rcases q with q | q
  · exact h.run pins s σ H D I q
  · exact h'.run pins s σ H D I q⟩
theorem ss_nil : SSs X C W [] [] := pss_imp pss_nil fun D σ H ⟨ρ, env, st, o, st', rs, re, ev, k⟩ => by
  simp only [Ir.execs] at ev
  cases ev
  exact k ρ H σ (.refl _ _) rs re
theorem ss_cons {st : Stmt} {rest : List Stmt} {s : Ir.Stm} {ss : List Ir.Stm} (h1 : SS X C W st s) (h2 : SSs X C W rest ss) : SSs X C W (st :: rest) (s :: ss) := by
  refine pss_imp (pss_cons h1 h2) fun D σ H ⟨ρ, env, st, o, st', rs, re, ev, k⟩ => ?_
  simp only [Ir.execs] at ev
  obtain ⟨o1, s1, e1, ev⟩ := bok ev
  refine ⟨ρ, env, st, o1, s1, rs, re, e1, ?_⟩
  cases o1 with
  | nx env1 => exact fun ρ' H' σ' x1 rs1 re1 => ⟨ρ', env1, s1, o, st', rs1, re1, ev, k.mono x1⟩
  | ret v => simp only at ev; cases ev; exact k
  | brk v => simp only at ev; cases ev; exact k
  | cnt v => simp only at ev; cases ev; exact k
  | thr c as v => simp only at ev; cases ev; exact k
theorem ss_never {st : Stmt} : SS X C W st .never := ps_imp ps_never fun D σ H ⟨ρ, env, st, o, st', rs, re, ev, k⟩ => by
  simp only [Ir.exec] at ev; cases ev
theorem ss_ex {e : Expr} {i : Ir.Ex} {pos : Pos} (h : SE X C e i) (hs : swapsWith e none pos.line X.env = pure false := by rfl) : SS X C W (.Expr e pos) (.ex i) := ps_imp (ps_expr h hs) fun D σ H ⟨ρ, env, st, o, st', rs, re, ev, k⟩ => by
  simp only [Ir.exec] at ev
  obtain ⟨v, s1, e1, ev⟩ := bok ev
  cases ev
  exact ⟨ρ, env, st, v, _, rs, re, e1, fun ρ1 H1 x x1 rs1 rx => k ρ1 H1 σ x1 rs1 (re.mono x1)⟩
theorem ss_ret {e : Expr} {i : Ir.Ex} {pos : Pos} (h : SE X C e i) : SS X C W (.Return (some e) pos) (.ret i) := ps_imp (ps_ret h) fun D σ H ⟨ρ, env, st, o, st', rs, re, ev, k⟩ => by
  simp only [Ir.exec] at ev
  obtain ⟨v, s1, e1, ev⟩ := bok ev
  cases ev
  exact ⟨ρ, env, st, v, _, rs, re, e1, fun ρ1 H1 x x1 rs1 rx => k ρ1 H1 x x1 rs1 rx⟩
theorem ss_if {c : Expr} {a b : List Stmt} {ic : Ir.Ex} {ia ib : List Ir.Stm} {pos : Pos} (hc : ST X C c ic) (ha : SSs X C W a ia) (hb : SSs X C W b ib) : SS X C W (.If c a b pos) (.ite ic ia ib) := by
  refine ps_imp (ps_if hc ha hb) fun D σ H ⟨ρ, env, st, o, st', rs, re, ev, k⟩ => ?_
  simp only [Ir.exec] at ev
  obtain ⟨x, s1, e1, ev⟩ := bok ev
  obtain ⟨c, e2, ev2⟩ := ook ev
  obtain rfl := asB_ok e2
  refine ⟨ρ, env, st, c, s1, rs, re, e1, fun ρ1 H1 x1 rs1 => ?_⟩
  cases c with
  | true =>
    simp only [if_true] at ev2 ⊢
    exact ⟨ρ1, env, s1, o, st', rs1, re.mono x1, ev2, k.mono x1⟩
  | false =>
    simp only [Bool.false_eq_true, if_false] at ev2 ⊢
    exact ⟨ρ1, env, s1, o, st', rs1, re.mono x1, ev2, k.mono x1⟩
theorem ss_set (i : Nat) {x : Str} {e : Expr} {ie : Ir.Ex} {pos pos' : Pos} (hN : X.N.Nodup) (he : SE X C e ie) (hx : Loc X.env.scope x := by first | exact .inl rfl | exact .inr rfl) (hi : X.N[i]? = some x := by rfl) (hs : swapsWith e (some (.Name x pos')) pos.line X.env = pure false := by rfl) (hf : X.fn x = true ∨ X.env.scope.names.lookup x = some .local := by first | exact .inl rfl | exact .inr rfl | assumption) :
    SS X C W (.Assign [.Name x pos'] e pos) (.asg (.name i) ie) := by
  refine ps_imp (ps_set hN hi hx he hs hf) fun D σ H ⟨ρ, env, st, o, st', rs, re, ev, k⟩ => ?_
  simp only [Ir.exec] at ev
  obtain ⟨v, s1, e1, ev⟩ := bok ev
  obtain ⟨env1, e2, ev⟩ := ook ev
  cases ev
  simp only [Ir.Tg.putV, Option.some.injEq] at e2
  subst e2
  exact ⟨ρ, env, st, v, _, rs, re, e1, fun ρ1 H1 x x1 rs1 rx => k ρ1 H1 _ x1 rs1 ((re.mono x1).set rx i)⟩
theorem ss_setLc (i : Nat) {y : Str} {py : Pos} {elt tg iter : Expr} {ifs : List Expr} {scope : Scope} (own : List (Str × Nat)) {pos spos : Pos} {ie it ir : Ir.Ex} {t : Ir.Tg} {cs : List Ir.Ex} (hw : ∀ σ H Q, tI C X.K ir σ H Q → tN C X.K (.comp ie t it cs) σ H Q) (hc : X.calm = true) (hN : X.N.Nodup) (hi : SI X C tg iter it) (ok : BlkOk X.N X.env.scope scope own)
    (hg : ∀ (s : Shared) (H : Hp) (Cc : Addr) (cl : List (Str × Addr)) (fp : List Addr), SG (X.blk s H scope (compEnvC scope cl Cc X.env) fp) tg t) (ht : ∀ (s : Shared) (H : Hp) (Cc : Addr) (cl : List (Str × Addr)) (fp : List Addr), SCs (X.blk s H scope (compEnvC scope cl Cc X.env) fp) C ifs cs)
    (he : ∀ (s : Shared) (H : Hp) (Cc : Addr) (cl : List (Str × Addr)) (fp : List Addr), SE (X.blk s H scope (compEnvC scope cl Cc X.env) fp) C elt ie)
    (hsw : swapsWith (.ListComp elt [⟨tg, iter, ifs, 0⟩] scope pos) (some (.Name y py)) spos.line X.env = pure true) (hyl : X.env.scope.names.lookup y = some .local := by rfl) (hy : X.N[i]? = some y := by rfl) (hvs : own.map (·.2) = t.slots := by rfl) (hs : ∀ x, foldedSetIterable iter X.env x = pure x := by intro _; rfl) :
    SS X C W (.Assign [.Name y py] (.ListComp elt [⟨tg, iter, ifs, 0⟩] scope pos) spos) (.asg (.name i) ir) := by
  refine ps_imp (ps_setLc (g := tG X.K t) (tt := tICs C X.K cs) (te := tI C X.K ie) hc hN hy hyl hsw hi ok hg ht he hs) fun D σ H ⟨ρ, env, st, o, st', rs, re, ev, k⟩ => ?_
  simp only [Ir.exec] at ev
  obtain ⟨v, s1, e1, ev⟩ := bok ev
  obtain ⟨env1, e2, ev⟩ := ook ev
  cases ev
  simp only [Ir.Tg.putV, Option.some.injEq] at e2
  subst e2
  refine tLc_of hvs σ H _ (hw σ H _ ⟨ρ, env, st, v, _, rs, re, e1, fun ρ1 H1 x x1 rs1 rx => ?_⟩)
  exact k ρ1 H1 _ x1 rs1 ((re.mono x1).set rx i)
theorem ss_asg {tg e : Expr} {t : Ir.Tg} {ie : Ir.Ex} {pos : Pos} (he : SE X C e ie) (hg : SG X tg t) (hn : ∀ i, t ≠ .name i := by intro i h; cases h) (hs : swapsWithSole [tg] e pos.line X.env = pure false := by rfl) (hw : swappedStores [tg] e X.env = pure none := by rfl) (h1 : (assignEach [tg] X.env).map (·.2) = [assign tg X.env] := by rfl) :
    SS X C W (.Assign [tg] e pos) (.asg t ie) := by
  refine ps_imp (ps_asg he hg hs hw h1) fun D σ H ⟨ρ, env, st, o, st', rs, re, ev, k⟩ => ?_
  simp only [Ir.exec] at ev
  obtain ⟨v, s1, e1, ev⟩ := bok ev
  obtain ⟨env1, e2, ev⟩ := ook ev
  cases ev
  refine ⟨ρ, env, st, v, _, rs, re, e1, fun ρ1 H1 x x1 rs1 rx => ?_⟩
  cases v with
  | ref n => cases t <;> simp [Ir.Tg.putV] at e2; exact absurd rfl (hn _)
  | d y =>
    have e3 : t.put y env = some env1 := by
      cases t with
      | name i => exact absurd rfl (hn i)
      | tup ts => exact e2
      | star a b c => exact e2
    exact ⟨ρ1, env, _, y, env1, rs1, re.mono x1, rx, e3, fun ρ2 H2 σ2 x2 rs2 re2 _ => k ρ2 H2 σ2 (x1.trans x2) rs2 re2⟩
theorem ss_par (i j : Nat) {x y : Str} {a b : Expr} {ia ib : Ir.Ex} {px py pt pos : Pos} {kt k2 pt2} (hc : X.calm = true) (hN : X.N.Nodup) (ha : SE X C a ia) (hb : SE X C b ib)
    (hw : swappedStores [.Tuple [.Name x px, .Name y py] kt pt] (.Tuple [a, b] k2 pt2) X.env = pure (some [x, y]) := by rfl) (hij : i ≠ j := by decide) (hi : X.N[i]? = some x := by rfl) (hj : X.N[j]? = some y := by rfl)
    (hx : X.env.scope.names.lookup x = some .local := by rfl) (hy : X.env.scope.names.lookup y = some .local := by rfl)
    (hst : starEach [a, b] X.env = (false, eval a X.env) :: starEach [b] X.env := by rfl) (hst2 : starEach [b] X.env = (false, eval b X.env) :: starEach [] X.env := by rfl)
    (hs : swapsWithSole [.Tuple [.Name x px, .Name y py] kt pt] (.Tuple [a, b] k2 pt2) pos.line X.env = pure false := by rfl) :
    SS X C W (.Assign [.Tuple [.Name x px, .Name y py] kt pt] (.Tuple [a, b] k2 pt2) pos) (.par i j ia ib) := by
  refine ps_imp (ps_par hc hN hi hj hij hx hy (pa_cons ha (pa_cons hb pa_nil hst2) hst) hw hs) fun D σ H ⟨ρ, env, st, o, st', rs, re, ev, k⟩ => ?_
  simp only [Ir.exec] at ev
  obtain ⟨v, s1, e1, ev⟩ := bok ev
  obtain ⟨u, s2, e2, ev⟩ := bok ev
  cases ev
  exact tI_two rs re e1 e2 fun ρ1 H1 X Y x1 rs1 rx ry => ⟨X, Y, rfl, k ρ1 H1 _ x1 rs1 (((re.mono x1).set rx i).set ry j)⟩
theorem aug_add : ∀ p q r, Ir.augI .add p q = some r → r = p + q := fun p q r h => by simp [Ir.augI] at h; exact h.symm
/-- o[i] = e, a list or a dict -/
theorem ss_sub {o i e : Expr} {io ii ie : Ir.Ex} {pos pos' : Pos} {n : Nat} (hr : Room n X.A) (he : SE X C e ie) (ho : SE X C o io) (hi : SE X C i ii) (hs : swapsWithSole [.Subscript o i pos'] e pos.line X.env = pure false := by rfl) (hs2 : swapsWith e (some (.Subscript o i pos')) pos.line X.env = pure false := by rfl) (hw : swappedStores [.Subscript o i pos'] e X.env = pure none := by rfl) (h1 : (assignEach [.Subscript o i pos'] X.env).map (·.2) = [assign (.Subscript o i pos') X.env] := by rfl)
    (hasg : ∀ v, assign (.Subscript o i pos') X.env v = (do
      let ov ← holding [v] (eval o X.env)
      let iv ← holding [v, ov] (eval i X.env)
      standAt pos'
      holding [v, ov, iv] (setItem ov iv v)
      release [v, ov, iv] []) := by intro _; rfl) :
    SS X C W (.Assign [.Subscript o i pos'] e pos) (.set io ii ie) := by
  refine ps_imp (ps_or (ps_asg he (pg_sub ho hi set_list hasg) hs hw h1) (ps_dput (hu_of hr) ho hi he hs2)) fun D σ H ⟨ρ, env, st, ou, st', rs, re, ev, k⟩ => ?_
  simp only [Ir.exec] at ev
  obtain ⟨v, s1, e1, ev⟩ := bok ev
  obtain ⟨x, s2, e2, ev⟩ := bok ev
  obtain ⟨y, s3, e3, ev⟩ := bok ev
  obtain ⟨d, e4, ev4⟩ := ook ev
  clear ev
  obtain ⟨s5, e5, ev5⟩ := ook ev4
  clear ev4
  obtain rfl := asD_ok e4
  cases ev5
  cases x with
  | d _ => simp [Ir.setV] at e5
  | ref m =>
    by_cases hd : ∃ kvs, s3[m]? = some (.dic kvs)
    · obtain ⟨kvs, hk⟩ := hd
      refine .inr ⟨ρ, env, st, _, s1, rs, re, e1, fun ρ1 H1 V1 x1 rs1 rv => ⟨ρ1, env, s1, _, s2, rs1, re.mono x1, e2, fun ρ2 H2 O x2 rs2 ro => ⟨ρ2, env, s2, y, s3, rs2, re.mono (x1.trans x2), e3, fun ρ3 H3 Y x3 rs3 ry => ?_⟩⟩⟩
      obtain ⟨a, rfl, h1, ks, h2, h3, h4⟩ := RV.cell rs3 (ro.mono x3) hk (by simp)
      cases y with
      | ref _ => simp [Ir.setV] at e5
      | d key =>
        have hkey : key.key = true ∧ kvs.length < Ir.LIM ∧ st' = s3.set m (.dic (Ir.putK kvs key d)) := by
          cases key <;> simp [Ir.setV, hk] at e5
          · exact ⟨rfl, e5.1, e5.2.symm⟩
          · exact ⟨rfl, e5.1, e5.2.symm⟩
        obtain ⟨hk1, hk2, rfl⟩ := hkey
        obtain ⟨k', hk3, rfl⟩ := RK.kv ry hk1
        have hlen : ks.length < sizeLine := by rw [← h4.length, ← lim_eq]; exact hk2
        have w : Ext ρ3 H3 ρ3 (upd H3 a (.dK (L2.putK ks k' V1))) := .write rs3 h1 _
        refine ⟨a, _, rfl, .k h2 hlen, ?_⟩
        refine k ρ3 _ _ (((x1.trans x2).trans x3).trans w) (rs3.write h1 ⟨_, upd_same, ?_, (h4.mono w).put hk3 (((rv.mono x2).mono x3).mono w)⟩) ((re.mono ((x1.trans x2).trans x3)).mono w)
        have := length_putK ks k' V1
        omega
    · refine .inl ⟨ρ, env, st, _, s1, rs, re, e1, fun ρ1 H1 V1 x1 rs1 rv => ⟨ρ1, env, s1, _, s2, rs1, re.mono x1, e2, fun ρ2 H2 O x2 rs2 ro => ⟨ρ2, env, s2, y, s3, rs2, re.mono (x1.trans x2), e3, fun ρ3 H3 Y x3 rs3 ry => ?_⟩⟩⟩
      cases y with
      | ref _ => simp [Ir.setV] at e5
      | d key =>
        cases key <;> simp only [Ir.setV, reduceCtorEq] at e5
        · rename_i z
          split at e5
          · rename_i xs hx
            simp only [Option.map_eq_some_iff] at e5
            obtain ⟨q, hq, rfl⟩ := e5
            obtain ⟨a, rfl, h1, ys, h2, h3, h4⟩ := RV.cell rs3 (ro.mono x3) hx (by simp)
            have w : Ext ρ3 H3 ρ3 (upd H3 a (.lst (ys.set q V1))) := .write rs3 h1 _
            refine ⟨a, ys, z, q, rfl, RD.int_inv ry, h2, by rw [← h4.length]; exact hq, ?_⟩
            exact k ρ3 _ _ (((x1.trans x2).trans x3).trans w) (rs3.write h1 ⟨_, upd_same, by rw [List.length_set]; exact h3, (h4.mono w).set (((rv.mono x2).mono x3).mono w) q⟩) ((re.mono ((x1.trans x2).trans x3)).mono w)
          · rename_i kvs hk
            exact absurd ⟨kvs, hk⟩ hd
          · cases e5
        · split at e5
          · rename_i kvs hk
            exact absurd ⟨kvs, hk⟩ hd
          · cases e5
end Snd

namespace Snd
open PySem PySem.Spec PyProof.Rows L2
variable {X : Cx} {C : Ir.Calls} {W : WX}
/-! ### loops -/
theorem ss_for {tg iter : Expr} {body : List Stmt} {t : Ir.Tg} {it : Ir.Ex} {ib : List Ir.Stm} {pos : Pos} (hp : PassesOwn (model X.prog X.w) X.A X.env X.xe) (hc : X.calm = true) (hi : SI X C tg iter it) (hg : SG X tg t) (hb : SSs X C W body ib)
    (hs : ∀ x, foldedSetIterable iter X.env x = pure x := by intro _; rfl) : SS X C W (.For tg iter body [] pos) (.loop t it ib) := by
  refine ps_imp (ps_for hp hc hi hg hb hs) fun D σ H ⟨ρ, env, st, o, st', rs, re, ev, k⟩ => ?_
  simp only [Ir.exec] at ev
  obtain ⟨x, s1, e1, ev1⟩ := bok ev
  clear ev
  obtain ⟨p, e2, ev2⟩ := ook ev1
  clear ev1
  obtain ⟨xs, e3, ev3⟩ := ook ev2
  clear ev2
  obtain rfl := asD_ok e2
  refine ⟨ρ, env, st, p, xs, s1, rs, re, e1, e3, fun ρ1 H1 J x1 rs1 wk => ?_⟩
  refine ⟨fun i m σ H' => ∃ ρ' env' st2, Ext ρ1 H1 ρ' H' ∧ RS ρ' X.K st2 H' ∧ REnv ρ' X.K H' env' σ ∧ i ≤ xs.length ∧ m = xs.length - i ∧ Ir.loopL t.putF (Ir.execs C ib) (xs.drop i) env' st2 = .ok o st',
    ⟨xs.length, ρ1, env, s1, .refl _ _, rs1, re.mono x1, Nat.zero_le _, by omega, ev3⟩, ?_⟩
  rintro i m σ2 H2 ⟨ρ2, env2, st2, x2, rs2, re2, hi2, rfl, el⟩
  by_cases hlt : i < xs.length
  · have hx : xs[i]? = some xs[i] := List.getElem?_eq_getElem hlt
    rw [List.drop_eq_getElem_cons hlt] at el
    simp only [Ir.loopL, Ir.Tg.putF_eq] at el
    obtain ⟨env3, e4, el1⟩ := ook el
    clear el
    obtain ⟨o1, s3, e5, el2⟩ := bok el1
    clear el1
    obtain ⟨go, yl⟩ := wk.go i _ ρ2 H2 st2 x2 rs2 hx
    refine .inr ⟨go, fun σ' H' => ∃ m', m' < xs.length - i ∧ ∃ ρ' env' st2, Ext ρ1 H1 ρ' H' ∧ RS ρ' X.K st2 H' ∧ REnv ρ' X.K H' env' σ' ∧ i + 1 ≤ xs.length ∧ m' = xs.length - (i + 1) ∧ Ir.loopL t.putF (Ir.execs C ib) (xs.drop (i + 1)) env' st2 = .ok o st', fun σ' H' h => h, fun v H3 hy => ?_⟩
    obtain ⟨x3, rs3, rx⟩ := yl v H3 hy
    refine ⟨ρ2, env2, st2, _, env3, rs3, re2.mono x3, rx, e4, fun ρ4 H4 σ4 x4 rs4 re4 _ => ⟨ρ4, env3, st2, o1, s3, rs4, re4, e5, ?_⟩⟩
    have x14 : Ext ρ1 H1 ρ4 H4 := (x2.trans x3).trans x4
    cases o1 with
    | nx env5 => exact fun ρ5 H5 σ5 x5 rs5 re5 => ⟨xs.length - (i + 1), by omega, ρ5, env5, s3, x14.trans x5, rs5, re5, hlt, rfl, el2⟩
    | cnt env5 => exact fun ρ5 H5 σ5 x5 rs5 re5 => ⟨xs.length - (i + 1), by omega, ρ5, env5, s3, x14.trans x5, rs5, re5, hlt, rfl, el2⟩
    | brk env5 =>
      simp only at el2
      cases el2
      exact fun ρ5 H5 σ5 x5 rs5 re5 => k ρ5 H5 σ5 ((x1.trans x14).trans x5) rs5 re5
    | ret w =>
      simp only at el2
      cases el2
      exact fun ρ5 H5 σ5 x5 rs5 re5 => k ρ5 H5 σ5 ((x1.trans x14).trans x5) rs5 re5
    | thr c as w =>
      simp only at el2
      cases el2
      exact fun ρ5 H5 σ5 cls d x5 rs5 re5 rx => k ρ5 H5 σ5 cls d ((x1.trans x14).trans x5) rs5 re5 rx
  · have e : i = xs.length := by omega
    subst e
    rw [List.drop_length] at el
    simp only [Ir.loopL] at el
    cases el
    exact .inl ⟨wk.stop _ ρ2 H2 _ x2 rs2 (Nat.le_refl _), k ρ2 H2 σ2 (x1.trans x2) rs2 re2⟩
theorem ss_while {c : Expr} {body : List Stmt} {ic : Ir.Ex} {ib : List Ir.Stm} {pos : Pos} (hp : PassesOwn (model X.prog X.w) X.A X.env X.xe) (hc : ST X C c ic) (hb : SSs X C W body ib) : SS X C W (.While c body [] pos) (.while ic ib) := by
  refine ps_imp (ps_while hp hc hb) fun D σ H ⟨ρ, env, st, o, st', rs, re, ev, k⟩ => ?_
  simp only [Ir.exec] at ev
  obtain ⟨nW, ev⟩ := Ir.whileU_ok ev
  refine ⟨fun m σ H' => ∃ ρ' env' st2, Ext ρ H ρ' H' ∧ RS ρ' X.K st2 H' ∧ REnv ρ' X.K H' env' σ ∧ Ir.whileL (Ir.condB (Ir.eval C ic)) (Ir.execs C ib) m env' st2 = .ok o st',
    ⟨nW, ρ, env, st, .refl _ _, rs, re, ev⟩, ?_⟩
  rintro m σ2 H2 ⟨ρ2, env2, st2, x2, rs2, re2, el⟩
  cases m with
  | zero => simp only [Ir.whileL] at el; cases el
  | succ m =>
    simp only [Ir.whileL] at el
    obtain ⟨b, s1, e1, el1⟩ := bok el
    clear el
    unfold Ir.condB at e1
    obtain ⟨x, s1', e2, e3⟩ := bok e1
    obtain ⟨e4, rfl⟩ := Ir.optR_ok e3
    obtain rfl := asB_ok e4
    refine ⟨ρ2, env2, st2, b, s1, rs2, re2, e2, fun ρ3 H3 x3 rs3 => ?_⟩
    cases b with
    | false =>
      simp only [Bool.false_eq_true, if_false] at el1 ⊢
      cases el1
      exact k ρ3 H3 σ2 (x2.trans x3) rs3 (re2.mono x3)
    | true =>
      simp only [if_true] at el1 ⊢
      obtain ⟨o1, s3, e5, el2⟩ := bok el1
      clear el1
      refine ⟨fun σ' H' => ∃ m', m' < m + 1 ∧ ∃ ρ' env' st2, Ext ρ H ρ' H' ∧ RS ρ' X.K st2 H' ∧ REnv ρ' X.K H' env' σ' ∧ Ir.whileL (Ir.condB (Ir.eval C ic)) (Ir.execs C ib) m' env' st2 = .ok o st', fun σ' H' h => h, ρ3, env2, s1, o1, s3, rs3, re2.mono x3, e5, ?_⟩
      have x13 := x2.trans x3
      cases o1 with
      | nx env5 => exact fun ρ5 H5 σ5 x5 rs5 re5 => ⟨m, Nat.lt_succ_self m, ρ5, env5, s3, x13.trans x5, rs5, re5, el2⟩
      | cnt env5 => exact fun ρ5 H5 σ5 x5 rs5 re5 => ⟨m, Nat.lt_succ_self m, ρ5, env5, s3, x13.trans x5, rs5, re5, el2⟩
      | brk env5 =>
        simp only at el2
        cases el2
        exact fun ρ5 H5 σ5 x5 rs5 re5 => k ρ5 H5 σ5 (x13.trans x5) rs5 re5
      | ret w =>
        simp only at el2
        cases el2
        exact fun ρ5 H5 σ5 x5 rs5 re5 => k ρ5 H5 σ5 (x13.trans x5) rs5 re5
      | thr c as w =>
        simp only at el2
        cases el2
        exact fun ρ5 H5 σ5 cls d x5 rs5 re5 rx => k ρ5 H5 σ5 cls d (x13.trans x5) rs5 re5 rx
/-! ### a def -/
theorem take_rs {ρ ρ1 : Rho} {K : PySem.W.Frag} {st1 : Ir.Store} {H H1 : Hp} (x : Ext ρ H ρ1 H1) (rs1 : RS ρ1 K st1 H1) : RS ⟨ρ1.ix.take ρ.ix.length, ρ.res, ρ1.ob⟩ K (st1.take ρ.ix.length) H1 ∧ Ext ρ H ⟨ρ1.ix.take ρ.ix.length, ρ.res, ρ1.ob⟩ H1 ∧ ∀ b, Rho.own ⟨ρ1.ix.take ρ.ix.length, ρ.res, ρ1.ob⟩ b → ρ1.own b := by
  have sub : ∀ b, Rho.own ⟨ρ1.ix.take ρ.ix.length, ρ.res, ρ1.ob⟩ b → ρ1.own b := fun b q => by
    rcases q with q | q | q
    · exact .inl (List.mem_of_mem_take q)
    · exact .inr (.inl (x.rs b q))
    · exact .inr (.inr q)
  have key : ∀ (n : Nat) (o : Option Addr), (ρ1.ix.take ρ.ix.length)[n]? = some o → n < ρ.ix.length ∧ ρ1.ix[n]? = some o := fun n o h => by
    rw [List.getElem?_take] at h
    split at h
    · exact ⟨by assumption, h⟩
    · cases h
  refine ⟨⟨?_, fun i j a hi hj => rs1.inj i j a (key i _ hi).2 (key j _ hj).2, fun n a hn => ?_, fun n hn => ?_, fun a ha => rs1.kept a (x.rs a ha), fun a ha q => rs1.disj a (x.rs a ha) (List.mem_of_mem_take q), rs1.ra.step (fun h' => RD.sub sub (fun _ _ q => q) h') rfl arena_take (fun _ _ => rfl) (fun b hb q => rs1.ra.nix b hb (List.mem_of_mem_take q)) fun b hb => rs1.ra.nres b (x.rs b hb)⟩, ⟨x.fr, fun b q => ?_, ?_, fun n a q hl => x.ix n a (key n _ q).2 hl, fun _ q => q, fun a ha hn hb => ⟨fun q => (x.rn a ha hn hb).1 (List.mem_of_mem_take q), (x.rn a ha hn hb).2⟩, x.al, x.ob⟩, sub⟩
  · simp [rs1.len]
  · obtain ⟨h1, h2⟩ := key n _ hn
    obtain ⟨c, h3, h4⟩ := rs1.cell n a h2
    exact ⟨c, by rw [List.getElem?_take_of_lt h1]; exact h3, h4.sub sub fun _ _ q => q⟩
  · obtain ⟨h1, h2⟩ := key n _ hn
    rw [List.getElem?_take_of_lt h1]
    exact rs1.dd n h2
  · rcases q with q | q | q
    · exact x.nw b (.inl (List.mem_of_mem_take q))
    · exact .inl (.inr (.inl q))
    · exact x.nw b (.inr (.inr q))
  · have := x.len
    simp
    omega
/-- the first m, and one more behind them -/
theorem pick_rs {ρ ρ1 : Rho} {K : PySem.W.Frag} {st1 : Ir.Store} {H H1 : Hp} {n : Nat} {oa : Option Addr} {c : Ir.Cell} (x : Ext ρ H ρ1 H1) (rs1 : RS ρ1 K st1 H1) (hn : ρ.ix.length ≤ n) (ho : ρ1.ix[n]? = some oa) (hc : st1[n]? = some c) (hna : ∀ os, c ≠ .arena os) :
    RS ⟨ρ1.ix.take ρ.ix.length ++ [oa], ρ.res, ρ1.ob⟩ K (st1.take ρ.ix.length ++ [c]) H1 ∧ Ext ρ H ⟨ρ1.ix.take ρ.ix.length ++ [oa], ρ.res, ρ1.ob⟩ H1 := by
  have hx := x.len
  have hlt : (ρ1.ix.take ρ.ix.length).length = ρ.ix.length := by simp; omega
  have hls : (st1.take ρ.ix.length).length = ρ.ix.length := by rw [List.length_take, rs1.len]; omega
  have mem : ∀ b : Addr, some b ∈ ρ1.ix.take ρ.ix.length ++ [oa] → some b ∈ ρ1.ix := fun b q => by
    rcases List.mem_append.mp q with q | q
    · exact List.mem_of_mem_take q
    · simp at q; rw [← q] at ho; exact List.mem_of_getElem? ho
  have sub : ∀ b, Rho.own ⟨ρ1.ix.take ρ.ix.length ++ [oa], ρ.res, ρ1.ob⟩ b → ρ1.own b := fun b q => by
    rcases q with q | q | q
    · exact .inl (mem b q)
    · exact .inr (.inl (x.rs b q))
    · exact .inr (.inr q)
  have key : ∀ (i : Nat) (o : Option Addr), (ρ1.ix.take ρ.ix.length ++ [oa])[i]? = some o → (i < ρ.ix.length ∧ ρ1.ix[i]? = some o) ∨ (i = ρ.ix.length ∧ o = oa) := fun i o hi => by
    by_cases hl : i < ρ.ix.length
    · rw [List.getElem?_append_left (by omega), List.getElem?_take_of_lt hl] at hi
      exact .inl ⟨hl, hi⟩
    · rw [List.getElem?_append_right (by omega), hlt] at hi
      cases z : i - ρ.ix.length with
      | zero => rw [z] at hi; simp at hi; exact .inr ⟨by omega, hi.symm⟩
      | succ k => rw [z] at hi; simp at hi
  have at1 : ∀ i : Nat, i < ρ.ix.length → (st1.take ρ.ix.length ++ [c])[i]? = st1[i]? := fun i hi => by
    rw [List.getElem?_append_left (by omega), List.getElem?_take_of_lt hi]
  have at2 : (st1.take ρ.ix.length ++ [c])[ρ.ix.length]? = some c := by
    rw [List.getElem?_append_right (by omega), hls]; simp
  refine ⟨⟨by simp [rs1.len], fun i j a hi hj => ?_, fun m a hm => ?_, fun m hm => ?_, fun a ha => rs1.kept a (x.rs a ha), fun a ha q => rs1.disj a (x.rs a ha) (mem a q), rs1.ra.step (fun h' => RD.sub sub (fun _ _ q => q) h') rfl (fun os h' => arena_take os (arena_push hna os h')) (fun _ _ => rfl) (fun b hb q => rs1.ra.nix b hb (mem b q)) fun b hb => rs1.ra.nres b (x.rs b hb)⟩, ⟨x.fr, fun b q => ?_, by simp; omega, fun m a q hl => ?_, fun _ q => q, fun a ha hn2 hb => ⟨fun q => (x.rn a ha hn2 hb).1 (mem a q), (x.rn a ha hn2 hb).2⟩, x.al, x.ob⟩⟩
  · rcases key i _ hi with ⟨h1, h2⟩ | ⟨h1, h2⟩ <;> rcases key j _ hj with ⟨h3, h4⟩ | ⟨h3, h4⟩
    · exact rs1.inj i j a h2 h4
    · rw [← h4] at ho
      have := rs1.inj i n a h2 ho
      omega
    · rw [← h2] at ho
      have := rs1.inj n j a ho h4
      omega
    · omega
  · rcases key m _ hm with ⟨h1, h2⟩ | ⟨h1, h2⟩
    · obtain ⟨c', h3, h4⟩ := rs1.cell m a h2
      exact ⟨c', (at1 m h1).trans h3, h4.sub sub fun _ _ q => q⟩
    · rw [← h2] at ho
      obtain ⟨c', h3, h4⟩ := rs1.cell n a ho
      rw [hc] at h3; cases h3
      subst h1
      exact ⟨c, at2, h4.sub sub fun _ _ q => q⟩
  · rcases key m _ hm with ⟨h1, h2⟩ | ⟨h1, h2⟩
    · rcases rs1.dd m h2 with q | ⟨os, e, q⟩
      · exact .inl ((at1 m h1).trans q)
      · exact .inr ⟨os, e, (at1 m h1).trans q⟩
    · rw [← h2] at ho
      rcases rs1.dd n ho with this | ⟨os, _, this⟩
      · rw [hc] at this; cases this
        subst h1
        exact .inl at2
      · rw [hc] at this; cases this
        exact absurd rfl (hna os)
  · rcases q with q | q | q
    · exact x.nw b (.inl (mem b q))
    · exact .inl (.inr (.inl q))
    · exact x.nw b (.inr (.inr q))
  · rcases key m _ q with ⟨h1, h2⟩ | ⟨h1, h2⟩
    · exact x.ix m a h2 hl
    · omega
theorem leave_ok {ρ ρ1 : Rho} {K : PySem.W.Frag} {st1 st' : Ir.Store} {H H1 : Hp} {v v' : Ir.Val} {y : V} (x : Ext ρ H ρ1 H1) (rs1 : RS ρ1 K st1 H1) (rv : RV ρ1 K H1 v y) (h : Ir.leave ρ.ix.length v st1 = .ok v' st') : ∃ ρ', Ext ρ H ρ' H1 ∧ RS ρ' K st' H1 ∧ RV ρ' K H1 v' y := by
  obtain ⟨t1, t2, sub⟩ := take_rs x rs1
  cases v with
  | d z =>
    simp only [Ir.leave] at h
    cases h
    exact ⟨_, t2, t1, RD.sub sub (fun _ _ q => q) rv⟩
  | ref n =>
    simp only [Ir.leave] at h
    obtain ⟨h1, a, h2, h3⟩ := rv
    have hx := x.len
    split at h
    · rename_i hn
      cases h
      refine ⟨_, t2, t1, ?_, a, h2, fun b hb => h3 b ?_⟩
      · simp; omega
      · have hb : (ρ1.ix.take ρ.ix.length)[n]? = some (some b) := hb
        rw [List.getElem?_take_of_lt hn] at hb
        exact hb
    · rename_i hn
      have fin : ∀ c : Ir.Cell, (∀ os, c ≠ .arena os) → st1[n]? = some c → ∃ ρ', Ext ρ H ρ' H1 ∧ RS ρ' K (st1.take ρ.ix.length ++ [c]) H1 ∧ RV ρ' K H1 (.ref ρ.ix.length) y := fun c hna hc => by
        have ho : ρ1.ix[n]? = some ρ1.ix[n] := List.getElem?_eq_getElem h1
        obtain ⟨q1, q2⟩ := pick_rs x rs1 (by omega) ho hc hna
        have hlt : (ρ1.ix.take ρ.ix.length).length = ρ.ix.length := by simp; omega
        refine ⟨_, q2, q1, by simp; omega, a, h2, fun b hb => h3 b ?_⟩
        have hb : (ρ1.ix.take ρ.ix.length ++ [ρ1.ix[n]])[ρ.ix.length]? = some (some b) := hb
        rw [List.getElem?_append_right (by omega), hlt] at hb
        simp at hb
        rw [ho, hb]
      split at h
      · rename_i xs hc
        cases h
        exact fin _ (fun _ e => by cases e) hc
      · rename_i xs hc
        cases h
        exact fin _ (fun _ e => by cases e) hc
      · cases h
theorem start_ok {ρ : Rho} {K : PySem.W.Frag} {H : Hp} {N : List Str} {args : List Ir.Val} {vs : List V} (h : RVs ρ K H args vs) (m : Nat) (hm : m = N.length) : REnv ρ K H (args.map some ++ List.replicate (m - args.length) none) (L2.start N vs) := by
  subst hm
  have hl := h.length
  refine ⟨by simp [L2.start, hl], fun i v q => ?_⟩
  have gen : ∀ {args : List Ir.Val} {vs : List V}, RVs ρ K H args vs → ∀ (i : Nat) (v : Ir.Val), (args.map some)[i]? = some (some v) → ∃ x, (vs.map some)[i]? = some (some x) ∧ RV ρ K H v x := by
    intro args vs h
    induction h with
    | nil => intro i v q; simp at q
    | cons a r ih =>
      intro i v q
      cases i with
      | zero => simp at q; subst q; exact ⟨_, rfl, a⟩
      | succ i => simpa using ih i v (by simpa using q)
  by_cases hi : i < args.length
  · rw [List.getElem?_append_left (by simpa using hi)] at q
    obtain ⟨x, h1, h2⟩ := gen h i v q
    refine ⟨x, ?_, h2⟩
    unfold L2.start
    rw [List.getElem?_append_left (by simp; omega)]
    exact h1
  · rw [List.getElem?_append_right (by simp; omega)] at q
    rw [List.getElem?_replicate] at q
    split at q <;> simp at q
theorem fn_ok {P : Program} {w : World} {K : PySem.W.Frag} {mg : Str → Option Value} {base : Heap} {x qual : Str} {st : Stmt} {f : Addr} {fd : FuncData} {N ps : List Str} {T : Ir.Tab} {n : Nat} {name : String} {fn : Ir.Fn}
    (F : Fun K x qual st f fd) (S : FnScope N ps (defScope st)) (hT : T name = some fn) (hp : fn.pars = ps.length) (hN : fn.many = N.length)
    (hb : ∀ (cdv : Value) (A : Around) (outer : List Env) (s : Shared) (H : Hp) (E : XK), Room (n + 2) (A.deeper (envOfC qual (defScope st) s.heap.objs.size f cdv)) → SSs (cxOf CX0 P w K mg base N qual (defScope st) f cdv A outer s H E).nox (Ir.callN T n) (fun _ _ _ _ => False) (defBody st) fn.body) :
    FnOk P w K mg base CX0 (n + 2 + 1) f fd ps (spI T (n + 1) K name) := by
  refine F.ok S (fun vs H Q E h => ?_) (fun cdv A outer s H vs Q E hr h => ?_)
  · obtain ⟨ρ, st, args, v, st', rs, ra, ev, k⟩ := h
    simp only [Ir.callN, hT, Ir.runFn] at ev
    split at ev
    · rename_i hc
      rw [← ra.length, hc.1, hp]
    · cases ev
  · obtain ⟨ρ, st, args, v, st', rs, ra, ev, k⟩ := h
    refine ⟨_, hb cdv A outer s H E hr, ?_⟩
    simp only [Ir.callN, hT, Ir.runFn] at ev
    split at ev
    · rename_i hc
      obtain ⟨o, s1, e1, ev1⟩ := bok ev
      have e1 := Ir.noexc_inv e1
      have re := start_ok (N := N) ra fn.many hN
      rw [hc.1] at re
      refine ⟨ρ, _, st, o, s1, rs, re, e1, ?_⟩
      have hlen : st.length = ρ.ix.length := rs.len
      cases o with
      | nx env' =>
        intro ρ1 H1 σ1 x1 rs1 _
        rw [hlen] at ev1
        obtain ⟨ρ', x2, rs2, rv2⟩ := leave_ok (v := .d .non) (y := V.non) x1 rs1 RD.non ev1
        exact k ρ' H1 _ x2 rs2 rv2
      | ret u =>
        intro ρ1 H1 y x1 rs1 ry
        rw [hlen] at ev1
        obtain ⟨ρ', x2, rs2, rv2⟩ := leave_ok x1 rs1 ry ev1
        exact k ρ' H1 _ x2 rs2 rv2
      | brk _ => simp only at ev1; cases ev1
      | cnt _ => simp only at ev1; cases ev1
      | thr c as _ => simp only at ev1; cases ev1
    · cases ev
/-- what is found of a def, a method, a class -/
def FKF (K : PySem.W.Frag) (mg : Str → Option Value) (KW : List Kw) (f : String) (fn : Ir.Fn) : Prop := match fn.k with
  | .df => ∃ a fd ps, mg (Str.ofString f) = some (.ref a) ∧ PySem.W.keepIn K (.ref a) = true ∧ Binds K fd ps [] ∧ ∀ q ∈ KW, q.1 = f → KwOk K fd ps q
  | .mt c m => ∃ Cc a fd ps, CN K c Cc ∧ Cls K Cc ∧ Meth K Cc (Str.ofString m) a ∧ Binds K fd ps []
  | .ct c => ∃ Cc a fd ps, mg (Str.ofString f) = some (.ref Cc) ∧ CN K c Cc ∧ Mk K Cc a ∧ Binds K fd ps [] ∧ f = c ∧ fn = ctorFn c fn.pars
  | .dk => ∃ a fd ps, mg (Str.ofString f) = some (.ref a) ∧ PySem.W.keepIn K (.ref a) = true ∧ ∀ q ∈ KW, q.1 = f → KwOk K fd ps q
theorem FKF.df {K : PySem.W.Frag} {mg : Str → Option Value} {KW : List Kw} {f : String} {fn : Ir.Fn} (hk : fn.k = .df) (h : ∃ a fd ps, mg (Str.ofString f) = some (.ref a) ∧ PySem.W.keepIn K (.ref a) = true ∧ Binds K fd ps [] ∧ ∀ q ∈ KW, q.1 = f → KwOk K fd ps q) : FKF K mg KW f fn := by
  unfold FKF; rw [hk]; exact h
theorem FKF.mt {K : PySem.W.Frag} {mg : Str → Option Value} {KW : List Kw} {f : String} {fn : Ir.Fn} {c m : String} (hk : fn.k = .mt c m) (h : ∃ Cc a fd ps, CN K c Cc ∧ Cls K Cc ∧ Meth K Cc (Str.ofString m) a ∧ Binds K fd ps []) : FKF K mg KW f fn := by
  unfold FKF; rw [hk]; exact h
theorem FKF.ct {K : PySem.W.Frag} {mg : Str → Option Value} {KW : List Kw} {f : String} {fn : Ir.Fn} {c : String} (hk : fn.k = .ct c) (h : ∃ Cc a fd ps, mg (Str.ofString f) = some (.ref Cc) ∧ CN K c Cc ∧ Mk K Cc a ∧ Binds K fd ps [] ∧ f = c ∧ fn = ctorFn c fn.pars) : FKF K mg KW f fn := by
  unfold FKF; rw [hk]; exact h
theorem FKF.dk {K : PySem.W.Frag} {mg : Str → Option Value} {KW : List Kw} {f : String} {fn : Ir.Fn} (hk : fn.k = .dk) (h : ∃ a fd ps, mg (Str.ofString f) = some (.ref a) ∧ PySem.W.keepIn K (.ref a) = true ∧ ∀ q ∈ KW, q.1 = f → KwOk K fd ps q) : FKF K mg KW f fn := by
  unfold FKF; rw [hk]; exact h
theorem fn_zero {k : Nat} {T : Ir.Tab} {P : Program} {w : World} {K : PySem.W.Frag} {mg : Str → Option Value} {base : Heap} {f : String} {a : Addr} {fd : FuncData} {ps : List Str} : FnOk P w K mg base CX0 k a fd ps (spI T 0 K f) := by
  have no : ∀ vs H Q E, ¬ spI T 0 K f vs H Q E := fun vs H Q E ⟨ρ, st, args, v, st', rs, ra, ev, k⟩ => by simp only [Ir.callN] at ev; cases ev
  exact ⟨fun vs H Q E h => absurd h (no vs H Q E), fun A outer s H args us vs Q E _ _ _ _ h => absurd h (no vs H Q E)⟩
theorem ft_zero {T : Ir.Tab} {KW : List Kw} {P : Program} {w : World} {K : PySem.W.Frag} {mg : Str → Option Value} {base : Heap} (h : ∀ f fn, T f = some fn → FKF K mg KW f fn) : FT T KW 0 P w K mg base := by
  have no : ∀ f vs H Q E, ¬ spI T 0 K f vs H Q E := fun f vs H Q E ⟨ρ, st, args, v, st', rs, ra, ev, k⟩ => by simp only [Ir.callN] at ev; cases ev
  have noX : ∀ f vs H Q E, ¬ spX T 0 K mg f vs H Q E := fun f vs H Q E ⟨ρ, st, args, r, rs, ra, ev, k⟩ => by simp only [Ir.callN] at ev; subst ev; exact k
  refine ⟨fun f fn hT _ hk => ?_, fun f fn hT _ hk => ?_, fun f fn hT _ c m hk => ?_, fun f fn hT _ c m hk => ?_, fun f fn hT c hk => ?_, fun f fn hT _ hk => ?_⟩
  · have q := h f fn hT
    unfold FKF at q; rw [hk] at q
    obtain ⟨a, fd, ps, h1, h2, h3⟩ := q
    exact ⟨a, fd, ps, ⟨fun vs H Q E h => absurd h (no f vs H Q E), fun A outer s H args us vs Q E _ _ _ _ h => absurd h (no f vs H Q E)⟩, h1, h2, h3⟩
  · have q := h f fn hT
    unfold FKF at q; rw [hk] at q
    obtain ⟨a, fd, ps, h1, h2, h3⟩ := q
    exact ⟨a, fd, ps, ⟨fun vs H Q E h => absurd h (noX f vs H Q E), fun A outer s H args us vs Q E _ _ _ _ h => absurd h (noX f vs H Q E)⟩, h1, h2, h3⟩
  · have q := h f fn hT
    unfold FKF at q; rw [hk] at q
    obtain ⟨Cc, a, fd, ps, h1, h2, h3, h4⟩ := q
    exact ⟨Cc, a, fd, ps, h1, h2, h3, ⟨fun vs H Q E h => absurd h (no f vs H Q E), fun A outer s H args us vs Q E _ _ _ _ h => absurd h (no f vs H Q E)⟩, h4⟩
  · have q := h f fn hT
    unfold FKF at q; rw [hk] at q
    obtain ⟨Cc, a, fd, ps, h1, h2, h3, h4⟩ := q
    exact ⟨Cc, a, fd, ps, h1, h2, h3, ⟨fun vs H Q E h => absurd h (noX f vs H Q E), fun A outer s H args us vs Q E _ _ _ _ h => absurd h (noX f vs H Q E)⟩, h4⟩
  · have q := h f fn hT
    unfold FKF at q; rw [hk] at q
    obtain ⟨Cc, a, fd, ps, h1, h2, h3, h4, h5, h6⟩ := q
    exact ⟨Cc, a, fd, ps, h1, h2, h3, fun m hm => (by cases hm), h4, h5, h6⟩
  · have q := h f fn hT
    unfold FKF at q; rw [hk] at q
    obtain ⟨a, fd, ps, h1, h2, h3⟩ := q
    exact ⟨a, fd, ps, ⟨fun vs H Q E h => absurd h (no f vs H Q E), fun A outer s H args us vs Q E _ _ _ _ h => absurd h (no f vs H Q E)⟩, h1, h2, h3⟩
/-! ### the law's own call -/
theorem law_spA {T : Ir.Tab} {n : Nat} {K : PySem.W.Frag} {H : Hp} {a : Addr} {ns : List Int} (hO : Only H) (hS : SqL K H a (ns.map V.int)) (hl : ns.length ≤ 63) {st' : Ir.Store} (ev : Ir.callN T n "law" [.d (.ro (ns.map Ir.D.int))] [.arena []] = .ok (.d (.bool true)) st') :
    spI T n K "law" [.ref a] H (fun v _ => v = .bl true) fun _ _ _ => False := by
  have r : RDs ⟨[none], [], []⟩ K H (ns.map Ir.D.int) (ns.map V.int) := by
    clear hl ev hS
    induction ns with
    | nil => exact .nil
    | cons i r ih => exact .cons (.int i) ih
  have hla : LrAt ⟨[none], [], []⟩ K H a (ns.map V.int) := by
    rcases hS with h | h
    · rcases h with h | ⟨o, h⟩
      · rcases hO a with q | ⟨o, xs, q⟩
        · rw [q] at h; cases h
        · rw [q] at h; cases h
      · exact .inl ⟨⟨o, h⟩, by rintro (q | q | q) <;> simp at q⟩
    · exact .inr h
  have hz : (ns.map V.int).length ≤ sizeLine := by
    rw [List.length_map]
    exact Nat.le_trans hl (by decide)
  refine ⟨⟨[none], [], []⟩, [.arena []], [.d (.ro (ns.map Ir.D.int))], _, st', ⟨rfl, fun i j b h => ?_, fun m b h => ?_, fun m h => ?_, fun b h => by simp at h, fun b h => by simp at h, ⟨fun os h => ?_, fun i j b h => by simp at h, fun b h => by simp at h, fun b h => by simp at h, fun b h => by simp at h⟩⟩, .cons (show RV _ K H (.d (.ro (ns.map Ir.D.int))) (.ref a) from RD.ro hla hz r) .nil, ev, fun ρ' H' x _ _ rx => RD.bool_inv rx⟩
  · cases i with
    | zero => simp at h
    | succ i => simp at h
  · cases m with
    | zero => simp at h
    | succ i => simp at h
  · cases m with
    | zero => exact .inr ⟨[], rfl, rfl⟩
    | succ i => simp at h
  · have : os = [] := by
      have := arena_iff.mp h
      simpa using this.symm
    subst this
    exact ⟨rfl, fun n a q => by simp at q⟩
end Snd

namespace Snd
open PySem PySem.Spec PyProof.Rows L2
/-! ### the built-in names -/
theorem bv_len : bootBuiltins (Str.ofString "len") = some (.builtin "len") := by decide +kernel
theorem bv_abs : bootBuiltins (Str.ofString "abs") = some (.builtin "abs") := by decide +kernel
theorem bv_all : bootBuiltins (Str.ofString "all") = some (.builtin "all") := by decide +kernel
theorem bv_any : bootBuiltins (Str.ofString "any") = some (.builtin "any") := by decide +kernel
theorem bv_min : bootBuiltins (Str.ofString "min") = some (.builtin "min") := by decide +kernel
theorem bv_tuple : bootBuiltins (Str.ofString "tuple") = some (.type "tuple") := by decide +kernel
theorem bv_list : bootBuiltins (Str.ofString "list") = some (.type "list") := by decide +kernel
theorem bv_int : bootBuiltins (Str.ofString "int") = some (.type "int") := by decide +kernel
theorem bv_bool : bootBuiltins (Str.ofString "bool") = some (.type "bool") := by decide +kernel
theorem bv_str : bootBuiltins (Str.ofString "str") = some (.type "str") := by decide +kernel
theorem fun_kw {K : PySem.W.Frag} {x qual : Str} {st : Stmt} {f : Addr} {fd : FuncData} {ps : List Str} (F : Fun K x qual st f fd) (q : Kw) (hq : q.2.2.2.2 = [])
    (h : ∀ (kV doc pm : Value) (an : Option Addr) (cdv ct : Value) (us ws : List Value), us.length = q.2.1 → ws.length = q.2.2.1.length → bindArgs (PySem.W.fnOf x qual (defArgs st) (defBody st) (defScope st) .none kV doc pm an cdv ct) ⟨us, q.2.2.1.zip ws⟩ = pure (ps.zip (permV q.2.2.2.1 (us ++ ws)))) : KwOk K fd ps q := by
  obtain ⟨oc, od, kV, doc, pm, an, cdv, ct, osl, rfl, lk, hcd⟩ := F.ex
  exact ⟨[], [], .nil, fun ρ H => by rw [hq]; exact .nil, fun s us ws _ h1 h2 => .of_eq (by rw [List.append_nil]; exact h kV doc pm an cdv ct us ws h1 h2)⟩
end Snd

namespace Snd
open PySem PySem.Spec PyProof.Rows L2
variable {X : Cx} {C : Ir.Calls}
/-! ### dict(pairs) -/
end Snd

set_option maxHeartbeats 2000000
namespace Snd
open PySem PySem.Spec PyProof.Rows L2
/-! list(zip(a, b)) of two tuples -/
section
variable {prog : Program} {w : World} {A : Around} {E : Value → Shared → Prop} {s : Shared}
variable {z TI TO i1 i2 l1 l2 : Addr} {P1 P2 : Nat → Heap → Prop} {xs ys : Array Value}
/-- the zip while a pair T that it gave out is still held -/
structure ZhAt (h : Heap) (z TI TO i1 i2 T : Addr) (f : Bool) (P1 P2 : Nat → Heap → Prop) (k : Nat) : Prop where
  zz : IsZipHeld h z TI TO T f
  tt : ∃ oT, h.get? T = some oT
  ti : IsPair h TI (.ref i1) (.ref i2)
  p1 : P1 k h
  p2 : P2 k h
/-- at any turn of the filling of S -/
def LzAt (h : Heap) (S z TI TO i1 i2 : Addr) (P1 P2 : Nat → Heap → Prop) (k : Nat) : Prop :=
  (k = 0 ∧ ZpAt h z TI TO i1 i2 P1 P2 .none .none k) ∨ ∃ T f, ZhAt h z TI TO i1 i2 T f P1 P2 k ∧ T ≠ S ∧ T ≠ z ∧ T ≠ i1 ∧ T ≠ i2
/-- what is laid: the pairs at their addresses -/
structure LzG (xs ys : Array Value) (lo : Addr) (h : Heap) (as : List Addr) : Prop where
  rise : as.Pairwise (· < ·)
  above : ∀ a ∈ as, lo < a
  pairs : ∀ (j : Nat) (a : Addr), as[j]? = some a → ∃ x y, xs[j]? = some x ∧ ys[j]? = some y ∧ h.get? a = some { cls := .type "tuple", data := .seq #[x, y] }
theorem LzG.there {lo : Addr} {h : Heap} {as : List Addr} (g : LzG xs ys lo h as) {a : Addr} (ha : a ∈ as) : a < h.objs.size := by
  obtain ⟨j, hj⟩ := List.mem_iff_getElem?.mp ha
  obtain ⟨_, _, _, _, e⟩ := g.pairs j a hj
  exact Heap.lt_size e
/-- the cells of the zip and of what it walks -/
structure LzOff (S z TI TO i1 i2 l1 l2 : Addr) : Prop where
  sz : S ≠ z
  sTI : S ≠ TI
  sTO : S ≠ TO
  si1 : S ≠ i1
  si2 : S ≠ i2
  sl1 : S ≠ l1
  sl2 : S ≠ l2
  b1 : i1 < z
  b2 : i2 < z
theorem LzAt.keep (S1 : ItStep prog w i1 l1 P1 xs) (S2 : ItStep prog w i2 l2 P2 ys) {S : Addr} (O : LzOff S z TI TO i1 i2 l1 l2) {h h' : Heap} {k : Nat} (Z : LzAt h S z TI TO i1 i2 P1 P2 k) (hk : ∀ b o, b ≠ S → h.get? b = some o → h'.get? b = some o) : LzAt h' S z TI TO i1 i2 P1 P2 k := by
  rcases Z with ⟨e, Z⟩ | ⟨T, f, Z, hTS, e⟩
  · exact .inl ⟨e, hk _ _ O.sz.symm Z.zz, hk _ _ O.sTI.symm Z.ti, hk _ _ O.sTO.symm Z.to, S1.stay Z.p1 (fun o q => hk _ _ O.si1.symm q) (fun o q => hk _ _ O.sl1.symm q), S2.stay Z.p2 (fun o q => hk _ _ O.si2.symm q) (fun o q => hk _ _ O.sl2.symm q)⟩
  · obtain ⟨oT, hT⟩ := Z.tt
    exact .inr ⟨T, f, ⟨hk _ _ O.sz.symm Z.zz, ⟨oT, hk _ _ hTS hT⟩, hk _ _ O.sTI.symm Z.ti, S1.stay Z.p1 (fun o q => hk _ _ O.si1.symm q) (fun o q => hk _ _ O.sl1.symm q), S2.stay Z.p2 (fun o q => hk _ _ O.si2.symm q) (fun o q => hk _ _ O.sl2.symm q)⟩, hTS, e⟩
theorem LzAt.zip {S : Addr} {h : Heap} {k : Nat} (Z : LzAt h S z TI TO i1 i2 P1 P2 k) : ∃ o, h.get? z = some o ∧ o.cls = .type "zip" := by
  rcases Z with ⟨e, Z⟩ | ⟨T, f, Z, hTS, e⟩
  · exact ⟨_, Z.zz, rfl⟩
  · exact ⟨_, Z.zz, rfl⟩
end
section
variable {prog : Program} {w : World} {A : Around} {s : Shared} {R : Result → Shared → Prop}
variable {z TI TO i1 i2 l1 l2 : Addr} {P1 P2 : Nat → Heap → Prop} {xs ys : Array Value}
end
end Snd

set_option maxHeartbeats 2000000
namespace Snd
open PySem PySem.Spec PyProof.Rows L2
section
variable {prog : Program} {w : World} {A : Around} {E : Value → Shared → Prop} {s : Shared}
end
section
variable {prog : Program} {w : World} {A : Around} {s : Shared} {R : Result → Shared → Prop}
variable {z TI TO i1 i2 l1 l2 : Addr} {P1 P2 : Nat → Heap → Prop} {xs ys : Array Value}
end
/-! ### the rule -/
end Snd

set_option maxHeartbeats 2000000
namespace Snd
open PySem PySem.Spec PyProof.Rows L2
section
variable {X : Cx} {e e2 : Expr} {ta : TA} {p p2 pos pos2 : Pos}
end
end Snd

namespace Snd
open PySem PySem.Spec PyProof.Rows L2
variable {X : Cx} {C : Ir.Calls}
/-! ### list(zip(a, b)) -/
end Snd

namespace Snd
open PySem PySem.Spec PyProof.Rows L2
variable {X : Cx} {C : Ir.Calls}
/-! ### a dict display -/
def flatP : List (V × V) → List V
  | [] => []
  | p :: ps => p.1 :: p.2 :: flatP ps
structure SPs (X : Cx) (C : Ir.Calls) (pos : Pos) (keys : List (Option Expr)) (values : List Expr) (is : List Ir.Ex) : Prop where
  ex : ∃ trs, PPs X pos keys values trs ∧ keys.all (·.isSome) = true ∧ keys.length = values.length ∧
    ∀ σ H ρ env st vs st' (Q : List (V × V) → Hp → Prop), RS ρ X.K st H → REnv ρ X.K H env σ → Ir.evals C is env st = .ok vs st' →
      (∀ ρ' H' ps, Ext ρ H ρ' H' → RS ρ' X.K st' H' → RVs ρ' X.K H' vs (flatP ps) → ps.length = keys.length → Q ps H') → tPairs trs σ H Q
/-! ### a list and a list -/
/-! ### pop(0) -/
end Snd

namespace Snd
open PySem PySem.Spec PyProof.Rows L2
variable {X : Cx} {C : Ir.Calls}
/-! ### int(b), str(i) -/
/-! ### join -/
/-! ### f-strings -/
structure SFs (X : Cx) (C : Ir.Calls) (es : List Expr) (is : List Ir.Ex) : Prop where
  ex : ∃ ts, PJ X es ts ∧ ∀ (acc : String) σ H ρ env st vs st' ds ys (Q : Str → Hp → Prop), RS ρ X.K st H → REnv ρ X.K H env σ → Ir.evals C is env st = .ok vs st' → Ir.asDs vs = some ds → Ir.D.strs ds = some ys → acc.length + (ys.map (·.length)).sum ≤ Ir.LIM →
    (∀ ρ' H', Ext ρ H ρ' H' → RS ρ' X.K st' H' → Q (Str.ofString (acc ++ Ir.joinS "" ys)) H') → tJs ts (Str.ofString acc) σ H Q
end Snd

set_option maxHeartbeats 2000000
namespace Snd
open PySem PySem.Spec PyProof.Rows L2
open AutoSeq1 (wpAny_loadPart')
/-! enumerate(tuple) -/
section
variable {prog : Program} {w : World} {A : Around} {E : Value → Shared → Prop} {s : Shared}
end
end Snd

set_option maxHeartbeats 1000000
namespace Snd
open PySem PySem.Spec PyProof.Rows L2
/-! zip of a list and a text -/
structure ItStepS (prog : Program) (w : World) (it : Addr) (P : Nat → Heap → Prop) (x : Str) : Prop where
  next : ∀ {B : Around} {F : Value → Shared → Prop} {t : Shared} {k c : Nat} {R : Value → Shared → Prop}, P k t.heap → x.cps[k]? = some c → (∀ g, P (k + 1) g → Heap.SameBut it t.heap g → R (.str ⟨#[c]⟩ t.toks) { t with heap := g, toks := t.toks + 1 }) → wpAny (model prog w) B (Builtin.SmallTypes.nextOf (.ref it)) R F t
  over : ∀ {B : Around} {F : Value → Shared → Prop} {t : Shared} {k : Nat} {R : Value → Shared → Prop}, B.handled = none → P k t.heap → x.cps[k]? = none → (∀ g e, Heap.ExtBut it t.heap g → (∃ o, g.get? e = some o ∧ o.cls = .type "StopIteration") → F (.ref e) { t with heap := g }) → wpAny (model prog w) B (Builtin.SmallTypes.nextOf (.ref it)) R F t
  stay : ∀ {k : Nat} {g g' : Heap}, P k g → (∀ o, g.get? it = some o → g'.get? it = some o) → P k g'
section
variable {prog : Program} {w : World} {A : Around} {E : Value → Shared → Prop} {s : Shared}
variable {z TI TO i1 i2 l1 : Addr} {P1 P2 : Nat → Heap → Prop} {xs : Array Value} {tx : Str} {a b : Value}
end
end Snd

set_option maxHeartbeats 1000000
namespace Snd
open PySem PySem.Spec PyProof.Rows L2
end Snd

set_option maxHeartbeats 1000000
namespace Snd
open PySem PySem.Spec PyProof.Rows L2
section
variable {prog : Program} {w : World} {A : Around} {E : Value → Shared → Prop} {s : Shared}
end
end Snd

namespace Snd
open PySem PySem.Spec PyProof.Rows L2
variable {X : Cx} {C : Ir.Calls}
/-! ### enumerate -/
/-! ### reversed(range(..)) -/
/-! ### the signs of a text -/
/-! ### a sign in a text -/
/-! ### zip of a list and a text -/
end Snd

namespace Snd
open PySem PySem.Spec PyProof.Rows L2
variable {X : Cx} {C : Ir.Calls}
/-! ### what the module holds -/
mutual
/-- a value of the module is some data -/
inductive KV (K : PySem.W.Frag) : Ir.D → Value → Prop
  | non : KV K .non .none
  | bool (b : Bool) : KV K (.bool b) (.bool b)
  | int (i : Int) (t : Tok) : KV K (.int i) (.int i t)
  | str (s : String) (t : Tok) : KV K (.str s) (.str (Str.ofString s) t)
  | tup {a : Addr} {xs : List Ir.D} {dd : Option Addr} {us : List Value} {n : Nat} {sl : Array (Option Value)} : K.lookup a = some ⟨.type "tuple", dd, .seq us.toArray n, sl⟩ → us.length ≤ sizeLine → KVs K xs us → KV K (.tup xs) (.ref a)
  | fn {f : String} {a : Addr} : PySem.W.nsIn K mainGlobals (Str.ofString f) = some (some (.ref a)) → KV K (.fn f) (.ref a)
inductive KVs (K : PySem.W.Frag) : List Ir.D → List Value → Prop
  | nil : KVs K [] []
  | cons {x : Ir.D} {xs : List Ir.D} {u : Value} {us : List Value} : KV K x u → KVs K xs us → KVs K (x :: xs) (u :: us)
end
mutual
theorem KV.rel {K : PySem.W.Frag} {d : Ir.D} {u : Value} (h : KV K d u) : ∃ v, RelV v u ∧ ∀ ρ H, RD ρ K H d v := by
  cases h with
  | non => exact ⟨.non, rfl, fun _ _ => .non⟩
  | bool b => exact ⟨.bl b, rfl, fun _ _ => .bool b⟩
  | int i t => exact ⟨.int i, ⟨t, rfl⟩, fun _ _ => .int i⟩
  | str s t => exact ⟨.str (Str.ofString s), ⟨t, rfl⟩, fun _ _ => .str s⟩
  | fn h => exact ⟨.ref _, rfl, fun _ _ => .fn h⟩
  | tup hl hz hs =>
    obtain ⟨vs, h1, h2⟩ := hs.rel
    refine ⟨.ref _, rfl, fun ρ H => .tup (.inr ⟨_, _, _, hl, rfl, rfl, by simpa using hz, by simpa using h1⟩) (by rw [h1.length]; exact hz) (h2 ρ H)⟩
theorem KVs.rel {K : PySem.W.Frag} {ds : List Ir.D} {us : List Value} (h : KVs K ds us) : ∃ vs, Vals vs us ∧ ∀ ρ H, RDs ρ K H ds vs := by
  cases h with
  | nil => exact ⟨[], .nil, fun _ _ => .nil⟩
  | cons h hs =>
    obtain ⟨v, h1, h2⟩ := h.rel
    obtain ⟨vs, h3, h4⟩ := hs.rel
    exact ⟨v :: vs, .cons h1 h3, fun ρ H => .cons (h2 ρ H) (h4 ρ H)⟩
end
theorem se_glb {x : Str} {d : Ir.D} {pos : Pos} (h : ∃ u, X.mg x = some u ∧ KV X.K d u) (hg : Gl X x := by rfl) (hd : (x == ("__debug__" : Str)) = false := by decide) : SE X C (.Name x pos) (.con d) := by
  obtain ⟨u, hm, kv⟩ := h
  obtain ⟨v, rv, rd⟩ := kv.rel
  refine pe_imp (pe_glob hg hm rv hd) fun σ H Q ⟨ρ, env, st, w, st', rs, re, ev, k⟩ => ?_
  simp only [Ir.eval] at ev
  cases ev
  exact k ρ H _ (.refl _ _) rs (rd ρ H)
/-- the entries of a dict of the module -/
inductive KEs (K : PySem.W.Frag) (P : Params) : List (String × Ir.D) → List DictEntry → Prop
  | nil : KEs K P [] []
  | cons {z : String} {d : Ir.D} {kvs : List (String × Ir.D)} {e : DictEntry} {es : List DictEntry} {t : Tok} : e.key = .str (Str.ofString z) t → e.hash = PyData.keyHash P (Str.ofString z) → KV K d e.val → KEs K P kvs es → KEs K P ((z, d) :: kvs) (e :: es)
theorem KEs.lit {K : PySem.W.Frag} {P : Params} {kvs : List (String × Ir.D)} {es : List DictEntry} (h : KEs K P kvs es) : PySem.W.KeysLit P es := by
  induction h with
  | nil => trivial
  | cons h1 h2 h3 h4 ih => exact ⟨⟨_, _, h1, h2⟩, ih⟩
theorem KEs.find {K : PySem.W.Frag} {P : Params} {kvs : List (String × Ir.D)} {es : List DictEntry} (h : KEs K P kvs es) (z : String) :
    (∃ d e, kvs.lookup z = some d ∧ es.find? (·.key.isStr (Str.ofString z)) = some e ∧ KV K d e.val) ∨ (kvs.lookup z = none ∧ es.find? (·.key.isStr (Str.ofString z)) = none ∧ es.any (·.refKey) = false) := by
  induction h with
  | nil => exact .inr ⟨rfl, rfl, rfl⟩
  | @cons y d kvs e es t h1 h2 h3 h4 ih =>
    by_cases hz : z = y
    · subst hz
      refine .inl ⟨d, e, by simp [List.lookup], ?_, h3⟩
      rw [List.find?_cons_of_pos]
      rw [h1]; simp [Value.isStr]
    · have hb : (z == y) = false := by simpa using hz
      have hk : e.key.isStr (Str.ofString z) = false := by
        rw [h1]
        simp only [Value.isStr]
        simpa using fun e => hz (ofString_inj e.symm)
      have hr : e.refKey = false := by simp [DictEntry.refKey, h1]
      rw [List.find?_cons_of_neg (by simp [hk])]
      simp only [List.lookup, hb, List.any_cons, hr, Bool.false_or]
      exact ih
structure KD (K : PySem.W.Frag) (w : World) (kvs : List (String × Ir.D)) (a : Addr) : Prop where
  ex : ∃ es n, K.lookup a = some ⟨.type "dict", none, .dict es n, #[]⟩ ∧ KEs K w.params kvs es.toList ∧ (a == sysModules) = false
theorem KD.ns {K : PySem.W.Frag} {w : World} {kvs : List (String × Ir.D)} {a : Addr} (h : KD K w kvs a) (z : String) :
    (∃ d u, kvs.lookup z = some d ∧ PySem.W.nsIn K a (Str.ofString z) = some (some u) ∧ KV K d u) ∨ (kvs.lookup z = none ∧ PySem.W.nsIn K a (Str.ofString z) = some none) := by
  obtain ⟨es, n, hl, hk, hs⟩ := h.ex
  rcases hk.find z with ⟨d, e, h1, h2, h3⟩ | ⟨h1, h2, h3⟩
  · exact .inl ⟨d, e.val, h1, by unfold PySem.W.nsIn; rw [hl]; simp only [h2], h3⟩
  · exact .inr ⟨h1, by unfold PySem.W.nsIn; rw [hl]; simp only [h2, h3, Bool.false_eq_true, if_false]⟩
theorem KD.kd {w : World} {K : PySem.W.Frag} {kvs : List (String × Ir.D)} {a : Addr} (h : KD K w kvs a) : ∃ es n, KDict K w a es n := by
  obtain ⟨es, n, hl, hk, hs⟩ := h.ex
  exact ⟨es, n, hl, hk.lit, hs⟩
theorem kd_str {o : Ir.Kq} {kvs : List (String × Ir.D)} {x : Ir.Val} {r : Ir.D} (h : Ir.kdV o kvs x = some r) : ∃ z, x = .d (.str z) := by
  unfold Ir.kdV at h
  split at h
  · exact ⟨_, rfl⟩
  · cases h
section
variable {a : Expr} {ia : Ir.Ex} {x : Str} {kvs : List (String × Ir.D)} {p' pos : Pos}
theorem se_kdidx (h : ∃ p, X.mg x = some (.ref p) ∧ KD X.K X.w kvs p) (ha : SE X C a ia) (hg : Gl X x := by rfl) (hd : (x == ("__debug__" : Str)) = false := by decide) (hs : PlainIx a := by exact fun _ _ => rfl) : SE X C (.Subscript (.Name x p') a pos) (.kd .idx kvs ia) := by
  obtain ⟨q, hq, kd⟩ := h
  refine pe_imp (pe_ix ix_kdict (pe_glob (v := .ref q) hg hq rfl hd) ha hs) fun σ H Q ⟨ρ, env, st, v, st', rs, re, ev, k⟩ => ?_
  simp only [Ir.eval] at ev
  obtain ⟨y, s1, e1, ev⟩ := bok ev
  obtain ⟨r, e2, ev⟩ := ook ev
  cases ev
  obtain ⟨z, rfl⟩ := kd_str e2
  refine ⟨ρ, env, st, _, _, rs, re, e1, fun ρ1 H1 X1 x1 rs1 rx => ?_⟩
  obtain rfl := RD.str_inv rx
  rcases kd.ns z with ⟨d, u, h1, h2, h3⟩ | ⟨h1, h2⟩
  · simp only [Ir.kdV, h1, Option.some.injEq] at e2
    subst e2
    obtain ⟨v, rv, rd⟩ := h3.rel
    obtain ⟨es, n, hl, hk, _⟩ := kd.ex
    exact ⟨_, _, v, rfl, rfl, ⟨es, n, u, hl, hk.lit, h2, rv⟩, k ρ1 H1 _ x1 rs1 (rd ρ1 H1)⟩
  · simp only [Ir.kdV, h1, reduceCtorEq] at e2
end
/-! ### a list some times over -/
/-! ### defs with defaults -/
section
variable {K : PySem.W.Frag} {x qual : Str} {params : Arguments} {body : List Stmt} {scope : Scope} {dvs : List V} {kws : List (Str × V)} {f : Addr} {fd : FuncData} {ps : List Str}
end
end Snd

namespace Snd
open PySem PySem.Spec PyProof.Rows L2
variable {X : Cx} {C : Ir.Calls}
/-! ### list(range(..)) -/
/-! ### sorted, of ints -/
/-! ### range by steps of two -/
/-! ### d.get(k) -/
end Snd

namespace Snd
open PySem PySem.Spec PyProof.Rows L2
variable {X : Cx} {C : Ir.Calls} {W : WX}
/-! ### expressions that may raise -/
/-! ### statements -/
/-! ### a list turned round -/
theorem RDs.reverse {ρ : Rho} {K : PySem.W.Frag} {H : Hp} : ∀ {xs : List Ir.D} {ys : List V}, RDs ρ K H xs ys → RDs ρ K H xs.reverse ys.reverse
  | _, _, .nil => .nil
  | _, _, .cons h r => by
    simp only [List.reverse_cons]
    exact (RDs.reverse r).append (.cons h .nil)
end Snd

namespace Snd
open PySem PySem.Spec PyProof.Rows L2
/-! ### set(x), x a list of ints -/
section
variable {P : Program} {w : World} {A : Around} {E : Value → Shared → Prop} {t : Shared}
end
section
variable {X : Cx} {C : Ir.Calls}
/-! ### a raising function called where it does not raise -/
end
end Snd

namespace HT
open PySem PySem.Spec PyProof.Rows
/-! ### t[::-1] -/
section
variable {prog : Program} {w : World} {A : Around} {E : Value → Shared → Prop} {s : Shared}
end
end HT
namespace Snd
open PySem PySem.Spec PyProof.Rows L2
variable {X : Cx} {C : Ir.Calls}
/-! ### max(xs, default=d) -/
end Snd

namespace Snd
open PySem PySem.Spec PyProof.Rows L2
/-! ### objects: fields, methods, lists and dicts that live in the arena -/
theorem getO_inv {st : Ir.Store} {v : Ir.Val} {n : Nat} {o : Ir.Obj} (h : Ir.getO st v = some (n, o)) : v = .d (.oid n) ∧ ∃ os, Ir.arenaOf st = some os ∧ os[n]? = some o := by
  unfold Ir.getO at h
  split at h
  · rename_i m
    split at h
    · rename_i os ho
      simp only [Option.map_eq_some_iff, Prod.mk.injEq] at h
      obtain ⟨o', h1, rfl, rfl⟩ := h
      exact ⟨rfl, os, ho, h1⟩
    · cases h
  · cases h
theorem putO_eq {st : Ir.Store} {os : List Ir.Obj} (h : Ir.arenaOf st = some os) (n : Nat) (o : Ir.Obj) : Ir.putO st n o = st.set 0 (.arena (os.set n o)) := by
  unfold Ir.putO; rw [h]
theorem obj_at {ρ : Rho} {K : PySem.W.Frag} {H : Hp} {st : Ir.Store} {v : Ir.Val} {x : V} {n : Nat} {o : Ir.Obj} (rs : RS ρ K st H) (r : RV ρ K H v x) (h : Ir.getO st v = some (n, o)) : ∃ a os, x = .ref a ∧ ρ.ob[n]? = some a ∧ Ir.arenaOf st = some os ∧ RO ρ K H a o := by
  obtain ⟨rfl, os, h1, h2⟩ := getO_inv h
  obtain ⟨a, h3, h4⟩ := rs.getO h1 h2
  have r : RD ρ K H (.oid n) x := r
  cases r with
  | oid q => rw [h3] at q; cases q; exact ⟨a, os, rfl, h3, h1, h4⟩
section
variable {ρ : Rho} {K : PySem.W.Frag} {H : Hp}
theorem RFs.length : ∀ {fs : List (String × Ir.D)} {gs : List (Str × V)}, RFs ρ K H fs gs → fs.length = gs.length
  | _, _, .nil => rfl
  | _, _, .cons _ r => congrArg (· + 1) r.length
theorem RFs.look {f : String} : ∀ {fs : List (String × Ir.D)} {gs : List (Str × V)}, RFs ρ K H fs gs → (Ir.lookF f fs = none ∧ gs.lookup (Str.ofString f) = none) ∨ ∃ d v, Ir.lookF f fs = some d ∧ gs.lookup (Str.ofString f) = some v ∧ RD ρ K H d v
  | _, _, .nil => .inl ⟨rfl, rfl⟩
  | _, _, .cons (f := g) (x := x) (y := y) h r => by
    have hb := ofString_beq f g
    by_cases e : f = g
    · subst e
      refine .inr ⟨x, y, ?_, ?_, h⟩
      · simp [Ir.lookF]
      · simp [List.lookup]
    · have hb : (Str.ofString f == Str.ofString g) = false := by rw [hb]; simpa using e
      rcases RFs.look (f := f) r with ⟨h1, h2⟩ | ⟨d, v, h1, h2, h3⟩
      · exact .inl ⟨by simp [Ir.lookF, e, h1], by simp [List.lookup, hb, h2]⟩
      · exact .inr ⟨d, v, by simp [Ir.lookF, e, h1], by simp [List.lookup, hb, h2], h3⟩
theorem RFs.put {f : String} {d : Ir.D} {v : V} (h : RD ρ K H d v) : ∀ {fs : List (String × Ir.D)} {gs : List (Str × V)}, RFs ρ K H fs gs → RFs ρ K H (Ir.putFd f d fs) (L2.putF (Str.ofString f) v gs)
  | _, _, .nil => .cons h .nil
  | _, _, .cons (f := g) q r => by
    unfold Ir.putFd L2.putF
    by_cases e : g = f
    · subst e
      simp only [if_true]
      exact .cons h r
    · have : ¬ Str.ofString g = Str.ofString f := fun z => e (ofString_inj z)
      rw [if_neg e, if_neg this]
      exact .cons q (RFs.put h r)
end
/-- the facts of a class -/
def ClsF (K : PySem.W.Frag) (c : String) (fs : List String) : Prop := ∃ C, CN K c C ∧ Cls K C ∧ ∀ f ∈ fs, NoAttr K C (Str.ofString f)
variable {X : Cx} {C : Ir.Calls} {W : WX}
theorem fldV_inv {st : Ir.Store} {v : Ir.Val} {c f : String} {d : Ir.D} (h : Ir.fldV st v c f = some d) : ∃ n fs, Ir.getO st v = some (n, .inst c fs) ∧ Ir.lookF f fs = some d := by
  unfold Ir.fldV at h
  split at h
  · rename_i n c' fs hg
    split at h
    · rename_i e; subst e; exact ⟨_, _, hg, h⟩
    · cases h
  · cases h
theorem setFV_inv {st s' : Ir.Store} {v : Ir.Val} {c f : String} {d : Ir.D} (h : Ir.setFV st v c f d = some s') : ∃ n fs, Ir.getO st v = some (n, .inst c fs) ∧ fs.length < 1000 ∧ s' = Ir.putO st n (.inst c (Ir.putFd f d fs)) := by
  unfold Ir.setFV at h
  split at h
  · rename_i n c' fs hg
    split at h
    · rename_i e
      obtain ⟨e1, e2⟩ := e
      subst e1
      cases h
      exact ⟨_, _, hg, e2, rfl⟩
    · cases h
  · cases h
theorem se_fld {c f : String} {L : List String} {o : Expr} {io : Ir.Ex} {pos : Pos} (cf : ClsF X.K c L) (hf : f ∈ L) (h : SE X C o io) (hb : attributeBase o (Str.ofString f) X.env (eval o X.env) = eval o X.env := by rfl) : SE X C (.Attribute o (Str.ofString f) pos) (.fld c io f) := by
  obtain ⟨Cc, n1, cl, na⟩ := cf
  refine pe_imp (pe_fld h hb) fun σ H Q ⟨ρ, env, st, v, st', rs, re, ev, k⟩ => ?_
  simp only [Ir.eval] at ev
  obtain ⟨x, s1, e1, ev⟩ := bok ev
  obtain ⟨d, e2, ev⟩ := ook ev
  cases ev
  refine ⟨ρ, env, st, x, _, rs, re, e1, fun ρ1 H1 X1 x1 rs1 rx => ?_⟩
  obtain ⟨n, fs, hg, hl⟩ := fldV_inv e2
  obtain ⟨a, os, rfl, ha, hA, ⟨C', dx, gs, hn, hH, hF⟩⟩ := obj_at rs1 rx hg
  obtain rfl := hn.inj n1
  rcases hF.look (f := f) with ⟨z, _⟩ | ⟨d', w, z1, z2, z3⟩
  · rw [hl] at z; cases z
  · rw [hl] at z1; cases z1
    exact ⟨a, C', dx, gs, w, rfl, hH, cl, na f hf, z2, k ρ1 H1 w x1 rs1 z3⟩
/-- an object's new content -/
theorem put_obj {ρ : Rho} {K : PySem.W.Frag} {st : Ir.Store} {H : Hp} (rs : RS ρ K st H) {os : List Ir.Obj} (hA : Ir.arenaOf st = some os) {n : Nat} {a : Addr} (ha : ρ.ob[n]? = some a) {u : HO} {o : Ir.Obj} (q : RO ρ K (upd H a u) a o) : Ext ρ H ρ (upd H a u) ∧ RS ρ K (Ir.putO st n o) (upd H a u) := by
  rw [putO_eq hA]
  exact ⟨Ext.writeO rs ha u, rs.writeO hA ha q⟩
theorem ss_setf {c f : String} {L : List String} {o e : Expr} {io ie : Ir.Ex} {pos pos' : Pos} (cf : ClsF X.K c L) (hf : f ∈ L) (he : SE X C e ie) (ho : SE X C o io) (hs : swapsWith e (some (.Attribute o (Str.ofString f) pos')) pos.line X.env = pure false := by rfl) :
    SS X C W (.Assign [.Attribute o (Str.ofString f) pos'] e pos) (.setf c io f ie) := by
  obtain ⟨Cc, n1, cl, na⟩ := cf
  refine ps_imp (ps_fld ho he hs) fun D σ H ⟨ρ, env, st, ou, st', rs, re, ev, k⟩ => ?_
  simp only [Ir.exec] at ev
  obtain ⟨v, s1, e1, ev⟩ := bok ev
  obtain ⟨x, s2, e2, ev⟩ := bok ev
  obtain ⟨d, e3, ev3⟩ := ook ev
  clear ev
  obtain ⟨s4, e4, ev4⟩ := ook ev3
  clear ev3
  obtain rfl := asD_ok e3
  cases ev4
  refine ⟨ρ, env, st, _, s1, rs, re, e1, fun ρ1 H1 V1 x1 rs1 rv => ⟨ρ1, env, s1, _, s2, rs1, re.mono x1, e2, fun ρ2 H2 O x2 rs2 ro => ?_⟩⟩
  obtain ⟨n, fs, hg, hl, rfl⟩ := setFV_inv e4
  obtain ⟨a, os, rfl, ha, hA, ⟨C', dx, gs, hn, hH, hF⟩⟩ := obj_at rs2 ro hg
  obtain rfl := hn.inj n1
  have w : Ext ρ2 H2 ρ2 (upd H2 a (.ins C' dx (L2.putF (Str.ofString f) V1 gs))) := .writeO rs2 ha _
  have rw' : RD ρ2 X.K _ d V1 := (RD.mono x2 rv)
  obtain ⟨w1, w2⟩ := put_obj (o := .inst c (Ir.putFd f d fs)) rs2 hA ha ⟨C', dx, _, hn, upd_same, (RFs.map (fun h => RD.mono w h) hF).put (RD.mono w rw')⟩
  exact ⟨a, C', dx, gs, rfl, hH, cl, na f hf, by rw [← hF.length]; exact hl, k ρ2 _ σ ((x1.trans x2).trans w1) w2 ((re.mono (x1.trans x2)).mono w1)⟩
theorem ss_augf {c f : String} {L : List String} {o e : Expr} {io ie : Ir.Ex} {op : Operator} {p : Ir.Op} {g : Int → Int → Int} {pos pos' : Pos} (cf : ClsF X.K c L) (hf : f ∈ L) (hop : InOp X op (ipI g)) (hg : ∀ i j r, Ir.augI p i j = some r → r = g i j) (he : SE X C e ie) (ho : SE X C o io) :
    SS X C W (.AugAssign (.Attribute o (Str.ofString f) pos') op e pos) (.augf c io f p ie) := by
  obtain ⟨Cc, n1, cl, na⟩ := cf
  refine ps_imp (ps_fldaug ho he hop) fun D σ H ⟨ρ, env, st, ou, st', rs, re, ev, k⟩ => ?_
  simp only [Ir.exec] at ev
  obtain ⟨x, s1, e1, ev1⟩ := bok ev
  clear ev
  obtain ⟨ad, e2, ev2⟩ := ook ev1
  clear ev1
  obtain ⟨i, e3, ev3⟩ := ook ev2
  clear ev2
  obtain ⟨y, s4, e4, ev4⟩ := bok ev3
  clear ev3
  obtain ⟨j, e5, ev5⟩ := ook ev4
  clear ev4
  obtain ⟨r, e6, ev6⟩ := ook ev5
  clear ev5
  obtain ⟨s7, e7, ev7⟩ := ook ev6
  clear ev6
  have e3 := asI_ok e3
  cases e3
  obtain rfl := asI_ok e5
  obtain rfl := hg _ _ _ e6
  cases ev7
  refine ⟨ρ, env, st, x, _, rs, re, e1, fun ρ1 H1 X1 x1 rs1 rx => ?_⟩
  obtain ⟨n, fs, hgo, hl⟩ := fldV_inv e2
  obtain ⟨a, os, rfl, ha, hA, ⟨C', dx, gs, hn, hH, hF⟩⟩ := obj_at rs1 rx hgo
  obtain rfl := hn.inj n1
  rcases hF.look (f := f) with ⟨z, _⟩ | ⟨d', w, z1, z2, z3⟩
  · rw [hl] at z; cases z
  rw [hl] at z1; cases z1
  refine ⟨a, C', dx, gs, w, rfl, hH, cl, na f hf, z2, ρ1, env, _, _, _, rs1, re.mono x1, e4, fun ρ2 H2 Y x2 rs2 ry => ⟨i, j, RD.int_inv z3, RD.int_inv ry, ?_⟩⟩
  obtain ⟨n', fs', hg', hl', rfl⟩ := setFV_inv e7
  obtain ⟨a', os', e', ha', hA', ⟨C2, dx', gs', hn', hH', hF'⟩⟩ := obj_at rs2 (rx.mono x2) hg'
  cases e'
  obtain rfl := hn'.inj hn
  have w : Ext ρ2 H2 ρ2 (upd H2 a (.ins C2 dx' (L2.putF (Str.ofString f) (.int (g i j)) gs'))) := .writeO rs2 ha' _
  obtain ⟨w1, w2⟩ := put_obj (o := .inst c (Ir.putFd f (.int (g i j)) fs')) rs2 hA' ha' ⟨C2, dx', _, hn', upd_same, (RFs.map (fun h => RD.mono w h) hF').put (.int _)⟩
  exact ⟨dx', gs', hH', by rw [← hF'.length]; exact hl', k ρ2 _ σ ((x1.trans x2).trans w1) w2 ((re.mono (x1.trans x2)).mono w1)⟩
/-! ### new objects -/
theorem tI_newO {K : PySem.W.Frag} {ir : Ir.Ex} : ∀ σ H Q, tI C K (.newO ir) σ H Q → tN C K ir σ H Q := by
  intro σ H Q ⟨ρ, env, st, v, st', rs, re, ev, k⟩
  simp only [Ir.eval] at ev
  obtain ⟨x, s1, e1, ev⟩ := bok ev
  split at ev
  · rename_i xs
    unfold Ir.pushO at ev
    split at ev
    · rename_i os hA
      cases ev
      refine ⟨ρ, env, st, xs, s1, rs, re, e1, fun ρ' H' a ys x rs' ha hr hh z r => ?_⟩
      have hn : a ∉ ρ.res := fun q => rs.fresh ha (.inr (.inl q))
      have sub : ∀ b, Rho.own ⟨ρ'.ix, ρ.res, ρ'.ob ++ [a]⟩ b → ρ'.own b := fun b q => by
        rcases q with q | q | q
        · exact .inl q
        · exact .inr (.inl (x.rs b q))
        · rcases List.mem_append.mp q with q | q
          · exact .inr (.inr q)
          · simp at q; subst q; exact .inr (.inl hr)
      have obs : ∀ (n : Nat) (b : Addr), ρ'.ob[n]? = some b → (ρ'.ob ++ [a])[n]? = some b := fun n b q => by rw [List.getElem?_append_left (List.getElem?_eq_some_iff.mp q).1]; exact q
      have hlen := (rs'.ra.obj os hA).1
      exact k ⟨ρ'.ix, ρ.res, ρ'.ob ++ [a]⟩ _ _ (x.objOf ha hn) (rs'.objOf hA x.rs hr hn ⟨ys, hh, z, RDs.map (fun h => RD.sub sub obs h) r⟩) (show RD _ K H' (.oid os.length) (.ref a) from .oid (by rw [← hlen]; simp))
    · cases ev
  · cases ev
theorem se_newO {e : Expr} {ir : Ir.Ex} (h : SN X C e ir) : SE X C e (.newO ir) := pe_imp h tI_newO
theorem se_newOD {pos : Pos} : SE X C (.Dict [] [] pos) .newOD := by
  refine pe_imp pe_dnewK fun σ H Q ⟨ρ, env, st, v, st', rs, re, ev, k⟩ => fun p hp => ?_
  simp only [Ir.eval] at ev
  unfold Ir.pushO at ev
  split at ev
  · rename_i os hA
    cases ev
    have hlen := (rs.ra.obj os hA).1
    exact k (ρ.pushO p) _ _ (.pushO rs hp _) (rs.pushO hA hp ⟨[], upd_same, Nat.zero_le _, .nil⟩) (show RD _ X.K _ (.oid os.length) (.ref p) from .oid (by rw [← hlen]; simp [Rho.pushO]))
  · cases ev
/-! ### methods -/
theorem methOk_inv {st : Ir.Store} {v : Ir.Val} {c m : String} (h : Ir.methOk st v c m = true) : ∃ n fs, Ir.getO st v = some (n, .inst c fs) ∧ Ir.lookF m fs = none := by
  unfold Ir.methOk at h
  split at h
  · rename_i n c' fs hg
    rw [Bool.and_eq_true] at h
    have := of_decide_eq_true h.1
    subst this
    exact ⟨_, _, hg, by simpa using h.2⟩
  · cases h
theorem meth_at {ρ : Rho} {K : PySem.W.Frag} {H : Hp} {st : Ir.Store} {v : Ir.Val} {x : V} {c m : String} {Cc : Addr} (rs : RS ρ K st H) (r : RV ρ K H v x) (n1 : CN K c Cc) (h : Ir.methOk st v c m = true) : ∃ a dx gs, x = .ref a ∧ H a = some (.ins Cc dx gs) ∧ gs.lookup (Str.ofString m) = none := by
  obtain ⟨n, fs, hg, hl⟩ := methOk_inv h
  obtain ⟨a, os, rfl, ha, hA, ⟨C', dx, gs, hn, hH, hF⟩⟩ := obj_at rs r hg
  obtain rfl := hn.inj n1
  rcases hF.look (f := m) with ⟨_, z⟩ | ⟨d', w, z1, _, _⟩
  · exact ⟨a, dx, gs, rfl, hH, z⟩
  · rw [hl] at z1; cases z1
theorem se_meth {T : Ir.Tab} {KW : List Kw} {n : Nat} {c m : String} {fn : Ir.Fn} {e o : Expr} {es : List Expr} {io : Ir.Ex} {is : List Ir.Ex} {pos apos : Pos} {pl : Sem Bool} (ft : FT T KW n X.prog X.w X.K X.mg X.base) (hT : T (c ++ "." ++ m) = some fn) (hr : Room (n + 2) X.A) (ho : SE X (Ir.callN T n) o io) (hs : SEs X (Ir.callN T n) (e :: es) is)
    (hx : fn.x = false := by rfl) (hkd : fn.k = .mt c m := by rfl) (hst : starEach (e :: es) X.env = (false, eval e X.env) :: starEach es X.env := by rfl) (hpl : (backTo pos (starEach es X.env)).any (·.1) = false := by rfl)
    (ht : eval (.Call (.Attribute o (Str.ofString m) apos) (e :: es) [] pos) X.env = (do
      let ov ← eval o X.env
      standAt apos.atName
      let (f, first) ← holding [ov] (getMethod ov (Str.ofString m) pl)
      callWith pos f first (backTo pos (starEach (e :: es) X.env)) (backToKw pos (keywordEach [] X.env))) := by rfl) :
    SE X (Ir.callN T n) (.Call (.Attribute o (Str.ofString m) apos) (e :: es) [] pos) (.meth c m io is) := by
  obtain ⟨Cc, a, fd, ps, n1, cl, hm, F, hb⟩ := ft.okM _ fn hT hx c m hkd
  refine pe_imp (pe_meth ho cl hm F hr hb .nil pass0 hs hst hpl ht) fun σ H Q ⟨ρ, env, st, v, st', rs, re, ev, k⟩ => ?_
  simp only [Ir.eval] at ev
  obtain ⟨x, s1, e1, ev⟩ := bok ev
  split at ev
  · rename_i hok
    obtain ⟨vs, s2, e2, ev⟩ := bok ev
    refine ⟨ρ, env, st, x, s1, rs, re, e1, fun ρ1 H1 X1 x1 rs1 rx => ?_⟩
    obtain ⟨b, dx, gs, rfl, hH, hl⟩ := meth_at rs1 rx n1 hok
    refine ⟨b, dx, gs, rfl, hH, hl, ρ1, env, s1, vs, s2, rs1, re.mono x1, e2, fun ρ2 H2 XS x2 rs2 rxs => ?_⟩
    show spI T n X.K (c ++ "." ++ m) (.ref b :: (XS ++ [])) H2 Q E0
    rw [List.append_nil]
    exact ⟨ρ2, s2, x :: vs, v, st', rs2, .cons (rx.mono x2) rxs, ev, fun ρ' H' y x3 rs3 r3 => k ρ' H' y ((x1.trans x2).trans x3) rs3 r3⟩
  · cases ev
theorem se_meth0 {T : Ir.Tab} {KW : List Kw} {n : Nat} {c m : String} {fn : Ir.Fn} {o : Expr} {io : Ir.Ex} {pos apos : Pos} {pl : Sem Bool} (ft : FT T KW n X.prog X.w X.K X.mg X.base) (hT : T (c ++ "." ++ m) = some fn) (hr : Room (n + 2) X.A) (ho : SE X (Ir.callN T n) o io)
    (hx : fn.x = false := by rfl) (hkd : fn.k = .mt c m := by rfl)
    (ht : eval (.Call (.Attribute o (Str.ofString m) apos) [] [] pos) X.env = (do
      let ov ← eval o X.env
      standAt apos.atName
      let (f, first) ← holding [ov] (getMethod ov (Str.ofString m) pl)
      callWith pos f first (backTo pos (starEach [] X.env)) (backToKw pos (keywordEach [] X.env))) := by rfl) :
    SE X (Ir.callN T n) (.Call (.Attribute o (Str.ofString m) apos) [] [] pos) (.meth c m io []) := by
  obtain ⟨Cc, a, fd, ps, n1, cl, hm, F, hb⟩ := ft.okM _ fn hT hx c m hkd
  refine pe_imp (pe_meth0 ho cl hm F hr hb .nil pass0 ht) fun σ H Q ⟨ρ, env, st, v, st', rs, re, ev, k⟩ => ?_
  simp only [Ir.eval] at ev
  obtain ⟨x, s1, e1, ev⟩ := bok ev
  split at ev
  · rename_i hok
    simp only [Ir.evals, Ir.Res.bind_ok] at ev
    refine ⟨ρ, env, st, x, s1, rs, re, e1, fun ρ1 H1 X1 x1 rs1 rx => ?_⟩
    obtain ⟨b, dx, gs, rfl, hH, hl⟩ := meth_at rs1 rx n1 hok
    exact ⟨b, dx, gs, rfl, hH, hl, show spI T n X.K (c ++ "." ++ m) [.ref b] H1 Q E0 from ⟨ρ1, s1, [x], v, st', rs1, .cons rx .nil, ev, fun ρ' H' y x3 rs3 r3 => k ρ' H' y (x1.trans x3) rs3 r3⟩⟩
  · cases ev
end Snd

namespace Snd
open PySem PySem.Spec PyProof.Rows L2
variable {X : Cx} {C : Ir.Calls} {W : WX}
/-! ### a class that is called -/
theorem evals_vars {env : Ir.Env} {st : Ir.Store} : ∀ (vs : List Ir.Val) (k : Nat), (∀ i, i < vs.length → env[k + i]? = some (vs[i]?)) → Ir.evals C ((List.range' k vs.length).map Ir.Ex.var) env st = .ok vs st
  | [], k, _ => by simp [Ir.evals]
  | v :: vs, k, h => by
    have h0 := h 0 (by simp)
    have ih := evals_vars (env := env) (st := st) vs (k + 1) fun i hi => by
      have := h (i + 1) (by simpa using hi)
      rw [show k + 1 + i = k + (i + 1) by omega]
      simpa using this
    simp at h0
    simp [List.range'_succ, Ir.evals, Ir.eval, h0, ih]
theorem ctor_inv {c : String} {p : Nat} {vs : List Ir.Val} {st st' : Ir.Store} {v : Ir.Val} (ev : Ir.runFn C (ctorFn c p) vs st = .ok v st') : ∃ os s2, Ir.arenaOf st = some os ∧ C (c ++ ".__init__") (.d (.oid os.length) :: vs) (st.set 0 (.arena (os ++ [.inst c []]))) = .ok (.d .non) s2 ∧ v = .d (.oid os.length) ∧ st' = s2.take st.length := by
  unfold Ir.runFn at ev
  split at ev
  · rename_i hc
    have hl : vs.length = p := hc.1
    obtain ⟨o, s1, e1, ev1⟩ := bok ev
    clear ev
    have e1 := Ir.noexc_inv e1
    have hE : vs.map some ++ List.replicate ((ctorFn c p).many - (ctorFn c p).pars) none = vs.map some ++ [none, none] := by
      have : (ctorFn c p).many - (ctorFn c p).pars = 2 := by simp [ctorFn]
      rw [this]; rfl
    rw [hE] at e1
    simp only [ctorFn, Ir.execs_cons, Ir.exec_asg, Ir.eval_newI] at e1
    unfold Ir.pushO at e1
    cases hA : Ir.arenaOf st with
    | none => rw [hA] at e1; cases e1
    | some os =>
      rw [hA] at e1
      simp only [Ir.Res.bind_ok, Ir.Tg.putV, Ir.optR_some, Ir.eval_call, Ir.evals_cons, Ir.eval_var] at e1
      have hp : ((vs.map some ++ [none, none]).set p (some (Ir.Val.d (.oid os.length))))[p]? = some (some (.d (.oid os.length))) := by
        rw [List.getElem?_set_self (by simp; omega)]
      rw [hp] at e1
      simp only [Ir.Res.bind_ok] at e1
      have hev := evals_vars (C := C) (env := (vs.map some ++ [none, none]).set p (some (Ir.Val.d (.oid os.length)))) (st := st.set 0 (.arena (os ++ [.inst c []]))) vs 0 fun i hi => by
        rw [Nat.zero_add, List.getElem?_set_ne (by omega), List.getElem?_append_left (by simpa using hi), List.getElem?_map, List.getElem?_eq_getElem hi]
        rfl
      rw [hl, ← List.range_eq_range'] at hev
      rw [hev] at e1
      simp only [Ir.Res.bind_ok] at e1
      cases hr : C (c ++ ".__init__") (.d (.oid os.length) :: vs) (st.set 0 (.arena (os ++ [.inst c []]))) with
      | bad => rw [hr] at e1; cases e1
      | exc cc as s => rw [hr] at e1; cases e1
      | ok w s2 =>
        rw [hr] at e1
        simp only [Ir.Res.bind_ok, Ir.optR_some, Ir.exec_ite, Ir.eval_cmp, Ir.eval_var, Ir.eval_con] at e1
        have hq : (((vs.map some ++ [none, none]).set p (some (Ir.Val.d (.oid os.length)))).set (p + 1) (some w))[p + 1]? = some (some w) := by
          rw [List.getElem?_set_self (by simp; omega)]
        have hq0 : (((vs.map some ++ [none, none]).set p (some (Ir.Val.d (.oid os.length)))).set (p + 1) (some w))[p]? = some (some (.d (.oid os.length))) := by
          rw [List.getElem?_set_ne (by omega)]; exact hp
        rw [hq] at e1
        simp only [Ir.Res.bind_ok] at e1
        have hw : w = .d .non := by
          cases w with
          | ref n => simp [Ir.cmpV, Ir.isNon, Ir.asB] at e1
          | d x => cases x <;> simp [Ir.cmpV, Ir.isNon, Ir.asB] at e1 <;> rfl
        subst hw
        simp [Ir.cmpV, Ir.isNon, Ir.asB, hq0] at e1
        obtain ⟨rfl, rfl⟩ := e1
        simp only [Ir.leave] at ev1
        cases ev1
        exact ⟨os, _, rfl, hr, rfl, rfl⟩
  · cases ev
theorem se_make0 {T : Ir.Tab} {KW : List Kw} {n : Nat} {c : String} {fn : Ir.Fn} {p pos : Pos} (ft : FT T KW n X.prog X.w X.K X.mg X.base) (hT : T c = some fn) (hr : Room (n + 2) X.A) (hg : Gl X (Str.ofString c) := by rfl) (hkd : fn.k = .ct c := by rfl)
    (hdb : (Str.ofString c == ("__debug__" : Str)) = false := by decide) :
    SE X (Ir.callN T n) (.Call (.Name (Str.ofString c) p) [] [] pos) (.call c []) := by
  obtain ⟨Cc, a, fd, ps, hm, n1, M, F, hb, _, hfn⟩ := ft.okC c fn hT c hkd
  cases n with
  | zero =>
    refine ⟨fun pins s σ H Q I h => ?_⟩
    obtain ⟨ρ, env, st, v, st', rs, re, ev, k⟩ := h
    simp only [Ir.eval, Ir.evals, Ir.Res.bind_ok] at ev
    simp only [Ir.callN] at ev
    cases ev
  | succ n =>
    have F := F n rfl
    refine pe_imp (pe_make0 M F hr hg hm hb .nil pass0 hdb) fun σ H Q ⟨ρ, env, st, v, st', rs, re, ev, k⟩ => ?_
    simp only [Ir.eval, Ir.evals, Ir.Res.bind_ok] at ev
    simp only [Ir.callN, hT] at ev
    rw [hfn] at ev
    obtain ⟨os, s2, hA, hc, rfl, rfl⟩ := ctor_inv ev
    intro x dx hx hdx hne
    show spI T n X.K (c ++ ".__init__") (.ref x :: ([] ++ [])) _ _ E0
    have xA : Ext ρ H ρ (upd H dx (.own x)) := .grow rs hdx _
    have rA := rs.grow hdx (.own x)
    have hxA : upd H dx (.own x) x = none := by rw [upd_ne (Ne.symm hne)]; exact hx
    have xB := Ext.pushO rA hxA (.ins Cc dx [])
    have rB := rA.pushO (c := .inst c []) hA hxA (o := .ins Cc dx []) ⟨Cc, dx, [], n1, upd_same, .nil⟩
    have hlen := (rs.ra.obj os hA).1
    have hob : (ρ.pushO x).ob[os.length]? = some x := by rw [← hlen]; simp [Rho.pushO]
    refine ⟨ρ.pushO x, _, _, _, s2, rB, .cons (x := .d (.oid os.length)) (RD.oid hob) .nil, hc, fun ρ2 H2 y x2 rs2 ry => ⟨RD.non_inv ry, ?_⟩⟩
    have xx := (xA.trans xB).trans x2
    have hl1 : st.length = ρ.ix.length := rs.len
    obtain ⟨r1, r2, _⟩ := take_rs xx rs2
    rw [hl1] at k
    exact k _ H2 (.ref x) r2 r1 (RD.oid (x2.ob _ _ hob))
/-! ### methods that may raise -/
theorem GX.ne {K : PySem.W.Frag} {mg : Str → Option Value} {ρ : Rho} {H : Hp} {Q : VK} {E : XK} {r : Ir.Res Ir.Val} (h : GX K mg ρ H Q E r) : r ≠ .bad := fun e => by subst e; exact h
end Snd

namespace Snd
open PySem PySem.Spec PyProof.Rows L2
variable {X : Cx} {C : Ir.Calls} {W : WX}
/-! ### lists and dicts of the arena -/
theorem omOk_inv {st : Ir.Store} {v : Ir.Val} (h : Ir.omOk st v = true) : ∃ n xs, Ir.getO st v = some (n, .lst xs) := by
  unfold Ir.omOk at h
  split at h
  · rename_i n xs hg; exact ⟨n, xs, hg⟩
  · cases h
theorem om_ev {m : Ir.Om} {io : Ir.Ex} {is : List Ir.Ex} {env : Ir.Env} {st st' : Ir.Store} {v : Ir.Val} (ev : Ir.eval C (.om m io is) env st = .ok v st') : ∃ x s1 vs s2, Ir.eval C io env st = .ok x s1 ∧ Ir.omOk s1 x = true ∧ Ir.evals C is env s1 = .ok vs s2 ∧ Ir.omV m s2 x vs = .ok v st' := by
  simp only [Ir.eval] at ev
  obtain ⟨x, s1, e1, ev⟩ := bok ev
  split at ev
  · rename_i hk
    obtain ⟨vs, s2, e2, ev⟩ := bok ev
    exact ⟨x, s1, vs, s2, e1, hk, e2, ev⟩
  · cases ev
theorem tyV_obj {ρ : Rho} {K : PySem.W.Frag} {H : Hp} {st : Ir.Store} {v : Ir.Val} {x : V} (rs : RS ρ K st H) (r : RV ρ K H v x) (h : Ir.omOk st v = true) : tyV K "list" x H := by
  obtain ⟨n, xs, hg⟩ := omOk_inv h
  obtain ⟨a, os, rfl, ha, hA, ⟨ys, h1, h2, h3⟩⟩ := obj_at rs r hg
  exact .inl ⟨rfl, ys, SqL.of h1⟩
theorem omA_inv {s2 st' : Ir.Store} {x y v : Ir.Val} (h : Ir.omV .append s2 x [y] = .ok v st') : ∃ n xs d, Ir.getO s2 x = some (n, .lst xs) ∧ y = .d d ∧ xs.length < Ir.LIM ∧ v = .d .non ∧ st' = Ir.putO s2 n (.lst (xs ++ [d])) := by
  unfold Ir.omV at h
  rcases hg : Ir.getO s2 x with _ | ⟨n, o⟩
  · rw [hg] at h; cases h
  · rw [hg] at h
    cases o with
    | lst xs =>
      cases y with
      | ref m => cases h
      | d d =>
        simp only at h
        split at h
        · rename_i hl
          cases h
          exact ⟨n, xs, d, rfl, rfl, hl, rfl, rfl⟩
        · cases h
    | inst c fs => cases h
    | dic kvs => cases h
    | dicT kvs => cases h
theorem omE_inv {s2 st' : Ir.Store} {x y v : Ir.Val} (h : Ir.omV .extend s2 x [y] = .ok v st') : ∃ n xs ds, Ir.getO s2 x = some (n, .lst xs) ∧ y = .d (.lst ds) ∧ xs.length + ds.length ≤ Ir.LIM ∧ v = .d .non ∧ st' = Ir.putO s2 n (.lst (xs ++ ds)) := by
  unfold Ir.omV at h
  rcases hg : Ir.getO s2 x with _ | ⟨n, o⟩
  · rw [hg] at h; cases h
  · rw [hg] at h
    cases o with
    | lst xs =>
      cases y with
      | ref m => cases h
      | d d =>
        cases d with
        | lst ds =>
          simp only at h
          split at h
          · rename_i hl
            cases h
            exact ⟨n, xs, ds, rfl, rfl, hl, rfl, rfl⟩
          · cases h
        | _ => cases h
    | inst c fs => cases h
    | dic kvs => cases h
    | dicT kvs => cases h
theorem omP_inv {s2 st' : Ir.Store} {x v : Ir.Val} (h : Ir.omV .pop s2 x [] = .ok v st') : ∃ n xs y, Ir.getO s2 x = some (n, .lst xs) ∧ xs[xs.length - 1]? = some y ∧ v = .d y ∧ st' = Ir.putO s2 n (.lst xs.dropLast) := by
  unfold Ir.omV at h
  rcases hg : Ir.getO s2 x with _ | ⟨n, o⟩
  · rw [hg] at h; cases h
  · rw [hg] at h
    cases o with
    | lst xs =>
      simp only at h
      split at h
      · rename_i y hy
        cases h
        exact ⟨n, xs, y, rfl, hy, rfl, rfl⟩
      · cases h
    | inst c fs => cases h
    | dic kvs => cases h
    | dicT kvs => cases h
section
variable {o e : Expr} {io ie : Ir.Ex} {apos cpos : Pos}
theorem se_oappend (ho : SE X C o io) (he : SE X C e ie) (hbase : attributeBase o (Str.ofString "append") X.env (eval o X.env) = eval o X.env := by rfl)
    (hfew : ((backTo cpos (starEach [e] X.env)).all (fun x => !x.1) && (backToKw cpos (keywordEach [] X.env)).all (fun x => x.1.isSome) && decide (([e] : List Expr).length + ([] : List Keyword).length + (if ([] : List Keyword).isEmpty then 0 else 1) < 30)) = true := by rfl)
    (hline : (apos.endLine == cpos.line) = true := by rfl) (hs : starEach [e] X.env = (false, eval e X.env) :: starEach [] X.env := by rfl) (hpl : (backTo cpos (starEach [] X.env)).any (·.1) = false := by rfl) :
    SE X C (.Call (.Attribute o (Str.ofString "append") apos) [e] [] cpos) (.om .append io [ie]) := by
  refine pe_imp (pe_bm PySem.F.plainAttrs_list PySem.F.slot_list_append PySem.F.type_list_append mt_append ho (pa_cons he pa_nil hs) hbase hfew hline hs hpl) fun σ H Q ⟨ρ, env, st, v, st', rs, re, ev, k⟩ => ?_
  obtain ⟨x, s1, vs, s2, e1, hk, e2, ev⟩ := om_ev ev
  simp only [Ir.evals] at e2
  obtain ⟨y, s3, e2, e3⟩ := bok e2
  simp only [Ir.Res.bind_ok] at e3
  cases e3
  refine ⟨ρ, env, st, _, s1, rs, re, e1, fun ρ1 H1 X1 x1 rs1 rx => ⟨tyV_obj rs1 rx hk, ρ1, env, s1, y, _, rs1, re.mono x1, e2, fun ρ2 H2 Y x2 rs2 ry => ?_⟩⟩
  obtain ⟨n, xs, d, hg, rfl, hl, rfl, rfl⟩ := omA_inv ev
  obtain ⟨a, os, rfl, ha, hA, ⟨zs, h2, h3, h4⟩⟩ := obj_at rs2 (rx.mono x2) hg
  have hz : zs.length < sizeLine := by rw [← h4.length, ← lim_eq]; exact hl
  refine ⟨a, zs, Y, rfl, rfl, h2, hz, ?_⟩
  have w : Ext ρ2 H2 ρ2 (upd H2 a (.lst (zs ++ [Y]))) := .writeO rs2 ha _
  obtain ⟨w1, w2⟩ := put_obj (o := .lst (xs ++ [d])) rs2 hA ha ⟨_, upd_same, by rw [List.length_append]; exact hz, (h4.mono w).append (.cons (RD.mono w ry) .nil)⟩
  exact k ρ2 _ _ ((x1.trans x2).trans w1) w2 .non
theorem se_oextend (ho : SE X C o io) (he : SE X C e ie) (hbase : attributeBase o (Str.ofString "extend") X.env (eval o X.env) = eval o X.env := by rfl)
    (hfew : ((backTo cpos (starEach [e] X.env)).all (fun x => !x.1) && (backToKw cpos (keywordEach [] X.env)).all (fun x => x.1.isSome) && decide (([e] : List Expr).length + ([] : List Keyword).length + (if ([] : List Keyword).isEmpty then 0 else 1) < 30)) = true := by rfl)
    (hline : (apos.endLine == cpos.line) = true := by rfl) (hs : starEach [e] X.env = (false, eval e X.env) :: starEach [] X.env := by rfl) (hpl : (backTo cpos (starEach [] X.env)).any (·.1) = false := by rfl) :
    SE X C (.Call (.Attribute o (Str.ofString "extend") apos) [e] [] cpos) (.om .extend io [ie]) := by
  refine pe_imp (pe_bm PySem.F.plainAttrs_list PySem.F.slot_list_extend PySem.F.type_list_extend mt_extend ho (pa_cons he pa_nil hs) hbase hfew hline hs hpl) fun σ H Q ⟨ρ, env, st, v, st', rs, re, ev, k⟩ => ?_
  obtain ⟨x, s1, vs, s2, e1, hk, e2, ev⟩ := om_ev ev
  simp only [Ir.evals] at e2
  obtain ⟨y, s3, e2, e3⟩ := bok e2
  simp only [Ir.Res.bind_ok] at e3
  cases e3
  refine ⟨ρ, env, st, _, s1, rs, re, e1, fun ρ1 H1 X1 x1 rs1 rx => ⟨tyV_obj rs1 rx hk, ρ1, env, s1, y, _, rs1, re.mono x1, e2, fun ρ2 H2 Y x2 rs2 ry => ?_⟩⟩
  obtain ⟨n, xs, ds, hg, rfl, hl, rfl, rfl⟩ := omE_inv ev
  obtain ⟨a, os, rfl, ha, hA, ⟨zs, h2, h3, h4⟩⟩ := obj_at rs2 (rx.mono x2) hg
  obtain ⟨b, ws, rfl, g1, g2, g3⟩ := VD.of (x := .lst ds) ry
  have hz : zs.length + ws.length ≤ sizeLine := by rw [← h4.length, ← g3.length, ← lim_eq]; exact hl
  refine ⟨a, b, zs, ws, rfl, rfl, h2, g1, hz, ?_⟩
  have w : Ext ρ2 H2 ρ2 (upd H2 a (.lst (zs ++ ws))) := .writeO rs2 ha _
  obtain ⟨w1, w2⟩ := put_obj (o := .lst (xs ++ ds)) rs2 hA ha ⟨_, upd_same, by rw [List.length_append]; exact hz, (h4.mono w).append (g3.mono w)⟩
  exact k ρ2 _ _ ((x1.trans x2).trans w1) w2 .non
theorem se_opop (ho : SE X C o io) (hbase : attributeBase o (Str.ofString "pop") X.env (eval o X.env) = eval o X.env := by rfl) (hline : (apos.endLine == cpos.line) = true := by rfl) :
    SE X C (.Call (.Attribute o (Str.ofString "pop") apos) [] [] cpos) (.om .pop io []) := by
  refine pe_imp (pe_bm0 PySem.F.plainAttrs_list PySem.F.slot_list_pop PySem.F.type_list_pop mt_pop ho hbase hline) fun σ H Q ⟨ρ, env, st, v, st', rs, re, ev, k⟩ => ?_
  obtain ⟨x, s1, vs, s2, e1, hk, e2, ev⟩ := om_ev ev
  simp only [Ir.evals] at e2
  cases e2
  refine ⟨ρ, env, st, _, _, rs, re, e1, fun ρ1 H1 X1 x1 rs1 rx => ⟨tyV_obj rs1 rx hk, ?_⟩⟩
  obtain ⟨n, xs, y, hg, hy, rfl, rfl⟩ := omP_inv ev
  obtain ⟨a, os, rfl, ha, hA, ⟨zs, h2, h3, h4⟩⟩ := obj_at rs1 rx hg
  obtain ⟨w, hw1, hw2⟩ := h4.get hy
  rw [h4.length] at hw1
  refine ⟨a, zs, w, rfl, rfl, h2, hw1, ?_⟩
  have wr : Ext ρ1 H1 ρ1 (upd H1 a (.lst zs.dropLast)) := .writeO rs1 ha _
  obtain ⟨w1, w2⟩ := put_obj (o := .lst xs.dropLast) rs1 hA ha ⟨_, upd_same, by rw [List.length_dropLast]; omega, h4.dropLast.mono wr⟩
  exact k ρ1 _ _ (x1.trans w1) w2 (RD.mono w1 hw2)
end
/-! ### is it empty -/
def rNil (K : PySem.W.Frag) (ng : Bool) : R2 := fun x y H Q => ∃ a b xs, x = .ref a ∧ y = .ref b ∧ SqL K H a xs ∧ SqL K H b [] ∧ Q (.bl (xs.isEmpty != ng)) H
theorem op_isnil {n : Nat} (hr : Room n X.A) : OpR X (compareOp .Eq) (rNil X.K false) := by
  intro pins s σ H x y v u Q I rx ry ⟨a, b, xs, ex, ey, h1, h2, q⟩
  subst ex ey
  cases rx; cases ry
  obtain ⟨its, r, ⟨o1, n1, g1, c1, _, d1⟩, hz⟩ := I.list h1
  obtain ⟨its2, r2, ⟨o2, n2, g2, c2, _, d2⟩, hz2⟩ := I.list h2
  have pl : s.heap.IsList a its.toArray := ⟨o1, g1, c1, n1, d1⟩
  have pl2 : s.heap.IsList b its2.toArray := ⟨o2, g2, c2, n2, d2⟩
  have hl := r.length
  have hl2 := r2.length
  have hu : X.A.units < cLine := by have := hr.un; omega
  cases xs with
  | nil =>
    refine SeqAt.eq_listAt (e := fun _ => true) pl pl2 (by simp only [List.size_toArray]; omega) hu (fun j g1 g2 => ?_) ⟨.bl true, H, I, ?_, q⟩
    · simp only [List.size_toArray] at g1; simp at hl; omega
    · show Value.bool _ = Value.bool true
      simp
  | cons z zs =>
    refine SeqAt.eq_list_lengthsAt pl pl2 ?_ hu ⟨.bl false, H, I, rfl, q⟩
    simp only [List.size_toArray]
    simp at hl hl2
    simp; omega
theorem op_notnil {n : Nat} (hr : Room n X.A) : OpR X (compareOp .NotEq) (rNil X.K true) := by
  intro pins s σ H x y v u Q I rx ry ⟨a, b, xs, ex, ey, h1, h2, q⟩
  subst ex ey
  cases rx; cases ry
  obtain ⟨its, r, ⟨o1, n1, g1, c1, _, d1⟩, hz⟩ := I.list h1
  obtain ⟨its2, r2, ⟨o2, n2, g2, c2, _, d2⟩, hz2⟩ := I.list h2
  have pl : s.heap.IsList a its.toArray := ⟨o1, g1, c1, n1, d1⟩
  have pl2 : s.heap.IsList b its2.toArray := ⟨o2, g2, c2, n2, d2⟩
  have hl := r.length
  have hl2 := r2.length
  have hu : X.A.units < cLine := by have := hr.un; omega
  cases xs with
  | nil =>
    refine SeqAt.RcNeAt.lists (e := fun _ => true) pl pl2 (by simp only [List.size_toArray]; omega) hu (fun j g1 g2 => ?_) _ _ _ _ ⟨.bl false, H, I, ?_, q⟩
    · simp only [List.size_toArray] at g1; simp at hl; omega
    · show Value.bool _ = Value.bool false
      simp
  | cons z zs =>
    refine SeqAt.RcNeAt.lists_lengths pl pl2 ?_ hu _ _ _ _ ⟨.bl true, H, I, rfl, q⟩
    simp only [List.size_toArray]
    simp at hl hl2
    simp; omega
theorem oqV_lst {q : Ir.Oq} {st : Ir.Store} {x : Ir.Val} {vs : List Ir.Val} {d : Ir.D} (h : Ir.oqV q st x vs = some d) : (∃ n xs, Ir.getO st x = some (n, .lst xs)) ∨ ∃ n kvs, Ir.getO st x = some (n, .dic kvs) := by
  unfold Ir.oqV at h
  rcases hg : Ir.getO st x with _ | ⟨n, o⟩
  · rw [hg] at h; cases h
  · cases o with
    | lst xs => exact .inl ⟨n, xs, rfl⟩
    | dic kvs => exact .inr ⟨n, kvs, rfl⟩
    | inst c fs => rw [hg] at h; cases h
    | dicT kvs => rw [hg] at h; cases h
theorem se_oidx {a b : Expr} {ia ib : Ir.Ex} {pos : Pos} {n : Nat} (hr : Room n X.A) (ha : SE X C a ia) (hb : SE X C b ib) (hs : PlainIx b := by exact fun _ _ => rfl) : SE X C (.Subscript a b pos) (.oq .idx ia [ib]) := by
  refine pe_imp (pe_or (pe_ix ix_seq ha hb hs) (pe_dget (hu_of hr) ha hb hs)) fun σ H Q ⟨ρ, env, st, v, st', rs, re, ev, k⟩ => ?_
  simp only [Ir.eval, Ir.evals] at ev
  obtain ⟨x, s1, e1, ev⟩ := bok ev
  obtain ⟨ys, s2, e2, ev⟩ := bok ev
  obtain ⟨y, s3, e2, e4⟩ := bok e2
  simp only [Ir.Res.bind_ok] at e4
  cases e4
  obtain ⟨r, e3, ev⟩ := ook ev
  cases ev
  rcases oqV_lst e3 with ⟨n, xs, hg⟩ | ⟨n, kvs, hg⟩
  · refine .inl (tI_two rs re e1 e2 fun ρ1 H1 X Y x1 rs1 rx ry => ?_)
    obtain ⟨c, os, rfl, hb, hA, ⟨zs, h2, h3, h4⟩⟩ := obj_at rs1 rx hg
    unfold Ir.oqV at e3; rw [hg] at e3
    cases y with
    | ref m => cases e3
    | d key =>
      cases key with
      | int i =>
        have e3 : Ir.D.index (.lst xs) (.int i) = some r := e3
        exact index_ok (show VD ρ1 _ H1 (.lst xs) _ from ⟨c, zs, rfl, h2, h3, h4⟩) ry e3 fun z hz => k ρ1 H1 z x1 rs1 hz
      | _ => cases e3
  · refine .inr (tI_two rs re e1 e2 fun ρ1 H1 X Y x1 rs1 rx ry => ?_)
    obtain ⟨c, os, rfl, hb, hA, ⟨ks, h2, h3, h4⟩⟩ := obj_at rs1 rx hg
    unfold Ir.oqV at e3; rw [hg] at e3
    cases y with
    | ref m => cases e3
    | d key =>
      have e3 : (if key.key then Ir.lookK kvs key else none) = some r := e3
      split at e3
      · rename_i hkey
        obtain ⟨k', hk1, rfl⟩ := RK.kv ry hkey
        rcases RKs.look hk1 h4 with ⟨z1, z2⟩ | ⟨w, z, z1, z2, z3⟩
        · rw [z1] at e3; cases e3
        · rw [z1] at e3; cases e3
          exact ⟨c, z, rfl, by rw [← z2]; exact .k h2, k ρ1 H1 z x1 rs1 z3⟩
      · cases e3
theorem oinV_inv {st : Ir.Store} {k x : Ir.Val} {b : Bool} (h : Ir.oinV st k x = some b) : ∃ d n kvs, k = .d d ∧ Ir.getO st x = some (n, .dic kvs) ∧ d.key = true ∧ b = (Ir.lookK kvs d).isSome := by
  unfold Ir.oinV at h
  cases k with
  | ref m => cases h
  | d d =>
    rcases hg : Ir.getO st x with _ | ⟨n, o⟩
    · rw [hg] at h; cases h
    · rw [hg] at h
      cases o with
      | dic kvs =>
        simp only at h
        split at h
        · cases h; exact ⟨d, n, kvs, rfl, rfl, by assumption, rfl⟩
        · cases h
      | lst xs => cases h
      | inst c fs => cases h
      | dicT kvs => cases h
theorem setOV_inv {st s' : Ir.Store} {o i : Ir.Val} {x : Ir.D} (h : Ir.setOV st o i x = some s') : ∃ d n kvs, i = .d d ∧ Ir.getO st o = some (n, .dic kvs) ∧ d.key = true ∧ kvs.length < Ir.LIM ∧ s' = Ir.putO st n (.dic (Ir.putK kvs d x)) := by
  unfold Ir.setOV at h
  rcases hg : Ir.getO st o with _ | ⟨n, ob⟩
  · rw [hg] at h; cases h
  · rw [hg] at h
    cases ob with
    | dic kvs =>
      cases i with
      | ref m => cases h
      | d d =>
        simp only at h
        split at h
        · rename_i hc
          rw [Bool.and_eq_true] at hc
          cases h; exact ⟨d, n, kvs, rfl, rfl, hc.1, of_decide_eq_true hc.2, rfl⟩
        · cases h
    | lst xs => cases h
    | inst c fs => cases h
    | dicT kvs => cases h
theorem ss_setO {o i e : Expr} {io ii ie : Ir.Ex} {pos pos' : Pos} {n : Nat} (hr : Room n X.A) (he : SE X C e ie) (ho : SE X C o io) (hi : SE X C i ii) (hs2 : swapsWith e (some (.Subscript o i pos')) pos.line X.env = pure false := by rfl) :
    SS X C W (.Assign [.Subscript o i pos'] e pos) (.setO io ii ie) := by
  refine ps_imp (ps_dput (hu_of hr) ho hi he hs2) fun D σ H ⟨ρ, env, st, ou, st', rs, re, ev, k⟩ => ?_
  simp only [Ir.exec] at ev
  obtain ⟨v, s1, e1, ev⟩ := bok ev
  obtain ⟨x, s2, e2, ev⟩ := bok ev
  obtain ⟨y, s3, e3, ev⟩ := bok ev
  obtain ⟨d, e4, ev4⟩ := ook ev
  clear ev
  obtain ⟨s5, e5, ev5⟩ := ook ev4
  clear ev4
  obtain rfl := asD_ok e4
  cases ev5
  refine ⟨ρ, env, st, _, s1, rs, re, e1, fun ρ1 H1 V1 x1 rs1 rv => ⟨ρ1, env, s1, _, s2, rs1, re.mono x1, e2, fun ρ2 H2 O x2 rs2 ro => ⟨ρ2, env, s2, y, s3, rs2, re.mono (x1.trans x2), e3, fun ρ3 H3 Y x3 rs3 ry => ?_⟩⟩⟩
  obtain ⟨key, n, kvs, rfl, hg, hk, hl, rfl⟩ := setOV_inv e5
  obtain ⟨a, os, rfl, ha, hA, ⟨ks, h2, h3, h4⟩⟩ := obj_at rs3 (ro.mono x3) hg
  obtain ⟨k', hk3, rfl⟩ := RK.kv ry hk
  have hlen : ks.length < sizeLine := by rw [← h4.length, ← lim_eq]; exact hl
  have w : Ext ρ3 H3 ρ3 (upd H3 a (.dK (L2.putK ks k' V1))) := .writeO rs3 ha _
  have rv3 : RD ρ3 X.K H3 d V1 := RD.mono x3 (RD.mono x2 rv)
  obtain ⟨w1, w2⟩ := put_obj (o := .dic (Ir.putK kvs key d)) rs3 hA ha ⟨_, upd_same, by have := length_putK ks k' V1; omega, (h4.mono w).put hk3 (RD.mono w rv3)⟩
  exact ⟨a, _, rfl, .k h2 hlen, k ρ3 _ _ (((x1.trans x2).trans x3).trans w1) w2 ((re.mono ((x1.trans x2).trans x3)).mono w1)⟩
theorem st_notnil {a : Expr} {ia : Ir.Ex} {pos p : Pos} {n : Nat} (hr : Room n X.A) (ha : SE X C a ia) (hm : behindInMarks .NotEq (.List [] p) = false := by first | exact nomark _ | rfl) : ST X C (.Compare a [.NotEq] [.List [] p] pos) (.oq .notnil ia []) := by
  refine pt_imp (pt_cmpR (op_notnil hr) ha (pe_lst pa_nil) hm) fun σ H Q ⟨ρ, env, st, v, st', rs, re, ev, k⟩ => ?_
  simp only [Ir.eval, Ir.evals, Ir.Res.bind_ok] at ev
  obtain ⟨x, s1, e1, ev⟩ := bok ev
  obtain ⟨d, e2, ev⟩ := ook ev
  cases ev
  refine ⟨ρ, env, st, x, _, rs, re, e1, fun ρ1 H1 X1 x1 rs1 rx => ⟨Nat.zero_le _, fun p hp => ?_⟩⟩
  rcases oqV_lst e2 with ⟨n, xs, hg⟩ | ⟨n, kvs, hg⟩
  · obtain ⟨b, os, rfl, hb, hA, ⟨zs, h2, h3, h4⟩⟩ := obj_at rs1 rx hg
    have w : Ext ρ1 H1 ρ1 (upd H1 p (.lst [])) := .grow rs1 hp _
    have hne : b ≠ p := ne_of_none h2 hp
    unfold Ir.oqV at e2; rw [hg] at e2
    have e2 : some (Ir.D.bool (!xs.isEmpty)) = some (.bool v) := e2
    cases e2
    refine ⟨b, p, zs, rfl, rfl, SqL.of (by rw [upd_ne hne]; exact h2), SqL.of upd_same, ?_⟩
    have hz : (zs.isEmpty != true) = !xs.isEmpty := by
      have := h4.length
      cases xs <;> cases zs <;> simp at this <;> rfl
    rw [hz]
    exact ⟨_, rfl, k ρ1 _ (x1.trans w) (rs1.grow hp _)⟩
  · unfold Ir.oqV at e2; rw [hg] at e2; cases e2
theorem st_oin {a b : Expr} {ia ib : Ir.Ex} {pos : Pos} {n : Nat} (hr : Room n X.A) (ha : SE X C a ia) (hb : SE X C b ib) (hm : behindInMarks .In b = false := by first | rfl | with_unfolding_all rfl) : ST X C (.Compare a [.In] [b] pos) (.oin false ia ib) := by
  refine pt_imp (pt_cmp (pc_din (hu_of hr) ha hb) hm) fun σ H Q ⟨ρ, env, st, v, st', rs, re, ev, k⟩ => ?_
  simp only [Ir.eval] at ev
  obtain ⟨x, s1, e1, ev⟩ := bok ev
  obtain ⟨y, s2, e2, ev⟩ := bok ev
  obtain ⟨r, e3, ev⟩ := ook ev
  cases ev
  refine tI_two rs re e1 e2 fun ρ' H' X Y x1 rs1 rx ry => ?_
  obtain ⟨d, n, kvs, rfl, hg, hk, rfl⟩ := oinV_inv e3
  obtain ⟨c, os, rfl, hb, hA, ⟨ks, h2, h3, h4⟩⟩ := obj_at rs1 ry hg
  obtain ⟨k', hk1, rfl⟩ := RK.kv rx hk
  refine ⟨c, _, rfl, .k h2, _, rfl, ?_⟩
  have kk := k ρ' H' x1 rs1
  rcases RKs.look hk1 h4 with ⟨z1, z2⟩ | ⟨w, z, z1, z2, z3⟩
  · rw [z2]; rw [z1] at kk; exact kk
  · rw [z2]; rw [z1] at kk; exact kk
/-! ### a raising function called where it does not raise -/
end Snd

namespace Snd
open PySem PySem.Spec PyProof.Rows L2
variable {X : Cx} {C : Ir.Calls} {W : WX}
/-! ### a text times a number -/
end Snd

namespace Snd
open PySem PySem.Spec PyProof.Rows L2
variable {X : Cx} {C : Ir.Calls} {W : WX}
/-! ### names in brackets out of a list of the arena; a tuple of such a list -/
end Snd

set_option maxHeartbeats 2000000
namespace Snd
open PySem PySem.Spec PyProof.Rows L2
/-! ### an error that is kept behind its except clause -/
/-- the clauses: a class, the slot of the clause's name, the slot that keeps -/
abbrev KcL := List (Value × Nat × Nat)
/-- the clause keeps its error: n is stored as m -/
inductive KcOk (X : Cx) : List ExceptHandler → KcL → Prop
  | nil : KcOk X [] []
  | cons {x n : Str} {c : Value} {i j : Nat} {b₀ : Stmt} {np pos' : Pos} {rest : List ExceptHandler} {l : KcL} (hc : Names X x c) (hi : X.N[i]? = some n) (hl : X.env.kindOf n = some .local)
      (hsu : ∀ (a : Addr) (oe : Obj) (pn : List (Addr × Obj)), PSs (X.suite a ((a, oe) :: pn)) [b₀] (fun D σ H => ∃ v, σ[i]? = some (some v) ∧ D.nx (σ.set j (some v)) H)) (r : KcOk X rest l) :
      KcOk X (.ExceptHandler (some (.Name x np)) (some n) [b₀] pos' :: rest) ((c, i, j) :: l)
end Snd

set_option maxHeartbeats 2000000
namespace Snd
open PySem PySem.Spec PyProof.Rows L2
variable {X : Cx} {C : Ir.Calls} {W : WX}
/-! ### except C as n: m = n -/
end Snd

set_option maxHeartbeats 2000000
namespace Snd
open PySem PySem.Spec PyProof.Rows L2
variable {X : Cx} {C : Ir.Calls} {W : WX}
/-! ### isinstance of an error that is kept -/
/-- classes by their names: own ones, built-in ones -/
inductive ClsAs (mg : Str → Option Value) : List String → List V → List Value → Prop
  | nil : ClsAs mg [] [] []
  | own {n : String} {a : Addr} {ns vs us} : mg (Str.ofString n) = some (.ref a) → ClsAs mg ns vs us → ClsAs mg (n :: ns) (.ref a :: vs) (.ref a :: us)
  | ty {n t : String} {ns vs us} : mg (Str.ofString n) = none → bootBuiltins (Str.ofString n) = some (.type t) → ClsAs mg ns vs us → ClsAs mg (n :: ns) (.ty t :: vs) (.type t :: us)
theorem ClsAs.pair {mg : Str → Option Value} : ∀ {ns : List String} {vs : List V} {us : List Value}, ClsAs mg ns vs us → Paired ClsV vs us
  | _, _, _, .nil => .nil
  | _, _, _, .own _ r => .cons (.own _) r.pair
  | _, _, _, .ty _ _ r => .cons (.ty _) r.pair
/-- the names of classes, told -/
inductive ClE (X : Cx) : List Expr → List String → Prop
  | nil : ClE X [] []
  | cons {n : String} {ns : List String} {es : List Expr} {p : Pos} (hg : Gl X (Str.ofString n)) (hn : Str.ofString n ≠ "__name__") (hd : (Str.ofString n == ("__debug__" : Str)) = false)
      (hst : starEach (.Name (Str.ofString n) p :: es) X.env = (false, eval (.Name (Str.ofString n) p) X.env) :: starEach es X.env) (r : ClE X es ns) : ClE X (.Name (Str.ofString n) p :: es) (n :: ns)
theorem ClsAs.len {mg : Str → Option Value} : ∀ {ns : List String} {vs : List V} {us : List Value}, ClsAs mg ns vs us → vs.length = ns.length
  | _, _, _, .nil => rfl
  | _, _, _, .own _ r => congrArg (· + 1) r.len
  | _, _, _, .ty _ _ r => congrArg (· + 1) r.len
/-! ### the answers, out of the written part -/
theorem kits_nil {K : PySem.W.Frag} {t : Value} : PySem.W.kitAny K t [] = some false := rfl
end Snd

namespace Snd
open PySem PySem.Spec PyProof.Rows L2
variable {X : Cx} {C : Ir.Calls} {W : WX}
/-! ### lists that may be of the arena -/
theorem VD.any {ρ : Rho} {K : PySem.W.Frag} {H : Hp} {st : Ir.Store} {v : Ir.Val} {x : V} {d : Ir.D} (rs : RS ρ K st H) (h : RV ρ K H v x) (e : Ir.anyD st v = some d) : VD ρ K H d x := by
  unfold Ir.anyD at e
  split at e
  · rename_i d' hl
    cases e
    unfold Ir.lstO at hl
    split at hl
    · rename_i n xs hg
      cases hl
      obtain ⟨a, os, rfl, ha, hA, ⟨zs, h2, h3, h4⟩⟩ := obj_at rs h hg
      exact ⟨a, zs, rfl, h2, h3, h4⟩
    · cases hl
  · exact VD.deref rs h e
/-! ### a list of the arena turned round -/
/-! ### a raising def called by keywords alone -/
/-! ### a comprehension within another one, that captures nothing -/
/-! ### a dict that is never changed, asked with a default -/
end Snd

namespace Snd
open PySem PySem.Spec PyProof.Rows L2
/-! ### the table of a law: what each entry brings, and the step for all -/
theorem kw_no {KW : List Kw} {f : String} {K : PySem.W.Frag} {fd : FuncData} {ps : List Str} (h : KW.all (fun q => q.1 != f) = true) : ∀ q ∈ KW, q.1 = f → KwOk K fd ps q := fun q hq e => by
  have := List.all_eq_true.mp h q hq
  simp [e] at this
theorem kw_hd {KW : List Kw} {f : String} {K : PySem.W.Frag} {fd : FuncData} {ps : List Str} {p : Kw} (h : KwOk K fd ps p) (r : ∀ q ∈ KW, q.1 = f → KwOk K fd ps q) : ∀ q ∈ p :: KW, q.1 = f → KwOk K fd ps q := fun q hq e => by
  rcases List.mem_cons.mp hq with rfl | hq
  · exact h
  · exact r q hq e
theorem kw_tl {KW : List Kw} {f : String} {K : PySem.W.Frag} {fd : FuncData} {ps : List Str} {p : Kw} (h : (p.1 != f) = true) (r : ∀ q ∈ KW, q.1 = f → KwOk K fd ps q) : ∀ q ∈ p :: KW, q.1 = f → KwOk K fd ps q := fun q hq e => by
  rcases List.mem_cons.mp hq with rfl | hq
  · simp [e] at h
  · exact r q hq e
inductive Ent (T : Ir.Tab) (KW : List Kw) (P : Program) (w : World) (K : PySem.W.Frag) (mg : Str → Option Value) (base : Heap) : String → Ir.Fn → Prop
  | df {f fn a fd ps} (hk : fn.k = .df) (hx : fn.x = false) (ok : ∀ n, FT T KW n P w K mg base → FnOk P w K mg base CX0 (n + 2 + 1) a fd ps (spI T (n + 1) K f)) (m : mg (Str.ofString f) = some (.ref a)) (kp : PySem.W.keepIn K (.ref a) = true) (b : Binds K fd ps []) (kw : ∀ q ∈ KW, q.1 = f → KwOk K fd ps q) : Ent T KW P w K mg base f fn
  | dk {f fn a fd ps} (hk : fn.k = .dk) (hx : fn.x = false) (ok : ∀ n, FT T KW n P w K mg base → FnOk P w K mg base CX0 (n + 2 + 1) a fd ps (spI T (n + 1) K f)) (m : mg (Str.ofString f) = some (.ref a)) (kp : PySem.W.keepIn K (.ref a) = true) (kw : ∀ q ∈ KW, q.1 = f → KwOk K fd ps q) : Ent T KW P w K mg base f fn
  | dx {f fn a fd ps} (hk : fn.k = .df) (hx : fn.x = true) (ok : ∀ n, FT T KW n P w K mg base → FnOk P w K mg base (CX P w) (n + 2 + 1) a fd ps (spX T (n + 1) K mg f)) (m : mg (Str.ofString f) = some (.ref a)) (kp : PySem.W.keepIn K (.ref a) = true) (b : Binds K fd ps []) (kw : ∀ q ∈ KW, q.1 = f → KwOk K fd ps q) : Ent T KW P w K mg base f fn
  | mt {f fn c m Cc a fd ps} (hk : fn.k = .mt c m) (hx : fn.x = false) (ok : ∀ n, FT T KW n P w K mg base → FnOk P w K mg base CX0 (n + 2 + 1) a fd ps (spI T (n + 1) K f)) (cn : CN K c Cc) (cl : Cls K Cc) (me : Meth K Cc (Str.ofString m) a) (b : Binds K fd ps []) : Ent T KW P w K mg base f fn
  | mx {f fn c m Cc a fd ps} (hk : fn.k = .mt c m) (hx : fn.x = true) (ok : ∀ n, FT T KW n P w K mg base → FnOk P w K mg base (CX P w) (n + 2 + 1) a fd ps (spX T (n + 1) K mg f)) (cn : CN K c Cc) (cl : Cls K Cc) (me : Meth K Cc (Str.ofString m) a) (b : Binds K fd ps []) : Ent T KW P w K mg base f fn
  | ct {f ci fn Cc a fd ps} (hk : fn.k = .ct f) (hc : (f ++ ".__init__" : String) = ci) (ok : ∀ n, FT T KW n P w K mg base → FnOk P w K mg base CX0 (n + 2 + 1) a fd ps (spI T (n + 1) K ci)) (mc : mg (Str.ofString f) = some (.ref Cc)) (cn : CN K f Cc) (mk : Mk K Cc a) (b : Binds K fd ps []) (e : fn = ctorFn f fn.pars) : Ent T KW P w K mg base f fn
def Ents (T : Ir.Tab) (KW : List Kw) (P : Program) (w : World) (K : PySem.W.Frag) (mg : Str → Option Value) (base : Heap) : List (String × Ir.Fn) → Prop
  | [] => True
  | p :: r => Ent T KW P w K mg base p.1 p.2 ∧ Ents T KW P w K mg base r
theorem Ents.of {T : Ir.Tab} {KW : List Kw} {P : Program} {w : World} {K : PySem.W.Frag} {mg : Str → Option Value} {base : Heap} {f : String} {fn : Ir.Fn} : ∀ {l : List (String × Ir.Fn)}, Ents T KW P w K mg base l → (f, fn) ∈ l → Ent T KW P w K mg base f fn
  | [], _, h => nomatch h
  | _ :: _, ⟨h1, h2⟩, h => by
    rcases List.mem_cons.mp h with rfl | h
    · exact h1
    · exact h2.of h
theorem ft_ind {tab : List (String × Ir.Fn)} {KW : List Kw} {P : Program} {w : World} {K : PySem.W.Frag} {mg : Str → Option Value} {base : Heap} (h : Ents (Ir.tabOf tab) KW P w K mg base tab) : ∀ n, FT (Ir.tabOf tab) KW n P w K mg base
  | 0 => ft_zero fun f fn hT => by
    cases h.of (Ir.tab_mem hT) with
    | df hk hx ok m kp b kw => exact .df hk ⟨_, _, _, m, kp, b, kw⟩
    | dx hk hx ok m kp b kw => exact .df hk ⟨_, _, _, m, kp, b, kw⟩
    | dk hk hx ok m kp kw => exact .dk hk ⟨_, _, _, m, kp, kw⟩
    | mt hk hx ok cn cl me b => exact .mt hk ⟨_, _, _, _, cn, cl, me, b⟩
    | mx hk hx ok cn cl me b => exact .mt hk ⟨_, _, _, _, cn, cl, me, b⟩
    | ct hk hc ok mc cn mk b e => exact .ct hk ⟨_, _, _, _, mc, cn, mk, b, rfl, e⟩
  | n + 1 => by
    have ih := ft_ind h n
    refine ⟨fun f fn hT hx hk => ?_, fun f fn hT hx hk => ?_, fun f fn hT hx c m hk => ?_, fun f fn hT hx c m hk => ?_, fun f fn hT c hk => ?_, fun f fn hT hx hk => ?_⟩
    · cases h.of (Ir.tab_mem hT) with
      | df _ _ ok m kp b kw => exact ⟨_, _, _, ok n ih, m, kp, b, kw⟩
      | dx _ hx' => rw [hx] at hx'; cases hx'
      | mt hk' | mx hk' | ct hk' | dk hk' => rw [hk] at hk'; cases hk'
    · cases h.of (Ir.tab_mem hT) with
      | dx _ _ ok m kp b kw => exact ⟨_, _, _, ok n ih, m, kp, b, kw⟩
      | df _ hx' => rw [hx] at hx'; cases hx'
      | mt hk' | mx hk' | ct hk' | dk hk' => rw [hk] at hk'; cases hk'
    · cases h.of (Ir.tab_mem hT) with
      | mt hk' _ ok cn cl me b => rw [hk] at hk'; cases hk'; exact ⟨_, _, _, _, cn, cl, me, ok n ih, b⟩
      | mx _ hx' => rw [hx] at hx'; cases hx'
      | df hk' | dx hk' | ct hk' | dk hk' => rw [hk] at hk'; cases hk'
    · cases h.of (Ir.tab_mem hT) with
      | mx hk' _ ok cn cl me b => rw [hk] at hk'; cases hk'; exact ⟨_, _, _, _, cn, cl, me, ok n ih, b⟩
      | mt _ hx' => rw [hx] at hx'; cases hx'
      | df hk' | dx hk' | ct hk' | dk hk' => rw [hk] at hk'; cases hk'
    · cases h.of (Ir.tab_mem hT) with
      | ct hk' hc ok mc cn mk b e =>
        rw [hk] at hk'; cases hk'
        refine ⟨_, _, _, _, mc, cn, mk, fun m hm => ?_, b, rfl, e⟩
        rw [hc]
        cases hm
        cases n with
        | zero => exact fn_zero
        | succ k => exact ok k (ft_ind h k)
      | df hk' | dx hk' | mt hk' | mx hk' | dk hk' => rw [hk] at hk'; cases hk'
    · cases h.of (Ir.tab_mem hT) with
      | dk _ _ ok m kp kw => exact ⟨_, _, _, ok n ih, m, kp, kw⟩
      | df hk' | dx hk' | mt hk' | mx hk' | ct hk' => rw [hk] at hk'; cases hk'
termination_by n => n
end Snd

set_option maxHeartbeats 4000000
namespace Snd
open PySem PySem.Spec PyProof.Rows L2
open Builtin Builtin.ObjectAttr
/-! ### classes of errors of one's own whose __init__ keeps one thing: over any base -/
structure OxC (K : PySem.W.Frag) (C : Addr) (bmB : List Value) (newId : String) : Prop where
  init : PySem.W.excInitIn K C bmB newId = true
  ov : PySem.W.excOver K C bmB = true
  sa : PySem.W.findIn K (.ref C) "__setattr__" = some (some (.builtin "object.__setattr__"))
  hd : PySem.W.hasDictIn K C = true
  ex : PySem.W.subIn K (.ref C) (.type "BaseException") = some true
  ty : PySem.W.typeIn K (.ref C) = some (.type "type")
  kp : PySem.W.keepIn K (.ref C) = true
section
variable {X : Cx} {pins : List (Addr × Obj)} {σ : L2.St} {H : Hp} {s : Shared} {a C : Addr} {f : Str} {y : V} {u : Value} {Q : Unit → Shared → Prop} {E : Value → Shared → Prop} {A : Around} {B newId initId : String} {bmB : List Value}
end
/-! ### its __init__ -/
/-- a kind of error that one of one's own stands on -/
structure OxB (K : PySem.W.Frag) (B newId initId : String) (bmB : List Value) : Prop where
  fb : ExcBaseFacts B newId initId bmB
  sf : StoreFacts B bmB "object.__setattr__" "object"
  ty : typeOf (.type B) = pure (.type "type")
  st : Manifest.isStub B = false
  fi : PySem.W.findCls K (.type B) (.type "type") "__init__" = some (.val (.builtin initId))
  ha : PySem.W.handedIn (.builtin initId) = true
  bo : bootBuiltins (Str.ofString B) = some (.type B)
section
variable {X : Cx} {B newId initId : String} {bmB : List Value}
end
/-! ### C(e): made, and raised -/
section
variable {X : Cx} {C : Ir.Calls} {W : WX} {B newId initId : String} {bmB : List Value}
end
/-! ### except C as e: return e.f -/
end Snd

namespace Snd
open PySem PySem.Spec PyProof.Rows L2
/-! ### sorted(d): a dict's keys, all whole numbers, fewer than 64 -/
variable {X : Cx} {C : Ir.Calls}
/-! ### dict(d): a copy -/
/-! ### three names at once -/
/-! ### a new list, given out as data at once -/
/-! ### a test by a choice -/
/-! ### a list of one's own: is it not empty -/
/-! ### calls of defs with keyword-only parameters -/
section
variable {K : PySem.W.Frag} {x qual : Str} {params : Arguments} {body : List Stmt} {scope : Scope} {kws : List (Str × V)} {f : Addr} {fd : FuncData} {ps : List Str}
end
end Snd

namespace Snd
open PySem PySem.Spec PyProof.Rows L2
variable {X : Cx} {C : Ir.Calls}
/-! ### a def that is a value, called -/
/-- the def's name is bound to itself -/
def FnL (K : PySem.W.Frag) (mg : Str → Option Value) (f : String) : Prop := ∃ a, PySem.W.nsIn K mainGlobals (Str.ofString f) = some (some (.ref a)) ∧ mg (Str.ofString f) = some (.ref a)
theorem fnR_of {P : Program} {w : World} {K : PySem.W.Frag} {mg : Str → Option Value} {base : Heap} {CX : CXT} {k : Nat} {a : Addr} {fd : FuncData} {ps : List Str} {sp : Sp} (F : FnOk P w K mg base CX k a fd ps sp) (hb : Binds K fd ps []) (hK : ∀ (A : Around) (outer : List Env) (s : Shared) (H : Hp), Env0 P w K mg base A outer s H → K.In s.heap) : FnR P w K mg base CX k a sp := by
  intro A outer s H us vs Q E hr h0 hv hsp
  have hl := F.len vs H Q E hsp
  have hl2 := hv.length
  have := hb s us (hK A outer s H h0) (by simp; omega)
  rw [List.append_nil] at this
  exact F.run A outer s H ⟨us, []⟩ us vs Q E hr h0 this hv hsp
theorem kin_of {P : Program} {w : World} {K : PySem.W.Frag} {mg : Str → Option Value} {base : Heap} {A : Around} {outer : List Env} {s : Shared} {H : Hp} (h : Env0 P w K mg base A outer s H) : K.In s.heap := fun a o q => (h.bs a o (h.mod.kin a o q)).1
theorem se_callV {T : Ir.Tab} {KW : List Kw} {n : Nat} {fs : List String} {x : Str} (i : Nat) {e : Expr} {es : List Expr} {is : List Ir.Ex} {p pos : Pos} (ft : FT T KW n X.prog X.w X.K X.mg X.base) (hfs : ∀ f ∈ fs, ∃ fn, T f = some fn ∧ fn.x = false ∧ fn.k = .df) (hl : ∀ f ∈ fs, FnL X.K X.mg f) (hr : Room (n + 2) X.A) (hs : SEs X (Ir.callN T n) (e :: es) is)
    (hx : Vis X.env.scope x := by first | exact .inl rfl | exact .inr (.inl rfl) | exact .inr (.inr rfl)) (hi : X.N[i]? = some x := by rfl) (hdb : (x == Str.ofString "__debug__") = false := by decide) (hcd : (x == Str.ofString "__classdict__") = false := by decide) (he : starEach (e :: es) X.env = (false, eval e X.env) :: starEach es X.env := by rfl) (hpl : (backTo pos (starEach es X.env)).any (·.1) = false := by rfl) :
    SE X (Ir.callN T n) (.Call (.Name x p) (e :: es) [] pos) (.callV fs (.var i) is) := by
  refine ⟨fun pins s σ H Q I h => ?_⟩
  obtain ⟨ρ, env, st, v, st', rs, re, ev, k⟩ := h
  simp only [Ir.eval] at ev
  obtain ⟨y, s1, e1, ev⟩ := bok ev
  cases hy : env[i]? with
  | none => rw [hy] at e1; cases e1
  | some ov =>
    rw [hy] at e1
    cases ov with
    | none => cases e1
    | some u =>
      cases e1
      split at ev
      · rename_i f
        split at ev
        · rename_i hf
          obtain ⟨vs, s2, e2, ev⟩ := bok ev
          obtain ⟨fn, hT, hfx, hfk⟩ := hfs f hf
          obtain ⟨a, fd, ps, F, hm, hk, hb, _⟩ := ft.ok f fn hT hfx hfk
          obtain ⟨a2, q1, q2⟩ := hl f hf
          rw [hm] at q2; cases q2
          have hσ : σ[i]? = some (some (.ref a)) := by
            obtain ⟨z, h1, h2⟩ := re.2 i _ hy
            have h2 : RD ρ X.K H (.fn f) z := h2
            cases h2 with
            | fn h3 => rw [q1] at h3; cases h3; exact h1
          exact (ItX.pe_callV (CX := CX0) (fnR_of F hb fun A outer s H => kin_of) hr hk pass0 hi hx hs hdb hcd he hpl).run pins s σ H Q I ⟨hσ, ρ, env, _, vs, s2, rs, re, e2, fun ρ1 H1 XS x1 rs1 rx => ⟨ρ1, s2, vs, v, st', rs1, rx, ev, fun ρ' H' x x2 rs2 r2 => k ρ' H' x (x1.trans x2) rs2 r2⟩⟩
        · cases ev
      · cases ev
/-! ### a comprehension over a list of the arena -/
theorem lstOf_inv {st : Ir.Store} {v : Ir.Val} {xs : List Ir.D} (h : Ir.lstOf st v = some xs) : ∃ n, Ir.getO st v = some (n, .lst xs) := by
  unfold Ir.lstOf at h
  split at h
  · rename_i n ys hg
    cases h
    exact ⟨n, hg⟩
  · cases h
/-- a list of the arena that is walked, while it stays as it is -/
structure WkO (K : PySem.W.Frag) (ρ0 : Rho) (H0 : Hp) (J : It) (x : Ir.Val) (xs : List Ir.D) : Prop where
  go : ∀ (i : Nat) (y : Ir.D) (ρ : Rho) (H : Hp) (st : Ir.Store), Ext ρ0 H0 ρ H → RS ρ K st H → Ir.lstOf st x = some xs → xs[i]? = some y → J.go i H ∧ ∀ v H', J.yld i H v H' → Ext ρ H ρ H' ∧ RS ρ K st H' ∧ RD ρ K H' y v
  len : xs.length ≤ sizeLine
  stop : ∀ (i : Nat) (ρ : Rho) (H : Hp) (st : Ir.Store), Ext ρ0 H0 ρ H → RS ρ K st H → Ir.lstOf st x = some xs → xs.length ≤ i → J.stop i H
theorem wkO_of {K : PySem.W.Frag} {ρ : Rho} {H : Hp} {st : Ir.Store} {x : Ir.Val} {xs : List Ir.D} {a : Addr} (rs : RS ρ K st H) (rx : RV ρ K H x (.ref a)) (h : Ir.lstOf st x = some xs) : (∃ ys, SqL K H a ys) ∧ WkO K ρ H (Itl K a) x xs := by
  have key : ∀ (ρ1 : Rho) (H1 : Hp) (s1 : Ir.Store), Ext ρ H ρ1 H1 → RS ρ1 K s1 H1 → Ir.lstOf s1 x = some xs → ∃ ys, SqL K H1 a ys ∧ ys.length ≤ sizeLine ∧ RDs ρ1 K H1 xs ys := fun ρ1 H1 s1 e r1 h1 => by
    obtain ⟨n, hg⟩ := lstOf_inv h1
    obtain ⟨b, os, hb, ha, hA, ⟨ys, h2, h3, h4⟩⟩ := obj_at r1 (rx.mono e) hg
    cases hb
    exact ⟨ys, SqL.of h2, h3, h4⟩
  obtain ⟨ys, q0, z0, r0⟩ := key ρ H st (.refl _ _) rs h
  refine ⟨⟨ys, q0⟩, fun i y ρ1 H1 s1 e r1 h1 hy => ?_, by rw [r0.length]; exact z0, fun i ρ1 H1 s1 e r1 h1 hl => ?_⟩
  · obtain ⟨zs, q1, z1, r2⟩ := key ρ1 H1 s1 e r1 h1
    obtain ⟨v, h3, h4⟩ := r2.get hy
    refine ⟨⟨zs, v, q1, h3⟩, fun w H' hw => ?_⟩
    obtain ⟨rfl, hw⟩ := hw
    have := hw zs q1
    rw [h3] at this; cases this
    exact ⟨.refl _ _, r1, h4⟩
  · obtain ⟨zs, q1, z1, r2⟩ := key ρ1 H1 s1 e r1 h1
    exact ⟨zs, q1, by rw [← r2.length]; exact hl⟩
def tSrcO (C : Ir.Calls) (K : PySem.W.Frag) (e : Ir.Ex) : TI := fun σ H R => ∃ ρ env st x xs st', RS ρ K st H ∧ REnv ρ K H env σ ∧ Ir.eval C e env st = .ok x st' ∧ Ir.lstOf st' x = some xs ∧ ∀ ρ' H' J, Ext ρ H ρ' H' → RS ρ' K st' H' → WkO K ρ' H' J x xs → R J H'
theorem si_obj {tg e : Expr} {ir : Ir.Ex} (h : SE X C e ir) : PI X tg e (tSrcO C X.K ir) := by
  refine pi_imp (pi_list h) fun σ H R ⟨ρ, env, st, x, xs, st', rs, re, ev, hs, k⟩ => ?_
  refine ⟨ρ, env, st, x, st', rs, re, ev, fun ρ1 H1 X1 x1 rs1 rx => ?_⟩
  obtain ⟨n, hg⟩ := lstOf_inv hs
  obtain ⟨a, os, rfl, ha, hA, _⟩ := obj_at rs1 rx hg
  obtain ⟨q, wk⟩ := wkO_of rs1 rx hs
  exact ⟨a, rfl, q, k ρ1 H1 _ x1 rs1 wk⟩
/-- the turns of such a comprehension -/
theorem comp_coreO {K : PySem.W.Frag} {J : It} {x0 : Ir.Val} {xs : List Ir.D} {tg : Ir.Tg} {cs : List Ir.Ex} {elt : Ir.Ex} {σ : L2.St} {env : Ir.Env} {ρ1 : Rho} {H1 : Hp} {s3 s8 : Ir.Store} {ys : List Ir.D} {D : Addr} {Qd : Hp → Prop} (rs1 : RS ρ1 K s3 H1) (re1 : REnv ρ1 K H1 env σ) (wk : WkO K ρ1 H1 J x0 xs) (hD : H1 D = none)
    (ev : Ir.compL (Ir.guardL x0 xs (Ir.compStep (Ir.eval C elt) (Ir.conds C cs) tg (Ir.wipe env tg.slots))) xs s3 = .ok ys s8) (hend : Ir.lstOf s8 x0 = some xs)
    (k : ∀ ρ' H' zs, Ext ρ1 H1 ρ' H' → RS ρ' K s8 H' → D ∈ ρ'.res → H' D = some (.lst zs) → zs.length ≤ sizeLine → RDs ρ' K H' ys zs → Qd H') :
    ∃ W : Nat → Nat → Hp → Prop, (∃ m, W 0 m (upd H1 D (.lst []))) ∧ ∀ i m H, W i m H →
      (J.stop i H ∧ Qd H) ∨ (J.go i H ∧ ∃ Nx : Hp → Prop, (∀ H', Nx H' → ∃ m', m' < m ∧ W (i + 1) m' H') ∧ ∀ x H', J.yld i H x H' → tG K tg x (L2.wipe σ tg.slots) H' fun σ2 H2 => L2.wipe σ2 tg.slots = L2.wipe σ tg.slots ∧ tICs C K cs σ2 H2 fun b H3 =>
        if b = true then tI C K elt σ2 H3 fun y H4 => ∃ acc, H4 D = some (.lst acc) ∧ acc.length < sizeLine ∧ Nx (upd H4 D (.lst (acc ++ [y]))) else Nx H3) := by
  refine ⟨fun i m H => ∃ ρ st acc done rest, Ext ρ1 H1 ρ H ∧ RS ρ K st H ∧ D ∈ ρ.res ∧ H D = some (.lst acc) ∧ RDs ρ K H done acc ∧ acc.length ≤ i ∧ i ≤ xs.length ∧ m = xs.length - i ∧ ys = done ++ rest ∧
      Ir.compL (Ir.guardL x0 xs (Ir.compStep (Ir.eval C elt) (Ir.conds C cs) tg (Ir.wipe env tg.slots))) (xs.drop i) st = .ok rest s8,
    ⟨xs.length, ρ1.keep D, s3, [], [], ys, .keep rs1 hD _, rs1.keep hD _, List.mem_cons_self, upd_same, .nil, Nat.zero_le _, Nat.zero_le _, by omega, rfl, ev⟩, ?_⟩
  rintro i m H ⟨ρ, st, acc, done, rest, x1, rs, hres, hacc, rd, hl, hi, rfl, rfl, ec⟩
  by_cases hlt : i < xs.length
  · have hx : xs[i]? = some xs[i] := List.getElem?_eq_getElem hlt
    have hdrop : xs.drop i = xs[i] :: xs.drop (i + 1) := List.drop_eq_getElem_cons hlt
    rw [hdrop] at ec
    simp only [Ir.compL] at ec
    obtain ⟨oy, s1, e1, ec⟩ := bok ec
    obtain ⟨rest1, s2, e2, ec⟩ := bok ec
    obtain ⟨hst, e1⟩ := Ir.guardO_inv e1
    unfold Ir.compStep at e1
    obtain ⟨env1, e3, e1⟩ := ook e1
    obtain ⟨b, s5, e4, e1⟩ := bok e1
    obtain ⟨go, yl⟩ := wk.go i _ ρ H st x1 rs hst hx
    refine .inr ⟨go, fun H' => ∃ m', m' < xs.length - i ∧ ∃ ρ st acc done rest, Ext ρ1 H1 ρ H' ∧ RS ρ K st H' ∧ D ∈ ρ.res ∧ H' D = some (.lst acc) ∧ RDs ρ K H' done acc ∧ acc.length ≤ i + 1 ∧ i + 1 ≤ xs.length ∧ m' = xs.length - (i + 1) ∧ _ = done ++ rest ∧ _, fun H' h => h, fun v H2 hy => ?_⟩
    obtain ⟨x2, rs2, rx⟩ := yl v H2 hy
    have hacc2 : H2 D = some (.lst acc) := x2.fr _ _ hacc (rs.disj D hres) (rs.ra.nres D hres)
    refine ⟨ρ, _, st, _, env1, rs2, ((re1.mono (x1.trans x2)).wipe tg.slots), rx, e3, fun ρ3 H3 σ3 x3 rs3 re3 on => ⟨?_, ρ3, env1, st, b, s5, rs3, re3, e4, fun ρ4 H4 x4 rs4 => ?_⟩⟩
    · have := on tg.slots fun _ q => q
      rw [this, wipe_idem]
    have hres3 : D ∈ ρ3.res := x3.rs D hres
    have hacc3 : H3 D = some (.lst acc) := x3.fr _ _ hacc2 (rs2.disj D hres) (rs2.ra.nres D hres)
    have hres4 : D ∈ ρ4.res := x4.rs D hres3
    have hacc4 : H4 D = some (.lst acc) := x4.fr _ _ hacc3 (rs3.disj D hres3) (rs3.ra.nres D hres3)
    have x14 : Ext ρ1 H1 ρ4 H4 := ((x1.trans x2).trans x3).trans x4
    cases b with
    | false =>
      simp only [Bool.false_eq_true, if_false] at e1 ⊢
      cases e1
      simp only at ec
      cases ec
      exact ⟨xs.length - (i + 1), by omega, ρ4, _, acc, done, _, x14, rs4, hres4, hacc4, ((rd.mono x2).mono x3).mono x4, by omega, hlt, rfl, rfl, e2⟩
    | true =>
      simp only [if_true] at e1 ⊢
      obtain ⟨z, s6, e5, e1⟩ := bok e1
      obtain ⟨d, e6, e1⟩ := ook e1
      obtain rfl := asD_ok e6
      cases e1
      simp only at ec
      cases ec
      refine ⟨ρ4, env1, s5, _, _, rs4, re3.mono x4, e5, fun ρ5 H5 Y x5 rs5 ry => ?_⟩
      have hres5 : D ∈ ρ5.res := x5.rs D hres4
      have hacc5 : H5 D = some (.lst acc) := x5.fr _ _ hacc4 (rs4.disj D hres4) (rs4.ra.nres D hres4)
      have hlen := wk.len
      refine ⟨acc, hacc5, by omega, xs.length - (i + 1), by omega, ρ5, _, acc ++ [Y], done ++ [d], _, (x14.trans x5).aside hD, rs5.aside hres5, hres5, upd_same, ?_, ?_, hlt, rfl, by simp, e2⟩
      · exact RDs.aside hres5 (((((rd.mono x2).mono x3).mono x4).mono x5).append (.cons ry .nil))
      · rw [List.length_append]; simp; omega
  · have e : i = xs.length := by omega
    subst e
    rw [List.drop_length] at ec
    simp only [Ir.compL] at ec
    cases ec
    rw [List.append_nil] at k
    have hlen := wk.len
    exact .inl ⟨wk.stop _ ρ H _ x1 rs hend (Nat.le_refl _), k ρ H acc x1 rs hres hacc (by omega) rd⟩
theorem tLcO_of {K : PySem.W.Frag} {elt it : Ir.Ex} {tg : Ir.Tg} {cs : List Ir.Ex} {vs : List Nat} (hvs : vs = tg.slots) : ∀ σ H Q, tN C K (.compO elt tg it cs) σ H Q → tLc (tSrcO C K it) (tG K tg) (tICs C K cs) (tI C K elt) vs σ H Q := by
  intro σ H Q ⟨ρ, env, st, ys, st', rs, re, ev, k⟩
  subst hvs
  simp only [Ir.eval] at ev
  obtain ⟨x, s1, e1, ev⟩ := bok ev
  obtain ⟨xs, e2, ev⟩ := ook ev
  obtain ⟨zs, s8, e4, ev⟩ := bok ev
  obtain ⟨hend, ev⟩ := Ir.guardO_inv ev
  cases ev
  exact ⟨ρ, env, st, x, xs, s1, rs, re, e1, e2, fun ρ1 H1 J x1 rs1 wk D hD => comp_coreO rs1 (re.mono x1) wk hD e4 hend fun ρ' H' ws x2 rs2 hr hh z r => k ρ' H' D ws (x1.trans x2) rs2 (x1.al D hD) hr hh z r⟩
theorem is_compO {elt it : Ir.Ex} {tg : Ir.Tg} {cs : List Ir.Ex} : ∀ env st v st', Ir.eval C (.compO elt tg it cs) env st = .ok v st' → ∃ xs, v = .d (.lst xs) := fun env st v st' ev => by
  simp only [Ir.eval] at ev
  obtain ⟨x, s1, e1, ev⟩ := bok ev
  obtain ⟨xs, e2, ev⟩ := ook ev
  obtain ⟨zs, s8, e4, ev⟩ := bok ev
  obtain ⟨hend, ev⟩ := Ir.guardO_inv ev
  cases ev
  exact ⟨_, rfl⟩
theorem sn_compO {elt tg iter : Expr} {ifs : List Expr} {scope : Scope} (own : List (Str × Nat)) {pos : Pos} {ie it : Ir.Ex} {t : Ir.Tg} {cs : List Ir.Ex} (hc : X.calm = true) (hN : X.N.Nodup) (hi : PI X tg iter (tSrcO C X.K it)) (ok : BlkOk X.N X.env.scope scope own)
    (hg : ∀ (s : Shared) (H : Hp) (Cc : Addr) (cl : List (Str × Addr)) (fp : List Addr), SG (X.blk s H scope (compEnvC scope cl Cc X.env) fp) tg t) (ht : ∀ (s : Shared) (H : Hp) (Cc : Addr) (cl : List (Str × Addr)) (fp : List Addr), SCs (X.blk s H scope (compEnvC scope cl Cc X.env) fp) C ifs cs)
    (he : ∀ (s : Shared) (H : Hp) (Cc : Addr) (cl : List (Str × Addr)) (fp : List Addr), SE (X.blk s H scope (compEnvC scope cl Cc X.env) fp) C elt ie) (hvs : own.map (·.2) = t.slots := by rfl) (hs : ∀ x, foldedSetIterable iter X.env x = pure x := by intro _; rfl) :
    SN X C (.ListComp elt [⟨tg, iter, ifs, 0⟩] scope pos) (.compO ie t it cs) := pe_imp (pe_lc hc hN hi ok hg ht he hs) (tLcO_of hvs)
end Snd

namespace Prog
def fv_RULES : List String := ["is_int", "is_bool", "is_called", "is_choice", "is_sum", "is_less", "is_pair", "is_first", "is_second", "is_nil", "is_cons", "is_head", "is_tail", "is_none"]
abbrev f_renamed_c0 : Ir.Ex := .call "renamed" [.var 4, .var 1]
def f_renamed : Ir.Fn := ⟨5, 2, [.asg (.star [2] 3 []) (.var 0),
    .ite (.cmp .eq (.var 2) (.con (.str "free"))) [.ret (.tup [.con (.str "free"), .mth .setdefault (.var 1) [.idx (.var 3) (.con (.int 0)), .blt .len [.var 1]]])] [],
    .ret (.bin .add (.tup [.var 2]) (.blt .tuple [.comp (f_renamed_c0) (.name 4) (.var 3) []]))], false, .df⟩
abbrev f_named_c0 : Ir.Ex := .call "renamed" [.var 2, .var 1]
def f_named : Ir.Fn := ⟨3, 1, [.asg (.name 1) (.newD),
    .ret (.newL (.comp (f_named_c0) (.name 2) (.var 0) []))], false, .df⟩
abbrev f_inner_c0 : Ir.Ex := .var 1
abbrev f_inner_k0 : List Ir.Ex := [.isi (.var 1) [.tuple]]
def f_inner : Ir.Fn := ⟨2, 1, [.ret (.comp (f_inner_c0) (.name 1) (.sli (.var 0) (some (.con (.int 1))) none) f_inner_k0)], false, .df⟩
def f_bare : Ir.Fn := ⟨1, 1, [.ret (.ite (.cmp .eq (.idx (.var 0) (.con (.int 0))) (.con (.str "off"))) (.tup [.idx (.var 0) (.con (.int 1)), .con (.bool true)]) (.tup [.var 0, .con (.bool false)]))], false, .df⟩
def f_is_int : Ir.Fn := ⟨3, 3, [.ret (.lst [.tup [.var 0, .con (.tup [.str "int"])]])], false, .df⟩
def f_is_bool : Ir.Fn := ⟨3, 3, [.ret (.lst [.tup [.var 0, .con (.tup [.str "bool"])]])], false, .df⟩
def f_is_called : Ir.Fn := ⟨3, 3, [.ret (.lst [.tup [.idx (.var 1) (.con (.int 0)), .tup [.con (.str "fn"), .idx (.var 1) (.con (.int 1)), .var 0]]])], false, .df⟩
def f_is_choice : Ir.Fn := ⟨3, 3, [.ret (.lst [.tup [.idx (.var 1) (.con (.int 0)), .con (.tup [.str "bool"])], .tup [.idx (.var 1) (.con (.int 1)), .var 0], .tup [.idx (.var 1) (.con (.int 2)), .var 0]])], false, .df⟩
def f_is_sum : Ir.Fn := ⟨3, 3, [.ret (.lst [.tup [.var 0, .con (.tup [.str "int"])], .tup [.idx (.var 1) (.con (.int 0)), .con (.tup [.str "int"])], .tup [.idx (.var 1) (.con (.int 1)), .con (.tup [.str "int"])]])], false, .df⟩
def f_is_less : Ir.Fn := ⟨3, 3, [.ret (.lst [.tup [.var 0, .con (.tup [.str "bool"])], .tup [.idx (.var 1) (.con (.int 0)), .con (.tup [.str "int"])], .tup [.idx (.var 1) (.con (.int 1)), .con (.tup [.str "int"])]])], false, .df⟩
def f_is_pair : Ir.Fn := ⟨3, 3, [.ret (.lst [.tup [.var 0, .tup [.con (.str "pair"), .idx (.var 1) (.con (.int 0)), .idx (.var 1) (.con (.int 1))]]])], false, .df⟩
def f_is_first : Ir.Fn := ⟨3, 3, [.ret (.lst [.tup [.idx (.var 1) (.con (.int 0)), .tup [.con (.str "pair"), .var 0, .var 2]]])], false, .df⟩
def f_is_second : Ir.Fn := ⟨3, 3, [.ret (.lst [.tup [.idx (.var 1) (.con (.int 0)), .tup [.con (.str "pair"), .var 2, .var 0]]])], false, .df⟩
def f_is_nil : Ir.Fn := ⟨3, 3, [.ret (.lst [.tup [.var 0, .tup [.con (.str "list"), .var 2]]])], false, .df⟩
def f_is_cons : Ir.Fn := ⟨3, 3, [.ret (.lst [.tup [.var 0, .tup [.con (.str "list"), .idx (.var 1) (.con (.int 0))]], .tup [.idx (.var 1) (.con (.int 1)), .var 0]])], false, .df⟩
def f_is_head : Ir.Fn := ⟨3, 3, [.ret (.lst [.tup [.idx (.var 1) (.con (.int 0)), .tup [.con (.str "list"), .var 0]]])], false, .df⟩
def f_is_tail : Ir.Fn := ⟨3, 3, [.ret (.lst [.tup [.var 0, .tup [.con (.str "list"), .var 2]], .tup [.idx (.var 1) (.con (.int 0)), .var 0]])], false, .df⟩
def f_is_none : Ir.Fn := ⟨3, 3, [.ret (.lst [.tup [.var 0, .con (.tup [.str "bool"])], .tup [.idx (.var 1) (.con (.int 0)), .tup [.con (.str "list"), .var 2]]])], false, .df⟩
def f_Solver___init__ : Ir.Fn := ⟨1, 1, [.setf "Solver" (.var 0) "bound" (.newOD),
    .setf "Solver" (.var 0) "many" (.con (.int 0))], false, .mt "Solver" "__init__"⟩
def f_Solver_fresh : Ir.Fn := ⟨1, 1, [.augf "Solver" (.var 0) "many" .add (.con (.int 1)),
    .ret (.tup [.con (.str "free"), .bin .sub (.fld "Solver" (.var 0) "many") (.con (.int 1))])], false, .mt "Solver" "fresh"⟩
abbrev f_Solver_seen_b0 : List Ir.Stm := [.asg (.name 1) (.oq .idx (.fld "Solver" (.var 0) "bound") [.idx (.var 1) (.con (.int 1))])]
abbrev f_Solver_seen_w0 : Ir.Ex := .and (.cmp .eq (.idx (.var 1) (.con (.int 0))) (.con (.str "free"))) (.oin false (.idx (.var 1) (.con (.int 1))) (.fld "Solver" (.var 0) "bound"))
def f_Solver_seen : Ir.Fn := ⟨2, 2, [.while (f_Solver_seen_w0) f_Solver_seen_b0,
    .ret (.var 1)], false, .mt "Solver" "seen"⟩
abbrev f_Solver_has_c0 : Ir.Ex := .meth "Solver" "has" (.var 0) [.var 3, .var 2]
def f_Solver_has : Ir.Fn := ⟨4, 3, [.asg (.name 1) (.meth "Solver" "seen" (.var 0) [.var 1]),
    .ite (.cmp .eq (.idx (.var 1) (.con (.int 0))) (.con (.str "free"))) [.ret (.cmp .eq (.idx (.var 1) (.con (.int 1))) (.var 2))] [],
    .ret (.blt .any [.comp (f_Solver_has_c0) (.name 3) (.call "inner" [.var 1]) []])], false, .mt "Solver" "has"⟩
abbrev f_Solver_unite_c0 : Ir.Ex := .meth "Solver" "unite" (.var 0) [.var 3, .var 4]
def f_Solver_unite : Ir.Fn := ⟨5, 3, [.par 1 2 (.meth "Solver" "seen" (.var 0) [.var 1]) (.meth "Solver" "seen" (.var 0) [.var 2]),
    .ite (.cmp .eq (.var 1) (.var 2)) [.ret (.con (.bool true))] [],
    .ite (.cmp .eq (.idx (.var 1) (.con (.int 0))) (.con (.str "free"))) [.ite (.meth "Solver" "has" (.var 0) [.var 2, .idx (.var 1) (.con (.int 1))]) [.ret (.con (.bool false))] [],
    .setO (.fld "Solver" (.var 0) "bound") (.idx (.var 1) (.con (.int 1))) (.var 2),
    .ret (.con (.bool true))] [],
    .ite (.cmp .eq (.idx (.var 2) (.con (.int 0))) (.con (.str "free"))) [.ret (.meth "Solver" "unite" (.var 0) [.var 2, .var 1])] [],
    .ite (.or (.cmp .ne (.idx (.var 1) (.con (.int 0))) (.idx (.var 2) (.con (.int 0)))) (.cmp .isin (.idx (.var 1) (.con (.int 0))) (.con (.tup [.str "int", .str "bool", .str "rigid"])))) [.ret (.con (.bool false))] [],
    .ret (.blt .all [.comp (f_Solver_unite_c0) (.tup [.name 3, .name 4]) (.blt .zip [.sli (.var 1) (some (.con (.int 1))) none, .sli (.var 2) (some (.con (.int 1))) none]) []])], false, .mt "Solver" "unite"⟩
abbrev f_Solver_hold_c0 : Ir.Ex := .meth "Solver" "unite" (.var 0) [.var 2, .var 3]
def f_Solver_hold : Ir.Fn := ⟨4, 2, [.ret (.blt .all [.comp (f_Solver_hold_c0) (.tup [.name 2, .name 3]) (.var 1) []])], false, .mt "Solver" "hold"⟩
abbrev f_Solver_filled_c0 : Ir.Ex := .ite (.isi (.var 2) [.tuple]) (.meth "Solver" "filled" (.var 0) [.var 2]) (.var 2)
def f_Solver_filled : Ir.Fn := ⟨3, 2, [.asg (.name 1) (.meth "Solver" "seen" (.var 0) [.var 1]),
    .ite (.cmp .eq (.idx (.var 1) (.con (.int 0))) (.con (.str "free"))) [.ret (.var 1)] [],
    .ret (.blt .tuple [.comp (f_Solver_filled_c0) (.name 2) (.var 1) []])], false, .mt "Solver" "filled"⟩
def f_Finder___init__ : Ir.Fn := ⟨1, 1, [.setf "Finder" (.var 0) "solver" (.call "Solver" []),
    .setf "Finder" (.var 0) "given" (.newO (.lst [])),
    .setf "Finder" (.var 0) "good" (.con (.bool true))], false, .mt "Finder" "__init__"⟩
abbrev f_Finder_visit_c0 : Ir.Ex := .meth "Finder" "visit" (.var 0) [.var 9, .var 2, .var 3]
def f_Finder_visit : Ir.Fn := ⟨10, 4, [.asg (.tup [.name 1, .name 4]) (.call "bare" [.var 1]),
    .asg (.name 5) (.meth "Solver" "fresh" (.fld "Finder" (.var 0) "solver") []),
    .ex (.om .append (.fld "Finder" (.var 0) "given") [.var 5]),
    .asg (.name 6) (.idx (.var 1) (.con (.int 0))),
    .ite (.cmp .eq (.var 6) (.con (.str "name"))) [.never] [.ite (.cmp .isin (.var 6) (.tup [.con (.str "fn"), .con (.str "rec")])) [.never] [.ite (.cmp .eq (.var 6) (.con (.str "let"))) [.never] [.asg (.name 8) (.kd .idx [("num", .fn "is_int"), ("truth", .fn "is_bool"), ("call", .fn "is_called"), ("if", .fn "is_choice"), ("plus", .fn "is_sum"), ("less", .fn "is_less"), ("pair", .fn "is_pair"), ("first", .fn "is_first"), ("second", .fn "is_second"), ("nil", .fn "is_nil"), ("cons", .fn "is_cons"), ("head", .fn "is_head"), ("tail", .fn "is_tail"), ("none", .fn "is_none")] (.var 6)),
    .asg (.name 7) (.callV fv_RULES (.var 8) [.var 5, .comp (f_Finder_visit_c0) (.name 9) (.call "inner" [.var 1]) [], .meth "Solver" "fresh" (.fld "Finder" (.var 0) "solver") []])]]],
    .ite (.and (.not (.var 4)) (.not (.meth "Solver" "hold" (.fld "Finder" (.var 0) "solver") [.var 7]))) [.setf "Finder" (.var 0) "good" (.con (.bool false))] [],
    .ret (.var 5)], false, .mt "Finder" "visit"⟩
abbrev f_types_of_c0 : Ir.Ex := .meth "Solver" "filled" (.fld "Finder" (.var 1) "solver") [.var 2]
def f_types_of : Ir.Fn := ⟨3, 1, [.asg (.name 1) (.call "Finder" []),
    .ex (.meth "Finder" "visit" (.var 1) [.var 0, .newD, .lst []]),
    .ite (.not (.fld "Finder" (.var 1) "good")) [.ret (.con .non)] [],
    .ret (.call "named" [.compO (f_types_of_c0) (.name 2) (.fld "Finder" (.var 1) "given") []])], false, .df⟩
def f_typed : Ir.Fn := ⟨1, 1, [.ret (.cmp .isnot (.call "types_of" [.var 0]) (.con .non))], false, .df⟩
abbrev f_law_bag_b0 : List Ir.Stm := [.asg (.name 1) (.bin .mod (.bin .add (.bin .add (.bin .mul (.var 1) (.con (.int 48271))) (.bin .mod (.var 2) (.con (.int 2147483629)))) (.con (.int 1))) (.con (.int 2147483647)))]
abbrev f_law_bag_c0 : Ir.Ex := .bin .mod (.blt .abs [.var 2]) (.bin .pow (.bin .pow (.con (.int 10)) (.con (.int 60))) (.con (.int 10)))
def f_law_bag : Ir.Fn := ⟨3, 1, [.asg (.name 1) (.con (.int 29)),
    .loop (.name 2) (.sli (.var 0) none (some (.con (.int 63)))) f_law_bag_b0,
    .ret (.newL (.lst [.comp (f_law_bag_c0) (.name 2) (.sli (.var 0) none (some (.con (.int 63)))) [], .con (.int 0), .con (.int 0), .var 1, .con (.int 0)]))], false, .df⟩
abbrev f_law_stirred_b0 : List Ir.Stm := [.set (.var 0) (.con (.int 4)) (.bin .add (.idx (.var 0) (.con (.int 4))) (.con (.int 1))),
    .set (.var 0) (.con (.int 3)) (.bin .mod (.bin .add (.bin .add (.bin .add (.bin .pow (.idx (.var 0) (.con (.int 3))) (.con (.int 3))) (.bin .mul (.con (.int 69621)) (.idx (.var 0) (.con (.int 3))))) (.bin .mul (.con (.int 1031)) (.idx (.var 0) (.con (.int 4))))) (.con (.int 1))) (.con (.int 2147483647))),
    .asg (.name 2) (.bin .add (.bin .mul (.var 2) (.con (.int 134217728))) (.bin .fdiv (.idx (.var 0) (.con (.int 3))) (.con (.int 16))))]
def f_law_stirred : Ir.Fn := ⟨4, 2, [.asg (.name 2) (.con (.int 0)),
    .loop (.name 3) (.blt .range [.bin .add (.con (.int 1)) (.bin .fdiv (.mth .bit_length (.var 1) []) (.con (.int 27)))]) f_law_stirred_b0,
    .ret (.bin .mod (.var 2) (.var 1))], false, .df⟩
def f_law_draw : Ir.Fn := ⟨3, 2, [.ite (.and (.cmp .eq (.idx (.var 0) (.con (.int 2))) (.con (.int 0))) (.cmp .lt (.idx (.var 0) (.con (.int 1))) (.blt .len [.idx (.var 0) (.con (.int 0))]))) [.set (.var 0) (.con (.int 2)) (.idx (.idx (.var 0) (.con (.int 0))) (.idx (.var 0) (.con (.int 1)))),
    .set (.var 0) (.con (.int 1)) (.bin .add (.idx (.var 0) (.con (.int 1))) (.con (.int 1)))] [.ite (.cmp .eq (.idx (.var 0) (.con (.int 2))) (.con (.int 0))) [.ret (.call "_law_stirred" [.var 0, .var 1])] []],
    .asg (.name 2) (.bin .mod (.idx (.var 0) (.con (.int 2))) (.var 1)),
    .set (.var 0) (.con (.int 2)) (.bin .fdiv (.idx (.var 0) (.con (.int 2))) (.var 1)),
    .ret (.var 2)], false, .df⟩
abbrev f_law_alike_c0 : Ir.Ex := .call "_law_alike" [.idx (.var 0) (.var 2), .idx (.var 1) (.var 2)]
def f_law_alike : Ir.Fn := ⟨3, 2, [.ite (.isi (.var 1) [.list, .tuple]) [.ite (.or (.not (.isi (.var 0) [.list, .tuple])) (.cmp .ne (.isi (.var 0) [.list]) (.isi (.var 1) [.list]))) [.ret (.con (.bool false))] [],
    .ite (.cmp .ne (.blt .len [.var 0]) (.blt .len [.var 1])) [.ret (.con (.bool false))] [],
    .ret (.blt .all [.comp (f_law_alike_c0) (.name 2) (.blt .range [.blt .len [.var 1]]) []])] [],
    .ite (.or (.cmp .ne (.isi (.var 0) [.bool]) (.isi (.var 1) [.bool])) (.cmp .ne (.isi (.var 0) [.int]) (.isi (.var 1) [.int]))) [.ret (.con (.bool false))] [],
    .ret (.and (.cmp .eq (.isi (.var 0) [.str]) (.isi (.var 1) [.str])) (.cmp .eq (.var 0) (.var 1)))], false, .df⟩
abbrev f_law_within_c0 : Ir.Ex := .var 1
abbrev f_law_within_k0 : List Ir.Ex := [.isi (.var 1) [.tuple]]
def f_law_within : Ir.Fn := ⟨2, 1, [.ret (.comp (f_law_within_c0) (.name 1) (.sli (.var 0) (some (.con (.int 1))) none) f_law_within_k0)], false, .df⟩
def f_law_bare : Ir.Fn := ⟨1, 1, [.ret (.ite (.cmp .eq (.idx (.var 0) (.con (.int 0))) (.con (.str "off"))) (.tup [.idx (.var 0) (.con (.int 1)), .con (.bool true)]) (.tup [.var 0, .con (.bool false)]))], false, .df⟩
def f_law_new : Ir.Fn := ⟨1, 1, [.set (.var 0) (.con (.int 1)) (.bin .add (.idx (.var 0) (.con (.int 1))) (.con (.int 1))),
    .ret (.tup [.con (.str "free"), .bin .sub (.idx (.var 0) (.con (.int 1))) (.con (.int 1))])], false, .df⟩
abbrev f_law_top_b0 : List Ir.Stm := [.asg (.name 1) (.oq .idx (.idx (.var 0) (.con (.int 0))) [.idx (.var 1) (.con (.int 1))])]
abbrev f_law_top_w0 : Ir.Ex := .and (.cmp .eq (.idx (.var 1) (.con (.int 0))) (.con (.str "free"))) (.oin false (.idx (.var 1) (.con (.int 1))) (.idx (.var 0) (.con (.int 0))))
def f_law_top : Ir.Fn := ⟨2, 2, [.while (f_law_top_w0) f_law_top_b0,
    .ret (.var 1)], false, .df⟩
abbrev f_law_full_c0 : Ir.Ex := .ite (.isi (.var 2) [.tuple]) (.call "_law_full" [.var 0, .var 2]) (.var 2)
def f_law_full : Ir.Fn := ⟨3, 2, [.asg (.name 1) (.call "_law_top" [.var 0, .var 1]),
    .ite (.cmp .eq (.idx (.var 1) (.con (.int 0))) (.con (.str "free"))) [.ret (.var 1)] [],
    .ret (.blt .tuple [.comp (f_law_full_c0) (.name 2) (.var 1) []])], false, .df⟩
abbrev f_law_frees_b0 : List Ir.Stm := [.asg (.name 1) (.bin .add (.var 1) (.call "_law_frees" [.var 2]))]
def f_law_frees : Ir.Fn := ⟨3, 1, [.ite (.cmp .eq (.idx (.var 0) (.con (.int 0))) (.con (.str "free"))) [.ret (.lst [.idx (.var 0) (.con (.int 1))])] [],
    .asg (.name 1) (.lst []),
    .loop (.name 2) (.call "_law_within" [.var 0]) f_law_frees_b0,
    .ret (.var 1)], false, .df⟩
abbrev f_law_solve_c0 : Ir.Ex := .tup [.idx (.var 1) (.var 3), .idx (.var 2) (.var 3)]
abbrev f_law_solve_k0 : List Ir.Ex := [.isi (.idx (.var 1) (.var 3)) [.tuple]]
abbrev f_law_solve_b0 : List Ir.Stm := [.asg (.tup [.name 1, .name 2]) (.om .pop (.idx (.var 0) (.con (.int 3))) []),
    .asg (.tup [.name 1, .name 2]) (.tup [.call "_law_top" [.var 0, .var 1], .call "_law_top" [.var 0, .var 2]]),
    .ite (.cmp .ne (.idx (.var 1) (.con (.int 0))) (.con (.str "free"))) [.asg (.tup [.name 1, .name 2]) (.tup [.var 2, .var 1])] [],
    .ite (.cmp .eq (.idx (.var 1) (.con (.int 0))) (.con (.str "free"))) [.ite (.cmp .ne (.var 1) (.var 2)) [.ite (.cmp .isin (.idx (.var 1) (.con (.int 1))) (.call "_law_frees" [.call "_law_full" [.var 0, .var 2]])) [.set (.var 0) (.con (.int 4)) (.con (.bool false))] [.setO (.idx (.var 0) (.con (.int 0))) (.idx (.var 1) (.con (.int 1))) (.var 2)]] []] [.ite (.or (.cmp .ne (.idx (.var 1) (.con (.int 0))) (.idx (.var 2) (.con (.int 0)))) (.and (.cmp .eq (.idx (.var 1) (.con (.int 0))) (.con (.str "rigid"))) (.cmp .ne (.var 1) (.var 2)))) [.set (.var 0) (.con (.int 4)) (.con (.bool false))] [.ex (.om .extend (.idx (.var 0) (.con (.int 3))) [.comp (f_law_solve_c0) (.name 3) (.blt .range [.con (.int 1), .blt .len [.var 1]]) f_law_solve_k0])]]]
abbrev f_law_solve_w0 : Ir.Ex := .oq .notnil (.idx (.var 0) (.con (.int 3))) []
def f_law_solve : Ir.Fn := ⟨4, 1, [.while (f_law_solve_w0) f_law_solve_b0,
    .ret (.idx (.var 0) (.con (.int 4)))], false, .df⟩
abbrev f_law_rows_c0 : Ir.Ex := .tup [.var 4, .tup [.con (.str "int")]]
def f_law_rows : Ir.Fn := ⟨5, 4, [.ite (.cmp .isin (.var 0) (.lst [.con (.str "num"), .con (.str "plus")])) [.ret (.comp (f_law_rows_c0) (.name 4) (.bin .add (.lst [.var 1]) (.var 2)) [])] [],
    .ite (.cmp .isin (.var 0) (.lst [.con (.str "truth"), .con (.str "less")])) [.ret (.bin .add (.lst [.tup [.var 1, .tup [.con (.str "bool")]]]) (.comp (f_law_rows_c0) (.name 4) (.var 2) []))] [],
    .ite (.cmp .eq (.var 0) (.con (.str "call"))) [.ret (.lst [.tup [.idx (.var 2) (.con (.int 0)), .tup [.con (.str "fn"), .idx (.var 2) (.con (.int 1)), .var 1]]])] [],
    .ite (.cmp .eq (.var 0) (.con (.str "if"))) [.ret (.lst [.tup [.idx (.var 2) (.con (.int 0)), .tup [.con (.str "bool")]], .tup [.idx (.var 2) (.con (.int 1)), .var 1], .tup [.idx (.var 2) (.con (.int 2)), .var 1]])] [],
    .ite (.cmp .eq (.var 0) (.con (.str "pair"))) [.ret (.lst [.tup [.var 1, .tup [.con (.str "pair"), .idx (.var 2) (.con (.int 0)), .idx (.var 2) (.con (.int 1))]]])] [],
    .ite (.cmp .isin (.var 0) (.lst [.con (.str "first"), .con (.str "second")])) [.ret (.lst [.tup [.idx (.var 2) (.con (.int 0)), .ite (.cmp .eq (.var 0) (.con (.str "first"))) (.tup [.con (.str "pair"), .var 1, .var 3]) (.tup [.con (.str "pair"), .var 3, .var 1])]])] [],
    .ite (.cmp .eq (.var 0) (.con (.str "nil"))) [.ret (.lst [.tup [.var 1, .tup [.con (.str "list"), .var 3]]])] [],
    .ite (.cmp .eq (.var 0) (.con (.str "cons"))) [.ret (.lst [.tup [.var 1, .tup [.con (.str "list"), .idx (.var 2) (.con (.int 0))]], .tup [.var 1, .idx (.var 2) (.con (.int 1))]])] [],
    .ite (.cmp .eq (.var 0) (.con (.str "head"))) [.ret (.lst [.tup [.idx (.var 2) (.con (.int 0)), .tup [.con (.str "list"), .var 1]]])] [],
    .ret (.lst [.tup [.var 1, .ite (.cmp .eq (.var 0) (.con (.str "tail"))) (.idx (.var 2) (.con (.int 0))) (.tup [.con (.str "bool")])], .tup [.idx (.var 2) (.con (.int 0)), .tup [.con (.str "list"), .var 3]]])], false, .df⟩
abbrev f_law_copied_c0 : Ir.Ex := .ite (.isi (.var 3) [.tuple]) (.call "_law_copied" [.var 0, .var 3, .var 2]) (.var 3)
def f_law_copied : Ir.Fn := ⟨4, 3, [.ite (.cmp .eq (.idx (.var 1) (.con (.int 0))) (.con (.str "free"))) [.ret (.mth .get (.var 2) [.idx (.var 1) (.con (.int 1)), .var 1])] [],
    .ret (.blt .tuple [.comp (f_law_copied_c0) (.name 3) (.var 1) []])], false, .df⟩
abbrev f_law_walk_c0 : Ir.Ex := .call "_law_walk" [.var 0, .var 8, .var 2, .var 3]
def f_law_walk : Ir.Fn := ⟨9, 4, [.asg (.tup [.name 1, .name 4]) (.call "_law_bare" [.var 1]),
    .asg (.name 5) (.call "_law_new" [.var 0]),
    .ex (.om .append (.idx (.var 0) (.con (.int 2))) [.var 5]),
    .ite (.cmp .isin (.idx (.var 1) (.con (.int 0))) (.lst [.con (.str "name"), .con (.str "fn"), .con (.str "rec"), .con (.str "let")])) [.never] [.asg (.name 7) (.comp (f_law_walk_c0) (.name 8) (.call "_law_within" [.var 1]) []),
    .asg (.name 6) (.call "_law_rows" [.idx (.var 1) (.con (.int 0)), .var 5, .var 7, .call "_law_new" [.var 0]])],
    .ite (.not (.var 4)) [.ex (.om .extend (.idx (.var 0) (.con (.int 3))) [.var 6])] [],
    .ret (.var 5)], false, .df⟩
abbrev f_law_named_b0 : List Ir.Stm := [.set (.var 1) (.var 3) (.tup [.con (.str "free"), .ite (.cmp .isin (.var 3) (.var 1)) (.idx (.idx (.var 1) (.var 3)) (.con (.int 1))) (.blt .len [.var 1])])]
abbrev f_law_named_b1 : List Ir.Stm := [.loop (.name 3) (.call "_law_frees" [.var 2]) f_law_named_b0]
abbrev f_law_named_c0 : Ir.Ex := .call "_law_copied" [.lst [], .var 2, .var 1]
def f_law_named : Ir.Fn := ⟨4, 1, [.asg (.name 1) (.newD),
    .loop (.name 2) (.var 0) f_law_named_b1,
    .ret (.comp (f_law_named_c0) (.name 2) (.var 0) [])], false, .df⟩
abbrev f_law_types_of_c0 : Ir.Ex := .call "_law_full" [.var 1, .var 2]
def f_law_types_of : Ir.Fn := ⟨3, 1, [.asg (.name 1) (.newL (.lst [.newOD, .con (.int 0), .newO (.lst []), .newO (.lst []), .con (.bool true)])),
    .ex (.call "_law_walk" [.var 1, .var 0, .newD, .lst []]),
    .ite (.not (.call "_law_solve" [.var 1])) [.ret (.con .non)] [],
    .ret (.call "_law_named" [.compO (f_law_types_of_c0) (.name 2) (.idx (.var 1) (.con (.int 2))) []])], false, .df⟩
def f_law_part : Ir.Fn := ⟨3, 1, [.asg (.name 1) (.lst [.tup [.con (.str "num"), .call "_law_draw" [.var 0, .con (.int 100)]], .tup [.con (.str "num"), .bin .sub (.con (.int 0)) (.call "_law_draw" [.var 0, .bin .pow (.con (.int 10)) (.con (.int 59))])], .tup [.con (.str "truth"), .con (.bool true)], .tup [.con (.str "truth"), .con (.bool false)]]),
    .asg (.name 2) (.idx (.bin .add (.var 1) (.lst [.tup [.con (.str "nil")], .tup [.con (.str "cons"), .tup [.con (.str "num"), .con (.int 1)], .tup [.con (.str "nil")]], .tup [.con (.str "pair"), .tup [.con (.str "nil")], .tup [.con (.str "truth"), .con (.bool true)]]])) (.call "_law_draw" [.var 0, .con (.int 7)])),
    .ret (.ite (.cmp .eq (.call "_law_draw" [.var 0, .con (.int 4)]) (.con (.int 0))) (.tup [.con (.str "off"), .var 2]) (.var 2))], false, .df⟩
abbrev f_law_single_c0 : Ir.Ex := .call "_law_part" [.var 0]
def f_law_single : Ir.Fn := ⟨6, 1, [.asg (.name 1) (.lst [.con (.str "call"), .con (.str "plus"), .con (.str "less"), .con (.str "pair"), .con (.str "cons"), .con (.str "first"), .con (.str "second"), .con (.str "head"), .con (.str "tail"), .con (.str "none"), .con (.str "if"), .con (.str "leaf")]),
    .asg (.name 2) (.call "_law_draw" [.var 0, .con (.int 12)]),
    .ite (.cmp .eq (.var 2) (.con (.int 11))) [.ret (.call "_law_part" [.var 0])] [],
    .asg (.name 3) (.comp (f_law_single_c0) (.name 5) (.blt .range [.idx (.lst [.con (.int 2), .con (.int 1), .con (.int 3)]) (.ite (.cmp .lt (.var 2) (.con (.int 10))) (.bin .fdiv (.bin .add (.var 2) (.con (.int 1))) (.con (.int 6))) (.con (.int 2)))]) []),
    .asg (.name 4) (.blt .tuple [.bin .add (.lst [.idx (.var 1) (.var 2)]) (.var 3)]),
    .ret (.ite (.cmp .eq (.call "_law_draw" [.var 0, .con (.int 6)]) (.con (.int 0))) (.tup [.con (.str "off"), .var 4]) (.var 4))], false, .df⟩
def f_law_right : Ir.Fn := ⟨4, 2, [.asg (.name 2) (.call "_law_types_of" [.var 0]),
    .asg (.name 3) (.ite (.cmp .eq (.var 1) (.con (.int 0))) (.call "types_of" [.var 0]) (.callP "types_of" [.var 0] [0])),
    .ite (.or (.cmp .is (.var 2) (.con .non)) (.cmp .is (.var 3) (.con .non))) [.ret (.and (.cmp .is (.var 2) (.con .non)) (.and (.cmp .is (.var 3) (.con .non)) (.cmp .is (.call "typed" [.var 0]) (.con (.bool false)))))] [],
    .ite (.or (.not (.call "_law_alike" [.var 3, .var 2])) (.cmp .isnot (.callP "typed" [.var 0] [0]) (.con (.bool true)))) [.ret (.con (.bool false))] [],
    .ex (.mth .append (.var 3) [.tup [.con (.str "int")]]),
    .set (.var 3) (.con (.int 0)) (.tup [.con (.str "bool")]),
    .ret (.call "_law_alike" [.call "types_of" [.var 0], .var 2])], false, .df⟩
abbrev f_law_b0 : List Ir.Stm := [.ite (.not (.call "_law_right" [.call "_law_single" [.var 1], .bin .mod (.var 2) (.con (.int 2))])) [.ret (.con (.bool false))] []]
def f_law : Ir.Fn := ⟨3, 1, [.asg (.name 1) (.call "_law_bag" [.var 0]),
    .loop (.name 2) (.blt .range [.bin .add (.con (.int 8)) (.blt .min [.con (.int 40), .blt .len [.var 0]])]) f_law_b0,
    .ret (.con (.bool true))], false, .df⟩
def f_Solver : Ir.Fn := ⟨2, 0, [.asg (.name 0) (.newI "Solver"), .asg (.name 1) (.call "Solver.__init__" [.var 0]), .ite (.cmp .is (.var 1) (.con .non)) [.ret (.var 0)] [.never]], false, .ct "Solver"⟩
def f_Finder : Ir.Fn := ⟨2, 0, [.asg (.name 0) (.newI "Finder"), .asg (.name 1) (.call "Finder.__init__" [.var 0]), .ite (.cmp .is (.var 1) (.con .non)) [.ret (.var 0)] [.never]], false, .ct "Finder"⟩
def tab : List (String × Ir.Fn) := [("renamed", f_renamed), ("named", f_named), ("inner", f_inner), ("bare", f_bare), ("is_int", f_is_int), ("is_bool", f_is_bool), ("is_called", f_is_called), ("is_choice", f_is_choice), ("is_sum", f_is_sum), ("is_less", f_is_less), ("is_pair", f_is_pair), ("is_first", f_is_first), ("is_second", f_is_second), ("is_nil", f_is_nil), ("is_cons", f_is_cons), ("is_head", f_is_head), ("is_tail", f_is_tail), ("is_none", f_is_none), ("Solver.__init__", f_Solver___init__), ("Solver.fresh", f_Solver_fresh), ("Solver.seen", f_Solver_seen), ("Solver.has", f_Solver_has), ("Solver.unite", f_Solver_unite), ("Solver.hold", f_Solver_hold), ("Solver.filled", f_Solver_filled), ("Finder.__init__", f_Finder___init__), ("Finder.visit", f_Finder_visit), ("types_of", f_types_of), ("typed", f_typed), ("_law_bag", f_law_bag), ("_law_stirred", f_law_stirred), ("_law_draw", f_law_draw), ("_law_alike", f_law_alike), ("_law_within", f_law_within), ("_law_bare", f_law_bare), ("_law_new", f_law_new), ("_law_top", f_law_top), ("_law_full", f_law_full), ("_law_frees", f_law_frees), ("_law_solve", f_law_solve), ("_law_rows", f_law_rows), ("_law_copied", f_law_copied), ("_law_walk", f_law_walk), ("_law_named", f_law_named), ("_law_types_of", f_law_types_of), ("_law_part", f_law_part), ("_law_single", f_law_single), ("_law_right", f_law_right), ("law", f_law), ("Solver", f_Solver), ("Finder", f_Finder)]
/-- names drawn are kept in a list of the arena -/
def poolA : Bool := false
def T : Ir.Tab := Ir.tabOf tab
theorem T_f_renamed : T "renamed" = some f_renamed := by simp [T, Ir.tabOf, tab, List.lookup]
theorem T_f_named : T "named" = some f_named := by simp [T, Ir.tabOf, tab, List.lookup]
theorem T_f_inner : T "inner" = some f_inner := by simp [T, Ir.tabOf, tab, List.lookup]
theorem T_f_bare : T "bare" = some f_bare := by simp [T, Ir.tabOf, tab, List.lookup]
theorem T_f_is_int : T "is_int" = some f_is_int := by simp [T, Ir.tabOf, tab, List.lookup]
theorem T_f_is_bool : T "is_bool" = some f_is_bool := by simp [T, Ir.tabOf, tab, List.lookup]
theorem T_f_is_called : T "is_called" = some f_is_called := by simp [T, Ir.tabOf, tab, List.lookup]
theorem T_f_is_choice : T "is_choice" = some f_is_choice := by simp [T, Ir.tabOf, tab, List.lookup]
theorem T_f_is_sum : T "is_sum" = some f_is_sum := by simp [T, Ir.tabOf, tab, List.lookup]
theorem T_f_is_less : T "is_less" = some f_is_less := by simp [T, Ir.tabOf, tab, List.lookup]
theorem T_f_is_pair : T "is_pair" = some f_is_pair := by simp [T, Ir.tabOf, tab, List.lookup]
theorem T_f_is_first : T "is_first" = some f_is_first := by simp [T, Ir.tabOf, tab, List.lookup]
theorem T_f_is_second : T "is_second" = some f_is_second := by simp [T, Ir.tabOf, tab, List.lookup]
theorem T_f_is_nil : T "is_nil" = some f_is_nil := by simp [T, Ir.tabOf, tab, List.lookup]
theorem T_f_is_cons : T "is_cons" = some f_is_cons := by simp [T, Ir.tabOf, tab, List.lookup]
theorem T_f_is_head : T "is_head" = some f_is_head := by simp [T, Ir.tabOf, tab, List.lookup]
theorem T_f_is_tail : T "is_tail" = some f_is_tail := by simp [T, Ir.tabOf, tab, List.lookup]
theorem T_f_is_none : T "is_none" = some f_is_none := by simp [T, Ir.tabOf, tab, List.lookup]
theorem T_f_Solver___init__ : T "Solver.__init__" = some f_Solver___init__ := by simp [T, Ir.tabOf, tab, List.lookup]
theorem T_f_Solver_fresh : T "Solver.fresh" = some f_Solver_fresh := by simp [T, Ir.tabOf, tab, List.lookup]
theorem T_f_Solver_seen : T "Solver.seen" = some f_Solver_seen := by simp [T, Ir.tabOf, tab, List.lookup]
theorem T_f_Solver_has : T "Solver.has" = some f_Solver_has := by simp [T, Ir.tabOf, tab, List.lookup]
theorem T_f_Solver_unite : T "Solver.unite" = some f_Solver_unite := by simp [T, Ir.tabOf, tab, List.lookup]
theorem T_f_Solver_hold : T "Solver.hold" = some f_Solver_hold := by simp [T, Ir.tabOf, tab, List.lookup]
theorem T_f_Solver_filled : T "Solver.filled" = some f_Solver_filled := by simp [T, Ir.tabOf, tab, List.lookup]
theorem T_f_Finder___init__ : T "Finder.__init__" = some f_Finder___init__ := by simp [T, Ir.tabOf, tab, List.lookup]
theorem T_f_Finder_visit : T "Finder.visit" = some f_Finder_visit := by simp [T, Ir.tabOf, tab, List.lookup]
theorem T_f_types_of : T "types_of" = some f_types_of := by simp [T, Ir.tabOf, tab, List.lookup]
theorem T_f_typed : T "typed" = some f_typed := by simp [T, Ir.tabOf, tab, List.lookup]
theorem T_f_law_bag : T "_law_bag" = some f_law_bag := by simp [T, Ir.tabOf, tab, List.lookup]
theorem T_f_law_stirred : T "_law_stirred" = some f_law_stirred := by simp [T, Ir.tabOf, tab, List.lookup]
theorem T_f_law_draw : T "_law_draw" = some f_law_draw := by simp [T, Ir.tabOf, tab, List.lookup]
theorem T_f_law_alike : T "_law_alike" = some f_law_alike := by simp [T, Ir.tabOf, tab, List.lookup]
theorem T_f_law_within : T "_law_within" = some f_law_within := by simp [T, Ir.tabOf, tab, List.lookup]
theorem T_f_law_bare : T "_law_bare" = some f_law_bare := by simp [T, Ir.tabOf, tab, List.lookup]
theorem T_f_law_new : T "_law_new" = some f_law_new := by simp [T, Ir.tabOf, tab, List.lookup]
theorem T_f_law_top : T "_law_top" = some f_law_top := by simp [T, Ir.tabOf, tab, List.lookup]
theorem T_f_law_full : T "_law_full" = some f_law_full := by simp [T, Ir.tabOf, tab, List.lookup]
theorem T_f_law_frees : T "_law_frees" = some f_law_frees := by simp [T, Ir.tabOf, tab, List.lookup]
theorem T_f_law_solve : T "_law_solve" = some f_law_solve := by simp [T, Ir.tabOf, tab, List.lookup]
theorem T_f_law_rows : T "_law_rows" = some f_law_rows := by simp [T, Ir.tabOf, tab, List.lookup]
theorem T_f_law_copied : T "_law_copied" = some f_law_copied := by simp [T, Ir.tabOf, tab, List.lookup]
theorem T_f_law_walk : T "_law_walk" = some f_law_walk := by simp [T, Ir.tabOf, tab, List.lookup]
theorem T_f_law_named : T "_law_named" = some f_law_named := by simp [T, Ir.tabOf, tab, List.lookup]
theorem T_f_law_types_of : T "_law_types_of" = some f_law_types_of := by simp [T, Ir.tabOf, tab, List.lookup]
theorem T_f_law_part : T "_law_part" = some f_law_part := by simp [T, Ir.tabOf, tab, List.lookup]
theorem T_f_law_single : T "_law_single" = some f_law_single := by simp [T, Ir.tabOf, tab, List.lookup]
theorem T_f_law_right : T "_law_right" = some f_law_right := by simp [T, Ir.tabOf, tab, List.lookup]
theorem T_f_law : T "law" = some f_law := by simp [T, Ir.tabOf, tab, List.lookup]
theorem T_f_Solver : T "Solver" = some f_Solver := by simp [T, Ir.tabOf, tab, List.lookup]
theorem T_f_Finder : T "Finder" = some f_Finder := by simp [T, Ir.tabOf, tab, List.lookup]
theorem TM_f_Solver_fresh : T ("Solver" ++ "." ++ "fresh") = some f_Solver_fresh := by simpa using T_f_Solver_fresh
theorem TM_f_Solver_seen : T ("Solver" ++ "." ++ "seen") = some f_Solver_seen := by simpa using T_f_Solver_seen
theorem TM_f_Solver_has : T ("Solver" ++ "." ++ "has") = some f_Solver_has := by simpa using T_f_Solver_has
theorem TM_f_Solver_unite : T ("Solver" ++ "." ++ "unite") = some f_Solver_unite := by simpa using T_f_Solver_unite
theorem TM_f_Solver_hold : T ("Solver" ++ "." ++ "hold") = some f_Solver_hold := by simpa using T_f_Solver_hold
theorem TM_f_Solver_filled : T ("Solver" ++ "." ++ "filled") = some f_Solver_filled := by simpa using T_f_Solver_filled
theorem TM_f_Finder_visit : T ("Finder" ++ "." ++ "visit") = some f_Finder_visit := by simpa using T_f_Finder_visit
theorem fvT_RULES : ∀ f ∈ fv_RULES, ∃ fn, T f = some fn ∧ fn.x = false ∧ fn.k = .df := by
  intro f hf
  simp only [fv_RULES, List.mem_cons, List.not_mem_nil, or_false] at hf
  rcases hf with rfl | rfl | rfl | rfl | rfl | rfl | rfl | rfl | rfl | rfl | rfl | rfl | rfl | rfl
  · exact ⟨_, T_f_is_int, rfl, rfl⟩
  · exact ⟨_, T_f_is_bool, rfl, rfl⟩
  · exact ⟨_, T_f_is_called, rfl, rfl⟩
  · exact ⟨_, T_f_is_choice, rfl, rfl⟩
  · exact ⟨_, T_f_is_sum, rfl, rfl⟩
  · exact ⟨_, T_f_is_less, rfl, rfl⟩
  · exact ⟨_, T_f_is_pair, rfl, rfl⟩
  · exact ⟨_, T_f_is_first, rfl, rfl⟩
  · exact ⟨_, T_f_is_second, rfl, rfl⟩
  · exact ⟨_, T_f_is_nil, rfl, rfl⟩
  · exact ⟨_, T_f_is_cons, rfl, rfl⟩
  · exact ⟨_, T_f_is_head, rfl, rfl⟩
  · exact ⟨_, T_f_is_tail, rfl, rfl⟩
  · exact ⟨_, T_f_is_none, rfl, rfl⟩
end Prog

namespace Prog
open PySem PySem.Spec PyProof.Rows L2 Snd
/-! ### the text by places -/
def topS (i : Nat) : Stmt := PySem.Challenge.pw_leastmends_k21_rules_of_single_parts.main.body.getD i (.Pass ⟨0, 0, 0, 0⟩)
abbrev sf_renamed : Stmt := topS 1
abbrev sf_named : Stmt := topS 2
abbrev sf_inner : Stmt := topS 7
abbrev sf_bare : Stmt := topS 8
abbrev sf_is_int : Stmt := topS 9
abbrev sf_is_bool : Stmt := topS 10
abbrev sf_is_called : Stmt := topS 11
abbrev sf_is_choice : Stmt := topS 12
abbrev sf_is_sum : Stmt := topS 13
abbrev sf_is_less : Stmt := topS 14
abbrev sf_is_pair : Stmt := topS 15
abbrev sf_is_first : Stmt := topS 16
abbrev sf_is_second : Stmt := topS 17
abbrev sf_is_nil : Stmt := topS 18
abbrev sf_is_cons : Stmt := topS 19
abbrev sf_is_head : Stmt := topS 20
abbrev sf_is_tail : Stmt := topS 21
abbrev sf_is_none : Stmt := topS 22
abbrev sf_Solver___init__ : Stmt := inClass (topS 24) 0
abbrev sf_Solver_fresh : Stmt := inClass (topS 24) 1
abbrev sf_Solver_seen : Stmt := inClass (topS 24) 2
abbrev sf_Solver_has : Stmt := inClass (topS 24) 3
abbrev sf_Solver_unite : Stmt := inClass (topS 24) 4
abbrev sf_Solver_hold : Stmt := inClass (topS 24) 5
abbrev sf_Solver_filled : Stmt := inClass (topS 24) 6
abbrev sf_Finder___init__ : Stmt := inClass (topS 28) 0
abbrev sf_Finder_visit : Stmt := inClass (topS 28) 1
abbrev sf_types_of : Stmt := topS 30
abbrev sf_typed : Stmt := topS 31
abbrev sf_law_bag : Stmt := topS 33
abbrev sf_law_stirred : Stmt := topS 34
abbrev sf_law_draw : Stmt := topS 35
abbrev sf_law_alike : Stmt := topS 36
abbrev sf_law_within : Stmt := topS 37
abbrev sf_law_bare : Stmt := topS 38
abbrev sf_law_new : Stmt := topS 39
abbrev sf_law_top : Stmt := topS 40
abbrev sf_law_full : Stmt := topS 41
abbrev sf_law_frees : Stmt := topS 42
abbrev sf_law_solve : Stmt := topS 43
abbrev sf_law_rows : Stmt := topS 44
abbrev sf_law_copied : Stmt := topS 45
abbrev sf_law_walk : Stmt := topS 47
abbrev sf_law_named : Stmt := topS 48
abbrev sf_law_types_of : Stmt := topS 49
abbrev sf_law_part : Stmt := topS 50
abbrev sf_law_single : Stmt := topS 51
abbrev sf_law_right : Stmt := topS 52
abbrev sf_law : Stmt := topS 53
def bn : List String := ["abs", "all", "any", "bool", "int", "isinstance", "len", "list", "min", "range", "str", "tuple", "zip"]
def KW : List Kw := [("types_of", 0, ["program"], [0], []), ("typed", 0, ["program"], [0], [])]
structure GC (w : World) (K : PySem.W.Frag) (mg : Str → Option Value) : Prop where
  tt : True
  c_INT : ∃ u, mg (Str.ofString "INT") = some u ∧ KV K (.tup [.str "int"]) u
  c_BOOL : ∃ u, mg (Str.ofString "BOOL") = some u ∧ KV K (.tup [.str "bool"]) u
  c_ALONE : ∃ u, mg (Str.ofString "ALONE") = some u ∧ KV K (.tup [.str "int", .str "bool", .str "rigid"]) u
  c_RULES : ∃ p, mg (Str.ofString "RULES") = some (.ref p) ∧ KD K w [("num", .fn "is_int"), ("truth", .fn "is_bool"), ("call", .fn "is_called"), ("if", .fn "is_choice"), ("plus", .fn "is_sum"), ("less", .fn "is_less"), ("pair", .fn "is_pair"), ("first", .fn "is_first"), ("second", .fn "is_second"), ("nil", .fn "is_nil"), ("cons", .fn "is_cons"), ("head", .fn "is_head"), ("tail", .fn "is_tail"), ("none", .fn "is_none")] p
  k_Solver : ClsF K "Solver" ["bound", "many"]
  k_Finder : ClsF K "Finder" ["solver", "given", "good"]
  v_RULES : ∀ f ∈ fv_RULES, FnL K mg f
end Prog

namespace Prog
open PySem PySem.Spec PyProof.Rows L2 Snd
section
variable {P : Program} {w : World} {K : PySem.W.Frag} {mg : Str → Option Value} {base : Heap}
theorem scf_renamed : FnScope ["one", "numbers", "head", "parts", "part"] ["one", "numbers"] (defScope sf_renamed) := ⟨rfl, rfl, rfl, by decide +kernel, rfl, by decide +kernel, by decide +kernel⟩
theorem okf_renamed {n : Nat} {a : Addr} {fd : FuncData} (F : Fun K "renamed" "renamed" sf_renamed a fd) (ft : FT T KW n P w K mg base) (mb : ∀ s ∈ bn, mg (Str.ofString s) = none) (gc : GC w K mg) : FnOk P w K mg base CX0 (n + 2 + 1) a fd ["one", "numbers"] (spI T (n + 1) K "renamed") :=
  have nd := (scf_renamed).nd
  fn_ok F scf_renamed T_f_renamed rfl rfl fun cdv A outer s H E hr =>
    (ss_cons (ss_asg (se_var 0) (sg_star (pre := [2]) (post := []) rfl (sns_cons 2 nd (sns_star 3 nd sns_nil))))
      (ss_cons (ss_if (st_cmp (cmp_eq hr) (se_var 2) se_str) (ss_cons (ss_ret (se_tup (ses_cons se_str (ses_cons (se_setdefault (se_var 1) (se_idx hr (se_var 3) se_int) (se_blt blt_len (ses_cons (se_var 1) ses_nil) (mb "len" (by decide)) bv_len)) ses_nil))))
      ss_nil) ss_nil)
      (ss_cons (ss_ret (se_bin bin_add (se_tup (ses_cons (se_var 2) ses_nil)) (se_bltT blt_tuple (ses_cons (se_list is_comp (sn_comp [("part", 4)] rfl nd (si_seq (se_var 3)) (blkOk_by (N := ["one", "numbers", "head", "parts", "part"]) (sc := defScope sf_renamed) (by decide +kernel)) (fun _ _ _ _ _ => (sg_name 4 nd)) (fun _ _ _ _ _ => sc_nil) (fun _ _ _ _ _ => (se_call ft T_f_renamed hr (ses_cons (se_var 4) (ses_cons (se_var 1) ses_nil)))))) ses_nil) (mb "tuple" (by decide)) bv_tuple)))
      ss_nil)))
end
end Prog

namespace Prog
open PySem PySem.Spec PyProof.Rows L2 Snd
section
variable {P : Program} {w : World} {K : PySem.W.Frag} {mg : Str → Option Value} {base : Heap}
theorem scf_named : FnScope ["types", "numbers", "one"] ["types"] (defScope sf_named) := ⟨rfl, rfl, rfl, by decide +kernel, rfl, by decide +kernel, by decide +kernel⟩
theorem okf_named {n : Nat} {a : Addr} {fd : FuncData} (F : Fun K "named" "named" sf_named a fd) (ft : FT T KW n P w K mg base) (mb : ∀ s ∈ bn, mg (Str.ofString s) = none) (gc : GC w K mg) : FnOk P w K mg base CX0 (n + 2 + 1) a fd ["types"] (spI T (n + 1) K "named") :=
  have nd := (scf_named).nd
  fn_ok F scf_named T_f_named rfl rfl fun cdv A outer s H E hr =>
    (ss_cons (ss_set 1 nd se_newD)
      (ss_cons (ss_ret (se_newL (sn_comp [("one", 2)] rfl nd (si_seq (se_var 0)) (blkOk_by (N := ["types", "numbers", "one"]) (sc := defScope sf_named) (by decide +kernel)) (fun _ _ _ _ _ => (sg_name 2 nd)) (fun _ _ _ _ _ => sc_nil) (fun _ _ _ _ _ => (se_call ft T_f_renamed hr (ses_cons (se_var 2) (ses_cons (se_var 1) ses_nil)))))))
      ss_nil))
end
end Prog

namespace Prog
open PySem PySem.Spec PyProof.Rows L2 Snd
section
variable {P : Program} {w : World} {K : PySem.W.Frag} {mg : Str → Option Value} {base : Heap}
theorem scf_inner : FnScope ["part", "one"] ["part"] (defScope sf_inner) := ⟨rfl, rfl, rfl, by decide +kernel, rfl, by decide +kernel, by decide +kernel⟩
theorem okf_inner {n : Nat} {a : Addr} {fd : FuncData} (F : Fun K "inner" "inner" sf_inner a fd) (ft : FT T KW n P w K mg base) (mb : ∀ s ∈ bn, mg (Str.ofString s) = none) (gc : GC w K mg) : FnOk P w K mg base CX0 (n + 2 + 1) a fd ["part"] (spI T (n + 1) K "inner") :=
  have nd := (scf_inner).nd
  fn_ok F scf_inner T_f_inner rfl rfl fun cdv A outer s H E hr =>
    (ss_cons (ss_ret (se_list is_comp (sn_comp [("one", 1)] rfl nd (si_seq (se_sli (se_var 0) (so_some se_int) so_none)) (blkOk_by (N := ["part", "one"]) (sc := defScope sf_inner) (by decide +kernel)) (fun _ _ _ _ _ => (sg_name 1 nd)) (fun _ _ _ _ _ => (sc_one (st_val (se_isi (t := .tuple) (se_var 1) (sty_cons (t := .tuple) sty_nil (mb "tuple" (by decide)) bv_tuple) (mb "isinstance" (by decide)))))) (fun _ _ _ _ _ => (se_var 1)))))
      ss_nil)
end
end Prog

namespace Prog
open PySem PySem.Spec PyProof.Rows L2 Snd
section
variable {P : Program} {w : World} {K : PySem.W.Frag} {mg : Str → Option Value} {base : Heap}
theorem scf_bare : FnScope ["part"] ["part"] (defScope sf_bare) := ⟨rfl, rfl, rfl, by decide +kernel, rfl, by decide +kernel, by decide +kernel⟩
theorem okf_bare {n : Nat} {a : Addr} {fd : FuncData} (F : Fun K "bare" "bare" sf_bare a fd) (ft : FT T KW n P w K mg base) (mb : ∀ s ∈ bn, mg (Str.ofString s) = none) (gc : GC w K mg) : FnOk P w K mg base CX0 (n + 2 + 1) a fd ["part"] (spI T (n + 1) K "bare") :=
  have nd := (scf_bare).nd
  fn_ok F scf_bare T_f_bare rfl rfl fun cdv A outer s H E hr =>
    (ss_cons (ss_ret (se_ite (st_cmp (cmp_eq hr) (se_idx hr (se_var 0) se_int) se_str) (se_tup (ses_cons (se_idx hr (se_var 0) se_int) (ses_cons se_bool ses_nil))) (se_tup (ses_cons (se_var 0) (ses_cons se_bool ses_nil)))))
      ss_nil)
end
end Prog

namespace Prog
open PySem PySem.Spec PyProof.Rows L2 Snd
section
variable {P : Program} {w : World} {K : PySem.W.Frag} {mg : Str → Option Value} {base : Heap}
theorem scf_is_int : FnScope ["kind", "parts", "new"] ["kind", "parts", "new"] (defScope sf_is_int) := ⟨rfl, rfl, rfl, by decide +kernel, rfl, by decide +kernel, by decide +kernel⟩
theorem okf_is_int {n : Nat} {a : Addr} {fd : FuncData} (F : Fun K "is_int" "is_int" sf_is_int a fd) (ft : FT T KW n P w K mg base) (mb : ∀ s ∈ bn, mg (Str.ofString s) = none) (gc : GC w K mg) : FnOk P w K mg base CX0 (n + 2 + 1) a fd ["kind", "parts", "new"] (spI T (n + 1) K "is_int") :=
  have nd := (scf_is_int).nd
  fn_ok F scf_is_int T_f_is_int rfl rfl fun cdv A outer s H E hr =>
    (ss_cons (ss_ret (se_list is_lst (sn_lst (ses_cons (se_tup (ses_cons (se_var 0) (ses_cons (se_glb gc.c_INT) ses_nil))) ses_nil))))
      ss_nil)
end
end Prog

namespace Prog
open PySem PySem.Spec PyProof.Rows L2 Snd
section
variable {P : Program} {w : World} {K : PySem.W.Frag} {mg : Str → Option Value} {base : Heap}
theorem scf_is_bool : FnScope ["kind", "parts", "new"] ["kind", "parts", "new"] (defScope sf_is_bool) := ⟨rfl, rfl, rfl, by decide +kernel, rfl, by decide +kernel, by decide +kernel⟩
theorem okf_is_bool {n : Nat} {a : Addr} {fd : FuncData} (F : Fun K "is_bool" "is_bool" sf_is_bool a fd) (ft : FT T KW n P w K mg base) (mb : ∀ s ∈ bn, mg (Str.ofString s) = none) (gc : GC w K mg) : FnOk P w K mg base CX0 (n + 2 + 1) a fd ["kind", "parts", "new"] (spI T (n + 1) K "is_bool") :=
  have nd := (scf_is_bool).nd
  fn_ok F scf_is_bool T_f_is_bool rfl rfl fun cdv A outer s H E hr =>
    (ss_cons (ss_ret (se_list is_lst (sn_lst (ses_cons (se_tup (ses_cons (se_var 0) (ses_cons (se_glb gc.c_BOOL) ses_nil))) ses_nil))))
      ss_nil)
end
end Prog

namespace Prog
open PySem PySem.Spec PyProof.Rows L2 Snd
section
variable {P : Program} {w : World} {K : PySem.W.Frag} {mg : Str → Option Value} {base : Heap}
theorem scf_is_called : FnScope ["kind", "parts", "new"] ["kind", "parts", "new"] (defScope sf_is_called) := ⟨rfl, rfl, rfl, by decide +kernel, rfl, by decide +kernel, by decide +kernel⟩
theorem okf_is_called {n : Nat} {a : Addr} {fd : FuncData} (F : Fun K "is_called" "is_called" sf_is_called a fd) (ft : FT T KW n P w K mg base) (mb : ∀ s ∈ bn, mg (Str.ofString s) = none) (gc : GC w K mg) : FnOk P w K mg base CX0 (n + 2 + 1) a fd ["kind", "parts", "new"] (spI T (n + 1) K "is_called") :=
  have nd := (scf_is_called).nd
  fn_ok F scf_is_called T_f_is_called rfl rfl fun cdv A outer s H E hr =>
    (ss_cons (ss_ret (se_list is_lst (sn_lst (ses_cons (se_tup (ses_cons (se_idx hr (se_var 1) se_int) (ses_cons (se_tup (ses_cons se_str (ses_cons (se_idx hr (se_var 1) se_int) (ses_cons (se_var 0) ses_nil)))) ses_nil))) ses_nil))))
      ss_nil)
end
end Prog

namespace Prog
open PySem PySem.Spec PyProof.Rows L2 Snd
section
variable {P : Program} {w : World} {K : PySem.W.Frag} {mg : Str → Option Value} {base : Heap}
theorem scf_is_choice : FnScope ["kind", "parts", "new"] ["kind", "parts", "new"] (defScope sf_is_choice) := ⟨rfl, rfl, rfl, by decide +kernel, rfl, by decide +kernel, by decide +kernel⟩
theorem okf_is_choice {n : Nat} {a : Addr} {fd : FuncData} (F : Fun K "is_choice" "is_choice" sf_is_choice a fd) (ft : FT T KW n P w K mg base) (mb : ∀ s ∈ bn, mg (Str.ofString s) = none) (gc : GC w K mg) : FnOk P w K mg base CX0 (n + 2 + 1) a fd ["kind", "parts", "new"] (spI T (n + 1) K "is_choice") :=
  have nd := (scf_is_choice).nd
  fn_ok F scf_is_choice T_f_is_choice rfl rfl fun cdv A outer s H E hr =>
    (ss_cons (ss_ret (se_list is_lst (sn_lst (ses_cons (se_tup (ses_cons (se_idx hr (se_var 1) se_int) (ses_cons (se_glb gc.c_BOOL) ses_nil))) (ses_cons (se_tup (ses_cons (se_idx hr (se_var 1) se_int) (ses_cons (se_var 0) ses_nil))) (ses_cons (se_tup (ses_cons (se_idx hr (se_var 1) se_int) (ses_cons (se_var 0) ses_nil))) ses_nil))))))
      ss_nil)
end
end Prog

namespace Prog
open PySem PySem.Spec PyProof.Rows L2 Snd
section
variable {P : Program} {w : World} {K : PySem.W.Frag} {mg : Str → Option Value} {base : Heap}
theorem scf_is_sum : FnScope ["kind", "parts", "new"] ["kind", "parts", "new"] (defScope sf_is_sum) := ⟨rfl, rfl, rfl, by decide +kernel, rfl, by decide +kernel, by decide +kernel⟩
theorem okf_is_sum {n : Nat} {a : Addr} {fd : FuncData} (F : Fun K "is_sum" "is_sum" sf_is_sum a fd) (ft : FT T KW n P w K mg base) (mb : ∀ s ∈ bn, mg (Str.ofString s) = none) (gc : GC w K mg) : FnOk P w K mg base CX0 (n + 2 + 1) a fd ["kind", "parts", "new"] (spI T (n + 1) K "is_sum") :=
  have nd := (scf_is_sum).nd
  fn_ok F scf_is_sum T_f_is_sum rfl rfl fun cdv A outer s H E hr =>
    (ss_cons (ss_ret (se_list is_lst (sn_lst (ses_cons (se_tup (ses_cons (se_var 0) (ses_cons (se_glb gc.c_INT) ses_nil))) (ses_cons (se_tup (ses_cons (se_idx hr (se_var 1) se_int) (ses_cons (se_glb gc.c_INT) ses_nil))) (ses_cons (se_tup (ses_cons (se_idx hr (se_var 1) se_int) (ses_cons (se_glb gc.c_INT) ses_nil))) ses_nil))))))
      ss_nil)
end
end Prog

namespace Prog
open PySem PySem.Spec PyProof.Rows L2 Snd
section
variable {P : Program} {w : World} {K : PySem.W.Frag} {mg : Str → Option Value} {base : Heap}
theorem scf_is_less : FnScope ["kind", "parts", "new"] ["kind", "parts", "new"] (defScope sf_is_less) := ⟨rfl, rfl, rfl, by decide +kernel, rfl, by decide +kernel, by decide +kernel⟩
theorem okf_is_less {n : Nat} {a : Addr} {fd : FuncData} (F : Fun K "is_less" "is_less" sf_is_less a fd) (ft : FT T KW n P w K mg base) (mb : ∀ s ∈ bn, mg (Str.ofString s) = none) (gc : GC w K mg) : FnOk P w K mg base CX0 (n + 2 + 1) a fd ["kind", "parts", "new"] (spI T (n + 1) K "is_less") :=
  have nd := (scf_is_less).nd
  fn_ok F scf_is_less T_f_is_less rfl rfl fun cdv A outer s H E hr =>
    (ss_cons (ss_ret (se_list is_lst (sn_lst (ses_cons (se_tup (ses_cons (se_var 0) (ses_cons (se_glb gc.c_BOOL) ses_nil))) (ses_cons (se_tup (ses_cons (se_idx hr (se_var 1) se_int) (ses_cons (se_glb gc.c_INT) ses_nil))) (ses_cons (se_tup (ses_cons (se_idx hr (se_var 1) se_int) (ses_cons (se_glb gc.c_INT) ses_nil))) ses_nil))))))
      ss_nil)
end
end Prog

namespace Prog
open PySem PySem.Spec PyProof.Rows L2 Snd
section
variable {P : Program} {w : World} {K : PySem.W.Frag} {mg : Str → Option Value} {base : Heap}
theorem scf_is_pair : FnScope ["kind", "parts", "new"] ["kind", "parts", "new"] (defScope sf_is_pair) := ⟨rfl, rfl, rfl, by decide +kernel, rfl, by decide +kernel, by decide +kernel⟩
theorem okf_is_pair {n : Nat} {a : Addr} {fd : FuncData} (F : Fun K "is_pair" "is_pair" sf_is_pair a fd) (ft : FT T KW n P w K mg base) (mb : ∀ s ∈ bn, mg (Str.ofString s) = none) (gc : GC w K mg) : FnOk P w K mg base CX0 (n + 2 + 1) a fd ["kind", "parts", "new"] (spI T (n + 1) K "is_pair") :=
  have nd := (scf_is_pair).nd
  fn_ok F scf_is_pair T_f_is_pair rfl rfl fun cdv A outer s H E hr =>
    (ss_cons (ss_ret (se_list is_lst (sn_lst (ses_cons (se_tup (ses_cons (se_var 0) (ses_cons (se_tup (ses_cons se_str (ses_cons (se_idx hr (se_var 1) se_int) (ses_cons (se_idx hr (se_var 1) se_int) ses_nil)))) ses_nil))) ses_nil))))
      ss_nil)
end
end Prog

namespace Prog
open PySem PySem.Spec PyProof.Rows L2 Snd
section
variable {P : Program} {w : World} {K : PySem.W.Frag} {mg : Str → Option Value} {base : Heap}
theorem scf_is_first : FnScope ["kind", "parts", "new"] ["kind", "parts", "new"] (defScope sf_is_first) := ⟨rfl, rfl, rfl, by decide +kernel, rfl, by decide +kernel, by decide +kernel⟩
theorem okf_is_first {n : Nat} {a : Addr} {fd : FuncData} (F : Fun K "is_first" "is_first" sf_is_first a fd) (ft : FT T KW n P w K mg base) (mb : ∀ s ∈ bn, mg (Str.ofString s) = none) (gc : GC w K mg) : FnOk P w K mg base CX0 (n + 2 + 1) a fd ["kind", "parts", "new"] (spI T (n + 1) K "is_first") :=
  have nd := (scf_is_first).nd
  fn_ok F scf_is_first T_f_is_first rfl rfl fun cdv A outer s H E hr =>
    (ss_cons (ss_ret (se_list is_lst (sn_lst (ses_cons (se_tup (ses_cons (se_idx hr (se_var 1) se_int) (ses_cons (se_tup (ses_cons se_str (ses_cons (se_var 0) (ses_cons (se_var 2) ses_nil)))) ses_nil))) ses_nil))))
      ss_nil)
end
end Prog

namespace Prog
open PySem PySem.Spec PyProof.Rows L2 Snd
section
variable {P : Program} {w : World} {K : PySem.W.Frag} {mg : Str → Option Value} {base : Heap}
theorem scf_is_second : FnScope ["kind", "parts", "new"] ["kind", "parts", "new"] (defScope sf_is_second) := ⟨rfl, rfl, rfl, by decide +kernel, rfl, by decide +kernel, by decide +kernel⟩
theorem okf_is_second {n : Nat} {a : Addr} {fd : FuncData} (F : Fun K "is_second" "is_second" sf_is_second a fd) (ft : FT T KW n P w K mg base) (mb : ∀ s ∈ bn, mg (Str.ofString s) = none) (gc : GC w K mg) : FnOk P w K mg base CX0 (n + 2 + 1) a fd ["kind", "parts", "new"] (spI T (n + 1) K "is_second") :=
  have nd := (scf_is_second).nd
  fn_ok F scf_is_second T_f_is_second rfl rfl fun cdv A outer s H E hr =>
    (ss_cons (ss_ret (se_list is_lst (sn_lst (ses_cons (se_tup (ses_cons (se_idx hr (se_var 1) se_int) (ses_cons (se_tup (ses_cons se_str (ses_cons (se_var 2) (ses_cons (se_var 0) ses_nil)))) ses_nil))) ses_nil))))
      ss_nil)
end
end Prog

namespace Prog
open PySem PySem.Spec PyProof.Rows L2 Snd
section
variable {P : Program} {w : World} {K : PySem.W.Frag} {mg : Str → Option Value} {base : Heap}
theorem scf_is_nil : FnScope ["kind", "parts", "new"] ["kind", "parts", "new"] (defScope sf_is_nil) := ⟨rfl, rfl, rfl, by decide +kernel, rfl, by decide +kernel, by decide +kernel⟩
theorem okf_is_nil {n : Nat} {a : Addr} {fd : FuncData} (F : Fun K "is_nil" "is_nil" sf_is_nil a fd) (ft : FT T KW n P w K mg base) (mb : ∀ s ∈ bn, mg (Str.ofString s) = none) (gc : GC w K mg) : FnOk P w K mg base CX0 (n + 2 + 1) a fd ["kind", "parts", "new"] (spI T (n + 1) K "is_nil") :=
  have nd := (scf_is_nil).nd
  fn_ok F scf_is_nil T_f_is_nil rfl rfl fun cdv A outer s H E hr =>
    (ss_cons (ss_ret (se_list is_lst (sn_lst (ses_cons (se_tup (ses_cons (se_var 0) (ses_cons (se_tup (ses_cons se_str (ses_cons (se_var 2) ses_nil))) ses_nil))) ses_nil))))
      ss_nil)
end
end Prog

namespace Prog
open PySem PySem.Spec PyProof.Rows L2 Snd
section
variable {P : Program} {w : World} {K : PySem.W.Frag} {mg : Str → Option Value} {base : Heap}
theorem scf_is_cons : FnScope ["kind", "parts", "new"] ["kind", "parts", "new"] (defScope sf_is_cons) := ⟨rfl, rfl, rfl, by decide +kernel, rfl, by decide +kernel, by decide +kernel⟩
theorem okf_is_cons {n : Nat} {a : Addr} {fd : FuncData} (F : Fun K "is_cons" "is_cons" sf_is_cons a fd) (ft : FT T KW n P w K mg base) (mb : ∀ s ∈ bn, mg (Str.ofString s) = none) (gc : GC w K mg) : FnOk P w K mg base CX0 (n + 2 + 1) a fd ["kind", "parts", "new"] (spI T (n + 1) K "is_cons") :=
  have nd := (scf_is_cons).nd
  fn_ok F scf_is_cons T_f_is_cons rfl rfl fun cdv A outer s H E hr =>
    (ss_cons (ss_ret (se_list is_lst (sn_lst (ses_cons (se_tup (ses_cons (se_var 0) (ses_cons (se_tup (ses_cons se_str (ses_cons (se_idx hr (se_var 1) se_int) ses_nil))) ses_nil))) (ses_cons (se_tup (ses_cons (se_idx hr (se_var 1) se_int) (ses_cons (se_var 0) ses_nil))) ses_nil)))))
      ss_nil)
end
end Prog

namespace Prog
open PySem PySem.Spec PyProof.Rows L2 Snd
section
variable {P : Program} {w : World} {K : PySem.W.Frag} {mg : Str → Option Value} {base : Heap}
theorem scf_is_head : FnScope ["kind", "parts", "new"] ["kind", "parts", "new"] (defScope sf_is_head) := ⟨rfl, rfl, rfl, by decide +kernel, rfl, by decide +kernel, by decide +kernel⟩
theorem okf_is_head {n : Nat} {a : Addr} {fd : FuncData} (F : Fun K "is_head" "is_head" sf_is_head a fd) (ft : FT T KW n P w K mg base) (mb : ∀ s ∈ bn, mg (Str.ofString s) = none) (gc : GC w K mg) : FnOk P w K mg base CX0 (n + 2 + 1) a fd ["kind", "parts", "new"] (spI T (n + 1) K "is_head") :=
  have nd := (scf_is_head).nd
  fn_ok F scf_is_head T_f_is_head rfl rfl fun cdv A outer s H E hr =>
    (ss_cons (ss_ret (se_list is_lst (sn_lst (ses_cons (se_tup (ses_cons (se_idx hr (se_var 1) se_int) (ses_cons (se_tup (ses_cons se_str (ses_cons (se_var 0) ses_nil))) ses_nil))) ses_nil))))
      ss_nil)
end
end Prog

namespace Prog
open PySem PySem.Spec PyProof.Rows L2 Snd
section
variable {P : Program} {w : World} {K : PySem.W.Frag} {mg : Str → Option Value} {base : Heap}
theorem scf_is_tail : FnScope ["kind", "parts", "new"] ["kind", "parts", "new"] (defScope sf_is_tail) := ⟨rfl, rfl, rfl, by decide +kernel, rfl, by decide +kernel, by decide +kernel⟩
theorem okf_is_tail {n : Nat} {a : Addr} {fd : FuncData} (F : Fun K "is_tail" "is_tail" sf_is_tail a fd) (ft : FT T KW n P w K mg base) (mb : ∀ s ∈ bn, mg (Str.ofString s) = none) (gc : GC w K mg) : FnOk P w K mg base CX0 (n + 2 + 1) a fd ["kind", "parts", "new"] (spI T (n + 1) K "is_tail") :=
  have nd := (scf_is_tail).nd
  fn_ok F scf_is_tail T_f_is_tail rfl rfl fun cdv A outer s H E hr =>
    (ss_cons (ss_ret (se_list is_lst (sn_lst (ses_cons (se_tup (ses_cons (se_var 0) (ses_cons (se_tup (ses_cons se_str (ses_cons (se_var 2) ses_nil))) ses_nil))) (ses_cons (se_tup (ses_cons (se_idx hr (se_var 1) se_int) (ses_cons (se_var 0) ses_nil))) ses_nil)))))
      ss_nil)
end
end Prog

namespace Prog
open PySem PySem.Spec PyProof.Rows L2 Snd
section
variable {P : Program} {w : World} {K : PySem.W.Frag} {mg : Str → Option Value} {base : Heap}
theorem scf_is_none : FnScope ["kind", "parts", "new"] ["kind", "parts", "new"] (defScope sf_is_none) := ⟨rfl, rfl, rfl, by decide +kernel, rfl, by decide +kernel, by decide +kernel⟩
theorem okf_is_none {n : Nat} {a : Addr} {fd : FuncData} (F : Fun K "is_none" "is_none" sf_is_none a fd) (ft : FT T KW n P w K mg base) (mb : ∀ s ∈ bn, mg (Str.ofString s) = none) (gc : GC w K mg) : FnOk P w K mg base CX0 (n + 2 + 1) a fd ["kind", "parts", "new"] (spI T (n + 1) K "is_none") :=
  have nd := (scf_is_none).nd
  fn_ok F scf_is_none T_f_is_none rfl rfl fun cdv A outer s H E hr =>
    (ss_cons (ss_ret (se_list is_lst (sn_lst (ses_cons (se_tup (ses_cons (se_var 0) (ses_cons (se_glb gc.c_BOOL) ses_nil))) (ses_cons (se_tup (ses_cons (se_idx hr (se_var 1) se_int) (ses_cons (se_tup (ses_cons se_str (ses_cons (se_var 2) ses_nil))) ses_nil))) ses_nil)))))
      ss_nil)
end
end Prog

namespace Prog
open PySem PySem.Spec PyProof.Rows L2 Snd
section
variable {P : Program} {w : World} {K : PySem.W.Frag} {mg : Str → Option Value} {base : Heap}
theorem scf_Solver___init__ : FnScope ["self"] ["self"] (defScope sf_Solver___init__) := ⟨rfl, rfl, rfl, by decide +kernel, rfl, by decide +kernel, by decide +kernel⟩
theorem okf_Solver___init__ {n : Nat} {a : Addr} {fd : FuncData} (F : Fun K "__init__" "Solver.__init__" sf_Solver___init__ a fd) (ft : FT T KW n P w K mg base) (mb : ∀ s ∈ bn, mg (Str.ofString s) = none) (gc : GC w K mg) : FnOk P w K mg base CX0 (n + 2 + 1) a fd ["self"] (spI T (n + 1) K "Solver.__init__") :=
  have nd := (scf_Solver___init__).nd
  fn_ok F scf_Solver___init__ T_f_Solver___init__ rfl rfl fun cdv A outer s H E hr =>
    (ss_cons (ss_setf gc.k_Solver (by decide) se_newOD (se_var 0))
      (ss_cons (ss_setf gc.k_Solver (by decide) se_int (se_var 0))
      ss_nil))
end
end Prog

namespace Prog
open PySem PySem.Spec PyProof.Rows L2 Snd
section
variable {P : Program} {w : World} {K : PySem.W.Frag} {mg : Str → Option Value} {base : Heap}
theorem scf_Solver_fresh : FnScope ["self"] ["self"] (defScope sf_Solver_fresh) := ⟨rfl, rfl, rfl, by decide +kernel, rfl, by decide +kernel, by decide +kernel⟩
theorem okf_Solver_fresh {n : Nat} {a : Addr} {fd : FuncData} (F : Fun K "fresh" "Solver.fresh" sf_Solver_fresh a fd) (ft : FT T KW n P w K mg base) (mb : ∀ s ∈ bn, mg (Str.ofString s) = none) (gc : GC w K mg) : FnOk P w K mg base CX0 (n + 2 + 1) a fd ["self"] (spI T (n + 1) K "Solver.fresh") :=
  have nd := (scf_Solver_fresh).nd
  fn_ok F scf_Solver_fresh T_f_Solver_fresh rfl rfl fun cdv A outer s H E hr =>
    (ss_cons (ss_augf gc.k_Solver (by decide) ip_add aug_add se_int (se_var 0))
      (ss_cons (ss_ret (se_tup (ses_cons se_str (ses_cons (se_bin bin_sub (se_fld gc.k_Solver (by decide) (se_var 0)) se_int) ses_nil))))
      ss_nil))
end
end Prog

namespace Prog
open PySem PySem.Spec PyProof.Rows L2 Snd
section
variable {P : Program} {w : World} {K : PySem.W.Frag} {mg : Str → Option Value} {base : Heap}
theorem scf_Solver_seen : FnScope ["self", "kind"] ["self", "kind"] (defScope sf_Solver_seen) := ⟨rfl, rfl, rfl, by decide +kernel, rfl, by decide +kernel, by decide +kernel⟩
theorem okf_Solver_seen {n : Nat} {a : Addr} {fd : FuncData} (F : Fun K "seen" "Solver.seen" sf_Solver_seen a fd) (ft : FT T KW n P w K mg base) (mb : ∀ s ∈ bn, mg (Str.ofString s) = none) (gc : GC w K mg) : FnOk P w K mg base CX0 (n + 2 + 1) a fd ["self", "kind"] (spI T (n + 1) K "Solver.seen") :=
  have nd := (scf_Solver_seen).nd
  fn_ok F scf_Solver_seen T_f_Solver_seen rfl rfl fun cdv A outer s H E hr =>
    (ss_cons (ss_while PassesOwn.never (st_w (sw_and (st_cmp (cmp_eq hr) (se_idx hr (se_var 1) se_int) se_str) (sw_and1 (st_oin hr (se_idx hr (se_var 1) se_int) (se_fld gc.k_Solver (by decide) (se_var 0)))))) (ss_cons (ss_set 1 nd (se_oidx hr (se_fld gc.k_Solver (by decide) (se_var 0)) (se_idx hr (se_var 1) se_int)))
      ss_nil))
      (ss_cons (ss_ret (se_var 1))
      ss_nil))
end
end Prog

namespace Prog
open PySem PySem.Spec PyProof.Rows L2 Snd
section
variable {P : Program} {w : World} {K : PySem.W.Frag} {mg : Str → Option Value} {base : Heap}
theorem scf_Solver_has : FnScope ["self", "kind", "number", "one"] ["self", "kind", "number"] (defScope sf_Solver_has) := ⟨rfl, rfl, rfl, by decide +kernel, rfl, by decide +kernel, by decide +kernel⟩
theorem okf_Solver_has {n : Nat} {a : Addr} {fd : FuncData} (F : Fun K "has" "Solver.has" sf_Solver_has a fd) (ft : FT T KW n P w K mg base) (mb : ∀ s ∈ bn, mg (Str.ofString s) = none) (gc : GC w K mg) : FnOk P w K mg base CX0 (n + 2 + 1) a fd ["self", "kind", "number"] (spI T (n + 1) K "Solver.has") :=
  have nd := (scf_Solver_has).nd
  fn_ok F scf_Solver_has T_f_Solver_has rfl rfl fun cdv A outer s H E hr =>
    (ss_cons (ss_set 1 nd (se_meth (c := "Solver") (m := "seen") ft TM_f_Solver_seen hr (se_var 0) (ses_cons (se_var 1) ses_nil)))
      (ss_cons (ss_if (st_cmp (cmp_eq hr) (se_idx hr (se_var 1) se_int) se_str) (ss_cons (ss_ret (se_cmp (cmp_eq hr) (se_idx hr (se_var 1) se_int) (se_var 2)))
      ss_nil) ss_nil)
      (ss_cons (ss_ret (se_blt (blt_any rfl) (ses_cons (se_list is_comp (sn_comp [("one", 3)] rfl nd (si_seq (se_call ft T_f_inner hr (ses_cons (se_var 1) ses_nil))) (blkOk_by (N := ["self", "kind", "number", "one"]) (sc := defScope sf_Solver_has) (by decide +kernel)) (fun _ _ _ _ _ => (sg_name 3 nd)) (fun _ _ _ _ _ => sc_nil) (fun _ _ _ _ _ => (se_meth (c := "Solver") (m := "has") ft TM_f_Solver_has hr (se_var 0) (ses_cons (se_var 3) (ses_cons (se_var 2) ses_nil)))))) ses_nil) (mb "any" (by decide)) bv_any))
      ss_nil)))
end
end Prog

namespace Prog
open PySem PySem.Spec PyProof.Rows L2 Snd
section
variable {P : Program} {w : World} {K : PySem.W.Frag} {mg : Str → Option Value} {base : Heap}
theorem scf_Solver_unite : FnScope ["self", "one", "other", "a", "b"] ["self", "one", "other"] (defScope sf_Solver_unite) := ⟨rfl, rfl, rfl, by decide +kernel, rfl, by decide +kernel, by decide +kernel⟩
theorem okf_Solver_unite {n : Nat} {a : Addr} {fd : FuncData} (F : Fun K "unite" "Solver.unite" sf_Solver_unite a fd) (ft : FT T KW n P w K mg base) (mb : ∀ s ∈ bn, mg (Str.ofString s) = none) (gc : GC w K mg) : FnOk P w K mg base CX0 (n + 2 + 1) a fd ["self", "one", "other"] (spI T (n + 1) K "Solver.unite") :=
  have nd := (scf_Solver_unite).nd
  fn_ok F scf_Solver_unite T_f_Solver_unite rfl rfl fun cdv A outer s H E hr =>
    (ss_cons (ss_par 1 2 rfl nd (se_meth (c := "Solver") (m := "seen") ft TM_f_Solver_seen hr (se_var 0) (ses_cons (se_var 1) ses_nil)) (se_meth (c := "Solver") (m := "seen") ft TM_f_Solver_seen hr (se_var 0) (ses_cons (se_var 2) ses_nil)))
      (ss_cons (ss_if (st_cmp (cmp_eq hr) (se_var 1) (se_var 2)) (ss_cons (ss_ret se_bool)
      ss_nil) ss_nil)
      (ss_cons (ss_if (st_cmp (cmp_eq hr) (se_idx hr (se_var 1) se_int) se_str) (ss_cons (ss_if (st_val (se_meth (c := "Solver") (m := "has") ft TM_f_Solver_has hr (se_var 0) (ses_cons (se_var 2) (ses_cons (se_idx hr (se_var 1) se_int) ses_nil)))) (ss_cons (ss_ret se_bool)
      ss_nil) ss_nil)
      (ss_cons (ss_setO hr (se_var 2) (se_fld gc.k_Solver (by decide) (se_var 0)) (se_idx hr (se_var 1) se_int))
      (ss_cons (ss_ret se_bool)
      ss_nil))) ss_nil)
      (ss_cons (ss_if (st_cmp (cmp_eq hr) (se_idx hr (se_var 2) se_int) se_str) (ss_cons (ss_ret (se_meth (c := "Solver") (m := "unite") ft TM_f_Solver_unite hr (se_var 0) (ses_cons (se_var 2) (ses_cons (se_var 1) ses_nil))))
      ss_nil) ss_nil)
      (ss_cons (ss_if (st_w (sw_or (st_cmp (cmp_ne hr) (se_idx hr (se_var 1) se_int) (se_idx hr (se_var 2) se_int)) (sw_or1 (st_in hr (se_idx hr (se_var 1) se_int) (se_glb gc.c_ALONE))))) (ss_cons (ss_ret se_bool)
      ss_nil) ss_nil)
      (ss_cons (ss_ret (se_blt (blt_all rfl) (ses_cons (se_list is_comp (sn_comp [("a", 3), ("b", 4)] rfl nd (si_zip (se_sli (se_var 1) (so_some se_int) so_none) (se_sli (se_var 2) (so_some se_int) so_none) (mb "zip" (by decide))) (blkOk_by (N := ["self", "one", "other", "a", "b"]) (sc := defScope sf_Solver_unite) (by decide +kernel)) (fun _ _ _ _ _ => (sg_tup rfl (sgs_cons (sg_name 3 nd) (sgs_cons (sg_name 4 nd) sgs_nil)) (puts_len _))) (fun _ _ _ _ _ => sc_nil) (fun _ _ _ _ _ => (se_meth (c := "Solver") (m := "unite") ft TM_f_Solver_unite hr (se_var 0) (ses_cons (se_var 3) (ses_cons (se_var 4) ses_nil)))))) ses_nil) (mb "all" (by decide)) bv_all))
      ss_nil))))))
end
end Prog

namespace Prog
open PySem PySem.Spec PyProof.Rows L2 Snd
section
variable {P : Program} {w : World} {K : PySem.W.Frag} {mg : Str → Option Value} {base : Heap}
theorem scf_Solver_hold : FnScope ["self", "rows", "one", "other"] ["self", "rows"] (defScope sf_Solver_hold) := ⟨rfl, rfl, rfl, by decide +kernel, rfl, by decide +kernel, by decide +kernel⟩
theorem okf_Solver_hold {n : Nat} {a : Addr} {fd : FuncData} (F : Fun K "hold" "Solver.hold" sf_Solver_hold a fd) (ft : FT T KW n P w K mg base) (mb : ∀ s ∈ bn, mg (Str.ofString s) = none) (gc : GC w K mg) : FnOk P w K mg base CX0 (n + 2 + 1) a fd ["self", "rows"] (spI T (n + 1) K "Solver.hold") :=
  have nd := (scf_Solver_hold).nd
  fn_ok F scf_Solver_hold T_f_Solver_hold rfl rfl fun cdv A outer s H E hr =>
    (ss_cons (ss_ret (se_blt (blt_all rfl) (ses_cons (se_list is_comp (sn_comp [("one", 2), ("other", 3)] rfl nd (si_seq (se_var 1)) (blkOk_by (N := ["self", "rows", "one", "other"]) (sc := defScope sf_Solver_hold) (by decide +kernel)) (fun _ _ _ _ _ => (sg_tup rfl (sgs_cons (sg_name 2 nd) (sgs_cons (sg_name 3 nd) sgs_nil)) (puts_len _))) (fun _ _ _ _ _ => sc_nil) (fun _ _ _ _ _ => (se_meth (c := "Solver") (m := "unite") ft TM_f_Solver_unite hr (se_var 0) (ses_cons (se_var 2) (ses_cons (se_var 3) ses_nil)))))) ses_nil) (mb "all" (by decide)) bv_all))
      ss_nil)
end
end Prog

namespace Prog
open PySem PySem.Spec PyProof.Rows L2 Snd
section
variable {P : Program} {w : World} {K : PySem.W.Frag} {mg : Str → Option Value} {base : Heap}
theorem scf_Solver_filled : FnScope ["self", "kind", "one"] ["self", "kind"] (defScope sf_Solver_filled) := ⟨rfl, rfl, rfl, by decide +kernel, rfl, by decide +kernel, by decide +kernel⟩
theorem okf_Solver_filled {n : Nat} {a : Addr} {fd : FuncData} (F : Fun K "filled" "Solver.filled" sf_Solver_filled a fd) (ft : FT T KW n P w K mg base) (mb : ∀ s ∈ bn, mg (Str.ofString s) = none) (gc : GC w K mg) : FnOk P w K mg base CX0 (n + 2 + 1) a fd ["self", "kind"] (spI T (n + 1) K "Solver.filled") :=
  have nd := (scf_Solver_filled).nd
  fn_ok F scf_Solver_filled T_f_Solver_filled rfl rfl fun cdv A outer s H E hr =>
    (ss_cons (ss_set 1 nd (se_meth (c := "Solver") (m := "seen") ft TM_f_Solver_seen hr (se_var 0) (ses_cons (se_var 1) ses_nil)))
      (ss_cons (ss_if (st_cmp (cmp_eq hr) (se_idx hr (se_var 1) se_int) se_str) (ss_cons (ss_ret (se_var 1))
      ss_nil) ss_nil)
      (ss_cons (ss_ret (se_bltT blt_tuple (ses_cons (se_list is_comp (sn_comp [("one", 2)] rfl nd (si_seq (se_var 1)) (blkOk_by (N := ["self", "kind", "one"]) (sc := defScope sf_Solver_filled) (by decide +kernel)) (fun _ _ _ _ _ => (sg_name 2 nd)) (fun _ _ _ _ _ => sc_nil) (fun _ _ _ _ _ => (se_ite (st_val (se_isi (t := .tuple) (se_var 2) (sty_cons (t := .tuple) sty_nil (mb "tuple" (by decide)) bv_tuple) (mb "isinstance" (by decide)))) (se_meth (c := "Solver") (m := "filled") ft TM_f_Solver_filled hr (se_var 0) (ses_cons (se_var 2) ses_nil)) (se_var 2))))) ses_nil) (mb "tuple" (by decide)) bv_tuple))
      ss_nil)))
end
end Prog

namespace Prog
open PySem PySem.Spec PyProof.Rows L2 Snd
section
variable {P : Program} {w : World} {K : PySem.W.Frag} {mg : Str → Option Value} {base : Heap}
theorem scf_Finder___init__ : FnScope ["self"] ["self"] (defScope sf_Finder___init__) := ⟨rfl, rfl, rfl, by decide +kernel, rfl, by decide +kernel, by decide +kernel⟩
theorem okf_Finder___init__ {n : Nat} {a : Addr} {fd : FuncData} (F : Fun K "__init__" "Finder.__init__" sf_Finder___init__ a fd) (ft : FT T KW n P w K mg base) (mb : ∀ s ∈ bn, mg (Str.ofString s) = none) (gc : GC w K mg) : FnOk P w K mg base CX0 (n + 2 + 1) a fd ["self"] (spI T (n + 1) K "Finder.__init__") :=
  have nd := (scf_Finder___init__).nd
  fn_ok F scf_Finder___init__ T_f_Finder___init__ rfl rfl fun cdv A outer s H E hr =>
    (ss_cons (ss_setf gc.k_Finder (by decide) (se_make0 ft T_f_Solver hr) (se_var 0))
      (ss_cons (ss_setf gc.k_Finder (by decide) (se_newO (sn_lst ses_nil)) (se_var 0))
      (ss_cons (ss_setf gc.k_Finder (by decide) se_bool (se_var 0))
      ss_nil)))
end
end Prog

namespace Prog
open PySem PySem.Spec PyProof.Rows L2 Snd
section
variable {P : Program} {w : World} {K : PySem.W.Frag} {mg : Str → Option Value} {base : Heap}
theorem scf_Finder_visit : FnScope ["self", "part", "names", "around", "off", "kind", "head", "rows", "rule", "one"] ["self", "part", "names", "around"] (defScope sf_Finder_visit) := ⟨rfl, rfl, rfl, by decide +kernel, rfl, by decide +kernel, by decide +kernel⟩
theorem okf_Finder_visit {n : Nat} {a : Addr} {fd : FuncData} (F : Fun K "visit" "Finder.visit" sf_Finder_visit a fd) (ft : FT T KW n P w K mg base) (mb : ∀ s ∈ bn, mg (Str.ofString s) = none) (gc : GC w K mg) : FnOk P w K mg base CX0 (n + 2 + 1) a fd ["self", "part", "names", "around"] (spI T (n + 1) K "Finder.visit") :=
  have nd := (scf_Finder_visit).nd
  fn_ok F scf_Finder_visit T_f_Finder_visit rfl rfl fun cdv A outer s H E hr =>
    (ss_cons (ss_asg (se_call ft T_f_bare hr (ses_cons (se_var 1) ses_nil)) (sg_tup rfl (sgs_cons (sg_name 1 nd) (sgs_cons (sg_name 4 nd) sgs_nil)) (puts_len _)))
      (ss_cons (ss_set 5 nd (se_meth0 (c := "Solver") (m := "fresh") ft TM_f_Solver_fresh hr (se_fld gc.k_Finder (by decide) (se_var 0))))
      (ss_cons (ss_ex (se_oappend (se_fld gc.k_Finder (by decide) (se_var 0)) (se_var 5)))
      (ss_cons (ss_set 6 nd (se_idx hr (se_var 1) se_int))
      (ss_cons (ss_if (st_cmp (cmp_eq hr) (se_var 6) se_str) (ss_cons ss_never
      ss_nil) (ss_cons (ss_if (st_in hr (se_var 6) (se_tup (ses_cons se_str (ses_cons se_str ses_nil)))) (ss_cons ss_never
      ss_nil) (ss_cons (ss_if (st_cmp (cmp_eq hr) (se_var 6) se_str) (ss_cons ss_never
      ss_nil) (ss_cons (ss_set 8 nd (se_kdidx gc.c_RULES (se_var 6)))
      (ss_cons (ss_set 7 nd (se_callV 8 ft fvT_RULES gc.v_RULES hr (ses_cons (se_var 5) (ses_cons (se_list is_comp (sn_comp [("one", 9)] rfl nd (si_seq (se_call ft T_f_inner hr (ses_cons (se_var 1) ses_nil))) (blkOk_by (N := ["self", "part", "names", "around", "off", "kind", "head", "rows", "rule", "one"]) (sc := defScope sf_Finder_visit) (by decide +kernel)) (fun _ _ _ _ _ => (sg_name 9 nd)) (fun _ _ _ _ _ => sc_nil) (fun _ _ _ _ _ => (se_meth (c := "Finder") (m := "visit") ft TM_f_Finder_visit hr (se_var 0) (ses_cons (se_var 9) (ses_cons (se_var 2) (ses_cons (se_var 3) ses_nil))))))) (ses_cons (se_meth0 (c := "Solver") (m := "fresh") ft TM_f_Solver_fresh hr (se_fld gc.k_Finder (by decide) (se_var 0))) ses_nil)))))
      ss_nil)))
      ss_nil))
      ss_nil))
      (ss_cons (ss_if (st_w (sw_and (st_not (st_val (se_var 4))) (sw_and1 (st_not (st_val (se_meth (c := "Solver") (m := "hold") ft TM_f_Solver_hold hr (se_fld gc.k_Finder (by decide) (se_var 0)) (ses_cons (se_var 7) ses_nil))))))) (ss_cons (ss_setf gc.k_Finder (by decide) se_bool (se_var 0))
      ss_nil) ss_nil)
      (ss_cons (ss_ret (se_var 5))
      ss_nil)))))))
end
end Prog

namespace Prog
open PySem PySem.Spec PyProof.Rows L2 Snd
section
variable {P : Program} {w : World} {K : PySem.W.Frag} {mg : Str → Option Value} {base : Heap}
theorem scf_types_of : FnScope ["program", "finder", "kind"] ["program"] (defScope sf_types_of) := ⟨rfl, rfl, rfl, by decide +kernel, rfl, by decide +kernel, by decide +kernel⟩
theorem okf_types_of {n : Nat} {a : Addr} {fd : FuncData} (F : Fun K "types_of" "types_of" sf_types_of a fd) (ft : FT T KW n P w K mg base) (mb : ∀ s ∈ bn, mg (Str.ofString s) = none) (gc : GC w K mg) : FnOk P w K mg base CX0 (n + 2 + 1) a fd ["program"] (spI T (n + 1) K "types_of") :=
  have nd := (scf_types_of).nd
  fn_ok F scf_types_of T_f_types_of rfl rfl fun cdv A outer s H E hr =>
    (ss_cons (ss_set 1 nd (se_make0 ft T_f_Finder hr))
      (ss_cons (ss_ex (se_meth (c := "Finder") (m := "visit") ft TM_f_Finder_visit hr (se_var 1) (ses_cons (se_var 0) (ses_cons se_newD (ses_cons (se_list is_lst (sn_lst ses_nil)) ses_nil)))))
      (ss_cons (ss_if (st_not (st_val (se_fld gc.k_Finder (by decide) (se_var 1)))) (ss_cons (ss_ret se_non)
      ss_nil) ss_nil)
      (ss_cons (ss_ret (se_call ft T_f_named hr (ses_cons (se_list is_compO (sn_compO [("kind", 2)] rfl nd (si_obj (se_fld gc.k_Finder (by decide) (se_var 1))) (blkOk_by (N := ["program", "finder", "kind"]) (sc := defScope sf_types_of) (by decide +kernel)) (fun _ _ _ _ _ => (sg_name 2 nd)) (fun _ _ _ _ _ => sc_nil) (fun _ _ _ _ _ => (se_meth (c := "Solver") (m := "filled") ft TM_f_Solver_filled hr (se_fld gc.k_Finder (by decide) (se_var 1)) (ses_cons (se_var 2) ses_nil))))) ses_nil)))
      ss_nil))))
end
end Prog

namespace Prog
open PySem PySem.Spec PyProof.Rows L2 Snd
section
variable {P : Program} {w : World} {K : PySem.W.Frag} {mg : Str → Option Value} {base : Heap}
theorem scf_typed : FnScope ["program"] ["program"] (defScope sf_typed) := ⟨rfl, rfl, rfl, by decide +kernel, rfl, by decide +kernel, by decide +kernel⟩
theorem okf_typed {n : Nat} {a : Addr} {fd : FuncData} (F : Fun K "typed" "typed" sf_typed a fd) (ft : FT T KW n P w K mg base) (mb : ∀ s ∈ bn, mg (Str.ofString s) = none) (gc : GC w K mg) : FnOk P w K mg base CX0 (n + 2 + 1) a fd ["program"] (spI T (n + 1) K "typed") :=
  have nd := (scf_typed).nd
  fn_ok F scf_typed T_f_typed rfl rfl fun cdv A outer s H E hr =>
    (ss_cons (ss_ret (se_cmp cmp_isnot (se_call ft T_f_types_of hr (ses_cons (se_var 0) ses_nil)) se_non))
      ss_nil)
end
end Prog

namespace Prog
open PySem PySem.Spec PyProof.Rows L2 Snd
section
variable {P : Program} {w : World} {K : PySem.W.Frag} {mg : Str → Option Value} {base : Heap}
theorem scf_law_bag : FnScope ["_law_script", "_law_stir", "_law_cell"] ["_law_script"] (defScope sf_law_bag) := ⟨rfl, rfl, rfl, by decide +kernel, rfl, by decide +kernel, by decide +kernel⟩
theorem okf_law_bag {n : Nat} {a : Addr} {fd : FuncData} (F : Fun K "_law_bag" "_law_bag" sf_law_bag a fd) (ft : FT T KW n P w K mg base) (mb : ∀ s ∈ bn, mg (Str.ofString s) = none) (gc : GC w K mg) : FnOk P w K mg base CX0 (n + 2 + 1) a fd ["_law_script"] (spI T (n + 1) K "_law_bag") :=
  have nd := (scf_law_bag).nd
  fn_ok F scf_law_bag T_f_law_bag rfl rfl fun cdv A outer s H E hr =>
    (ss_cons (ss_set 1 nd se_int)
      (ss_cons (ss_for PassesOwn.never rfl (si_seq (se_sli (se_var 0) so_none (so_some se_int))) (sg_name 2 nd) (ss_cons (ss_set 1 nd (se_bin bin_mod (se_bin bin_add (se_bin bin_add (se_bin bin_mul (se_var 1) se_int) (se_bin bin_mod (se_var 2) se_int)) se_int) se_int))
      ss_nil))
      (ss_cons (ss_ret (se_newL (sn_lst (ses_cons (se_list is_comp (sn_comp [("_law_cell", 2)] rfl nd (si_seq (se_sli (se_var 0) so_none (so_some se_int))) (blkOk_by (N := ["_law_script", "_law_stir", "_law_cell"]) (sc := defScope sf_law_bag) (by decide +kernel)) (fun _ _ _ _ _ => (sg_name 2 nd)) (fun _ _ _ _ _ => sc_nil) (fun _ _ _ _ _ => (se_bin bin_mod (se_blt blt_abs (ses_cons (se_var 2) ses_nil) (mb "abs" (by decide)) bv_abs) (se_bin bin_pow (se_bin bin_pow se_int se_int) se_int))))) (ses_cons se_int (ses_cons se_int (ses_cons (se_var 1) (ses_cons se_int ses_nil))))))))
      ss_nil)))
end
end Prog

namespace Prog
open PySem PySem.Spec PyProof.Rows L2 Snd
section
variable {P : Program} {w : World} {K : PySem.W.Frag} {mg : Str → Option Value} {base : Heap}
theorem scf_law_stirred : FnScope ["_law_bag_here", "_law_many", "_law_found", "_law_k"] ["_law_bag_here", "_law_many"] (defScope sf_law_stirred) := ⟨rfl, rfl, rfl, by decide +kernel, rfl, by decide +kernel, by decide +kernel⟩
theorem okf_law_stirred {n : Nat} {a : Addr} {fd : FuncData} (F : Fun K "_law_stirred" "_law_stirred" sf_law_stirred a fd) (ft : FT T KW n P w K mg base) (mb : ∀ s ∈ bn, mg (Str.ofString s) = none) (gc : GC w K mg) : FnOk P w K mg base CX0 (n + 2 + 1) a fd ["_law_bag_here", "_law_many"] (spI T (n + 1) K "_law_stirred") :=
  have nd := (scf_law_stirred).nd
  fn_ok F scf_law_stirred T_f_law_stirred rfl rfl fun cdv A outer s H E hr =>
    (ss_cons (ss_set 2 nd se_int)
      (ss_cons (ss_for PassesOwn.never rfl (si_range1 (se_bin bin_add se_int (se_bin bin_fdiv (se_bits (se_var 1)) se_int)) (mb "range" (by decide))) (sg_name 3 nd) (ss_cons (ss_sub hr (se_bin bin_add (se_idx hr (se_var 0) se_int) se_int) (se_var 0) se_int)
      (ss_cons (ss_sub hr (se_bin bin_mod (se_bin bin_add (se_bin bin_add (se_bin bin_add (se_bin bin_pow (se_idx hr (se_var 0) se_int) se_int) (se_bin bin_mul se_int (se_idx hr (se_var 0) se_int))) (se_bin bin_mul se_int (se_idx hr (se_var 0) se_int))) se_int) se_int) (se_var 0) se_int)
      (ss_cons (ss_set 2 nd (se_bin bin_add (se_bin bin_mul (se_var 2) se_int) (se_bin bin_fdiv (se_idx hr (se_var 0) se_int) se_int)))
      ss_nil))))
      (ss_cons (ss_ret (se_bin bin_mod (se_var 2) (se_var 1)))
      ss_nil)))
end
end Prog

namespace Prog
open PySem PySem.Spec PyProof.Rows L2 Snd
section
variable {P : Program} {w : World} {K : PySem.W.Frag} {mg : Str → Option Value} {base : Heap}
theorem scf_law_draw : FnScope ["_law_bag_here", "_law_many", "_law_found"] ["_law_bag_here", "_law_many"] (defScope sf_law_draw) := ⟨rfl, rfl, rfl, by decide +kernel, rfl, by decide +kernel, by decide +kernel⟩
theorem okf_law_draw {n : Nat} {a : Addr} {fd : FuncData} (F : Fun K "_law_draw" "_law_draw" sf_law_draw a fd) (ft : FT T KW n P w K mg base) (mb : ∀ s ∈ bn, mg (Str.ofString s) = none) (gc : GC w K mg) : FnOk P w K mg base CX0 (n + 2 + 1) a fd ["_law_bag_here", "_law_many"] (spI T (n + 1) K "_law_draw") :=
  have nd := (scf_law_draw).nd
  fn_ok F scf_law_draw T_f_law_draw rfl rfl fun cdv A outer s H E hr =>
    (ss_cons (ss_if (st_w (sw_and (st_cmp (cmp_eq hr) (se_idx hr (se_var 0) se_int) se_int) (sw_and1 (st_cmp cmp_lt (se_idx hr (se_var 0) se_int) (se_blt blt_len (ses_cons (se_idx hr (se_var 0) se_int) ses_nil) (mb "len" (by decide)) bv_len))))) (ss_cons (ss_sub hr (se_idx hr (se_idx hr (se_var 0) se_int) (se_idx hr (se_var 0) se_int)) (se_var 0) se_int)
      (ss_cons (ss_sub hr (se_bin bin_add (se_idx hr (se_var 0) se_int) se_int) (se_var 0) se_int)
      ss_nil)) (ss_cons (ss_if (st_cmp (cmp_eq hr) (se_idx hr (se_var 0) se_int) se_int) (ss_cons (ss_ret (se_call ft T_f_law_stirred hr (ses_cons (se_var 0) (ses_cons (se_var 1) ses_nil))))
      ss_nil) ss_nil)
      ss_nil))
      (ss_cons (ss_set 2 nd (se_bin bin_mod (se_idx hr (se_var 0) se_int) (se_var 1)))
      (ss_cons (ss_sub hr (se_bin bin_fdiv (se_idx hr (se_var 0) se_int) (se_var 1)) (se_var 0) se_int)
      (ss_cons (ss_ret (se_var 2))
      ss_nil))))
end
end Prog

namespace Prog
open PySem PySem.Spec PyProof.Rows L2 Snd
section
variable {P : Program} {w : World} {K : PySem.W.Frag} {mg : Str → Option Value} {base : Heap}
theorem scf_law_alike : FnScope ["_law_found", "_law_due", "_law_k"] ["_law_found", "_law_due"] (defScope sf_law_alike) := ⟨rfl, rfl, rfl, by decide +kernel, rfl, by decide +kernel, by decide +kernel⟩
theorem okf_law_alike {n : Nat} {a : Addr} {fd : FuncData} (F : Fun K "_law_alike" "_law_alike" sf_law_alike a fd) (ft : FT T KW n P w K mg base) (mb : ∀ s ∈ bn, mg (Str.ofString s) = none) (gc : GC w K mg) : FnOk P w K mg base CX0 (n + 2 + 1) a fd ["_law_found", "_law_due"] (spI T (n + 1) K "_law_alike") :=
  have nd := (scf_law_alike).nd
  fn_ok F scf_law_alike T_f_law_alike rfl rfl fun cdv A outer s H E hr =>
    (ss_cons (ss_if (st_val (se_isiT (se_var 1) (sty_cons (t := .list) (sty_cons (t := .tuple) sty_nil (mb "tuple" (by decide)) bv_tuple) (mb "list" (by decide)) bv_list) (mb "isinstance" (by decide)))) (ss_cons (ss_if (st_w (sw_or (st_not (st_val (se_isiT (se_var 0) (sty_cons (t := .list) (sty_cons (t := .tuple) sty_nil (mb "tuple" (by decide)) bv_tuple) (mb "list" (by decide)) bv_list) (mb "isinstance" (by decide))))) (sw_or1 (st_cmp (cmp_ne hr) (se_isi (t := .list) (se_var 0) (sty_cons (t := .list) sty_nil (mb "list" (by decide)) bv_list) (mb "isinstance" (by decide))) (se_isi (t := .list) (se_var 1) (sty_cons (t := .list) sty_nil (mb "list" (by decide)) bv_list) (mb "isinstance" (by decide))))))) (ss_cons (ss_ret se_bool)
      ss_nil) ss_nil)
      (ss_cons (ss_if (st_cmp (cmp_ne hr) (se_blt blt_len (ses_cons (se_var 0) ses_nil) (mb "len" (by decide)) bv_len) (se_blt blt_len (ses_cons (se_var 1) ses_nil) (mb "len" (by decide)) bv_len)) (ss_cons (ss_ret se_bool)
      ss_nil) ss_nil)
      (ss_cons (ss_ret (se_blt (blt_all rfl) (ses_cons (se_list is_comp (sn_comp [("_law_k", 2)] rfl nd (si_range1 (se_blt blt_len (ses_cons (se_var 1) ses_nil) (mb "len" (by decide)) bv_len) (mb "range" (by decide))) (blkOk_by (N := ["_law_found", "_law_due", "_law_k"]) (sc := defScope sf_law_alike) (by decide +kernel)) (fun _ _ _ _ _ => (sg_name 2 nd)) (fun _ _ _ _ _ => sc_nil) (fun _ _ _ _ _ => (se_call ft T_f_law_alike hr (ses_cons (se_idx hr (se_var 0) (se_var 2)) (ses_cons (se_idx hr (se_var 1) (se_var 2)) ses_nil)))))) ses_nil) (mb "all" (by decide)) bv_all))
      ss_nil))) ss_nil)
      (ss_cons (ss_if (st_w (sw_or (st_cmp (cmp_ne hr) (se_isi (t := .bool) (se_var 0) (sty_cons (t := .bool) sty_nil (mb "bool" (by decide)) bv_bool) (mb "isinstance" (by decide))) (se_isi (t := .bool) (se_var 1) (sty_cons (t := .bool) sty_nil (mb "bool" (by decide)) bv_bool) (mb "isinstance" (by decide)))) (sw_or1 (st_cmp (cmp_ne hr) (se_isi (t := .int) (se_var 0) (sty_cons (t := .int) sty_nil (mb "int" (by decide)) bv_int) (mb "isinstance" (by decide))) (se_isi (t := .int) (se_var 1) (sty_cons (t := .int) sty_nil (mb "int" (by decide)) bv_int) (mb "isinstance" (by decide))))))) (ss_cons (ss_ret se_bool)
      ss_nil) ss_nil)
      (ss_cons (ss_ret (se_and (se_cmp (cmp_eq hr) (se_isi (t := .str) (se_var 0) (sty_cons (t := .str) sty_nil (mb "str" (by decide)) bv_str) (mb "isinstance" (by decide))) (se_isi (t := .str) (se_var 1) (sty_cons (t := .str) sty_nil (mb "str" (by decide)) bv_str) (mb "isinstance" (by decide)))) (se_one (se_cmp (cmp_eq hr) (se_var 0) (se_var 1)))))
      ss_nil)))
end
end Prog

namespace Prog
open PySem PySem.Spec PyProof.Rows L2 Snd
section
variable {P : Program} {w : World} {K : PySem.W.Frag} {mg : Str → Option Value} {base : Heap}
theorem scf_law_within : FnScope ["_law_part_here", "_law_one"] ["_law_part_here"] (defScope sf_law_within) := ⟨rfl, rfl, rfl, by decide +kernel, rfl, by decide +kernel, by decide +kernel⟩
theorem okf_law_within {n : Nat} {a : Addr} {fd : FuncData} (F : Fun K "_law_within" "_law_within" sf_law_within a fd) (ft : FT T KW n P w K mg base) (mb : ∀ s ∈ bn, mg (Str.ofString s) = none) (gc : GC w K mg) : FnOk P w K mg base CX0 (n + 2 + 1) a fd ["_law_part_here"] (spI T (n + 1) K "_law_within") :=
  have nd := (scf_law_within).nd
  fn_ok F scf_law_within T_f_law_within rfl rfl fun cdv A outer s H E hr =>
    (ss_cons (ss_ret (se_list is_comp (sn_comp [("_law_one", 1)] rfl nd (si_seq (se_sli (se_var 0) (so_some se_int) so_none)) (blkOk_by (N := ["_law_part_here", "_law_one"]) (sc := defScope sf_law_within) (by decide +kernel)) (fun _ _ _ _ _ => (sg_name 1 nd)) (fun _ _ _ _ _ => (sc_one (st_val (se_isi (t := .tuple) (se_var 1) (sty_cons (t := .tuple) sty_nil (mb "tuple" (by decide)) bv_tuple) (mb "isinstance" (by decide)))))) (fun _ _ _ _ _ => (se_var 1)))))
      ss_nil)
end
end Prog

namespace Prog
open PySem PySem.Spec PyProof.Rows L2 Snd
section
variable {P : Program} {w : World} {K : PySem.W.Frag} {mg : Str → Option Value} {base : Heap}
theorem scf_law_bare : FnScope ["_law_part_here"] ["_law_part_here"] (defScope sf_law_bare) := ⟨rfl, rfl, rfl, by decide +kernel, rfl, by decide +kernel, by decide +kernel⟩
theorem okf_law_bare {n : Nat} {a : Addr} {fd : FuncData} (F : Fun K "_law_bare" "_law_bare" sf_law_bare a fd) (ft : FT T KW n P w K mg base) (mb : ∀ s ∈ bn, mg (Str.ofString s) = none) (gc : GC w K mg) : FnOk P w K mg base CX0 (n + 2 + 1) a fd ["_law_part_here"] (spI T (n + 1) K "_law_bare") :=
  have nd := (scf_law_bare).nd
  fn_ok F scf_law_bare T_f_law_bare rfl rfl fun cdv A outer s H E hr =>
    (ss_cons (ss_ret (se_ite (st_cmp (cmp_eq hr) (se_idx hr (se_var 0) se_int) se_str) (se_tup (ses_cons (se_idx hr (se_var 0) se_int) (ses_cons se_bool ses_nil))) (se_tup (ses_cons (se_var 0) (ses_cons se_bool ses_nil)))))
      ss_nil)
end
end Prog

namespace Prog
open PySem PySem.Spec PyProof.Rows L2 Snd
section
variable {P : Program} {w : World} {K : PySem.W.Frag} {mg : Str → Option Value} {base : Heap}
theorem scf_law_new : FnScope ["_law_state"] ["_law_state"] (defScope sf_law_new) := ⟨rfl, rfl, rfl, by decide +kernel, rfl, by decide +kernel, by decide +kernel⟩
theorem okf_law_new {n : Nat} {a : Addr} {fd : FuncData} (F : Fun K "_law_new" "_law_new" sf_law_new a fd) (ft : FT T KW n P w K mg base) (mb : ∀ s ∈ bn, mg (Str.ofString s) = none) (gc : GC w K mg) : FnOk P w K mg base CX0 (n + 2 + 1) a fd ["_law_state"] (spI T (n + 1) K "_law_new") :=
  have nd := (scf_law_new).nd
  fn_ok F scf_law_new T_f_law_new rfl rfl fun cdv A outer s H E hr =>
    (ss_cons (ss_sub hr (se_bin bin_add (se_idx hr (se_var 0) se_int) se_int) (se_var 0) se_int)
      (ss_cons (ss_ret (se_tup (ses_cons se_str (ses_cons (se_bin bin_sub (se_idx hr (se_var 0) se_int) se_int) ses_nil))))
      ss_nil))
end
end Prog

namespace Prog
open PySem PySem.Spec PyProof.Rows L2 Snd
section
variable {P : Program} {w : World} {K : PySem.W.Frag} {mg : Str → Option Value} {base : Heap}
theorem scf_law_top : FnScope ["_law_state", "_law_kind"] ["_law_state", "_law_kind"] (defScope sf_law_top) := ⟨rfl, rfl, rfl, by decide +kernel, rfl, by decide +kernel, by decide +kernel⟩
theorem okf_law_top {n : Nat} {a : Addr} {fd : FuncData} (F : Fun K "_law_top" "_law_top" sf_law_top a fd) (ft : FT T KW n P w K mg base) (mb : ∀ s ∈ bn, mg (Str.ofString s) = none) (gc : GC w K mg) : FnOk P w K mg base CX0 (n + 2 + 1) a fd ["_law_state", "_law_kind"] (spI T (n + 1) K "_law_top") :=
  have nd := (scf_law_top).nd
  fn_ok F scf_law_top T_f_law_top rfl rfl fun cdv A outer s H E hr =>
    (ss_cons (ss_while PassesOwn.never (st_w (sw_and (st_cmp (cmp_eq hr) (se_idx hr (se_var 1) se_int) se_str) (sw_and1 (st_oin hr (se_idx hr (se_var 1) se_int) (se_idx hr (se_var 0) se_int))))) (ss_cons (ss_set 1 nd (se_oidx hr (se_idx hr (se_var 0) se_int) (se_idx hr (se_var 1) se_int)))
      ss_nil))
      (ss_cons (ss_ret (se_var 1))
      ss_nil))
end
end Prog

namespace Prog
open PySem PySem.Spec PyProof.Rows L2 Snd
section
variable {P : Program} {w : World} {K : PySem.W.Frag} {mg : Str → Option Value} {base : Heap}
theorem scf_law_full : FnScope ["_law_state", "_law_kind", "_law_one"] ["_law_state", "_law_kind"] (defScope sf_law_full) := ⟨rfl, rfl, rfl, by decide +kernel, rfl, by decide +kernel, by decide +kernel⟩
theorem okf_law_full {n : Nat} {a : Addr} {fd : FuncData} (F : Fun K "_law_full" "_law_full" sf_law_full a fd) (ft : FT T KW n P w K mg base) (mb : ∀ s ∈ bn, mg (Str.ofString s) = none) (gc : GC w K mg) : FnOk P w K mg base CX0 (n + 2 + 1) a fd ["_law_state", "_law_kind"] (spI T (n + 1) K "_law_full") :=
  have nd := (scf_law_full).nd
  fn_ok F scf_law_full T_f_law_full rfl rfl fun cdv A outer s H E hr =>
    (ss_cons (ss_set 1 nd (se_call ft T_f_law_top hr (ses_cons (se_var 0) (ses_cons (se_var 1) ses_nil))))
      (ss_cons (ss_if (st_cmp (cmp_eq hr) (se_idx hr (se_var 1) se_int) se_str) (ss_cons (ss_ret (se_var 1))
      ss_nil) ss_nil)
      (ss_cons (ss_ret (se_bltT blt_tuple (ses_cons (se_list is_comp (sn_comp [("_law_one", 2)] rfl nd (si_seq (se_var 1)) (blkOk_by (N := ["_law_state", "_law_kind", "_law_one"]) (sc := defScope sf_law_full) (by decide +kernel)) (fun _ _ _ _ _ => (sg_name 2 nd)) (fun _ _ _ _ _ => sc_nil) (fun _ _ _ _ _ => (se_ite (st_val (se_isi (t := .tuple) (se_var 2) (sty_cons (t := .tuple) sty_nil (mb "tuple" (by decide)) bv_tuple) (mb "isinstance" (by decide)))) (se_call ft T_f_law_full hr (ses_cons (se_var 0) (ses_cons (se_var 2) ses_nil))) (se_var 2))))) ses_nil) (mb "tuple" (by decide)) bv_tuple))
      ss_nil)))
end
end Prog

namespace Prog
open PySem PySem.Spec PyProof.Rows L2 Snd
section
variable {P : Program} {w : World} {K : PySem.W.Frag} {mg : Str → Option Value} {base : Heap}
theorem scf_law_frees : FnScope ["_law_kind", "_law_found", "_law_one"] ["_law_kind"] (defScope sf_law_frees) := ⟨rfl, rfl, rfl, by decide +kernel, rfl, by decide +kernel, by decide +kernel⟩
theorem okf_law_frees {n : Nat} {a : Addr} {fd : FuncData} (F : Fun K "_law_frees" "_law_frees" sf_law_frees a fd) (ft : FT T KW n P w K mg base) (mb : ∀ s ∈ bn, mg (Str.ofString s) = none) (gc : GC w K mg) : FnOk P w K mg base CX0 (n + 2 + 1) a fd ["_law_kind"] (spI T (n + 1) K "_law_frees") :=
  have nd := (scf_law_frees).nd
  fn_ok F scf_law_frees T_f_law_frees rfl rfl fun cdv A outer s H E hr =>
    (ss_cons (ss_if (st_cmp (cmp_eq hr) (se_idx hr (se_var 0) se_int) se_str) (ss_cons (ss_ret (se_list is_lst (sn_lst (ses_cons (se_idx hr (se_var 0) se_int) ses_nil))))
      ss_nil) ss_nil)
      (ss_cons (ss_set 1 nd (se_list is_lst (sn_lst ses_nil)))
      (ss_cons (ss_for PassesOwn.never rfl (si_seq (se_call ft T_f_law_within hr (ses_cons (se_var 0) ses_nil))) (sg_name 2 nd) (ss_cons (ss_set 1 nd (se_bin bin_add (se_var 1) (se_call ft T_f_law_frees hr (ses_cons (se_var 2) ses_nil))))
      ss_nil))
      (ss_cons (ss_ret (se_var 1))
      ss_nil))))
end
end Prog

namespace Prog
open PySem PySem.Spec PyProof.Rows L2 Snd
section
variable {P : Program} {w : World} {K : PySem.W.Frag} {mg : Str → Option Value} {base : Heap}
theorem scf_law_solve : FnScope ["_law_state", "_law_one", "_law_other", "_law_k"] ["_law_state"] (defScope sf_law_solve) := ⟨rfl, rfl, rfl, by decide +kernel, rfl, by decide +kernel, by decide +kernel⟩
theorem okf_law_solve {n : Nat} {a : Addr} {fd : FuncData} (F : Fun K "_law_solve" "_law_solve" sf_law_solve a fd) (ft : FT T KW n P w K mg base) (mb : ∀ s ∈ bn, mg (Str.ofString s) = none) (gc : GC w K mg) : FnOk P w K mg base CX0 (n + 2 + 1) a fd ["_law_state"] (spI T (n + 1) K "_law_solve") :=
  have nd := (scf_law_solve).nd
  fn_ok F scf_law_solve T_f_law_solve rfl rfl fun cdv A outer s H E hr =>
    (ss_cons (ss_while PassesOwn.never (st_notnil hr (se_idx hr (se_var 0) se_int)) (ss_cons (ss_asg (se_opop (se_idx hr (se_var 0) se_int)) (sg_tup rfl (sgs_cons (sg_name 1 nd) (sgs_cons (sg_name 2 nd) sgs_nil)) (puts_len _)))
      (ss_cons (ss_asg (se_tup (ses_cons (se_call ft T_f_law_top hr (ses_cons (se_var 0) (ses_cons (se_var 1) ses_nil))) (ses_cons (se_call ft T_f_law_top hr (ses_cons (se_var 0) (ses_cons (se_var 2) ses_nil))) ses_nil))) (sg_tup rfl (sgs_cons (sg_name 1 nd) (sgs_cons (sg_name 2 nd) sgs_nil)) (puts_len _)))
      (ss_cons (ss_if (st_cmp (cmp_ne hr) (se_idx hr (se_var 1) se_int) se_str) (ss_cons (ss_asg (se_tup (ses_cons (se_var 2) (ses_cons (se_var 1) ses_nil))) (sg_tup rfl (sgs_cons (sg_name 1 nd) (sgs_cons (sg_name 2 nd) sgs_nil)) (puts_len _)))
      ss_nil) ss_nil)
      (ss_cons (ss_if (st_cmp (cmp_eq hr) (se_idx hr (se_var 1) se_int) se_str) (ss_cons (ss_if (st_cmp (cmp_ne hr) (se_var 1) (se_var 2)) (ss_cons (ss_if (st_in hr (se_idx hr (se_var 1) se_int) (se_call ft T_f_law_frees hr (ses_cons (se_call ft T_f_law_full hr (ses_cons (se_var 0) (ses_cons (se_var 2) ses_nil))) ses_nil))) (ss_cons (ss_sub hr se_bool (se_var 0) se_int)
      ss_nil) (ss_cons (ss_setO hr (se_var 2) (se_idx hr (se_var 0) se_int) (se_idx hr (se_var 1) se_int))
      ss_nil))
      ss_nil) ss_nil)
      ss_nil) (ss_cons (ss_if (st_w (sw_or (st_cmp (cmp_ne hr) (se_idx hr (se_var 1) se_int) (se_idx hr (se_var 2) se_int)) (sw_or1 (st_w (sw_and (st_cmp (cmp_eq hr) (se_idx hr (se_var 1) se_int) se_str) (sw_and1 (st_cmp (cmp_ne hr) (se_var 1) (se_var 2)))))))) (ss_cons (ss_sub hr se_bool (se_var 0) se_int)
      ss_nil) (ss_cons (ss_ex (se_oextend (se_idx hr (se_var 0) se_int) (se_list is_comp (sn_comp [("_law_k", 3)] rfl nd (si_range2 se_int (se_blt blt_len (ses_cons (se_var 1) ses_nil) (mb "len" (by decide)) bv_len) (mb "range" (by decide))) (blkOk_by (N := ["_law_state", "_law_one", "_law_other", "_law_k"]) (sc := defScope sf_law_solve) (by decide +kernel)) (fun _ _ _ _ _ => (sg_name 3 nd)) (fun _ _ _ _ _ => (sc_one (st_val (se_isi (t := .tuple) (se_idx hr (se_var 1) (se_var 3)) (sty_cons (t := .tuple) sty_nil (mb "tuple" (by decide)) bv_tuple) (mb "isinstance" (by decide)))))) (fun _ _ _ _ _ => (se_tup (ses_cons (se_idx hr (se_var 1) (se_var 3)) (ses_cons (se_idx hr (se_var 2) (se_var 3)) ses_nil))))))))
      ss_nil))
      ss_nil))
      ss_nil)))))
      (ss_cons (ss_ret (se_idx hr (se_var 0) se_int))
      ss_nil))
end
end Prog

namespace Prog
open PySem PySem.Spec PyProof.Rows L2 Snd
section
variable {P : Program} {w : World} {K : PySem.W.Frag} {mg : Str → Option Value} {base : Heap}
theorem scf_law_rows : FnScope ["_law_head", "_law_kind", "_law_parts", "_law_new_here", "_law_one"] ["_law_head", "_law_kind", "_law_parts", "_law_new_here"] (defScope sf_law_rows) := ⟨rfl, rfl, rfl, by decide +kernel, rfl, by decide +kernel, by decide +kernel⟩
theorem okf_law_rows {n : Nat} {a : Addr} {fd : FuncData} (F : Fun K "_law_rows" "_law_rows" sf_law_rows a fd) (ft : FT T KW n P w K mg base) (mb : ∀ s ∈ bn, mg (Str.ofString s) = none) (gc : GC w K mg) : FnOk P w K mg base CX0 (n + 2 + 1) a fd ["_law_head", "_law_kind", "_law_parts", "_law_new_here"] (spI T (n + 1) K "_law_rows") :=
  have nd := (scf_law_rows).nd
  fn_ok F scf_law_rows T_f_law_rows rfl rfl fun cdv A outer s H E hr =>
    (ss_cons (ss_if (st_in hr (se_var 0) (se_list is_lst (sn_lst (ses_cons se_str (ses_cons se_str ses_nil))))) (ss_cons (ss_ret (se_list is_comp (sn_comp [("_law_one", 4)] rfl nd (si_seq (se_bin bin_add (se_list is_lst (sn_lst (ses_cons (se_var 1) ses_nil))) (se_var 2))) (blkOk_by (N := ["_law_head", "_law_kind", "_law_parts", "_law_new_here", "_law_one"]) (sc := defScope sf_law_rows) (by decide +kernel)) (fun _ _ _ _ _ => (sg_name 4 nd)) (fun _ _ _ _ _ => sc_nil) (fun _ _ _ _ _ => (se_tup (ses_cons (se_var 4) (ses_cons (se_tup (ses_cons se_str ses_nil)) ses_nil)))))))
      ss_nil) ss_nil)
      (ss_cons (ss_if (st_in hr (se_var 0) (se_list is_lst (sn_lst (ses_cons se_str (ses_cons se_str ses_nil))))) (ss_cons (ss_ret (se_bin bin_add (se_list is_lst (sn_lst (ses_cons (se_tup (ses_cons (se_var 1) (ses_cons (se_tup (ses_cons se_str ses_nil)) ses_nil))) ses_nil))) (se_list is_comp (sn_comp [("_law_one", 4)] rfl nd (si_seq (se_var 2)) (blkOk_by (N := ["_law_head", "_law_kind", "_law_parts", "_law_new_here", "_law_one"]) (sc := defScope sf_law_rows) (by decide +kernel)) (fun _ _ _ _ _ => (sg_name 4 nd)) (fun _ _ _ _ _ => sc_nil) (fun _ _ _ _ _ => (se_tup (ses_cons (se_var 4) (ses_cons (se_tup (ses_cons se_str ses_nil)) ses_nil))))))))
      ss_nil) ss_nil)
      (ss_cons (ss_if (st_cmp (cmp_eq hr) (se_var 0) se_str) (ss_cons (ss_ret (se_list is_lst (sn_lst (ses_cons (se_tup (ses_cons (se_idx hr (se_var 2) se_int) (ses_cons (se_tup (ses_cons se_str (ses_cons (se_idx hr (se_var 2) se_int) (ses_cons (se_var 1) ses_nil)))) ses_nil))) ses_nil))))
      ss_nil) ss_nil)
      (ss_cons (ss_if (st_cmp (cmp_eq hr) (se_var 0) se_str) (ss_cons (ss_ret (se_list is_lst (sn_lst (ses_cons (se_tup (ses_cons (se_idx hr (se_var 2) se_int) (ses_cons (se_tup (ses_cons se_str ses_nil)) ses_nil))) (ses_cons (se_tup (ses_cons (se_idx hr (se_var 2) se_int) (ses_cons (se_var 1) ses_nil))) (ses_cons (se_tup (ses_cons (se_idx hr (se_var 2) se_int) (ses_cons (se_var 1) ses_nil))) ses_nil))))))
      ss_nil) ss_nil)
      (ss_cons (ss_if (st_cmp (cmp_eq hr) (se_var 0) se_str) (ss_cons (ss_ret (se_list is_lst (sn_lst (ses_cons (se_tup (ses_cons (se_var 1) (ses_cons (se_tup (ses_cons se_str (ses_cons (se_idx hr (se_var 2) se_int) (ses_cons (se_idx hr (se_var 2) se_int) ses_nil)))) ses_nil))) ses_nil))))
      ss_nil) ss_nil)
      (ss_cons (ss_if (st_in hr (se_var 0) (se_list is_lst (sn_lst (ses_cons se_str (ses_cons se_str ses_nil))))) (ss_cons (ss_ret (se_list is_lst (sn_lst (ses_cons (se_tup (ses_cons (se_idx hr (se_var 2) se_int) (ses_cons (se_ite (st_cmp (cmp_eq hr) (se_var 0) se_str) (se_tup (ses_cons se_str (ses_cons (se_var 1) (ses_cons (se_var 3) ses_nil)))) (se_tup (ses_cons se_str (ses_cons (se_var 3) (ses_cons (se_var 1) ses_nil))))) ses_nil))) ses_nil))))
      ss_nil) ss_nil)
      (ss_cons (ss_if (st_cmp (cmp_eq hr) (se_var 0) se_str) (ss_cons (ss_ret (se_list is_lst (sn_lst (ses_cons (se_tup (ses_cons (se_var 1) (ses_cons (se_tup (ses_cons se_str (ses_cons (se_var 3) ses_nil))) ses_nil))) ses_nil))))
      ss_nil) ss_nil)
      (ss_cons (ss_if (st_cmp (cmp_eq hr) (se_var 0) se_str) (ss_cons (ss_ret (se_list is_lst (sn_lst (ses_cons (se_tup (ses_cons (se_var 1) (ses_cons (se_tup (ses_cons se_str (ses_cons (se_idx hr (se_var 2) se_int) ses_nil))) ses_nil))) (ses_cons (se_tup (ses_cons (se_var 1) (ses_cons (se_idx hr (se_var 2) se_int) ses_nil))) ses_nil)))))
      ss_nil) ss_nil)
      (ss_cons (ss_if (st_cmp (cmp_eq hr) (se_var 0) se_str) (ss_cons (ss_ret (se_list is_lst (sn_lst (ses_cons (se_tup (ses_cons (se_idx hr (se_var 2) se_int) (ses_cons (se_tup (ses_cons se_str (ses_cons (se_var 1) ses_nil))) ses_nil))) ses_nil))))
      ss_nil) ss_nil)
      (ss_cons (ss_ret (se_list is_lst (sn_lst (ses_cons (se_tup (ses_cons (se_var 1) (ses_cons (se_ite (st_cmp (cmp_eq hr) (se_var 0) se_str) (se_idx hr (se_var 2) se_int) (se_tup (ses_cons se_str ses_nil))) ses_nil))) (ses_cons (se_tup (ses_cons (se_idx hr (se_var 2) se_int) (ses_cons (se_tup (ses_cons se_str (ses_cons (se_var 3) ses_nil))) ses_nil))) ses_nil)))))
      ss_nil))))))))))
end
end Prog

namespace Prog
open PySem PySem.Spec PyProof.Rows L2 Snd
section
variable {P : Program} {w : World} {K : PySem.W.Frag} {mg : Str → Option Value} {base : Heap}
theorem scf_law_copied : FnScope ["_law_state", "_law_kind", "_law_own", "_law_one"] ["_law_state", "_law_kind", "_law_own"] (defScope sf_law_copied) := ⟨rfl, rfl, rfl, by decide +kernel, rfl, by decide +kernel, by decide +kernel⟩
theorem okf_law_copied {n : Nat} {a : Addr} {fd : FuncData} (F : Fun K "_law_copied" "_law_copied" sf_law_copied a fd) (ft : FT T KW n P w K mg base) (mb : ∀ s ∈ bn, mg (Str.ofString s) = none) (gc : GC w K mg) : FnOk P w K mg base CX0 (n + 2 + 1) a fd ["_law_state", "_law_kind", "_law_own"] (spI T (n + 1) K "_law_copied") :=
  have nd := (scf_law_copied).nd
  fn_ok F scf_law_copied T_f_law_copied rfl rfl fun cdv A outer s H E hr =>
    (ss_cons (ss_if (st_cmp (cmp_eq hr) (se_idx hr (se_var 1) se_int) se_str) (ss_cons (ss_ret (se_get hr (se_var 2) (se_idx hr (se_var 1) se_int) (se_var 1)))
      ss_nil) ss_nil)
      (ss_cons (ss_ret (se_bltT blt_tuple (ses_cons (se_list is_comp (sn_comp [("_law_one", 3)] rfl nd (si_seq (se_var 1)) (blkOk_by (N := ["_law_state", "_law_kind", "_law_own", "_law_one"]) (sc := defScope sf_law_copied) (by decide +kernel)) (fun _ _ _ _ _ => (sg_name 3 nd)) (fun _ _ _ _ _ => sc_nil) (fun _ _ _ _ _ => (se_ite (st_val (se_isi (t := .tuple) (se_var 3) (sty_cons (t := .tuple) sty_nil (mb "tuple" (by decide)) bv_tuple) (mb "isinstance" (by decide)))) (se_call ft T_f_law_copied hr (ses_cons (se_var 0) (ses_cons (se_var 3) (ses_cons (se_var 2) ses_nil)))) (se_var 3))))) ses_nil) (mb "tuple" (by decide)) bv_tuple))
      ss_nil))
end
end Prog

namespace Prog
open PySem PySem.Spec PyProof.Rows L2 Snd
section
variable {P : Program} {w : World} {K : PySem.W.Frag} {mg : Str → Option Value} {base : Heap}
theorem scf_law_walk : FnScope ["_law_state", "_law_part_here", "_law_names", "_law_around", "_law_off", "_law_kind", "_law_rows_here", "_law_parts", "_law_one"] ["_law_state", "_law_part_here", "_law_names", "_law_around"] (defScope sf_law_walk) := ⟨rfl, rfl, rfl, by decide +kernel, rfl, by decide +kernel, by decide +kernel⟩
theorem okf_law_walk {n : Nat} {a : Addr} {fd : FuncData} (F : Fun K "_law_walk" "_law_walk" sf_law_walk a fd) (ft : FT T KW n P w K mg base) (mb : ∀ s ∈ bn, mg (Str.ofString s) = none) (gc : GC w K mg) : FnOk P w K mg base CX0 (n + 2 + 1) a fd ["_law_state", "_law_part_here", "_law_names", "_law_around"] (spI T (n + 1) K "_law_walk") :=
  have nd := (scf_law_walk).nd
  fn_ok F scf_law_walk T_f_law_walk rfl rfl fun cdv A outer s H E hr =>
    (ss_cons (ss_asg (se_call ft T_f_law_bare hr (ses_cons (se_var 1) ses_nil)) (sg_tup rfl (sgs_cons (sg_name 1 nd) (sgs_cons (sg_name 4 nd) sgs_nil)) (puts_len _)))
      (ss_cons (ss_set 5 nd (se_call ft T_f_law_new hr (ses_cons (se_var 0) ses_nil)))
      (ss_cons (ss_ex (se_oappend (se_idx hr (se_var 0) se_int) (se_var 5)))
      (ss_cons (ss_if (st_in hr (se_idx hr (se_var 1) se_int) (se_list is_lst (sn_lst (ses_cons se_str (ses_cons se_str (ses_cons se_str (ses_cons se_str ses_nil))))))) (ss_cons ss_never
      ss_nil) (ss_cons (ss_setLc 7 [("_law_one", 8)] (tI_list is_comp) rfl nd (si_seq (se_call ft T_f_law_within hr (ses_cons (se_var 1) ses_nil))) (blkOk_by (N := ["_law_state", "_law_part_here", "_law_names", "_law_around", "_law_off", "_law_kind", "_law_rows_here", "_law_parts", "_law_one"]) (sc := defScope sf_law_walk) (by decide +kernel)) (fun _ _ _ _ _ => (sg_name 8 nd)) (fun _ _ _ _ _ => sc_nil) (fun _ _ _ _ _ => (se_call ft T_f_law_walk hr (ses_cons (se_var 0) (ses_cons (se_var 8) (ses_cons (se_var 2) (ses_cons (se_var 3) ses_nil)))))) (sw_true rfl rfl rfl (by decide +kernel)))
      (ss_cons (ss_set 6 nd (se_call ft T_f_law_rows hr (ses_cons (se_idx hr (se_var 1) se_int) (ses_cons (se_var 5) (ses_cons (se_var 7) (ses_cons (se_call ft T_f_law_new hr (ses_cons (se_var 0) ses_nil)) ses_nil))))))
      ss_nil)))
      (ss_cons (ss_if (st_not (st_val (se_var 4))) (ss_cons (ss_ex (se_oextend (se_idx hr (se_var 0) se_int) (se_var 6)))
      ss_nil) ss_nil)
      (ss_cons (ss_ret (se_var 5))
      ss_nil))))))
end
end Prog

namespace Prog
open PySem PySem.Spec PyProof.Rows L2 Snd
section
variable {P : Program} {w : World} {K : PySem.W.Frag} {mg : Str → Option Value} {base : Heap}
theorem scf_law_named : FnScope ["_law_kinds", "_law_numbers", "_law_kind", "_law_number"] ["_law_kinds"] (defScope sf_law_named) := ⟨rfl, rfl, rfl, by decide +kernel, rfl, by decide +kernel, by decide +kernel⟩
theorem okf_law_named {n : Nat} {a : Addr} {fd : FuncData} (F : Fun K "_law_named" "_law_named" sf_law_named a fd) (ft : FT T KW n P w K mg base) (mb : ∀ s ∈ bn, mg (Str.ofString s) = none) (gc : GC w K mg) : FnOk P w K mg base CX0 (n + 2 + 1) a fd ["_law_kinds"] (spI T (n + 1) K "_law_named") :=
  have nd := (scf_law_named).nd
  fn_ok F scf_law_named T_f_law_named rfl rfl fun cdv A outer s H E hr =>
    (ss_cons (ss_set 1 nd se_newD)
      (ss_cons (ss_for PassesOwn.never rfl (si_seq (se_var 0)) (sg_name 2 nd) (ss_cons (ss_for PassesOwn.never rfl (si_seq (se_call ft T_f_law_frees hr (ses_cons (se_var 2) ses_nil))) (sg_name 3 nd) (ss_cons (ss_sub hr (se_tup (ses_cons se_str (ses_cons (se_ite (st_in hr (se_var 3) (se_var 1)) (se_idx hr (se_idx hr (se_var 1) (se_var 3)) se_int) (se_blt blt_len (ses_cons (se_var 1) ses_nil) (mb "len" (by decide)) bv_len)) ses_nil))) (se_var 1) (se_var 3))
      ss_nil))
      ss_nil))
      (ss_cons (ss_ret (se_list is_comp (sn_comp [("_law_kind", 2)] rfl nd (si_seq (se_var 0)) (blkOk_by (N := ["_law_kinds", "_law_numbers", "_law_kind", "_law_number"]) (sc := defScope sf_law_named) (by decide +kernel)) (fun _ _ _ _ _ => (sg_name 2 nd)) (fun _ _ _ _ _ => sc_nil) (fun _ _ _ _ _ => (se_call ft T_f_law_copied hr (ses_cons (se_list is_lst (sn_lst ses_nil)) (ses_cons (se_var 2) (ses_cons (se_var 1) ses_nil))))))))
      ss_nil)))
end
end Prog

namespace Prog
open PySem PySem.Spec PyProof.Rows L2 Snd
section
variable {P : Program} {w : World} {K : PySem.W.Frag} {mg : Str → Option Value} {base : Heap}
theorem scf_law_types_of : FnScope ["_law_prog", "_law_state", "_law_kind"] ["_law_prog"] (defScope sf_law_types_of) := ⟨rfl, rfl, rfl, by decide +kernel, rfl, by decide +kernel, by decide +kernel⟩
theorem okf_law_types_of {n : Nat} {a : Addr} {fd : FuncData} (F : Fun K "_law_types_of" "_law_types_of" sf_law_types_of a fd) (ft : FT T KW n P w K mg base) (mb : ∀ s ∈ bn, mg (Str.ofString s) = none) (gc : GC w K mg) : FnOk P w K mg base CX0 (n + 2 + 1) a fd ["_law_prog"] (spI T (n + 1) K "_law_types_of") :=
  have nd := (scf_law_types_of).nd
  fn_ok F scf_law_types_of T_f_law_types_of rfl rfl fun cdv A outer s H E hr =>
    (ss_cons (ss_set 1 nd (se_newL (sn_lst (ses_cons se_newOD (ses_cons se_int (ses_cons (se_newO (sn_lst ses_nil)) (ses_cons (se_newO (sn_lst ses_nil)) (ses_cons se_bool ses_nil))))))))
      (ss_cons (ss_ex (se_call ft T_f_law_walk hr (ses_cons (se_var 1) (ses_cons (se_var 0) (ses_cons se_newD (ses_cons (se_list is_lst (sn_lst ses_nil)) ses_nil))))))
      (ss_cons (ss_if (st_not (st_val (se_call ft T_f_law_solve hr (ses_cons (se_var 1) ses_nil)))) (ss_cons (ss_ret se_non)
      ss_nil) ss_nil)
      (ss_cons (ss_ret (se_call ft T_f_law_named hr (ses_cons (se_list is_compO (sn_compO [("_law_kind", 2)] rfl nd (si_obj (se_idx hr (se_var 1) se_int)) (blkOk_by (N := ["_law_prog", "_law_state", "_law_kind"]) (sc := defScope sf_law_types_of) (by decide +kernel)) (fun _ _ _ _ _ => (sg_name 2 nd)) (fun _ _ _ _ _ => sc_nil) (fun _ _ _ _ _ => (se_call ft T_f_law_full hr (ses_cons (se_var 1) (ses_cons (se_var 2) ses_nil)))))) ses_nil)))
      ss_nil))))
end
end Prog

namespace Prog
open PySem PySem.Spec PyProof.Rows L2 Snd
section
variable {P : Program} {w : World} {K : PySem.W.Frag} {mg : Str → Option Value} {base : Heap}
theorem scf_law_part : FnScope ["_law_bag_here", "_law_some", "_law_part_here"] ["_law_bag_here"] (defScope sf_law_part) := ⟨rfl, rfl, rfl, by decide +kernel, rfl, by decide +kernel, by decide +kernel⟩
theorem okf_law_part {n : Nat} {a : Addr} {fd : FuncData} (F : Fun K "_law_part" "_law_part" sf_law_part a fd) (ft : FT T KW n P w K mg base) (mb : ∀ s ∈ bn, mg (Str.ofString s) = none) (gc : GC w K mg) : FnOk P w K mg base CX0 (n + 2 + 1) a fd ["_law_bag_here"] (spI T (n + 1) K "_law_part") :=
  have nd := (scf_law_part).nd
  fn_ok F scf_law_part T_f_law_part rfl rfl fun cdv A outer s H E hr =>
    (ss_cons (ss_set 1 nd (se_list is_lst (sn_lst (ses_cons (se_tup (ses_cons se_str (ses_cons (se_call ft T_f_law_draw hr (ses_cons (se_var 0) (ses_cons se_int ses_nil))) ses_nil))) (ses_cons (se_tup (ses_cons se_str (ses_cons (se_bin bin_sub se_int (se_call ft T_f_law_draw hr (ses_cons (se_var 0) (ses_cons (se_bin bin_pow se_int se_int) ses_nil)))) ses_nil))) (ses_cons (se_tup (ses_cons se_str (ses_cons se_bool ses_nil))) (ses_cons (se_tup (ses_cons se_str (ses_cons se_bool ses_nil))) ses_nil)))))))
      (ss_cons (ss_set 2 nd (se_idx hr (se_bin bin_add (se_var 1) (se_list is_lst (sn_lst (ses_cons (se_tup (ses_cons se_str ses_nil)) (ses_cons (se_tup (ses_cons se_str (ses_cons (se_tup (ses_cons se_str (ses_cons se_int ses_nil))) (ses_cons (se_tup (ses_cons se_str ses_nil)) ses_nil)))) (ses_cons (se_tup (ses_cons se_str (ses_cons (se_tup (ses_cons se_str ses_nil)) (ses_cons (se_tup (ses_cons se_str (ses_cons se_bool ses_nil))) ses_nil)))) ses_nil)))))) (se_call ft T_f_law_draw hr (ses_cons (se_var 0) (ses_cons se_int ses_nil)))))
      (ss_cons (ss_ret (se_ite (st_cmp (cmp_eq hr) (se_call ft T_f_law_draw hr (ses_cons (se_var 0) (ses_cons se_int ses_nil))) se_int) (se_tup (ses_cons se_str (ses_cons (se_var 2) ses_nil))) (se_var 2)))
      ss_nil)))
end
end Prog

namespace Prog
open PySem PySem.Spec PyProof.Rows L2 Snd
section
variable {P : Program} {w : World} {K : PySem.W.Frag} {mg : Str → Option Value} {base : Heap}
theorem scf_law_single : FnScope ["_law_bag_here", "_law_heads", "_law_k", "_law_parts", "_law_part_here", "_law_j"] ["_law_bag_here"] (defScope sf_law_single) := ⟨rfl, rfl, rfl, by decide +kernel, rfl, by decide +kernel, by decide +kernel⟩
theorem okf_law_single {n : Nat} {a : Addr} {fd : FuncData} (F : Fun K "_law_single" "_law_single" sf_law_single a fd) (ft : FT T KW n P w K mg base) (mb : ∀ s ∈ bn, mg (Str.ofString s) = none) (gc : GC w K mg) : FnOk P w K mg base CX0 (n + 2 + 1) a fd ["_law_bag_here"] (spI T (n + 1) K "_law_single") :=
  have nd := (scf_law_single).nd
  fn_ok F scf_law_single T_f_law_single rfl rfl fun cdv A outer s H E hr =>
    (ss_cons (ss_set 1 nd (se_list is_lst (sn_lst (ses_cons se_str (ses_cons se_str (ses_cons se_str (ses_cons se_str (ses_cons se_str (ses_cons se_str (ses_cons se_str (ses_cons se_str (ses_cons se_str (ses_cons se_str (ses_cons se_str (ses_cons se_str ses_nil)))))))))))))))
      (ss_cons (ss_set 2 nd (se_call ft T_f_law_draw hr (ses_cons (se_var 0) (ses_cons se_int ses_nil))))
      (ss_cons (ss_if (st_cmp (cmp_eq hr) (se_var 2) se_int) (ss_cons (ss_ret (se_call ft T_f_law_part hr (ses_cons (se_var 0) ses_nil)))
      ss_nil) ss_nil)
      (ss_cons (ss_setLc 3 [("_law_j", 5)] (tI_list is_comp) rfl nd (si_range1 (se_idx hr (se_list is_lst (sn_lst (ses_cons se_int (ses_cons se_int (ses_cons se_int ses_nil))))) (se_ite (st_cmp cmp_lt (se_var 2) se_int) (se_bin bin_fdiv (se_bin bin_add (se_var 2) se_int) se_int) se_int)) (mb "range" (by decide))) (blkOk_by (N := ["_law_bag_here", "_law_heads", "_law_k", "_law_parts", "_law_part_here", "_law_j"]) (sc := defScope sf_law_single) (by decide +kernel)) (fun _ _ _ _ _ => (sg_name 5 nd)) (fun _ _ _ _ _ => sc_nil) (fun _ _ _ _ _ => (se_call ft T_f_law_part hr (ses_cons (se_var 0) ses_nil))) (sw_true rfl rfl rfl (by decide +kernel)))
      (ss_cons (ss_set 4 nd (se_bltT blt_tuple (ses_cons (se_bin bin_add (se_list is_lst (sn_lst (ses_cons (se_idx hr (se_var 1) (se_var 2)) ses_nil))) (se_var 3)) ses_nil) (mb "tuple" (by decide)) bv_tuple))
      (ss_cons (ss_ret (se_ite (st_cmp (cmp_eq hr) (se_call ft T_f_law_draw hr (ses_cons (se_var 0) (ses_cons se_int ses_nil))) se_int) (se_tup (ses_cons se_str (ses_cons (se_var 4) ses_nil))) (se_var 4)))
      ss_nil))))))
end
end Prog

namespace Prog
open PySem PySem.Spec PyProof.Rows L2 Snd
section
variable {P : Program} {w : World} {K : PySem.W.Frag} {mg : Str → Option Value} {base : Heap}
theorem scf_law_right : FnScope ["_law_prog", "_law_way", "_law_due", "_law_found"] ["_law_prog", "_law_way"] (defScope sf_law_right) := ⟨rfl, rfl, rfl, by decide +kernel, rfl, by decide +kernel, by decide +kernel⟩
theorem okf_law_right {n : Nat} {a : Addr} {fd : FuncData} (F : Fun K "_law_right" "_law_right" sf_law_right a fd) (ft : FT T KW n P w K mg base) (mb : ∀ s ∈ bn, mg (Str.ofString s) = none) (gc : GC w K mg) : FnOk P w K mg base CX0 (n + 2 + 1) a fd ["_law_prog", "_law_way"] (spI T (n + 1) K "_law_right") :=
  have nd := (scf_law_right).nd
  fn_ok F scf_law_right T_f_law_right rfl rfl fun cdv A outer s H E hr =>
    (ss_cons (ss_set 2 nd (se_call ft T_f_law_types_of hr (ses_cons (se_var 0) ses_nil)))
      (ss_cons (ss_set 3 nd (se_ite (st_cmp (cmp_eq hr) (se_var 1) se_int) (se_call ft T_f_types_of hr (ses_cons (se_var 0) ses_nil)) (se_callK0 (ks := ["program"]) (perm := [0]) ft T_f_types_of (by simp [KW]) hr (sks_cons (se_var 0) sks_nil))))
      (ss_cons (ss_if (st_w (sw_or (st_cmp cmp_is (se_var 2) se_non) (sw_or1 (st_cmp cmp_is (se_var 3) se_non)))) (ss_cons (ss_ret (se_and (se_cmp cmp_is (se_var 2) se_non) (se_and (se_cmp cmp_is (se_var 3) se_non) (se_one (se_cmp cmp_is (se_call ft T_f_typed hr (ses_cons (se_var 0) ses_nil)) se_bool)))))
      ss_nil) ss_nil)
      (ss_cons (ss_if (st_w (sw_or (st_not (st_val (se_call ft T_f_law_alike hr (ses_cons (se_var 3) (ses_cons (se_var 2) ses_nil))))) (sw_or1 (st_cmp cmp_isnot (se_callK0 (ks := ["program"]) (perm := [0]) ft T_f_typed (by simp [KW]) hr (sks_cons (se_var 0) sks_nil)) se_bool)))) (ss_cons (ss_ret se_bool)
      ss_nil) ss_nil)
      (ss_cons (ss_ex (se_append (se_var 3) (se_tup (ses_cons se_str ses_nil))))
      (ss_cons (ss_sub hr (se_tup (ses_cons se_str ses_nil)) (se_var 3) se_int)
      (ss_cons (ss_ret (se_call ft T_f_law_alike hr (ses_cons (se_call ft T_f_types_of hr (ses_cons (se_var 0) ses_nil)) (ses_cons (se_var 2) ses_nil))))
      ss_nil)))))))
end
end Prog

namespace Prog
open PySem PySem.Spec PyProof.Rows L2 Snd
section
variable {P : Program} {w : World} {K : PySem.W.Frag} {mg : Str → Option Value} {base : Heap}
theorem scf_law : FnScope ["_law_script", "_law_bag_here", "_law_k"] ["_law_script"] (defScope sf_law) := ⟨rfl, rfl, rfl, by decide +kernel, rfl, by decide +kernel, by decide +kernel⟩
theorem okf_law {n : Nat} {a : Addr} {fd : FuncData} (F : Fun K "law" "law" sf_law a fd) (ft : FT T KW n P w K mg base) (mb : ∀ s ∈ bn, mg (Str.ofString s) = none) (gc : GC w K mg) : FnOk P w K mg base CX0 (n + 2 + 1) a fd ["_law_script"] (spI T (n + 1) K "law") :=
  have nd := (scf_law).nd
  fn_ok F scf_law T_f_law rfl rfl fun cdv A outer s H E hr =>
    (ss_cons (ss_set 1 nd (se_call ft T_f_law_bag hr (ses_cons (se_var 0) ses_nil)))
      (ss_cons (ss_for PassesOwn.never rfl (si_range1 (se_bin bin_add se_int (se_blt (blt_min rfl) (ses_cons se_int (ses_cons (se_blt blt_len (ses_cons (se_var 0) ses_nil) (mb "len" (by decide)) bv_len) ses_nil)) (mb "min" (by decide)) bv_min)) (mb "range" (by decide))) (sg_name 2 nd) (ss_cons (ss_if (st_not (st_val (se_call ft T_f_law_right hr (ses_cons (se_call ft T_f_law_single hr (ses_cons (se_var 1) ses_nil)) (ses_cons (se_bin bin_mod (se_var 2) se_int) ses_nil))))) (ss_cons (ss_ret se_bool)
      ss_nil) ss_nil)
      ss_nil))
      (ss_cons (ss_ret se_bool)
      ss_nil)))
end
end Prog

namespace Prog
open PySem PySem.Spec PyProof.Rows L2 Snd
set_option maxHeartbeats 8000000 in
theorem ft_all {P : Program} {w : World} {K : PySem.W.Frag} {mg : Str → Option Value} {base : Heap} {a0 : Addr} {fd0 : FuncData} {a1 : Addr} {fd1 : FuncData} {a2 : Addr} {fd2 : FuncData} {a3 : Addr} {fd3 : FuncData} {a4 : Addr} {fd4 : FuncData} {a5 : Addr} {fd5 : FuncData} {a6 : Addr} {fd6 : FuncData} {a7 : Addr} {fd7 : FuncData} {a8 : Addr} {fd8 : FuncData} {a9 : Addr} {fd9 : FuncData} {a10 : Addr} {fd10 : FuncData} {a11 : Addr} {fd11 : FuncData} {a12 : Addr} {fd12 : FuncData} {a13 : Addr} {fd13 : FuncData} {a14 : Addr} {fd14 : FuncData} {a15 : Addr} {fd15 : FuncData} {a16 : Addr} {fd16 : FuncData} {a17 : Addr} {fd17 : FuncData} {a18 : Addr} {fd18 : FuncData} {a19 : Addr} {fd19 : FuncData} {a20 : Addr} {fd20 : FuncData} {a21 : Addr} {fd21 : FuncData} {a22 : Addr} {fd22 : FuncData} {a23 : Addr} {fd23 : FuncData} {a24 : Addr} {fd24 : FuncData} {a25 : Addr} {fd25 : FuncData} {a26 : Addr} {fd26 : FuncData} {a27 : Addr} {fd27 : FuncData} {a28 : Addr} {fd28 : FuncData} {a29 : Addr} {fd29 : FuncData} {a30 : Addr} {fd30 : FuncData} {a31 : Addr} {fd31 : FuncData} {a32 : Addr} {fd32 : FuncData} {a33 : Addr} {fd33 : FuncData} {a34 : Addr} {fd34 : FuncData} {a35 : Addr} {fd35 : FuncData} {a36 : Addr} {fd36 : FuncData} {a37 : Addr} {fd37 : FuncData} {a38 : Addr} {fd38 : FuncData} {a39 : Addr} {fd39 : FuncData} {a40 : Addr} {fd40 : FuncData} {a41 : Addr} {fd41 : FuncData} {a42 : Addr} {fd42 : FuncData} {a43 : Addr} {fd43 : FuncData} {a44 : Addr} {fd44 : FuncData} {a45 : Addr} {fd45 : FuncData} {a46 : Addr} {fd46 : FuncData} {a47 : Addr} {fd47 : FuncData} {a48 : Addr} {fd48 : FuncData} {C_Solver : Addr} {C_Finder : Addr}
    (F0 : Fun K "renamed" "renamed" sf_renamed a0 fd0) (m0 : mg (Str.ofString "renamed") = some (.ref a0)) (b0 : Binds K fd0 ["one", "numbers"] [])
    (F1 : Fun K "named" "named" sf_named a1 fd1) (m1 : mg (Str.ofString "named") = some (.ref a1)) (b1 : Binds K fd1 ["types"] [])
    (F2 : Fun K "inner" "inner" sf_inner a2 fd2) (m2 : mg (Str.ofString "inner") = some (.ref a2)) (b2 : Binds K fd2 ["part"] [])
    (F3 : Fun K "bare" "bare" sf_bare a3 fd3) (m3 : mg (Str.ofString "bare") = some (.ref a3)) (b3 : Binds K fd3 ["part"] [])
    (F4 : Fun K "is_int" "is_int" sf_is_int a4 fd4) (m4 : mg (Str.ofString "is_int") = some (.ref a4)) (b4 : Binds K fd4 ["kind", "parts", "new"] [])
    (F5 : Fun K "is_bool" "is_bool" sf_is_bool a5 fd5) (m5 : mg (Str.ofString "is_bool") = some (.ref a5)) (b5 : Binds K fd5 ["kind", "parts", "new"] [])
    (F6 : Fun K "is_called" "is_called" sf_is_called a6 fd6) (m6 : mg (Str.ofString "is_called") = some (.ref a6)) (b6 : Binds K fd6 ["kind", "parts", "new"] [])
    (F7 : Fun K "is_choice" "is_choice" sf_is_choice a7 fd7) (m7 : mg (Str.ofString "is_choice") = some (.ref a7)) (b7 : Binds K fd7 ["kind", "parts", "new"] [])
    (F8 : Fun K "is_sum" "is_sum" sf_is_sum a8 fd8) (m8 : mg (Str.ofString "is_sum") = some (.ref a8)) (b8 : Binds K fd8 ["kind", "parts", "new"] [])
    (F9 : Fun K "is_less" "is_less" sf_is_less a9 fd9) (m9 : mg (Str.ofString "is_less") = some (.ref a9)) (b9 : Binds K fd9 ["kind", "parts", "new"] [])
    (F10 : Fun K "is_pair" "is_pair" sf_is_pair a10 fd10) (m10 : mg (Str.ofString "is_pair") = some (.ref a10)) (b10 : Binds K fd10 ["kind", "parts", "new"] [])
    (F11 : Fun K "is_first" "is_first" sf_is_first a11 fd11) (m11 : mg (Str.ofString "is_first") = some (.ref a11)) (b11 : Binds K fd11 ["kind", "parts", "new"] [])
    (F12 : Fun K "is_second" "is_second" sf_is_second a12 fd12) (m12 : mg (Str.ofString "is_second") = some (.ref a12)) (b12 : Binds K fd12 ["kind", "parts", "new"] [])
    (F13 : Fun K "is_nil" "is_nil" sf_is_nil a13 fd13) (m13 : mg (Str.ofString "is_nil") = some (.ref a13)) (b13 : Binds K fd13 ["kind", "parts", "new"] [])
    (F14 : Fun K "is_cons" "is_cons" sf_is_cons a14 fd14) (m14 : mg (Str.ofString "is_cons") = some (.ref a14)) (b14 : Binds K fd14 ["kind", "parts", "new"] [])
    (F15 : Fun K "is_head" "is_head" sf_is_head a15 fd15) (m15 : mg (Str.ofString "is_head") = some (.ref a15)) (b15 : Binds K fd15 ["kind", "parts", "new"] [])
    (F16 : Fun K "is_tail" "is_tail" sf_is_tail a16 fd16) (m16 : mg (Str.ofString "is_tail") = some (.ref a16)) (b16 : Binds K fd16 ["kind", "parts", "new"] [])
    (F17 : Fun K "is_none" "is_none" sf_is_none a17 fd17) (m17 : mg (Str.ofString "is_none") = some (.ref a17)) (b17 : Binds K fd17 ["kind", "parts", "new"] [])
    (F18 : Fun K "__init__" "Solver.__init__" sf_Solver___init__ a18 fd18) (m18 : Meth K C_Solver (Str.ofString "__init__") a18) (b18 : Binds K fd18 ["self"] [])
    (F19 : Fun K "fresh" "Solver.fresh" sf_Solver_fresh a19 fd19) (m19 : Meth K C_Solver (Str.ofString "fresh") a19) (b19 : Binds K fd19 ["self"] [])
    (F20 : Fun K "seen" "Solver.seen" sf_Solver_seen a20 fd20) (m20 : Meth K C_Solver (Str.ofString "seen") a20) (b20 : Binds K fd20 ["self", "kind"] [])
    (F21 : Fun K "has" "Solver.has" sf_Solver_has a21 fd21) (m21 : Meth K C_Solver (Str.ofString "has") a21) (b21 : Binds K fd21 ["self", "kind", "number"] [])
    (F22 : Fun K "unite" "Solver.unite" sf_Solver_unite a22 fd22) (m22 : Meth K C_Solver (Str.ofString "unite") a22) (b22 : Binds K fd22 ["self", "one", "other"] [])
    (F23 : Fun K "hold" "Solver.hold" sf_Solver_hold a23 fd23) (m23 : Meth K C_Solver (Str.ofString "hold") a23) (b23 : Binds K fd23 ["self", "rows"] [])
    (F24 : Fun K "filled" "Solver.filled" sf_Solver_filled a24 fd24) (m24 : Meth K C_Solver (Str.ofString "filled") a24) (b24 : Binds K fd24 ["self", "kind"] [])
    (F25 : Fun K "__init__" "Finder.__init__" sf_Finder___init__ a25 fd25) (m25 : Meth K C_Finder (Str.ofString "__init__") a25) (b25 : Binds K fd25 ["self"] [])
    (F26 : Fun K "visit" "Finder.visit" sf_Finder_visit a26 fd26) (m26 : Meth K C_Finder (Str.ofString "visit") a26) (b26 : Binds K fd26 ["self", "part", "names", "around"] [])
    (F27 : Fun K "types_of" "types_of" sf_types_of a27 fd27) (m27 : mg (Str.ofString "types_of") = some (.ref a27)) (b27 : Binds K fd27 ["program"] [])
    (F28 : Fun K "typed" "typed" sf_typed a28 fd28) (m28 : mg (Str.ofString "typed") = some (.ref a28)) (b28 : Binds K fd28 ["program"] [])
    (F29 : Fun K "_law_bag" "_law_bag" sf_law_bag a29 fd29) (m29 : mg (Str.ofString "_law_bag") = some (.ref a29)) (b29 : Binds K fd29 ["_law_script"] [])
    (F30 : Fun K "_law_stirred" "_law_stirred" sf_law_stirred a30 fd30) (m30 : mg (Str.ofString "_law_stirred") = some (.ref a30)) (b30 : Binds K fd30 ["_law_bag_here", "_law_many"] [])
    (F31 : Fun K "_law_draw" "_law_draw" sf_law_draw a31 fd31) (m31 : mg (Str.ofString "_law_draw") = some (.ref a31)) (b31 : Binds K fd31 ["_law_bag_here", "_law_many"] [])
    (F32 : Fun K "_law_alike" "_law_alike" sf_law_alike a32 fd32) (m32 : mg (Str.ofString "_law_alike") = some (.ref a32)) (b32 : Binds K fd32 ["_law_found", "_law_due"] [])
    (F33 : Fun K "_law_within" "_law_within" sf_law_within a33 fd33) (m33 : mg (Str.ofString "_law_within") = some (.ref a33)) (b33 : Binds K fd33 ["_law_part_here"] [])
    (F34 : Fun K "_law_bare" "_law_bare" sf_law_bare a34 fd34) (m34 : mg (Str.ofString "_law_bare") = some (.ref a34)) (b34 : Binds K fd34 ["_law_part_here"] [])
    (F35 : Fun K "_law_new" "_law_new" sf_law_new a35 fd35) (m35 : mg (Str.ofString "_law_new") = some (.ref a35)) (b35 : Binds K fd35 ["_law_state"] [])
    (F36 : Fun K "_law_top" "_law_top" sf_law_top a36 fd36) (m36 : mg (Str.ofString "_law_top") = some (.ref a36)) (b36 : Binds K fd36 ["_law_state", "_law_kind"] [])
    (F37 : Fun K "_law_full" "_law_full" sf_law_full a37 fd37) (m37 : mg (Str.ofString "_law_full") = some (.ref a37)) (b37 : Binds K fd37 ["_law_state", "_law_kind"] [])
    (F38 : Fun K "_law_frees" "_law_frees" sf_law_frees a38 fd38) (m38 : mg (Str.ofString "_law_frees") = some (.ref a38)) (b38 : Binds K fd38 ["_law_kind"] [])
    (F39 : Fun K "_law_solve" "_law_solve" sf_law_solve a39 fd39) (m39 : mg (Str.ofString "_law_solve") = some (.ref a39)) (b39 : Binds K fd39 ["_law_state"] [])
    (F40 : Fun K "_law_rows" "_law_rows" sf_law_rows a40 fd40) (m40 : mg (Str.ofString "_law_rows") = some (.ref a40)) (b40 : Binds K fd40 ["_law_head", "_law_kind", "_law_parts", "_law_new_here"] [])
    (F41 : Fun K "_law_copied" "_law_copied" sf_law_copied a41 fd41) (m41 : mg (Str.ofString "_law_copied") = some (.ref a41)) (b41 : Binds K fd41 ["_law_state", "_law_kind", "_law_own"] [])
    (F42 : Fun K "_law_walk" "_law_walk" sf_law_walk a42 fd42) (m42 : mg (Str.ofString "_law_walk") = some (.ref a42)) (b42 : Binds K fd42 ["_law_state", "_law_part_here", "_law_names", "_law_around"] [])
    (F43 : Fun K "_law_named" "_law_named" sf_law_named a43 fd43) (m43 : mg (Str.ofString "_law_named") = some (.ref a43)) (b43 : Binds K fd43 ["_law_kinds"] [])
    (F44 : Fun K "_law_types_of" "_law_types_of" sf_law_types_of a44 fd44) (m44 : mg (Str.ofString "_law_types_of") = some (.ref a44)) (b44 : Binds K fd44 ["_law_prog"] [])
    (F45 : Fun K "_law_part" "_law_part" sf_law_part a45 fd45) (m45 : mg (Str.ofString "_law_part") = some (.ref a45)) (b45 : Binds K fd45 ["_law_bag_here"] [])
    (F46 : Fun K "_law_single" "_law_single" sf_law_single a46 fd46) (m46 : mg (Str.ofString "_law_single") = some (.ref a46)) (b46 : Binds K fd46 ["_law_bag_here"] [])
    (F47 : Fun K "_law_right" "_law_right" sf_law_right a47 fd47) (m47 : mg (Str.ofString "_law_right") = some (.ref a47)) (b47 : Binds K fd47 ["_law_prog", "_law_way"] [])
    (F48 : Fun K "law" "law" sf_law a48 fd48) (m48 : mg (Str.ofString "law") = some (.ref a48)) (b48 : Binds K fd48 ["_law_script"] [])
    (cn_Solver : CN K "Solver" C_Solver) (cl_Solver : Cls K C_Solver) (mk_Solver : Mk K C_Solver a18) (mc_Solver : mg (Str.ofString "Solver") = some (.ref C_Solver))
    (cn_Finder : CN K "Finder" C_Finder) (cl_Finder : Cls K C_Finder) (mk_Finder : Mk K C_Finder a25) (mc_Finder : mg (Str.ofString "Finder") = some (.ref C_Finder))
    (kw0 : KwOk K fd27 ["program"] ("types_of", 0, ["program"], [0], []))
    (kw1 : KwOk K fd28 ["program"] ("typed", 0, ["program"], [0], []))
    (mb : ∀ s ∈ bn, mg (Str.ofString s) = none) (gc : GC w K mg) : ∀ n : Nat, FT T KW n P w K mg base :=
  ft_ind (tab := tab) ⟨
    .df rfl rfl (fun n ih => okf_renamed F0 ih mb gc) m0 F0.kp b0 (kw_no (by decide)),
    .df rfl rfl (fun n ih => okf_named F1 ih mb gc) m1 F1.kp b1 (kw_no (by decide)),
    .df rfl rfl (fun n ih => okf_inner F2 ih mb gc) m2 F2.kp b2 (kw_no (by decide)),
    .df rfl rfl (fun n ih => okf_bare F3 ih mb gc) m3 F3.kp b3 (kw_no (by decide)),
    .df rfl rfl (fun n ih => okf_is_int F4 ih mb gc) m4 F4.kp b4 (kw_no (by decide)),
    .df rfl rfl (fun n ih => okf_is_bool F5 ih mb gc) m5 F5.kp b5 (kw_no (by decide)),
    .df rfl rfl (fun n ih => okf_is_called F6 ih mb gc) m6 F6.kp b6 (kw_no (by decide)),
    .df rfl rfl (fun n ih => okf_is_choice F7 ih mb gc) m7 F7.kp b7 (kw_no (by decide)),
    .df rfl rfl (fun n ih => okf_is_sum F8 ih mb gc) m8 F8.kp b8 (kw_no (by decide)),
    .df rfl rfl (fun n ih => okf_is_less F9 ih mb gc) m9 F9.kp b9 (kw_no (by decide)),
    .df rfl rfl (fun n ih => okf_is_pair F10 ih mb gc) m10 F10.kp b10 (kw_no (by decide)),
    .df rfl rfl (fun n ih => okf_is_first F11 ih mb gc) m11 F11.kp b11 (kw_no (by decide)),
    .df rfl rfl (fun n ih => okf_is_second F12 ih mb gc) m12 F12.kp b12 (kw_no (by decide)),
    .df rfl rfl (fun n ih => okf_is_nil F13 ih mb gc) m13 F13.kp b13 (kw_no (by decide)),
    .df rfl rfl (fun n ih => okf_is_cons F14 ih mb gc) m14 F14.kp b14 (kw_no (by decide)),
    .df rfl rfl (fun n ih => okf_is_head F15 ih mb gc) m15 F15.kp b15 (kw_no (by decide)),
    .df rfl rfl (fun n ih => okf_is_tail F16 ih mb gc) m16 F16.kp b16 (kw_no (by decide)),
    .df rfl rfl (fun n ih => okf_is_none F17 ih mb gc) m17 F17.kp b17 (kw_no (by decide)),
    .mt (c := "Solver") (m := "__init__") rfl rfl (fun n ih => okf_Solver___init__ F18 ih mb gc) cn_Solver cl_Solver m18 b18,
    .mt (c := "Solver") (m := "fresh") rfl rfl (fun n ih => okf_Solver_fresh F19 ih mb gc) cn_Solver cl_Solver m19 b19,
    .mt (c := "Solver") (m := "seen") rfl rfl (fun n ih => okf_Solver_seen F20 ih mb gc) cn_Solver cl_Solver m20 b20,
    .mt (c := "Solver") (m := "has") rfl rfl (fun n ih => okf_Solver_has F21 ih mb gc) cn_Solver cl_Solver m21 b21,
    .mt (c := "Solver") (m := "unite") rfl rfl (fun n ih => okf_Solver_unite F22 ih mb gc) cn_Solver cl_Solver m22 b22,
    .mt (c := "Solver") (m := "hold") rfl rfl (fun n ih => okf_Solver_hold F23 ih mb gc) cn_Solver cl_Solver m23 b23,
    .mt (c := "Solver") (m := "filled") rfl rfl (fun n ih => okf_Solver_filled F24 ih mb gc) cn_Solver cl_Solver m24 b24,
    .mt (c := "Finder") (m := "__init__") rfl rfl (fun n ih => okf_Finder___init__ F25 ih mb gc) cn_Finder cl_Finder m25 b25,
    .mt (c := "Finder") (m := "visit") rfl rfl (fun n ih => okf_Finder_visit F26 ih mb gc) cn_Finder cl_Finder m26 b26,
    .df rfl rfl (fun n ih => okf_types_of F27 ih mb gc) m27 F27.kp b27 (kw_hd kw0 (kw_tl (by decide) (fun q hq => nomatch hq))),
    .df rfl rfl (fun n ih => okf_typed F28 ih mb gc) m28 F28.kp b28 (kw_tl (by decide) (kw_hd kw1 (fun q hq => nomatch hq))),
    .df rfl rfl (fun n ih => okf_law_bag F29 ih mb gc) m29 F29.kp b29 (kw_no (by decide)),
    .df rfl rfl (fun n ih => okf_law_stirred F30 ih mb gc) m30 F30.kp b30 (kw_no (by decide)),
    .df rfl rfl (fun n ih => okf_law_draw F31 ih mb gc) m31 F31.kp b31 (kw_no (by decide)),
    .df rfl rfl (fun n ih => okf_law_alike F32 ih mb gc) m32 F32.kp b32 (kw_no (by decide)),
    .df rfl rfl (fun n ih => okf_law_within F33 ih mb gc) m33 F33.kp b33 (kw_no (by decide)),
    .df rfl rfl (fun n ih => okf_law_bare F34 ih mb gc) m34 F34.kp b34 (kw_no (by decide)),
    .df rfl rfl (fun n ih => okf_law_new F35 ih mb gc) m35 F35.kp b35 (kw_no (by decide)),
    .df rfl rfl (fun n ih => okf_law_top F36 ih mb gc) m36 F36.kp b36 (kw_no (by decide)),
    .df rfl rfl (fun n ih => okf_law_full F37 ih mb gc) m37 F37.kp b37 (kw_no (by decide)),
    .df rfl rfl (fun n ih => okf_law_frees F38 ih mb gc) m38 F38.kp b38 (kw_no (by decide)),
    .df rfl rfl (fun n ih => okf_law_solve F39 ih mb gc) m39 F39.kp b39 (kw_no (by decide)),
    .df rfl rfl (fun n ih => okf_law_rows F40 ih mb gc) m40 F40.kp b40 (kw_no (by decide)),
    .df rfl rfl (fun n ih => okf_law_copied F41 ih mb gc) m41 F41.kp b41 (kw_no (by decide)),
    .df rfl rfl (fun n ih => okf_law_walk F42 ih mb gc) m42 F42.kp b42 (kw_no (by decide)),
    .df rfl rfl (fun n ih => okf_law_named F43 ih mb gc) m43 F43.kp b43 (kw_no (by decide)),
    .df rfl rfl (fun n ih => okf_law_types_of F44 ih mb gc) m44 F44.kp b44 (kw_no (by decide)),
    .df rfl rfl (fun n ih => okf_law_part F45 ih mb gc) m45 F45.kp b45 (kw_no (by decide)),
    .df rfl rfl (fun n ih => okf_law_single F46 ih mb gc) m46 F46.kp b46 (kw_no (by decide)),
    .df rfl rfl (fun n ih => okf_law_right F47 ih mb gc) m47 F47.kp b47 (kw_no (by decide)),
    .df rfl rfl (fun n ih => okf_law F48 ih mb gc) m48 F48.kp b48 (kw_no (by decide)),
    .ct (ci := "Solver.__init__") rfl (by simp) (fun n ih => okf_Solver___init__ F18 ih mb gc) mc_Solver cn_Solver mk_Solver b18 (by simp [ctorFn, f_Solver, List.range, List.range.loop]),
    .ct (ci := "Finder.__init__") rfl (by simp) (fun n ih => okf_Finder___init__ F25 ih mb gc) mc_Finder cn_Finder mk_Finder b25 (by simp [ctorFn, f_Finder, List.range, List.range.loop]),
    trivial⟩
def spLaw (n : Nat) (K : PySem.W.Frag) : Sp := spI T n K "law"
set_option maxHeartbeats 8000000 in
theorem all_mk {l : PySem.W.OpenLaw} {w : World} {K : PySem.W.Frag} {h : Heap} {mg : Str → Option Value} {fa f0 f1 f2 f3 f4 f5 f6 f7 f8 f9 f10 f11 f12 f13 f14 f15 f16 f17 f18 f19 f20 f21 f22 f23 f24 f25 f26 f27 f28 f29 f30 f31 f32 f33 f34 f35 f36 f37 f38 f39 f40 f41 f42 f43 f44 f45 f46 f47 f48 : Addr} (X : K.In h) (G : h.Ns mainGlobals mg) (hfa : mg "law" = some (.ref fa))
    {ga_INT : Addr} {gd_INT : Option Addr} {gu_INT : List Value} {gn_INT : Nat} {gs_INT : Array (Option Value)} {ga_BOOL : Addr} {gd_BOOL : Option Addr} {gu_BOOL : List Value} {gn_BOOL : Nat} {gs_BOOL : Array (Option Value)} {ga_ALONE : Addr} {gd_ALONE : Option Addr} {gu_ALONE : List Value} {gn_ALONE : Nat} {gs_ALONE : Array (Option Value)} {ga_RULES : Addr} {ge_RULES : Array DictEntry} {gn_RULES : Nat}  {C_Solver : Addr} {C_Finder : Addr}   
    {od0 an0 od1 an1 od2 an2 od3 an3 od4 an4 od5 an5 od6 an6 od7 an7 od8 an8 od9 an9 od10 an10 od11 an11 od12 an12 od13 an13 od14 an14 od15 an15 od16 an16 od17 an17 od18 an18 od19 an19 od20 an20 od21 an21 od22 an22 od23 an23 od24 an24 od25 an25 od26 an26 od27 an27 od28 an28 od29 an29 od30 an30 od31 an31 od32 an32 od33 an33 od34 an34 od35 an35 od36 an36 od37 an37 od38 an38 od39 an39 od40 an40 od41 an41 od42 an42 od43 an43 od44 an44 od45 an45 od46 an46 od47 an47 od48 an48 : Option Addr} {sl0 sl1 sl2 sl3 sl4 sl5 sl6 sl7 sl8 sl9 sl10 sl11 sl12 sl13 sl14 sl15 sl16 sl17 sl18 sl19 sl20 sl21 sl22 sl23 sl24 sl25 sl26 sl27 sl28 sl29 sl30 sl31 sl32 sl33 sl34 sl35 sl36 sl37 sl38 sl39 sl40 sl41 sl42 sl43 sl44 sl45 sl46 sl47 sl48 : Array (Option Value)} {oc0 kV0 dc0 pm0 cd0 ct0 oc1 kV1 dc1 pm1 cd1 ct1 oc2 kV2 dc2 pm2 cd2 ct2 oc3 kV3 dc3 pm3 cd3 ct3 oc4 kV4 dc4 pm4 cd4 ct4 oc5 kV5 dc5 pm5 cd5 ct5 oc6 kV6 dc6 pm6 cd6 ct6 oc7 kV7 dc7 pm7 cd7 ct7 oc8 kV8 dc8 pm8 cd8 ct8 oc9 kV9 dc9 pm9 cd9 ct9 oc10 kV10 dc10 pm10 cd10 ct10 oc11 kV11 dc11 pm11 cd11 ct11 oc12 kV12 dc12 pm12 cd12 ct12 oc13 kV13 dc13 pm13 cd13 ct13 oc14 kV14 dc14 pm14 cd14 ct14 oc15 kV15 dc15 pm15 cd15 ct15 oc16 kV16 dc16 pm16 cd16 ct16 oc17 kV17 dc17 pm17 cd17 ct17 oc18 kV18 dc18 pm18 cd18 ct18 oc19 kV19 dc19 pm19 cd19 ct19 oc20 kV20 dc20 pm20 cd20 ct20 oc21 kV21 dc21 pm21 cd21 ct21 oc22 kV22 dc22 pm22 cd22 ct22 oc23 kV23 dc23 pm23 cd23 ct23 oc24 kV24 dc24 pm24 cd24 ct24 oc25 kV25 dc25 pm25 cd25 ct25 oc26 kV26 dc26 pm26 cd26 ct26 oc27 kV27 dc27 pm27 cd27 ct27 oc28 kV28 dc28 pm28 cd28 ct28 oc29 kV29 dc29 pm29 cd29 ct29 oc30 kV30 dc30 pm30 cd30 ct30 oc31 kV31 dc31 pm31 cd31 ct31 oc32 kV32 dc32 pm32 cd32 ct32 oc33 kV33 dc33 pm33 cd33 ct33 oc34 kV34 dc34 pm34 cd34 ct34 oc35 kV35 dc35 pm35 cd35 ct35 oc36 kV36 dc36 pm36 cd36 ct36 oc37 kV37 dc37 pm37 cd37 ct37 oc38 kV38 dc38 pm38 cd38 ct38 oc39 kV39 dc39 pm39 cd39 ct39 oc40 kV40 dc40 pm40 cd40 ct40 oc41 kV41 dc41 pm41 cd41 ct41 oc42 kV42 dc42 pm42 cd42 ct42 oc43 kV43 dc43 pm43 cd43 ct43 oc44 kV44 dc44 pm44 cd44 ct44 oc45 kV45 dc45 pm45 cd45 ct45 oc46 kV46 dc46 pm46 cd46 ct46 oc47 kV47 dc47 pm47 cd47 ct47 oc48 kV48 dc48 pm48 cd48 ct48 : Value}
    (ka_Solver : PySem.W.nsIn K mainGlobals "Solver" = some (some (.ref C_Solver))) (kp_Solver : PySem.W.plainGet K C_Solver Str.empty = true) (kh_Solver : PySem.W.hasDictIn K C_Solver = true) (ko_Solver : PySem.W.plainOver K C_Solver = true) (ks_Solver : PySem.W.findIn K (.ref C_Solver) "__setattr__" = some (some (.builtin "object.__setattr__"))) (km_Solver : PySem.W.makesIn K C_Solver = true) (kk_Solver : PySem.W.keepIn K (.ref C_Solver) = true) (kn_Solver_bound : PySem.W.findIn K (.ref C_Solver) "bound" = some none) (kn_Solver_many : PySem.W.findIn K (.ref C_Solver) "many" = some none) (ka_Finder : PySem.W.nsIn K mainGlobals "Finder" = some (some (.ref C_Finder))) (kp_Finder : PySem.W.plainGet K C_Finder Str.empty = true) (kh_Finder : PySem.W.hasDictIn K C_Finder = true) (ko_Finder : PySem.W.plainOver K C_Finder = true) (ks_Finder : PySem.W.findIn K (.ref C_Finder) "__setattr__" = some (some (.builtin "object.__setattr__"))) (km_Finder : PySem.W.makesIn K C_Finder = true) (kk_Finder : PySem.W.keepIn K (.ref C_Finder) = true) (kn_Finder_solver : PySem.W.findIn K (.ref C_Finder) "solver" = some none) (kn_Finder_given : PySem.W.findIn K (.ref C_Finder) "given" = some none) (kn_Finder_good : PySem.W.findIn K (.ref C_Finder) "good" = some none)
    (x0 : PySem.W.nsIn K mainGlobals "renamed" = some (some (.ref f0))) (l0 : K.lookup f0 = some ⟨oc0, od0, .func (PySem.W.fnOf "renamed" "renamed" (defArgs sf_renamed) (defBody sf_renamed) (defScope sf_renamed) .none kV0 dc0 pm0 an0 cd0 ct0), sl0⟩) (c0 : PySem.W.codeIn K cd0 "renamed" = true) (k0 : PySem.W.keepIn K (.ref f0) = true)
    (x1 : PySem.W.nsIn K mainGlobals "named" = some (some (.ref f1))) (l1 : K.lookup f1 = some ⟨oc1, od1, .func (PySem.W.fnOf "named" "named" (defArgs sf_named) (defBody sf_named) (defScope sf_named) .none kV1 dc1 pm1 an1 cd1 ct1), sl1⟩) (c1 : PySem.W.codeIn K cd1 "named" = true) (k1 : PySem.W.keepIn K (.ref f1) = true)
    (x2 : PySem.W.nsIn K mainGlobals "inner" = some (some (.ref f2))) (l2 : K.lookup f2 = some ⟨oc2, od2, .func (PySem.W.fnOf "inner" "inner" (defArgs sf_inner) (defBody sf_inner) (defScope sf_inner) .none kV2 dc2 pm2 an2 cd2 ct2), sl2⟩) (c2 : PySem.W.codeIn K cd2 "inner" = true) (k2 : PySem.W.keepIn K (.ref f2) = true)
    (x3 : PySem.W.nsIn K mainGlobals "bare" = some (some (.ref f3))) (l3 : K.lookup f3 = some ⟨oc3, od3, .func (PySem.W.fnOf "bare" "bare" (defArgs sf_bare) (defBody sf_bare) (defScope sf_bare) .none kV3 dc3 pm3 an3 cd3 ct3), sl3⟩) (c3 : PySem.W.codeIn K cd3 "bare" = true) (k3 : PySem.W.keepIn K (.ref f3) = true)
    (x4 : PySem.W.nsIn K mainGlobals "is_int" = some (some (.ref f4))) (l4 : K.lookup f4 = some ⟨oc4, od4, .func (PySem.W.fnOf "is_int" "is_int" (defArgs sf_is_int) (defBody sf_is_int) (defScope sf_is_int) .none kV4 dc4 pm4 an4 cd4 ct4), sl4⟩) (c4 : PySem.W.codeIn K cd4 "is_int" = true) (k4 : PySem.W.keepIn K (.ref f4) = true)
    (x5 : PySem.W.nsIn K mainGlobals "is_bool" = some (some (.ref f5))) (l5 : K.lookup f5 = some ⟨oc5, od5, .func (PySem.W.fnOf "is_bool" "is_bool" (defArgs sf_is_bool) (defBody sf_is_bool) (defScope sf_is_bool) .none kV5 dc5 pm5 an5 cd5 ct5), sl5⟩) (c5 : PySem.W.codeIn K cd5 "is_bool" = true) (k5 : PySem.W.keepIn K (.ref f5) = true)
    (x6 : PySem.W.nsIn K mainGlobals "is_called" = some (some (.ref f6))) (l6 : K.lookup f6 = some ⟨oc6, od6, .func (PySem.W.fnOf "is_called" "is_called" (defArgs sf_is_called) (defBody sf_is_called) (defScope sf_is_called) .none kV6 dc6 pm6 an6 cd6 ct6), sl6⟩) (c6 : PySem.W.codeIn K cd6 "is_called" = true) (k6 : PySem.W.keepIn K (.ref f6) = true)
    (x7 : PySem.W.nsIn K mainGlobals "is_choice" = some (some (.ref f7))) (l7 : K.lookup f7 = some ⟨oc7, od7, .func (PySem.W.fnOf "is_choice" "is_choice" (defArgs sf_is_choice) (defBody sf_is_choice) (defScope sf_is_choice) .none kV7 dc7 pm7 an7 cd7 ct7), sl7⟩) (c7 : PySem.W.codeIn K cd7 "is_choice" = true) (k7 : PySem.W.keepIn K (.ref f7) = true)
    (x8 : PySem.W.nsIn K mainGlobals "is_sum" = some (some (.ref f8))) (l8 : K.lookup f8 = some ⟨oc8, od8, .func (PySem.W.fnOf "is_sum" "is_sum" (defArgs sf_is_sum) (defBody sf_is_sum) (defScope sf_is_sum) .none kV8 dc8 pm8 an8 cd8 ct8), sl8⟩) (c8 : PySem.W.codeIn K cd8 "is_sum" = true) (k8 : PySem.W.keepIn K (.ref f8) = true)
    (x9 : PySem.W.nsIn K mainGlobals "is_less" = some (some (.ref f9))) (l9 : K.lookup f9 = some ⟨oc9, od9, .func (PySem.W.fnOf "is_less" "is_less" (defArgs sf_is_less) (defBody sf_is_less) (defScope sf_is_less) .none kV9 dc9 pm9 an9 cd9 ct9), sl9⟩) (c9 : PySem.W.codeIn K cd9 "is_less" = true) (k9 : PySem.W.keepIn K (.ref f9) = true)
    (x10 : PySem.W.nsIn K mainGlobals "is_pair" = some (some (.ref f10))) (l10 : K.lookup f10 = some ⟨oc10, od10, .func (PySem.W.fnOf "is_pair" "is_pair" (defArgs sf_is_pair) (defBody sf_is_pair) (defScope sf_is_pair) .none kV10 dc10 pm10 an10 cd10 ct10), sl10⟩) (c10 : PySem.W.codeIn K cd10 "is_pair" = true) (k10 : PySem.W.keepIn K (.ref f10) = true)
    (x11 : PySem.W.nsIn K mainGlobals "is_first" = some (some (.ref f11))) (l11 : K.lookup f11 = some ⟨oc11, od11, .func (PySem.W.fnOf "is_first" "is_first" (defArgs sf_is_first) (defBody sf_is_first) (defScope sf_is_first) .none kV11 dc11 pm11 an11 cd11 ct11), sl11⟩) (c11 : PySem.W.codeIn K cd11 "is_first" = true) (k11 : PySem.W.keepIn K (.ref f11) = true)
    (x12 : PySem.W.nsIn K mainGlobals "is_second" = some (some (.ref f12))) (l12 : K.lookup f12 = some ⟨oc12, od12, .func (PySem.W.fnOf "is_second" "is_second" (defArgs sf_is_second) (defBody sf_is_second) (defScope sf_is_second) .none kV12 dc12 pm12 an12 cd12 ct12), sl12⟩) (c12 : PySem.W.codeIn K cd12 "is_second" = true) (k12 : PySem.W.keepIn K (.ref f12) = true)
    (x13 : PySem.W.nsIn K mainGlobals "is_nil" = some (some (.ref f13))) (l13 : K.lookup f13 = some ⟨oc13, od13, .func (PySem.W.fnOf "is_nil" "is_nil" (defArgs sf_is_nil) (defBody sf_is_nil) (defScope sf_is_nil) .none kV13 dc13 pm13 an13 cd13 ct13), sl13⟩) (c13 : PySem.W.codeIn K cd13 "is_nil" = true) (k13 : PySem.W.keepIn K (.ref f13) = true)
    (x14 : PySem.W.nsIn K mainGlobals "is_cons" = some (some (.ref f14))) (l14 : K.lookup f14 = some ⟨oc14, od14, .func (PySem.W.fnOf "is_cons" "is_cons" (defArgs sf_is_cons) (defBody sf_is_cons) (defScope sf_is_cons) .none kV14 dc14 pm14 an14 cd14 ct14), sl14⟩) (c14 : PySem.W.codeIn K cd14 "is_cons" = true) (k14 : PySem.W.keepIn K (.ref f14) = true)
    (x15 : PySem.W.nsIn K mainGlobals "is_head" = some (some (.ref f15))) (l15 : K.lookup f15 = some ⟨oc15, od15, .func (PySem.W.fnOf "is_head" "is_head" (defArgs sf_is_head) (defBody sf_is_head) (defScope sf_is_head) .none kV15 dc15 pm15 an15 cd15 ct15), sl15⟩) (c15 : PySem.W.codeIn K cd15 "is_head" = true) (k15 : PySem.W.keepIn K (.ref f15) = true)
    (x16 : PySem.W.nsIn K mainGlobals "is_tail" = some (some (.ref f16))) (l16 : K.lookup f16 = some ⟨oc16, od16, .func (PySem.W.fnOf "is_tail" "is_tail" (defArgs sf_is_tail) (defBody sf_is_tail) (defScope sf_is_tail) .none kV16 dc16 pm16 an16 cd16 ct16), sl16⟩) (c16 : PySem.W.codeIn K cd16 "is_tail" = true) (k16 : PySem.W.keepIn K (.ref f16) = true)
    (x17 : PySem.W.nsIn K mainGlobals "is_none" = some (some (.ref f17))) (l17 : K.lookup f17 = some ⟨oc17, od17, .func (PySem.W.fnOf "is_none" "is_none" (defArgs sf_is_none) (defBody sf_is_none) (defScope sf_is_none) .none kV17 dc17 pm17 an17 cd17 ct17), sl17⟩) (c17 : PySem.W.codeIn K cd17 "is_none" = true) (k17 : PySem.W.keepIn K (.ref f17) = true)
    (x18 : PySem.W.findIn K (.ref C_Solver) "__init__" = some (some (.ref f18))) (i18 : PySem.W.isFn K (.ref f18) = true) (l18 : K.lookup f18 = some ⟨oc18, od18, .func (PySem.W.fnOf "__init__" "Solver.__init__" (defArgs sf_Solver___init__) (defBody sf_Solver___init__) (defScope sf_Solver___init__) .none kV18 dc18 pm18 an18 cd18 ct18), sl18⟩) (c18 : PySem.W.codeIn K cd18 "Solver.__init__" = true) (k18 : PySem.W.keepIn K (.ref f18) = true)
    (x19 : PySem.W.findIn K (.ref C_Solver) "fresh" = some (some (.ref f19))) (i19 : PySem.W.isFn K (.ref f19) = true) (l19 : K.lookup f19 = some ⟨oc19, od19, .func (PySem.W.fnOf "fresh" "Solver.fresh" (defArgs sf_Solver_fresh) (defBody sf_Solver_fresh) (defScope sf_Solver_fresh) .none kV19 dc19 pm19 an19 cd19 ct19), sl19⟩) (c19 : PySem.W.codeIn K cd19 "Solver.fresh" = true) (k19 : PySem.W.keepIn K (.ref f19) = true)
    (x20 : PySem.W.findIn K (.ref C_Solver) "seen" = some (some (.ref f20))) (i20 : PySem.W.isFn K (.ref f20) = true) (l20 : K.lookup f20 = some ⟨oc20, od20, .func (PySem.W.fnOf "seen" "Solver.seen" (defArgs sf_Solver_seen) (defBody sf_Solver_seen) (defScope sf_Solver_seen) .none kV20 dc20 pm20 an20 cd20 ct20), sl20⟩) (c20 : PySem.W.codeIn K cd20 "Solver.seen" = true) (k20 : PySem.W.keepIn K (.ref f20) = true)
    (x21 : PySem.W.findIn K (.ref C_Solver) "has" = some (some (.ref f21))) (i21 : PySem.W.isFn K (.ref f21) = true) (l21 : K.lookup f21 = some ⟨oc21, od21, .func (PySem.W.fnOf "has" "Solver.has" (defArgs sf_Solver_has) (defBody sf_Solver_has) (defScope sf_Solver_has) .none kV21 dc21 pm21 an21 cd21 ct21), sl21⟩) (c21 : PySem.W.codeIn K cd21 "Solver.has" = true) (k21 : PySem.W.keepIn K (.ref f21) = true)
    (x22 : PySem.W.findIn K (.ref C_Solver) "unite" = some (some (.ref f22))) (i22 : PySem.W.isFn K (.ref f22) = true) (l22 : K.lookup f22 = some ⟨oc22, od22, .func (PySem.W.fnOf "unite" "Solver.unite" (defArgs sf_Solver_unite) (defBody sf_Solver_unite) (defScope sf_Solver_unite) .none kV22 dc22 pm22 an22 cd22 ct22), sl22⟩) (c22 : PySem.W.codeIn K cd22 "Solver.unite" = true) (k22 : PySem.W.keepIn K (.ref f22) = true)
    (x23 : PySem.W.findIn K (.ref C_Solver) "hold" = some (some (.ref f23))) (i23 : PySem.W.isFn K (.ref f23) = true) (l23 : K.lookup f23 = some ⟨oc23, od23, .func (PySem.W.fnOf "hold" "Solver.hold" (defArgs sf_Solver_hold) (defBody sf_Solver_hold) (defScope sf_Solver_hold) .none kV23 dc23 pm23 an23 cd23 ct23), sl23⟩) (c23 : PySem.W.codeIn K cd23 "Solver.hold" = true) (k23 : PySem.W.keepIn K (.ref f23) = true)
    (x24 : PySem.W.findIn K (.ref C_Solver) "filled" = some (some (.ref f24))) (i24 : PySem.W.isFn K (.ref f24) = true) (l24 : K.lookup f24 = some ⟨oc24, od24, .func (PySem.W.fnOf "filled" "Solver.filled" (defArgs sf_Solver_filled) (defBody sf_Solver_filled) (defScope sf_Solver_filled) .none kV24 dc24 pm24 an24 cd24 ct24), sl24⟩) (c24 : PySem.W.codeIn K cd24 "Solver.filled" = true) (k24 : PySem.W.keepIn K (.ref f24) = true)
    (x25 : PySem.W.findIn K (.ref C_Finder) "__init__" = some (some (.ref f25))) (i25 : PySem.W.isFn K (.ref f25) = true) (l25 : K.lookup f25 = some ⟨oc25, od25, .func (PySem.W.fnOf "__init__" "Finder.__init__" (defArgs sf_Finder___init__) (defBody sf_Finder___init__) (defScope sf_Finder___init__) .none kV25 dc25 pm25 an25 cd25 ct25), sl25⟩) (c25 : PySem.W.codeIn K cd25 "Finder.__init__" = true) (k25 : PySem.W.keepIn K (.ref f25) = true)
    (x26 : PySem.W.findIn K (.ref C_Finder) "visit" = some (some (.ref f26))) (i26 : PySem.W.isFn K (.ref f26) = true) (l26 : K.lookup f26 = some ⟨oc26, od26, .func (PySem.W.fnOf "visit" "Finder.visit" (defArgs sf_Finder_visit) (defBody sf_Finder_visit) (defScope sf_Finder_visit) .none kV26 dc26 pm26 an26 cd26 ct26), sl26⟩) (c26 : PySem.W.codeIn K cd26 "Finder.visit" = true) (k26 : PySem.W.keepIn K (.ref f26) = true)
    (x27 : PySem.W.nsIn K mainGlobals "types_of" = some (some (.ref f27))) (l27 : K.lookup f27 = some ⟨oc27, od27, .func (PySem.W.fnOf "types_of" "types_of" (defArgs sf_types_of) (defBody sf_types_of) (defScope sf_types_of) .none kV27 dc27 pm27 an27 cd27 ct27), sl27⟩) (c27 : PySem.W.codeIn K cd27 "types_of" = true) (k27 : PySem.W.keepIn K (.ref f27) = true)
    (x28 : PySem.W.nsIn K mainGlobals "typed" = some (some (.ref f28))) (l28 : K.lookup f28 = some ⟨oc28, od28, .func (PySem.W.fnOf "typed" "typed" (defArgs sf_typed) (defBody sf_typed) (defScope sf_typed) .none kV28 dc28 pm28 an28 cd28 ct28), sl28⟩) (c28 : PySem.W.codeIn K cd28 "typed" = true) (k28 : PySem.W.keepIn K (.ref f28) = true)
    (x29 : PySem.W.nsIn K mainGlobals "_law_bag" = some (some (.ref f29))) (l29 : K.lookup f29 = some ⟨oc29, od29, .func (PySem.W.fnOf "_law_bag" "_law_bag" (defArgs sf_law_bag) (defBody sf_law_bag) (defScope sf_law_bag) .none kV29 dc29 pm29 an29 cd29 ct29), sl29⟩) (c29 : PySem.W.codeIn K cd29 "_law_bag" = true) (k29 : PySem.W.keepIn K (.ref f29) = true)
    (x30 : PySem.W.nsIn K mainGlobals "_law_stirred" = some (some (.ref f30))) (l30 : K.lookup f30 = some ⟨oc30, od30, .func (PySem.W.fnOf "_law_stirred" "_law_stirred" (defArgs sf_law_stirred) (defBody sf_law_stirred) (defScope sf_law_stirred) .none kV30 dc30 pm30 an30 cd30 ct30), sl30⟩) (c30 : PySem.W.codeIn K cd30 "_law_stirred" = true) (k30 : PySem.W.keepIn K (.ref f30) = true)
    (x31 : PySem.W.nsIn K mainGlobals "_law_draw" = some (some (.ref f31))) (l31 : K.lookup f31 = some ⟨oc31, od31, .func (PySem.W.fnOf "_law_draw" "_law_draw" (defArgs sf_law_draw) (defBody sf_law_draw) (defScope sf_law_draw) .none kV31 dc31 pm31 an31 cd31 ct31), sl31⟩) (c31 : PySem.W.codeIn K cd31 "_law_draw" = true) (k31 : PySem.W.keepIn K (.ref f31) = true)
    (x32 : PySem.W.nsIn K mainGlobals "_law_alike" = some (some (.ref f32))) (l32 : K.lookup f32 = some ⟨oc32, od32, .func (PySem.W.fnOf "_law_alike" "_law_alike" (defArgs sf_law_alike) (defBody sf_law_alike) (defScope sf_law_alike) .none kV32 dc32 pm32 an32 cd32 ct32), sl32⟩) (c32 : PySem.W.codeIn K cd32 "_law_alike" = true) (k32 : PySem.W.keepIn K (.ref f32) = true)
    (x33 : PySem.W.nsIn K mainGlobals "_law_within" = some (some (.ref f33))) (l33 : K.lookup f33 = some ⟨oc33, od33, .func (PySem.W.fnOf "_law_within" "_law_within" (defArgs sf_law_within) (defBody sf_law_within) (defScope sf_law_within) .none kV33 dc33 pm33 an33 cd33 ct33), sl33⟩) (c33 : PySem.W.codeIn K cd33 "_law_within" = true) (k33 : PySem.W.keepIn K (.ref f33) = true)
    (x34 : PySem.W.nsIn K mainGlobals "_law_bare" = some (some (.ref f34))) (l34 : K.lookup f34 = some ⟨oc34, od34, .func (PySem.W.fnOf "_law_bare" "_law_bare" (defArgs sf_law_bare) (defBody sf_law_bare) (defScope sf_law_bare) .none kV34 dc34 pm34 an34 cd34 ct34), sl34⟩) (c34 : PySem.W.codeIn K cd34 "_law_bare" = true) (k34 : PySem.W.keepIn K (.ref f34) = true)
    (x35 : PySem.W.nsIn K mainGlobals "_law_new" = some (some (.ref f35))) (l35 : K.lookup f35 = some ⟨oc35, od35, .func (PySem.W.fnOf "_law_new" "_law_new" (defArgs sf_law_new) (defBody sf_law_new) (defScope sf_law_new) .none kV35 dc35 pm35 an35 cd35 ct35), sl35⟩) (c35 : PySem.W.codeIn K cd35 "_law_new" = true) (k35 : PySem.W.keepIn K (.ref f35) = true)
    (x36 : PySem.W.nsIn K mainGlobals "_law_top" = some (some (.ref f36))) (l36 : K.lookup f36 = some ⟨oc36, od36, .func (PySem.W.fnOf "_law_top" "_law_top" (defArgs sf_law_top) (defBody sf_law_top) (defScope sf_law_top) .none kV36 dc36 pm36 an36 cd36 ct36), sl36⟩) (c36 : PySem.W.codeIn K cd36 "_law_top" = true) (k36 : PySem.W.keepIn K (.ref f36) = true)
    (x37 : PySem.W.nsIn K mainGlobals "_law_full" = some (some (.ref f37))) (l37 : K.lookup f37 = some ⟨oc37, od37, .func (PySem.W.fnOf "_law_full" "_law_full" (defArgs sf_law_full) (defBody sf_law_full) (defScope sf_law_full) .none kV37 dc37 pm37 an37 cd37 ct37), sl37⟩) (c37 : PySem.W.codeIn K cd37 "_law_full" = true) (k37 : PySem.W.keepIn K (.ref f37) = true)
    (x38 : PySem.W.nsIn K mainGlobals "_law_frees" = some (some (.ref f38))) (l38 : K.lookup f38 = some ⟨oc38, od38, .func (PySem.W.fnOf "_law_frees" "_law_frees" (defArgs sf_law_frees) (defBody sf_law_frees) (defScope sf_law_frees) .none kV38 dc38 pm38 an38 cd38 ct38), sl38⟩) (c38 : PySem.W.codeIn K cd38 "_law_frees" = true) (k38 : PySem.W.keepIn K (.ref f38) = true)
    (x39 : PySem.W.nsIn K mainGlobals "_law_solve" = some (some (.ref f39))) (l39 : K.lookup f39 = some ⟨oc39, od39, .func (PySem.W.fnOf "_law_solve" "_law_solve" (defArgs sf_law_solve) (defBody sf_law_solve) (defScope sf_law_solve) .none kV39 dc39 pm39 an39 cd39 ct39), sl39⟩) (c39 : PySem.W.codeIn K cd39 "_law_solve" = true) (k39 : PySem.W.keepIn K (.ref f39) = true)
    (x40 : PySem.W.nsIn K mainGlobals "_law_rows" = some (some (.ref f40))) (l40 : K.lookup f40 = some ⟨oc40, od40, .func (PySem.W.fnOf "_law_rows" "_law_rows" (defArgs sf_law_rows) (defBody sf_law_rows) (defScope sf_law_rows) .none kV40 dc40 pm40 an40 cd40 ct40), sl40⟩) (c40 : PySem.W.codeIn K cd40 "_law_rows" = true) (k40 : PySem.W.keepIn K (.ref f40) = true)
    (x41 : PySem.W.nsIn K mainGlobals "_law_copied" = some (some (.ref f41))) (l41 : K.lookup f41 = some ⟨oc41, od41, .func (PySem.W.fnOf "_law_copied" "_law_copied" (defArgs sf_law_copied) (defBody sf_law_copied) (defScope sf_law_copied) .none kV41 dc41 pm41 an41 cd41 ct41), sl41⟩) (c41 : PySem.W.codeIn K cd41 "_law_copied" = true) (k41 : PySem.W.keepIn K (.ref f41) = true)
    (x42 : PySem.W.nsIn K mainGlobals "_law_walk" = some (some (.ref f42))) (l42 : K.lookup f42 = some ⟨oc42, od42, .func (PySem.W.fnOf "_law_walk" "_law_walk" (defArgs sf_law_walk) (defBody sf_law_walk) (defScope sf_law_walk) .none kV42 dc42 pm42 an42 cd42 ct42), sl42⟩) (c42 : PySem.W.codeIn K cd42 "_law_walk" = true) (k42 : PySem.W.keepIn K (.ref f42) = true)
    (x43 : PySem.W.nsIn K mainGlobals "_law_named" = some (some (.ref f43))) (l43 : K.lookup f43 = some ⟨oc43, od43, .func (PySem.W.fnOf "_law_named" "_law_named" (defArgs sf_law_named) (defBody sf_law_named) (defScope sf_law_named) .none kV43 dc43 pm43 an43 cd43 ct43), sl43⟩) (c43 : PySem.W.codeIn K cd43 "_law_named" = true) (k43 : PySem.W.keepIn K (.ref f43) = true)
    (x44 : PySem.W.nsIn K mainGlobals "_law_types_of" = some (some (.ref f44))) (l44 : K.lookup f44 = some ⟨oc44, od44, .func (PySem.W.fnOf "_law_types_of" "_law_types_of" (defArgs sf_law_types_of) (defBody sf_law_types_of) (defScope sf_law_types_of) .none kV44 dc44 pm44 an44 cd44 ct44), sl44⟩) (c44 : PySem.W.codeIn K cd44 "_law_types_of" = true) (k44 : PySem.W.keepIn K (.ref f44) = true)
    (x45 : PySem.W.nsIn K mainGlobals "_law_part" = some (some (.ref f45))) (l45 : K.lookup f45 = some ⟨oc45, od45, .func (PySem.W.fnOf "_law_part" "_law_part" (defArgs sf_law_part) (defBody sf_law_part) (defScope sf_law_part) .none kV45 dc45 pm45 an45 cd45 ct45), sl45⟩) (c45 : PySem.W.codeIn K cd45 "_law_part" = true) (k45 : PySem.W.keepIn K (.ref f45) = true)
    (x46 : PySem.W.nsIn K mainGlobals "_law_single" = some (some (.ref f46))) (l46 : K.lookup f46 = some ⟨oc46, od46, .func (PySem.W.fnOf "_law_single" "_law_single" (defArgs sf_law_single) (defBody sf_law_single) (defScope sf_law_single) .none kV46 dc46 pm46 an46 cd46 ct46), sl46⟩) (c46 : PySem.W.codeIn K cd46 "_law_single" = true) (k46 : PySem.W.keepIn K (.ref f46) = true)
    (x47 : PySem.W.nsIn K mainGlobals "_law_right" = some (some (.ref f47))) (l47 : K.lookup f47 = some ⟨oc47, od47, .func (PySem.W.fnOf "_law_right" "_law_right" (defArgs sf_law_right) (defBody sf_law_right) (defScope sf_law_right) .none kV47 dc47 pm47 an47 cd47 ct47), sl47⟩) (c47 : PySem.W.codeIn K cd47 "_law_right" = true) (k47 : PySem.W.keepIn K (.ref f47) = true)
    (x48 : PySem.W.nsIn K mainGlobals "law" = some (some (.ref f48))) (l48 : K.lookup f48 = some ⟨oc48, od48, .func (PySem.W.fnOf "law" "law" (defArgs sf_law) (defBody sf_law) (defScope sf_law) .none kV48 dc48 pm48 an48 cd48 ct48), sl48⟩) (c48 : PySem.W.codeIn K cd48 "law" = true) (k48 : PySem.W.keepIn K (.ref f48) = true)
     
    (g_INT : PySem.W.nsIn K mainGlobals "INT" = some (some (.ref ga_INT))) (gl_INT : K.lookup ga_INT = some ⟨.type "tuple", gd_INT, .seq gu_INT.toArray gn_INT, gs_INT⟩) (gz_INT : gu_INT.length ≤ sizeLine) (gk_INT : KVs K [.str "int"] gu_INT) (g_BOOL : PySem.W.nsIn K mainGlobals "BOOL" = some (some (.ref ga_BOOL))) (gl_BOOL : K.lookup ga_BOOL = some ⟨.type "tuple", gd_BOOL, .seq gu_BOOL.toArray gn_BOOL, gs_BOOL⟩) (gz_BOOL : gu_BOOL.length ≤ sizeLine) (gk_BOOL : KVs K [.str "bool"] gu_BOOL) (g_ALONE : PySem.W.nsIn K mainGlobals "ALONE" = some (some (.ref ga_ALONE))) (gl_ALONE : K.lookup ga_ALONE = some ⟨.type "tuple", gd_ALONE, .seq gu_ALONE.toArray gn_ALONE, gs_ALONE⟩) (gz_ALONE : gu_ALONE.length ≤ sizeLine) (gk_ALONE : KVs K [.str "int", .str "bool", .str "rigid"] gu_ALONE) (g_RULES : PySem.W.nsIn K mainGlobals "RULES" = some (some (.ref ga_RULES))) (gl_RULES : K.lookup ga_RULES = some ⟨.type "dict", none, .dict ge_RULES gn_RULES, #[]⟩) (gk_RULES : KEs K w.params [("num", .fn "is_int"), ("truth", .fn "is_bool"), ("call", .fn "is_called"), ("if", .fn "is_choice"), ("plus", .fn "is_sum"), ("less", .fn "is_less"), ("pair", .fn "is_pair"), ("first", .fn "is_first"), ("second", .fn "is_second"), ("nil", .fn "is_nil"), ("cons", .fn "is_cons"), ("head", .fn "is_head"), ("tail", .fn "is_tail"), ("none", .fn "is_none")] ge_RULES.toList) (go_RULES : (ga_RULES == sysModules) = false)
    (z0 : PySem.W.nsIn K mainGlobals "abs" = some none) (z1 : PySem.W.nsIn K mainGlobals "all" = some none) (z2 : PySem.W.nsIn K mainGlobals "any" = some none) (z3 : PySem.W.nsIn K mainGlobals "bool" = some none) (z4 : PySem.W.nsIn K mainGlobals "int" = some none) (z5 : PySem.W.nsIn K mainGlobals "isinstance" = some none) (z6 : PySem.W.nsIn K mainGlobals "len" = some none) (z7 : PySem.W.nsIn K mainGlobals "list" = some none) (z8 : PySem.W.nsIn K mainGlobals "min" = some none) (z9 : PySem.W.nsIn K mainGlobals "range" = some none) (z10 : PySem.W.nsIn K mainGlobals "str" = some none) (z11 : PySem.W.nsIn K mainGlobals "tuple" = some none) (z12 : PySem.W.nsIn K mainGlobals "zip" = some none) :
    ∃ fd : FuncData, (∀ (s : Shared) (v : Value), BindsTo s fd ⟨[v], []⟩ [("_law_script", v)]) ∧ ∀ base : Heap, K.In base → base.Ns mainGlobals mg → FnOk l.prog w K mg base CX0 102 fa fd ["_law_script"] (spLaw 100 K) := by
  have e := hfa.symm.trans (PySem.W.mg_of X G x48)
  cases e
  have F0 := fun_mk (st := sf_renamed) l0 c0 k0
  have b0 := F0.binds (ps := ["one", "numbers"]) fun _ _ _ _ _ _ us hl => match us, hl with | [_, _], _ => rfl
  have F1 := fun_mk (st := sf_named) l1 c1 k1
  have b1 := F1.binds (ps := ["types"]) fun _ _ _ _ _ _ us hl => match us, hl with | [_], _ => rfl
  have F2 := fun_mk (st := sf_inner) l2 c2 k2
  have b2 := F2.binds (ps := ["part"]) fun _ _ _ _ _ _ us hl => match us, hl with | [_], _ => rfl
  have F3 := fun_mk (st := sf_bare) l3 c3 k3
  have b3 := F3.binds (ps := ["part"]) fun _ _ _ _ _ _ us hl => match us, hl with | [_], _ => rfl
  have F4 := fun_mk (st := sf_is_int) l4 c4 k4
  have b4 := F4.binds (ps := ["kind", "parts", "new"]) fun _ _ _ _ _ _ us hl => match us, hl with | [_, _, _], _ => rfl
  have F5 := fun_mk (st := sf_is_bool) l5 c5 k5
  have b5 := F5.binds (ps := ["kind", "parts", "new"]) fun _ _ _ _ _ _ us hl => match us, hl with | [_, _, _], _ => rfl
  have F6 := fun_mk (st := sf_is_called) l6 c6 k6
  have b6 := F6.binds (ps := ["kind", "parts", "new"]) fun _ _ _ _ _ _ us hl => match us, hl with | [_, _, _], _ => rfl
  have F7 := fun_mk (st := sf_is_choice) l7 c7 k7
  have b7 := F7.binds (ps := ["kind", "parts", "new"]) fun _ _ _ _ _ _ us hl => match us, hl with | [_, _, _], _ => rfl
  have F8 := fun_mk (st := sf_is_sum) l8 c8 k8
  have b8 := F8.binds (ps := ["kind", "parts", "new"]) fun _ _ _ _ _ _ us hl => match us, hl with | [_, _, _], _ => rfl
  have F9 := fun_mk (st := sf_is_less) l9 c9 k9
  have b9 := F9.binds (ps := ["kind", "parts", "new"]) fun _ _ _ _ _ _ us hl => match us, hl with | [_, _, _], _ => rfl
  have F10 := fun_mk (st := sf_is_pair) l10 c10 k10
  have b10 := F10.binds (ps := ["kind", "parts", "new"]) fun _ _ _ _ _ _ us hl => match us, hl with | [_, _, _], _ => rfl
  have F11 := fun_mk (st := sf_is_first) l11 c11 k11
  have b11 := F11.binds (ps := ["kind", "parts", "new"]) fun _ _ _ _ _ _ us hl => match us, hl with | [_, _, _], _ => rfl
  have F12 := fun_mk (st := sf_is_second) l12 c12 k12
  have b12 := F12.binds (ps := ["kind", "parts", "new"]) fun _ _ _ _ _ _ us hl => match us, hl with | [_, _, _], _ => rfl
  have F13 := fun_mk (st := sf_is_nil) l13 c13 k13
  have b13 := F13.binds (ps := ["kind", "parts", "new"]) fun _ _ _ _ _ _ us hl => match us, hl with | [_, _, _], _ => rfl
  have F14 := fun_mk (st := sf_is_cons) l14 c14 k14
  have b14 := F14.binds (ps := ["kind", "parts", "new"]) fun _ _ _ _ _ _ us hl => match us, hl with | [_, _, _], _ => rfl
  have F15 := fun_mk (st := sf_is_head) l15 c15 k15
  have b15 := F15.binds (ps := ["kind", "parts", "new"]) fun _ _ _ _ _ _ us hl => match us, hl with | [_, _, _], _ => rfl
  have F16 := fun_mk (st := sf_is_tail) l16 c16 k16
  have b16 := F16.binds (ps := ["kind", "parts", "new"]) fun _ _ _ _ _ _ us hl => match us, hl with | [_, _, _], _ => rfl
  have F17 := fun_mk (st := sf_is_none) l17 c17 k17
  have b17 := F17.binds (ps := ["kind", "parts", "new"]) fun _ _ _ _ _ _ us hl => match us, hl with | [_, _, _], _ => rfl
  have F18 := fun_mk (st := sf_Solver___init__) l18 c18 k18
  have b18 := F18.binds (ps := ["self"]) fun _ _ _ _ _ _ us hl => match us, hl with | [_], _ => rfl
  have F19 := fun_mk (st := sf_Solver_fresh) l19 c19 k19
  have b19 := F19.binds (ps := ["self"]) fun _ _ _ _ _ _ us hl => match us, hl with | [_], _ => rfl
  have F20 := fun_mk (st := sf_Solver_seen) l20 c20 k20
  have b20 := F20.binds (ps := ["self", "kind"]) fun _ _ _ _ _ _ us hl => match us, hl with | [_, _], _ => rfl
  have F21 := fun_mk (st := sf_Solver_has) l21 c21 k21
  have b21 := F21.binds (ps := ["self", "kind", "number"]) fun _ _ _ _ _ _ us hl => match us, hl with | [_, _, _], _ => rfl
  have F22 := fun_mk (st := sf_Solver_unite) l22 c22 k22
  have b22 := F22.binds (ps := ["self", "one", "other"]) fun _ _ _ _ _ _ us hl => match us, hl with | [_, _, _], _ => rfl
  have F23 := fun_mk (st := sf_Solver_hold) l23 c23 k23
  have b23 := F23.binds (ps := ["self", "rows"]) fun _ _ _ _ _ _ us hl => match us, hl with | [_, _], _ => rfl
  have F24 := fun_mk (st := sf_Solver_filled) l24 c24 k24
  have b24 := F24.binds (ps := ["self", "kind"]) fun _ _ _ _ _ _ us hl => match us, hl with | [_, _], _ => rfl
  have F25 := fun_mk (st := sf_Finder___init__) l25 c25 k25
  have b25 := F25.binds (ps := ["self"]) fun _ _ _ _ _ _ us hl => match us, hl with | [_], _ => rfl
  have F26 := fun_mk (st := sf_Finder_visit) l26 c26 k26
  have b26 := F26.binds (ps := ["self", "part", "names", "around"]) fun _ _ _ _ _ _ us hl => match us, hl with | [_, _, _, _], _ => rfl
  have F27 := fun_mk (st := sf_types_of) l27 c27 k27
  have b27 := F27.binds (ps := ["program"]) fun _ _ _ _ _ _ us hl => match us, hl with | [_], _ => rfl
  have F28 := fun_mk (st := sf_typed) l28 c28 k28
  have b28 := F28.binds (ps := ["program"]) fun _ _ _ _ _ _ us hl => match us, hl with | [_], _ => rfl
  have F29 := fun_mk (st := sf_law_bag) l29 c29 k29
  have b29 := F29.binds (ps := ["_law_script"]) fun _ _ _ _ _ _ us hl => match us, hl with | [_], _ => rfl
  have F30 := fun_mk (st := sf_law_stirred) l30 c30 k30
  have b30 := F30.binds (ps := ["_law_bag_here", "_law_many"]) fun _ _ _ _ _ _ us hl => match us, hl with | [_, _], _ => rfl
  have F31 := fun_mk (st := sf_law_draw) l31 c31 k31
  have b31 := F31.binds (ps := ["_law_bag_here", "_law_many"]) fun _ _ _ _ _ _ us hl => match us, hl with | [_, _], _ => rfl
  have F32 := fun_mk (st := sf_law_alike) l32 c32 k32
  have b32 := F32.binds (ps := ["_law_found", "_law_due"]) fun _ _ _ _ _ _ us hl => match us, hl with | [_, _], _ => rfl
  have F33 := fun_mk (st := sf_law_within) l33 c33 k33
  have b33 := F33.binds (ps := ["_law_part_here"]) fun _ _ _ _ _ _ us hl => match us, hl with | [_], _ => rfl
  have F34 := fun_mk (st := sf_law_bare) l34 c34 k34
  have b34 := F34.binds (ps := ["_law_part_here"]) fun _ _ _ _ _ _ us hl => match us, hl with | [_], _ => rfl
  have F35 := fun_mk (st := sf_law_new) l35 c35 k35
  have b35 := F35.binds (ps := ["_law_state"]) fun _ _ _ _ _ _ us hl => match us, hl with | [_], _ => rfl
  have F36 := fun_mk (st := sf_law_top) l36 c36 k36
  have b36 := F36.binds (ps := ["_law_state", "_law_kind"]) fun _ _ _ _ _ _ us hl => match us, hl with | [_, _], _ => rfl
  have F37 := fun_mk (st := sf_law_full) l37 c37 k37
  have b37 := F37.binds (ps := ["_law_state", "_law_kind"]) fun _ _ _ _ _ _ us hl => match us, hl with | [_, _], _ => rfl
  have F38 := fun_mk (st := sf_law_frees) l38 c38 k38
  have b38 := F38.binds (ps := ["_law_kind"]) fun _ _ _ _ _ _ us hl => match us, hl with | [_], _ => rfl
  have F39 := fun_mk (st := sf_law_solve) l39 c39 k39
  have b39 := F39.binds (ps := ["_law_state"]) fun _ _ _ _ _ _ us hl => match us, hl with | [_], _ => rfl
  have F40 := fun_mk (st := sf_law_rows) l40 c40 k40
  have b40 := F40.binds (ps := ["_law_head", "_law_kind", "_law_parts", "_law_new_here"]) fun _ _ _ _ _ _ us hl => match us, hl with | [_, _, _, _], _ => rfl
  have F41 := fun_mk (st := sf_law_copied) l41 c41 k41
  have b41 := F41.binds (ps := ["_law_state", "_law_kind", "_law_own"]) fun _ _ _ _ _ _ us hl => match us, hl with | [_, _, _], _ => rfl
  have F42 := fun_mk (st := sf_law_walk) l42 c42 k42
  have b42 := F42.binds (ps := ["_law_state", "_law_part_here", "_law_names", "_law_around"]) fun _ _ _ _ _ _ us hl => match us, hl with | [_, _, _, _], _ => rfl
  have F43 := fun_mk (st := sf_law_named) l43 c43 k43
  have b43 := F43.binds (ps := ["_law_kinds"]) fun _ _ _ _ _ _ us hl => match us, hl with | [_], _ => rfl
  have F44 := fun_mk (st := sf_law_types_of) l44 c44 k44
  have b44 := F44.binds (ps := ["_law_prog"]) fun _ _ _ _ _ _ us hl => match us, hl with | [_], _ => rfl
  have F45 := fun_mk (st := sf_law_part) l45 c45 k45
  have b45 := F45.binds (ps := ["_law_bag_here"]) fun _ _ _ _ _ _ us hl => match us, hl with | [_], _ => rfl
  have F46 := fun_mk (st := sf_law_single) l46 c46 k46
  have b46 := F46.binds (ps := ["_law_bag_here"]) fun _ _ _ _ _ _ us hl => match us, hl with | [_], _ => rfl
  have F47 := fun_mk (st := sf_law_right) l47 c47 k47
  have b47 := F47.binds (ps := ["_law_prog", "_law_way"]) fun _ _ _ _ _ _ us hl => match us, hl with | [_, _], _ => rfl
  have F48 := fun_mk (st := sf_law) l48 c48 k48
  have b48 := F48.binds (ps := ["_law_script"]) fun _ _ _ _ _ _ us hl => match us, hl with | [_], _ => rfl
  have kw0 := fun_kw (ps := ["program"]) F27 ("types_of", 0, ["program"], [0], []) rfl fun _ _ _ _ _ _ us ws h1 h2 => match us, ws, h1, h2 with | [], [_], _, _ => rfl
  have kw1 := fun_kw (ps := ["program"]) F28 ("typed", 0, ["program"], [0], []) rfl fun _ _ _ _ _ _ us ws h1 h2 => match us, ws, h1, h2 with | [], [_], _, _ => rfl
  have mb : ∀ s ∈ bn, mg (Str.ofString s) = none := by
    intro s hs
    simp only [bn, List.mem_cons, List.not_mem_nil, or_false] at hs
    rcases hs with rfl | rfl | rfl | rfl | rfl | rfl | rfl | rfl | rfl | rfl | rfl | rfl | rfl
    · exact PySem.W.mg_none_of X G z0
    · exact PySem.W.mg_none_of X G z1
    · exact PySem.W.mg_none_of X G z2
    · exact PySem.W.mg_none_of X G z3
    · exact PySem.W.mg_none_of X G z4
    · exact PySem.W.mg_none_of X G z5
    · exact PySem.W.mg_none_of X G z6
    · exact PySem.W.mg_none_of X G z7
    · exact PySem.W.mg_none_of X G z8
    · exact PySem.W.mg_none_of X G z9
    · exact PySem.W.mg_none_of X G z10
    · exact PySem.W.mg_none_of X G z11
    · exact PySem.W.mg_none_of X G z12
  have gc : GC w K mg := ⟨trivial, ⟨_, PySem.W.mg_of X G g_INT, .tup gl_INT gz_INT gk_INT⟩, ⟨_, PySem.W.mg_of X G g_BOOL, .tup gl_BOOL gz_BOOL gk_BOOL⟩, ⟨_, PySem.W.mg_of X G g_ALONE, .tup gl_ALONE gz_ALONE gk_ALONE⟩, ⟨_, PySem.W.mg_of X G g_RULES, ⟨_, _, gl_RULES, gk_RULES, go_RULES⟩⟩, ⟨C_Solver, ka_Solver, ⟨kp_Solver, kh_Solver, ko_Solver, ks_Solver⟩, fun f hf => by
    simp only [List.mem_cons, List.not_mem_nil, or_false] at hf
    rcases hf with rfl | rfl
    · exact kn_Solver_bound
    · exact kn_Solver_many⟩, ⟨C_Finder, ka_Finder, ⟨kp_Finder, kh_Finder, ko_Finder, ks_Finder⟩, fun f hf => by
    simp only [List.mem_cons, List.not_mem_nil, or_false] at hf
    rcases hf with rfl | rfl | rfl
    · exact kn_Finder_solver
    · exact kn_Finder_given
    · exact kn_Finder_good⟩, fun f hf => by
    simp only [fv_RULES, List.mem_cons, List.not_mem_nil, or_false] at hf
    rcases hf with rfl | rfl | rfl | rfl | rfl | rfl | rfl | rfl | rfl | rfl | rfl | rfl | rfl | rfl
    · exact ⟨_, x4, PySem.W.mg_of X G x4⟩
    · exact ⟨_, x5, PySem.W.mg_of X G x5⟩
    · exact ⟨_, x6, PySem.W.mg_of X G x6⟩
    · exact ⟨_, x7, PySem.W.mg_of X G x7⟩
    · exact ⟨_, x8, PySem.W.mg_of X G x8⟩
    · exact ⟨_, x9, PySem.W.mg_of X G x9⟩
    · exact ⟨_, x10, PySem.W.mg_of X G x10⟩
    · exact ⟨_, x11, PySem.W.mg_of X G x11⟩
    · exact ⟨_, x12, PySem.W.mg_of X G x12⟩
    · exact ⟨_, x13, PySem.W.mg_of X G x13⟩
    · exact ⟨_, x14, PySem.W.mg_of X G x14⟩
    · exact ⟨_, x15, PySem.W.mg_of X G x15⟩
    · exact ⟨_, x16, PySem.W.mg_of X G x16⟩
    · exact ⟨_, x17, PySem.W.mg_of X G x17⟩⟩
  refine ⟨PySem.W.fnOf "law" "law" (defArgs sf_law) (defBody sf_law) (defScope sf_law) .none kV48 dc48 pm48 an48 cd48 ct48, fun s v => .of_eq rfl, fun base _ _ => ?_⟩
  have B := ft_all (P := l.prog) (w := w) (base := base) F0 (PySem.W.mg_of X G x0) b0 F1 (PySem.W.mg_of X G x1) b1 F2 (PySem.W.mg_of X G x2) b2 F3 (PySem.W.mg_of X G x3) b3 F4 (PySem.W.mg_of X G x4) b4 F5 (PySem.W.mg_of X G x5) b5 F6 (PySem.W.mg_of X G x6) b6 F7 (PySem.W.mg_of X G x7) b7 F8 (PySem.W.mg_of X G x8) b8 F9 (PySem.W.mg_of X G x9) b9 F10 (PySem.W.mg_of X G x10) b10 F11 (PySem.W.mg_of X G x11) b11 F12 (PySem.W.mg_of X G x12) b12 F13 (PySem.W.mg_of X G x13) b13 F14 (PySem.W.mg_of X G x14) b14 F15 (PySem.W.mg_of X G x15) b15 F16 (PySem.W.mg_of X G x16) b16 F17 (PySem.W.mg_of X G x17) b17 F18 ⟨x18, i18, k18⟩ b18 F19 ⟨x19, i19, k19⟩ b19 F20 ⟨x20, i20, k20⟩ b20 F21 ⟨x21, i21, k21⟩ b21 F22 ⟨x22, i22, k22⟩ b22 F23 ⟨x23, i23, k23⟩ b23 F24 ⟨x24, i24, k24⟩ b24 F25 ⟨x25, i25, k25⟩ b25 F26 ⟨x26, i26, k26⟩ b26 F27 (PySem.W.mg_of X G x27) b27 F28 (PySem.W.mg_of X G x28) b28 F29 (PySem.W.mg_of X G x29) b29 F30 (PySem.W.mg_of X G x30) b30 F31 (PySem.W.mg_of X G x31) b31 F32 (PySem.W.mg_of X G x32) b32 F33 (PySem.W.mg_of X G x33) b33 F34 (PySem.W.mg_of X G x34) b34 F35 (PySem.W.mg_of X G x35) b35 F36 (PySem.W.mg_of X G x36) b36 F37 (PySem.W.mg_of X G x37) b37 F38 (PySem.W.mg_of X G x38) b38 F39 (PySem.W.mg_of X G x39) b39 F40 (PySem.W.mg_of X G x40) b40 F41 (PySem.W.mg_of X G x41) b41 F42 (PySem.W.mg_of X G x42) b42 F43 (PySem.W.mg_of X G x43) b43 F44 (PySem.W.mg_of X G x44) b44 F45 (PySem.W.mg_of X G x45) b45 F46 (PySem.W.mg_of X G x46) b46 F47 (PySem.W.mg_of X G x47) b47 F48 (PySem.W.mg_of X G x48) b48 ka_Solver ⟨kp_Solver, kh_Solver, ko_Solver, ks_Solver⟩ ⟨km_Solver, x18, i18, kk_Solver⟩ (PySem.W.mg_of X G ka_Solver) ka_Finder ⟨kp_Finder, kh_Finder, ko_Finder, ks_Finder⟩ ⟨km_Finder, x25, i25, kk_Finder⟩ (PySem.W.mg_of X G ka_Finder) kw0 kw1 mb gc 99
  exact okf_law F48 B mb gc
end Prog

namespace Prog
open Ir
theorem set_at {st : Store} {B : Nat} {c : Cell} (h : st[B]? = some c) (c' : Cell) : (st.set B c')[B]? = some c' := List.getElem?_set_self (List.getElem?_eq_some_iff.mp h).1
theorem take_set (st : Store) (B : Nat) (c : Cell) : (st.set B c).take st.length = st.set B c := List.take_of_length_le (by simp)
theorem set_same {st : Store} {B : Nat} {c : Cell} (h : st[B]? = some c) : st.set B c = st := by
  apply List.ext_getElem?
  intro i
  by_cases e : B = i
  · subst e; rw [set_at h, h]
  · rw [List.getElem?_set_ne e]
theorem set_push (st : Store) (c c' : Cell) : (st ++ [c]).set st.length c' = st ++ [c'] := by simp
theorem get_push (st : Store) (c : Cell) : (st ++ [c])[st.length]? = some c := by simp
theorem comp_const {α : Type} {f : D → Store → Res (Option D)} {st : Store} (p q : α → D) : ∀ l : List α, (∀ a ∈ l, f (p a) st = .ok (some (q a)) st) → compL f (l.map p) st = .ok (l.map q) st
  | [], _ => by simp [compL]
  | a :: l, h => by
    have e := comp_const (f := f) (st := st) p q l fun a' h' => h a' (List.mem_cons_of_mem _ h')
    simp [compL, h a (by simp), e]
/-! ### alike -/
theorem range_nat (n : Nat) : rangeL 0 n = (List.range n).map fun i => D.int (i : Nat) := by simp [rangeL]
theorem bools_true {α : Type} : ∀ l : List α, D.bools (l.map fun _ => D.bool true) = some (l.map fun _ => true)
  | [] => rfl
  | a :: l => by simp [D.bools, bools_true l]
theorem all_true {α : Type} (l : List α) : D.bAll [.lst (l.map fun _ => D.bool true)] = some (.bool true) := by
  simp [D.bAll, bools_true]
theorem atI_of {xs : List D} {i : Nat} (h : i < xs.length) : atI xs (i : Int) = some xs[i] := by
  simp [atI, ixN, h]
theorem bRange_nat {n : Nat} (h : n ≤ LIM) : D.bRange [.int (n : Int)] = some (.lst (rangeL 0 n)) := by
  simp only [D.bRange]
  rw [if_pos ⟨by omega, by omega⟩]
  simp
/-! ### the free numbers -/
theorem big_of_small {i : Int} (h0 : 0 ≤ i) (h : i < 2147483647) : bigOk i = true := by
  unfold bigOk
  have h1 : i.natAbs < 2147483647 := by omega
  have h2 : (2147483647 : Nat) < 2 ^ 4000 := by decide +kernel
  exact decide_eq_true (Nat.lt_trans h1 h2)
theorem bigOk_lit : bigOk 16 = true ∧ bigOk 27 = true := by constructor <;> decide +kernel
theorem smallOk_lit : smallOk 69621 = true ∧ smallOk 1031 = true ∧ smallOk 134217728 = true ∧ smallOk 48271 = true := by decide
theorem pow_lits : bigOk 10 = true ∧ bigOk (10 ^ 60) = true ∧ (0 : Int) < (10 ^ 60) ^ 10 := by
  refine ⟨by decide +kernel, by decide +kernel, by decide +kernel⟩
theorem bigOk_60 : bigOk 1000000000000000000000000000000000000000000000000000000000000 = true := by decide +kernel
theorem depAll_int (fs : List Int) : D.depAll (fs.map .int) = 0 := by
  induction fs with
  | nil => rfl
  | cons i r ih => simp [D.depAll, D.dep, ih]
theorem fine_intlist (l : List Int) : fine (.lst (l.map .int)) = true := by simp [fine, D.dep, depAll_int]
theorem any_ints (l : List Int) (i : Int) : ((l.map D.int).any fun y => y.eqv (.int i)) = decide (i ∈ l) := by
  induction l with
  | nil => rfl
  | cons j l ih =>
    simp only [List.map_cons, List.any_cons, D.eqv, ih]
    by_cases e : j = i
    · subst e; simp
    · have : (j == i) = false := by simpa using e
      simp [this, Ne.symm e]
theorem len_dic {st : Store} {d : Nat} {kvs : List (D × D)} (h : st[d]? = some (.dic kvs)) : bltV .len [.ref d] st = .ok (.d (.int kvs.length)) st := by
  simp [bltV, lenDic, h]
theorem setdefault_new {st : Store} {d : Nat} {kvs : List (D × D)} {i : Int} {v : D} (h : st[d]? = some (.dic kvs)) (hl : kvs.length < LIM) (hn : lookK kvs (.int i) = none) : mSetdefault d st [.d (.int i), .d v] = .ok (.d v) (st.set d (.dic (putK kvs (.int i) v))) := by
  simp [mSetdefault, h, hl, hn, D.key]
theorem setdefault_old {st : Store} {d : Nat} {kvs : List (D × D)} {i : Int} {v w : D} (h : st[d]? = some (.dic kvs)) (hl : kvs.length < LIM) (hn : lookK kvs (.int i) = some w) : mSetdefault d st [.d (.int i), .d v] = .ok (.d w) st := by
  simp [mSetdefault, h, hl, hn, D.key]
end Prog

namespace Prog
open Ir
/-! ### kinds -/
inductive Kd where
  | int | bool | list (a : Kd) | fn (a b : Kd) | pair (a b : Kd) | free (i : Int)
deriving DecidableEq
def Kd.d : Kd → D
  | .int => .tup [.str "int"]
  | .bool => .tup [.str "bool"]
  | .list a => .tup [.str "list", a.d]
  | .fn a b => .tup [.str "fn", a.d, b.d]
  | .pair a b => .tup [.str "pair", a.d, b.d]
  | .free i => .tup [.str "free", .int i]
def Kd.parts : Kd → Nat
  | .int => 1
  | .bool => 1
  | .list a => a.parts + 1
  | .fn a b => a.parts + b.parts + 1
  | .pair a b => a.parts + b.parts + 1
  | .free _ => 1
def Kd.h : Kd → Nat
  | .int => 0
  | .bool => 0
  | .list a => a.h + 1
  | .fn a b => max a.h b.h + 1
  | .pair a b => max a.h b.h + 1
  | .free _ => 0
theorem Kd.h_parts (k : Kd) : k.h < k.parts := by
  induction k <;> simp only [Kd.h, Kd.parts] <;> omega
theorem Kd.dep (k : Kd) : k.d.dep = k.h + 1 := by
  induction k <;> simp_all [Kd.d, Kd.h, D.dep, D.depAll]
/-! ### the mathematics of numbering free ones -/
def addI (s : List Int) (i : Int) : List Int := if i ∈ s then s else s ++ [i]
def Kd.seen : Kd → List Int → List Int
  | .int, s => s
  | .bool, s => s
  | .list a, s => a.seen s
  | .fn a b, s => b.seen (a.seen s)
  | .pair a b, s => b.seen (a.seen s)
  | .free i, s => addI s i
def ix (s : List Int) (i : Int) : Int := (s.idxOf i : Nat)
def Kd.map (f : Int → Int) : Kd → Kd
  | .int => .int
  | .bool => .bool
  | .list a => .list (a.map f)
  | .fn a b => .fn (a.map f) (b.map f)
  | .pair a b => .pair (a.map f) (b.map f)
  | .free i => .free (f i)
def Kd.has (i : Int) : Kd → Prop
  | .int => False
  | .bool => False
  | .list a => a.has i
  | .fn a b => a.has i ∨ b.has i
  | .pair a b => a.has i ∨ b.has i
  | .free j => j = i
def Kd.ren : Kd → List Int → Kd
  | .int, _ => .int
  | .bool, _ => .bool
  | .list a, s => .list (a.ren s)
  | .fn a b, s => .fn (a.ren s) (b.ren (a.seen s))
  | .pair a b, s => .pair (a.ren s) (b.ren (a.seen s))
  | .free i, s => .free (ix (addI s i) i)
theorem addI_ext (s : List Int) (i : Int) : ∃ t, addI s i = s ++ t := by
  unfold addI; split
  · exact ⟨[], by simp⟩
  · exact ⟨[i], rfl⟩
theorem Kd.seen_ext : ∀ (k : Kd) (s : List Int), ∃ t, k.seen s = s ++ t
  | .int, s => ⟨[], by simp [Kd.seen]⟩
  | .bool, s => ⟨[], by simp [Kd.seen]⟩
  | .list a, s => a.seen_ext s
  | .fn a b, s => by
    obtain ⟨t, h⟩ := a.seen_ext s
    obtain ⟨u, g⟩ := b.seen_ext (a.seen s)
    exact ⟨t ++ u, by simp only [Kd.seen]; rw [g, h, List.append_assoc]⟩
  | .pair a b, s => by
    obtain ⟨t, h⟩ := a.seen_ext s
    obtain ⟨u, g⟩ := b.seen_ext (a.seen s)
    exact ⟨t ++ u, by simp only [Kd.seen]; rw [g, h, List.append_assoc]⟩
  | .free i, s => addI_ext s i
theorem mem_addI (s : List Int) (i : Int) : i ∈ addI s i := by
  unfold addI; split
  · assumption
  · simp
theorem Kd.seen_has : ∀ (k : Kd) (s : List Int) (i : Int), k.has i → i ∈ k.seen s
  | .list a, s, i, h => a.seen_has s i h
  | .fn a b, s, i, h => by
    rcases h with h | h
    · obtain ⟨u, g⟩ := b.seen_ext (a.seen s)
      simp only [Kd.seen]; rw [g]
      exact List.mem_append_left _ (a.seen_has s i h)
    · exact b.seen_has _ i h
  | .pair a b, s, i, h => by
    rcases h with h | h
    · obtain ⟨u, g⟩ := b.seen_ext (a.seen s)
      simp only [Kd.seen]; rw [g]
      exact List.mem_append_left _ (a.seen_has s i h)
    · exact b.seen_has _ i h
  | .free j, s, i, h => by
    have : j = i := h
    subst this
    exact mem_addI s j
theorem ix_ext {s t : List Int} {i : Int} (h : i ∈ s) : ix (s ++ t) i = ix s i := by
  unfold ix
  rw [List.idxOf_append, if_pos h]
theorem Kd.map_congr {f g : Int → Int} : ∀ (k : Kd), (∀ i, k.has i → f i = g i) → k.map f = k.map g
  | .int, _ => rfl
  | .bool, _ => rfl
  | .list a, h => by simp only [Kd.map]; rw [a.map_congr h]
  | .fn a b, h => by simp only [Kd.map]; rw [a.map_congr fun i q => h i (.inl q), b.map_congr fun i q => h i (.inr q)]
  | .pair a b, h => by simp only [Kd.map]; rw [a.map_congr fun i q => h i (.inl q), b.map_congr fun i q => h i (.inr q)]
  | .free i, h => by simp only [Kd.map]; rw [h i rfl]
theorem Kd.map_ext (k : Kd) {s t : List Int} (h : ∀ i, k.has i → i ∈ s) : k.map (ix (s ++ t)) = k.map (ix s) := k.map_congr fun i q => ix_ext (h i q)
theorem Kd.ren_eq : ∀ (k : Kd) (s : List Int), k.ren s = k.map (ix (k.seen s))
  | .int, _ => rfl
  | .bool, _ => rfl
  | .list a, s => by simp only [Kd.ren, Kd.map, Kd.seen]; rw [a.ren_eq s]
  | .fn a b, s => by
    simp only [Kd.ren, Kd.map, Kd.seen]
    obtain ⟨u, g⟩ := b.seen_ext (a.seen s)
    rw [a.ren_eq s, b.ren_eq, g, a.map_ext fun i q => a.seen_has s i q]
  | .pair a b, s => by
    simp only [Kd.ren, Kd.map, Kd.seen]
    obtain ⟨u, g⟩ := b.seen_ext (a.seen s)
    rw [a.ren_eq s, b.ren_eq, g, a.map_ext fun i q => a.seen_has s i q]
  | .free i, s => rfl
def seenAll (ks : List Kd) (s : List Int) : List Int := ks.foldl (fun s k => k.seen s) s
def renAll : List Kd → List Int → List Kd
  | [], _ => []
  | k :: ks, s => k.ren s :: renAll ks (k.seen s)
theorem seenAll_ext : ∀ (ks : List Kd) (s : List Int), ∃ t, seenAll ks s = s ++ t
  | [], s => ⟨[], by simp [seenAll]⟩
  | k :: ks, s => by
    obtain ⟨t, h⟩ := k.seen_ext s
    obtain ⟨u, g⟩ := seenAll_ext ks (k.seen s)
    refine ⟨t ++ u, ?_⟩
    show seenAll ks (k.seen s) = _
    rw [g, h, List.append_assoc]
theorem renAll_eq : ∀ (ks : List Kd) (s : List Int), renAll ks s = ks.map (Kd.map (ix (seenAll ks s)))
  | [], _ => rfl
  | k :: ks, s => by
    simp only [renAll, List.map_cons]
    have e : seenAll (k :: ks) s = seenAll ks (k.seen s) := rfl
    obtain ⟨u, g⟩ := seenAll_ext ks (k.seen s)
    rw [e, renAll_eq ks, k.ren_eq]
    congr 1
    rw [g, k.map_ext fun i q => k.seen_has s i q]
theorem seenAll_has : ∀ (ks : List Kd) (s : List Int) (k : Kd) (i : Int), k ∈ ks → k.has i → i ∈ seenAll ks s
  | k :: ks, s, k', i, hm, h => by
    have e : seenAll (k :: ks) s = seenAll ks (k.seen s) := rfl
    rw [e]
    rcases List.mem_cons.mp hm with q | q
    · subst q
      obtain ⟨u, g⟩ := seenAll_ext ks (k'.seen s)
      rw [g]
      exact List.mem_append_left _ (k'.seen_has s i h)
    · exact seenAll_has ks _ k' i q h
theorem addI_nodup {s : List Int} {i : Int} (h : s.Nodup) : (addI s i).Nodup := by
  unfold addI; split
  · exact h
  · rename_i hi
    rw [List.nodup_append]
    refine ⟨h, by simp, fun a ha b hb e => ?_⟩
    simp at hb
    subst hb
    subst e
    exact hi ha
theorem Kd.seen_nodup : ∀ (k : Kd) {s : List Int}, s.Nodup → (k.seen s).Nodup
  | .int, _, h => h
  | .bool, _, h => h
  | .list a, _, h => a.seen_nodup h
  | .fn a b, _, h => b.seen_nodup (a.seen_nodup h)
  | .pair a b, _, h => b.seen_nodup (a.seen_nodup h)
  | .free _, _, h => addI_nodup h
theorem seenAll_nodup : ∀ (ks : List Kd) {s : List Int}, s.Nodup → (seenAll ks s).Nodup
  | [], _, h => h
  | k :: ks, s, h => seenAll_nodup ks (s := k.seen s) (k.seen_nodup h)
theorem Kd.map_map (f g : Int → Int) : ∀ k : Kd, (k.map f).map g = k.map fun i => g (f i)
  | .int => rfl
  | .bool => rfl
  | .list a => by simp only [Kd.map]; rw [a.map_map]
  | .fn a b => by simp only [Kd.map]; rw [a.map_map, b.map_map]
  | .pair a b => by simp only [Kd.map]; rw [a.map_map, b.map_map]
  | .free _ => rfl
/-! ### the law's own numbering -/
def Kd.fr : Kd → List Int
  | .int => []
  | .bool => []
  | .list a => a.fr
  | .fn a b => a.fr ++ b.fr.filter fun i => decide (i ∉ a.fr)
  | .pair a b => a.fr ++ b.fr.filter fun i => decide (i ∉ a.fr)
  | .free i => [i]
/-! ### dicts by ints -/
def dG (g : Int → D) (s : List Int) : List (D × D) := s.map fun i => (.int i, g i)
theorem lookK_dG (g : Int → D) (j : Int) : ∀ s : List Int, lookK (dG g s) (.int j) = if j ∈ s then some (g j) else none
  | [] => rfl
  | i :: s => by
    have ih := lookK_dG g j s
    unfold lookK dG at ih ⊢
    simp only [List.map_cons, List.find?_cons, D.eqv]
    by_cases e : i = j
    · subst e; simp
    · have : (i == j) = false := by simpa using e
      rw [this]
      simp only [List.mem_cons, Ne.symm e, false_or]
      exact ih
theorem any_dG (g : Int → D) (j : Int) : ∀ s : List Int, ((dG g s).any fun p => p.1.eqv (.int j)) = decide (j ∈ s)
  | [] => rfl
  | i :: s => by
    have ih := any_dG g j s
    unfold dG at ih ⊢
    simp only [List.map_cons, List.any_cons, D.eqv, ih]
    by_cases e : i = j
    · subst e; simp
    · have : (i == j) = false := by simpa using e
      simp [this, Ne.symm e]
theorem putK_dG (g : Int → D) {j : Int} {s : List Int} (h : j ∉ s) (v : D) : putK (dG g s) (.int j) v = dG g s ++ [(.int j, v)] := by
  unfold putK
  rw [any_dG]
  simp [h]
def dP (s : List Int) : List (D × D) := dG (fun i => .int (ix s i)) s
theorem ix_new {s : List Int} {i : Int} (h : i ∉ s) : ix (s ++ [i]) i = s.length := by
  unfold ix
  rw [List.idxOf_append, if_neg h]
  simp
theorem dG_ext {s : List Int} {i : Int} (h : i ∉ s) (c : Int → D) : dG (fun j => c (ix (s ++ [i]) j)) (s ++ [i]) = dG (fun j => c (ix s j)) s ++ [(.int i, c s.length)] := by
  unfold dG
  rw [List.map_append]
  congr 1
  · apply List.map_congr_left
    intro j hj
    show (D.int j, c (ix (s ++ [i]) j)) = (D.int j, c (ix s j))
    rw [ix_ext hj]
  · simp [ix_new h]
theorem dG_len (g : Int → D) (s : List Int) : (dG g s).length = s.length := by simp [dG]
/-! ### put_in -/
end Prog

namespace Prog
open Ir
/-! ### fillings -/
def Kd.sub (f : Int → Kd) : Kd → Kd
  | .int => .int
  | .bool => .bool
  | .list a => .list (a.sub f)
  | .fn a b => .fn (a.sub f) (b.sub f)
  | .pair a b => .pair (a.sub f) (b.sub f)
  | .free i => f i
theorem Kd.sub_free (k : Kd) : k.sub .free = k := by induction k <;> simp_all [Kd.sub]
theorem Kd.sub_map (g : Int → Int) (k : Kd) : k.sub (fun i => .free (g i)) = k.map g := by induction k <;> simp_all [Kd.sub, Kd.map]
theorem eqv_str (x y : String) : D.eqv (.str x) (.str y) = decide (x = y) := by rw [D.eqv]
theorem eqv_int (x y : Int) : D.eqv (.int x) (.int y) = decide (x = y) := by rw [D.eqv]; rfl
theorem eqv_tup (x y : List D) : D.eqv (.tup x) (.tup y) = D.eqvAll x y := by rw [D.eqv]
theorem eqvAll_cons (x y : D) (xs ys : List D) : D.eqvAll (x :: xs) (y :: ys) = (x.eqv y && D.eqvAll xs ys) := by rw [D.eqvAll]
theorem eqvAll_nil : D.eqvAll [] [] = true := by rw [D.eqvAll]
theorem eqvAll_cn (x : D) (xs : List D) : D.eqvAll (x :: xs) [] = false := by rw [D.eqvAll]
theorem eqvAll_nc (x : D) (xs : List D) : D.eqvAll [] (x :: xs) = false := by rw [D.eqvAll]
theorem eqv_kd : ∀ a b : Kd, a.d.eqv b.d = decide (a = b) := by
  intro a
  induction a with
  | int => intro b; cases b <;> simp [Kd.d, eqv_str, eqv_tup, eqvAll_cons, eqvAll_nil, eqvAll_cn, eqvAll_nc]
  | bool => intro b; cases b <;> simp [Kd.d, eqv_str, eqv_tup, eqvAll_cons, eqvAll_nil, eqvAll_cn, eqvAll_nc]
  | list a ih => intro b; cases b <;> simp [Kd.d, eqv_str, eqv_tup, eqvAll_cons, eqvAll_nil, eqvAll_cn, eqvAll_nc, ih]
  | fn a c ih1 ih2 => intro b; cases b <;> simp [Kd.d, eqv_str, eqv_tup, eqvAll_cons, eqvAll_nil, eqvAll_cn, eqvAll_nc, ih1, ih2]
  | pair a c ih1 ih2 => intro b; cases b <;> simp [Kd.d, eqv_str, eqv_tup, eqvAll_cons, eqvAll_nil, eqvAll_cn, eqvAll_nc, ih1, ih2]
  | free i => intro b; cases b <;> simp [Kd.d, eqv_str, eqv_int, eqv_tup, eqvAll_cons, eqvAll_nil, eqvAll_cn, eqvAll_nc]
theorem fine_kd {k : Kd} (h : k.h < 64) : fine k.d = true := by simp only [fine, Kd.dep]; exact decide_eq_true (by omega)
theorem cmp_eq_kd {a b : Kd} (ha : a.h < 64) (hb : b.h < 64) : D.cmp .eq a.d b.d = some (decide (a = b)) := by simp [D.cmp, fine_kd ha, fine_kd hb, eqv_kd]
theorem cmp_ne_kd {a b : Kd} (ha : a.h < 64) (hb : b.h < 64) : D.cmp .ne a.d b.d = some (!decide (a = b)) := by simp [D.cmp, fine_kd ha, fine_kd hb, eqv_kd]
/-! ### dicts of kinds -/
abbrev G := List (Int × Kd)
def dF (g : G) : List (D × D) := g.map fun p => (.int p.1, p.2.d)
theorem dF_len (g : G) : (dF g).length = g.length := by simp [dF]
theorem lookK_dF (i : Int) : ∀ g : G, lookK (dF g) (.int i) = (g.lookup i).map Kd.d
  | [] => rfl
  | (j, k) :: g => by
    have ih := lookK_dF i g
    unfold lookK at ih ⊢
    simp only [dF, List.map_cons, List.find?_cons, D.eqv, List.lookup_cons] at ih ⊢
    by_cases e : i = j
    · subst e; simp
    · have h1 : (j == i) = false := by simpa using Ne.symm e
      have h2 : (i == j) = false := by simpa using e
      simp only [h1, h2]
      exact ih
def putG (g : G) (i : Int) (k : Kd) : G := if (g.lookup i).isSome then g.map fun p => if p.1 = i then (p.1, k) else p else g ++ [(i, k)]
theorem any_dF (i : Int) : ∀ g : G, ((dF g).any fun p => p.1.eqv (.int i)) = (g.lookup i).isSome
  | [] => rfl
  | (j, k) :: g => by
    have ih := any_dF i g
    simp only [dF, List.map_cons, List.any_cons, D.eqv, List.lookup_cons] at ih ⊢
    by_cases e : i = j
    · subst e; simp
    · have h1 : (j == i) = false := by simpa using Ne.symm e
      have h2 : (i == j) = false := by simpa using e
      simp only [h1, h2, Bool.false_or]
      exact ih
theorem putK_dF (g : G) (i : Int) (k : Kd) : putK (dF g) (.int i) k.d = dF (putG g i k) := by
  unfold putK putG
  rw [any_dF]
  split
  · simp only [dF, List.map_map]
    apply List.map_congr_left
    intro p _
    simp only [Function.comp, D.eqv]
    by_cases e : p.1 = i <;> simp [e]
  · simp [dF]
theorem lookup_map_put (i j : Int) (k : Kd) : ∀ g : G, (g.map fun p => if p.1 = i then (p.1, k) else p).lookup j = if j = i then (g.lookup j).map fun _ => k else g.lookup j
  | [] => by simp
  | (m, w) :: g => by
    have ih := lookup_map_put i j k g
    simp only [List.map_cons]
    by_cases e : m = i
    · subst e
      simp only [if_true, List.lookup_cons]
      by_cases e2 : j = m
      · subst e2; simp
      · have h2 : (j == m) = false := by simpa using e2
        simp only [h2, ih]
    · simp only [if_neg e, List.lookup_cons]
      by_cases e2 : j = m
      · subst e2; simp [e]
      · have h2 : (j == m) = false := by simpa using e2
        simp only [h2, ih]
theorem lookup_append1 (i j : Int) (k : Kd) : ∀ g : G, (g ++ [(i, k)]).lookup j = (g.lookup j).or (if j = i then some k else none)
  | [] => by
    by_cases e : j = i
    · subst e; simp
    · have h2 : (j == i) = false := by simpa using e
      simp [List.lookup_cons, h2, e]
  | (m, w) :: g => by
    have ih := lookup_append1 i j k g
    simp only [List.cons_append, List.lookup_cons]
    by_cases e2 : j = m
    · subst e2; simp
    · have h2 : (j == m) = false := by simpa using e2
      simp only [h2, ih]
theorem lookup_putG (g : G) (i j : Int) (k : Kd) : (putG g i k).lookup j = if j = i then some k else g.lookup j := by
  unfold putG
  split
  · rename_i h
    rw [lookup_map_put]
    by_cases e : j = i
    · subst e
      obtain ⟨w, hw⟩ := Option.isSome_iff_exists.mp h
      simp [hw]
    · simp [e]
  · rename_i h
    rw [lookup_append1]
    by_cases e : j = i
    · subst e
      have : g.lookup j = none := Option.not_isSome_iff_eq_none.mp h
      simp [this]
    · simp [e]
end Prog

namespace Prog
open Ir
/-! ### the mathematics of making alike -/
theorem Kd.sub_sub (f g : Int → Kd) (k : Kd) : (k.sub f).sub g = k.sub (fun i => (f i).sub g) := by induction k <;> simp_all [Kd.sub]
theorem Kd.sub_congr {f g : Int → Kd} : ∀ (k : Kd), (∀ i, k.has i → f i = g i) → k.sub f = k.sub g
  | .int, _ => rfl
  | .bool, _ => rfl
  | .list a, h => by simp only [Kd.sub]; rw [a.sub_congr h]
  | .fn a b, h => by simp only [Kd.sub]; rw [a.sub_congr fun i q => h i (.inl q), b.sub_congr fun i q => h i (.inr q)]
  | .pair a b, h => by simp only [Kd.sub]; rw [a.sub_congr fun i q => h i (.inl q), b.sub_congr fun i q => h i (.inr q)]
  | .free i, h => h i rfl
theorem Kd.has_sub {f : Int → Kd} {j : Int} : ∀ k : Kd, (k.sub f).has j ↔ ∃ i, k.has i ∧ (f i).has j
  | .int => by simp [Kd.sub, Kd.has]
  | .bool => by simp [Kd.sub, Kd.has]
  | .list a => a.has_sub
  | .fn a b => by
    simp only [Kd.sub, Kd.has, a.has_sub, b.has_sub]
    constructor
    · rintro (⟨i, h1, h2⟩ | ⟨i, h1, h2⟩)
      · exact ⟨i, .inl h1, h2⟩
      · exact ⟨i, .inr h1, h2⟩
    · rintro ⟨i, h1 | h1, h2⟩
      · exact .inl ⟨i, h1, h2⟩
      · exact .inr ⟨i, h1, h2⟩
  | .pair a b => by
    simp only [Kd.sub, Kd.has, a.has_sub, b.has_sub]
    constructor
    · rintro (⟨i, h1, h2⟩ | ⟨i, h1, h2⟩)
      · exact ⟨i, .inl h1, h2⟩
      · exact ⟨i, .inr h1, h2⟩
    · rintro ⟨i, h1 | h1, h2⟩
      · exact .inl ⟨i, h1, h2⟩
      · exact .inr ⟨i, h1, h2⟩
  | .free i => by simp only [Kd.sub, Kd.has]; exact ⟨fun h => ⟨i, rfl, h⟩, fun ⟨j, e, h⟩ => by subst e; exact h⟩
theorem Kd.fix_has {S : Int → Kd} {j : Int} : ∀ k : Kd, k.sub S = k → k.has j → S j = .free j
  | .list a, e, h => a.fix_has (by simpa [Kd.sub] using e) h
  | .fn a b, e, h => by
    simp only [Kd.sub, Kd.fn.injEq] at e
    rcases h with h | h
    · exact a.fix_has e.1 h
    · exact b.fix_has e.2 h
  | .pair a b, e, h => by
    simp only [Kd.sub, Kd.pair.injEq] at e
    rcases h with h | h
    · exact a.fix_has e.1 h
    · exact b.fix_has e.2 h
  | .free i, e, h => by
    have : i = j := h
    subst this
    exact e
theorem Kd.has_parts {f : Int → Kd} {i : Int} : ∀ k : Kd, k.has i → (f i).parts ≤ (k.sub f).parts
  | .list a, h => by have := a.has_parts (f := f) h; simp only [Kd.sub, Kd.parts]; omega
  | .fn a b, h => by
    rcases h with h | h
    · have := a.has_parts (f := f) h; simp only [Kd.sub, Kd.parts]; omega
    · have := b.has_parts (f := f) h; simp only [Kd.sub, Kd.parts]; omega
  | .pair a b, h => by
    rcases h with h | h
    · have := a.has_parts (f := f) h; simp only [Kd.sub, Kd.parts]; omega
    · have := b.has_parts (f := f) h; simp only [Kd.sub, Kd.parts]; omega
  | .free j, h => by
    have : j = i := h
    subst this
    exact Nat.le_refl _
/-- a free one within a greater kind is never that kind, however filled -/
theorem Kd.occurs {f : Int → Kd} {i : Int} {t : Kd} (h : t.has i) (n : t ≠ .free i) : f i ≠ t.sub f := by
  intro e
  cases t with
  | int => exact h
  | bool => exact h
  | free j => exact n (by rw [show j = i from h])
  | list a => have := a.has_parts (f := f) (i := i) h; rw [e] at this; simp only [Kd.sub, Kd.parts] at this; omega
  | fn a b =>
    rcases h with h | h
    · have := a.has_parts (f := f) (i := i) h; rw [e] at this; simp only [Kd.sub, Kd.parts] at this; omega
    · have := b.has_parts (f := f) (i := i) h; rw [e] at this; simp only [Kd.sub, Kd.parts] at this; omega
  | pair a b =>
    rcases h with h | h
    · have := a.has_parts (f := f) (i := i) h; rw [e] at this; simp only [Kd.sub, Kd.parts] at this; omega
    · have := b.has_parts (f := f) (i := i) h; rw [e] at this; simp only [Kd.sub, Kd.parts] at this; omega
def sg (i : Int) (t : Kd) (j : Int) : Kd := if j = i then t else .free j
theorem sg_same (i : Int) (t : Kd) : sg i t i = t := by simp [sg]
theorem sg_ne {i j : Int} (t : Kd) (h : j ≠ i) : sg i t j = .free j := by simp [sg, h]
theorem Kd.sub_sg {i : Int} {t : Kd} (k : Kd) (h : ¬ k.has i) : k.sub (sg i t) = k := by
  have := k.sub_congr (f := sg i t) (g := .free) fun j q => sg_ne t fun e => h (by rw [← e]; exact q)
  rw [this, k.sub_free]
def Kd.nv : Kd → Prop
  | .free _ => False
  | _ => True
def Kd.kids : Kd → List Kd
  | .list a => [a]
  | .fn a b => [a, b]
  | .pair a b => [a, b]
  | _ => []
def Cl (L : List Kd) : Prop := ∀ u ∈ L, ∀ c ∈ u.kids, c ∈ L
structure US (L : List Kd) (S : Int → Kd) : Prop where
  idem : ∀ i, (S i).sub S = S i
  clos : ∀ i, (∃ j, S i = .free j) ∨ ∃ u ∈ L, u.nv ∧ S i = u.sub S
  vars : ∀ x j, .free x ∈ L → (S x).has j → .free j ∈ L
theorem US.start (L : List Kd) : US L .free := ⟨fun _ => rfl, fun i => .inl ⟨i, rfl⟩, fun x j h e => by
  have : x = j := e
  subst this
  exact h⟩
section
variable {L : List Kd} {S : Int → Kd}
theorem US.idemK (us : US L S) (k : Kd) : (k.sub S).sub S = k.sub S := by
  rw [Kd.sub_sub]
  exact k.sub_congr fun i _ => us.idem i
theorem US.fix (us : US L S) {k : Kd} {j : Int} (h : (k.sub S).has j) : S j = .free j := Kd.fix_has _ (us.idemK k) h
theorem Cl.free (cl : Cl L) : ∀ (u : Kd), u ∈ L → ∀ i, u.has i → .free i ∈ L
  | .list a, hu, i, h => cl.free a (cl _ hu a (by simp [Kd.kids])) i h
  | .fn a b, hu, i, h => by
    rcases h with h | h
    · exact cl.free a (cl _ hu a (by simp [Kd.kids])) i h
    · exact cl.free b (cl _ hu b (by simp [Kd.kids])) i h
  | .pair a b, hu, i, h => by
    rcases h with h | h
    · exact cl.free a (cl _ hu a (by simp [Kd.kids])) i h
    · exact cl.free b (cl _ hu b (by simp [Kd.kids])) i h
  | .free j, hu, i, h => by
    have : j = i := h
    subst this
    exact hu
theorem US.varsK (us : US L S) (cl : Cl L) {u : Kd} (hu : u ∈ L) {j : Int} (h : (u.sub S).has j) : .free j ∈ L := by
  obtain ⟨i, h1, h2⟩ := (Kd.has_sub u).mp h
  exact us.vars i j (cl.free u hu i h1) h2
def comp1 (S : Int → Kd) (i : Int) (t : Kd) : Int → Kd := fun x => (S x).sub (sg i t)
theorem comp1_sub (i : Int) (t k : Kd) : k.sub (comp1 S i t) = (k.sub S).sub (sg i t) := by rw [Kd.sub_sub]; rfl
theorem US.bind (us : US L S) (cl : Cl L) {i : Int} {u : Kd} (hu : u ∈ L) (hi : S i = .free i) (hn : ¬ (u.sub S).has i) : US L (comp1 S i (u.sub S)) := by
  have hT : (u.sub S).sub (sg i (u.sub S)) = u.sub S := Kd.sub_sg _ hn
  refine ⟨fun x => ?_, fun x => ?_, fun x j hx hj => ?_⟩
  · show ((S x).sub (sg i (u.sub S))).sub (comp1 S i (u.sub S)) = (S x).sub (sg i (u.sub S))
    rw [Kd.sub_sub]
    refine Kd.sub_congr _ fun j hj => ?_
    by_cases e : j = i
    · subst e
      rw [sg_same, comp1_sub, us.idemK, hT]
    · rw [sg_ne _ e]
      have : S j = .free j := Kd.fix_has _ (us.idem x) hj
      simp only [Kd.sub, comp1, this, sg_ne _ e]
  · rcases us.clos x with ⟨j, e⟩ | ⟨w, hw, nw, e⟩
    · by_cases ej : j = i
      · subst ej
        have e2 : comp1 S j (u.sub S) x = u.sub S := by simp only [comp1, e, Kd.sub, sg_same]
        have key : ∀ v ∈ L, v.nv → u.sub S = v.sub S → (∃ u' ∈ L, u'.nv ∧ u.sub S = u'.sub (comp1 S j (u.sub S))) := fun v hv nv ev => ⟨v, hv, nv, by rw [comp1_sub, ← ev, hT]⟩
        rw [e2]
        cases hu' : u with
        | free y =>
          rw [hu'] at key
          rcases us.clos y with ⟨j2, e3⟩ | ⟨w, hw, nw, e3⟩
          · exact .inl ⟨j2, e3⟩
          · exact .inr (key w hw nw e3)
        | _ => rw [← hu']; exact .inr (key u hu (by rw [hu']; exact trivial) rfl)
      · exact .inl ⟨j, by simp only [comp1, e, Kd.sub, sg_ne _ ej]⟩
    · exact .inr ⟨w, hw, nw, by rw [comp1_sub, ← e]; rfl⟩
  · obtain ⟨y, h1, h2⟩ := (Kd.has_sub (S x)).mp hj
    by_cases e : y = i
    · subst e
      rw [sg_same] at h2
      exact us.varsK cl hu h2
    · rw [sg_ne _ e] at h2
      have : y = j := h2
      subst this
      exact us.vars x y hx h1
/-! ### heights -/
theorem pigeon (g : Kd → Nat) : ∀ (n : Nat) (L : List Kd), (∀ m, 1 ≤ m → m ≤ n → ∃ w ∈ L, g w = m) → n ≤ L.length
  | 0, _, _ => Nat.zero_le _
  | n + 1, L, h => by
    obtain ⟨w, hw, e⟩ := h (n + 1) (by omega) (Nat.le_refl _)
    have := pigeon g n (L.erase w) fun m h1 h2 => by
      obtain ⟨v, hv, ev⟩ := h m h1 (by omega)
      exact ⟨v, (List.mem_erase_of_ne fun q => by subst q; omega).mpr hv, ev⟩
    rw [List.length_erase_of_mem hw] at this
    have : 0 < L.length := List.length_pos_of_mem hw
    omega
theorem kid_h {u : Kd} (h : u.nv) (hp : 1 ≤ (u.sub S).h) : ∃ c ∈ u.kids, (c.sub S).h + 1 = (u.sub S).h := by
  cases u with
  | int => simp [Kd.sub, Kd.h] at hp
  | bool => simp [Kd.sub, Kd.h] at hp
  | free i => exact h.elim
  | list a => exact ⟨a, by simp [Kd.kids], rfl⟩
  | fn a b =>
    simp only [Kd.sub, Kd.h, Kd.kids]
    by_cases c : (a.sub S).h ≤ (b.sub S).h
    · exact ⟨b, by simp, by omega⟩
    · exact ⟨a, by simp, by omega⟩
  | pair a b =>
    simp only [Kd.sub, Kd.h, Kd.kids]
    by_cases c : (a.sub S).h ≤ (b.sub S).h
    · exact ⟨b, by simp, by omega⟩
    · exact ⟨a, by simp, by omega⟩
theorem US.heights (us : US L S) (cl : Cl L) : ∀ (n : Nat) (u : Kd), u ∈ L → (u.sub S).h = n → ∀ m, 1 ≤ m → m ≤ n → ∃ w ∈ L, (w.sub S).h = m := by
  intro n
  induction n with
  | zero => intro u hu hn m h1 h2; omega
  | succ n ih =>
    intro u hu hn m h1 h2
    by_cases e : m = n + 1
    · exact ⟨u, hu, by omega⟩
    · have key : ∀ v ∈ L, v.nv → (v.sub S).h = n + 1 → ∃ w ∈ L, (w.sub S).h = m := fun v hv nv hh => by
        obtain ⟨c, hc, ec⟩ := kid_h (S := S) nv (by omega)
        exact ih c (cl v hv c hc) (by omega) m h1 (by omega)
      cases hu' : u with
      | free i =>
        rw [hu'] at hn
        rcases us.clos i with ⟨j, e3⟩ | ⟨w, hw, nw, e3⟩
        · simp [Kd.sub, e3, Kd.h] at hn
        · exact key w hw nw (by rw [← e3]; exact hn)
      | _ => exact key u hu (by rw [hu']; exact trivial) hn
/-! ### solutions -/
def Sols (f S : Int → Kd) : Prop := ∀ x, (S x).sub f = f x
theorem Sols.k {f S : Int → Kd} (h : Sols f S) (k : Kd) : (k.sub S).sub f = k.sub f := by
  rw [Kd.sub_sub]; exact k.sub_congr fun i _ => h i
theorem sols_bind {f : Int → Kd} {i : Int} {t : Kd} (hi : S i = .free i) : Sols f (comp1 S i t) ↔ Sols f S ∧ f i = t.sub f := by
  have sgf : f i = t.sub f → ∀ j, (sg i t j).sub f = f j := fun e j => by
    by_cases c : j = i
    · subst c; rw [sg_same, e]
    · rw [sg_ne _ c]; rfl
  constructor
  · intro h
    have e : f i = t.sub f := by
      have := h i
      simp only [comp1, hi, Kd.sub, sg_same] at this
      exact this.symm
    refine ⟨fun x => ?_, e⟩
    have := h x
    simp only [comp1] at this
    rw [Kd.sub_sub] at this
    rw [← this]
    exact Kd.sub_congr _ fun j _ => (sgf e j).symm
  · rintro ⟨h, e⟩ x
    simp only [comp1]
    rw [Kd.sub_sub, ← h x]
    exact Kd.sub_congr _ fun j _ => sgf e j
/-! ### how many free ones are left -/
def isF (S : Int → Kd) : Kd → Bool
  | .free i => decide (S i = .free i)
  | _ => false
def cnt (S : Int → Kd) (L : List Kd) : Nat := (L.filter (isF S)).length
theorem filter_lt {α : Type} {p q : α → Bool} : ∀ (l : List α), (∀ x ∈ l, p x = true → q x = true) → (∃ x ∈ l, q x = true ∧ p x = false) → (l.filter p).length < (l.filter q).length
  | [], _, ⟨x, hx, _⟩ => by cases hx
  | y :: l, h, ⟨x, hx, h1, h2⟩ => by
    have hle : ∀ l : List α, (∀ x ∈ l, p x = true → q x = true) → (l.filter p).length ≤ (l.filter q).length := by
      intro l
      induction l with
      | nil => intro _; simp
      | cons z l ih =>
        intro h
        have := ih fun x hx => h x (List.mem_cons_of_mem _ hx)
        simp only [List.filter_cons]
        by_cases c : p z = true
        · rw [if_pos c, if_pos (h z (by simp) c)]; simp; omega
        · rw [if_neg c]
          split
          · simp; omega
          · exact this
    simp only [List.filter_cons]
    rcases List.mem_cons.mp hx with e | hx
    · subst e
      rw [h1, h2]
      have := hle l fun x hx => h x (List.mem_cons_of_mem _ hx)
      simp; omega
    · have := filter_lt l (fun x hx => h x (List.mem_cons_of_mem _ hx)) ⟨x, hx, h1, h2⟩
      by_cases c : p y = true
      · rw [if_pos c, if_pos (h y (by simp) c)]; simp; omega
      · rw [if_neg c]
        split
        · simp; omega
        · exact this
theorem free_bind (us : US L S) {i x : Int} {u : Kd} (hn : ¬ (u.sub S).has i) (h : comp1 S i (u.sub S) x = .free x) : S x = .free x := by
  simp only [comp1] at h
  cases hx : S x with
  | free y =>
    rw [hx] at h
    simp only [Kd.sub] at h
    by_cases e : y = i
    · subst e
      rw [sg_same] at h
      have h3 : (u.sub S).has x := by rw [h]; rfl
      have := us.fix h3
      rw [hx] at this
      exact this
    · rw [sg_ne _ e] at h; exact h
  | _ => rw [hx] at h; simp [Kd.sub] at h
theorem cnt_bind (us : US L S) {i : Int} {u : Kd} (hi : S i = .free i) (hiL : .free i ∈ L) (hn : ¬ (u.sub S).has i) : cnt (comp1 S i (u.sub S)) L < cnt S L := by
  refine filter_lt L (fun x _ hp => ?_) ⟨.free i, hiL, ?_, ?_⟩
  · cases x with
    | free j => exact decide_eq_true (free_bind us hn (of_decide_eq_true hp))
    | _ => cases hp
  · exact decide_eq_true hi
  · refine decide_eq_false fun h => ?_
    simp only [comp1, hi, Kd.sub, sg_same] at h
    exact hn (by rw [h]; rfl)
/-! ### the most general one -/
structure MG (a b r : Kd) : Prop where
  ex : ∃ f, a.sub f = r ∧ b.sub f = r
  least : ∀ f, a.sub f = b.sub f → ∃ h, r.sub h = a.sub f
theorem MG.both {a b r r' : Kd} (h : MG a b r) (h' : MG a b r') : ∃ f, r.sub f = r' := by
  obtain ⟨f, e1, e2⟩ := h'.ex
  obtain ⟨g, e⟩ := h.least f (e1.trans e2.symm)
  exact ⟨g, e.trans e1⟩
/-- what fills back leaves the free ones free -/
theorem back_id {f g : Int → Kd} {r r' : Kd} (h1 : r.sub f = r') (h2 : r'.sub g = r) : ∀ i, r.has i → (f i).sub g = .free i := by
  intro i hi
  have e : r.sub (fun i => (f i).sub g) = r := by rw [← Kd.sub_sub, h1, h2]
  exact Kd.fix_has r e hi
theorem back_free {f g : Int → Kd} {r r' : Kd} (h1 : r.sub f = r') (h2 : r'.sub g = r) : ∀ i, r.has i → ∃ j, f i = .free j := by
  intro i hi
  have hb := back_id h1 h2 i hi
  cases hf : f i with
  | free j => exact ⟨j, rfl⟩
  | _ => rw [hf] at hb; simp [Kd.sub] at hb
def Kd.num : Kd → Int
  | .free j => j
  | _ => 0
theorem back_map {f g : Int → Kd} {r r' : Kd} (h1 : r.sub f = r') (h2 : r'.sub g = r) : r' = r.map (fun i => (f i).num) ∧ ∀ i j, r.has i → r.has j → (f i).num = (f j).num → i = j := by
  refine ⟨?_, fun i j hi hj e => ?_⟩
  · rw [← Kd.sub_map, ← h1]
    exact r.sub_congr fun i hi => by obtain ⟨j, e⟩ := back_free h1 h2 i hi; rw [e]; rfl
  · obtain ⟨x, ex⟩ := back_free h1 h2 i hi
    obtain ⟨y, ey⟩ := back_free h1 h2 j hj
    rw [ex, ey] at e
    have e : x = y := e
    have b1 := back_id h1 h2 i hi
    have b2 := back_id h1 h2 j hj
    rw [ex] at b1; rw [ey] at b2
    rw [e, b2] at b1
    cases b1; rfl
theorem mem_map_inj {φ : Int → Int} {s : List Int} {i : Int} (inj : ∀ x ∈ s, φ x = φ i → x = i) : φ i ∈ s.map φ ↔ i ∈ s := by
  constructor
  · intro h
    obtain ⟨x, hx, e⟩ := List.mem_map.mp h
    rw [← inj x hx e]; exact hx
  · intro h; exact List.mem_map_of_mem h
theorem ix_map {φ : Int → Int} : ∀ (s : List Int) (i : Int), (∀ x ∈ s, φ x = φ i → x = i) → ix (s.map φ) (φ i) = ix s i
  | [], i, _ => rfl
  | x :: s, i, inj => by
    have ih := ix_map s i fun y hy => inj y (List.mem_cons_of_mem _ hy)
    unfold ix at ih ⊢
    simp only [List.map_cons, List.idxOf_cons]
    by_cases e : x = i
    · subst e; simp
    · have e2 : φ x ≠ φ i := fun q => e (inj x (by simp) q)
      have h1 : (x == i) = false := by simpa using e
      have h2 : (φ x == φ i) = false := by simpa using e2
      simp only [h1, h2, cond_false]
      have : s.idxOf i = (s.map φ).idxOf (φ i) := by omega
      omega
theorem addI_map2 {φ : Int → Int} {s : List Int} {i : Int} (inj : ∀ x ∈ s, φ x = φ i → x = i) : addI (s.map φ) (φ i) = (addI s i).map φ := by
  unfold addI
  by_cases c : i ∈ s
  · rw [if_pos c, if_pos ((mem_map_inj inj).mpr c)]
  · rw [if_neg c, if_neg fun h => c ((mem_map_inj inj).mp h)]; simp
theorem Kd.seen_map2 {φ : Int → Int} : ∀ (k : Kd) (s : List Int), (∀ x y, (x ∈ s ∨ k.has x) → (y ∈ s ∨ k.has y) → φ x = φ y → x = y) → (k.map φ).seen (s.map φ) = (k.seen s).map φ ∧ (k.map φ).ren (s.map φ) = k.ren s ∧ ∀ x ∈ k.seen s, x ∈ s ∨ k.has x
  | .int, s, _ => ⟨rfl, rfl, fun x h => .inl h⟩
  | .bool, s, _ => ⟨rfl, rfl, fun x h => .inl h⟩
  | .list a, s, inj => by
    obtain ⟨h1, h2, h3⟩ := a.seen_map2 (φ := φ) s inj
    exact ⟨h1, by simp only [Kd.map, Kd.ren, h2], h3⟩
  | .fn a b, s, inj => by
    obtain ⟨h1, h2, h3⟩ := a.seen_map2 (φ := φ) s fun x y hx hy => inj x y (hx.imp id .inl) (hy.imp id .inl)
    have up : ∀ x, (x ∈ a.seen s ∨ b.has x) → (x ∈ s ∨ (Kd.fn a b).has x) := fun x hx => by
      rcases hx with hx | hx
      · exact (h3 x hx).imp id .inl
      · exact .inr (.inr hx)
    obtain ⟨g1, g2, g3⟩ := b.seen_map2 (φ := φ) (a.seen s) fun x y hx hy => inj x y (up x hx) (up y hy)
    refine ⟨?_, ?_, fun x hx => up x (g3 x hx)⟩
    · simp only [Kd.map, Kd.seen, h1, g1]
    · simp only [Kd.map, Kd.ren, h1, h2, g2]
  | .pair a b, s, inj => by
    obtain ⟨h1, h2, h3⟩ := a.seen_map2 (φ := φ) s fun x y hx hy => inj x y (hx.imp id .inl) (hy.imp id .inl)
    have up : ∀ x, (x ∈ a.seen s ∨ b.has x) → (x ∈ s ∨ (Kd.pair a b).has x) := fun x hx => by
      rcases hx with hx | hx
      · exact (h3 x hx).imp id .inl
      · exact .inr (.inr hx)
    obtain ⟨g1, g2, g3⟩ := b.seen_map2 (φ := φ) (a.seen s) fun x y hx hy => inj x y (up x hx) (up y hy)
    refine ⟨?_, ?_, fun x hx => up x (g3 x hx)⟩
    · simp only [Kd.map, Kd.seen, h1, g1]
    · simp only [Kd.map, Kd.ren, h1, h2, g2]
  | .free i, s, inj => by
    have hinj : ∀ x ∈ s, φ x = φ i → x = i := fun x hx e => inj x i (.inl hx) (.inr rfl) e
    have ha := addI_map2 hinj
    refine ⟨by simp only [Kd.map, Kd.seen, ha], ?_, fun x hx => ?_⟩
    · simp only [Kd.map, Kd.ren, ha]
      rw [ix_map]
      intro x hx e
      unfold addI at hx
      split at hx
      · exact hinj x hx e
      · rcases List.mem_append.mp hx with hx | hx
        · exact hinj x hx e
        · simpa using hx
    · simp only [Kd.seen, addI] at hx
      split at hx
      · exact .inl hx
      · rcases List.mem_append.mp hx with hx | hx
        · exact .inl hx
        · simp at hx; exact .inr hx.symm
theorem Kd.ren_inj {φ : Int → Int} {k : Kd} (inj : ∀ x y, k.has x → k.has y → φ x = φ y → x = y) : (k.map φ).ren [] = k.ren [] := by
  have := (k.seen_map2 (φ := φ) [] fun x y hx hy => inj x y (hx.elim (fun h => by cases h) id) (hy.elim (fun h => by cases h) id)).2.1
  simpa using this
/-- two kinds that are fillings of each other are named alike -/
theorem back_ren {f g : Int → Kd} {r r' : Kd} (h1 : r.sub f = r') (h2 : r'.sub g = r) : r'.ren [] = r.ren [] := by
  obtain ⟨e, inj⟩ := back_map h1 h2
  rw [e]
  exact Kd.ren_inj inj
theorem MG.named {a b r r' : Kd} (h : MG a b r) (h' : MG a b r') : r'.ren [] = r.ren [] := by
  obtain ⟨f, e1⟩ := h.both h'
  obtain ⟨g, e2⟩ := h'.both h
  exact back_ren e1 e2
end
end Prog

namespace Prog
open Ir
/-- what `matched` does: the word and the dict after it -/
def mt : Kd → Kd → G → Bool × G
  | .free i, t, g => match g.lookup i with
    | some w => (decide (w = t), g)
    | none => (true, putG g i t)
  | .int, .int, g => (true, g)
  | .bool, .bool, g => (true, g)
  | .list a, .list b, g => mt a b g
  | .fn a b, .fn c d, g => ((mt a c g).1 && (mt b d (mt a c g).2).1, (mt b d (mt a c g).2).2)
  | .pair a b, .pair c d, g => ((mt a c g).1 && (mt b d (mt a c g).2).1, (mt b d (mt a c g).2).2)
  | _, _, g => (false, g)
end Prog

namespace Prog
open Ir
def Kd.head : Kd → String
  | .int => "int"
  | .bool => "bool"
  | .list _ => "list"
  | .fn _ _ => "fn"
  | .pair _ _ => "pair"
  | .free _ => "free"
def Kd.tail : Kd → List D
  | .int => []
  | .bool => []
  | .list a => [a.d]
  | .fn a b => [a.d, b.d]
  | .pair a b => [a.d, b.d]
  | .free i => [.int i]
theorem Kd.d_eq (k : Kd) : k.d = .tup (.str k.head :: k.tail) := by cases k <;> rfl
theorem all0 : D.bAll [.lst []] = some (.bool true) := rfl
end Prog

namespace Ir
/-- what is wanted behind a run; as an instance, so that it is left as it is until the run is there -/
class Post (α : Type) where
  q : α → Store → Prop
@[simp] theorem post_mk {α : Type} (f : α → Store → Prop) : (Post.mk f).q = f := rfl
/-- a run ends well, and so -/
def Wp {α : Type} (r : Res α) [p : Post α] : Prop := match r with | .ok a st => p.q a st | _ => False
@[simp] theorem wp_ok {α : Type} (a : α) (st : Store) {p : Post α} : @Wp _ (.ok a st) p = p.q a st := rfl
@[simp] theorem wp_bad {α : Type} {p : Post α} : @Wp _ .bad p = False := rfl
@[simp ↓] theorem wp_bind {α β : Type} (r : Res α) (f : α → Store → Res β) {p : Post β} : @Wp _ (r.bind f) p = @Wp _ r ⟨fun a s => @Wp _ (f a s) p⟩ := by
  cases r <;> rfl
@[simp ↓ high] theorem wp_if_t {α : Type} {c : Prop} [Decidable c] (a b : Res α) {p : Post α} (h : c) : @Wp _ (if c then a else b) p = @Wp _ a p := by rw [if_pos h]
@[simp ↓ high] theorem wp_if_f {α : Type} {c : Prop} [Decidable c] (a b : Res α) {p : Post α} (h : ¬ c) : @Wp _ (if c then a else b) p = @Wp _ b p := by rw [if_neg h]
@[simp ↓ low] theorem wp_if {α : Type} {c : Prop} [Decidable c] (a b : Res α) {p : Post α} : @Wp _ (if c then a else b) p = ((c → @Wp _ a p) ∧ (¬ c → @Wp _ b p)) := by
  by_cases h : c <;> simp [h]
@[simp] theorem wp_oif {α : Type} {c : Prop} [Decidable c] (a b : Option α) (s : Store) {p : Post α} : @Wp _ (optR (if c then a else b) s) p = ((c → @Wp _ (optR a s) p) ∧ (¬ c → @Wp _ (optR b s) p)) := by
  by_cases h : c <;> simp [h]
theorem wp_iff {α : Type} {r : Res α} {p : Post α} : @Wp _ r p ↔ ∃ a s, r = .ok a s ∧ p.q a s := by
  cases r with
  | ok a s => exact ⟨fun h => ⟨a, s, rfl, h⟩, fun ⟨a', s', e, h⟩ => by cases e; exact h⟩
  | exc c as s => exact ⟨fun h => h.elim, fun ⟨_, _, e, _⟩ => by cases e⟩
  | bad => exact ⟨fun h => h.elim, fun ⟨_, _, e, _⟩ => by cases e⟩
theorem Wp.mono {α : Type} {r : Res α} {p p' : Post α} (h : @Wp _ r p) (k : ∀ a s, p.q a s → p'.q a s) : @Wp _ r p' := by
  cases r with
  | ok a s => exact k a s h
  | exc c as s => exact h
  | bad => exact h
theorem Wp.of {α : Type} {r : Res α} {a : α} {s : Store} {p : Post α} (e : r = .ok a s) (h : p.q a s) : @Wp _ r p := by rw [e]; exact h
theorem wpb {α β : Type} {r : Res α} {f : α → Store → Res β} {pp : Post β} {q : α → Store → Prop} (h : ∀ a s, @Wp _ (f a s) pp = q a s) : @Wp _ (r.bind f) pp = @Wp _ r ⟨q⟩ := by
  rw [wp_bind]
  exact congrArg (fun z => @Wp _ r ⟨z⟩) (funext fun a => funext fun s => h a s)
/-! ### the equations -/
set_option autoImplicit true in
@[simp ↓] theorem w_eval_var {C : Calls} {σ : Env} {st : Store} {pp : Post Val} : @Wp _ (eval C (Ex.var i) σ st) pp = (@Wp _ (match σ[i]? with
    | some (some v) => .ok v st
    | _ => .bad) pp) := by
  rw [eval_var]
  repeat (refine wpb fun _ _ => ?_)
  try rfl
set_option autoImplicit true in
@[simp ↓] theorem w_eval_con {C : Calls} {σ : Env} {st : Store} {pp : Post Val} : @Wp _ (eval C (Ex.con d) σ st) pp = (@Wp _ (.ok (.d d) st) pp) := by
  rw [eval_con]
  repeat (refine wpb fun _ _ => ?_)
  try rfl
set_option autoImplicit true in
@[simp ↓] theorem w_eval_tup {C : Calls} {σ : Env} {st : Store} {pp : Post Val} : @Wp _ (eval C (Ex.tup es) σ st) pp = (@Wp _ (evals C es σ st) ⟨fun vs s1 => @Wp _ (optR (asDs vs) s1) ⟨fun ds s2 => @Wp _ (.ok (.d (.tup ds)) s2) pp⟩⟩) := by
  rw [eval_tup]
  repeat (refine wpb fun _ _ => ?_)
  try rfl
set_option autoImplicit true in
@[simp ↓] theorem w_eval_lst {C : Calls} {σ : Env} {st : Store} {pp : Post Val} : @Wp _ (eval C (Ex.lst es) σ st) pp = (@Wp _ (evals C es σ st) ⟨fun vs s1 => @Wp _ (optR (asDs vs) s1) ⟨fun ds s2 => @Wp _ (.ok (.d (.lst ds)) s2) pp⟩⟩) := by
  rw [eval_lst]
  repeat (refine wpb fun _ _ => ?_)
  try rfl
set_option autoImplicit true in
@[simp ↓] theorem w_eval_newL {C : Calls} {σ : Env} {st : Store} {pp : Post Val} : @Wp _ (eval C (Ex.newL e) σ st) pp = (@Wp _ (eval C e σ st) ⟨fun v s1 => @Wp _ (match v with
    | .d (.lst xs) => .ok (.ref s1.length) (s1 ++ [.lst xs])
    | _ => .bad) pp⟩) := by
  rw [eval_newL]
  repeat (refine wpb fun _ _ => ?_)
  try rfl
set_option autoImplicit true in
@[simp ↓] theorem w_eval_newD {C : Calls} {σ : Env} {st : Store} {pp : Post Val} : @Wp _ (eval C (Ex.newD) σ st) pp = (@Wp _ (.ok (.ref st.length) (st ++ [.dic []])) pp) := by
  rw [eval_newD]
  repeat (refine wpb fun _ _ => ?_)
  try rfl
set_option autoImplicit true in
@[simp ↓] theorem w_eval_newDC {C : Calls} {σ : Env} {st : Store} {pp : Post Val} : @Wp _ (eval C (Ex.newDC e) σ st) pp = (@Wp _ (eval C e σ st) ⟨fun v s1 => @Wp _ (match v with
    | .ref n => match s1[n]? with
      | some (.dic kvs) => .ok (.ref s1.length) (s1 ++ [.dic kvs])
      | _ => .bad
    | _ => .bad) pp⟩) := by
  rw [eval_newDC]
  repeat (refine wpb fun _ _ => ?_)
  try rfl
set_option autoImplicit true in
@[simp ↓] theorem w_eval_newDP {C : Calls} {σ : Env} {st : Store} {pp : Post Val} : @Wp _ (eval C (Ex.newDP e) σ st) pp = (@Wp _ (eval C e σ st) ⟨fun v s1 => @Wp _ (match v with
    | .d (.lst xs) => match mergeP [] xs with
      | some kvs => .ok (.ref s1.length) (s1 ++ [.dic kvs])
      | none => .bad
    | _ => .bad) pp⟩) := by
  rw [eval_newDP]
  repeat (refine wpb fun _ _ => ?_)
  try rfl
set_option autoImplicit true in
@[simp ↓] theorem w_eval_newDd {C : Calls} {σ : Env} {st : Store} {pp : Post Val} : @Wp _ (eval C (Ex.newDd es) σ st) pp = (@Wp _ (evals C es σ st) ⟨fun us s1 => @Wp _ (optR (asDs us) s1) ⟨fun ds s2 => @Wp _ (match mergeF [] ds with
    | some kvs => .ok (.ref s2.length) (s2 ++ [.dic kvs])
    | none => .bad) pp⟩⟩) := by
  rw [eval_newDd]
  repeat (refine wpb fun _ _ => ?_)
  try rfl
set_option autoImplicit true in
@[simp ↓] theorem w_eval_frz {C : Calls} {σ : Env} {st : Store} {pp : Post Val} : @Wp _ (eval C (Ex.frz e) σ st) pp = (@Wp _ (eval C e σ st) ⟨fun v s1 => @Wp _ (match v with
    | .ref n => match s1[n]? with
      | some (.lst xs) => .ok (.d (.lst xs)) (s1.set n .dead)
      | _ => .bad
    | _ => .bad) pp⟩) := by
  rw [eval_frz]
  repeat (refine wpb fun _ _ => ?_)
  try rfl
set_option autoImplicit true in
@[simp ↓] theorem w_eval_frzT {C : Calls} {σ : Env} {st : Store} {pp : Post Val} : @Wp _ (eval C (Ex.frzT e) σ st) pp = (@Wp _ (eval C e σ st) ⟨fun v s1 => @Wp _ (match v with
    | .ref n => if st.length ≤ n then match s1[n]? with
      | some (.lst xs) => .ok (.d (.lst xs)) (s1.take st.length)
      | _ => .bad
      else .bad
    | _ => .bad) pp⟩) := by
  rw [eval_frzT]
  repeat (refine wpb fun _ _ => ?_)
  try rfl
set_option autoImplicit true in
@[simp ↓] theorem w_eval_bin {C : Calls} {σ : Env} {st : Store} {pp : Post Val} : @Wp _ (eval C (Ex.bin o a b) σ st) pp = (@Wp _ (eval C a σ st) ⟨fun x s1 => @Wp _ (eval C b σ s1) ⟨fun y s2 => @Wp _ (optR (deref s2 x) s2) ⟨fun p s3 => @Wp _ (optR (deref s2 y) s3) ⟨fun q s4 => @Wp _ (optR (D.bin o p q) s4) ⟨fun r s5 => @Wp _ (.ok (.d r) s5) pp⟩⟩⟩⟩⟩) := by
  rw [eval_bin]
  repeat (refine wpb fun _ _ => ?_)
  try rfl
set_option autoImplicit true in
@[simp ↓] theorem w_eval_neg {C : Calls} {σ : Env} {st : Store} {pp : Post Val} : @Wp _ (eval C (Ex.neg a) σ st) pp = (@Wp _ (eval C a σ st) ⟨fun x s1 => @Wp _ (optR (asI x) s1) ⟨fun i s2 => @Wp _ (.ok (.d (.int (-i))) s2) pp⟩⟩) := by
  rw [eval_neg]
  repeat (refine wpb fun _ _ => ?_)
  try rfl
set_option autoImplicit true in
@[simp ↓] theorem w_eval_cmp {C : Calls} {σ : Env} {st : Store} {pp : Post Val} : @Wp _ (eval C (Ex.cmp o a b) σ st) pp = (@Wp _ (eval C a σ st) ⟨fun x s1 => @Wp _ (eval C b σ s1) ⟨fun y s2 => @Wp _ (optR (cmpV o s2 x y) s2) ⟨fun r s3 => @Wp _ (.ok (.d (.bool r)) s3) pp⟩⟩⟩) := by
  rw [eval_cmp]
  repeat (refine wpb fun _ _ => ?_)
  try rfl
set_option autoImplicit true in
@[simp ↓] theorem w_eval_chain {C : Calls} {σ : Env} {st : Store} {pp : Post Val} : @Wp _ (eval C (Ex.chain o o' a b c) σ st) pp = (@Wp _ (eval C a σ st) ⟨fun x s1 => @Wp _ (eval C b σ s1) ⟨fun y s2 => @Wp _ (optR (cmpV o s2 x y) s2) ⟨fun r s3 => @Wp _ (if r then (eval C c σ s3).bind fun z s4 => (optR (cmpV o' s4 y z) s4).bind fun q s5 => .ok (.d (.bool q)) s5 else .ok (.d (.bool false)) s3) pp⟩⟩⟩) := by
  rw [eval_chain]
  repeat (refine wpb fun _ _ => ?_)
  try rfl
set_option autoImplicit true in
@[simp ↓] theorem w_eval_and {C : Calls} {σ : Env} {st : Store} {pp : Post Val} : @Wp _ (eval C (Ex.and a b) σ st) pp = (@Wp _ (eval C a σ st) ⟨fun x s1 => @Wp _ (optR (asB x) s1) ⟨fun c s2 => @Wp _ (if c then eval C b σ s2 else .ok (.d (.bool false)) s2) pp⟩⟩) := by
  rw [eval_and]
  repeat (refine wpb fun _ _ => ?_)
  try rfl
set_option autoImplicit true in
@[simp ↓] theorem w_eval_or {C : Calls} {σ : Env} {st : Store} {pp : Post Val} : @Wp _ (eval C (Ex.or a b) σ st) pp = (@Wp _ (eval C a σ st) ⟨fun x s1 => @Wp _ (optR (asB x) s1) ⟨fun c s2 => @Wp _ (if c then .ok (.d (.bool true)) s2 else eval C b σ s2) pp⟩⟩) := by
  rw [eval_or]
  repeat (refine wpb fun _ _ => ?_)
  try rfl
set_option autoImplicit true in
@[simp ↓] theorem w_eval_not {C : Calls} {σ : Env} {st : Store} {pp : Post Val} : @Wp _ (eval C (Ex.not a) σ st) pp = (@Wp _ (eval C a σ st) ⟨fun x s1 => @Wp _ (optR (asB x) s1) ⟨fun c s2 => @Wp _ (.ok (.d (.bool (!c))) s2) pp⟩⟩) := by
  rw [eval_not]
  repeat (refine wpb fun _ _ => ?_)
  try rfl
set_option autoImplicit true in
@[simp ↓] theorem w_eval_ite {C : Calls} {σ : Env} {st : Store} {pp : Post Val} : @Wp _ (eval C (Ex.ite c a b) σ st) pp = (@Wp _ (eval C c σ st) ⟨fun x s1 => @Wp _ (optR (asB x) s1) ⟨fun c s2 => @Wp _ (if c then eval C a σ s2 else eval C b σ s2) pp⟩⟩) := by
  rw [eval_ite]
  repeat (refine wpb fun _ _ => ?_)
  try rfl
set_option autoImplicit true in
@[simp ↓] theorem w_eval_idx {C : Calls} {σ : Env} {st : Store} {pp : Post Val} : @Wp _ (eval C (Ex.idx a b) σ st) pp = (@Wp _ (eval C a σ st) ⟨fun x s1 => @Wp _ (eval C b σ s1) ⟨fun y s2 => @Wp _ (optR (indexV s2 x y) s2) ⟨fun r s3 => @Wp _ (.ok (.d r) s3) pp⟩⟩⟩) := by
  rw [eval_idx]
  repeat (refine wpb fun _ _ => ?_)
  try rfl
set_option autoImplicit true in
@[simp ↓] theorem w_eval_sli {C : Calls} {σ : Env} {st : Store} {pp : Post Val} : @Wp _ (eval C (Ex.sli a lo hi) σ st) pp = (@Wp _ (eval C a σ st) ⟨fun x s1 => @Wp _ (evalO C lo σ s1) ⟨fun l s2 => @Wp _ (evalO C hi σ s2) ⟨fun h s3 => @Wp _ (optR (deref s3 x) s3) ⟨fun p s4 => @Wp _ (optR (p.slice l h) s4) ⟨fun r s5 => @Wp _ (.ok (.d r) s5) pp⟩⟩⟩⟩⟩) := by
  rw [eval_sli]
  repeat (refine wpb fun _ _ => ?_)
  try rfl
set_option autoImplicit true in
@[simp ↓] theorem w_eval_call {C : Calls} {σ : Env} {st : Store} {pp : Post Val} : @Wp _ (eval C (Ex.call f es) σ st) pp = (@Wp _ (evals C es σ st) ⟨fun vs s1 => @Wp _ (C f vs s1) pp⟩) := by
  rw [eval_call]
  repeat (refine wpb fun _ _ => ?_)
  try rfl
set_option autoImplicit true in
@[simp ↓] theorem w_eval_callP {C : Calls} {σ : Env} {st : Store} {pp : Post Val} : @Wp _ (eval C (Ex.callP f es perm) σ st) pp = (@Wp _ (evals C es σ st) ⟨fun vs s1 => @Wp _ (C f (perm.filterMap fun i => vs[i]?) s1) pp⟩) := by
  rw [eval_callP]
  repeat (refine wpb fun _ _ => ?_)
  try rfl
set_option autoImplicit true in
@[simp ↓] theorem w_eval_blt {C : Calls} {σ : Env} {st : Store} {pp : Post Val} : @Wp _ (eval C (Ex.blt f es) σ st) pp = (@Wp _ (evals C es σ st) ⟨fun vs s1 => @Wp _ (bltV f vs s1) pp⟩) := by
  rw [eval_blt]
  repeat (refine wpb fun _ _ => ?_)
  try rfl
set_option autoImplicit true in
@[simp ↓] theorem w_eval_mth {C : Calls} {σ : Env} {st : Store} {pp : Post Val} : @Wp _ (eval C (Ex.mth m o es) σ st) pp = (@Wp _ (eval C o σ st) ⟨fun x s1 => @Wp _ (if mthOk m x s1 then (evals C es σ s1).bind fun vs s2 => mthV m x vs s2 else .bad) pp⟩) := by
  rw [eval_mth]
  repeat (refine wpb fun _ _ => ?_)
  try rfl
set_option autoImplicit true in
@[simp ↓] theorem w_eval_isi {C : Calls} {σ : Env} {st : Store} {pp : Post Val} : @Wp _ (eval C (Ex.isi e ts) σ st) pp = (@Wp _ (eval C e σ st) ⟨fun x s1 => @Wp _ (optR (deref s1 x) s1) ⟨fun p s2 => @Wp _ (optR (isiV ts p) s2) ⟨fun r s3 => @Wp _ (.ok (.d r) s3) pp⟩⟩⟩) := by
  rw [eval_isi]
  repeat (refine wpb fun _ _ => ?_)
  try rfl
set_option autoImplicit true in
@[simp ↓] theorem w_eval_fs {C : Calls} {σ : Env} {st : Store} {pp : Post Val} : @Wp _ (eval C (Ex.fs es) σ st) pp = (@Wp _ (evals C es σ st) ⟨fun vs s1 => @Wp _ (optR (asDs vs) s1) ⟨fun ds s2 => @Wp _ (optR (D.strs ds) s2) ⟨fun ys s3 => @Wp _ (if (ys.map (·.length)).sum ≤ LIM then .ok (.d (.str (joinS "" ys))) s3 else .bad) pp⟩⟩⟩) := by
  rw [eval_fs]
  repeat (refine wpb fun _ _ => ?_)
  try rfl
set_option autoImplicit true in
@[simp ↓] theorem w_eval_kd {C : Calls} {σ : Env} {st : Store} {pp : Post Val} : @Wp _ (eval C (Ex.kd o kvs e) σ st) pp = (@Wp _ (eval C e σ st) ⟨fun x s1 => @Wp _ (optR (kdV o kvs x) s1) ⟨fun r s2 => @Wp _ (.ok (.d r) s2) pp⟩⟩) := by
  rw [eval_kd]
  repeat (refine wpb fun _ _ => ?_)
  try rfl
set_option autoImplicit true in
@[simp ↓] theorem w_eval_rev {C : Calls} {σ : Env} {st : Store} {pp : Post Val} : @Wp _ (eval C (Ex.rev e) σ st) pp = (@Wp _ (eval C e σ st) ⟨fun x s1 => @Wp _ (optR (deref s1 x) s1) ⟨fun p s2 => @Wp _ (optR (revV p) s2) ⟨fun r s3 => @Wp _ (.ok (.d r) s3) pp⟩⟩⟩) := by
  rw [eval_rev]
  repeat (refine wpb fun _ _ => ?_)
  try rfl
set_option autoImplicit true in
@[simp ↓] theorem w_eval_comp {C : Calls} {σ : Env} {st : Store} {pp : Post Val} : @Wp _ (eval C (Ex.comp elt tg it cs) σ st) pp = (@Wp _ (eval C it σ st) ⟨fun x s1 => @Wp _ (optR (asD x) s1) ⟨fun p s2 => @Wp _ (optR p.seq s2) ⟨fun xs s3 => @Wp _ (compL (compStep (eval C elt) (conds C cs) tg (wipe σ tg.slots)) xs s3) ⟨fun ys s8 => @Wp _ (.ok (.d (.lst ys)) s8) pp⟩⟩⟩⟩) := by
  rw [eval_comp]
  repeat (refine wpb fun _ _ => ?_)
  try rfl
set_option autoImplicit true in
@[simp ↓] theorem w_eval_callV {C : Calls} {σ : Env} {st : Store} {pp : Post Val} : @Wp _ (eval C (Ex.callV fs o es) σ st) pp = (@Wp _ (eval C o σ st) ⟨fun x s1 => @Wp _ (match x with
    | .d (.fn f) => if f ∈ fs then (evals C es σ s1).bind fun vs s2 => C f vs s2 else .bad
    | _ => .bad) pp⟩) := by
  rw [eval_callV]
  repeat (refine wpb fun _ _ => ?_)
  try rfl
set_option autoImplicit true in
@[simp ↓] theorem w_eval_compO {C : Calls} {σ : Env} {st : Store} {pp : Post Val} : @Wp _ (eval C (Ex.compO elt tg o cs) σ st) pp = (@Wp _ (eval C o σ st) ⟨fun x s1 => @Wp _ (optR (lstOf s1 x) s1) ⟨fun xs s3 => @Wp _ (compL (guardL x xs (compStep (eval C elt) (conds C cs) tg (wipe σ tg.slots))) xs s3) ⟨fun ys s8 => @Wp _ (guardO x xs (.ok (.d (.lst ys)) s8) s8) pp⟩⟩⟩) := by
  rw [eval_compO]
  repeat (refine wpb fun _ _ => ?_)
  try rfl
set_option autoImplicit true in
@[simp ↓] theorem w_eval_newI {C : Calls} {σ : Env} {st : Store} {pp : Post Val} : @Wp _ (eval C (Ex.newI c) σ st) pp = (@Wp _ (pushO st (.inst c [])) pp) := by
  rw [eval_newI]
  repeat (refine wpb fun _ _ => ?_)
  try rfl
set_option autoImplicit true in
@[simp ↓] theorem w_eval_newO {C : Calls} {σ : Env} {st : Store} {pp : Post Val} : @Wp _ (eval C (Ex.newO e) σ st) pp = (@Wp _ (eval C e σ st) ⟨fun v s1 => @Wp _ (match v with
    | .d (.lst xs) => pushO s1 (.lst xs)
    | _ => .bad) pp⟩) := by
  rw [eval_newO]
  repeat (refine wpb fun _ _ => ?_)
  try rfl
set_option autoImplicit true in
@[simp ↓] theorem w_eval_newOD {C : Calls} {σ : Env} {st : Store} {pp : Post Val} : @Wp _ (eval C (Ex.newOD) σ st) pp = (@Wp _ (pushO st (.dic [])) pp) := by
  rw [eval_newOD]
  repeat (refine wpb fun _ _ => ?_)
  try rfl
set_option autoImplicit true in
@[simp ↓] theorem w_eval_fld {C : Calls} {σ : Env} {st : Store} {pp : Post Val} : @Wp _ (eval C (Ex.fld c o f) σ st) pp = (@Wp _ (eval C o σ st) ⟨fun x s1 => @Wp _ (optR (fldV s1 x c f) s1) ⟨fun r s2 => @Wp _ (.ok (.d r) s2) pp⟩⟩) := by
  rw [eval_fld]
  repeat (refine wpb fun _ _ => ?_)
  try rfl
set_option autoImplicit true in
@[simp ↓] theorem w_eval_meth {C : Calls} {σ : Env} {st : Store} {pp : Post Val} : @Wp _ (eval C (Ex.meth c m o es) σ st) pp = (@Wp _ (eval C o σ st) ⟨fun x s1 => @Wp _ (if methOk s1 x c m then (evals C es σ s1).bind fun vs s2 => C (c ++ "." ++ m) (x :: vs) s2 else .bad) pp⟩) := by
  rw [eval_meth]
  repeat (refine wpb fun _ _ => ?_)
  try rfl
set_option autoImplicit true in
@[simp ↓] theorem w_eval_oq {C : Calls} {σ : Env} {st : Store} {pp : Post Val} : @Wp _ (eval C (Ex.oq q o es) σ st) pp = (@Wp _ (eval C o σ st) ⟨fun x s1 => @Wp _ (evals C es σ s1) ⟨fun vs s2 => @Wp _ (optR (oqV q s2 x vs) s2) ⟨fun r s3 => @Wp _ (.ok (.d r) s3) pp⟩⟩⟩) := by
  rw [eval_oq]
  repeat (refine wpb fun _ _ => ?_)
  try rfl
set_option autoImplicit true in
@[simp ↓] theorem w_eval_oin {C : Calls} {σ : Env} {st : Store} {pp : Post Val} : @Wp _ (eval C (Ex.oin b k o) σ st) pp = (@Wp _ (eval C k σ st) ⟨fun y s1 => @Wp _ (eval C o σ s1) ⟨fun x s2 => @Wp _ (optR (oinV s2 y x) s2) ⟨fun r s3 => @Wp _ (.ok (.d (.bool (r != b))) s3) pp⟩⟩⟩) := by
  rw [eval_oin]
  repeat (refine wpb fun _ _ => ?_)
  try rfl
set_option autoImplicit true in
@[simp ↓] theorem w_eval_om {C : Calls} {σ : Env} {st : Store} {pp : Post Val} : @Wp _ (eval C (Ex.om m o es) σ st) pp = (@Wp _ (eval C o σ st) ⟨fun x s1 => @Wp _ (if omOk s1 x then (evals C es σ s1).bind fun vs s2 => omV m s2 x vs else .bad) pp⟩) := by
  rw [eval_om]
  repeat (refine wpb fun _ _ => ?_)
  try rfl
set_option autoImplicit true in
@[simp ↓] theorem w_eval_dkeys {C : Calls} {σ : Env} {st : Store} {pp : Post Val} : @Wp _ (eval C (Ex.dkeys e) σ st) pp = (@Wp _ (eval C e σ st) ⟨fun x s1 => @Wp _ (optR (dkeysV s1 x) s1) ⟨fun r s2 => @Wp _ (.ok (.d r) s2) pp⟩⟩) := by
  rw [eval_dkeys]
  repeat (refine wpb fun _ _ => ?_)
  try rfl
set_option autoImplicit true in
@[simp ↓] theorem w_eval_nn {C : Calls} {σ : Env} {st : Store} {pp : Post Val} : @Wp _ (eval C (Ex.nn e) σ st) pp = (@Wp _ (eval C e σ st) ⟨fun x s1 => @Wp _ (optR (nnV s1 x) s1) ⟨fun r s2 => @Wp _ (.ok (.d r) s2) pp⟩⟩) := by
  rw [eval_nn]
  repeat (refine wpb fun _ _ => ?_)
  try rfl
set_option autoImplicit true in
@[simp ↓] theorem w_eval_xfld {C : Calls} {σ : Env} {st : Store} {pp : Post Val} : @Wp _ (eval C (Ex.xfld e f) σ st) pp = (@Wp _ (eval C e σ st) ⟨fun x s1 => @Wp _ (optR (xfldV f x) s1) ⟨fun r s2 => @Wp _ (.ok (.d r) s2) pp⟩⟩) := by
  rw [eval_xfld]
  repeat (refine wpb fun _ _ => ?_)
  try rfl
set_option autoImplicit true in
@[simp ↓] theorem w_eval_isx {C : Calls} {σ : Env} {st : Store} {pp : Post Val} : @Wp _ (eval C (Ex.isx e tb) σ st) pp = (@Wp _ (eval C e σ st) ⟨fun x s1 => @Wp _ (optR (isxV tb x) s1) ⟨fun r s2 => @Wp _ (.ok (.d r) s2) pp⟩⟩) := by
  rw [eval_isx]
  repeat (refine wpb fun _ _ => ?_)
  try rfl
set_option autoImplicit true in
@[simp ↓] theorem w_eval_kdd {C : Calls} {σ : Env} {st : Store} {pp : Post Val} : @Wp _ (eval C (Ex.kdd kvs e f) σ st) pp = (@Wp _ (eval C e σ st) ⟨fun x s1 => @Wp _ (eval C f σ s1) ⟨fun y s2 => @Wp _ (optR (kddV kvs x y) s2) ⟨fun r s3 => @Wp _ (.ok (.d r) s3) pp⟩⟩⟩) := by
  rw [eval_kdd]
  repeat (refine wpb fun _ _ => ?_)
  try rfl
set_option autoImplicit true in
@[simp ↓] theorem w_eval_anyQ {C : Calls} {σ : Env} {st : Store} {pp : Post Val} : @Wp _ (eval C (Ex.anyQ q e es) σ st) pp = (@Wp _ (eval C e σ st) ⟨fun x s1 => @Wp _ (evals C es σ s1) ⟨fun vs s2 => @Wp _ (optR (anyV q s2 x vs) s2) ⟨fun r s3 => @Wp _ (.ok (.d r) s3) pp⟩⟩⟩) := by
  rw [eval_anyQ]
  repeat (refine wpb fun _ _ => ?_)
  try rfl
set_option autoImplicit true in
@[simp ↓] theorem w_eval_newX {C : Calls} {σ : Env} {st : Store} {pp : Post Val} : @Wp _ (eval C (Ex.newX c f e) σ st) pp = (@Wp _ (eval C e σ st) ⟨fun x s1 => @Wp _ (optR (asD x) s1) ⟨fun d s2 => @Wp _ (.ok (.d (exnOf c [(f, d)])) s2) pp⟩⟩) := by
  rw [eval_newX]
  repeat (refine wpb fun _ _ => ?_)
  try rfl
set_option autoImplicit true in
@[simp ↓] theorem w_evals_nil {C : Calls} {σ : Env} {st : Store} {pp : Post (List Val)} : @Wp _ (evals C ([]) σ st) pp = (@Wp _ (.ok [] st) pp) := by
  rw [evals_nil]
  repeat (refine wpb fun _ _ => ?_)
  try rfl
set_option autoImplicit true in
@[simp ↓] theorem w_evals_cons {C : Calls} {σ : Env} {st : Store} {pp : Post (List Val)} : @Wp _ (evals C (e :: es) σ st) pp = (@Wp _ (eval C e σ st) ⟨fun v s1 => @Wp _ (evals C es σ s1) ⟨fun vs s2 => @Wp _ (.ok (v :: vs) s2) pp⟩⟩) := by
  rw [evals_cons]
  repeat (refine wpb fun _ _ => ?_)
  try rfl
set_option autoImplicit true in
@[simp ↓] theorem w_evalO_none {C : Calls} {σ : Env} {st : Store} {pp : Post (Option Int)} : @Wp _ (evalO C (none) σ st) pp = (@Wp _ (.ok none st) pp) := by
  rw [evalO_none]
  repeat (refine wpb fun _ _ => ?_)
  try rfl
set_option autoImplicit true in
@[simp ↓] theorem w_evalO_some {C : Calls} {σ : Env} {st : Store} {pp : Post (Option Int)} : @Wp _ (evalO C (some e) σ st) pp = (@Wp _ (eval C e σ st) ⟨fun v s1 => @Wp _ (optR (asI v) s1) ⟨fun i s2 => @Wp _ (.ok (some i) s2) pp⟩⟩) := by
  rw [evalO_some]
  repeat (refine wpb fun _ _ => ?_)
  try rfl
set_option autoImplicit true in
@[simp ↓] theorem w_conds_nil {C : Calls} {σ : Env} {st : Store} {pp : Post Bool} : @Wp _ (conds C ([]) σ st) pp = (@Wp _ (.ok true st) pp) := by
  rw [conds_nil]
  repeat (refine wpb fun _ _ => ?_)
  try rfl
set_option autoImplicit true in
@[simp ↓] theorem w_conds_cons {C : Calls} {σ : Env} {st : Store} {pp : Post Bool} : @Wp _ (conds C (e :: es) σ st) pp = (@Wp _ (eval C e σ st) ⟨fun v s1 => @Wp _ (optR (asB v) s1) ⟨fun c s2 => @Wp _ (if c then conds C es σ s2 else .ok false s2) pp⟩⟩) := by
  rw [conds_cons]
  repeat (refine wpb fun _ _ => ?_)
  try rfl
set_option autoImplicit true in
@[simp ↓] theorem w_exec_asg {C : Calls} {σ : Env} {st : Store} {pp : Post Out} : @Wp _ (exec C (Stm.asg t e) σ st) pp = (@Wp _ (eval C e σ st) ⟨fun v s1 => @Wp _ (optR (t.putV v σ) s1) ⟨fun σ1 s2 => @Wp _ (.ok (.nx σ1) s2) pp⟩⟩) := by
  rw [exec_asg]
  repeat (refine wpb fun _ _ => ?_)
  try rfl
set_option autoImplicit true in
@[simp ↓] theorem w_exec_par {C : Calls} {σ : Env} {st : Store} {pp : Post Out} : @Wp _ (exec C (Stm.par i j a b) σ st) pp = (@Wp _ (eval C a σ st) ⟨fun x s1 => @Wp _ (eval C b σ s1) ⟨fun y s2 => @Wp _ (.ok (.nx ((σ.set i (some x)).set j (some y))) s2) pp⟩⟩) := by
  rw [exec_par]
  repeat (refine wpb fun _ _ => ?_)
  try rfl
set_option autoImplicit true in
@[simp ↓] theorem w_exec_set {C : Calls} {σ : Env} {st : Store} {pp : Post Out} : @Wp _ (exec C (Stm.set o i e) σ st) pp = (@Wp _ (eval C e σ st) ⟨fun v s1 => @Wp _ (eval C o σ s1) ⟨fun x s2 => @Wp _ (eval C i σ s2) ⟨fun k s3 => @Wp _ (optR (asD v) s3) ⟨fun d s4 => @Wp _ (optR (setV x k d s4) s4) ⟨fun s5 _ => @Wp _ (.ok (.nx σ) s5) pp⟩⟩⟩⟩⟩) := by
  rw [exec_set]
  repeat (refine wpb fun _ _ => ?_)
  try rfl
set_option autoImplicit true in
@[simp ↓] theorem w_exec_ex {C : Calls} {σ : Env} {st : Store} {pp : Post Out} : @Wp _ (exec C (Stm.ex e) σ st) pp = (@Wp _ (eval C e σ st) ⟨fun _ s1 => @Wp _ (.ok (.nx σ) s1) pp⟩) := by
  rw [exec_ex]
  repeat (refine wpb fun _ _ => ?_)
  try rfl
set_option autoImplicit true in
@[simp ↓] theorem w_exec_ret {C : Calls} {σ : Env} {st : Store} {pp : Post Out} : @Wp _ (exec C (Stm.ret e) σ st) pp = (@Wp _ (eval C e σ st) ⟨fun v s1 => @Wp _ (.ok (.ret v) s1) pp⟩) := by
  rw [exec_ret]
  repeat (refine wpb fun _ _ => ?_)
  try rfl
set_option autoImplicit true in
@[simp ↓] theorem w_exec_ite {C : Calls} {σ : Env} {st : Store} {pp : Post Out} : @Wp _ (exec C (Stm.ite c a b) σ st) pp = (@Wp _ (eval C c σ st) ⟨fun x s1 => @Wp _ (optR (asB x) s1) ⟨fun c s2 => @Wp _ (if c then execs C a σ s2 else execs C b σ s2) pp⟩⟩) := by
  rw [exec_ite]
  repeat (refine wpb fun _ _ => ?_)
  try rfl
set_option autoImplicit true in
@[simp ↓] theorem w_exec_loop {C : Calls} {σ : Env} {st : Store} {pp : Post Out} : @Wp _ (exec C (Stm.loop t it body) σ st) pp = (@Wp _ (eval C it σ st) ⟨fun x s1 => @Wp _ (optR (asD x) s1) ⟨fun p s2 => @Wp _ (optR p.seq s2) ⟨fun xs s3 => @Wp _ (loopL t.putF (execs C body) xs σ s3) pp⟩⟩⟩) := by
  rw [exec_loop]
  repeat (refine wpb fun _ _ => ?_)
  try rfl
set_option autoImplicit true in
@[simp ↓] theorem w_exec_while {C : Calls} {σ : Env} {st : Store} {pp : Post Out} : @Wp _ (exec C (Stm.while c body) σ st) pp = (@Wp _ (whileU (condB (eval C c)) (execs C body) σ st) pp) := by
  rw [exec_while]
  repeat (refine wpb fun _ _ => ?_)
  try rfl
set_option autoImplicit true in
@[simp ↓] theorem w_exec_aug {C : Calls} {σ : Env} {st : Store} {pp : Post Out} : @Wp _ (exec C (Stm.aug i o e) σ st) pp = (@Wp _ (match σ[i]? with
    | some (some x) => (eval C e σ st).bind fun y s1 => (optR (asI x) s1).bind fun p s2 => (optR (asI y) s2).bind fun q s3 => (optR (augI o p q) s3).bind fun r s4 => .ok (.nx (σ.set i (some (.d (.int r))))) s4
    | _ => .bad) pp) := by
  rw [exec_aug]
  repeat (refine wpb fun _ _ => ?_)
  try rfl
set_option autoImplicit true in
@[simp ↓] theorem w_exec_pass {C : Calls} {σ : Env} {st : Store} {pp : Post Out} : @Wp _ (exec C (Stm.pass) σ st) pp = (@Wp _ (.ok (.nx σ) st) pp) := by
  rw [exec_pass]
  repeat (refine wpb fun _ _ => ?_)
  try rfl
set_option autoImplicit true in
@[simp ↓] theorem w_exec_brk {C : Calls} {σ : Env} {st : Store} {pp : Post Out} : @Wp _ (exec C (Stm.brk) σ st) pp = (@Wp _ (.ok (.brk σ) st) pp) := by
  rw [exec_brk]
  repeat (refine wpb fun _ _ => ?_)
  try rfl
set_option autoImplicit true in
@[simp ↓] theorem w_exec_cnt {C : Calls} {σ : Env} {st : Store} {pp : Post Out} : @Wp _ (exec C (Stm.cnt) σ st) pp = (@Wp _ (.ok (.cnt σ) st) pp) := by
  rw [exec_cnt]
  repeat (refine wpb fun _ _ => ?_)
  try rfl
set_option autoImplicit true in
@[simp ↓] theorem w_exec_never {C : Calls} {σ : Env} {st : Store} {pp : Post Out} : @Wp _ (exec C (Stm.never) σ st) pp = (@Wp _ (.bad) pp) := by
  rw [exec_never]
  repeat (refine wpb fun _ _ => ?_)
  try rfl
set_option autoImplicit true in
@[simp ↓] theorem w_exec_setf {C : Calls} {σ : Env} {st : Store} {pp : Post Out} : @Wp _ (exec C (Stm.setf c o f e) σ st) pp = (@Wp _ (eval C e σ st) ⟨fun v s1 => @Wp _ (eval C o σ s1) ⟨fun x s2 => @Wp _ (optR (asD v) s2) ⟨fun d s3 => @Wp _ (optR (setFV s3 x c f d) s3) ⟨fun s4 _ => @Wp _ (.ok (.nx σ) s4) pp⟩⟩⟩⟩) := by
  rw [exec_setf]
  repeat (refine wpb fun _ _ => ?_)
  try rfl
set_option autoImplicit true in
@[simp ↓] theorem w_exec_augf {C : Calls} {σ : Env} {st : Store} {pp : Post Out} : @Wp _ (exec C (Stm.augf c o f p e) σ st) pp = (@Wp _ (eval C o σ st) ⟨fun x s1 => @Wp _ (optR (fldV s1 x c f) s1) ⟨fun a s2 => @Wp _ (optR (asI (.d a)) s2) ⟨fun i s3 => @Wp _ (eval C e σ s3) ⟨fun y s4 => @Wp _ (optR (asI y) s4) ⟨fun j s5 => @Wp _ (optR (augI p i j) s5) ⟨fun r s6 => @Wp _ (optR (setFV s6 x c f (.int r)) s6) ⟨fun s7 _ => @Wp _ (.ok (.nx σ) s7) pp⟩⟩⟩⟩⟩⟩⟩) := by
  rw [exec_augf]
  repeat (refine wpb fun _ _ => ?_)
  try rfl
set_option autoImplicit true in
@[simp ↓] theorem w_exec_asgO {C : Calls} {σ : Env} {st : Store} {pp : Post Out} : @Wp _ (exec C (Stm.asgO t e) σ st) pp = (@Wp _ (eval C e σ st) ⟨fun v s1 => @Wp _ (optR (lstO s1 v) s1) ⟨fun d s2 => @Wp _ (optR (t.put d σ) s2) ⟨fun σ1 s3 => @Wp _ (.ok (.nx σ1) s3) pp⟩⟩⟩) := by
  rw [exec_asgO]
  repeat (refine wpb fun _ _ => ?_)
  try rfl
set_option autoImplicit true in
@[simp ↓] theorem w_exec_setO {C : Calls} {σ : Env} {st : Store} {pp : Post Out} : @Wp _ (exec C (Stm.setO o i e) σ st) pp = (@Wp _ (eval C e σ st) ⟨fun v s1 => @Wp _ (eval C o σ s1) ⟨fun x s2 => @Wp _ (eval C i σ s2) ⟨fun k s3 => @Wp _ (optR (asD v) s3) ⟨fun d s4 => @Wp _ (optR (setOV s4 x k d) s4) ⟨fun s5 _ => @Wp _ (.ok (.nx σ) s5) pp⟩⟩⟩⟩⟩) := by
  rw [exec_setO]
  repeat (refine wpb fun _ _ => ?_)
  try rfl
set_option autoImplicit true in
@[simp ↓] theorem w_execs_nil {C : Calls} {σ : Env} {st : Store} {pp : Post Out} : @Wp _ (execs C ([]) σ st) pp = (@Wp _ (.ok (.nx σ) st) pp) := by
  rw [execs_nil]
  repeat (refine wpb fun _ _ => ?_)
  try rfl
set_option autoImplicit true in
@[simp ↓] theorem w_execs_cons {C : Calls} {σ : Env} {st : Store} {pp : Post Out} : @Wp _ (execs C (s :: r) σ st) pp = (@Wp _ (exec C s σ st) ⟨fun o s1 => @Wp _ (match o with
    | .nx σ1 => execs C r σ1 s1
    | o => .ok o s1) pp⟩) := by
  rw [execs_cons]
  repeat (refine wpb fun _ _ => ?_)
  try rfl
@[simp ↓] theorem w_compL_nil {f : D → Store → Res (Option D)} {st : Store} {p : Post (List D)} : @Wp _ (compL f [] st) p = p.q [] st := rfl
@[simp ↓] theorem w_compL_cons {f : D → Store → Res (Option D)} {x : D} {r : List D} {st : Store} {p : Post (List D)} : @Wp _ (compL f (x :: r) st) p = @Wp _ (f x st) ⟨fun y s1 => @Wp _ (compL f r s1) ⟨fun ys s2 => p.q (match y with | some y => y :: ys | none => ys) s2⟩⟩ := by
  rw [compL]; repeat (refine wpb fun _ _ => ?_)
  rfl
@[simp ↓] theorem w_compStep {f : Env → Store → Res Val} {g : Env → Store → Res Bool} {tg : Tg} {σ : Env} {y : D} {s : Store} {p : Post (Option D)} : @Wp _ (compStep f g tg σ y s) p =
    @Wp _ (optR (tg.put y σ) s) ⟨fun σ1 s4 => @Wp _ (g σ1 s4) ⟨fun b s5 => @Wp _ (if b then (f σ1 s5).bind fun z s6 => (optR (asD z) s6).bind fun d s7 => .ok (some d) s7 else .ok none s5) p⟩⟩ := by
  rw [compStep]; repeat (refine wpb fun _ _ => ?_)
  rfl
@[simp ↓] theorem w_condB {f : Env → Store → Res Val} {σ : Env} {s : Store} {p : Post Bool} : @Wp _ (condB f σ s) p = @Wp _ (f σ s) ⟨fun x s1 => @Wp _ (optR (asB x) s1) p⟩ := by
  rw [condB]; repeat (refine wpb fun _ _ => ?_)
  rfl
@[simp ↓] theorem w_loopL_nil {g : D → Env → Option Env} {f : Env → Store → Res Out} {σ : Env} {st : Store} {p : Post Out} : @Wp _ (loopL g f [] σ st) p = p.q (.nx σ) st := rfl
@[simp ↓] theorem w_loopL_cons {g : D → Env → Option Env} {f : Env → Store → Res Out} {x : D} {r : List D} {σ : Env} {st : Store} {p : Post Out} : @Wp _ (loopL g f (x :: r) σ st) p =
    @Wp _ (optR (g x σ) st) ⟨fun σ1 s1 => @Wp _ (f σ1 s1) ⟨fun o s2 => @Wp _ (match o with
    | .nx σ2 => loopL g f r σ2 s2
    | .cnt σ2 => loopL g f r σ2 s2
    | .brk σ2 => .ok (.nx σ2) s2
    | .ret v => .ok (.ret v) s2
    | .thr c as σ2 => .ok (.thr c as σ2) s2) p⟩⟩ := by
  rw [loopL]; repeat (refine wpb fun _ _ => ?_)
  rfl
@[simp ↓] theorem w_noexc {α : Type} (r : Res α) {p : Post α} : @Wp _ (noexc r) p = @Wp _ r p := by cases r <;> rfl
@[simp ↓] theorem w_runFn {C : Calls} {f : Fn} {vs : List Val} {st : Store} {p : Post Val} : @Wp _ (runFn C f vs st) p = ((vs.length = f.pars ∧ f.pars ≤ f.many) ∧
    @Wp _ (execs C f.body (vs.map some ++ List.replicate (f.many - f.pars) none) st) ⟨fun o s1 => @Wp _ (match o with
      | .nx _ => leave st.length (.d .non) s1
      | .ret v => leave st.length v s1
      | .thr c as _ => .exc c as (s1.take st.length)
      | _ => .bad) p⟩) := by
  unfold runFn
  by_cases h : vs.length = f.pars ∧ f.pars ≤ f.many
  · rw [if_pos h, wp_bind, w_noexc]
    simp only [h, true_and]
  · rw [if_neg h]
    simp [h]
/-! ### what may be raised -/
class PostX (α : Type) where
  ok : α → Store → Prop
  ex : String → List (String × D) → Store → Prop
@[simp] theorem postx_ok {α : Type} (f : α → Store → Prop) (g) : (PostX.mk f g).ok = f := rfl
@[simp] theorem postx_ex {α : Type} (f : α → Store → Prop) (g) : (PostX.mk f g).ex = g := rfl
def WpX {α : Type} (r : Res α) [p : PostX α] : Prop := match r with | .ok a st => p.ok a st | .exc c as st => p.ex c as st | .bad => False
@[simp] theorem wx_ok {α : Type} (a : α) (st : Store) {p : PostX α} : @WpX _ (.ok a st) p = p.ok a st := rfl
@[simp] theorem wx_exc {α : Type} (c as) (st : Store) {p : PostX α} : @WpX α (.exc c as st) p = p.ex c as st := rfl
@[simp] theorem wx_bad {α : Type} {p : PostX α} : @WpX _ .bad p = False := rfl
@[simp ↓] theorem wx_bind {α β : Type} (r : Res α) (f : α → Store → Res β) {p : PostX β} : @WpX _ (r.bind f) p = @WpX _ r ⟨fun a s => @WpX _ (f a s) p, p.ex⟩ := by
  cases r <;> rfl
theorem wxb {α : Type} {r : Res α} {f g : α → Store → Prop} {e : String → List (String × D) → Store → Prop} (h : ∀ a s, f a s = g a s) : @WpX _ r ⟨f, e⟩ = @WpX _ r ⟨g, e⟩ := by
  have : f = g := funext fun a => funext fun s => h a s
  rw [this]
theorem WpX.mono {α : Type} {r : Res α} {p p' : PostX α} (h : @WpX _ r p) (k : ∀ a s, p.ok a s → p'.ok a s) (k2 : ∀ c as s, p.ex c as s → p'.ex c as s) : @WpX _ r p' := by
  cases r with
  | ok a s => exact k a s h
  | exc c as s => exact k2 c as s h
  | bad => exact h
theorem WpX.of {α : Type} {r : Res α} {a : α} {s : Store} {p : PostX α} (e : r = .ok a s) (h : p.ok a s) : @WpX _ r p := by rw [e]; exact h
@[simp ↓] theorem wx_noexc {α : Type} (r : Res α) {p : PostX α} : @WpX _ (noexc r) p = @Wp _ r ⟨p.ok⟩ := by cases r <;> rfl
@[simp ↓] theorem wx_optR {α : Type} (o : Option α) (s : Store) {p : PostX α} : @WpX _ (optR o s) p = @Wp _ (optR o s) ⟨p.ok⟩ := by cases o <;> rfl
@[simp ↓] theorem w_catchX {α : Type} (r : Res α) (σ : Env) (f : α → Store → Res Out) {p : Post Out} : @Wp _ (catchX r σ f) p = @WpX _ r ⟨fun a s => @Wp _ (f a s) p, fun c as s => p.q (.thr c as σ) s⟩ := by cases r <;> rfl
@[simp ↓ high] theorem wx_if_t {α : Type} {c : Prop} [Decidable c] (a b : Res α) {p : PostX α} (h : c) : @WpX _ (if c then a else b) p = @WpX _ a p := by rw [if_pos h]
@[simp ↓ high] theorem wx_if_f {α : Type} {c : Prop} [Decidable c] (a b : Res α) {p : PostX α} (h : ¬ c) : @WpX _ (if c then a else b) p = @WpX _ b p := by rw [if_neg h]
@[simp ↓ low] theorem wx_if {α : Type} {c : Prop} [Decidable c] (a b : Res α) {p : PostX α} : @WpX _ (if c then a else b) p = ((c → @WpX _ a p) ∧ (¬ c → @WpX _ b p)) := by
  by_cases h : c <;> simp [h]
set_option autoImplicit true in
@[simp ↓] theorem w_exec_asgX {C : Calls} {σ : Env} {st : Store} {pp : Post Out} : @Wp _ (exec C (Stm.asgX t e) σ st) pp = @WpX _ (evalX C e σ st) ⟨fun v s1 => @Wp _ (optR (t.putV v σ) s1) ⟨fun σ1 s2 => pp.q (.nx σ1) s2⟩, fun c as s => pp.q (.thr c as σ) s⟩ := by
  rw [exec_asgX, w_catchX]
  exact wxb fun a s => by rw [wp_bind]; rfl
set_option autoImplicit true in
@[simp ↓] theorem w_exec_exX {C : Calls} {σ : Env} {st : Store} {pp : Post Out} : @Wp _ (exec C (Stm.exX e) σ st) pp = @WpX _ (evalX C e σ st) ⟨fun _ s1 => pp.q (.nx σ) s1, fun c as s => pp.q (.thr c as σ) s⟩ := by
  rw [exec_exX, w_catchX]
  rfl
set_option autoImplicit true in
@[simp ↓] theorem w_exec_retX {C : Calls} {σ : Env} {st : Store} {pp : Post Out} : @Wp _ (exec C (Stm.retX e) σ st) pp = @WpX _ (evalX C e σ st) ⟨fun v s1 => pp.q (.ret v) s1, fun c as s => pp.q (.thr c as σ) s⟩ := by
  rw [exec_retX, w_catchX]
  rfl
set_option autoImplicit true in
@[simp ↓] theorem w_exec_raise {C : Calls} {σ : Env} {st : Store} {pp : Post Out} : @Wp _ (exec C (Stm.raise c) σ st) pp = pp.q (.thr c [] σ) st := by
  rw [exec_raise]; rfl
set_option autoImplicit true in
@[simp ↓] theorem w_exec_tryX {C : Calls} {σ : Env} {st : Store} {pp : Post Out} : @Wp _ (exec C (Stm.tryX body c h) σ st) pp = @Wp _ (execs C body σ st) ⟨fun o s1 => @Wp _ (match o with
    | .thr c' as σ1 => if c' = c then (execs C h σ1 s1).bind noThr else .bad
    | o => .ok o s1) pp⟩ := by
  rw [exec_tryX, wp_bind]
set_option autoImplicit true in
@[simp ↓] theorem w_exec_tryX2 {C : Calls} {σ : Env} {st : Store} {pp : Post Out} : @Wp _ (exec C (Stm.tryX2 body c h c2 h2) σ st) pp = @Wp _ (execs C body σ st) ⟨fun o s1 => @Wp _ (match o with
    | .thr c' as σ1 => if c' = c then (execs C h σ1 s1).bind noThr else if c' = c2 then (execs C h2 σ1 s1).bind noThr else .bad
    | o => .ok o s1) pp⟩ := by
  rw [exec_tryX2, wp_bind]
set_option autoImplicit true in
@[simp ↓] theorem w_exec_raiseA {C : Calls} {σ : Env} {st : Store} {pp : Post Out} : @Wp _ (exec C (Stm.raiseA c f e) σ st) pp = (@Wp _ (eval C e σ st) ⟨fun x s1 => @Wp _ (optR (asD x) s1) ⟨fun d s2 => pp.q (.thr c [(f, d)] σ) s2⟩⟩) := by
  rw [exec_raiseA, wp_bind]
  exact congrArg (fun z => @Wp _ (eval C e σ st) ⟨z⟩) (funext fun a => funext fun s => by rw [wp_bind]; rfl)
set_option autoImplicit true in
@[simp ↓] theorem w_exec_tryK {C : Calls} {σ : Env} {st : Store} {pp : Post Out} : @Wp _ (exec C (Stm.tryK body cs i j cs2 i2 j2) σ st) pp = @Wp _ (execs C body σ st) ⟨fun o s1 => @Wp _ (match o with
    | .thr c' as σ1 => if c' ∈ cs then .ok (.nx ((σ1.set j (some (.d (exnOf c' as)))).set i none)) s1 else if c' ∈ cs2 then .ok (.nx ((σ1.set j2 (some (.d (exnOf c' as)))).set i2 none)) s1 else .bad
    | o => .ok o s1) pp⟩ := by
  rw [exec_tryK, wp_bind]
set_option autoImplicit true in
@[simp ↓] theorem w_exec_tryF {C : Calls} {σ : Env} {st : Store} {pp : Post Out} : @Wp _ (exec C (Stm.tryF body c i f) σ st) pp = @Wp _ (execs C body σ st) ⟨fun o s1 => @Wp _ (match o with
    | .thr c' as σ1 => if c' = c then (optR (lookF f as) s1).bind fun v s2 => .ok (.ret (.d v)) s2 else .bad
    | o => .ok o s1) pp⟩ := by
  rw [exec_tryF, wp_bind]
set_option autoImplicit true in
@[simp ↓] theorem wx_evalX_p {C : Calls} {σ : Env} {st : Store} {p : PostX Val} : @WpX _ (evalX C (EX.p e) σ st) p = @Wp _ (eval C e σ st) ⟨p.ok⟩ := by rw [evalX_p, wx_noexc]
set_option autoImplicit true in
@[simp ↓] theorem wx_evalX_call {C : Calls} {σ : Env} {st : Store} {p : PostX Val} : @WpX _ (evalX C (EX.call f es) σ st) p = @WpX _ (evalXs C es σ st) ⟨fun vs s1 => @WpX _ (C f vs s1) p, p.ex⟩ := by rw [evalX_call, wx_bind]
set_option autoImplicit true in
@[simp ↓] theorem wx_evalX_callP {C : Calls} {σ : Env} {st : Store} {p : PostX Val} : @WpX _ (evalX C (EX.callP f es perm) σ st) p = @WpX _ (evalXs C es σ st) ⟨fun vs s1 => @WpX _ (C f (perm.filterMap fun i => vs[i]?) s1) p, p.ex⟩ := by rw [evalX_callP, wx_bind]
set_option autoImplicit true in
@[simp ↓] theorem wx_evalX_ite {C : Calls} {σ : Env} {st : Store} {p : PostX Val} {c : Ex} {ea eb : EX} : @WpX _ (evalX C (EX.ite c ea eb) σ st) p = @Wp _ (eval C c σ st) ⟨fun x s1 => @Wp _ (optR (asB x) s1) ⟨fun c s2 => @WpX _ (if c then evalX C ea σ s2 else evalX C eb σ s2) p⟩⟩ := by
  rw [evalX_ite, wx_bind, wx_noexc]
  have : (fun (a : Val) s => @WpX _ ((optR (asB a) s).bind fun c s2 => if c = true then evalX C ea σ s2 else evalX C eb σ s2) p) = (fun x s1 => @Wp _ (optR (asB x) s1) ⟨fun c s2 => @WpX _ (if c then evalX C ea σ s2 else evalX C eb σ s2) p⟩) := funext fun a => funext fun s => by rw [wx_bind, wx_optR]
  exact congrArg (fun z => @Wp _ (eval C c σ st) ⟨z⟩) this
set_option autoImplicit true in
@[simp ↓] theorem wx_evalX_meth {C : Calls} {σ : Env} {st : Store} {p : PostX Val} {c m : String} {o : Ex} {es : List EX} : @WpX _ (evalX C (EX.meth c m o es) σ st) p = @Wp _ (eval C o σ st) ⟨fun x s1 => @WpX _ (if methOk s1 x c m then (evalXs C es σ s1).bind fun vs s2 => C (c ++ "." ++ m) (x :: vs) s2 else .bad) p⟩ := by
  rw [evalX_meth, wx_bind, wx_noexc]
set_option autoImplicit true in
@[simp ↓] theorem wx_evalX_methN {C : Calls} {σ : Env} {st : Store} {p : PostX Val} {c m : String} {o : Ex} {es : List EX} : @WpX _ (evalX C (EX.methN c m o es) σ st) p = @Wp _ (eval C o σ st) ⟨fun x s1 => @WpX _ (if methOk s1 x c m then (evalXs C es σ s1).bind fun vs s2 => noexc (C (c ++ "." ++ m) (x :: vs) s2) else .bad) p⟩ := by
  rw [evalX_methN, wx_bind, wx_noexc]
set_option autoImplicit true in
@[simp ↓] theorem wx_evalXs_nil {C : Calls} {σ : Env} {st : Store} {p : PostX (List Val)} : @WpX _ (evalXs C [] σ st) p = p.ok [] st := by rw [evalXs_nil]; rfl
set_option autoImplicit true in
@[simp ↓] theorem wx_evalXs_cons {C : Calls} {σ : Env} {st : Store} {p : PostX (List Val)} : @WpX _ (evalXs C (e :: es) σ st) p = @WpX _ (evalX C e σ st) ⟨fun v s1 => @WpX _ (evalXs C es σ s1) ⟨fun vs s2 => p.ok (v :: vs) s2, p.ex⟩, p.ex⟩ := by
  rw [evalXs_cons, wx_bind]
  exact wxb fun a s => by rw [wx_bind]; rfl
@[simp ↓] theorem wx_runFn {C : Calls} {f : Fn} {vs : List Val} {st : Store} {p : PostX Val} : @WpX _ (runFn C f vs st) p = ((vs.length = f.pars ∧ f.pars ≤ f.many) ∧
    @Wp _ (execs C f.body (vs.map some ++ List.replicate (f.many - f.pars) none) st) ⟨fun o s1 => @WpX _ (match o with
      | .nx _ => leave st.length (.d .non) s1
      | .ret v => leave st.length v s1
      | .thr c as _ => .exc c as (s1.take st.length)
      | _ => .bad) p⟩) := by
  unfold runFn
  by_cases h : vs.length = f.pars ∧ f.pars ≤ f.many
  · rw [if_pos h, wx_bind, wx_noexc]
    simp only [h, true_and]
  · rw [if_neg h]
    simp [h]
/-! ### loops -/
theorem wp_loop {g : D → Env → Option Env} {f : Env → Store → Res Out} {pp : Post Out} (I : List D → Env → Store → Prop)
    (hs : ∀ x xs σ st, I (x :: xs) σ st → ∃ σ1, g x σ = some σ1 ∧ @Wp _ (f σ1 st) ⟨fun o s => match o with
      | .nx σ2 => I xs σ2 s | .cnt σ2 => I xs σ2 s | .brk σ2 => pp.q (.nx σ2) s | .ret v => pp.q (.ret v) s | .thr c as σ2 => pp.q (.thr c as σ2) s⟩)
    (hz : ∀ σ st, I [] σ st → pp.q (.nx σ) st) : ∀ (xs : List D) (σ : Env) (st : Store), I xs σ st → @Wp _ (loopL g f xs σ st) pp
  | [], σ, st, h => by rw [w_loopL_nil]; exact hz σ st h
  | x :: xs, σ, st, h => by
    obtain ⟨σ1, e, w⟩ := hs x xs σ st h
    rw [w_loopL_cons, e]
    simp only [optR_some, wp_ok]
    refine w.mono fun o s q => ?_
    cases o with
    | nx σ2 => exact wp_loop I hs hz xs σ2 s q
    | cnt σ2 => exact wp_loop I hs hz xs σ2 s q
    | brk σ2 => exact q
    | ret v => exact q
    | thr c as σ2 => exact q
theorem wp_whileW {α : Type} {lt : α → α → Prop} (wf : WellFounded lt) {c : Env → Store → Res Bool} {f : Env → Store → Res Out} {pp : Post Out} (I : α → Env → Store → Prop)
    (hs : ∀ m σ st, I m σ st → @Wp _ (c σ st) ⟨fun b s1 => (b = true → @Wp _ (f σ s1) ⟨fun o s => match o with
      | .nx σ2 => ∃ m', lt m' m ∧ I m' σ2 s | .cnt σ2 => ∃ m', lt m' m ∧ I m' σ2 s | .brk σ2 => pp.q (.nx σ2) s | .ret v => pp.q (.ret v) s | .thr c as σ2 => pp.q (.thr c as σ2) s⟩) ∧ (b = false → pp.q (.nx σ) s1)⟩)
    (m : α) (σ : Env) (st : Store) (i : I m σ st) : @Wp _ (whileU c f σ st) pp := by
  have key : ∀ m σ st, I m σ st → ∃ n, @Wp _ (whileL c f n σ st) pp := by
    intro m
    induction m using wf.induction with
    | _ m ih =>
      intro σ st i
      obtain ⟨b, s1, e1, q⟩ := wp_iff.mp (hs m σ st i)
      cases b with
      | false => exact ⟨1, by rw [whileL, e1]; exact q.2 rfl⟩
      | true =>
        obtain ⟨o, s2, e2, q2⟩ := wp_iff.mp (q.1 rfl)
        cases o with
        | nx σ2 => obtain ⟨m', hm, i'⟩ := q2; obtain ⟨n, w⟩ := ih m' hm σ2 s2 i'; exact ⟨n + 1, by rw [whileL, e1]; simp only [Res.bind_ok, if_true, e2]; exact w⟩
        | cnt σ2 => obtain ⟨m', hm, i'⟩ := q2; obtain ⟨n, w⟩ := ih m' hm σ2 s2 i'; exact ⟨n + 1, by rw [whileL, e1]; simp only [Res.bind_ok, if_true, e2]; exact w⟩
        | brk σ2 => exact ⟨1, by rw [whileL, e1]; simp only [Res.bind_ok, if_true, e2]; exact q2⟩
        | ret v => exact ⟨1, by rw [whileL, e1]; simp only [Res.bind_ok, if_true, e2]; exact q2⟩
        | thr c as σ2 => exact ⟨1, by rw [whileL, e1]; simp only [Res.bind_ok, if_true, e2]; exact q2⟩
  obtain ⟨n, w⟩ := key m σ st i
  obtain ⟨r, s, e, q⟩ := wp_iff.mp w
  rw [whileU_of e]
  exact q
theorem wp_while {c : Env → Store → Res Bool} {f : Env → Store → Res Out} {pp : Post Out} (I : Nat → Env → Store → Prop)
    (hs : ∀ m σ st, I m σ st → @Wp _ (c σ st) ⟨fun b s1 => (b = true → @Wp _ (f σ s1) ⟨fun o s => match o with
      | .nx σ2 => ∃ m', m' < m ∧ I m' σ2 s | .cnt σ2 => ∃ m', m' < m ∧ I m' σ2 s | .brk σ2 => pp.q (.nx σ2) s | .ret v => pp.q (.ret v) s | .thr c as σ2 => pp.q (.thr c as σ2) s⟩) ∧ (b = false → pp.q (.nx σ) s1)⟩)
    (m : Nat) (σ : Env) (st : Store) (i : I m σ st) : @Wp _ (whileU c f σ st) pp := wp_whileW Nat.lt_wfRel.wf I hs m σ st i
/-- a comprehension's turns: what is left, what is made so far -/
theorem wp_comp' {f : D → Store → Res (Option D)} {pp : Post (List D)} (I : List D → List D → Store → Prop)
    (hs : ∀ x xs ys st, I (x :: xs) ys st → @Wp _ (f x st) ⟨fun o s => match o with | some y => I xs (ys ++ [y]) s | none => I xs ys s⟩)
    (hz : ∀ ys st, I [] ys st → pp.q ys st) : ∀ (xs ys : List D) (st : Store), I xs ys st → @Wp _ (compL f xs st) ⟨fun zs s => pp.q (ys ++ zs) s⟩
  | [], ys, st, h => by rw [w_compL_nil]; simpa using hz ys st h
  | x :: xs, ys, st, h => by
    have w := hs x xs ys st h
    rw [w_compL_cons]
    refine w.mono fun o s q => ?_
    cases o with
    | none => exact (wp_comp' I hs hz xs ys s q).mono fun zs s' q' => q'
    | some y => exact (wp_comp' I hs hz xs (ys ++ [y]) s q).mono fun zs s' q' => by simpa using q'
theorem wp_comp {f : D → Store → Res (Option D)} {pp : Post (List D)} (I : List D → List D → Store → Prop) {xs : List D} {st : Store} (h0 : I xs [] st)
    (hs : ∀ x xs ys st, I (x :: xs) ys st → @Wp _ (f x st) ⟨fun o s => match o with | some y => I xs (ys ++ [y]) s | none => I xs ys s⟩)
    (hz : ∀ ys st, I [] ys st → pp.q ys st) : @Wp _ (compL f xs st) pp := (wp_comp' I hs hz xs [] st h0).mono fun zs s q => by simpa using q
/-! ### comparisons -/
theorem ci_eq (a b : Int) : D.cmp .eq (.int a) (.int b) = some (decide (a = b)) := by simp [D.cmp, fine, D.dep, D.eqv]; rfl
theorem ci_lt (a b : Int) : D.cmp .lt (.int a) (.int b) = some (decide (a < b)) := rfl
theorem ci_le (a b : Int) : D.cmp .le (.int a) (.int b) = some (decide (a ≤ b)) := rfl
theorem ci_gt (a b : Int) : D.cmp .gt (.int a) (.int b) = some (decide (a > b)) := rfl
theorem ci_ge (a b : Int) : D.cmp .ge (.int a) (.int b) = some (decide (a ≥ b)) := rfl
theorem cs_eq (a b : String) : D.cmp .eq (.str a) (.str b) = some (decide (a = b)) := by simp [D.cmp, fine, D.dep, D.eqv]
theorem cs_ne (a b : String) : D.cmp .ne (.str a) (.str b) = some (!decide (a = b)) := by simp [D.cmp, fine, D.dep, D.eqv]
/-! ### stores -/
/-- all cells of the one stand in the other, but for one -/
def Keep (B : Nat) (st s : Store) : Prop := st.length ≤ s.length ∧ ∀ i, i < st.length → i ≠ B → s[i]? = st[i]?
theorem Keep.refl (B : Nat) (st : Store) : Keep B st st := ⟨Nat.le_refl _, fun _ _ _ => rfl⟩
theorem Keep.trans {B : Nat} {a b c : Store} (h : Keep B a b) (k : Keep B b c) : Keep B a c :=
  ⟨Nat.le_trans h.1 k.1, fun i hi hn => (k.2 i (by have := h.1; omega) hn).trans (h.2 i hi hn)⟩
theorem Keep.take {B : Nat} {a b : Store} (h : Keep B a b) : Keep B a (b.take a.length) :=
  ⟨by have := h.1; simp; omega, fun i hi hn => by rw [List.getElem?_take, if_pos hi]; exact h.2 i hi hn⟩
theorem Keep.set {B : Nat} {a b : Store} (h : Keep B a b) (c : Cell) : Keep B a (b.set B c) :=
  ⟨by simpa using h.1, fun i hi hn => by rw [List.getElem?_set_ne (Ne.symm hn)]; exact h.2 i hi hn⟩
theorem Keep.push {B : Nat} {a b : Store} (h : Keep B a b) (c : Cell) : Keep B a (b ++ [c]) :=
  ⟨by have := h.1; simp; omega, fun i hi hn => by rw [List.getElem?_append_left (by have := h.1; omega)]; exact h.2 i hi hn⟩
theorem Keep.get {B : Nat} {a b : Store} (h : Keep B a b) {i : Nat} {c : Cell} (hc : a[i]? = some c) (hn : i ≠ B) : b[i]? = some c := by
  rw [h.2 i (List.getElem?_eq_some_iff.mp hc).1 hn]; exact hc
theorem Keep.len {B : Nat} {a b : Store} (h : Keep B a b) : (b.take a.length).length = a.length := by have := h.1; simp; omega
/-- what is handed back as data -/
@[simp] theorem leave_d (m : Nat) (x : D) (st : Store) : leave m (.d x) st = .ok (.d x) (st.take m) := rfl
end Ir

namespace Prog
open Ir
def pd (p : Kd × Kd) : D := .tup [p.1.d, p.2.d]
end Prog

namespace Prog
open Ir
def Kd.hasB (i : Int) : Kd → Bool
  | .int => false
  | .bool => false
  | .list a => a.hasB i
  | .fn a b => a.hasB i || b.hasB i
  | .pair a b => a.hasB i || b.hasB i
  | .free j => decide (j = i)
theorem Kd.hasB_iff {i : Int} : ∀ k : Kd, k.hasB i = true ↔ k.has i
  | .int => by simp [Kd.hasB, Kd.has]
  | .bool => by simp [Kd.hasB, Kd.has]
  | .list a => a.hasB_iff
  | .fn a b => by simp [Kd.hasB, Kd.has, a.hasB_iff, b.hasB_iff]
  | .pair a b => by simp [Kd.hasB, Kd.has, a.hasB_iff, b.hasB_iff]
  | .free j => by simp [Kd.hasB, Kd.has]
structure FS (L : List Kd) (g : G) (S : Int → Kd) (rk : Int → Nat) : Prop where
  us : US L S
  bound : ∀ i t, g.lookup i = some t → t ∈ L ∧ S i = t.sub S
  free : ∀ i, g.lookup i = none ↔ S i = .free i
  rank : ∀ i j, g.lookup i = some (.free j) → rk j < rk i
def rkOf (rk : Int → Nat) : Kd → Nat
  | .free i => rk i + 1
  | _ => 0
section
variable {L : List Kd} {g : G} {S : Int → Kd} {rk : Int → Nat} {st : Store} {d : Nat}
theorem bools_app (xs : List Bool) : D.bools (xs.map .bool) = some xs := by
  induction xs with
  | nil => rfl
  | cons x xs ih => simp [D.bools, ih]
theorem any0 : D.bAny [.lst []] = some (.bool false) := rfl
/-- a free one is filled -/
theorem FS.bind (fs : FS L g S rk) (cl : Cl L) {i : Int} {u : Kd} (hu : u ∈ L) (hv : u.nv ∨ ∃ j, u = .free j ∧ S j = .free j) (hi : S i = .free i) (hn : ¬ (u.sub S).has i) : ∃ rk', FS L (putG g i u) (comp1 S i (u.sub S)) rk' := by
  have hli : g.lookup i = none := (fs.free i).mpr hi
  have us' := fs.us.bind cl hu hi hn
  have hT : u.sub (comp1 S i (u.sub S)) = u.sub S := by rw [comp1_sub, Kd.sub_sg _ hn]
  have hSi : comp1 S i (u.sub S) i = u.sub S := by simp only [comp1, hi, Kd.sub, sg_same]
  refine ⟨fun x => if S x = .free i then rk x + rkOf rk u else rk x, us', fun x t hx => ?_, fun x => ?_, fun x y hx => ?_⟩
  · rw [lookup_putG] at hx
    by_cases e : x = i
    · rw [if_pos e] at hx; cases hx
      exact ⟨hu, by rw [e, hSi, hT]⟩
    · rw [if_neg e] at hx
      obtain ⟨h1, h2⟩ := fs.bound x t hx
      exact ⟨h1, by rw [comp1_sub, ← h2]; rfl⟩
  · rw [lookup_putG]
    by_cases e : x = i
    · rw [if_pos e]
      constructor
      · intro h; cases h
      · intro h
        rw [e, hSi] at h
        exact absurd (by rw [h]; rfl) hn
    · rw [if_neg e]
      constructor
      · intro h
        have := (fs.free x).mp h
        simp only [comp1, this, Kd.sub, sg_ne _ e]
      · intro h
        exact (fs.free x).mpr (free_bind fs.us hn h)
  · rw [lookup_putG] at hx
    by_cases e : x = i
    · rw [if_pos e] at hx
      cases hx
      have hj : S y = .free y := by
        rcases hv with h | ⟨j, e1, e2⟩
        · exact h.elim
        · cases e1; exact e2
      have hyi : S y ≠ .free i := by
        rw [hj]
        intro q
        cases q
        exact hn (by simp only [Kd.sub, hj]; rfl)
      simp only [e, hi, if_true, if_neg hyi, rkOf]
      omega
    · rw [if_neg e] at hx
      have hr := fs.rank x y hx
      have hb := (fs.bound x _ hx).2
      simp only [Kd.sub] at hb
      rw [hb]
      split <;> omega
end
end Prog

namespace Prog
open Ir
def Kd.subs : Kd → List Kd
  | .int => [.int]
  | .bool => [.bool]
  | .list a => .list a :: a.subs
  | .fn a b => .fn a b :: (a.subs ++ b.subs)
  | .pair a b => .pair a b :: (a.subs ++ b.subs)
  | .free i => [.free i]
theorem Cl.app {A B : List Kd} (h : Cl A) (k : Cl B) : Cl (A ++ B) := fun u hu c hc => by
  rcases List.mem_append.mp hu with hu | hu
  · exact List.mem_append_left _ (h u hu c hc)
  · exact List.mem_append_right _ (k u hu c hc)
/-- the sum of the left sides as they are filled -/
def szs (S : Int → Kd) : List (Kd × Kd) → Nat
  | [] => 0
  | p :: ps => (p.1.sub S).parts + szs S ps
/-- a kind stands within another one, so deep -/
def Dp (t : Kd) : Nat → Kd → Prop
  | 0, A => t = A
  | n + 1, A => ∃ c ∈ A.kids, Dp t n c
theorem kid_lt {A c : Kd} (h : c ∈ A.kids) : c.h + 1 ≤ A.h := by
  cases A <;> simp [Kd.kids] at h
  · subst h; simp [Kd.h]
  · rcases h with rfl | rfl <;> simp only [Kd.h] <;> omega
  · rcases h with rfl | rfl <;> simp only [Kd.h] <;> omega
theorem kid_sub {A c : Kd} (f : Int → Kd) (h : c ∈ A.kids) : c.sub f ∈ (A.sub f).kids := by
  cases A <;> simp [Kd.kids] at h
  · subst h; simp [Kd.sub, Kd.kids]
  · rcases h with rfl | rfl <;> simp [Kd.sub, Kd.kids]
  · rcases h with rfl | rfl <;> simp [Kd.sub, Kd.kids]
theorem Dp.h {t : Kd} : ∀ {n : Nat} {A : Kd}, Dp t n A → t.h + n ≤ A.h
  | 0, A, e => by rw [show t = A from e]; exact Nat.le_refl _
  | n + 1, A, ⟨c, hc, h⟩ => by have := h.h; have := kid_lt hc; omega
theorem Dp.sub {t : Kd} (f : Int → Kd) : ∀ {n : Nat} {A : Kd}, Dp t n A → Dp (t.sub f) n (A.sub f)
  | 0, A, e => by rw [show t = A from e]; exact rfl
  | n + 1, A, ⟨c, hc, h⟩ => ⟨c.sub f, kid_sub f hc, h.sub f⟩
theorem Dp.kid {t c : Kd} (hc : c ∈ t.kids) : ∀ {n : Nat} {A : Kd}, Dp t n A → Dp c (n + 1) A
  | 0, A, e => by rw [← show t = A from e]; exact ⟨c, hc, rfl⟩
  | n + 1, A, ⟨b, hb, h⟩ => ⟨b, hb, h.kid hc⟩
def DpL (S : Int → Kd) (A : Kd) (ps : List (Kd × Kd)) : Prop := ∀ i p, ps[i]? = some p → ∃ j, i ≤ j ∧ Dp (p.1.sub S) j (A.sub S)
theorem DpL.len {S : Int → Kd} {A : Kd} {ps : List (Kd × Kd)} (h : DpL S A ps) : ps.length ≤ (A.sub S).h + 1 := by
  cases hl : ps.length with
  | zero => omega
  | succ n =>
    obtain ⟨j, h1, h2⟩ := h n (ps[n]'(by omega)) (List.getElem?_eq_getElem (by omega))
    have := h2.h
    omega
theorem DpL.bind {S : Int → Kd} {A : Kd} {ps : List (Kd × Kd)} {i : Int} {t : Kd} (h : DpL S A ps) : DpL (comp1 S i t) A ps := fun k p hp => by
  obtain ⟨j, h1, h2⟩ := h k p hp
  exact ⟨j, h1, by rw [comp1_sub, comp1_sub]; exact h2.sub _⟩
theorem DpL.pop {S : Int → Kd} {A : Kd} {qs : List (Kd × Kd)} {p : Kd × Kd} (h : DpL S A (qs ++ [p])) : DpL S A qs := fun k q hq => h k q (by rw [List.getElem?_append_left (List.getElem?_eq_some_iff.mp hq).1]; exact hq)
theorem DpL.push {S : Int → Kd} {A u : Kd} {qs rs : List (Kd × Kd)} {p : Kd × Kd} (h : DpL S A (qs ++ [p])) (eu : u.sub S = p.1.sub S) (hr : ∀ q ∈ rs, q.1 ∈ u.kids) (hl : rs.length ≤ 2) : DpL S A (qs ++ rs) := fun k q hq => by
  by_cases c : k < qs.length
  · rw [List.getElem?_append_left c] at hq
    exact h k q (by rw [List.getElem?_append_left c]; exact hq)
  · obtain ⟨j, h1, h2⟩ := h qs.length p (by simp)
    have hm := (List.getElem?_eq_some_iff.mp hq).1
    rw [List.getElem?_append_right (by omega)] at hq
    have hk := hr q (List.mem_of_getElem? hq)
    rw [← eu] at h2
    refine ⟨j + 1, ?_, h2.kid (kid_sub S hk)⟩
    rw [List.length_append] at hm
    omega
/-- the loop's word -/
structure MdI (L : List Kd) (a b : Kd) (st : Store) (d : Nat) (m : Nat × Nat) (σ : Env) (s : Store) : Prop where
  ex : ∃ (g : G) (S : Int → Kd) (rk : Int → Nat) (ps : List (Kd × Kd)) (x4 x5 : Option Val), σ = [some (.d a.d), some (.d b.d), some (.ref d), some (.ref st.length), x4, x5] ∧
    s = (st.set d (.dic (dF g))) ++ [.lst (ps.map pd)] ∧ m = (cnt S L, szs S ps) ∧ FS L g S rk ∧ (∀ p ∈ ps, p.1 ∈ L ∧ p.2 ∈ L) ∧ g.length + cnt S L ≤ L.length ∧ DpL S a ps ∧
    ∀ f, a.sub f = b.sub f ↔ (Sols f S ∧ ∀ p ∈ ps, p.1.sub f = p.2.sub f)
theorem mem_app1 {α : Type} {P : α → Prop} {qs : List α} {p : α} : (∀ x ∈ qs ++ [p], P x) ↔ (∀ x ∈ qs, P x) ∧ P p := by
  constructor
  · intro h; exact ⟨fun x hx => h x (List.mem_append_left _ hx), h p (by simp)⟩
  · rintro ⟨h1, h2⟩ x hx
    rcases List.mem_append.mp hx with hx | hx
    · exact h1 x hx
    · simp at hx; rw [hx]; exact h2
theorem mem_app2 {α : Type} {P : α → Prop} {qs rs : List α} : (∀ x ∈ qs ++ rs, P x) ↔ (∀ x ∈ qs, P x) ∧ ∀ x ∈ rs, P x := by
  constructor
  · intro h; exact ⟨fun x hx => h x (List.mem_append_left _ hx), fun x hx => h x (List.mem_append_right _ hx)⟩
  · rintro ⟨h1, h2⟩ x hx
    rcases List.mem_append.mp hx with hx | hx
    · exact h1 x hx
    · exact h2 x hx
abbrev LexN : Nat × Nat → Nat × Nat → Prop := Prod.Lex (· < ·) (· < ·)
theorem lexN_wf : WellFounded LexN := (Prod.lex Nat.lt_wfRel Nat.lt_wfRel).wf
section
variable {L : List Kd} {a b : Kd} {st : Store} {d : Nat}
end
end Prog

namespace Prog
open Ir
/-! ### programs -/
inductive Pg where
  | num (i : Int) | truth (b : Bool) | name (x : String) | nil | off (p : Pg)
  | one (h : String) (xs : List String) (p : Pg) | two (h : String) (xs : List String) (p q : Pg) | thr (h : String) (xs : List String) (p q r : Pg)
def Pg.d : Pg → D
  | .num i => .tup [.str "num", .int i]
  | .truth b => .tup [.str "truth", .bool b]
  | .name x => .tup [.str "name", .str x]
  | .nil => .tup [.str "nil"]
  | .off p => .tup [.str "off", p.d]
  | .one h xs p => .tup (.str h :: (xs.map .str ++ [p.d]))
  | .two h xs p q => .tup (.str h :: (xs.map .str ++ [p.d, q.d]))
  | .thr h xs p q r => .tup (.str h :: (xs.map .str ++ [p.d, q.d, r.d]))
@[simp] theorem Pg.plain_d (p : Pg) : p.d.plain = true := by cases p <;> rfl
theorem Pg.isi_d (ts : List Ty) (p : Pg) : isiV ts p.d = some (.bool (ts.any fun t => p.d.tyOk t)) := isiV_of p.plain_d
/-- tuples in all -/
def Pg.sz : Pg → Nat
  | .num _ | .truth _ | .name _ | .nil => 1
  | .off p => p.sz + 1
  | .one _ _ p => p.sz + 1
  | .two _ _ p q => p.sz + q.sz + 1
  | .thr _ _ p q r => p.sz + q.sz + r.sz + 1
/-- how deep -/
def Pg.h : Pg → Nat
  | .num _ | .truth _ | .name _ | .nil => 0
  | .off p => p.h + 1
  | .one _ _ p => p.h + 1
  | .two _ _ p q => max p.h q.h + 1
  | .thr _ _ p q r => max p.h (max q.h r.h) + 1
/-- the words with parts -/
def HdOk (h : String) : Prop := h ∉ ["off", "truth", "num", "name", "nil"] ∧ h.length ≤ 8
def Pg.fit : Pg → Prop
  | .num i => i.natAbs < 10 ^ 60
  | .name x => x.length ≤ 8
  | .truth _ | .nil => True
  | .off p => p.fit
  | .one h xs p => HdOk h ∧ xs.length ≤ 2 ∧ (∀ x ∈ xs, x.length ≤ 8) ∧ p.fit
  | .two h xs p q => HdOk h ∧ xs.length ≤ 2 ∧ (∀ x ∈ xs, x.length ≤ 8) ∧ p.fit ∧ q.fit
  | .thr h xs p q r => HdOk h ∧ xs.length ≤ 2 ∧ (∀ x ∈ xs, x.length ≤ 8) ∧ p.fit ∧ q.fit ∧ r.fit
end Prog

namespace Prog
open Ir
def azS : String := "abcdefghijklmnopqrstuvwxyz"
def wordsL : List String := ["num", "truth", "name", "fn", "rec", "call", "let", "if", "plus", "less", "pair", "first", "second", "nil", "cons", "head", "tail", "none", "off", "true", "false", "int", "bool", "list"]
/-- a name as the pool gives it -/
structure NameOk (x : String) : Prop where
  pos : 1 ≤ x.length
  most : x.length ≤ 8
  az : ∀ c ∈ x.toList, c ∈ azS.toList
  word : x ∉ wordsL
end Prog

namespace Prog
open Ir
/-! ### the bag of draws -/
def bagC (ns : List Int) (p r s c : Int) (u : List D) : Cell := .lst (.lst (ns.map .int) :: .int p :: .int r :: .int s :: .int c :: u)
def isBag (b : Cell) : Prop := ∃ (ns : List Int) (p : Nat) (r s c : Int) (u : List D), b = bagC ns p r s c u ∧ (∀ x ∈ ns, 0 ≤ x) ∧ 0 ≤ r ∧ 0 ≤ s ∧ s < 2147483647
/-- what a bag bears behind its numbers -/
def bagU : Cell → List D
  | .lst (_ :: _ :: _ :: _ :: _ :: u) => u
  | _ => []
@[simp] theorem bagU_c (ns : List Int) (p r s c : Int) (u : List D) : bagU (bagC ns p r s c u) = u := rfl
theorem ixN5 (n : Nat) : ixN (n + 1 + 1 + 1 + 1 + 1) 0 = some 0 ∧ ixN (n + 1 + 1 + 1 + 1 + 1) 1 = some 1 ∧ ixN (n + 1 + 1 + 1 + 1 + 1) 2 = some 2 ∧ ixN (n + 1 + 1 + 1 + 1 + 1) 3 = some 3 ∧ ixN (n + 1 + 1 + 1 + 1 + 1) 4 = some 4 := by
  have h : ∀ k : Nat, k < 5 → ixN (n + 1 + 1 + 1 + 1 + 1) (k : Int) = some k := fun k hk => by
    unfold ixN
    rw [if_pos (by omega), if_pos (by omega)]; rfl
  exact ⟨h 0 (by omega), h 1 (by omega), h 2 (by omega), h 3 (by omega), h 4 (by omega)⟩
theorem ixN_at {n p : Nat} (h : p < n) : ixN n (p : Int) = some p := by
  unfold ixN
  rw [if_pos (by omega), if_pos (by omega)]; rfl
set_option maxHeartbeats 1000000 in
theorem draw_mid {T : Tab} (hT : T "_law_draw" = some f_law_draw) {n : Nat} {st : Store} {B : Nat} {ns : List Int} {u : List D} {p r s c many : Int} (hB : st[B]? = some (bagC ns p r s c u)) (hr : r ≠ 0) (hm : 0 < many) (hb : bigOk many = true) :
    callN T (n + 1) "_law_draw" [.ref B, .d (.int many)] st = .ok (.d (.int (r % many))) (st.set B (bagC ns p (r / many) s c u)) := by
  have hs := set_at hB
  unfold bagC at hB ⊢
  simp [callN, hT, runFn, f_law_draw, indexV, hB, hs, D.index, atI, ixN5, ixN_at, cmpV, deref, D.cmp, fine, D.dep, D.eqv, asB, hr, hm, hb, D.bin, Tg.putV, setV, asD, leave, take_set]
set_option maxHeartbeats 1000000 in
theorem draw_next {T : Tab} (hT : T "_law_draw" = some f_law_draw) {n : Nat} {st : Store} {B : Nat} {ns : List Int} {u : List D} {s c many : Int} {p : Nat} (hB : st[B]? = some (bagC ns p 0 s c u)) (hp : p < ns.length) (hm : 0 < many) (hb : bigOk many = true) :
    callN T (n + 1) "_law_draw" [.ref B, .d (.int many)] st = .ok (.d (.int (ns[p] % many))) (st.set B (bagC ns (p + 1) (ns[p] / many) s c u)) := by
  have hs := set_at hB
  unfold bagC at hB ⊢
  simp [callN, hT, runFn, f_law_draw, indexV, hB, hs, D.index, atI, ixN5, ixN_at, cmpV, deref, D.cmp, fine, D.dep, D.eqv, asB, hp, hm, hb, D.bin, Tg.putV, setV, asD, leave, take_set, bltV, lenDic, bltD, derefs, D.blt, D.bLen]
def stirBody : List Stm := [.set (.var 0) (.con (.int 4)) (.bin .add (.idx (.var 0) (.con (.int 4))) (.con (.int 1))),
    .set (.var 0) (.con (.int 3)) (.bin .mod (.bin .add (.bin .add (.bin .add (.bin .pow (.idx (.var 0) (.con (.int 3))) (.con (.int 3))) (.bin .mul (.con (.int 69621)) (.idx (.var 0) (.con (.int 3))))) (.bin .mul (.con (.int 1031)) (.idx (.var 0) (.con (.int 4))))) (.con (.int 1))) (.con (.int 2147483647))),
    .asg (.name 2) (.bin .add (.bin .mul (.var 2) (.con (.int 134217728))) (.bin .fdiv (.idx (.var 0) (.con (.int 3))) (.con (.int 16))))]
set_option maxHeartbeats 2000000 in
theorem stir_turn {C : Calls} {st : Store} {B : Nat} {ns : List Int} {u : List D} {p r s c many found : Int} {x : D} (hB : st[B]? = some (bagC ns p r s c u)) (h0 : 0 ≤ s) (h1 : s < 2147483647) :
    ∃ s', (0 ≤ s' ∧ s' < 2147483647) ∧ execs C stirBody [some (.ref B), some (.d (.int many)), some (.d (.int found)), some (.d x)] st = .ok (.nx [some (.ref B), some (.d (.int many)), some (.d (.int (found * 134217728 + s' / 16))), some (.d x)]) (st.set B (bagC ns p r s' (c + 1) u)) := by
  refine ⟨(s ^ 3 + 69621 * s + 1031 * (c + 1) + 1) % 2147483647, ⟨Int.emod_nonneg _ (by decide), Int.emod_lt_of_pos _ (by decide)⟩, ?_⟩
  have hs := set_at hB
  have hbs := big_of_small h0 h1
  unfold bagC at hB ⊢
  simp [stirBody, indexV, hB, hs, D.index, atI, ixN5, ixN_at, deref, D.bin, Tg.putV, setV, asD, smallOk_lit, bigOk_lit, hbs]
theorem stir_loop {C : Calls} {B : Nat} {ns : List Int} {u : List D} {p r many : Int} : ∀ (xs : List D) (st : Store) (s c found : Int) (k : Option Val), st[B]? = some (bagC ns p r s c u) → 0 ≤ s → s < 2147483647 →
    ∃ s' c' found' k', (0 ≤ s' ∧ s' < 2147483647) ∧ loopL (Tg.name 3).putF (execs C stirBody) xs [some (.ref B), some (.d (.int many)), some (.d (.int found)), k] st = .ok (.nx [some (.ref B), some (.d (.int many)), some (.d (.int found')), k']) (st.set B (bagC ns p r s' c' u))
  | [], st, s, c, found, k, hB, h0, h1 => by
    refine ⟨s, c, found, k, ⟨h0, h1⟩, ?_⟩
    have : st.set B (bagC ns p r s c u) = st := by
      apply List.ext_getElem?
      intro i
      by_cases e : B = i
      · subst e; rw [set_at hB, hB]
      · rw [List.getElem?_set_ne e]
    simp [loopL, this]
  | x :: xs, st, s, c, found, k, hB, h0, h1 => by
    obtain ⟨s1, ⟨g0, g1⟩, e⟩ := stir_turn (C := C) (many := many) (found := found) (x := x) hB h0 h1
    obtain ⟨s', c', f', k', hs', e2⟩ := stir_loop (C := C) (many := many) xs (st.set B (bagC ns p r s1 (c + 1) u)) s1 (c + 1) (found * 134217728 + s1 / 16) (some (.d x)) (set_at hB _) g0 g1
    refine ⟨s', c', f', k', hs', ?_⟩
    simp [loopL, Tg.putF_eq, Tg.put, e, e2]
theorem bits_le {i : Int} (h : bigOk i = true) : intBits i ≤ 4000 := by
  unfold bigOk at h
  have h1 := of_decide_eq_true h
  unfold intBits
  split
  · omega
  · rename_i h0
    exact (Nat.log2_lt h0).mpr h1
theorem range_ok {a : Nat} (h : a ≤ 4000) : D.bRange [.int (1 + (a : Int) / 27)] = some (.lst (rangeL 0 (1 + (a : Int) / 27).toNat)) := by
  have hL : (LIM : Int) = 16777216 := by rw [LIM_eq]; rfl
  simp only [D.bRange]
  rw [if_pos (by omega)]
set_option maxHeartbeats 2000000 in
theorem stirred_ok {T : Tab} (hT : T "_law_stirred" = some f_law_stirred) {n : Nat} {st : Store} {B : Nat} {ns : List Int} {u : List D} {p r s c many : Int} (hB : st[B]? = some (bagC ns p r s c u)) (h0 : 0 ≤ s) (h1 : s < 2147483647) (hm : 0 < many) (hb : bigOk many = true) :
    ∃ s' c' d, (0 ≤ s' ∧ s' < 2147483647) ∧ (0 ≤ d ∧ d < many) ∧ callN T (n + 1) "_law_stirred" [.ref B, .d (.int many)] st = .ok (.d (.int d)) (st.set B (bagC ns p r s' c' u)) := by
  have hbits := bits_le hb
  obtain ⟨s', c', f', k', hs', e⟩ := stir_loop (C := callN T n) (many := many) (rangeL 0 (1 + ((intBits many : Nat) : Int) / 27).toNat) st s c 0 none hB h0 h1
  refine ⟨s', c', f' % many, hs', ⟨Int.emod_nonneg _ (by omega), Int.emod_lt_of_pos _ hm⟩, ?_⟩
  unfold stirBody at e
  simp [callN, hT, runFn, f_law_stirred, mthOk, mthV, mBits, deref, D.bin, Tg.putV, bltV, bltD, derefs, D.blt, range_ok hbits, asD, D.seq, bigOk_lit, e, hm, leave, take_set]
theorem draw_okU {T : Tab} (hT : T "_law_draw" = some f_law_draw) (hT2 : T "_law_stirred" = some f_law_stirred) {n : Nat} {st : Store} {B : Nat} {b : Cell} {many : Int} (hB : st[B]? = some b) (ib : isBag b) (hm : 0 < many) (hb : bigOk many = true) :
    ∃ d b', (0 ≤ d ∧ d < many) ∧ isBag b' ∧ bagU b' = bagU b ∧ callN T (n + 2) "_law_draw" [.ref B, .d (.int many)] st = .ok (.d (.int d)) (st.set B b') := by
  obtain ⟨ns, p, r, s, c, u, rfl, hns, hr, h0, h1⟩ := ib
  by_cases hr0 : r = 0
  · subst hr0
    by_cases hp : p < ns.length
    · refine ⟨_, bagC ns (p + 1) (ns[p] / many) s c u, ⟨Int.emod_nonneg _ (by omega), Int.emod_lt_of_pos _ hm⟩, ⟨ns, p + 1, ns[p] / many, s, c, u, by simp, hns, Int.ediv_nonneg (hns _ (List.getElem_mem hp)) (by omega), h0, h1⟩, rfl, draw_next hT hB hp hm hb⟩
    · obtain ⟨s', c', d, hs', hd, e⟩ := stirred_ok hT2 (n := n) hB h0 h1 hm hb
      refine ⟨d, bagC ns p 0 s' c' u, hd, ⟨ns, p, 0, s', c', u, rfl, hns, by omega, hs'.1, hs'.2⟩, rfl, ?_⟩
      have hs := set_at hB
      unfold bagC at hB e ⊢
      have hp' : ¬ ((p : Int) < (ns.length : Int)) := by omega
      rw [show n + 2 = (n + 1) + 1 from rfl, callN]
      simp [hT, runFn, f_law_draw, indexV, hB, hs, D.index, atI, ixN5, ixN_at, cmpV, deref, D.cmp, fine, D.dep, D.eqv, asB, hp, hp', hm, hb, D.bin, Tg.putV, setV, asD, leave, take_set, bltV, lenDic, bltD, derefs, D.blt, D.bLen, e]
  · exact ⟨_, bagC ns p (r / many) s c u, ⟨Int.emod_nonneg _ (by omega), Int.emod_lt_of_pos _ hm⟩, ⟨ns, p, r / many, s, c, u, rfl, hns, Int.ediv_nonneg hr (by omega), h0, h1⟩, rfl, draw_mid hT hB hr0 hm hb⟩
/-! ### the bag at its start -/
def bagBody : List Stm := [.asg (.name 1) (.bin .mod (.bin .add (.bin .add (.bin .mul (.var 1) (.con (.int 48271))) (.bin .mod (.var 2) (.con (.int 2147483629)))) (.con (.int 1))) (.con (.int 2147483647)))]
theorem bag_loop {C : Calls} {st : Store} {x0 : Option Val} : ∀ (l : List Int) (s : Int) (x2 : Option Val), 0 ≤ s → s < 2147483647 →
    ∃ s' x2', (0 ≤ s' ∧ s' < 2147483647) ∧ loopL (Tg.name 2).putF (execs C bagBody) (l.map .int) [x0, some (.d (.int s)), x2] st = .ok (.nx [x0, some (.d (.int s')), x2']) st
  | [], s, x2, h0, h1 => ⟨s, x2, ⟨h0, h1⟩, by simp [loopL]⟩
  | i :: l, s, x2, h0, h1 => by
    obtain ⟨s', x2', hs, e⟩ := bag_loop (C := C) (st := st) (x0 := x0) l ((s * 48271 + i % 2147483629 + 1) % 2147483647) (some (.d (.int i))) (Int.emod_nonneg _ (by decide)) (Int.emod_lt_of_pos _ (by decide))
    refine ⟨s', x2', hs, ?_⟩
    simp [loopL, Tg.putF_eq, Tg.put, bagBody, deref, D.bin, smallOk_lit, Tg.putV]
    simpa [bagBody] using e
set_option maxHeartbeats 2000000 in
theorem bag_ok {T : Tab} (hT : T "_law_bag" = some f_law_bag) {n : Nat} {st : Store} (ns : List Int) :
    ∃ b, isBag b ∧ bagU b = [] ∧ callN T (n + 1) "_law_bag" [.d (.ro (ns.map .int))] st = .ok (.ref st.length) (st ++ [b]) := by
  obtain ⟨ms, hms⟩ : ∃ ms, ms = ns.take 63 := ⟨_, rfl⟩
  obtain ⟨s, x2, ⟨h0, h1⟩, e⟩ := bag_loop (C := callN T n) (st := st) (x0 := some (.d (.ro (ns.map .int)))) ms 29 none (by decide) (by decide)
  have hcut : cut (ns.map D.int) none (some 63) = ms.map .int := by
    rw [hms]
    simp [cut, sIx, List.map_take]
  have hpow : (0 : Int) < (10 ^ 60) ^ 10 := pow_lits.2.2
  have ec := comp_const (f := compStep (eval (callN T n) (.bin .mod (.blt .abs [.var 2]) (.bin .pow (.bin .pow (.con (.int 10)) (.con (.int 60))) (.con (.int 10))))) (conds (callN T n) []) (.name 2) [some (.d (.ro (ns.map .int))), some (.d (.int s)), none]) (st := st) D.int (fun i => D.int ((if i < 0 then -i else i) % (10 ^ 60) ^ 10)) ms (fun i hi => by
    simp [compStep, Tg.put, bltV, bltD, derefs, deref, D.blt, D.bAbs, D.bin, pow_lits.1, bigOk_60, asD])
  refine ⟨bagC (ms.map fun i => (if i < 0 then -i else i) % (10 ^ 60) ^ 10) (0 : Nat) 0 s 0 [], ⟨_, 0, 0, s, 0, [], rfl, ?_, by omega, h0, h1⟩, rfl, ?_⟩
  · intro x hx
    obtain ⟨i, _, rfl⟩ := List.mem_map.mp hx
    exact Int.emod_nonneg _ (by omega)
  · rw [callN_run hT]
    unfold bagBody at e
    simp [runFn, f_law_bag, Tg.putV, asI, deref, D.slice, hcut, asD, D.seq, e, Tg.slots, wipe, ec, asDs, leave, bagC]
end Prog

namespace Prog
open Ir
/-- names: all unlike -/
structure NP (P : List String) : Prop where
  nd : P.Nodup
  lo : 6 ≤ P.length
  hi : P.length ≤ 8
  e8 : poolA = true → P.length = 8
  ok : ∀ x ∈ P, NameOk x
/-- what a bag bears behind its numbers: nothing yet, or names, as data or as a list of the arena -/
def PoolOk (os : Option (List Obj)) (u : List D) : Prop := u = [] ∨ (poolA = false ∧ ∃ P, u = [.lst (P.map .str)] ∧ NP P) ∨ ∃ n l P, poolA = true ∧ u = [.oid n] ∧ os = some l ∧ l[n]? = some (.lst (P.map .str)) ∧ NP P
theorem PoolOk.mono {os os' : Option (List Obj)} {u : List D} (h : PoolOk os u) (k : ∀ (l : List Obj) (n : Nat) (o : Obj), os = some l → l[n]? = some o → ∃ l' : List Obj, os' = some l' ∧ l'[n]? = some o) : PoolOk os' u := by
  rcases h with h | h | ⟨n, l, P, h0, h1, h2, h3, h4⟩
  · exact .inl h
  · exact .inr (.inl h)
  · obtain ⟨l', e1, e2⟩ := k l n _ h2 h3
    exact .inr (.inr ⟨n, l', P, h0, h1, e1, e2, h4⟩)
def Bag (st : Store) (B : Nat) : Prop := ∃ b, st[B]? = some b ∧ isBag b ∧ PoolOk (arenaOf st) (bagU b)
theorem arenaOf_eq {a s : Store} (h : a[0]? = s[0]?) : arenaOf a = arenaOf s := by
  cases a <;> cases s <;> simp at h
  · rfl
  · subst h; rfl
theorem arenaOf_set {st : Store} {B : Nat} {b b' : Cell} (h : st[B]? = some b) (ib : isBag b) (ib' : isBag b') : arenaOf (st.set B b') = arenaOf st := by
  cases B with
  | succ n => exact arenaOf_eq (by simp)
  | zero =>
    obtain ⟨_, _, _, _, _, _, rfl, _⟩ := ib
    obtain ⟨_, _, _, _, _, _, rfl, _⟩ := ib'
    cases st with
    | nil => rfl
    | cons c r => simp at h; subst h; rfl
/-- the same cells, but for the bag's -/
def Kp (B : Nat) (st s : Store) : Prop := s.length = st.length ∧ ∀ i, i ≠ B → s[i]? = st[i]?
theorem Kp.refl (B : Nat) (st : Store) : Kp B st st := ⟨rfl, fun _ _ => rfl⟩
theorem Kp.trans {B : Nat} {a b c : Store} (h : Kp B a b) (k : Kp B b c) : Kp B a c := ⟨k.1.trans h.1, fun i hn => (k.2 i hn).trans (h.2 i hn)⟩
theorem Kp.keep {B : Nat} {a b : Store} (h : Kp B a b) : Keep B a b := ⟨by rw [h.1]; exact Nat.le_refl _, fun i _ hn => h.2 i hn⟩
theorem Kp.of {B : Nat} {a b : Store} (h : Keep B a b) : Kp B a (b.take a.length) :=
  ⟨h.len, fun i hn => by
    by_cases hi : i < a.length
    · exact h.take.2 i hi hn
    · rw [List.getElem?_eq_none (by rw [h.len]; omega), List.getElem?_eq_none (by omega)]⟩
theorem Kp.take {B : Nat} {a b : Store} (h : Kp B a b) : b.take a.length = b := List.take_of_length_le (by rw [h.1]; exact Nat.le_refl _)
theorem Kp.set {B : Nat} (a : Store) (c : Cell) : Kp B a (a.set B c) := ⟨by simp, fun i hn => List.getElem?_set_ne (Ne.symm hn)⟩
theorem Bag.lt {st : Store} {B : Nat} (h : Bag st B) : B < st.length := let ⟨_, e, _⟩ := h; (List.getElem?_eq_some_iff.mp e).1
theorem Bag.of {s s' : Store} {B : Nat} (h : Bag s B) (e : s'[B]? = s[B]?) (e0 : s'[0]? = s[0]?) : Bag s' B := let ⟨b, eb, i, j⟩ := h; ⟨b, e.trans eb, i, by rw [arenaOf_eq e0]; exact j⟩
theorem Bag.take {s : Store} {B m : Nat} (h : Bag s B) (hm : B < m) : Bag (s.take m) B := h.of (by rw [List.getElem?_take, if_pos hm]) (by rw [List.getElem?_take, if_pos (by omega)])
theorem Bag.pushes {s : Store} {B : Nat} (h : Bag s B) (c : Store) : Bag (s ++ c) B := h.of (by rw [List.getElem?_append_left h.lt]) (by rw [List.getElem?_append_left (by have := h.lt; omega)])
theorem Bag.push {s : Store} {B : Nat} (h : Bag s B) (c : Cell) : Bag (s ++ [c]) B := h.pushes [c]
theorem Bag.keep {a s : Store} {B X : Nat} (h : Bag a B) (k : Kp X a s) (hn : B ≠ X) (h0 : X ≠ 0 := by omega) : Bag s B := h.of (k.2 B hn) (k.2 0 (Ne.symm h0))
theorem draw_wp {n : Nat} {st : Store} {B : Nat} {many : Int} {pp : Post Val} (hB : Bag st B) (hm : 0 < many) (hb : bigOk many = true) (hn : 2 ≤ n)
    (k : ∀ d s, 0 ≤ d → d < many → Bag s B → Kp B st s → pp.q (.d (.int d)) s) : @Wp _ (callN T n "_law_draw" [.ref B, .d (.int many)] st) pp := by
  obtain ⟨n, rfl⟩ : ∃ n', n = n' + 2 := ⟨n - 2, by omega⟩
  obtain ⟨b, e, ib, ip⟩ := hB
  obtain ⟨d, b', ⟨d0, d1⟩, ib', iu, e'⟩ := draw_okU T_f_law_draw T_f_law_stirred (n := n) e ib hm hb
  rw [e', wp_ok]
  exact k d _ d0 d1 ⟨b', set_at e b', ib', by rw [arenaOf_set e ib ib', iu]; exact ip⟩ (.set st b')
/-- a bag, what it bears behind its numbers told -/
def Bu (st : Store) (B : Nat) (u : List D) : Prop := ∃ b, st[B]? = some b ∧ isBag b ∧ bagU b = u
theorem Bu.bag {st : Store} {B : Nat} {u : List D} (h : Bu st B u) (p : PoolOk (arenaOf st) u) : Bag st B := let ⟨b, e, i, eu⟩ := h; ⟨b, e, i, by rw [eu]; exact p⟩
theorem bag_wp {n : Nat} {st : Store} {pp : Post Val} (ns : List Int) (hn : 1 ≤ n)
    (k : ∀ s, Bag s st.length → s.length = st.length + 1 → Keep st.length st s → pp.q (.ref st.length) s) : @Wp _ (callN T n "_law_bag" [.d (.ro (ns.map .int))] st) pp := by
  obtain ⟨n, rfl⟩ : ∃ n', n = n' + 1 := ⟨n - 1, by omega⟩
  obtain ⟨b, ib, iu, e⟩ := bag_ok T_f_law_bag (n := n) (st := st) ns
  rw [e, wp_ok]
  exact k _ ⟨b, get_push st b, ib, .inl iu⟩ (by simp) ((Keep.refl _ st).push b)
end Prog

namespace Prog
open Ir
end Prog

namespace Prog
open Ir
end Prog

namespace Prog
open Ir
/-! ### programs: their form and their names -/
def ONES : List String := ["first", "second", "head", "tail", "none"]
def TWOS : List String := ["call", "plus", "less", "pair", "cons"]
def Pg.isOff : Pg → Bool
  | .off _ => true
  | _ => false
/-- the form: words with what they bear -/
def Pg.sk : Pg → Prop
  | .num _ | .truth _ | .nil => True
  | .name x => NameOk x
  | .off p => p.sk ∧ p.isOff = false
  | .one h xs p => ((h ∈ ONES ∧ xs = []) ∨ (h = "fn" ∧ ∃ x, xs = [x] ∧ NameOk x) ∨ (h = "rec" ∧ ∃ f x, xs = [f, x] ∧ NameOk f ∧ NameOk x ∧ f ≠ x)) ∧ p.sk
  | .two h xs p q => ((h ∈ TWOS ∧ xs = []) ∨ (h = "let" ∧ ∃ x, xs = [x] ∧ NameOk x)) ∧ p.sk ∧ q.sk
  | .thr h xs p q r => h = "if" ∧ xs = [] ∧ p.sk ∧ q.sk ∧ r.sk
/-- all names are bound -/
def Pg.cl (env : List String) : Pg → Bool
  | .num _ | .truth _ | .nil => true
  | .name x => decide (x ∈ env)
  | .off p => p.cl env
  | .one _ xs p => p.cl (env ++ xs)
  | .two _ xs p q => p.cl env && q.cl (env ++ xs)
  | .thr _ _ p q r => p.cl env && q.cl env && r.cl env
/-- numbers of at most sixty figures -/
def Pg.nb : Pg → Prop
  | .num i => i.natAbs < 10 ^ 60
  | .truth _ | .nil | .name _ => True
  | .off p => p.nb
  | .one _ _ p => p.nb
  | .two _ _ p q => p.nb ∧ q.nb
  | .thr _ _ p q r => p.nb ∧ q.nb ∧ r.nb
/-- places -/
def Pg.pl : Pg → Nat
  | .num _ | .truth _ | .name _ | .nil => 1
  | .off p => p.pl
  | .one _ _ p => p.pl + 1
  | .two _ _ p q => p.pl + q.pl + 1
  | .thr _ _ p q r => p.pl + q.pl + r.pl + 1
/-- places one within another -/
def Pg.dp : Pg → Nat
  | .num _ | .truth _ | .name _ | .nil => 1
  | .off p => p.dp
  | .one _ _ p => p.dp + 1
  | .two _ _ p q => max p.dp q.dp + 1
  | .thr _ _ p q r => max p.dp (max q.dp r.dp) + 1
theorem ones_ok {h : String} (m : h ∈ ONES) : HdOk h := by
  simp only [ONES, List.mem_cons, List.not_mem_nil, or_false] at m
  rcases m with rfl | rfl | rfl | rfl | rfl <;> exact ⟨by decide, by decide⟩
theorem twos_ok {h : String} (m : h ∈ TWOS) : HdOk h := by
  simp only [TWOS, List.mem_cons, List.not_mem_nil, or_false] at m
  rcases m with rfl | rfl | rfl | rfl | rfl <;> exact ⟨by decide, by decide⟩
theorem Pg.sk_fit : ∀ p : Pg, p.sk → p.nb → p.fit
  | .num _, _, h => h
  | .truth _, _, _ | .nil, _, _ => trivial
  | .name _, h, _ => h.most
  | .off p, h, n => p.sk_fit h.1 n
  | .one h xs p, ⟨h1, h2⟩, n => by
    have hp := p.sk_fit h2 n
    rcases h1 with ⟨m, rfl⟩ | ⟨rfl, x, rfl, hx⟩ | ⟨rfl, f, x, rfl, hf, hx, _⟩
    · exact ⟨ones_ok m, by simp, by simp, hp⟩
    · exact ⟨⟨by decide, by decide⟩, by simp, by simpa using hx.most, hp⟩
    · exact ⟨⟨by decide, by decide⟩, by simp, by simpa using ⟨hf.most, hx.most⟩, hp⟩
  | .two h xs p q, ⟨h1, h2, h3⟩, n => by
    have hp := p.sk_fit h2 n.1
    have hq := q.sk_fit h3 n.2
    rcases h1 with ⟨m, rfl⟩ | ⟨rfl, x, rfl, hx⟩
    · exact ⟨twos_ok m, by simp, by simp, hp, hq⟩
    · exact ⟨⟨by decide, by decide⟩, by simp, by simpa using hx.most, hp, hq⟩
  | .thr h xs p q r, ⟨h1, h0, h2, h3, h4⟩, n => by
    have hp := p.sk_fit h2 n.1
    have hq := q.sk_fit h3 n.2.1
    have hr := r.sk_fit h4 n.2.2
    subst h0 h1
    exact ⟨⟨by decide, by decide⟩, by simp, by simp, hp, hq, hr⟩
/-- what is bound within is among some names -/
def Pg.bin (N : List String) : Pg → Prop
  | .num _ | .truth _ | .name _ | .nil => True
  | .off p => p.bin N
  | .one _ xs p => (∀ x ∈ xs, x ∈ N) ∧ p.bin N
  | .two _ xs p q => (∀ x ∈ xs, x ∈ N) ∧ p.bin N ∧ q.bin N
  | .thr _ xs p q r => (∀ x ∈ xs, x ∈ N) ∧ p.bin N ∧ q.bin N ∧ r.bin N
/-- what the laws draw -/
structure Pg.Ok (N env : List String) (p : Pg) : Prop where
  sk : p.sk
  nb : p.nb
  cl : p.cl env = true
  bn : p.bin N
theorem Pg.Ok.fit {N env : List String} {p : Pg} (h : p.Ok N env) : p.fit := p.sk_fit h.sk h.nb
theorem Pg.Ok.off {N env : List String} {p : Pg} (h : p.Ok N env) (n : p.isOff = false) : (Pg.off p).Ok N env := ⟨⟨h.sk, n⟩, h.nb, h.cl, h.bn⟩
end Prog

namespace Prog
open Ir
/-! ### whether any tuple is a program -/
def tbl : List (String × String) := [("num", "n"), ("truth", "b"), ("name", "x"), ("fn", "xp"), ("rec", "xxp"), ("call", "pp"), ("let", "xpp"), ("if", "ppp"), ("plus", "pp"), ("less", "pp"), ("pair", "pp"), ("first", "p"), ("second", "p"), ("nil", ""), ("cons", "pp"), ("head", "p"), ("tail", "p"), ("none", "p"), ("off", "p")]
def shp (h : String) : Option String := tbl.lookup h
def OTH : List String := ["true", "false", "int", "bool", "list"]
def isNm : D → Bool
  | .str z => decide (1 ≤ z.length) && decide (z.length ≤ 8) && (shp z).isNone && decide (z ∉ OTH) && z.toList.all fun c => decide (c ∈ azS.toList)
  | _ => false
mutual
/-- texts and tuples that are not too long -/
def sm : D → Bool
  | .non | .bool _ | .int _ => true
  | .str s => decide (s.length ≤ 100000)
  | .tup xs => sms xs
  | .lst _ => false
  | .ro _ => false
  | .oid _ => false
  | .fn _ => false
  | .exn _ _ _ => false
def sms : List D → Bool
  | [] => true
  | x :: xs => sm x && sms xs
end
end Prog

namespace Prog
open Ir
def isTup : D → Bool
  | .tup _ => true
  | _ => false
end Prog

namespace Prog
open Ir
end Prog

namespace Prog
open Ir
end Prog

namespace Prog
open Ir
theorem shp_none {x : String} (h : x ∉ wordsL) : shp x = none ∧ x ∉ OTH := by
  simp only [wordsL, List.mem_cons, List.not_mem_nil, or_false, not_or] at h
  obtain ⟨h1, h2, h3, h4, h5, h6, h7, h8, h9, h10, h11, h12, h13, h14, h15, h16, h17, h18, h19, h20, h21, h22, h23, h24⟩ := h
  constructor
  · have b : ∀ a : String, x ≠ a → (x == a) = false := fun a q => by simpa using q
    simp only [shp, tbl, List.lookup, b _ h1, b _ h2, b _ h3, b _ h4, b _ h5, b _ h6, b _ h7, b _ h8, b _ h9, b _ h10, b _ h11, b _ h12, b _ h13, b _ h14, b _ h15, b _ h16, b _ h17, b _ h18, b _ h19]
  · simp [OTH, h20, h21, h22, h23, h24]
theorem NameOk.isNm {x : String} (h : NameOk x) : isNm (.str x) = true := by
  obtain ⟨h1, h2⟩ := shp_none h.word
  have h3 : (x.toList.all fun c => decide (c ∈ azS.toList)) = true := List.all_eq_true.mpr fun c hc => decide_eq_true (h.az c hc)
  simp only [Prog.isNm, h.pos, h.most, h1, h2, h3]; rfl
theorem it_str (x : String) : isTup (.str x) = false := rfl
end Prog

namespace Prog
open Ir
/-! ### texts read: the plain model of the reader -/
/-- an open bracket: offs ahead of it, its word, what it bears -/
structure Fr where
  o : Nat
  h : String
  ps : List D
structure Rst where
  pos : Nat
  stk : List Fr
  many : Nat
  deep : Nat
  twice : Bool
def stopC (c : Char) : Bool := c == ' ' || c == '(' || c == ')'
def wordL (cs : List Char) (i : Nat) : List Char := (cs.drop i).takeWhile fun c => !stopC c
def offsL (cs : List Char) (i : Nat) : Nat := ((cs.drop i).takeWhile fun c => c == '?').length
def BAREL : List String := ["num", "truth", "name", "nil", "off"]
/-- the number that a word writes -/
def numR (w : List Char) : Option Int :=
  let f := if w.head? = some '-' then w.tail else w
  if 1 ≤ f.length ∧ f.length ≤ 60 ∧ f.all isDig = true then (if w = ['0'] ∨ f.head? ≠ some '0' then txtInt w else none) else none
def atomR (w : List Char) : Option D :=
  match numR w with
  | some i => some (.tup [.str "num", .int i])
  | none => if w = "true".toList then some (.tup [.str "truth", .bool true]) else if w = "false".toList then some (.tup [.str "truth", .bool false]) else if w = "nil".toList then some (.tup [.str "nil"])
    else if isNm (.str (String.ofList w)) then some (.tup [.str "name", .str (String.ofList w)]) else none
def aroundD (d : D) (o : Nat) : D := if 0 < o then .tup [.str "off", d] else d
/-- all brackets that end behind a part -/
def closedR (cs : List Char) : List Fr → D → Nat → Nat → Nat → Bool → Option (Option D × Rst)
  | [], d, i, m, e, t => if i = cs.length then some (some d, ⟨i, [], m, e, t⟩) else none
  | f :: r, d, i, m, e, t => match cs[i]? with
    | some ' ' => some (none, ⟨i + 1, ⟨f.o, f.h, f.ps ++ [d]⟩ :: r, m, e, t⟩)
    | some ')' => match shp f.h with
      | some sh => if f.ps.length + 1 = sh.length then closedR cs r (aroundD (if e ≤ 30 then .tup (.str f.h :: (f.ps ++ [d])) else .tup [.str "nil"]) f.o) (i + 1) (m + 1) e (t || decide (1 < f.o)) else none
      | none => none
    | _ => none
/-- what must stand here -/
def letterR (s : Rst) : Option Char :=
  match s.stk with
  | [] => some 'p'
  | f :: _ => match shp f.h with
    | some sh => sh.toList[f.ps.length]?
    | none => none
def openedR (cs : List Char) (o : Nat) (s : Rst) : Option Rst :=
  let w := wordL cs (s.pos + 1)
  let i := s.pos + 1 + w.length
  if (shp (String.ofList w)).isSome ∧ String.ofList w ∉ BAREL ∧ cs[i]? = some ' ' then some ⟨i + 1, ⟨o, String.ofList w, []⟩ :: s.stk, s.many, max s.deep (s.stk.length + 1), s.twice⟩ else none
/-- one turn -/
def stepR (cs : List Char) (s : Rst) : Option (Option D × Rst) :=
  match letterR s with
  | none => none
  | some l =>
    let o := offsL cs s.pos
    let i := s.pos + o
    if cs[i]? = some '(' then (if l = 'p' then (openedR cs o { s with pos := i }).map fun s' => (none, s') else none)
    else
      let w := wordL cs i
      let j := i + w.length
      if l = 'p' then (match atomR w with
        | some d => closedR cs s.stk (aroundD d o) j (s.many + 1) (max s.deep (s.stk.length + 1)) (s.twice || decide (1 < o))
        | none => none)
      else if o = 0 ∧ isNm (.str (String.ofList w)) = true then closedR cs s.stk (.str (String.ofList w)) j s.many s.deep s.twice else none
/-- what reading comes to -/
inductive RdRel (cs : List Char) : Rst → Option (D × Rst) → Prop
  | bad {s : Rst} : stepR cs s = none → RdRel cs s none
  | done {s s' : Rst} {d : D} : stepR cs s = some (some d, s') → RdRel cs s (some (d, s'))
  | go {s s' : Rst} {r : Option (D × Rst)} : stepR cs s = some (none, s') → RdRel cs s' r → RdRel cs s r
end Prog

namespace Prog
open Ir
/-! ### a while, one turn more -/
/-! ### the arena at a store's head -/
@[simp] theorem getO_ar (os : List Obj) (tl : Store) (n : Nat) : getO (.arena os :: tl) (.d (.oid n)) = (os[n]?).map fun o => (n, o) := rfl
@[simp] theorem putO_ar (os : List Obj) (tl : Store) (n : Nat) (o : Obj) : putO (.arena os :: tl) n o = .arena (os.set n o) :: tl := rfl
@[simp] theorem pushO_ar (os : List Obj) (tl : Store) (o : Obj) : pushO (.arena os :: tl) o = .ok (.d (.oid os.length)) (.arena (os ++ [o]) :: tl) := rfl
theorem fld_ar {os : List Obj} {tl : Store} {r : Nat} {c f : String} {fs : List (String × D)} {d : D} (h : os[r]? = some (.inst c fs)) (hl : lookF f fs = some d) : fldV (.arena os :: tl) (.d (.oid r)) c f = some d := by
  simp [fldV, h, hl]
theorem set_ar {os : List Obj} {tl : Store} {r : Nat} {c f : String} {fs : List (String × D)} {d : D} (h : os[r]? = some (.inst c fs)) (hl : fs.length < 1000) : setFV (.arena os :: tl) (.d (.oid r)) c f d = some (.arena (os.set r (.inst c (putFd f d fs))) :: tl) := by
  simp [setFV, h, hl]
theorem meth_ar {os : List Obj} {tl : Store} {r : Nat} {c m : String} {fs : List (String × D)} (h : os[r]? = some (.inst c fs)) (hl : lookF m fs = none) : methOk (.arena os :: tl) (.d (.oid r)) c m = true := by
  simp [methOk, h, hl]
/-! ### texts -/
end Prog

namespace Prog
open Ir
theorem eq_of_wp {α : Type} {r : Res α} {a : α} {s : Store} (h : @Wp _ r ⟨fun a' s' => a' = a ∧ s' = s⟩) : r = .ok a s := by
  obtain ⟨a', s', e, rfl, rfl⟩ := wp_iff.mp h
  exact e
end Prog

namespace Prog
open Ir
/-! ### the solver: its object, what is bound, how deep -/
abbrev svO (b : Nat) (m : Int) : Obj := .inst "Solver" [("bound", .oid b), ("many", .int m)]
structure SlvAt (os : List Obj) (a b : Nat) (g : G) (m : Int) : Prop where
  sv : os[a]? = some (svO b m)
  bd : os[b]? = some (.dic (dF g))
def isC : Kd → Bool
  | .list _ | .fn _ _ | .pair _ _ => true
  | _ => false
def NB (L : List Kd) : Nat := (L.filter isC).length
theorem NB_app (L M : List Kd) : NB (L ++ M) = NB L + NB M := by simp [NB]
theorem US.h_leC {L : List Kd} {S : Int → Kd} (us : US L S) (cl : Cl L) {u : Kd} (hu : u ∈ L) : (u.sub S).h ≤ NB L := by
  refine pigeon (fun w => (w.sub S).h) _ (L.filter isC) fun m h1 h2 => ?_
  obtain ⟨w, hw, e⟩ := us.heights cl _ u hu rfl m h1 h2
  have key : ∀ v ∈ L, v.nv → (v.sub S).h = m → ∃ w ∈ L.filter isC, (w.sub S).h = m := fun v hv nv hh => by
    refine ⟨v, List.mem_filter.mpr ⟨hv, ?_⟩, hh⟩
    cases v <;> simp [isC, Kd.sub, Kd.h] at hh ⊢
    · omega
    · omega
    · exact nv
  cases hw' : w with
  | free i =>
    rw [hw'] at e
    rcases us.clos i with ⟨j, e3⟩ | ⟨w2, hw2, nw, e3⟩
    · simp [Kd.sub, e3, Kd.h] at e; omega
    · exact key w2 hw2 nw (by rw [← e3]; exact e)
  | _ => exact key w hw (by rw [hw']; exact trivial) e
/-- what is bound so far, and what it comes to -/
structure FL (L : List Kd) (g : G) (S : Int → Kd) : Prop where
  fs : ∃ rk, FS L g S rk
  key : ∀ i, g.lookup i ≠ none → .free i ∈ L
  cn : g.length + cnt S L ≤ L.length
theorem FL.us {L : List Kd} {g : G} {S : Int → Kd} (h : FL L g S) : US L S := let ⟨_, f⟩ := h.fs; f.us
theorem FL.start (L : List Kd) : FL L [] .free := by
  refine ⟨⟨fun _ => 0, US.start L, fun i t h => by simp at h, fun i => by simp, fun i j h => by simp at h⟩, fun i h => absurd rfl h, ?_⟩
  simp only [List.length_nil, Nat.zero_add, cnt]
  exact List.length_filter_le _ _
theorem cnt_app (S : Int → Kd) (L M : List Kd) : cnt S (L ++ M) = cnt S L + cnt S M := by simp [cnt]
theorem FL.grow {L M : List Kd} {g : G} {S : Int → Kd} (cl : Cl L) (h : FL L g S) : FL (L ++ M) g S := by
  obtain ⟨⟨rk, f⟩, key, cn⟩ := h
  refine ⟨⟨rk, ⟨f.us.idem, fun i => ?_, fun x j hx hj => ?_⟩, fun i t hi => ?_, f.free, f.rank⟩, fun i hi => List.mem_append_left _ (key i hi), ?_⟩
  · rcases f.us.clos i with h | ⟨u, hu, nu, e⟩
    · exact .inl h
    · exact .inr ⟨u, List.mem_append_left _ hu, nu, e⟩
  · cases hl : g.lookup x with
    | none =>
      have := (f.free x).mp hl
      rw [this] at hj
      have : x = j := hj
      subst this
      exact hx
    | some t =>
      obtain ⟨h1, h2⟩ := f.bound x t hl
      rw [h2] at hj
      exact List.mem_append_left _ (f.us.varsK cl h1 hj)
  · obtain ⟨h1, h2⟩ := f.bound i t hi
    exact ⟨List.mem_append_left _ h1, h2⟩
  · rw [cnt_app, List.length_append]
    have : cnt S M ≤ M.length := List.length_filter_le _ _
    omega
theorem putG_new {g : G} {i : Int} (h : g.lookup i = none) (k : Kd) : putG g i k = g ++ [(i, k)] := by simp [putG, h]
theorem FL.bind {L : List Kd} {g : G} {S : Int → Kd} (cl : Cl L) (h : FL L g S) {i : Int} {u : Kd} (hu : u ∈ L) (hiL : .free i ∈ L) (hv : u.nv ∨ ∃ j, u = .free j ∧ S j = .free j) (hi : S i = .free i) (hn : ¬ (u.sub S).has i) : FL L (putG g i u) (comp1 S i (u.sub S)) := by
  obtain ⟨⟨rk, f⟩, key, cn⟩ := h
  obtain ⟨rk', f'⟩ := f.bind cl hu hv hi hn
  refine ⟨⟨rk', f'⟩, fun j hj => ?_, ?_⟩
  · rw [lookup_putG] at hj
    by_cases e : j = i
    · rw [e]; exact hiL
    · rw [if_neg e] at hj; exact key j hj
  · have hc := cnt_bind f.us hi hiL hn
    rw [putG_new ((f.free i).mpr hi), List.length_append]
    simp only [List.length_cons, List.length_nil]
    omega
/-- what comes behind: its solutions are solutions -/
def Bh (S S' : Int → Kd) : Prop := ∀ f, Sols f S' → Sols f S
theorem Bh.refl (S : Int → Kd) : Bh S S := fun _ h => h
theorem Bh.trans {S S1 S2 : Int → Kd} (h : Bh S S1) (k : Bh S1 S2) : Bh S S2 := fun f q => h f (k f q)
/-- a kind stands e levels within what is bounded -/
def Lv (L : List Kd) (S : Int → Kd) (e : Nat) (x : Kd) : Prop := ∀ g' S', FL L g' S' → Bh S S' → (x.sub S').h + e ≤ NB L
theorem Lv.zero {L : List Kd} {S : Int → Kd} {x : Kd} (cl : Cl L) (hx : x ∈ L) : Lv L S 0 x := fun g' S' f _ => by have := f.us.h_leC cl hx; omega
theorem Lv.bh {L : List Kd} {S S1 : Int → Kd} {e : Nat} {x : Kd} (h : Lv L S e x) (b : Bh S S1) : Lv L S1 e x := fun g' S' f k => h g' S' f (b.trans k)
theorem bh_same {S S' : Int → Kd} {u x : Kd} (b : Bh S S') (us : ∀ i, (S' i).sub S' = S' i) (e : u.sub S = x.sub S) : u.sub S' = x.sub S' := by
  have h : Sols S' S := b S' us
  rw [← h.k u, ← h.k x, e]
theorem Lv.same {L : List Kd} {S : Int → Kd} {e : Nat} {x u : Kd} (h : Lv L S e x) (hu : u.sub S = x.sub S) : Lv L S e u := fun g' S' f b => by
  rw [bh_same b f.us.idem hu]
  exact h g' S' f b
theorem Lv.kid {L : List Kd} {S : Int → Kd} {e : Nat} {u c : Kd} (h : Lv L S e u) (hc : c ∈ u.kids) : Lv L S (e + 1) c := fun g' S' f b => by
  have h1 := h g' S' f b
  have h2 := kid_lt (kid_sub S' hc)
  omega
theorem Lv.now {L : List Kd} {g : G} {S : Int → Kd} {e : Nat} {x : Kd} (h : Lv L S e x) (f : FL L g S) : (x.sub S).h + e ≤ NB L := h g S f (.refl S)
theorem sub_h (f : Int → Kd) (k : Kd) : k.h ≤ (k.sub f).h := by
  induction k <;> simp only [Kd.sub, Kd.h] at * <;> omega
end Prog

namespace Prog
open Ir
section
variable {os : List Obj} {tl : Store} {a b : Nat} {g : G} {m : Int} {L : List Kd} {S : Int → Kd}
theorem SlvAt.fld (h : SlvAt os a b g m) : fldV (.arena os :: tl) (.d (.oid a)) "Solver" "bound" = some (.oid b) := fld_ar h.sv rfl
theorem SlvAt.fldm (h : SlvAt os a b g m) : fldV (.arena os :: tl) (.d (.oid a)) "Solver" "many" = some (.int m) := fld_ar h.sv rfl
theorem SlvAt.meth (h : SlvAt os a b g m) (mm : String) (hm : lookF mm [("bound", .non), ("many", .non)] = none) : methOk (.arena os :: tl) (.d (.oid a)) "Solver" mm = true := by
  refine meth_ar h.sv ?_
  by_cases h1 : mm = "bound"
  · simp [lookF, h1] at hm
  by_cases h2 : mm = "many"
  · simp [lookF, h2] at hm
  simp [lookF, h1, h2]
theorem SlvAt.ne (h : SlvAt os a b g m) : a ≠ b := fun e => by
  have h1 := h.sv
  have h2 := h.bd
  rw [e, h2] at h1
  cases h1
theorem SlvAt.put (h : SlvAt os a b g m) (g' : G) : SlvAt (os.set b (.dic (dF g'))) a b g' m := by
  have hb := (List.getElem?_eq_some_iff.mp h.bd).1
  exact ⟨by rw [List.getElem?_set_ne (Ne.symm h.ne)]; exact h.sv, by simp [hb]⟩
theorem set_noop {os : List Obj} {b : Nat} {o : Obj} (h : os[b]? = some o) : os.set b o = os := by
  apply List.ext_getElem?
  intro i
  by_cases e : b = i
  · subst e
    have := (List.getElem?_eq_some_iff.mp h).1
    simp [this, h]
    exact (List.getElem?_eq_some_iff.mp h).2.symm
  · rw [List.getElem?_set_ne e]
theorem SlvAt.in (h : SlvAt os a b g m) (i : Int) : oinV (.arena os :: tl) (.d (.int i)) (.d (.oid b)) = some (g.lookup i).isSome := by
  simp only [oinV, getO_ar, h.bd, Option.map_some, D.key, if_true, lookK_dF]
  cases g.lookup i <;> rfl
theorem SlvAt.ix (h : SlvAt os a b g m) (i : Int) : oqV .idx (.arena os :: tl) (.d (.oid b)) [.d (.int i)] = (g.lookup i).map Kd.d := by
  simp only [oqV, getO_ar, h.bd, Option.map_some, D.key, if_true, lookK_dF]
theorem kd_ix0 (k : Kd) : D.index k.d (.int 0) = some (.str k.head) := by rw [Kd.d_eq]; simp [D.index, atI, ixN]
theorem free_ix1 (i : Int) : D.index (Kd.free i).d (.int 1) = some (.int i) := by simp [Kd.d, D.index, atI, ixN]
theorem free_c (i : Int) (st : Store) : cmpV .eq st (.d (.str (Kd.free i).head)) (.d (.str "free")) = some true := by simp [cmpV, deref, cs_eq, Kd.head]
theorem nv_c {k : Kd} (h : k.nv) (st : Store) : cmpV .eq st (.d (.str k.head)) (.d (.str "free")) = some false := by
  have : k.head ≠ "free" := by
    cases k <;> simp [Kd.head]
    exact h
  simp [cmpV, deref, cs_eq, this]
theorem ivdS (st : Store) (a k : D) : indexV st (.d a) (.d k) = a.index k := rfl
set_option maxHeartbeats 2000000 in
theorem sv_seen (f : FL L g S) (h : SlvAt os a b g m) {one : Kd} (ho : one ∈ L) {n : Nat} (hn : 1 ≤ n) :
    ∃ u, u ∈ L ∧ u.sub S = one.sub S ∧ (u.nv ∨ ∃ i, u = .free i ∧ S i = .free i) ∧ callN T n "Solver.seen" [.d (.oid a), .d one.d] (.arena os :: tl) = .ok (.d u.d) (.arena os :: tl) := by
  obtain ⟨rk, fs⟩ := f.fs
  suffices w : @Wp _ (callN T n "Solver.seen" [.d (.oid a), .d one.d] (.arena os :: tl)) ⟨fun v s => ∃ u, u ∈ L ∧ u.sub S = one.sub S ∧ (u.nv ∨ ∃ i, u = .free i ∧ S i = .free i) ∧ v = .d u.d ∧ s = .arena os :: tl⟩ by
    obtain ⟨v, s, e, u, h1, h2, h3, rfl, rfl⟩ := wp_iff.mp w
    exact ⟨u, h1, h2, h3, e⟩
  obtain ⟨n, rfl⟩ : ∃ n', n = n' + 1 := ⟨n - 1, by omega⟩
  have hfld := h.fld (tl := tl)
  have hin := h.in (tl := tl)
  have hix := h.ix (tl := tl)
  rw [callN_run T_f_Solver_seen]
  simp [f_Solver_seen]
  refine wp_while (fun m σ s => s = .arena os :: tl ∧ ∃ u ∈ L, u.sub S = one.sub S ∧ σ = [some (.d (.oid a)), some (.d u.d)] ∧ m = rkOf rk u) ?_ (rkOf rk one) _ _ ⟨rfl, one, ho, rfl, rfl, rfl⟩
  rintro m σ s ⟨rfl, u, hu, eu, rfl, rfl⟩
  cases hu' : u with
  | free i =>
    have hk := lookK_dF i g
    have i0 := kd_ix0 (.free i)
    have i1 := free_ix1 i
    have fc := free_c i
    cases hl : g.lookup i with
    | none =>
      have hS : S i = .free i := (fs.free i).mp hl
      have hin := hin i
      rw [hl] at hin
      simp [condB, ivdS, i0, i1, fc, asB, hfld, hin, leave]
      exact ⟨.free i, by rw [← hu']; exact hu, by rw [← hu']; exact eu, .inr ⟨i, rfl, hS⟩, rfl⟩
    | some t =>
      obtain ⟨ht, et⟩ := fs.bound i t hl
      have hin := hin i
      have hix := hix i
      rw [hl] at hin hix
      simp [condB, ivdS, i0, i1, fc, asB, hfld, hin, hix, Tg.putV]
      refine ⟨rkOf rk t, ?_, t, ht, ?_, rfl, rfl⟩
      · cases ht' : t with
        | free j => rw [ht'] at hl; have := fs.rank i j hl; simp only [rkOf]; omega
        | _ => simp [rkOf]
      · rw [← et, ← eu, hu']; rfl
  | _ =>
    have i0 := kd_ix0 u
    have fc := nv_c (k := u) (by rw [hu']; exact trivial)
    have hnv : u.nv := by rw [hu']; exact trivial
    rw [← hu']
    simp [condB, ivdS, i0, fc, asB, leave]
    exact ⟨u, hu, eu, .inl hnv, rfl⟩
/-- the parts of a kind -/
theorem inner_kd (k : Kd) (hk : k.nv) {n : Nat} {st : Store} : callN T (n + 1) "inner" [.d k.d] st = .ok (.d (.lst (k.kids.map Kd.d))) st := by
  apply eq_of_wp
  rw [callN_run T_f_inner]
  cases k with
  | free i => exact hk.elim
  | int => simp [Tg.putV, Tg.put, Tg.puts, Tg.putF_eq, setAll, Tg.slots, Tg.slotss, wipe, indexV, D.index, atI, ixN, cmpV, deref, asB, asD, asDs, asI, bltV, lenDic, bltD, derefs, D.blt, D.bLen, D.bTuple, D.bList, D.seq, mthV, mthOk, setV, ci_eq, ci_lt, ci_le, ci_gt, ci_ge, cs_eq, cs_ne, D.bin, D.slice, cut, sIx, isNon, f_inner, runFn, Kd.d, Kd.kids, compL, leave]
  | bool => simp [Tg.putV, Tg.put, Tg.puts, Tg.putF_eq, setAll, Tg.slots, Tg.slotss, wipe, indexV, D.index, atI, ixN, cmpV, deref, asB, asD, asDs, asI, bltV, lenDic, bltD, derefs, D.blt, D.bLen, D.bTuple, D.bList, D.seq, mthV, mthOk, setV, ci_eq, ci_lt, ci_le, ci_gt, ci_ge, cs_eq, cs_ne, D.bin, D.slice, cut, sIx, isNon, f_inner, runFn, Kd.d, Kd.kids, compL, leave]
  | list x =>
    have hx : ∃ xs, x.d = .tup xs := ⟨_, x.d_eq⟩
    obtain ⟨xs, hx⟩ := hx
    simp [Tg.putV, Tg.put, Tg.puts, Tg.putF_eq, setAll, Tg.slots, Tg.slotss, wipe, indexV, D.index, atI, ixN, cmpV, deref, asB, asD, asDs, asI, bltV, lenDic, bltD, derefs, D.blt, D.bLen, D.bTuple, D.bList, D.seq, mthV, mthOk, setV, ci_eq, ci_lt, ci_le, ci_gt, ci_ge, cs_eq, cs_ne, D.bin, D.slice, cut, sIx, isNon, f_inner, runFn, Kd.d, Kd.kids, hx, compL, compStep, conds, D.tyOk, leave]
  | fn x y =>
    obtain ⟨xs, hx⟩ : ∃ xs, x.d = .tup xs := ⟨_, x.d_eq⟩
    obtain ⟨ys, hy⟩ : ∃ xs, y.d = .tup xs := ⟨_, y.d_eq⟩
    simp [Tg.putV, Tg.put, Tg.puts, Tg.putF_eq, setAll, Tg.slots, Tg.slotss, wipe, indexV, D.index, atI, ixN, cmpV, deref, asB, asD, asDs, asI, bltV, lenDic, bltD, derefs, D.blt, D.bLen, D.bTuple, D.bList, D.seq, mthV, mthOk, setV, ci_eq, ci_lt, ci_le, ci_gt, ci_ge, cs_eq, cs_ne, D.bin, D.slice, cut, sIx, isNon, f_inner, runFn, Kd.d, Kd.kids, hx, hy, compL, compStep, conds, D.tyOk, leave]
  | pair x y =>
    obtain ⟨xs, hx⟩ : ∃ xs, x.d = .tup xs := ⟨_, x.d_eq⟩
    obtain ⟨ys, hy⟩ : ∃ xs, y.d = .tup xs := ⟨_, y.d_eq⟩
    simp [Tg.putV, Tg.put, Tg.puts, Tg.putF_eq, setAll, Tg.slots, Tg.slotss, wipe, indexV, D.index, atI, ixN, cmpV, deref, asB, asD, asDs, asI, bltV, lenDic, bltD, derefs, D.blt, D.bLen, D.bTuple, D.bList, D.seq, mthV, mthOk, setV, ci_eq, ci_lt, ci_le, ci_gt, ci_ge, cs_eq, cs_ne, D.bin, D.slice, cut, sIx, isNon, f_inner, runFn, Kd.d, Kd.kids, hx, hy, compL, compStep, conds, D.tyOk, leave]
theorem hasB_kids {k : Kd} (hk : k.nv) (i : Int) (S : Int → Kd) : ((k.sub S).hasB i) = (k.kids.map fun c => (c.sub S).hasB i).any id := by
  cases k <;> simp [Kd.sub, Kd.hasB, Kd.kids]
  exact hk.elim
theorem sv_any (l : List Bool) : D.bAny [.lst (l.map .bool)] = some (.bool (l.any id)) := by
  simp only [D.bAny, bools_app, Option.map_some]
theorem sv_all (l : List Bool) : D.bAll [.lst (l.map .bool)] = some (.bool (l.all id)) := by
  simp only [D.bAll, bools_app, Option.map_some]
set_option maxHeartbeats 2000000 in
theorem sv_has (cl : Cl L) (f : FL L g S) (h : SlvAt os a b g m) {num : Int} : ∀ (n : Nat) (one : Kd), one ∈ L → (one.sub S).h + 2 ≤ n →
    callN T n "Solver.has" [.d (.oid a), .d one.d, .d (.int num)] (.arena os :: tl) = .ok (.d (.bool ((one.sub S).hasB num))) (.arena os :: tl) := by
  intro n
  induction n with
  | zero => intro one _ hh; omega
  | succ n ih =>
    intro one ho hh
    obtain ⟨u, hu, eu, hv, e⟩ := sv_seen (tl := tl) f h ho (n := n) (by omega)
    have mk := h.meth (tl := tl) "seen" (by decide)
    have mh := h.meth (tl := tl) "has" (by decide)
    rw [← eu] at hh ⊢
    apply eq_of_wp
    rw [callN_run T_f_Solver_has]
    rcases hv with hnv | ⟨i, rfl, hi⟩
    · obtain ⟨n, rfl⟩ : ∃ n', n = n' + 1 := ⟨n - 1, by omega⟩
      have i0 := kd_ix0 u
      have fc := nv_c hnv
      have hin := inner_kd (n := n) (st := .arena os :: tl) u hnv
      have ec := comp_const (f := compStep (eval (callN T (n + 1)) f_Solver_has_c0) (conds (callN T (n + 1)) []) (.name 3) [some (.d (.oid a)), some (.d u.d), some (.d (.int num)), none]) (st := .arena os :: tl) Kd.d (fun c => .bool ((c.sub S).hasB num)) u.kids (fun c hc => by
        have e1 := ih c (cl u hu c hc) (by have := kid_lt (kid_sub S hc); omega)
        simp [compStep, Tg.put, f_Solver_has_c0, mh, e1, asD])
      have hb := hasB_kids hnv num S
      have hany := sv_any (u.kids.map fun c => (c.sub S).hasB num)
      rw [List.map_map, Function.comp_def, ← hb] at hany
      generalize u.kids.map (fun c => D.bool ((c.sub S).hasB num)) = bl at *
      generalize u.kids.map Kd.d = kl at *
      generalize u.d = ud at *
      simp [f_Solver_has, runFn, mk, e, Tg.putV, ivdS, i0, fc, asB, hin, asD, D.seq, Tg.slots, wipe, ec, bltV, bltD, lenDic, derefs, deref, D.blt, hany, leave]
    · have i0 := kd_ix0 (.free i)
      have i1 := free_ix1 i
      have fc := free_c i
      have hc : ∀ st, cmpV .eq st (.d (.int i)) (.d (.int num)) = some (decide (i = num)) := fun st => by simp [cmpV, deref, ci_eq]
      simp [f_Solver_has, runFn, mk, e, Tg.putV, ivdS, i0, i1, fc, asB, hc, leave, Kd.sub, hi, Kd.hasB]
end
end Prog

namespace Prog
open Ir
/-! ### the law's own finder: its state -/
abbrev lsC (A V W : Nat) (m : Int) (ok : Bool) : Cell := .lst [.oid A, .int m, .oid V, .oid W, .bool ok]
structure LS (os : List Obj) (tl : Store) (e A V W : Nat) (g : G) (m : Int) (gs : List Kd) (ps : List (Kd × Kd)) (ok : Bool) : Prop where
  cell : tl[e]? = some (lsC A V W m ok)
  bd : os[A]? = some (.dic (dF g))
  gl : os[V]? = some (.lst (gs.map Kd.d))
  pl : os[W]? = some (.lst (ps.map pd))
  vw : V ≠ W
section
variable {os : List Obj} {tl : Store} {e A V W : Nat} {g : G} {m : Int} {gs : List Kd} {ps : List (Kd × Kd)} {ok : Bool} {L : List Kd} {S : Int → Kd}
theorem LS.av (h : LS os tl e A V W g m gs ps ok) : A ≠ V := fun q => by have h1 := h.bd; rw [q, h.gl] at h1; cases h1
theorem LS.aw (h : LS os tl e A V W g m gs ps ok) : A ≠ W := fun q => by have h1 := h.bd; rw [q, h.pl] at h1; cases h1
theorem LS.ix0 (h : LS os tl e A V W g m gs ps ok) : indexV (.arena os :: tl) (.ref (e + 1)) (.d (.int 0)) = some (.oid A) := by simp [indexV, h.cell, D.index, atI, ixN]
theorem LS.ix1 (h : LS os tl e A V W g m gs ps ok) : indexV (.arena os :: tl) (.ref (e + 1)) (.d (.int 1)) = some (.int m) := by simp [indexV, h.cell, D.index, atI, ixN]
theorem LS.ix2 (h : LS os tl e A V W g m gs ps ok) : indexV (.arena os :: tl) (.ref (e + 1)) (.d (.int 2)) = some (.oid V) := by simp [indexV, h.cell, D.index, atI, ixN]
theorem LS.ix3 (h : LS os tl e A V W g m gs ps ok) : indexV (.arena os :: tl) (.ref (e + 1)) (.d (.int 3)) = some (.oid W) := by simp [indexV, h.cell, D.index, atI, ixN]
theorem LS.ix4 (h : LS os tl e A V W g m gs ps ok) : indexV (.arena os :: tl) (.ref (e + 1)) (.d (.int 4)) = some (.bool ok) := by simp [indexV, h.cell, D.index, atI, ixN]
theorem LS.in (h : LS os tl e A V W g m gs ps ok) (i : Int) : oinV (.arena os :: tl) (.d (.int i)) (.d (.oid A)) = some (g.lookup i).isSome := by
  simp only [oinV, getO_ar, h.bd, Option.map_some, D.key, if_true, lookK_dF]
  cases g.lookup i <;> rfl
theorem LS.ix (h : LS os tl e A V W g m gs ps ok) (i : Int) : oqV .idx (.arena os :: tl) (.d (.oid A)) [.d (.int i)] = (g.lookup i).map Kd.d := by
  simp only [oqV, getO_ar, h.bd, Option.map_some, D.key, if_true, lookK_dF]
theorem LS.setO (h : LS os tl e A V W g m gs ps ok) {i : Int} {u : Kd} (hl : g.length < 100000) : setOV (.arena os :: tl) (.d (.oid A)) (.d (.int i)) u.d = some (.arena (os.set A (.dic (dF (putG g i u)))) :: tl) := by
  simp only [setOV, getO_ar, h.bd, Option.map_some, putO_ar, D.key, Bool.true_and, dF_len, putK_dF]
  rw [if_pos (by rw [LIM_eq, decide_eq_true_eq]; omega)]
theorem lset {os : List Obj} {i j : Nat} {x y : Obj} (h : os[i]? = some x) (n : j ≠ i) : (os.set j y)[i]? = some x := by rw [List.getElem?_set_ne n]; exact h
theorem lsets {os : List Obj} {i : Nat} {x y : Obj} (h : os[i]? = some x) : (os.set i y)[i]? = some y := by
  have := (List.getElem?_eq_some_iff.mp h).1
  simp [this]
theorem LS.put (h : LS os tl e A V W g m gs ps ok) (g' : G) : LS (os.set A (.dic (dF g'))) tl e A V W g' m gs ps ok := ⟨h.cell, lsets h.bd, lset h.gl h.av, lset h.pl h.aw, h.vw⟩
theorem LS.pend (h : LS os tl e A V W g m gs ps ok) (ps' : List (Kd × Kd)) : LS (os.set W (.lst (ps'.map pd))) tl e A V W g m gs ps' ok := ⟨h.cell, lset h.bd h.aw.symm, lset h.gl h.vw.symm, lsets h.pl, h.vw⟩
theorem LS.give (h : LS os tl e A V W g m gs ps ok) (k : Kd) : LS (os.set V (.lst (gs.map Kd.d ++ [k.d]))) tl e A V W g m (gs ++ [k]) ps ok := ⟨h.cell, lset h.bd h.av.symm, by rw [lsets h.gl]; simp, lset h.pl h.vw, h.vw⟩
theorem LS.tlSet (h : LS os tl e A V W g m gs ps ok) (m' : Int) (ok' : Bool) : LS os (tl.set e (lsC A V W m' ok')) e A V W g m' gs ps ok' := by
  have := (List.getElem?_eq_some_iff.mp h.cell).1
  exact ⟨by simp [this], h.bd, h.gl, h.pl, h.vw⟩
theorem LS.set1 (h : LS os tl e A V W g m gs ps ok) (m' : Int) : setV (.ref (e + 1)) (.d (.int 1)) (.int m') (.arena os :: tl) = some (.arena os :: tl.set e (lsC A V W m' ok)) := by
  simp [setV, h.cell, ixN, lsC]
theorem LS.set4 (h : LS os tl e A V W g m gs ps ok) (ok' : Bool) : setV (.ref (e + 1)) (.d (.int 4)) (.bool ok') (.arena os :: tl) = some (.arena os :: tl.set e (lsC A V W m ok')) := by
  simp [setV, h.cell, ixN, lsC]
theorem LS.len (h : LS os tl e A V W g m gs ps ok) : (tl.set e (lsC A V W m ok)) = tl := by
  obtain ⟨h1, h2⟩ := List.getElem?_eq_some_iff.mp h.cell
  rw [← h2]; simp
set_option maxHeartbeats 2000000 in
theorem lw_new (h : LS os tl e A V W g m gs ps ok) {n : Nat} : callN T (n + 1) "_law_new" [.ref (e + 1)] (.arena os :: tl) = .ok (.d (Kd.free m).d) (.arena os :: tl.set e (lsC A V W (m + 1) ok)) := by
  have h1 := h.ix1
  have h2 := (h.tlSet (m + 1) ok).ix1
  have h3 := h.set1 (m + 1)
  have hd : (Kd.free m).d = .tup [.str "free", .int (m + 1 - 1)] := by simp [Kd.d]
  have htk : (Cell.arena os :: tl.set e (lsC A V W (m + 1) ok)).take (tl.length + 1) = .arena os :: tl.set e (lsC A V W (m + 1) ok) := List.take_of_length_le (by simp)
  rw [hd]
  generalize Cell.arena os :: tl.set e (lsC A V W (m + 1) ok) = s2 at *
  have hlen : (Cell.arena os :: tl).length = tl.length + 1 := rfl
  rw [← hlen] at htk
  generalize Cell.arena os :: tl = s1 at *
  apply eq_of_wp
  rw [callN_run T_f_law_new]
  simp [f_law_new, runFn, h1, h2, h3, deref, asD, asI, D.bin, asDs, leave, htk]
set_option maxHeartbeats 2000000 in
theorem lw_top (f : FL L g S) (h : LS os tl e A V W g m gs ps ok) {one : Kd} (ho : one ∈ L) {n : Nat} (hn : 1 ≤ n) :
    ∃ u, u ∈ L ∧ u.sub S = one.sub S ∧ (u.nv ∨ ∃ i, u = .free i ∧ S i = .free i) ∧ callN T n "_law_top" [.ref (e + 1), .d one.d] (.arena os :: tl) = .ok (.d u.d) (.arena os :: tl) := by
  obtain ⟨rk, fs⟩ := f.fs
  suffices w : @Wp _ (callN T n "_law_top" [.ref (e + 1), .d one.d] (.arena os :: tl)) ⟨fun v s => ∃ u, u ∈ L ∧ u.sub S = one.sub S ∧ (u.nv ∨ ∃ i, u = .free i ∧ S i = .free i) ∧ v = .d u.d ∧ s = .arena os :: tl⟩ by
    obtain ⟨v, s, q, u, h1, h2, h3, rfl, rfl⟩ := wp_iff.mp w
    exact ⟨u, h1, h2, h3, q⟩
  obtain ⟨n, rfl⟩ : ∃ n', n = n' + 1 := ⟨n - 1, by omega⟩
  have hfld := h.ix0
  have hin := h.in
  have hix := h.ix
  rw [callN_run T_f_law_top]
  simp [f_law_top]
  refine wp_while (fun m σ s => s = .arena os :: tl ∧ ∃ u ∈ L, u.sub S = one.sub S ∧ σ = [some (.ref (e + 1)), some (.d u.d)] ∧ m = rkOf rk u) ?_ (rkOf rk one) _ _ ⟨rfl, one, ho, rfl, rfl, rfl⟩
  rintro m σ s ⟨rfl, u, hu, eu, rfl, rfl⟩
  cases hu' : u with
  | free i =>
    have hk := lookK_dF i g
    have i0 := kd_ix0 (.free i)
    have i1 := free_ix1 i
    have fc := free_c i
    cases hl : g.lookup i with
    | none =>
      have hS : S i = .free i := (fs.free i).mp hl
      have hin := hin i
      rw [hl] at hin
      simp [condB, ivdS, i0, i1, fc, asB, hfld, hin, leave]
      exact ⟨.free i, by rw [← hu']; exact hu, by rw [← hu']; exact eu, .inr ⟨i, rfl, hS⟩, rfl⟩
    | some t =>
      obtain ⟨ht, et⟩ := fs.bound i t hl
      have hin := hin i
      have hix := hix i
      rw [hl] at hin hix
      simp [condB, ivdS, i0, i1, fc, asB, hfld, hin, hix, Tg.putV]
      refine ⟨rkOf rk t, ?_, t, ht, ?_, rfl, rfl⟩
      · cases ht' : t with
        | free j => rw [ht'] at hl; have := fs.rank i j hl; simp only [rkOf]; omega
        | _ => simp [rkOf]
      · rw [← et, ← eu, hu']; rfl
  | _ =>
    have i0 := kd_ix0 u
    have fc := nv_c (k := u) (by rw [hu']; exact trivial)
    have hnv : u.nv := by rw [hu']; exact trivial
    rw [← hu']
    simp [condB, ivdS, i0, fc, asB, leave]
    exact ⟨u, hu, eu, .inl hnv, rfl⟩
theorem lfull_item {C : Calls} {s : Store} {x1 : Option Val} {k r : Kd} (q : C "_law_full" [.ref (e + 1), .d k.d] s = .ok (.d r.d) s) :
    compStep (eval C f_law_full_c0) (conds C []) (.name 2) [some (.ref (e + 1)), x1, none] k.d s = .ok (some r.d) s := by
  have hi : isiV [.tuple] k.d = some (.bool true) := by rw [Kd.d_eq]; simp [isiV, D.tyOk]
  generalize k.d = kd at *
  simp [compStep, Tg.put, f_law_full_c0, deref, hi, asB, q, asD]
theorem lfull_head {C : Calls} {s : Store} {x1 : Option Val} (z : String) :
    compStep (eval C f_law_full_c0) (conds C []) (.name 2) [some (.ref (e + 1)), x1, none] (.str z) s = .ok (some (.str z)) s := by
  simp [compStep, Tg.put, f_law_full_c0, deref, asB, asD, D.tyOk]
theorem lnv_d {u : Kd} (h : u.nv) : u.d = .tup (.str u.head :: u.kids.map Kd.d) := by
  cases u <;> simp [Kd.d, Kd.head, Kd.kids]
  exact h
theorem lnv_sub {u : Kd} (h : u.nv) (S : Int → Kd) : (u.sub S).d = .tup (.str u.head :: u.kids.map fun c => (c.sub S).d) := by
  cases u with
  | free i => exact h.elim
  | _ => simp [Kd.d, Kd.head, Kd.kids, Kd.sub]
set_option maxHeartbeats 2000000 in
theorem lw_full (cl : Cl L) (f : FL L g S) (h : LS os tl e A V W g m gs ps ok) : ∀ (n : Nat) (one : Kd), one ∈ L → (one.sub S).h + 2 ≤ n →
    callN T n "_law_full" [.ref (e + 1), .d one.d] (.arena os :: tl) = .ok (.d (one.sub S).d) (.arena os :: tl) := by
  intro n
  induction n with
  | zero => intro one _ hh; omega
  | succ n ih =>
    intro one ho hh
    obtain ⟨u, hu, eu, hv, q⟩ := lw_top f h ho (n := n) (by omega)
    rw [← eu] at hh ⊢
    have i0 := kd_ix0 u
    rcases hv with hnv | ⟨i, rfl, hi⟩
    · have fc := nv_c hnv
      have ec : compL (compStep (eval (callN T n) f_law_full_c0) (conds (callN T n) []) (.name 2) [some (.ref (e + 1)), some (.d u.d), none]) (.str u.head :: u.kids.map Kd.d) (.arena os :: tl) = .ok (.str u.head :: u.kids.map fun c => (c.sub S).d) (.arena os :: tl) := by
        have e2 := comp_const (f := compStep (eval (callN T n) f_law_full_c0) (conds (callN T n) []) (.name 2) [some (.ref (e + 1)), some (.d u.d), none]) (st := .arena os :: tl) Kd.d (fun c => (c.sub S).d) u.kids (fun c hc => lfull_item (ih c (cl u hu c hc) (by have := kid_lt (kid_sub S hc); omega)))
        simp only [compL, lfull_head, Res.bind_ok, e2]
      rw [lnv_sub hnv]
      have hseq : u.d.seq = some (.str u.head :: u.kids.map Kd.d) := by rw [lnv_d hnv]; rfl
      have hbt : ∀ xs st, bltV .tuple [.d (.lst xs)] st = .ok (.d (.tup xs)) st := fun xs st => by simp [bltV, bltD, derefs, deref, D.blt, D.bTuple]
      generalize (D.str u.head :: u.kids.map fun c => (c.sub S).d) = rl at *
      generalize (D.str u.head :: u.kids.map Kd.d) = ul at *
      generalize u.d = ud at *
      apply eq_of_wp
      rw [callN_run T_f_law_full]
      simp [f_law_full, runFn, q, Tg.putV, ivdS, i0, fc, asB, asD, hseq, Tg.slots, wipe, ec, hbt, leave]
    · have fc := free_c i
      have : (Kd.free i).sub S = .free i := hi
      rw [this]
      generalize (Kd.free i).d = ud at *
      apply eq_of_wp
      rw [callN_run T_f_law_full]
      simp [f_law_full, runFn, q, Tg.putV, ivdS, i0, fc, asB, leave]
end
/-- the free ones of a kind, as often as they stand -/
def Kd.frl : Kd → List Int
  | .int => []
  | .bool => []
  | .list a => a.frl
  | .fn a b => a.frl ++ b.frl
  | .pair a b => a.frl ++ b.frl
  | .free i => [i]
theorem Kd.frl_mem {i : Int} : ∀ k : Kd, i ∈ k.frl ↔ k.has i
  | .int => by simp [Kd.frl, Kd.has]
  | .bool => by simp [Kd.frl, Kd.has]
  | .list a => a.frl_mem
  | .fn a b => by simp [Kd.frl, Kd.has, a.frl_mem, b.frl_mem]
  | .pair a b => by simp [Kd.frl, Kd.has, a.frl_mem, b.frl_mem]
  | .free j => by simp [Kd.frl, Kd.has, eq_comm]
theorem within_kd (k : Kd) (hk : k.nv) {n : Nat} {st : Store} : callN T (n + 1) "_law_within" [.d k.d] st = .ok (.d (.lst (k.kids.map Kd.d))) st := by
  apply eq_of_wp
  rw [callN_run T_f_law_within]
  cases k with
  | free i => exact hk.elim
  | int => simp [Tg.putV, Tg.put, Tg.puts, Tg.putF_eq, setAll, Tg.slots, Tg.slotss, wipe, indexV, D.index, atI, ixN, cmpV, deref, asB, asD, asDs, asI, bltV, lenDic, bltD, derefs, D.blt, D.bLen, D.bTuple, D.bList, D.seq, mthV, mthOk, setV, ci_eq, ci_lt, ci_le, ci_gt, ci_ge, cs_eq, cs_ne, D.bin, D.slice, cut, sIx, isNon, f_law_within, runFn, Kd.d, Kd.kids, compL, leave]
  | bool => simp [Tg.putV, Tg.put, Tg.puts, Tg.putF_eq, setAll, Tg.slots, Tg.slotss, wipe, indexV, D.index, atI, ixN, cmpV, deref, asB, asD, asDs, asI, bltV, lenDic, bltD, derefs, D.blt, D.bLen, D.bTuple, D.bList, D.seq, mthV, mthOk, setV, ci_eq, ci_lt, ci_le, ci_gt, ci_ge, cs_eq, cs_ne, D.bin, D.slice, cut, sIx, isNon, f_law_within, runFn, Kd.d, Kd.kids, compL, leave]
  | list x =>
    obtain ⟨xs, hx⟩ : ∃ xs, x.d = .tup xs := ⟨_, x.d_eq⟩
    simp [Tg.putV, Tg.put, Tg.puts, Tg.putF_eq, setAll, Tg.slots, Tg.slotss, wipe, indexV, D.index, atI, ixN, cmpV, deref, asB, asD, asDs, asI, bltV, lenDic, bltD, derefs, D.blt, D.bLen, D.bTuple, D.bList, D.seq, mthV, mthOk, setV, ci_eq, ci_lt, ci_le, ci_gt, ci_ge, cs_eq, cs_ne, D.bin, D.slice, cut, sIx, isNon, f_law_within, runFn, Kd.d, Kd.kids, hx, compL, compStep, conds, D.tyOk, leave]
  | fn x y =>
    obtain ⟨xs, hx⟩ : ∃ xs, x.d = .tup xs := ⟨_, x.d_eq⟩
    obtain ⟨ys, hy⟩ : ∃ xs, y.d = .tup xs := ⟨_, y.d_eq⟩
    simp [Tg.putV, Tg.put, Tg.puts, Tg.putF_eq, setAll, Tg.slots, Tg.slotss, wipe, indexV, D.index, atI, ixN, cmpV, deref, asB, asD, asDs, asI, bltV, lenDic, bltD, derefs, D.blt, D.bLen, D.bTuple, D.bList, D.seq, mthV, mthOk, setV, ci_eq, ci_lt, ci_le, ci_gt, ci_ge, cs_eq, cs_ne, D.bin, D.slice, cut, sIx, isNon, f_law_within, runFn, Kd.d, Kd.kids, hx, hy, compL, compStep, conds, D.tyOk, leave]
  | pair x y =>
    obtain ⟨xs, hx⟩ : ∃ xs, x.d = .tup xs := ⟨_, x.d_eq⟩
    obtain ⟨ys, hy⟩ : ∃ xs, y.d = .tup xs := ⟨_, y.d_eq⟩
    simp [Tg.putV, Tg.put, Tg.puts, Tg.putF_eq, setAll, Tg.slots, Tg.slotss, wipe, indexV, D.index, atI, ixN, cmpV, deref, asB, asD, asDs, asI, bltV, lenDic, bltD, derefs, D.blt, D.bLen, D.bTuple, D.bList, D.seq, mthV, mthOk, setV, ci_eq, ci_lt, ci_le, ci_gt, ci_ge, cs_eq, cs_ne, D.bin, D.slice, cut, sIx, isNon, f_law_within, runFn, Kd.d, Kd.kids, hx, hy, compL, compStep, conds, D.tyOk, leave]
theorem frl_kids {k : Kd} (h : k.nv) : k.frl = (k.kids.map Kd.frl).flatten := by
  cases k <;> simp [Kd.frl, Kd.kids]
  exact h
theorem frees_loop {n : Nat} {st : Store} {x0 : Option Val} : ∀ (ks : List Kd) (acc : List Int) (x2 : Option Val), (∀ k ∈ ks, callN T n "_law_frees" [.d k.d] st = .ok (.d (.lst (k.frl.map .int))) st) → acc.length + (ks.map Kd.frl).flatten.length < 100000 →
    ∃ x2', loopL (Tg.putF (.name 2)) (execs (callN T n) f_law_frees_b0) (ks.map Kd.d) [x0, some (.d (.lst (acc.map .int))), x2] st = .ok (.nx [x0, some (.d (.lst ((acc ++ (ks.map Kd.frl).flatten).map .int))), x2']) st
  | [], acc, x2, _, _ => ⟨x2, by simp [loopL]⟩
  | k :: ks, acc, x2, h, hl => by
    simp only [List.map_cons, List.flatten_cons, List.length_append] at hl
    obtain ⟨x2', e2⟩ := frees_loop ks (acc ++ k.frl) (some (.d k.d)) (fun q hq => h q (by simp [hq])) (by rw [List.length_append]; omega)
    have e1 := h k (by simp)
    have hb : D.bin .add (.lst (acc.map .int)) (.lst (k.frl.map .int)) = some (.lst ((acc ++ k.frl).map .int)) := by
      simp only [D.bin, List.length_map]
      rw [if_pos (by rw [LIM_eq]; omega)]; simp
    refine ⟨x2', ?_⟩
    rw [List.append_assoc] at e2
    rw [List.map_cons, List.map_cons, List.flatten_cons, ← e2]
    generalize (acc ++ k.frl).map D.int = r1 at *
    generalize acc.map D.int = r0 at *
    generalize k.frl.map D.int = r3 at *
    generalize k.d = kd at *
    simp [loopL, Tg.putF_eq, Tg.put, f_law_frees_b0, e1, asD, deref, hb, Tg.putV]
theorem lw_frees {st : Store} : ∀ (n : Nat) (k : Kd), k.h + 2 ≤ n → k.frl.length < 100000 → callN T n "_law_frees" [.d k.d] st = .ok (.d (.lst (k.frl.map .int))) st := by
  intro n
  induction n with
  | zero => intro k h; omega
  | succ n ih =>
    intro k h hl
    obtain ⟨n, rfl⟩ : ∃ n', n = n' + 1 := ⟨n - 1, by omega⟩
    have i0 := kd_ix0 k
    by_cases hv : k.nv
    · have fc := nv_c hv
      have hw := within_kd k hv (n := n) (st := st)
      rw [frl_kids hv] at hl ⊢
      obtain ⟨x2', el⟩ := frees_loop (n := n + 1) (st := st) (x0 := some (.d k.d)) k.kids [] none (fun c hc => ih c (by have := kid_lt hc; omega) (by
        have h1 : c.frl.length ≤ (k.kids.map Kd.frl).flatten.length := (List.sublist_flatten_of_mem (List.mem_map.mpr ⟨c, hc, rfl⟩)).length_le
        omega)) (by simpa using hl)
      simp only [List.nil_append, List.map_nil] at el
      generalize ((k.kids.map Kd.frl).flatten).map D.int = r at *
      generalize k.kids.map Kd.d = kl at *
      generalize k.d = kd at *
      apply eq_of_wp
      rw [callN_run T_f_law_frees]
      simp [f_law_frees, runFn, ivdS, i0, fc, asB, Tg.putV, asDs, hw, asD, D.seq, el, leave]
    · cases k with
      | free i =>
        have fc := free_c i
        have i1 := free_ix1 i
        simp only [Kd.frl, List.map_cons, List.map_nil]
        generalize (Kd.free i).d = kd at *
        apply eq_of_wp
        rw [callN_run T_f_law_frees]
        simp [f_law_frees, runFn, ivdS, i0, i1, fc, asB, asDs, asD, leave]
      | _ => exact absurd trivial hv
end Prog

namespace Prog
open Ir
theorem sv_zip (a b : List Kd) : zipL (a.map Kd.d) (b.map Kd.d) = (a.zip b).map pd := by
  simp only [zipL, List.zip_map, List.map_map]
  rfl
theorem sv_same {u v : Kd} (hu : u.nv) (hv : v.nv) (h : u.head = v.head) (f : Int → Kd) : u.sub f = v.sub f ↔ ∀ p ∈ u.kids.zip v.kids, p.1.sub f = p.2.sub f := by
  cases u <;> cases v <;> simp [Kd.head] at h <;> first | exact hu.elim | exact hv.elim | simp [Kd.sub, Kd.kids]
theorem sv_other {u v : Kd} (hu : u.nv) (hv : v.nv) (h : u.head ≠ v.head) (f : Int → Kd) : u.sub f ≠ v.sub f := by
  cases u <;> cases v <;> simp [Kd.head] at h <;> first | exact hu.elim | exact hv.elim | simp [Kd.sub]
theorem zip_in {a b : List Kd} {p : Kd × Kd} (h : p ∈ a.zip b) : p.1 ∈ a ∧ p.2 ∈ b := by
  obtain ⟨x, y⟩ := p
  exact ⟨(List.of_mem_zip h).1, (List.of_mem_zip h).2⟩
/-- what comes of making alike -/
structure UniR (L : List Kd) (S : Int → Kd) (x y : Kd) (ok : Bool) (g' : G) (S' : Int → Kd) : Prop where
  fl : FL L g' S'
  bh : Bh S S'
  yes : ok = true → ∀ f, Sols f S → x.sub f = y.sub f → Sols f S'
  eq : ok = true → ∀ f, Sols f S' → x.sub f = y.sub f
  no : ok = false → ∀ f, Sols f S → x.sub f ≠ y.sub f
def UniOk (L : List Kd) (tl : Store) (a b : Nat) (n : Nat) (e : Nat) : Prop := ∀ (os : List Obj) (g : G) (m : Int) (S : Int → Kd) (x y : Kd), FL L g S → SlvAt os a b g m → x ∈ L → y ∈ L → Lv L S e x → Lv L S e y →
  ∃ ok g' S', callN T n "Solver.unite" [.d (.oid a), .d x.d, .d y.d] (.arena os :: tl) = .ok (.d (.bool ok)) (.arena (os.set b (.dic (dF g'))) :: tl) ∧ UniR L S x y ok g' S'
section
variable {os : List Obj} {tl : Store} {a b : Nat} {g : G} {m : Int} {L : List Kd} {S : Int → Kd}
theorem UniR.swap {x y : Kd} {ok : Bool} {g' : G} {S' : Int → Kd} (h : UniR L S x y ok g' S') : UniR L S y x ok g' S' :=
  ⟨h.fl, h.bh, fun o f s e => h.yes o f s e.symm, fun o f s => (h.eq o f s).symm, fun o f s e => h.no o f s e.symm⟩
theorem UniR.of {x y u v : Kd} {ok : Bool} {g' : G} {S' : Int → Kd} (h : UniR L S u v ok g' S') (hu : u.sub S = x.sub S) (hv : v.sub S = y.sub S) : UniR L S x y ok g' S' := by
  have key : ∀ f, Sols f S → (x.sub f = y.sub f ↔ u.sub f = v.sub f) := fun f s => by rw [← s.k x, ← s.k y, ← hu, ← hv, s.k, s.k]
  exact ⟨h.fl, h.bh, fun o f s e => h.yes o f s ((key f s).mp e), fun o f s => (key f (h.bh f s)).mpr (h.eq o f s), fun o f s e => h.no o f s ((key f s).mp e)⟩
theorem UniR.refl {x : Kd} (f : FL L g S) : UniR L S x x true g S := ⟨f, .refl S, fun _ _ h _ => h, fun _ _ _ => rfl, fun o => by cases o⟩
/-- a free one and another kind: within it, or bound -/
theorem uni_free (cl : Cl L) (f : FL L g S) {i : Int} {v : Kd} (hi : S i = .free i) (hv : v ∈ L) (hiL : .free i ∈ L) (hv2 : v.nv ∨ ∃ j, v = .free j ∧ S j = .free j) (hne : v ≠ .free i) :
    ((v.sub S).hasB i = true → UniR L S (.free i) v false g S) ∧ ((v.sub S).hasB i = false → UniR L S (.free i) v true (putG g i v) (comp1 S i (v.sub S))) := by
  constructor
  · intro h
    have h := (Kd.hasB_iff _).mp h
    refine ⟨f, .refl S, fun o => (by cases o), fun o => (by cases o), fun _ θ s e => ?_⟩
    have e2 : θ i = (v.sub S).sub θ := by rw [s.k]; exact e
    refine Kd.occurs h (fun q => ?_) e2
    rcases hv2 with hn | ⟨j, rfl, hj⟩
    · cases v <;> simp [Kd.sub] at q
      exact hn
    · have q : S j = .free i := q
      rw [hj] at q
      cases q
      exact hne rfl
  · intro h
    have hn : ¬ (v.sub S).has i := fun q => by rw [(Kd.hasB_iff _).mpr q] at h; cases h
    refine ⟨f.bind cl hv hiL hv2 hi hn, fun θ s => ((sols_bind hi).mp s).1, fun _ θ s e => (sols_bind hi).mpr ⟨s, by rw [s.k]; exact e⟩, fun _ θ s => ?_, fun o => by cases o⟩
    obtain ⟨h1, h2⟩ := (sols_bind hi).mp s
    rw [h1.k] at h2
    exact h2
theorem SlvAt.setO (h : SlvAt os a b g m) {i : Int} {u : Kd} (hl : g.length < 100000) : setOV (.arena os :: tl) (.d (.oid b)) (.d (.int i)) u.d = some (.arena (os.set b (.dic (dF (putG g i u)))) :: tl) := by
  simp only [setOV, getO_ar, h.bd, Option.map_some, putO_ar, D.key, Bool.true_and, dF_len, putK_dF]
  rw [if_pos (by rw [LIM_eq, decide_eq_true_eq]; omega)]
theorem head_c {u v : Kd} (st : Store) : cmpV .ne st (.d (.str u.head)) (.d (.str v.head)) = some (!decide (u.head = v.head)) := by simp [cmpV, deref, cs_ne]
theorem alone_c {u : Kd} (hu : isC u = true) (st : Store) : cmpV .isin st (.d (.str u.head)) (.d (.tup [.str "int", .str "bool", .str "rigid"])) = some false := by
  cases u <;> simp [isC] at hu <;> simp [cmpV, inB, D.mem, flat, Kd.head, D.eqv]
theorem same_c {u v : Kd} (hu : u.nv) (hv : v.nv) (h : u.head = v.head) (hne : u ≠ v) : isC u = true := by
  cases u <;> cases v <;> simp [Kd.head, isC] at h hne ⊢ <;> first | exact hu | exact hv
theorem zip_sl {u v : Kd} (hu : isC u = true) (hv : isC v = true) (st : Store) : D.slice u.d (some 1) none = some (.tup (u.kids.map Kd.d)) ∧ bltV .zip [.d (.tup (u.kids.map Kd.d)), .d (.tup (v.kids.map Kd.d))] st = .ok (.d (.lst ((u.kids.zip v.kids).map pd))) st := by
  constructor
  · cases u <;> simp [isC] at hu <;> simp [Kd.d, Kd.kids, D.slice, cut, sIx]
  · simp [bltV, bltD, derefs, deref, asDs, D.blt, D.bZip, sv_zip]
theorem uni_turn {n : Nat} {p : Kd × Kd} {s s' : Store} {x1 x2 x3 x4 : Option Val} {ok : Bool} (mu : methOk s (.d (.oid a)) "Solver" "unite" = true) (e : callN T n "Solver.unite" [.d (.oid a), .d p.1.d, .d p.2.d] s = .ok (.d (.bool ok)) s') :
    compStep (eval (callN T n) f_Solver_unite_c0) (conds (callN T n) []) (.tup [.name 3, .name 4]) [some (.d (.oid a)), x1, x2, x3, x4] (pd p) s = .ok (some (.bool ok)) s' := by
  simp [compStep, Tg.put, Tg.puts, pd, f_Solver_unite_c0, mu, e, asD]
/-- pairs made alike, one by one -/
theorem uni_pairs {n e : Nat} {x1 x2 : Option Val} (hn : ∀ e', e' = e → UniOk L tl a b n e') : ∀ (ps : List (Kd × Kd)) (os : List Obj) (g : G) (S : Int → Kd), FL L g S → SlvAt os a b g m → (∀ p ∈ ps, p.1 ∈ L ∧ p.2 ∈ L ∧ Lv L S e p.1 ∧ Lv L S e p.2) →
    ∃ (bs : List Bool) (g' : G) (S' : Int → Kd), compL (compStep (eval (callN T n) f_Solver_unite_c0) (conds (callN T n) []) (.tup [.name 3, .name 4]) [some (.d (.oid a)), x1, x2, none, none]) (ps.map pd) (.arena os :: tl) = .ok (bs.map D.bool) (.arena (os.set b (.dic (dF g'))) :: tl) ∧
      FL L g' S' ∧ Bh S S' ∧ (bs.all id = true → ∀ f, (Sols f S ∧ ∀ p ∈ ps, p.1.sub f = p.2.sub f) ↔ Sols f S') ∧ (bs.all id = false → ∀ f, Sols f S → ¬ ∀ p ∈ ps, p.1.sub f = p.2.sub f)
  | [], os, g, S, f, h, _ => ⟨[], g, S, by simp [compL, set_noop h.bd], f, .refl S, fun _ θ => by simp, fun q => by simp at q⟩
  | p :: ps, os, g, S, f, h, hp => by
    obtain ⟨p1, p2, l1, l2⟩ := hp p (by simp)
    obtain ⟨ok, g1, S1, e1, r1⟩ := hn e rfl os g m S p.1 p.2 f h p1 p2 l1 l2
    have h1 := h.put g1
    obtain ⟨bs, g2, S2, e2, f2, b2, y2, n2⟩ := uni_pairs (x1 := x1) (x2 := x2) hn ps (os.set b (.dic (dF g1))) g1 S1 r1.fl h1 (fun q hq => by
      obtain ⟨q1, q2, k1, k2⟩ := hp q (by simp [hq])
      exact ⟨q1, q2, k1.bh r1.bh, k2.bh r1.bh⟩)
    rw [List.set_set] at e2
    have et := uni_turn (x1 := x1) (x2 := x2) (x3 := none) (x4 := none) (h.meth (tl := tl) "unite" (by decide)) e1
    refine ⟨ok :: bs, g2, S2, ?_, f2, r1.bh.trans b2, fun hall θ => ?_, fun hall θ s q => ?_⟩
    · simp only [List.map_cons, compL, et, Res.bind_ok, e2]
    · simp only [List.all_cons, id, Bool.and_eq_true] at hall
      rw [← y2 hall.2 θ]
      constructor
      · rintro ⟨s, q⟩
        exact ⟨r1.yes hall.1 θ s (q p (by simp)), fun r hr => q r (by simp [hr])⟩
      · rintro ⟨s, q⟩
        refine ⟨r1.bh θ s, fun r hr => ?_⟩
        rcases List.mem_cons.mp hr with rfl | hr
        · exact r1.eq hall.1 θ s
        · exact q r hr
    · cases hok : ok with
      | false => exact r1.no hok θ s (q p (by simp))
      | true =>
        have : bs.all id = false := by
          simp only [List.all_cons, id, hok, Bool.true_and] at hall
          exact hall
        exact n2 this θ (r1.yes hok θ s (q p (by simp))) fun r hr => q r (by simp [hr])
theorem eq_c {u v : Kd} (hu : u.h < 64) (hv : v.h < 64) (st : Store) : cmpV .eq st (.d u.d) (.d v.d) = some (decide (u = v)) := by
  simp only [cmpV, deref, cmp_eq_kd hu hv]
theorem top_free {u : Kd} {i : Int} (hv : u.nv ∨ ∃ i, u = .free i ∧ S i = .free i) (h : u.sub S = .free i) : u = .free i ∧ S i = .free i := by
  rcases hv with hn | ⟨j, rfl, hj⟩
  · cases u <;> simp [Kd.sub] at h
    exact hn.elim
  · have h : S j = .free i := h
    rw [hj] at h
    cases h
    exact ⟨rfl, hj⟩
set_option maxHeartbeats 4000000 in
/-- a free one ahead -/
theorem uni_B (cl : Cl L) (h60 : NB L ≤ 60) (hL : L.length < 100000) {n : Nat} (hn : NB L + 3 ≤ n) (f : FL L g S) (h : SlvAt os a b g m) {x y : Kd} (hx : x ∈ L) (hy : y ∈ L) {i : Int} (hi : x.sub S = .free i) :
    ∃ ok g' S', callN T n "Solver.unite" [.d (.oid a), .d x.d, .d y.d] (.arena os :: tl) = .ok (.d (.bool ok)) (.arena (os.set b (.dic (dF g'))) :: tl) ∧ UniR L S x y ok g' S' := by
  obtain ⟨n, rfl⟩ : ∃ n', n = n' + 1 := ⟨n - 1, by omega⟩
  obtain ⟨u, hu, eu, hu2, e1⟩ := sv_seen (tl := tl) f h hx (n := n) (by omega)
  obtain ⟨v, hv, ev, hv2, e2⟩ := sv_seen (tl := tl) f h hy (n := n) (by omega)
  obtain ⟨rfl, hi⟩ := top_free hu2 (eu.trans hi)
  have mk := h.meth (tl := tl) "seen" (by decide)
  have mh := h.meth (tl := tl) "has" (by decide)
  have hfld := h.fld (tl := tl)
  have hvh := f.us.h_leC cl hv
  have hvh2 := sub_h S v
  have hc := eq_c (u := .free i) (v := v) (by simp [Kd.h]) (by omega)
  have i0 := kd_ix0 (.free i)
  have i1 := free_ix1 i
  have fc := free_c i
  have hh := sv_has (tl := tl) cl f h (num := i) n v hv (by omega)
  have hgl : g.length < 100000 := by have := f.cn; omega
  have hset := h.setO (tl := tl) (i := i) (u := v) hgl
  by_cases c : Kd.free i = v
  · refine ⟨true, g, S, ?_, (UniR.refl (x := .free i) f).of eu (by rw [c]; exact ev)⟩
    rw [decide_eq_true c] at hc
    rw [set_noop h.bd]
    generalize (Kd.free i).d = ud at *
    generalize v.d = vd at *
    apply eq_of_wp
    rw [callN_run T_f_Solver_unite]
    simp [f_Solver_unite, runFn, mk, e1, e2, hc, asB, leave]
  · rw [decide_eq_false c] at hc
    obtain ⟨k1, k2⟩ := uni_free cl f hi hv hu hv2 (fun q => c q.symm)
    cases hB : (v.sub S).hasB i with
    | true =>
      rw [hB] at hh
      refine ⟨false, g, S, ?_, (k1 hB).of eu ev⟩
      rw [set_noop h.bd]
      generalize (Kd.free i).d = ud at *
      generalize v.d = vd at *
      apply eq_of_wp
      rw [callN_run T_f_Solver_unite]
      simp [f_Solver_unite, runFn, mk, mh, e1, e2, hc, asB, ivdS, i0, i1, fc, hh, leave]
    | false =>
      rw [hB] at hh
      refine ⟨true, _, _, ?_, (k2 hB).of eu ev⟩
      have htk : (Cell.arena (os.set b (.dic (dF (putG g i v)))) :: tl).take (tl.length + 1) = .arena (os.set b (.dic (dF (putG g i v)))) :: tl := List.take_of_length_le (by simp)
      generalize Cell.arena (os.set b (.dic (dF (putG g i v)))) :: tl = s2 at *
      generalize (Kd.free i).d = ud at *
      generalize v.d = vd at *
      apply eq_of_wp
      rw [callN_run T_f_Solver_unite]
      simp [f_Solver_unite, runFn, mk, mh, e1, e2, hc, asB, ivdS, i0, i1, fc, hh, hfld, asD, hset, leave, htk]
set_option maxHeartbeats 4000000 in
theorem uni_A (cl : Cl L) (h60 : NB L ≤ 60) (hL : L.length < 100000) {n e : Nat} (hn : NB L + 3 ≤ n) (hr : e < NB L → UniOk L tl a b n (e + 1)) : UniOk L tl a b (n + 1) e := by
  intro os g m S x y f h hx hy lx ly
  obtain ⟨u, hu, eu, hu2, e1⟩ := sv_seen (tl := tl) f h hx (n := n) (by omega)
  obtain ⟨v, hv, ev, hv2, e2⟩ := sv_seen (tl := tl) f h hy (n := n) (by omega)
  by_cases hxf : ∃ i, x.sub S = .free i
  · obtain ⟨i, hi⟩ := hxf
    exact uni_B cl h60 hL (by omega) f h hx hy hi
  have hun : u.nv := by
    rcases hu2 with h | ⟨i, rfl, hi⟩
    · exact h
    · exact absurd ⟨i, by rw [← eu]; exact hi⟩ hxf
  have mk := h.meth (tl := tl) "seen" (by decide)
  have mu := h.meth (tl := tl) "unite" (by decide)
  have huh := f.us.h_leC cl hu
  have hvh := f.us.h_leC cl hv
  have huh2 := sub_h S u
  have hvh2 := sub_h S v
  have hc := eq_c (u := u) (v := v) (by omega) (by omega)
  have i0 := kd_ix0 u
  have j0 := kd_ix0 v
  have fc := nv_c hun
  rcases hv2 with hvn | ⟨j, rfl, hj⟩
  · by_cases c : u = v
    · subst c
      refine ⟨true, g, S, ?_, (UniR.refl (x := u) f).of eu ev⟩
      rw [decide_eq_true rfl] at hc
      rw [set_noop h.bd]
      generalize u.d = ud at *
      apply eq_of_wp
      rw [callN_run T_f_Solver_unite]
      simp [f_Solver_unite, runFn, mk, e1, e2, hc, asB, leave]
    · rw [decide_eq_false c] at hc
      have gc := nv_c hvn
      have hd := head_c (u := u) (v := v)
      by_cases c2 : u.head = v.head
      · rw [decide_eq_true c2] at hd
        have huc := same_c hun hvn c2 c
        have hvc := same_c hvn hun c2.symm (fun q => c q.symm)
        have hal := alone_c huc
        obtain ⟨z1, z2⟩ := zip_sl huc hvc (.arena os :: tl)
        obtain ⟨z3, _⟩ := zip_sl hvc huc (.arena os :: tl)
        have lu := lx.same eu
        have lv := ly.same ev
        have hlt : e < NB L := by
          have := lu.now f
          have : 1 ≤ (u.sub S).h := by cases u <;> simp [isC] at huc <;> simp [Kd.sub, Kd.h]
          omega
        obtain ⟨bs, g', S', e3, f', b', y', n'⟩ := uni_pairs (m := m) (x1 := some (.d u.d)) (x2 := some (.d v.d)) (e := e + 1) (fun e' q => by rw [q]; exact hr hlt) (u.kids.zip v.kids) os g S f h (fun p hp => by
          obtain ⟨p1, p2⟩ := zip_in hp
          exact ⟨cl u hu _ p1, cl v hv _ p2, lu.kid p1, lv.kid p2⟩)
        refine ⟨bs.all id, g', S', ?_, UniR.of ⟨f', b', fun o θ s q => (y' o θ).mp ⟨s, (sv_same hun hvn c2 θ).mp q⟩, fun o θ s => (sv_same hun hvn c2 θ).mpr ((y' o θ).mpr s).2, fun o θ s q => n' o θ s ((sv_same hun hvn c2 θ).mp q)⟩ eu ev⟩
        have hall : ∀ st, bltV .all [.d (.lst (bs.map D.bool))] st = .ok (.d (.bool (bs.all id))) st := fun st => by simp [bltV, bltD, derefs, deref, D.blt, sv_all bs]
        have htk : (Cell.arena (os.set b (.dic (dF g'))) :: tl).take (tl.length + 1) = .arena (os.set b (.dic (dF g'))) :: tl := List.take_of_length_le (by simp)
        generalize Cell.arena (os.set b (.dic (dF g'))) :: tl = s2 at *
        generalize bs.map D.bool = bd at *
        generalize (u.kids.zip v.kids).map pd = zs at *
        generalize u.kids.map Kd.d = uk at *
        generalize v.kids.map Kd.d = vk at *
        generalize u.d = ud at *
        generalize v.d = vd at *
        apply eq_of_wp
        rw [callN_run T_f_Solver_unite]
        simp [f_Solver_unite, runFn, mk, e1, e2, hc, asB, ivdS, i0, j0, fc, gc, hd, hal, deref, asI, z1, z2, z3, asD, D.seq, Tg.slots, Tg.slotss, wipe, e3, hall, leave, htk]
      · rw [decide_eq_false c2] at hd
        refine ⟨false, g, S, ?_, UniR.of ⟨f, .refl S, fun o => (by cases o), fun o => (by cases o), fun _ θ _ => sv_other hun hvn c2 θ⟩ eu ev⟩
        rw [set_noop h.bd]
        generalize u.d = ud at *
        generalize v.d = vd at *
        apply eq_of_wp
        rw [callN_run T_f_Solver_unite]
        simp [f_Solver_unite, runFn, mk, e1, e2, hc, asB, ivdS, i0, j0, fc, gc, hd, leave]
  · have c : ¬ u = .free j := fun q => by rw [q] at hun; exact hun
    rw [decide_eq_false c] at hc
    have gc := free_c j
    obtain ⟨ok, g', S', e3, r⟩ := uni_B (tl := tl) (n := n) cl h60 hL hn f h hv hu (i := j) hj
    refine ⟨ok, g', S', ?_, r.swap.of eu ev⟩
    have htk : (Cell.arena (os.set b (.dic (dF g'))) :: tl).take (tl.length + 1) = .arena (os.set b (.dic (dF g'))) :: tl := List.take_of_length_le (by simp)
    generalize Cell.arena (os.set b (.dic (dF g'))) :: tl = s2 at *
    generalize u.d = ud at *
    generalize (Kd.free j).d = vd at *
    apply eq_of_wp
    rw [callN_run T_f_Solver_unite]
    simp [f_Solver_unite, runFn, mk, mu, e1, e2, hc, asB, ivdS, i0, j0, fc, gc, e3, leave, htk]
theorem sv_unite0 (cl : Cl L) (h60 : NB L ≤ 60) (hL : L.length < 100000) : ∀ (d e n : Nat), e + d = NB L → d + NB L + 4 ≤ n → UniOk L tl a b n e := by
  intro d
  induction d with
  | zero =>
    intro e n he hn
    obtain ⟨n, rfl⟩ : ∃ n', n = n' + 1 := ⟨n - 1, by omega⟩
    exact uni_A cl h60 hL (by omega) fun q => by omega
  | succ d ih =>
    intro e n he hn
    obtain ⟨n, rfl⟩ : ∃ n', n = n' + 1 := ⟨n - 1, by omega⟩
    exact uni_A cl h60 hL (by omega) fun q => ih (e + 1) n (by omega) (by omega)
/-- made alike, whatever stands in L -/
theorem sv_unite (cl : Cl L) (h60 : NB L ≤ 60) (hL : L.length < 100000) {n : Nat} (hn : 2 * NB L + 4 ≤ n) (f : FL L g S) (h : SlvAt os a b g m) {x y : Kd} (hx : x ∈ L) (hy : y ∈ L) :
    ∃ ok g' S', callN T n "Solver.unite" [.d (.oid a), .d x.d, .d y.d] (.arena os :: tl) = .ok (.d (.bool ok)) (.arena (os.set b (.dic (dF g'))) :: tl) ∧ UniR L S x y ok g' S' :=
  sv_unite0 cl h60 hL (NB L) 0 n (by omega) (by omega) os g m S x y f h hx hy (.zero cl hx) (.zero cl hy)
end
end Prog

namespace Prog
open Ir
/-! ### what holds while pairs wait -/
theorem kds_len (k : Kd) : k.kids.length ≤ 2 := by cases k <;> simp [Kd.kids]
def szB (S : Int → Kd) (ps : List (Kd × Kd)) : Nat := (ps.map fun p => (p.1.sub S).parts + (p.2.sub S).parts).sum
theorem szB_app (S : Int → Kd) (a b : List (Kd × Kd)) : szB S (a ++ b) = szB S a + szB S b := by simp [szB]
structure Sv0 (L : List Kd) (S0 : Int → Kd) (I : (Int → Kd) → Prop) (r0 : Nat) (g : G) (S : Int → Kd) (ps : List (Kd × Kd)) (ok : Bool) : Prop where
  fl : FL L g S
  bh : Bh S0 S
  mem : ∀ p ∈ ps, p.1 ∈ L ∧ p.2 ∈ L
  lv : ∀ k p, ps[k]? = some p → Lv L S (k - r0) p.1 ∧ Lv L S (k - r0) p.2
  yes : ok = true → ∀ f, I f ↔ (Sols f S ∧ ∀ p ∈ ps, p.1.sub f = p.2.sub f)
  no : ok = false → ∀ f, ¬ I f
section
variable {L : List Kd} {S0 : Int → Kd} {I : (Int → Kd) → Prop} {r0 : Nat} {g : G} {S : Int → Kd} {ps qs : List (Kd × Kd)} {ok : Bool} {l r : Kd}
theorem Sv0.len (h : Sv0 L S0 I r0 g S ps ok) : ps.length ≤ r0 + NB L + 1 := by
  cases hl : ps.length with
  | zero => omega
  | succ n =>
    have h1 := (h.lv n (ps[n]'(by omega)) (List.getElem?_eq_getElem (by omega))).1.now h.fl
    omega
theorem lv_pop {P : Nat → Kd × Kd → Prop} {q : Kd × Kd} (h : ∀ k p, (qs ++ [q])[k]? = some p → P k p) : ∀ k p, qs[k]? = some p → P k p := fun k p hp => h k p (by rw [List.getElem?_append_left (List.getElem?_eq_some_iff.mp hp).1]; exact hp)
theorem Sv0.top (h : Sv0 L S0 I r0 g S (qs ++ [(l, r)]) ok) : l ∈ L ∧ r ∈ L := h.mem (l, r) (by simp)
/-- the pair tells nothing new -/
theorem Sv0.drop (h : Sv0 L S0 I r0 g S (qs ++ [(l, r)]) ok) (e : ∀ f, Sols f S → l.sub f = r.sub f) : Sv0 L S0 I r0 g S qs ok := by
  refine ⟨h.fl, h.bh, (mem_app1.mp h.mem).1, lv_pop h.lv, fun o f => ?_, h.no⟩
  rw [h.yes o f, mem_app1]
  exact ⟨fun ⟨a, b, c⟩ => ⟨a, b⟩, fun ⟨a, b⟩ => ⟨a, b, e f a⟩⟩
/-- the pair cannot be made alike -/
theorem Sv0.fail (h : Sv0 L S0 I r0 g S (qs ++ [(l, r)]) ok) (e : ∀ f, Sols f S → l.sub f ≠ r.sub f) : Sv0 L S0 I r0 g S qs false := by
  refine ⟨h.fl, h.bh, (mem_app1.mp h.mem).1, lv_pop h.lv, fun o => (by cases o), fun _ f hf => ?_⟩
  cases hok : ok with
  | false => exact h.no hok f hf
  | true =>
    obtain ⟨a, b⟩ := (h.yes hok f).mp hf
    exact e f a (b (l, r) (by simp))
/-- a free one is filled -/
theorem Sv0.bind (cl : Cl L) (h : Sv0 L S0 I r0 g S (qs ++ [(l, r)]) ok) {i : Int} {u : Kd} (hu : u ∈ L) (hiL : .free i ∈ L) (hv : u.nv ∨ ∃ j, u = .free j ∧ S j = .free j) (hi : S i = .free i) (hn : ¬ (u.sub S).has i) (e : ∀ f, Sols f S → (l.sub f = r.sub f ↔ f i = u.sub f)) : Sv0 L S0 I r0 (putG g i u) (comp1 S i (u.sub S)) qs ok := by
  have hb : Bh S (comp1 S i (u.sub S)) := fun f s => ((sols_bind hi).mp s).1
  refine ⟨h.fl.bind cl hu hiL hv hi hn, h.bh.trans hb, (mem_app1.mp h.mem).1, fun k p hp => ?_, fun o f => ?_, h.no⟩
  · have := lv_pop h.lv k p hp
    exact ⟨this.1.bh hb, this.2.bh hb⟩
  · rw [h.yes o f, mem_app1, sols_bind hi]
    constructor
    · rintro ⟨a, b, c⟩
      exact ⟨⟨a, by rw [a.k]; exact (e f a).mp c⟩, b⟩
    · rintro ⟨⟨a, c⟩, b⟩
      rw [a.k] at c
      exact ⟨a, b, (e f a).mpr c⟩
/-- parts of two kinds of the same word -/
theorem Sv0.kids (cl : Cl L) (h : Sv0 L S0 I r0 g S (qs ++ [(l, r)]) ok) {u v : Kd} (hu : u ∈ L) (hv : v ∈ L) (eu : u.sub S = l.sub S) (ev : v.sub S = r.sub S) (hun : u.nv) (hvn : v.nv) (hh : v.head = u.head) : Sv0 L S0 I r0 g S (qs ++ v.kids.zip u.kids) ok := by
  have hz : ∀ p ∈ v.kids.zip u.kids, p.1 ∈ v.kids ∧ p.2 ∈ u.kids := fun p hp => zip_in hp
  have hl2 : (v.kids.zip u.kids).length ≤ 2 := by have := kds_len u; rw [List.length_zip]; omega
  refine ⟨h.fl, h.bh, fun p hp => ?_, fun k p hp => ?_, fun o f => ?_, h.no⟩
  · rcases List.mem_append.mp hp with hp | hp
    · exact (mem_app1.mp h.mem).1 p hp
    · exact ⟨cl v hv _ (hz p hp).1, cl u hu _ (hz p hp).2⟩
  · by_cases c : k < qs.length
    · rw [List.getElem?_append_left c] at hp
      exact lv_pop h.lv k p hp
    · have hm := (List.getElem?_eq_some_iff.mp hp).1
      rw [List.getElem?_append_right (by omega)] at hp
      have hk := hz p (List.mem_of_getElem? hp)
      rw [List.length_append] at hm
      obtain ⟨h1, h2⟩ := h.lv qs.length (l, r) (by simp)
      have h1' := (h1.same eu).kid hk.2
      have h2' := (h2.same ev).kid hk.1
      have down : ∀ {x : Kd}, Lv L S (qs.length - r0 + 1) x → Lv L S (k - r0) x := fun {x} q g' S' f b => by have := q g' S' f b; omega
      exact ⟨down h2', down h1'⟩
  · rw [h.yes o f, mem_app1, mem_app2]
    have key : Sols f S → (l.sub f = r.sub f ↔ ∀ p ∈ v.kids.zip u.kids, p.1.sub f = p.2.sub f) := fun s => by
      rw [← sv_same hvn hun hh f, ← s.k l, ← s.k r, ← eu, ← ev, s.k, s.k]
      exact eq_comm
    constructor
    · rintro ⟨h1, h2, h3⟩; exact ⟨h1, h2, (key h1).mp h3⟩
    · rintro ⟨h1, h2, h3⟩; exact ⟨h1, h2, (key h1).mpr h3⟩
theorem szB_kids {u v : Kd} (S : Int → Kd) : szB S (v.kids.zip u.kids) < (u.sub S).parts + (v.sub S).parts := by
  have := (u.sub S).h_parts
  have := (v.sub S).h_parts
  cases u <;> cases v <;> simp [Kd.kids, szB, Kd.sub, Kd.parts] at * <;> omega
theorem szB_one (S : Int → Kd) (l r : Kd) : 1 ≤ szB S [(l, r)] := by
  have := (l.sub S).h_parts
  simp [szB]; omega
/-- begun -/
theorem Sv0.start (cl : Cl L) (f : FL L g S0) (hp : ∀ p ∈ ps, p.1 ∈ L ∧ p.2 ∈ L) (h1 : ok = true → ∀ θ, I θ ↔ (Sols θ S0 ∧ ∀ p ∈ ps, p.1.sub θ = p.2.sub θ)) (h2 : ok = false → ∀ θ, ¬ I θ) : Sv0 L S0 I ps.length g S0 ps ok := by
  refine ⟨f, .refl _, hp, fun k p hk => ?_, h1, h2⟩
  have hlt := (List.getElem?_eq_some_iff.mp hk).1
  have hm := hp p (List.mem_of_getElem? hk)
  rw [show k - ps.length = 0 by omega]
  exact ⟨.zero cl hm.1, .zero cl hm.2⟩
end
end Prog

namespace Prog
open Ir
theorem kd_tupV (k : Kd) : isiV [.tuple] k.d = some (.bool true) := by rw [Kd.d_eq]; simp [isiV, D.tyOk]
theorem rng1 (s : Store) : bltV .range [.d (.int 1), .d (.int 1)] s = .ok (.d (.lst [])) s := by simp [bltV, bltD, derefs, deref, D.blt, D.bRange, LIM_eq, rangeL]
theorem rng2 (s : Store) : bltV .range [.d (.int 1), .d (.int 2)] s = .ok (.d (.lst [.int 1])) s := by simp [bltV, bltD, derefs, deref, D.blt, D.bRange, LIM_eq, rangeL]
theorem rng3 (s : Store) : bltV .range [.d (.int 1), .d (.int 3)] s = .ok (.d (.lst [.int 1, .int 2])) s := by simp [bltV, bltD, derefs, deref, D.blt, D.bRange, LIM_eq, rangeL, List.range_succ]
/-- the pairs of the parts of two kinds of the same word -/
theorem sol_comp {C : Calls} {s : Store} {x0 : Option Val} {u v : Kd} (hu : u.nv) (hv : v.nv) (hh : v.head = u.head) : ∃ rl n, bltV .len [.d v.d] s = .ok (.d (.int n)) s ∧ bltV .range [.d (.int 1), .d (.int n)] s = .ok (.d (.lst rl)) s ∧ compL (compStep (eval C f_law_solve_c0) (conds C f_law_solve_k0) (.name 3) [x0, some (.d v.d), some (.d u.d), none]) rl s = .ok ((v.kids.zip u.kids).map pd) s := by
  cases v with
  | free i => exact hv.elim
  | int =>
    cases u <;> simp [Kd.head] at hh
    · exact ⟨[], 1, rfl, rng1 s, rfl⟩
  | bool =>
    cases u <;> simp [Kd.head] at hh
    · exact ⟨[], 1, rfl, rng1 s, rfl⟩
  | list a =>
    cases u <;> simp [Kd.head] at hh
    · rename_i b
      refine ⟨[.int 1], 2, rfl, rng2 s, ?_⟩
      have ta := kd_tupV a
      have tb := kd_tupV b
      simp only [Kd.d, Kd.kids, List.zip_cons_cons, List.zip_nil_right, List.map_cons, List.map_nil, pd]
      generalize a.d = ad at *
      generalize b.d = bd at *
      simp [compL, compStep, conds, Tg.put, f_law_solve_c0, f_law_solve_k0, indexV, D.index, atI, ixN, deref, ta, asB, asDs, asD]
  | fn a c =>
    cases u <;> simp [Kd.head] at hh
    · rename_i b d
      refine ⟨[.int 1, .int 2], 3, rfl, rng3 s, ?_⟩
      have ta := kd_tupV a
      have tc := kd_tupV c
      simp only [Kd.d, Kd.kids, List.zip_cons_cons, List.zip_nil_right, List.map_cons, List.map_nil, pd]
      generalize a.d = ad at *
      generalize b.d = bd at *
      generalize c.d = cd at *
      generalize d.d = dd at *
      simp [compL, compStep, conds, Tg.put, f_law_solve_c0, f_law_solve_k0, indexV, D.index, atI, ixN, deref, ta, tc, asB, asDs, asD]
  | pair a c =>
    cases u <;> simp [Kd.head] at hh
    · rename_i b d
      refine ⟨[.int 1, .int 2], 3, rfl, rng3 s, ?_⟩
      have ta := kd_tupV a
      have tc := kd_tupV c
      simp only [Kd.d, Kd.kids, List.zip_cons_cons, List.zip_nil_right, List.map_cons, List.map_nil, pd]
      generalize a.d = ad at *
      generalize b.d = bd at *
      generalize c.d = cd at *
      generalize d.d = dd at *
      simp [compL, compStep, conds, Tg.put, f_law_solve_c0, f_law_solve_k0, indexV, D.index, atI, ixN, deref, ta, tc, asB, asDs, asD]
/-- one turn: a free one on the left, or on the right alone -/
theorem sol_free {C : Calls} {E : Nat} {W A : Nat} {s0 s1 s2 : Store} {ld rd ud vd xd yd fd : D} {hu : String} {i : Int} {fl : List Int} {x1 x2 x3 : Option Val} {dif : Bool}
    (i3 : indexV s0 (.ref E) (.d (.int 3)) = some (.oid W)) (o1 : omOk s0 (.d (.oid W)) = true) (o2 : omV .pop s0 (.d (.oid W)) [] = .ok (.d (.tup [ld, rd])) s1)
    (e1 : C "_law_top" [.ref E, .d ld] s1 = .ok (.d ud) s1) (e2 : C "_law_top" [.ref E, .d rd] s1 = .ok (.d vd) s1)
    (hi : D.index ud (.int 0) = some (.str hu)) (hc : (hu = "free" ∧ xd = ud ∧ yd = vd) ∨ (hu ≠ "free" ∧ xd = vd ∧ yd = ud)) (hx : D.index xd (.int 0) = some (.str "free")) (hx1 : D.index xd (.int 1) = some (.int i))
    (hd : ∀ st, cmpV .ne st (.d xd) (.d yd) = some dif)
    (go : dif = true → C "_law_full" [.ref E, .d yd] s1 = .ok (.d fd) s1 ∧ C "_law_frees" [.d fd] s1 = .ok (.d (.lst (fl.map .int))) s1 ∧ (i ∈ fl → setV (.ref E) (.d (.int 4)) (.bool false) s1 = some s2) ∧ (i ∉ fl → indexV s1 (.ref E) (.d (.int 0)) = some (.oid A) ∧ setOV s1 (.d (.oid A)) (.d (.int i)) yd = some s2)) (st : dif = false → s2 = s1) :
    execs C f_law_solve_b0 [some (.ref E), x1, x2, x3] s0 = .ok (.nx [some (.ref E), some (.d xd), some (.d yd), x3]) s2 := by
  have hm : ∀ st, cmpV .isin st (.d (.int i)) (.d (.lst (fl.map .int))) = some (decide (i ∈ fl)) := fun st => by
    have ha := any_ints fl i
    simp only [cmpV, inB, D.mem, fine_intlist]
    simpa [fine, D.dep] using ha
  have nf : ∀ (a : String) st, cmpV .ne st (.d (.str a)) (.d (.str "free")) = some (!decide (a = "free")) := fun a st => by simp [cmpV, deref, cs_ne]
  have ef : ∀ (a : String) st, cmpV .eq st (.d (.str a)) (.d (.str "free")) = some (decide (a = "free")) := fun a st => by simp [cmpV, deref, cs_eq]
  apply eq_of_wp
  cases hdif : dif with
  | false =>
    subst hdif
    obtain rfl := st rfl
    rcases hc with ⟨rfl, rfl, rfl⟩ | ⟨hne, rfl, rfl⟩
    · simp [f_law_solve_b0, i3, o1, o2, Tg.putV, Tg.put, Tg.puts, D.seq, setAll, e1, e2, asDs, asD, ivdS, hi, nf, ef, asB, hd]
    · simp [f_law_solve_b0, i3, o1, o2, Tg.putV, Tg.put, Tg.puts, D.seq, setAll, e1, e2, asDs, asD, ivdS, hi, hx, nf, ef, hne, asB, hd]
  | true =>
    subst hdif
    obtain ⟨g1, g2, g3, g4⟩ := go rfl
    by_cases c : i ∈ fl
    · have g3 := g3 c
      rcases hc with ⟨rfl, rfl, rfl⟩ | ⟨hne, rfl, rfl⟩
      · simp [f_law_solve_b0, i3, o1, o2, Tg.putV, Tg.put, Tg.puts, D.seq, setAll, e1, e2, asDs, asD, ivdS, hi, nf, ef, asB, hd, hx1, g1, g2, hm, c, g3]
      · simp [f_law_solve_b0, i3, o1, o2, Tg.putV, Tg.put, Tg.puts, D.seq, setAll, e1, e2, asDs, asD, ivdS, hi, hx, nf, ef, hne, asB, hd, hx1, g1, g2, hm, c, g3]
    · obtain ⟨g5, g6⟩ := g4 c
      rcases hc with ⟨rfl, rfl, rfl⟩ | ⟨hne, rfl, rfl⟩
      · simp [f_law_solve_b0, i3, o1, o2, Tg.putV, Tg.put, Tg.puts, D.seq, setAll, e1, e2, asDs, asD, ivdS, hi, nf, ef, asB, hd, hx1, g1, g2, hm, c, g5, g6]
      · simp [f_law_solve_b0, i3, o1, o2, Tg.putV, Tg.put, Tg.puts, D.seq, setAll, e1, e2, asDs, asD, ivdS, hi, hx, nf, ef, hne, asB, hd, hx1, g1, g2, hm, c, g5, g6]
/-- one turn: two words -/
theorem sol_words {C : Calls} {E : Nat} {W : Nat} {s0 s1 s2 : Store} {ld rd ud vd : D} {hu hv : String} {n : Int} {rl ks : List D} {x1 x2 x3 : Option Val}
    (i3 : indexV s0 (.ref E) (.d (.int 3)) = some (.oid W)) (o1 : omOk s0 (.d (.oid W)) = true) (o2 : omV .pop s0 (.d (.oid W)) [] = .ok (.d (.tup [ld, rd])) s1)
    (e1 : C "_law_top" [.ref E, .d ld] s1 = .ok (.d ud) s1) (e2 : C "_law_top" [.ref E, .d rd] s1 = .ok (.d vd) s1)
    (hiu : D.index ud (.int 0) = some (.str hu)) (hiv : D.index vd (.int 0) = some (.str hv)) (nu : hu ≠ "free") (nv : hv ≠ "free") (nr : hv ≠ "rigid")
    (dif : hv ≠ hu → setV (.ref E) (.d (.int 4)) (.bool false) s1 = some s2)
    (sam : hv = hu → bltV .len [.d vd] s1 = .ok (.d (.int n)) s1 ∧ bltV .range [.d (.int 1), .d (.int n)] s1 = .ok (.d (.lst rl)) s1 ∧ compL (compStep (eval C f_law_solve_c0) (conds C f_law_solve_k0) (.name 3) [some (.ref E), some (.d vd), some (.d ud), none]) rl s1 = .ok ks s1 ∧ indexV s1 (.ref E) (.d (.int 3)) = some (.oid W) ∧ omOk s1 (.d (.oid W)) = true ∧ omV .extend s1 (.d (.oid W)) [.d (.lst ks)] = .ok (.d .non) s2) :
    execs C f_law_solve_b0 [some (.ref E), x1, x2, x3] s0 = .ok (.nx [some (.ref E), some (.d vd), some (.d ud), x3]) s2 := by
  have nf : ∀ (a : String) st, cmpV .ne st (.d (.str a)) (.d (.str "free")) = some (!decide (a = "free")) := fun a st => by simp [cmpV, deref, cs_ne]
  have ef : ∀ (a b : String) st, cmpV .eq st (.d (.str a)) (.d (.str b)) = some (decide (a = b)) := fun a b st => by simp [cmpV, deref, cs_eq]
  have nn : ∀ st, cmpV .ne st (.d (.str hv)) (.d (.str hu)) = some (!decide (hv = hu)) := fun st => by simp [cmpV, deref, cs_ne]
  apply eq_of_wp
  by_cases c : hv = hu
  · obtain ⟨h1, h2, h3, h4, h5, h6⟩ := sam c
    subst c
    simp [f_law_solve_b0, i3, o1, o2, Tg.putV, Tg.put, Tg.puts, D.seq, setAll, e1, e2, asDs, asD, ivdS, hiu, hiv, nf, ef, nu, nv, nr, nn, asB, h1, h2, h3, h4, h5, h6, Tg.slots, wipe]
  · have h1 := dif c
    simp [f_law_solve_b0, i3, o1, o2, Tg.putV, Tg.put, Tg.puts, D.seq, setAll, e1, e2, asDs, asD, ivdS, hiu, hiv, nf, ef, nu, nv, nr, nn, c, asB, h1]
end Prog

namespace Prog
open Ir
theorem Kd.nvHead {k : Kd} (h : k.nv) : k.head ≠ "free" := by
  cases k <;> simp [Kd.head]
  exact h
theorem sol_cond {os : List Obj} {tl : Store} {e A V W : Nat} {g : G} {m : Int} {gs : List Kd} {ps : List (Kd × Kd)} {ok : Bool} {C : Calls} {x1 x2 x3 : Option Val} (h : LS os tl e A V W g m gs ps ok) :
    condB (eval C f_law_solve_w0) [some (.ref (e + 1)), x1, x2, x3] (.arena os :: tl) = .ok (!ps.isEmpty) (.arena os :: tl) := by
  have i3 := h.ix3
  have hq : oqV .notnil (.arena os :: tl) (.d (.oid W)) [] = some (.bool (!ps.isEmpty)) := by
    simp only [oqV, getO_ar, h.pl, Option.map_some, List.isEmpty_map]
  apply eq_of_wp
  generalize Cell.arena os :: tl = s at *
  simp [condB, f_law_solve_w0, i3, hq, asB]
theorem sol_pop {os : List Obj} {tl : Store} {e A V W : Nat} {g : G} {m : Int} {gs : List Kd} {qs : List (Kd × Kd)} {l r : Kd} {ok : Bool} (h : LS os tl e A V W g m gs (qs ++ [(l, r)]) ok) :
    omOk (.arena os :: tl) (.d (.oid W)) = true ∧ omV .pop (.arena os :: tl) (.d (.oid W)) [] = .ok (.d (.tup [l.d, r.d])) (.arena (os.set W (.lst (qs.map pd))) :: tl) := by
  constructor
  · simp only [omOk, getO_ar, h.pl, Option.map_some]
  · simp only [omV, getO_ar, h.pl, Option.map_some, putO_ar]
    simp [pd]
theorem sol_ext {os : List Obj} {tl : Store} {e A V W : Nat} {g : G} {m : Int} {gs : List Kd} {qs rs : List (Kd × Kd)} {ok : Bool} (h : LS os tl e A V W g m gs qs ok) (hl : qs.length + rs.length ≤ 100000) :
    omOk (.arena os :: tl) (.d (.oid W)) = true ∧ omV .extend (.arena os :: tl) (.d (.oid W)) [.d (.lst (rs.map pd))] = .ok (.d .non) (.arena (os.set W (.lst ((qs ++ rs).map pd))) :: tl) := by
  constructor
  · simp only [omOk, getO_ar, h.pl, Option.map_some]
  · simp only [omV, getO_ar, h.pl, Option.map_some, putO_ar, List.length_map]
    rw [if_pos (by rw [LIM_eq]; omega)]; simp
theorem LS.pendE {os : List Obj} {tl : Store} {e A V W : Nat} {g : G} {m : Int} {gs : List Kd} {ps ps' : List (Kd × Kd)} {ok : Bool} (h : LS os tl e A V W g m gs ps ok) : LS (os.set W (.lst (ps'.map pd))) tl e A V W g m gs ps' ok := h.pend ps'
/-- the loop's word -/
structure SlI (L : List Kd) (S0 : Int → Kd) (I : (Int → Kd) → Prop) (r0 : Nat) (tl0 : Store) (e A V W : Nat) (m : Int) (gs : List Kd) (μ : Nat × Nat) (σ : Env) (s : Store) : Prop where
  ex : ∃ (os : List Obj) (g : G) (S : Int → Kd) (ps : List (Kd × Kd)) (ok : Bool) (x1 x2 x3 : Option Val), σ = [some (.ref (e + 1)), x1, x2, x3] ∧ s = .arena os :: tl0.set e (lsC A V W m ok) ∧ LS os (tl0.set e (lsC A V W m ok)) e A V W g m gs ps ok ∧ Sv0 L S0 I r0 g S ps ok ∧ μ = (cnt S L, szB S ps)
theorem tl_set2 {tl : Store} {e : Nat} (c c' : Cell) : (tl.set e c).set e c' = tl.set e c' := List.set_set ..
set_option maxHeartbeats 4000000 in
theorem sol_turn {L : List Kd} {S0 : Int → Kd} {I : (Int → Kd) → Prop} {r0 : Nat} {tl0 : Store} {e A V W : Nat} {m : Int} {gs : List Kd} {n : Nat} {μ : Nat × Nat} {σ : Env} {s : Store} {pp : Post Out} (cl : Cl L) (h60 : NB L ≤ 60) (hL : L.length < 90000) (hr : r0 ≤ 9000) (hn : NB L + 3 ≤ n)
    (hfr : ∀ g' S', FL L g' S' → ∀ u ∈ L, (u.sub S').frl.length < 100000) (i : SlI L S0 I r0 tl0 e A V W m gs μ σ s)
    (fin : ∀ os g S ok x1 x2 x3, LS os (tl0.set e (lsC A V W m ok)) e A V W g m gs [] ok → Sv0 L S0 I r0 g S [] ok → pp.q (.nx [some (.ref (e + 1)), x1, x2, x3]) (.arena os :: tl0.set e (lsC A V W m ok))) :
    @Wp _ (condB (eval (callN T n) f_law_solve_w0) σ s) ⟨fun b' s1 => (b' = true → @Wp _ (execs (callN T n) f_law_solve_b0 σ s1) ⟨fun o s => match o with
      | .nx σ2 => ∃ m', LexN m' μ ∧ SlI L S0 I r0 tl0 e A V W m gs m' σ2 s | .cnt σ2 => ∃ m', LexN m' μ ∧ SlI L S0 I r0 tl0 e A V W m gs m' σ2 s | .brk σ2 => pp.q (.nx σ2) s | .ret v => pp.q (.ret v) s | .thr c as σ2 => pp.q (.thr c as σ2) s⟩) ∧ (b' = false → pp.q (.nx σ) s1)⟩ := by
  obtain ⟨os, g, S, ps, ok, x1, x2, x3, rfl, rfl, ls, sv, rfl⟩ := i
  rw [wp_iff]
  refine ⟨_, _, sol_cond ls, fun hb => ?_, fun hb => ?_⟩
  · obtain ⟨qs, ⟨l, r⟩, rfl⟩ : ∃ qs p, ps = qs ++ [p] := ⟨ps.dropLast, ps.getLast (by rintro rfl; simp at hb), (List.dropLast_concat_getLast _).symm⟩
    obtain ⟨hl, hrr⟩ := sv.top
    have hlen := sv.len
    have ls1 := ls.pendE (ps' := qs)
    obtain ⟨o1, o2⟩ := sol_pop ls
    obtain ⟨u, hu, eu, hu2, e1⟩ := lw_top sv.fl ls1 hl (n := n) (by omega)
    obtain ⟨v, hv, ev, hv2, e2⟩ := lw_top sv.fl ls1 hrr (n := n) (by omega)
    have us := sv.fl.us
    have hih : ∀ w ∈ L, w.h < 64 := fun w hw => by have := sub_h S w; have := us.h_leC cl hw; omega
    have lrf : ∀ f, Sols f S → (l.sub f = r.sub f ↔ u.sub f = v.sub f) := fun f h => by rw [← h.k l, ← h.k r, ← eu, ← ev, h.k, h.k]
    have szq : szB S qs < szB S (qs ++ [(l, r)]) := by have := szB_one S l r; rw [szB_app]; omega
    -- a free one x on one side, y on the other one
    have free : ∀ (j : Int) (y : Kd) (xd : Kd), xd = .free j → S j = .free j → xd ∈ L → y ∈ L → (y.nv ∨ ∃ k, y = .free k ∧ S k = .free k) → (∀ f, Sols f S → (l.sub f = r.sub f ↔ f j = y.sub f)) → ((u.head = "free" ∧ xd.d = u.d ∧ y.d = v.d) ∨ (u.head ≠ "free" ∧ xd.d = v.d ∧ y.d = u.d)) →
        @Wp _ (execs (callN T n) f_law_solve_b0 [some (.ref (e + 1)), x1, x2, x3] (.arena os :: tl0.set e (lsC A V W m ok))) ⟨fun o s => match o with
          | .nx σ2 => ∃ m', LexN m' (cnt S L, szB S (qs ++ [(l, r)])) ∧ SlI L S0 I r0 tl0 e A V W m gs m' σ2 s | .cnt σ2 => ∃ m', LexN m' (cnt S L, szB S (qs ++ [(l, r)])) ∧ SlI L S0 I r0 tl0 e A V W m gs m' σ2 s | .brk σ2 => pp.q (.nx σ2) s | .ret v => pp.q (.ret v) s | .thr c as σ2 => pp.q (.thr c as σ2) s⟩ := by
      intro j y xd hxd hj hxL hyL hy2 hsol hc
      have hyh := us.h_leC cl hyL
      have hdif : ∀ st, cmpV .ne st (.d xd.d) (.d y.d) = some (!decide (xd = y)) := fun st => by
        have := eq_c (hih _ hxL) (hih _ hyL) st
        simp only [cmpV, deref] at this ⊢
        simp only [cmp_ne_kd (hih _ hxL) (hih _ hyL)]
      have i0 : D.index xd.d (.int 0) = some (.str "free") := by rw [hxd]; exact kd_ix0 (.free j)
      have i1 : D.index xd.d (.int 1) = some (.int j) := by rw [hxd]; exact free_ix1 j
      have e3 := lw_full cl sv.fl ls1 n y hyL (by omega)
      have e4 := lw_frees (st := .arena (os.set W (.lst (qs.map pd))) :: tl0.set e (lsC A V W m ok)) n (y.sub S) (by omega) (hfr g S sv.fl y hyL)
      have hmem : j ∈ (y.sub S).frl ↔ (y.sub S).has j := Kd.frl_mem _
      have hgl : g.length < 100000 := by have := sv.fl.cn; omega
      by_cases hxy : xd = y
      · have ex := sol_free (A := A) (fd := (y.sub S).d) (fl := (y.sub S).frl) (i := j) (x1 := x1) (x2 := x2) (x3 := x3) (dif := false) (s2 := .arena (os.set W (.lst (qs.map pd))) :: tl0.set e (lsC A V W m ok)) ls.ix3 o1 o2 e1 e2 (kd_ix0 u) hc i0 i1 (fun st => by rw [hdif st]; simp [hxy]) (fun h => by cases h) (fun _ => rfl)
        rw [wp_iff]
        refine ⟨_, _, ex, ⟨(cnt S L, szB S qs), .right _ szq, ⟨_, g, S, qs, ok, _, _, _, rfl, rfl, ls1, sv.drop fun f s => ?_, rfl⟩⟩⟩
        rw [hsol f s, ← hxy, hxd]
        rfl
      · by_cases hc2 : j ∈ (y.sub S).frl
        · have ls2 := ls1.tlSet m false
          rw [tl_set2] at ls2
          have h4 := ls1.set4 false
          rw [tl_set2] at h4
          have ex := sol_free (A := A) (fd := (y.sub S).d) (fl := (y.sub S).frl) (i := j) (x1 := x1) (x2 := x2) (x3 := x3) (dif := true) ls.ix3 o1 o2 e1 e2 (kd_ix0 u) hc i0 i1 (fun st => by rw [hdif st]; simp [hxy]) (fun _ => ⟨e3, e4, fun _ => h4, fun q => absurd hc2 q⟩) (fun h => by cases h)
          rw [wp_iff]
          refine ⟨_, _, ex, ⟨(cnt S L, szB S qs), .right _ szq, ⟨_, g, S, qs, false, _, _, _, rfl, rfl, ls2, sv.fail fun f s q => ?_, rfl⟩⟩⟩
          have h3 := (hsol f s).mp q
          rw [← s.k y] at h3
          refine Kd.occurs (hmem.mp hc2) (fun q => ?_) h3
          rcases hy2 with hy2 | ⟨k, rfl, hk⟩
          · cases y <;> simp [Kd.sub] at q
            exact hy2.elim
          · simp only [Kd.sub, hk] at q; exact hxy (by rw [hxd, q])
        · have ls2 := ls1.put (putG g j y)
          have ex := sol_free (A := A) (fd := (y.sub S).d) (fl := (y.sub S).frl) (i := j) (x1 := x1) (x2 := x2) (x3 := x3) (dif := true) ls.ix3 o1 o2 e1 e2 (kd_ix0 u) hc i0 i1 (fun st => by rw [hdif st]; simp [hxy]) (fun _ => ⟨e3, e4, fun q => absurd q hc2, fun _ => ⟨ls1.ix0, ls1.setO hgl⟩⟩) (fun h => by cases h)
          have hjL : .free j ∈ L := by rw [← hxd]; exact hxL
          have hnh : ¬ (y.sub S).has j := fun q => hc2 (hmem.mpr q)
          rw [wp_iff]
          exact ⟨_, _, ex, ⟨_, .left _ _ (cnt_bind us hj hjL hnh), ⟨_, _, _, qs, ok, _, _, _, rfl, rfl, ls2, sv.bind cl hyL hjL hy2 hj hnh hsol, rfl⟩⟩⟩
    rcases hu2 with hun | ⟨j, rfl, hj⟩
    · have huf : u.head ≠ "free" := Kd.nvHead hun
      rcases hv2 with hvn | ⟨j, rfl, hj⟩
      · have hvf : v.head ≠ "free" := Kd.nvHead hvn
        have hvr : v.head ≠ "rigid" := by cases v <;> simp [Kd.head]
        by_cases c : v.head = u.head
        · obtain ⟨rl, k, r1, r2, r3⟩ := sol_comp (C := callN T n) (s := .arena (os.set W (.lst (qs.map pd))) :: tl0.set e (lsC A V W m ok)) (x0 := some (.ref (e + 1))) hun hvn c
          have hk2 : (v.kids.zip u.kids).length ≤ 2 := by have := kds_len u; rw [List.length_zip]; omega
          have hql : qs.length ≤ 90000 := by rw [List.length_append] at hlen; omega
          obtain ⟨o3, o4⟩ := sol_ext (rs := v.kids.zip u.kids) ls1 (by omega)
          have ls2 := ls1.pendE (ps' := qs ++ v.kids.zip u.kids)
          have ex := sol_words (x1 := x1) (x2 := x2) (x3 := x3) ls.ix3 o1 o2 e1 e2 (kd_ix0 u) (kd_ix0 v) huf hvf hvr (fun q => absurd c q) (fun _ => ⟨r1, r2, r3, ls1.ix3, o3, o4⟩)
          rw [wp_iff]
          refine ⟨_, _, ex, ⟨_, .right _ ?_, ⟨_, g, S, _, ok, _, _, _, rfl, rfl, ls2, sv.kids cl hu hv eu ev hun hvn c, rfl⟩⟩⟩
          have := szB_kids (u := u) (v := v) S
          rw [szB_app, szB_app]
          have h1 : szB S [(l, r)] = (u.sub S).parts + (v.sub S).parts := by rw [eu, ev]; simp [szB]
          omega
        · have ls2 := ls1.tlSet m false
          rw [tl_set2] at ls2
          have h4 := ls1.set4 false
          rw [tl_set2] at h4
          have ex := sol_words (n := 0) (rl := []) (ks := []) (x1 := x1) (x2 := x2) (x3 := x3) ls.ix3 o1 o2 e1 e2 (kd_ix0 u) (kd_ix0 v) huf hvf hvr (fun _ => h4) (fun q => absurd q c)
          rw [wp_iff]
          refine ⟨_, _, ex, ⟨(cnt S L, szB S qs), .right _ szq, ⟨_, g, S, qs, false, _, _, _, rfl, rfl, ls2, sv.fail fun f s q => ?_, rfl⟩⟩⟩
          exact sv_other hun hvn (fun q => c q.symm) f ((lrf f s).mp q)
      · exact free j u (.free j) rfl hj hv hu (.inl hun) (fun f s => by rw [lrf f s]; exact eq_comm) (.inr ⟨huf, rfl, rfl⟩)
    · exact free j v (.free j) rfl hj hu hv hv2 (fun f s => lrf f s) (.inl ⟨rfl, rfl, rfl⟩)
  · have : ps = [] := by simpa using hb
    subst this
    exact fin os g S ok x1 x2 x3 ls sv
theorem lw_solve {L : List Kd} {S : Int → Kd} {os : List Obj} {tl : Store} {e A V W : Nat} {g : G} {m : Int} {gs : List Kd} {ps : List (Kd × Kd)} {ok : Bool} {n : Nat} (cl : Cl L) (h60 : NB L ≤ 60) (hL : L.length < 90000) (hr : ps.length ≤ 9000) (hn : NB L + 3 ≤ n)
    (hfr : ∀ g' S', FL L g' S' → ∀ u ∈ L, (u.sub S').frl.length < 100000) (f : FL L g S) (ls : LS os tl e A V W g m gs ps ok) (hp : ∀ p ∈ ps, p.1 ∈ L ∧ p.2 ∈ L) :
    ∃ os' g' S' ok', callN T (n + 1) "_law_solve" [.ref (e + 1)] (.arena os :: tl) = .ok (.d (.bool ok')) (.arena os' :: tl.set e (lsC A V W m ok')) ∧ LS os' (tl.set e (lsC A V W m ok')) e A V W g' m gs [] ok' ∧ FL L g' S' ∧ Bh S S' ∧
      (ok' = true → ∀ θ, (ok = true ∧ Sols θ S ∧ ∀ p ∈ ps, p.1.sub θ = p.2.sub θ) ↔ Sols θ S') ∧ (ok' = false → ∀ θ, ¬ (ok = true ∧ Sols θ S ∧ ∀ p ∈ ps, p.1.sub θ = p.2.sub θ)) := by
  have key : ∀ P : Val → Store → Prop, (∀ os' g' S' ok', LS os' (tl.set e (lsC A V W m ok')) e A V W g' m gs [] ok' → Sv0 L S (fun θ => ok = true ∧ Sols θ S ∧ ∀ p ∈ ps, p.1.sub θ = p.2.sub θ) ps.length g' S' [] ok' → P (.d (.bool ok')) (.arena os' :: tl.set e (lsC A V W m ok'))) → @Wp _ (callN T (n + 1) "_law_solve" [.ref (e + 1)] (.arena os :: tl)) ⟨P⟩ := by
    intro P hP
    have hlen := ls.len
    rw [callN_run T_f_law_solve]
    simp [f_law_solve]
    refine wp_whileW lexN_wf (SlI L S (fun θ => ok = true ∧ Sols θ S ∧ ∀ p ∈ ps, p.1.sub θ = p.2.sub θ) ps.length tl e A V W m gs) (fun μ σ s i => sol_turn cl h60 hL hr hn hfr i fun os' g' S' ok' x1 x2 x3 ls' sv' => ?_) (cnt S L, szB S ps) _ _ ⟨os, g, S, ps, ok, none, none, none, rfl, by rw [hlen], by rw [hlen]; exact ls, .start cl f hp (fun h θ => ⟨fun q => q.2, fun q => ⟨h, q⟩⟩) (fun h θ q => by rw [h] at q; cases q.1), rfl⟩
    have i4 := ls'.ix4
    have htk : (Cell.arena os' :: tl.set e (lsC A V W m ok')).take (tl.length + 1) = .arena os' :: tl.set e (lsC A V W m ok') := List.take_of_length_le (by simp)
    have := hP os' g' S' ok' ls' sv'
    simp [i4, leave, htk]
    exact this
  obtain ⟨v, s, q, os', g', S', ok', rfl, rfl, ls', sv'⟩ := wp_iff.mp (key (fun v s => ∃ os' g' S' ok', v = .d (.bool ok') ∧ s = .arena os' :: tl.set e (lsC A V W m ok') ∧ LS os' (tl.set e (lsC A V W m ok')) e A V W g' m gs [] ok' ∧ Sv0 L S (fun θ => ok = true ∧ Sols θ S ∧ ∀ p ∈ ps, p.1.sub θ = p.2.sub θ) ps.length g' S' [] ok') fun os' g' S' ok' h1 h2 => ⟨os', g', S', ok', rfl, rfl, h1, h2⟩)
  refine ⟨os', g', S', ok', q, ls', sv'.fl, sv'.bh, fun h θ => ?_, fun h θ => sv'.no h θ⟩
  rw [sv'.yes h θ]
  exact ⟨fun q => q.1, fun q => ⟨q, fun p hp => by cases hp⟩⟩
end Prog

namespace Prog
open Ir
section
variable {os : List Obj} {tl : Store} {a b : Nat} {g : G} {m : Int} {L : List Kd} {S : Int → Kd}
theorem hold_turn {n : Nat} {p : Kd × Kd} {s s' : Store} {x1 : Option Val} {ok : Bool} (mu : methOk s (.d (.oid a)) "Solver" "unite" = true) (e : callN T n "Solver.unite" [.d (.oid a), .d p.1.d, .d p.2.d] s = .ok (.d (.bool ok)) s') :
    compStep (eval (callN T n) f_Solver_hold_c0) (conds (callN T n) []) (.tup [.name 2, .name 3]) [some (.d (.oid a)), x1, none, none] (pd p) s = .ok (some (.bool ok)) s' := by
  simp [compStep, Tg.put, Tg.puts, pd, f_Solver_hold_c0, mu, e, asD]
/-- what comes of rows -/
structure HoldR (L : List Kd) (S : Int → Kd) (ps : List (Kd × Kd)) (ok : Bool) (g' : G) (S' : Int → Kd) : Prop where
  fl : FL L g' S'
  bh : Bh S S'
  yes : ok = true → ∀ f, (Sols f S ∧ ∀ p ∈ ps, p.1.sub f = p.2.sub f) ↔ Sols f S'
  no : ok = false → ∀ f, Sols f S → ¬ ∀ p ∈ ps, p.1.sub f = p.2.sub f
theorem hold_pairs (cl : Cl L) (h60 : NB L ≤ 60) (hL : L.length < 100000) {n : Nat} (hn : 2 * NB L + 4 ≤ n) {x1 : Option Val} : ∀ (ps : List (Kd × Kd)) (os : List Obj) (g : G) (S : Int → Kd), FL L g S → SlvAt os a b g m → (∀ p ∈ ps, p.1 ∈ L ∧ p.2 ∈ L) →
    ∃ (bs : List Bool) (g' : G) (S' : Int → Kd), compL (compStep (eval (callN T n) f_Solver_hold_c0) (conds (callN T n) []) (.tup [.name 2, .name 3]) [some (.d (.oid a)), x1, none, none]) (ps.map pd) (.arena os :: tl) = .ok (bs.map D.bool) (.arena (os.set b (.dic (dF g'))) :: tl) ∧ HoldR L S ps (bs.all id) g' S'
  | [], os, g, S, f, h, _ => ⟨[], g, S, by simp [compL, set_noop h.bd], f, .refl S, fun _ θ => by simp, fun q => by simp at q⟩
  | p :: ps, os, g, S, f, h, hp => by
    obtain ⟨p1, p2⟩ := hp p (by simp)
    obtain ⟨ok, g1, S1, e1, r1⟩ := sv_unite (tl := tl) cl h60 hL hn f h p1 p2
    have h1 := h.put g1
    obtain ⟨bs, g2, S2, e2, f2, b2, y2, n2⟩ := hold_pairs cl h60 hL hn (x1 := x1) ps (os.set b (.dic (dF g1))) g1 S1 r1.fl h1 (fun q hq => hp q (by simp [hq]))
    rw [List.set_set] at e2
    have et := hold_turn (x1 := x1) (h.meth (tl := tl) "unite" (by decide)) e1
    refine ⟨ok :: bs, g2, S2, ?_, f2, r1.bh.trans b2, fun hall θ => ?_, fun hall θ s q => ?_⟩
    · simp only [List.map_cons, compL, et, Res.bind_ok, e2]
    · simp only [List.all_cons, id, Bool.and_eq_true] at hall
      rw [← y2 hall.2 θ]
      constructor
      · rintro ⟨s, q⟩
        exact ⟨r1.yes hall.1 θ s (q p (by simp)), fun r hr => q r (by simp [hr])⟩
      · rintro ⟨s, q⟩
        refine ⟨r1.bh θ s, fun r hr => ?_⟩
        rcases List.mem_cons.mp hr with rfl | hr
        · exact r1.eq hall.1 θ s
        · exact q r hr
    · cases hok : ok with
      | false => exact r1.no hok θ s (q p (by simp))
      | true =>
        have : bs.all id = false := by
          simp only [List.all_cons, id, hok, Bool.true_and] at hall
          exact hall
        exact n2 this θ (r1.yes hok θ s (q p (by simp))) fun r hr => q r (by simp [hr])
theorem sv_hold (cl : Cl L) (h60 : NB L ≤ 60) (hL : L.length < 100000) {n : Nat} (hn : 2 * NB L + 5 ≤ n) (f : FL L g S) (h : SlvAt os a b g m) {ps : List (Kd × Kd)} (hp : ∀ p ∈ ps, p.1 ∈ L ∧ p.2 ∈ L) :
    ∃ ok g' S', callN T n "Solver.hold" [.d (.oid a), .d (.lst (ps.map pd))] (.arena os :: tl) = .ok (.d (.bool ok)) (.arena (os.set b (.dic (dF g'))) :: tl) ∧ HoldR L S ps ok g' S' := by
  obtain ⟨n, rfl⟩ : ∃ n', n = n' + 1 := ⟨n - 1, by omega⟩
  obtain ⟨bs, g', S', e, r⟩ := hold_pairs (tl := tl) cl h60 hL (n := n) (by omega) (x1 := some (.d (.lst (ps.map pd)))) ps os g S f h hp
  refine ⟨bs.all id, g', S', ?_, r⟩
  have hall : ∀ st, bltV .all [.d (.lst (bs.map D.bool))] st = .ok (.d (.bool (bs.all id))) st := fun st => by simp [bltV, bltD, derefs, deref, D.blt, sv_all bs]
  have htk : (Cell.arena (os.set b (.dic (dF g'))) :: tl).take (tl.length + 1) = .arena (os.set b (.dic (dF g'))) :: tl := List.take_of_length_le (by simp)
  generalize Cell.arena (os.set b (.dic (dF g'))) :: tl = s2 at *
  generalize bs.map D.bool = bd at *
  generalize ps.map pd = zs at *
  apply eq_of_wp
  rw [callN_run T_f_Solver_hold]
  simp [f_Solver_hold, runFn, asD, D.seq, Tg.slots, Tg.slotss, wipe, e, hall, leave, htk]
theorem fill_item {C : Calls} {s : Store} {x1 : Option Val} {k r : Kd} (mf : methOk s (.d (.oid a)) "Solver" "filled" = true) (e : C "Solver.filled" [.d (.oid a), .d k.d] s = .ok (.d r.d) s) :
    compStep (eval C f_Solver_filled_c0) (conds C []) (.name 2) [some (.d (.oid a)), x1, none] k.d s = .ok (some r.d) s := by
  have hi : isiV [.tuple] k.d = some (.bool true) := by rw [Kd.d_eq]; simp [isiV, D.tyOk]
  generalize k.d = kd at *
  simp [compStep, Tg.put, f_Solver_filled_c0, deref, hi, asB, mf, e, asD]
theorem fill_head {C : Calls} {s : Store} {x1 : Option Val} (z : String) :
    compStep (eval C f_Solver_filled_c0) (conds C []) (.name 2) [some (.d (.oid a)), x1, none] (.str z) s = .ok (some (.str z)) s := by
  simp [compStep, Tg.put, f_Solver_filled_c0, deref, asB, asD, D.tyOk]
theorem nv_d {u : Kd} (h : u.nv) : u.d = .tup (.str u.head :: u.kids.map Kd.d) := by
  cases u <;> simp [Kd.d, Kd.head, Kd.kids]
  exact h
theorem nv_sub {u : Kd} (h : u.nv) (S : Int → Kd) : (u.sub S).d = .tup (.str u.head :: u.kids.map fun c => (c.sub S).d) := by
  cases u with
  | free i => exact h.elim
  | _ => simp [Kd.d, Kd.head, Kd.kids, Kd.sub]
theorem sv_filled (cl : Cl L) (f : FL L g S) (h : SlvAt os a b g m) : ∀ (n : Nat) (one : Kd), one ∈ L → (one.sub S).h + 2 ≤ n →
    callN T n "Solver.filled" [.d (.oid a), .d one.d] (.arena os :: tl) = .ok (.d (one.sub S).d) (.arena os :: tl) := by
  intro n
  induction n with
  | zero => intro one _ hh; omega
  | succ n ih =>
    intro one ho hh
    obtain ⟨u, hu, eu, hv, e⟩ := sv_seen (tl := tl) f h ho (n := n) (by omega)
    have mk := h.meth (tl := tl) "seen" (by decide)
    have mf := h.meth (tl := tl) "filled" (by decide)
    rw [← eu] at hh ⊢
    have i0 := kd_ix0 u
    rcases hv with hnv | ⟨i, rfl, hi⟩
    · have fc := nv_c hnv
      have ec : compL (compStep (eval (callN T n) f_Solver_filled_c0) (conds (callN T n) []) (.name 2) [some (.d (.oid a)), some (.d u.d), none]) (.str u.head :: u.kids.map Kd.d) (.arena os :: tl) = .ok (.str u.head :: u.kids.map fun c => (c.sub S).d) (.arena os :: tl) := by
        have e2 := comp_const (f := compStep (eval (callN T n) f_Solver_filled_c0) (conds (callN T n) []) (.name 2) [some (.d (.oid a)), some (.d u.d), none]) (st := .arena os :: tl) Kd.d (fun c => (c.sub S).d) u.kids (fun c hc => fill_item mf (ih c (cl u hu c hc) (by have := kid_lt (kid_sub S hc); omega)))
        simp only [compL, fill_head, Res.bind_ok, e2]
      rw [nv_sub hnv]
      have hseq : u.d.seq = some (.str u.head :: u.kids.map Kd.d) := by rw [nv_d hnv]; rfl
      have hbt : ∀ xs st, bltV .tuple [.d (.lst xs)] st = .ok (.d (.tup xs)) st := fun xs st => by simp [bltV, bltD, derefs, deref, D.blt, D.bTuple]
      generalize (D.str u.head :: u.kids.map fun c => (c.sub S).d) = rl at *
      generalize (D.str u.head :: u.kids.map Kd.d) = ul at *
      generalize u.d = ud at *
      apply eq_of_wp
      rw [callN_run T_f_Solver_filled]
      simp [f_Solver_filled, runFn, mk, e, Tg.putV, ivdS, i0, fc, asB, asD, hseq, Tg.slots, wipe, ec, hbt, leave]
    · have fc := free_c i
      have : (Kd.free i).sub S = .free i := hi
      rw [this]
      generalize (Kd.free i).d = ud at *
      apply eq_of_wp
      rw [callN_run T_f_Solver_filled]
      simp [f_Solver_filled, runFn, mk, e, Tg.putV, ivdS, i0, fc, asB, leave]
theorem sv_fresh (h : SlvAt os a b g m) {n : Nat} : callN T (n + 1) "Solver.fresh" [.d (.oid a)] (.arena os :: tl) = .ok (.d (Kd.free m).d) (.arena (os.set a (svO b (m + 1))) :: tl) := by
  have hm := h.fldm (tl := tl)
  have ha := (List.getElem?_eq_some_iff.mp h.sv).1
  have hs : setFV (.arena os :: tl) (.d (.oid a)) "Solver" "many" (.int (m + 1)) = some (.arena (os.set a (svO b (m + 1))) :: tl) := by
    rw [set_ar h.sv (by simp)]
    simp [putFd]
  have hm2 : fldV (.arena (os.set a (svO b (m + 1))) :: tl) (.d (.oid a)) "Solver" "many" = some (.int (m + 1)) := fld_ar (c := "Solver") (fs := [("bound", .oid b), ("many", .int (m + 1))]) (by simp [ha]) rfl
  have htk : (Cell.arena (os.set a (svO b (m + 1))) :: tl).take (tl.length + 1) = .arena (os.set a (svO b (m + 1))) :: tl := List.take_of_length_le (by simp)
  have hd : (Kd.free m).d = .tup [.str "free", .int (m + 1 - 1)] := by simp [Kd.d]
  rw [hd]
  generalize Cell.arena (os.set a (svO b (m + 1))) :: tl = s2 at *
  apply eq_of_wp
  rw [callN_run T_f_Solver_fresh]
  simp [f_Solver_fresh, runFn, hm, asI, augI, hs, hm2, deref, D.bin, asDs, leave, htk, asD]
theorem SlvAt.fresh (h : SlvAt os a b g m) : SlvAt (os.set a (svO b (m + 1))) a b g (m + 1) := by
  have ha := (List.getElem?_eq_some_iff.mp h.sv).1
  exact ⟨by simp [ha], by rw [List.getElem?_set_ne h.ne]; exact h.bd⟩
end
end Prog

namespace Prog
open Ir
/-! ### typings -/
/-- what a word's rule makes alike: its kind, its parts' kinds, a new one -/
def rowsK (h : String) (k : Kd) (ps : List Kd) (nw : Kd) : List (Kd × Kd) :=
  match ps with
  | [] => if h = "num" then [(k, .int)] else if h = "truth" then [(k, .bool)] else if h = "nil" then [(k, .list nw)] else []
  | [p] => if h = "first" then [(p, .pair k nw)] else if h = "second" then [(p, .pair nw k)] else if h = "head" then [(p, .list k)] else if h = "tail" then [(k, .list nw), (p, k)] else if h = "none" then [(k, .bool), (p, .list nw)] else []
  | [p, q] => if h = "call" then [(p, .fn q k)] else if h = "plus" then [(k, .int), (p, .int), (q, .int)] else if h = "less" then [(k, .bool), (p, .int), (q, .int)] else if h = "pair" then [(k, .pair p q)] else if h = "cons" then [(k, .list p), (q, k)] else []
  | [p, q, r] => if h = "if" then [(p, .bool), (q, k), (r, k)] else []
  | _ => []
/-- a rule holds -/
def Hk (h : String) (v : Kd) (ts : List Kd) : Prop := ∃ w, ∀ p ∈ rowsK h v ts w, p.1 = p.2
/-- the kinds that names have -/
abbrev Rh := String → Kd → Prop
def setR (ρ : Rh) (x : String) (P : Kd → Prop) : Rh := fun y v => if y = x then P v else ρ y v
def isK (a : Kd) : Kd → Prop := fun v => v = a
/-- a typing: the kinds of all places, the kind of the part itself -/
def Pg.ty : Pg → Rh → Bool → List Kd → Kd → Prop
  | .off p, ρ, _, gs, v => p.ty ρ true gs v
  | .num _, _, o, gs, v => gs = [v] ∧ (o = false → Hk "num" v [])
  | .truth _, _, o, gs, v => gs = [v] ∧ (o = false → Hk "truth" v [])
  | .nil, _, o, gs, v => gs = [v] ∧ (o = false → Hk "nil" v [])
  | .name x, ρ, o, gs, v => gs = [v] ∧ (o = false → ρ x v)
  | .one h xs p, ρ, o, gs, v =>
    if h = "fn" then ∃ g t a, gs = v :: g ∧ p.ty (setR ρ (xs.getD 0 "") (isK a)) false g t ∧ (o = false → v = .fn a t)
    else if h = "rec" then ∃ g t a c, gs = v :: g ∧ p.ty (setR (setR ρ (xs.getD 0 "") (isK c)) (xs.getD 1 "") (isK a)) false g t ∧ (o = false → v = .fn a t ∧ c = v)
    else ∃ g t, gs = v :: g ∧ p.ty ρ false g t ∧ (o = false → Hk h v [t])
  | .two h xs p q, ρ, o, gs, v =>
    if h = "let" then ∃ g1 t1 g2 t2, gs = v :: (g1 ++ g2) ∧ p.ty ρ false g1 t1 ∧ q.ty (setR ρ (xs.getD 0 "") (if o = true then fun _ => True else fun u => ∃ g, p.ty ρ false g u)) false g2 t2 ∧ (o = false → v = t2)
    else ∃ g1 t1 g2 t2, gs = v :: (g1 ++ g2) ∧ p.ty ρ false g1 t1 ∧ q.ty ρ false g2 t2 ∧ (o = false → Hk h v [t1, t2])
  | .thr h xs p q r, ρ, o, gs, v => ∃ g1 t1 g2 t2 g3 t3, gs = v :: (g1 ++ (g2 ++ g3)) ∧ p.ty ρ false g1 t1 ∧ q.ty ρ false g2 t2 ∧ r.ty ρ false g3 t3 ∧ (o = false → Hk h v [t1, t2, t3])
def Pg.prt : Pg → List Pg
  | .one _ _ p => [p]
  | .two _ _ p q => [p, q]
  | .thr _ _ p q r => [p, q, r]
  | _ => []
def Pg.wd : Pg → String
  | .num _ => "num" | .truth _ => "truth" | .name _ => "name" | .nil => "nil" | .off _ => "off"
  | .one h _ _ | .two h _ _ _ | .thr h _ _ _ _ => h
def tyL (ρ : Rh) : List Pg → List Kd → List Kd → Prop
  | [], gs, ts => gs = [] ∧ ts = []
  | p :: ps, gs, ts => ∃ g1 t1 g2 ts2, gs = g1 ++ g2 ∧ ts = t1 :: ts2 ∧ p.ty ρ false g1 t1 ∧ tyL ρ ps g2 ts2
/-- a word with a rule of its own -/
def Pg.plainW (p : Pg) : Prop := p.wd ≠ "name" ∧ p.wd ≠ "fn" ∧ p.wd ≠ "rec" ∧ p.wd ≠ "let" ∧ p.wd ≠ "off"
theorem ty_node {p : Pg} (h : p.plainW) (ρ : Rh) (o : Bool) (gs : List Kd) (v : Kd) : p.ty ρ o gs v ↔ ∃ g ts, gs = v :: g ∧ tyL ρ p.prt g ts ∧ (o = false → Hk p.wd v ts) := by
  obtain ⟨h1, h2, h3, h4, h5⟩ := h
  cases p with
  | off p => exact absurd rfl h5
  | name x => exact absurd rfl h1
  | num i => exact ⟨fun ⟨a, b⟩ => ⟨[], [], a, ⟨rfl, rfl⟩, b⟩, fun ⟨g, ts, a, ⟨b, c⟩, d⟩ => by subst b c; exact ⟨a, d⟩⟩
  | truth i => exact ⟨fun ⟨a, b⟩ => ⟨[], [], a, ⟨rfl, rfl⟩, b⟩, fun ⟨g, ts, a, ⟨b, c⟩, d⟩ => by subst b c; exact ⟨a, d⟩⟩
  | nil => exact ⟨fun ⟨a, b⟩ => ⟨[], [], a, ⟨rfl, rfl⟩, b⟩, fun ⟨g, ts, a, ⟨b, c⟩, d⟩ => by subst b c; exact ⟨a, d⟩⟩
  | one w xs p =>
    simp only [Pg.wd] at h2 h3
    simp only [Pg.ty, if_neg h2, if_neg h3, Pg.prt, tyL, Pg.wd]
    constructor
    · rintro ⟨g, t, rfl, h, k⟩
      exact ⟨g, [t], rfl, ⟨g, t, [], [], by simp, rfl, h, rfl, rfl⟩, k⟩
    · rintro ⟨g, ts, rfl, ⟨g1, t1, g2, ts2, rfl, rfl, h, rfl, rfl⟩, k⟩
      exact ⟨g1, t1, by simp, h, k⟩
  | two w xs p q =>
    simp only [Pg.wd] at h4
    simp only [Pg.ty, if_neg h4, Pg.prt, tyL, Pg.wd]
    constructor
    · rintro ⟨g1, t1, g2, t2, rfl, h, h', k⟩
      exact ⟨g1 ++ g2, [t1, t2], rfl, ⟨g1, t1, g2, [t2], rfl, rfl, h, g2, t2, [], [], by simp, rfl, h', rfl, rfl⟩, k⟩
    · rintro ⟨g, ts, rfl, ⟨g1, t1, g2, ts2, rfl, rfl, h, g3, t3, g4, ts4, rfl, rfl, h', rfl, rfl⟩, k⟩
      exact ⟨g1, t1, g3, t3, by simp, h, h', k⟩
  | thr w xs p q r =>
    simp only [Pg.ty, Pg.prt, tyL, Pg.wd]
    constructor
    · rintro ⟨g1, t1, g2, t2, g3, t3, rfl, h, h', h'', k⟩
      exact ⟨g1 ++ (g2 ++ g3), [t1, t2, t3], rfl, ⟨g1, t1, g2 ++ g3, [t2, t3], rfl, rfl, h, g2, t2, g3, [t3], rfl, rfl, h', g3, t3, [], [], by simp, rfl, h'', rfl, rfl⟩, k⟩
    · rintro ⟨g, ts, rfl, ⟨g1, t1, g2, ts2, rfl, rfl, h, g3, t3, g4, ts4, rfl, rfl, h', g5, t5, g6, ts6, rfl, rfl, h'', rfl, rfl⟩, k⟩
      exact ⟨g1, t1, g3, t3, g5, t5, by simp, h, h', h'', k⟩
def subP (f : Int → Kd) (p : Kd × Kd) : Kd × Kd := (p.1.sub f, p.2.sub f)
theorem rowsK_sub (f : Int → Kd) (h : String) (k : Kd) (ps : List Kd) (nw : Kd) : (rowsK h k ps nw).map (subP f) = rowsK h (k.sub f) (ps.map (Kd.sub f)) (nw.sub f) := by
  match ps with
  | [] => simp only [rowsK, List.map_nil]; (repeat' split) <;> simp_all [subP, Kd.sub]
  | [p] => simp only [rowsK, List.map_nil, List.map_cons]; (repeat' split) <;> simp_all [subP, Kd.sub]
  | [p, q] => simp only [rowsK, List.map_nil, List.map_cons]; (repeat' split) <;> simp_all [subP, Kd.sub]
  | [p, q, r] => simp only [rowsK, List.map_nil, List.map_cons]; (repeat' split) <;> simp_all [subP, Kd.sub]
  | _ :: _ :: _ :: _ :: _ => rfl
theorem Hk_of {f : Int → Kd} {h : String} {k : Kd} {ps : List Kd} {nw : Kd} (q : ∀ p ∈ rowsK h k ps nw, p.1.sub f = p.2.sub f) : Hk h (k.sub f) (ps.map (Kd.sub f)) := by
  refine ⟨nw.sub f, fun p hp => ?_⟩
  rw [← rowsK_sub] at hp
  obtain ⟨r, hr, rfl⟩ := List.mem_map.mp hp
  exact q r hr
end Prog

namespace Prog
open Ir
/-! ### the finder: its object, what it has given -/
abbrev fdO (a gv : Nat) (good : Bool) : Obj := .inst "Finder" [("solver", .oid a), ("given", .oid gv), ("good", .bool good)]
structure Fd (os : List Obj) (F a b gv : Nat) (g : G) (m : Int) (gs : List Kd) (good : Bool) : Prop where
  fd : os[F]? = some (fdO a gv good)
  sv : SlvAt os a b g m
  gl : os[gv]? = some (.lst (gs.map Kd.d))
structure Same4 (os os' : List Obj) (F a b gv : Nat) : Prop where
  len : os'.length = os.length
  eq : ∀ i, i ≠ F → i ≠ a → i ≠ b → i ≠ gv → os'[i]? = os[i]?
theorem Same4.refl (os : List Obj) (F a b gv : Nat) : Same4 os os F a b gv := ⟨rfl, fun _ _ _ _ _ => rfl⟩
theorem Same4.trans {o1 o2 o3 : List Obj} {F a b gv : Nat} (h : Same4 o1 o2 F a b gv) (k : Same4 o2 o3 F a b gv) : Same4 o1 o3 F a b gv :=
  ⟨k.len.trans h.len, fun i h1 h2 h3 h4 => (k.eq i h1 h2 h3 h4).trans (h.eq i h1 h2 h3 h4)⟩
theorem Same4.set {os : List Obj} {F a b gv i : Nat} (o : Obj) (h : i = F ∨ i = a ∨ i = b ∨ i = gv) : Same4 os (os.set i o) F a b gv :=
  ⟨by simp, fun j h1 h2 h3 h4 => List.getElem?_set_ne fun e => by subst e; rcases h with h | h | h | h <;> contradiction⟩
section
variable {os : List Obj} {tl : Store} {F a b gv : Nat} {g : G} {m : Int} {gs : List Kd} {good : Bool}
theorem gne {os : List Obj} {i j : Nat} {x y : Obj} (h : os[i]? = some x) (k : os[j]? = some y) (n : x ≠ y) : i ≠ j := fun e => by
  rw [e, k] at h
  cases h
  exact n rfl
theorem Fd.Fa (h : Fd os F a b gv g m gs good) : F ≠ a := gne h.fd h.sv.sv (by simp [fdO, svO])
theorem Fd.Fb (h : Fd os F a b gv g m gs good) : F ≠ b := gne h.fd h.sv.bd (by simp)
theorem Fd.Fg (h : Fd os F a b gv g m gs good) : F ≠ gv := gne h.fd h.gl (by simp)
theorem Fd.ag (h : Fd os F a b gv g m gs good) : a ≠ gv := gne h.sv.sv h.gl (by simp)
theorem Fd.bg (h : Fd os F a b gv g m gs good) : b ≠ gv := gne h.sv.bd h.gl (by simp)
theorem sgt {os : List Obj} {i j : Nat} {x y : Obj} (h : os[i]? = some x) (n : j ≠ i) : (os.set j y)[i]? = some x := by rw [List.getElem?_set_ne n]; exact h
theorem sgs {os : List Obj} {i : Nat} {x y : Obj} (h : os[i]? = some x) : (os.set i y)[i]? = some y := by
  have := (List.getElem?_eq_some_iff.mp h).1
  simp [this]
theorem Fd.fresh (h : Fd os F a b gv g m gs good) : Fd (os.set a (svO b (m + 1))) F a b gv g (m + 1) gs good :=
  ⟨sgt h.fd h.Fa.symm, h.sv.fresh, sgt h.gl h.ag⟩
theorem Fd.give (h : Fd os F a b gv g m gs good) (k : Kd) : Fd (os.set gv (.lst (gs.map Kd.d ++ [k.d]))) F a b gv g m (gs ++ [k]) good :=
  ⟨sgt h.fd h.Fg.symm, ⟨sgt h.sv.sv h.ag.symm, sgt h.sv.bd h.bg.symm⟩, by rw [sgs h.gl]; simp⟩
theorem Fd.put (h : Fd os F a b gv g m gs good) (g' : G) : Fd (os.set b (.dic (dF g'))) F a b gv g' m gs good :=
  ⟨sgt h.fd h.Fb.symm, h.sv.put g', sgt h.gl h.bg⟩
theorem Fd.bad (h : Fd os F a b gv g m gs good) : Fd (os.set F (fdO a gv false)) F a b gv g m gs false :=
  ⟨sgs h.fd, ⟨sgt h.sv.sv h.Fa, sgt h.sv.bd h.Fb⟩, sgt h.gl h.Fg⟩
theorem Fd.fs (h : Fd os F a b gv g m gs good) : fldV (.arena os :: tl) (.d (.oid F)) "Finder" "solver" = some (.oid a) := fld_ar h.fd rfl
theorem Fd.fg (h : Fd os F a b gv g m gs good) : fldV (.arena os :: tl) (.d (.oid F)) "Finder" "given" = some (.oid gv) := fld_ar h.fd rfl
theorem Fd.fgood (h : Fd os F a b gv g m gs good) : fldV (.arena os :: tl) (.d (.oid F)) "Finder" "good" = some (.bool good) := fld_ar h.fd rfl
theorem Fd.app (h : Fd os F a b gv g m gs good) (k : Kd) (hl : gs.length < 100000) : omOk (.arena os :: tl) (.d (.oid gv)) = true ∧ omV .append (.arena os :: tl) (.d (.oid gv)) [.d k.d] = .ok (.d .non) (.arena (os.set gv (.lst (gs.map Kd.d ++ [k.d]))) :: tl) := by
  constructor
  · simp only [omOk, getO_ar, h.gl, Option.map_some]
  · simp only [omV, getO_ar, h.gl, Option.map_some, putO_ar, List.length_map]
    rw [if_pos (by rw [LIM_eq]; omega)]
theorem Fd.setBad (h : Fd os F a b gv g m gs good) : setFV (.arena os :: tl) (.d (.oid F)) "Finder" "good" (.bool false) = some (.arena (os.set F (fdO a gv false)) :: tl) := by
  rw [set_ar h.fd (by simp)]
  simp [putFd]
theorem Fd.meth (h : Fd os F a b gv g m gs good) (mm : String) (hm : lookF mm [("solver", .non), ("given", .non), ("good", .non)] = none) : methOk (.arena os :: tl) (.d (.oid F)) "Finder" mm = true := by
  refine meth_ar h.fd ?_
  by_cases h1 : mm = "solver"
  · simp [lookF, h1] at hm
  by_cases h2 : mm = "given"
  · simp [lookF, h2] at hm
  by_cases h3 : mm = "good"
  · simp [lookF, h3] at hm
  simp [lookF, h1, h2, h3]
end
/-! ### what is known of a state -/
structure SS (L : List Kd) (g : G) (S : Int → Kd) (m : Int) : Prop where
  cl : Cl L
  fl : FL L g S
  low : ∀ i, .free i ∈ L → 0 ≤ i ∧ i < m
theorem Cl.one (i : Int) : Cl [.free i] := fun u hu c hc => by rw [List.mem_singleton.mp hu] at hc; cases hc
theorem SS.fresh {L : List Kd} {g : G} {S : Int → Kd} {m : Int} (h : SS L g S m) (h0 : 0 ≤ m) : SS (L ++ [.free m]) g S (m + 1) :=
  ⟨h.cl.app (.one m), h.fl.grow h.cl, fun i hi => by
    rcases List.mem_append.mp hi with hi | hi
    · have := h.low i hi; omega
    · simp at hi; omega⟩
theorem SS.grow {L M : List Kd} {g : G} {S : Int → Kd} {m : Int} (h : SS L g S m) (hM : ∀ u ∈ M, ∀ c ∈ u.kids, c ∈ L ++ M) (hF : ∀ i, .free i ∈ M → 0 ≤ i ∧ i < m) : SS (L ++ M) g S m :=
  ⟨fun u hu c hc => by
    rcases List.mem_append.mp hu with hu | hu
    · exact List.mem_append_left _ (h.cl u hu c hc)
    · exact hM u hu c hc, h.fl.grow h.cl, fun i hi => by
    rcases List.mem_append.mp hi with hi | hi
    · exact h.low i hi
    · exact hF i hi⟩
/-- solutions that are alike below m are alike -/
theorem SS.sols {L : List Kd} {g : G} {S : Int → Kd} {m : Int} (h : SS L g S m) {f f' : Int → Kd} (s : Sols f S) (e : ∀ i, i < m → f' i = f i) : Sols f' S := fun i => by
  obtain ⟨rk, fs⟩ := h.fl.fs
  cases hl : g.lookup i with
  | none => rw [(fs.free i).mp hl]; rfl
  | some t =>
    have hi := h.fl.key i (by rw [hl]; simp)
    rw [e i (h.low i hi).2, ← s i]
    exact Kd.sub_congr _ fun j hj => e j (h.low j (fs.us.vars i j hi hj)).2
theorem SS.subs {L : List Kd} {g : G} {S : Int → Kd} {m : Int} (h : SS L g S m) {u : Kd} (hu : u ∈ L) {f f' : Int → Kd} (e : ∀ i, i < m → f' i = f i) : u.sub f' = u.sub f :=
  Kd.sub_congr _ fun j hj => e j (h.low j (h.cl.free u hu j hj)).2
/-- what a visit comes to -/
structure Vis (tp : (Int → Kd) → List Kd → Kd → Prop) (L : List Kd) (S : Int → Kd) (m : Int) (sz : Nat) (L' : List Kd) (g' : G) (S' : Int → Kd) (m' : Int) (gs' : List Kd) (good' : Bool) (k : Int) : Prop where
  ss : SS L' g' S' m'
  sub : ∀ u ∈ L, u ∈ L'
  kL : .free k ∈ L'
  gL : ∀ u ∈ gs', u ∈ L'
  nb : NB L' ≤ NB L + sz
  ln : L'.length ≤ L.length + 10 * sz
  bh : Bh S S'
  mm : m ≤ m'
  len : gs'.length = sz
  sound : good' = true → ∀ f, Sols f S' → tp f (gs'.map (Kd.sub f)) (f k)
  comp : ∀ f, Sols f S → ∀ gvs v, tp f gvs v → good' = true ∧ ∃ f', Sols f' S' ∧ (∀ i, i < m → f' i = f i) ∧ gs'.map (Kd.sub f') = gvs ∧ f' k = v
def VOk (N F a b gv : Nat) (n : Nat) (tl : Store) (nm : Val) (ar : D) (E : List Kd → Int → Prop) (p : Pg) (tp : (Int → Kd) → List Kd → Kd → Prop) : Prop :=
  ∀ (os : List Obj) (g : G) (m : Int) (gs : List Kd) (good : Bool) (L : List Kd) (S : Int → Kd), Fd os F a b gv g m gs good → SS L g S m → 0 ≤ m → E L m → NB L + p.pl ≤ N → L.length + 10 * p.pl ≤ 90000 → gs.length + p.pl ≤ 1000 →
    ∃ os' g' m' gs' good' L' S' k, callN T n "Finder.visit" [.d (.oid F), .d p.d, nm, .d ar] (.arena os :: tl) = .ok (.d (Kd.free k).d) (.arena os' :: tl) ∧ Fd os' F a b gv g' m' (gs ++ gs') (good && good') ∧ Same4 os os' F a b gv ∧ Vis tp L S m p.pl L' g' S' m' gs' good' k
/-- parts, one by one -/
def tyLf (tp : Pg → (Int → Kd) → List Kd → Kd → Prop) (f : Int → Kd) : List Pg → List Kd → List Kd → Prop
  | [], gs, ts => gs = [] ∧ ts = []
  | p :: ps, gs, ts => ∃ g1 t1 g2 ts2, gs = g1 ++ g2 ∧ ts = t1 :: ts2 ∧ tp p f g1 t1 ∧ tyLf tp f ps g2 ts2
theorem tyLf_ty (ρ : Rh) (f : Int → Kd) : ∀ (ps : List Pg) (gs ts : List Kd), tyLf (fun p _ => p.ty ρ false) f ps gs ts ↔ tyL ρ ps gs ts
  | [], gs, ts => Iff.rfl
  | p :: ps, gs, ts => by
    simp only [tyLf, tyL, tyLf_ty ρ f ps]
def plL (ps : List Pg) : Nat := (ps.map Pg.pl).sum
structure KVis (tp : Pg → (Int → Kd) → List Kd → Kd → Prop) (ps : List Pg) (L : List Kd) (S : Int → Kd) (m : Int) (L' : List Kd) (g' : G) (S' : Int → Kd) (m' : Int) (gs' : List Kd) (good' : Bool) (ks : List Int) : Prop where
  ss : SS L' g' S' m'
  sub : ∀ u ∈ L, u ∈ L'
  kL : ∀ k ∈ ks, .free k ∈ L'
  gL : ∀ u ∈ gs', u ∈ L'
  nb : NB L' ≤ NB L + plL ps
  ln : L'.length ≤ L.length + 10 * plL ps
  bh : Bh S S'
  mm : m ≤ m'
  len : gs'.length = plL ps
  kl : ks.length = ps.length
  sound : good' = true → ∀ f, Sols f S' → tyLf tp f ps (gs'.map (Kd.sub f)) (ks.map f)
  comp : ∀ f, Sols f S → ∀ gvs ts, tyLf tp f ps gvs ts → good' = true ∧ ∃ f', Sols f' S' ∧ (∀ i, i < m → f' i = f i) ∧ gs'.map (Kd.sub f') = gvs ∧ ks.map f' = ts
theorem tyLf_congr {tp : Pg → (Int → Kd) → List Kd → Kd → Prop} {f f' : Int → Kd} : ∀ (ps : List Pg), (∀ p ∈ ps, ∀ gs v, tp p f gs v ↔ tp p f' gs v) → ∀ gs ts, tyLf tp f ps gs ts ↔ tyLf tp f' ps gs ts
  | [], _, _, _ => Iff.rfl
  | p :: ps, h, gs, ts => by
    have ih := tyLf_congr ps fun q hq => h q (by simp [hq])
    have h0 := h p (by simp)
    simp only [tyLf, h0, ih]
theorem kids_visit {N F a b gv n : Nat} {tl : Store} {nm : Val} {ar : D} {E : List Kd → Int → Prop} {tp : Pg → (Int → Kd) → List Kd → Kd → Prop} {x1 x4 x5 x6 x7 x8 : Option Val}
    (hE : ∀ L L' m m', (∀ u ∈ L, u ∈ L') → m ≤ m' → E L m → E L' m') : ∀ (ps : List Pg), (∀ p ∈ ps, VOk N F a b gv n tl nm ar E p (tp p)) →
    ∀ (os : List Obj) (g : G) (m : Int) (gs : List Kd) (good : Bool) (L : List Kd) (S : Int → Kd), Fd os F a b gv g m gs good → SS L g S m → 0 ≤ m → E L m → (∀ p ∈ ps, ∀ f f' : Int → Kd, (∀ i, i < m → f' i = f i) → ∀ gs v, tp p f gs v ↔ tp p f' gs v) → NB L + plL ps ≤ N → L.length + 10 * plL ps ≤ 90000 → gs.length + plL ps ≤ 1000 →
    ∃ os' g' m' gs' good' L' S' ks, compL (compStep (eval (callN T n) f_Finder_visit_c0) (conds (callN T n) []) (.name 9) [some (.d (.oid F)), x1, some nm, some (.d ar), x4, x5, x6, x7, x8, none]) (ps.map Pg.d) (.arena os :: tl) = .ok (ks.map fun k => (Kd.free k).d) (.arena os' :: tl) ∧ Fd os' F a b gv g' m' (gs ++ gs') (good && good') ∧ Same4 os os' F a b gv ∧ KVis tp ps L S m L' g' S' m' gs' good' ks
  | [], _, os, g, m, gs, good, L, S, fd, ss, hm, e, _, _, _, _ => ⟨os, g, m, [], true, L, S, [], by simp [compL], by simpa using fd, .refl _ _ _ _ _, ⟨ss, fun _ h => h, fun _ h => (by cases h), fun _ h => (by cases h), Nat.le_add_right _ _, Nat.le_add_right _ _, .refl S, Int.le_refl _, rfl, rfl, fun _ f _ => ⟨rfl, rfl⟩, fun f s gvs ts h => ⟨rfl, f, s, fun _ _ => rfl, h.1.symm, h.2.symm⟩⟩⟩
  | p :: ps, hv, os, g, m, gs, good, L, S, fd, ss, hm, e, hc, hnb, hln, hgs => by
    have hpl : plL (p :: ps) = p.pl + plL ps := by simp [plL]
    rw [hpl] at hnb hln hgs
    obtain ⟨os1, g1, m1, gs1, good1, L1, S1, k, e1, fd1, sm1, v1⟩ := hv p (by simp) os g m gs good L S fd ss hm e (by omega) (by omega) (by omega)
    have hm1 := v1.mm
    have hnb1 := v1.nb
    have hln1 := v1.ln
    have hl1 := v1.len
    obtain ⟨os2, g2, m2, gs2, good2, L2, S2, ks, e2, fd2, sm2, v2⟩ := kids_visit (x1 := x1) (x4 := x4) (x5 := x5) (x6 := x6) (x7 := x7) (x8 := x8) hE ps (fun q hq => hv q (by simp [hq])) os1 g1 m1 (gs ++ gs1) (good && good1) L1 S1 fd1 v1.ss (by omega) (hE L L1 m m1 v1.sub hm1 e) (fun q hq f f' h => hc q (by simp [hq]) f f' fun i hi => h i (by omega)) (by omega) (by omega) (by rw [List.length_append]; omega)
    have mk := fd.meth (tl := tl) "visit" (by decide)
    refine ⟨os2, g2, m2, gs1 ++ gs2, good1 && good2, L2, S2, k :: ks, ?_, ?_, sm1.trans sm2, ⟨v2.ss, fun u hu => v2.sub u (v1.sub u hu), fun j hj => ?_, fun u hu => ?_, ?_, ?_, v1.bh.trans v2.bh, Int.le_trans hm1 v2.mm, ?_, ?_, fun hg f s => ?_, fun f s gvs ts h => ?_⟩⟩
    · have : compStep (eval (callN T n) f_Finder_visit_c0) (conds (callN T n) []) (.name 9) [some (.d (.oid F)), x1, some nm, some (.d ar), x4, x5, x6, x7, x8, none] p.d (.arena os :: tl) = .ok (some (Kd.free k).d) (.arena os1 :: tl) := by
        generalize (Kd.free k).d = kd at *
        generalize p.d = pd at *
        simp [compStep, Tg.put, f_Finder_visit_c0, mk, e1, asD]
      simp only [List.map_cons, compL, this, Res.bind_ok, e2]
    · rw [← List.append_assoc, ← Bool.and_assoc]; exact fd2
    · rcases List.mem_cons.mp hj with rfl | hj
      · exact v2.sub _ v1.kL
      · exact v2.kL j hj
    · rcases List.mem_append.mp hu with hu | hu
      · exact v2.sub _ (v1.gL u hu)
      · exact v2.gL u hu
    · have := v2.nb; rw [hpl]; omega
    · have := v2.ln; rw [hpl]; omega
    · have := v2.len; rw [hpl, List.length_append]; omega
    · have := v2.kl; simp [this]
    · simp only [Bool.and_eq_true] at hg
      refine ⟨gs1.map (Kd.sub f), f k, gs2.map (Kd.sub f), ks.map f, by simp, by simp, v1.sound hg.1 f (v2.bh f s), v2.sound hg.2 f s⟩
    · obtain ⟨ga, ta, gb, tb, rfl, rfl, h1, h2⟩ := h
      obtain ⟨ok1, f1, s1, a1, b1, c1⟩ := v1.comp f s ga ta h1
      have hcc := tyLf_congr (tp := tp) (f := f) (f' := f1) ps (fun q hq gs v => hc q (by simp [hq]) f f1 a1 gs v)
      obtain ⟨ok2, f2, s2, a2, b2, c2⟩ := v2.comp f1 s1 gb tb ((hcc _ _).mp h2)
      refine ⟨by rw [ok1, ok2]; rfl, f2, s2, fun i hi => (a2 i (by omega)).trans (a1 i hi), ?_, ?_⟩
      · rw [List.map_append, b2, ← b1]
        congr 1
        exact List.map_congr_left fun u hu => v1.ss.subs (v1.gL u hu) a2
      · rw [List.map_cons, c2, ← c1, a2 k (v1.ss.low k v1.kL).2]
end Prog

namespace Prog
open Ir
/-! ### the parts of a program's part; the rules -/
theorem sl_pg (x : D) (ys : List D) : D.slice (.tup (x :: ys)) (some 1) none = some (.tup ys) := by
  simp [D.slice, cut, sIx]
theorem tup_pg (p : Pg) : isiV [.tuple] p.d = some (.bool true) := by
  rw [p.isi_d]; cases p <;> rfl
theorem inner_pgs {C : Calls} {st : Store} {x0 : Option Val} : ∀ (ps : List Pg), compL (compStep (eval C f_inner_c0) (conds C f_inner_k0) (.name 1) [x0, none]) (ps.map Pg.d) st = .ok (ps.map Pg.d) st
  | [] => rfl
  | p :: ps => by
    have h := tup_pg p
    have : compStep (eval C f_inner_c0) (conds C f_inner_k0) (.name 1) [x0, none] p.d st = .ok (some p.d) st := by
      generalize p.d = pd at *
      simp [compStep, Tg.put, f_inner_c0, f_inner_k0, conds, deref, h, asB, asD]
    simp only [List.map_cons, compL, this, Res.bind_ok, inner_pgs ps]
theorem inner_strs {C : Calls} {st : Store} {x0 : Option Val} (r : List D) : ∀ (xs : List String), compL (compStep (eval C f_inner_c0) (conds C f_inner_k0) (.name 1) [x0, none]) (xs.map D.str ++ r) st = compL (compStep (eval C f_inner_c0) (conds C f_inner_k0) (.name 1) [x0, none]) r st
  | [] => rfl
  | x :: xs => by
    have : compStep (eval C f_inner_c0) (conds C f_inner_k0) (.name 1) [x0, none] (.str x) st = .ok none st := by
      simp [compStep, Tg.put, f_inner_c0, f_inner_k0, conds, deref, isiV, D.tyOk, asB, asD]
    simp only [List.map_cons, List.cons_append, compL, this, Res.bind_ok, inner_strs r xs]
    cases compL (compStep (eval C f_inner_c0) (conds C f_inner_k0) (.name 1) [x0, none]) r st <;> rfl
theorem inner_val {C : Calls} {st : Store} {x0 : Option Val} (v : D) (h : isiV [.tuple] v = some (.bool false)) : compL (compStep (eval C f_inner_c0) (conds C f_inner_k0) (.name 1) [x0, none]) [v] st = .ok [] st := by
  have : compStep (eval C f_inner_c0) (conds C f_inner_k0) (.name 1) [x0, none] v st = .ok none st := by
    simp [compStep, Tg.put, f_inner_c0, f_inner_k0, conds, deref, h, asB, asD]
  simp only [compL, this, Res.bind_ok]
theorem inner_run {n : Nat} {st : Store} {x : D} {ys zs : List D} (h : compL (compStep (eval (callN T n) f_inner_c0) (conds (callN T n) f_inner_k0) (.name 1) [some (.d (.tup (x :: ys))), none]) ys st = .ok zs st) : callN T (n + 1) "inner" [.d (.tup (x :: ys))] st = .ok (.d (.lst zs)) st := by
  have hs := sl_pg x ys
  apply eq_of_wp
  rw [callN_run T_f_inner]
  generalize D.tup (x :: ys) = qd at *
  simp [f_inner, runFn, deref, hs, asD, asI, D.seq, Tg.slots, wipe, h, leave]
theorem inner_pg (q : Pg) (ho : q.isOff = false) {n : Nat} {st : Store} : callN T (n + 1) "inner" [.d q.d] st = .ok (.d (.lst (q.prt.map Pg.d))) st := by
  cases q with
  | num i => exact inner_run (inner_val _ rfl)
  | truth b => exact inner_run (inner_val _ rfl)
  | name x => exact inner_run (inner_val _ rfl)
  | nil => exact inner_run rfl
  | off p => simp [Pg.isOff] at ho
  | one h xs p => exact inner_run (by rw [inner_strs]; exact inner_pgs [p])
  | two h xs p q => exact inner_run (by rw [inner_strs]; exact inner_pgs [p, q])
  | thr h xs p q r => exact inner_run (by rw [inner_strs]; exact inner_pgs [p, q, r])
def offed (b : Bool) (q : Pg) : Pg := if b then .off q else q
theorem d_head (q : Pg) : ∃ ys, q.d = .tup (.str q.wd :: ys) := by cases q <;> exact ⟨_, rfl⟩
theorem bare_pg (b : Bool) (q : Pg) (ho : q.wd ≠ "off") {n : Nat} {st : Store} : callN T (n + 1) "bare" [.d (offed b q).d] st = .ok (.d (.tup [q.d, .bool b])) st := by
  obtain ⟨ys, e⟩ := d_head q
  cases b with
  | false =>
    have i0 : D.index q.d (.int 0) = some (.str q.wd) := by rw [e]; simp [D.index, atI, ixN]
    have hc : ∀ st, cmpV .eq st (.d (.str q.wd)) (.d (.str "off")) = some false := fun st => by simp [cmpV, deref, cs_eq, ho]
    simp only [offed, Bool.false_eq_true, if_false]
    generalize q.d = qd at *
    apply eq_of_wp
    rw [callN_run T_f_bare]
    simp [f_bare, runFn, ivdS, i0, hc, asB, asD, asDs, leave]
  | true =>
    have i0 : D.index (.tup [.str "off", q.d]) (.int 0) = some (.str "off") := by simp [D.index, atI, ixN]
    have i1 : D.index (.tup [.str "off", q.d]) (.int 1) = some q.d := by simp [D.index, atI, ixN]
    have hc : ∀ st, cmpV .eq st (.d (.str "off")) (.d (.str "off")) = some true := fun st => by simp [cmpV, deref, cs_eq]
    have hd : (offed true q).d = .tup [.str "off", q.d] := rfl
    rw [hd]
    generalize q.d = qd at *
    generalize D.tup [.str "off", qd] = od at *
    apply eq_of_wp
    rw [callN_run T_f_bare]
    simp [f_bare, runFn, ivdS, i0, i1, hc, asB, asD, asDs, leave]
/-- the words with a rule, and how many parts they have -/
def plTab : List (String × Nat) := [("num", 0), ("truth", 0), ("nil", 0), ("first", 1), ("second", 1), ("head", 1), ("tail", 1), ("none", 1), ("call", 2), ("plus", 2), ("less", 2), ("pair", 2), ("cons", 2), ("if", 3)]
def rules : List (String × D) := [("num", .fn "is_int"), ("truth", .fn "is_bool"), ("call", .fn "is_called"), ("if", .fn "is_choice"), ("plus", .fn "is_sum"), ("less", .fn "is_less"), ("pair", .fn "is_pair"), ("first", .fn "is_first"), ("second", .fn "is_second"), ("nil", .fn "is_nil"), ("cons", .fn "is_cons"), ("head", .fn "is_head"), ("tail", .fn "is_tail"), ("none", .fn "is_none")]
def ruleN (w : String) : String := match rules.lookup w with
  | some (.fn f) => f
  | _ => ""
theorem plTab_ok {w : String} {n : Nat} (h : (w, n) ∈ plTab) : kdV .idx rules (.d (.str w)) = some (.fn (ruleN w)) ∧ ruleN w ∈ fv_RULES ∧ w ≠ "name" ∧ w ≠ "fn" ∧ w ≠ "rec" ∧ w ≠ "let" ∧ w ≠ "off" := by
  simp only [plTab, List.mem_cons, List.not_mem_nil, or_false, Prod.mk.injEq] at h
  rcases h with h | h | h | h | h | h | h | h | h | h | h | h | h | h <;> obtain ⟨rfl, rfl⟩ := h <;> refine ⟨rfl, ?_, ?_, ?_, ?_, ?_, ?_⟩ <;> decide
theorem rule_ok {w : String} {k nw : Kd} {ts : List Kd} (h : (w, ts.length) ∈ plTab) {n : Nat} {st : Store} : callN T (n + 1) (ruleN w) [.d k.d, .d (.lst (ts.map Kd.d)), .d nw.d] st = .ok (.d (.lst ((rowsK w k ts nw).map pd))) st := by
  simp only [plTab, List.mem_cons, List.not_mem_nil, or_false, Prod.mk.injEq] at h
  rcases h with h | h | h | h | h | h | h | h | h | h | h | h | h | h <;> obtain ⟨rfl, hl⟩ := h
  · match ts, hl with
    | [], _ =>
      show callN T (n + 1) "is_int" _ st = _
      apply eq_of_wp
      rw [callN_run T_f_is_int]
      simp [f_is_int, runFn, rowsK, pd, Kd.d, asDs, asD, leave, indexV, D.index, atI, ixN]
  · match ts, hl with
    | [], _ =>
      show callN T (n + 1) "is_bool" _ st = _
      apply eq_of_wp
      rw [callN_run T_f_is_bool]
      simp [f_is_bool, runFn, rowsK, pd, Kd.d, asDs, asD, leave, indexV, D.index, atI, ixN]
  · match ts, hl with
    | [], _ =>
      show callN T (n + 1) "is_nil" _ st = _
      apply eq_of_wp
      rw [callN_run T_f_is_nil]
      simp [f_is_nil, runFn, rowsK, pd, Kd.d, asDs, asD, leave, indexV, D.index, atI, ixN]
  · match ts, hl with
    | [a], _ =>
      show callN T (n + 1) "is_first" _ st = _
      apply eq_of_wp
      rw [callN_run T_f_is_first]
      simp [f_is_first, runFn, rowsK, pd, Kd.d, asDs, asD, leave, indexV, D.index, atI, ixN]
  · match ts, hl with
    | [a], _ =>
      show callN T (n + 1) "is_second" _ st = _
      apply eq_of_wp
      rw [callN_run T_f_is_second]
      simp [f_is_second, runFn, rowsK, pd, Kd.d, asDs, asD, leave, indexV, D.index, atI, ixN]
  · match ts, hl with
    | [a], _ =>
      show callN T (n + 1) "is_head" _ st = _
      apply eq_of_wp
      rw [callN_run T_f_is_head]
      simp [f_is_head, runFn, rowsK, pd, Kd.d, asDs, asD, leave, indexV, D.index, atI, ixN]
  · match ts, hl with
    | [a], _ =>
      show callN T (n + 1) "is_tail" _ st = _
      apply eq_of_wp
      rw [callN_run T_f_is_tail]
      simp [f_is_tail, runFn, rowsK, pd, Kd.d, asDs, asD, leave, indexV, D.index, atI, ixN]
  · match ts, hl with
    | [a], _ =>
      show callN T (n + 1) "is_none" _ st = _
      apply eq_of_wp
      rw [callN_run T_f_is_none]
      simp [f_is_none, runFn, rowsK, pd, Kd.d, asDs, asD, leave, indexV, D.index, atI, ixN]
  · match ts, hl with
    | [a, b], _ =>
      show callN T (n + 1) "is_called" _ st = _
      apply eq_of_wp
      rw [callN_run T_f_is_called]
      simp [f_is_called, runFn, rowsK, pd, Kd.d, asDs, asD, leave, indexV, D.index, atI, ixN]
  · match ts, hl with
    | [a, b], _ =>
      show callN T (n + 1) "is_sum" _ st = _
      apply eq_of_wp
      rw [callN_run T_f_is_sum]
      simp [f_is_sum, runFn, rowsK, pd, Kd.d, asDs, asD, leave, indexV, D.index, atI, ixN]
  · match ts, hl with
    | [a, b], _ =>
      show callN T (n + 1) "is_less" _ st = _
      apply eq_of_wp
      rw [callN_run T_f_is_less]
      simp [f_is_less, runFn, rowsK, pd, Kd.d, asDs, asD, leave, indexV, D.index, atI, ixN]
  · match ts, hl with
    | [a, b], _ =>
      show callN T (n + 1) "is_pair" _ st = _
      apply eq_of_wp
      rw [callN_run T_f_is_pair]
      simp [f_is_pair, runFn, rowsK, pd, Kd.d, asDs, asD, leave, indexV, D.index, atI, ixN]
  · match ts, hl with
    | [a, b], _ =>
      show callN T (n + 1) "is_cons" _ st = _
      apply eq_of_wp
      rw [callN_run T_f_is_cons]
      simp [f_is_cons, runFn, rowsK, pd, Kd.d, asDs, asD, leave, indexV, D.index, atI, ixN]
  · match ts, hl with
    | [a, b, c], _ =>
      show callN T (n + 1) "is_choice" _ st = _
      apply eq_of_wp
      rw [callN_run T_f_is_choice]
      simp [f_is_choice, runFn, rowsK, pd, Kd.d, asDs, asD, leave, indexV, D.index, atI, ixN]
end Prog

namespace Prog
open Ir
/-! ### a place with a rule of its own -/
structure RowsF (B : List Kd) (rows : List (Kd × Kd)) : Prop where
  one : ∀ p ∈ rows, p.1 ∈ B
  kids : ∀ u ∈ rows.map Prod.snd, ∀ c ∈ u.kids, c ∈ B
  free : ∀ i, .free i ∈ rows.map Prod.snd → .free i ∈ B
  nb : NB (rows.map Prod.snd) ≤ 1
  len : (rows.map Prod.snd).length ≤ 3
theorem len_2 {ts : List Kd} (h : ts.length = 2) : ∃ a b, ts = [a, b] := match ts, h with
  | [a, b], _ => ⟨a, b, rfl⟩
theorem len_3 {ts : List Kd} (h : ts.length = 3) : ∃ a b c, ts = [a, b, c] := match ts, h with
  | [a, b, c], _ => ⟨a, b, c, rfl⟩
theorem rows_free {w : String} {k nw : Kd} {ts : List Kd} (h : (w, ts.length) ∈ plTab) (hk : isC k = false) (hw : isC nw = false) (ht : ∀ t ∈ ts, isC t = false) : RowsF (k :: nw :: ts) (rowsK w k ts nw) := by
  have c1 : isC .int = false := rfl
  have c2 : isC .bool = false := rfl
  have c3 : ∀ a, isC (.list a) = true := fun _ => rfl
  have c4 : ∀ a b, isC (.fn a b) = true := fun _ _ => rfl
  have c5 : ∀ a b, isC (.pair a b) = true := fun _ _ => rfl
  simp only [plTab, List.mem_cons, List.not_mem_nil, or_false, Prod.mk.injEq] at h
  rcases h with h | h | h | h | h | h | h | h | h | h | h | h | h | h <;> obtain ⟨rfl, hl⟩ := h
  all_goals
    first
    | (obtain rfl := List.length_eq_zero_iff.mp hl)
    | (obtain ⟨a, rfl⟩ := List.length_eq_one_iff.mp hl)
    | (obtain ⟨a, b, rfl⟩ := len_2 hl)
    | (obtain ⟨a, b, c, rfl⟩ := len_3 hl)
  all_goals
    constructor
    · simp [rowsK]
    · simp [rowsK, Kd.kids]
      try (intro c hc; cases k <;> simp [isC, Kd.kids] at hk hc)
      try (intro c hc; cases a <;> simp_all [isC, Kd.kids])
      try (intro c hc; cases b <;> simp_all [isC, Kd.kids])
    · simp [rowsK]
      try (intro i hi; simp [hi])
    · simp [rowsK, NB, List.filter, hk, c1, c2, c3, c4, c5]
    · simp [rowsK]
end Prog

namespace Prog
open Ir
set_option maxHeartbeats 4000000 in
theorem visit_run {n F a gv : Nat} {pd qd kd nwd ar : D} {nm : Val} {b ok : Bool} {w rn : String} {ps ks rows : List D} {s0 s1 s2 s3 s4 s5 s6 : Store}
    (eb : callN T n "bare" [.d pd] s0 = .ok (.d (.tup [qd, .bool b])) s0) (f0 : fldV s0 (.d (.oid F)) "Finder" "solver" = some (.oid a)) (m0 : methOk s0 (.d (.oid a)) "Solver" "fresh" = true)
    (e1 : callN T n "Solver.fresh" [.d (.oid a)] s0 = .ok (.d kd) s1) (f1 : fldV s1 (.d (.oid F)) "Finder" "given" = some (.oid gv)) (o1 : omOk s1 (.d (.oid gv)) = true) (o2 : omV .append s1 (.d (.oid gv)) [.d kd] = .ok (.d .non) s2)
    (i0 : D.index qd (.int 0) = some (.str w)) (w1 : w ≠ "name") (w2 : w ≠ "fn") (w3 : w ≠ "rec") (w4 : w ≠ "let") (hk : kdV .idx rules (.d (.str w)) = some (.fn rn)) (hr : rn ∈ fv_RULES)
    (ei : callN T n "inner" [.d qd] s2 = .ok (.d (.lst ps)) s2)
    (ec : compL (compStep (eval (callN T n) f_Finder_visit_c0) (conds (callN T n) []) (.name 9) [some (.d (.oid F)), some (.d qd), some nm, some (.d ar), some (.d (.bool b)), some (.d kd), some (.d (.str w)), none, some (.d (.fn rn)), none]) ps s2 = .ok ks s3)
    (f3 : fldV s3 (.d (.oid F)) "Finder" "solver" = some (.oid a)) (m3 : methOk s3 (.d (.oid a)) "Solver" "fresh" = true) (e3 : callN T n "Solver.fresh" [.d (.oid a)] s3 = .ok (.d nwd) s4)
    (er : callN T n rn [.d kd, .d (.lst ks), .d nwd] s4 = .ok (.d (.lst rows)) s4)
    (hold : b = false → fldV s4 (.d (.oid F)) "Finder" "solver" = some (.oid a) ∧ methOk s4 (.d (.oid a)) "Solver" "hold" = true ∧ callN T n "Solver.hold" [.d (.oid a), .d (.lst rows)] s4 = .ok (.d (.bool ok)) s5 ∧ (ok = false → setFV s5 (.d (.oid F)) "Finder" "good" (.bool false) = some s6) ∧ (ok = true → s6 = s5)) (off : b = true → s6 = s4) (hl : s6.take s0.length = s6) :
    callN T (n + 1) "Finder.visit" [.d (.oid F), .d pd, nm, .d ar] s0 = .ok (.d kd) s6 := by
  have c1 : ∀ st, cmpV .eq st (.d (.str w)) (.d (.str "name")) = some false := fun st => by simp [cmpV, deref, cs_eq, w1]
  have c2 : ∀ st, cmpV .isin st (.d (.str w)) (.d (.tup [.str "fn", .str "rec"])) = some false := fun st => by simp [cmpV, inB, D.mem, flat, D.eqv, w2.symm, w3.symm]
  have c4 : ∀ st, cmpV .eq st (.d (.str w)) (.d (.str "let")) = some false := fun st => by simp [cmpV, deref, cs_eq, w4]
  unfold rules at hk
  apply eq_of_wp
  rw [callN_run T_f_Finder_visit]
  cases b with
  | true =>
    obtain rfl := off rfl
    simp [f_Finder_visit, runFn, eb, Tg.put, Tg.puts, Tg.putV, setAll, D.seq, f0, m0, e1, f1, o1, o2, ivdS, i0, c1, c2, c4, asB, asD, asDs, hk, ei, ec, Tg.slots, wipe, f3, m3, e3, hr, er, leave, hl]
  | false =>
    obtain ⟨h1, h2, h3, h4, h5⟩ := hold rfl
    cases ok with
    | true =>
      obtain rfl := h5 rfl
      simp [f_Finder_visit, runFn, eb, Tg.put, Tg.puts, Tg.putV, setAll, D.seq, f0, m0, e1, f1, o1, o2, ivdS, i0, c1, c2, c4, asB, asD, asDs, hk, ei, ec, Tg.slots, wipe, f3, m3, e3, hr, er, h1, h2, h3, leave, hl]
    | false =>
      have h4 := h4 rfl
      simp [f_Finder_visit, runFn, eb, Tg.put, Tg.puts, Tg.putV, setAll, D.seq, f0, m0, e1, f1, o1, o2, ivdS, i0, c1, c2, c4, asB, asD, asDs, hk, ei, ec, Tg.slots, wipe, f3, m3, e3, hr, er, h1, h2, h3, h4, leave, hl]
end Prog

namespace Prog
open Ir
/-- what a place with a rule of its own asks -/
def tpN (tp : Pg → (Int → Kd) → List Kd → Kd → Prop) (q : Pg) (o : Bool) : (Int → Kd) → List Kd → Kd → Prop := fun f gs v => ∃ g ts, gs = v :: g ∧ tyLf tp f q.prt g ts ∧ (o = false → Hk q.wd v ts)
theorem offed_pl (o : Bool) (q : Pg) : (offed o q).pl = q.pl := by cases o <;> rfl
theorem pl_node {q : Pg} (h : q.isOff = false) : q.pl = plL q.prt + 1 := by
  cases q <;> simp [Pg.isOff] at h <;> simp [Pg.pl, plL, Pg.prt] <;> omega
theorem not_off {q : Pg} (h : q.wd ≠ "off") : q.isOff = false := by
  cases q <;> simp [Pg.isOff]
  exact h rfl
def upd (f : Int → Kd) (m : Int) (v : Kd) : Int → Kd := fun i => if i = m then v else f i
theorem upd_lt {f : Int → Kd} {m i : Int} {v : Kd} (h : i < m) : upd f m v i = f i := by simp only [upd]; rw [if_neg (by omega)]
theorem upd_at (f : Int → Kd) (m : Int) (v : Kd) : upd f m v m = v := by simp [upd]
theorem visit_node {N F a b gv n : Nat} {tl : Store} {nm : Val} {ar : D} {E : List Kd → Int → Prop} {tp : Pg → (Int → Kd) → List Kd → Kd → Prop}
    (hE : ∀ L L' m m', (∀ u ∈ L, u ∈ L') → m ≤ m' → E L m → E L' m') (h60 : N ≤ 60) (hn : 2 * N + 5 ≤ n) (q : Pg) (hq : (q.wd, q.prt.length) ∈ plTab) (o : Bool)
    (hv : ∀ p ∈ q.prt, VOk N F a b gv n tl nm ar E p (tp p)) (hc : ∀ p ∈ q.prt, ∀ L m, E L m → ∀ f f' : Int → Kd, (∀ i, i < m → f' i = f i) → ∀ gs v, tp p f gs v ↔ tp p f' gs v) :
    VOk N F a b gv (n + 1) tl nm ar E (offed o q) (tpN tp q o) := by
  intro os g m gs good L S fd ss hm e hnb hln hgs
  obtain ⟨hk, hr, w1, w2, w3, w4, w5⟩ := plTab_ok hq
  have hoff := not_off w5
  have hpl := pl_node hoff
  rw [offed_pl, hpl] at hnb hln hgs
  obtain ⟨n', hn'⟩ : ∃ n', n = n' + 1 := ⟨n - 1, by omega⟩
  have fd1 := fd.fresh
  have ss1 := ss.fresh hm
  have fd2 := fd1.give (.free m)
  have hE1 : E (L ++ [.free m]) (m + 1) := hE L _ m _ (fun u hu => List.mem_append_left _ hu) (by omega) e
  have hnb1 : NB (L ++ [.free m]) = NB L := by rw [NB_app]; rfl
  obtain ⟨ys, hys⟩ := d_head q
  have i0 : D.index q.d (.int 0) = some (.str q.wd) := by rw [hys]; simp [D.index, atI, ixN]
  obtain ⟨os3, g3, m3, gs3, good3, L3, S3, ks, e3, fd3, sm3, v3⟩ := kids_visit (tp := tp) (nm := nm) (ar := ar) (tl := tl) (x1 := some (.d q.d)) (x4 := some (.d (.bool o))) (x5 := some (.d (Kd.free m).d)) (x6 := some (.d (.str q.wd))) (x7 := none) (x8 := some (.d (.fn (ruleN q.wd)))) hE q.prt hv _ g (m + 1) _ good _ S fd2 ss1 (by omega) hE1 (fun p hp f f' h => hc p hp _ _ hE1 f f' h) (by rw [hnb1]; omega) (by rw [List.length_append]; simp; omega) (by rw [List.length_append]; simp; omega)
  have hnb3 := v3.nb
  have hln3 := v3.ln
  rw [hnb1] at hnb3
  rw [List.length_append] at hln3
  simp only [List.length_cons, List.length_nil] at hln3
  have hmm := v3.mm
  have fd4 := fd3.fresh
  have ss4 := v3.ss.fresh (by omega)
  have hkl := v3.kl
  have rf := rows_free (w := q.wd) (k := .free m) (nw := .free m3) (ts := ks.map .free) (by rw [List.length_map, hkl]; exact hq) rfl rfl (fun t ht => by obtain ⟨i, _, rfl⟩ := List.mem_map.mp ht; rfl)
  have er := rule_ok (w := q.wd) (k := .free m) (nw := .free m3) (ts := ks.map .free) (by rw [List.length_map, hkl]; exact hq) (n := n') (st := .arena (os3.set a (svO b (m3 + 1))) :: tl)
  rw [List.map_map] at er
  have hB : ∀ u ∈ Kd.free m :: .free m3 :: ks.map .free, u ∈ L3 ++ [.free m3] := fun u hu => by
    rcases List.mem_cons.mp hu with rfl | hu
    · exact List.mem_append_left _ (v3.sub _ (by simp))
    rcases List.mem_cons.mp hu with rfl | hu
    · simp
    · obtain ⟨i, hi, rfl⟩ := List.mem_map.mp hu
      exact List.mem_append_left _ (v3.kL i hi)
  have hsub := rowsK_sub
  generalize hrows : rowsK q.wd (.free m) (ks.map .free) (.free m3) = rows at *
  have ss5 := ss4.grow (M := rows.map Prod.snd) (fun u hu c hc => List.mem_append_left _ (hB c (rf.kids u hu c hc))) (fun i hi => ss4.low i (hB _ (rf.free i hi)))
  have hrm : ∀ p ∈ rows, p.1 ∈ (L3 ++ [.free m3]) ++ rows.map Prod.snd ∧ p.2 ∈ (L3 ++ [.free m3]) ++ rows.map Prod.snd := fun p hp => ⟨List.mem_append_left _ (hB _ (rf.one p hp)), List.mem_append_right _ (List.mem_map.mpr ⟨p, hp, rfl⟩)⟩
  have hnb5 : NB ((L3 ++ [Kd.free m3]) ++ rows.map Prod.snd) ≤ NB L + plL q.prt + 1 := by
    rw [NB_app, NB_app]
    have : NB [Kd.free m3] = 0 := rfl
    have := rf.nb
    omega
  have hln5 : ((L3 ++ [Kd.free m3]) ++ rows.map Prod.snd).length ≤ L.length + 10 * plL q.prt + 10 := by
    rw [List.length_append, List.length_append]
    have := rf.len
    simp only [List.length_cons, List.length_nil]
    omega
  have hsubL : ∀ u ∈ L3, u ∈ (L3 ++ [.free m3]) ++ rows.map Prod.snd := fun u hu => List.mem_append_left _ (List.mem_append_left _ hu)
  have hmL : Kd.free m ∈ L3 := v3.sub _ (by simp)
  have hfr1 := sv_fresh (tl := tl) fd.sv (n := n')
  have hfr3 := sv_fresh (tl := tl) fd3.sv (n := n')
  have happ := fd1.app (tl := tl) (.free m) (by omega)
  -- what holds of a solution of the rows
  have snd : ∀ (S' : Int → Kd) (good' : Bool), Bh S3 S' → (good' = true → o = false → ∀ f, Sols f S' → ∀ p ∈ rows, p.1.sub f = p.2.sub f) → (good3 && good') = true → ∀ f, Sols f S' → tpN tp q o f ((.free m :: gs3).map (Kd.sub f)) (f m) := fun S' good' bh hh hg f s => by
    simp only [Bool.and_eq_true] at hg
    refine ⟨gs3.map (Kd.sub f), ks.map f, rfl, v3.sound hg.1 f (bh f s), fun ho => ?_⟩
    have h1 := hh hg.2 ho f s
    rw [← hrows] at h1
    have h2 := Hk_of h1
    rw [List.map_map] at h2
    exact h2
  have cmp : ∀ f, Sols f S → ∀ gvs v, tpN tp q o f gvs v → good3 = true ∧ ∃ f', Sols f' S3 ∧ (∀ i, i < m → f' i = f i) ∧ (Kd.free m :: gs3).map (Kd.sub f') = gvs ∧ f' m = v ∧ (o = false → ∀ p ∈ rows, p.1.sub f' = p.2.sub f') := fun f s gvs v h => by
    obtain ⟨gv1, ts, rfl, h1, h2⟩ := h
    have s1 : Sols (upd f m v) S := ss.sols s fun i hi => upd_lt hi
    have h1' := (tyLf_congr (tp := tp) (f := f) (f' := upd f m v) q.prt (fun p hp => hc p hp L m e f _ fun i hi => upd_lt hi) _ _).mp h1
    obtain ⟨ok3, f2, s2, a2, b2, c2⟩ := v3.comp _ s1 gv1 ts h1'
    have am : f2 m = v := by rw [a2 m (by omega), upd_at]
    have al : ∀ i, i < m → f2 i = f i := fun i hi => by rw [a2 i (by omega), upd_lt hi]
    refine ⟨ok3, ?_⟩
    by_cases ho : o = false
    · obtain ⟨w', hw⟩ := h2 ho
      refine ⟨upd f2 m3 w', v3.ss.sols s2 fun i hi => upd_lt hi, fun i hi => by rw [upd_lt (by omega), al i hi], ?_, by rw [upd_lt (by omega), am], fun _ p hp => ?_⟩
      · rw [List.map_cons, ← b2]
        congr 1
        · show upd f2 m3 w' m = v
          rw [upd_lt (by omega), am]
        · exact List.map_congr_left fun u hu => v3.ss.subs (v3.gL u hu) fun i hi => upd_lt hi
      · have hs := hsub (upd f2 m3 w') q.wd (.free m) (ks.map .free) (.free m3)
        rw [hrows, List.map_map] at hs
        have h3 : (ks.map (Kd.sub (upd f2 m3 w') ∘ Kd.free)) = ts := by
          rw [← c2]
          exact List.map_congr_left fun i hi => upd_lt (v3.ss.low i (v3.kL i hi)).2
        have h4 : (Kd.free m).sub (upd f2 m3 w') = v := by
          show upd f2 m3 w' m = v
          rw [upd_lt (by omega), am]
        have h5 : (Kd.free m3).sub (upd f2 m3 w') = w' := upd_at _ _ _
        rw [h3, h4, h5] at hs
        have := hw (subP (upd f2 m3 w') p) (by rw [← hs]; exact List.mem_map.mpr ⟨p, hp, rfl⟩)
        exact this
    · refine ⟨f2, s2, al, ?_, am, fun h => absurd h ho⟩
      rw [List.map_cons, b2]
      congr 1
  have mk : ∀ {S' : Int → Kd} {g' : G} {good' : Bool}, SS ((L3 ++ [.free m3]) ++ rows.map Prod.snd) g' S' (m3 + 1) → Bh S3 S' → (good' = true → o = false → ∀ f, Sols f S' → ∀ p ∈ rows, p.1.sub f = p.2.sub f) → (∀ f, Sols f S3 → (o = false → ∀ p ∈ rows, p.1.sub f = p.2.sub f) → good' = true ∧ Sols f S') →
      Vis (tpN tp q o) L S m (offed o q).pl ((L3 ++ [.free m3]) ++ rows.map Prod.snd) g' S' (m3 + 1) (.free m :: gs3) (good3 && good') m := fun {S' g' good'} hss bh h1 h2 => by
    refine ⟨hss, fun u hu => hsubL u (v3.sub u (List.mem_append_left _ hu)), hsubL _ hmL, fun u hu => ?_, ?_, ?_, v3.bh.trans bh, by omega, ?_, snd S' good' bh h1, fun f s gvs v h => ?_⟩
    · rcases List.mem_cons.mp hu with rfl | hu
      · exact hsubL _ hmL
      · exact hsubL _ (v3.gL u hu)
    · rw [offed_pl, hpl]; omega
    · rw [offed_pl, hpl]; omega
    · rw [offed_pl, hpl, List.length_cons, v3.len]
    · obtain ⟨k1, f', s', al, b', c', d'⟩ := cmp f s gvs v h
      obtain ⟨k2, s2⟩ := h2 f' s' d'
      exact ⟨by rw [k1, k2]; rfl, f', s2, al, b', c'⟩
  have sm4 : Same4 os (os3.set a (svO b (m3 + 1))) F a b gv := ((Same4.set _ (.inr (.inl rfl))).trans (Same4.set _ (.inr (.inr (.inr rfl))))).trans (sm3.trans (Same4.set _ (.inr (.inl rfl))))
  have htk : ∀ x : List Obj, List.take (List.length (Cell.arena os :: tl)) (Cell.arena x :: tl) = .arena x :: tl := fun x => List.take_of_length_le (by simp)
  have hgs3 : gs ++ [Kd.free m] ++ gs3 = gs ++ (.free m :: gs3) := by simp
  cases ho : o with
  | true =>
    subst ho
    refine ⟨_, g3, m3 + 1, .free m :: gs3, good3 && true, _, S3, m, ?_, by rw [Bool.and_true, ← hgs3]; exact fd4, sm4, mk ss5 (.refl _) (fun _ h => by cases h) fun f s _ => ⟨rfl, s⟩⟩
    subst hn'
    exact visit_run (ok := true) (s5 := []) (bare_pg true q w5) fd.fs (fd.sv.meth "fresh" (by decide)) hfr1 fd1.fg happ.1 happ.2 i0 w1 w2 w3 w4 hk hr (inner_pg q hoff) e3 fd3.fs (fd3.sv.meth "fresh" (by decide)) hfr3 er (fun h => by cases h) (fun _ => rfl) (htk _)
  | false =>
    subst ho
    obtain ⟨ok, g5, S5, e5, r5⟩ := sv_hold (tl := tl) ss5.cl (by omega) (by omega) (n := n) (by omega) ss5.fl fd4.sv hrm
    have fd5 := fd4.put g5
    have ss5' : SS ((L3 ++ [.free m3]) ++ rows.map Prod.snd) g5 S5 (m3 + 1) := ⟨ss5.cl, r5.fl, ss5.low⟩
    have fin := mk (good' := ok) ss5' r5.bh (fun h _ f s => ((r5.yes h f).mpr s).2) (fun f s h => by
      cases hok : ok with
      | false => exact absurd (h rfl) (r5.no hok f s)
      | true => exact ⟨rfl, (r5.yes hok f).mp ⟨s, h rfl⟩⟩)
    have sm5 : Same4 os ((os3.set a (svO b (m3 + 1))).set b (.dic (dF g5))) F a b gv := sm4.trans (Same4.set _ (.inr (.inr (.inl rfl))))
    subst hn'
    cases hok : ok with
    | true =>
      subst hok
      refine ⟨_, g5, m3 + 1, .free m :: gs3, good3 && true, _, S5, m, ?_, by rw [Bool.and_true, ← hgs3]; exact fd5, sm5, fin⟩
      exact visit_run (ok := true) (bare_pg false q w5) fd.fs (fd.sv.meth "fresh" (by decide)) hfr1 fd1.fg happ.1 happ.2 i0 w1 w2 w3 w4 hk hr (inner_pg q hoff) e3 fd3.fs (fd3.sv.meth "fresh" (by decide)) hfr3 er (fun _ => ⟨fd4.fs, fd4.sv.meth "hold" (by decide), e5, (fun h => by cases h), fun _ => rfl⟩) (fun h => by cases h) (htk _)
    | false =>
      subst hok
      refine ⟨_, g5, m3 + 1, .free m :: gs3, good3 && false, _, S5, m, ?_, by rw [Bool.and_false, Bool.and_false, ← hgs3]; exact fd5.bad, sm5.trans (Same4.set _ (.inl rfl)), fin⟩
      exact visit_run (ok := false) (bare_pg false q w5) fd.fs (fd.sv.meth "fresh" (by decide)) hfr1 fd1.fg happ.1 happ.2 i0 w1 w2 w3 w4 hk hr (inner_pg q hoff) e3 fd3.fs (fd3.sv.meth "fresh" (by decide)) hfr3 er (fun _ => ⟨fd4.fs, fd4.sv.meth "hold" (by decide), e5, fun _ => fd5.setBad, fun h => by cases h⟩) (fun h => by cases h) (htk _)
end Prog

namespace Prog
open Ir
/-! ### programs of words with a rule of their own -/
def Pg.pln : Pg → Prop
  | .num _ | .truth _ | .nil => True
  | .name _ => False
  | .off p => p.isOff = false ∧ p.pln
  | .one h _ p => (h, 1) ∈ plTab ∧ p.pln
  | .two h _ p q => (h, 2) ∈ plTab ∧ p.pln ∧ q.pln
  | .thr h _ p q r => (h, 3) ∈ plTab ∧ p.pln ∧ q.pln ∧ r.pln
theorem pln_node {q : Pg} (h : q.pln) (ho : q.isOff = false) : (q.wd, q.prt.length) ∈ plTab ∧ ∀ p ∈ q.prt, p.pln ∧ p.h + 1 ≤ q.h ∧ sizeOf p < sizeOf q := by
  cases q with
  | num i => exact ⟨by simp [plTab, Pg.wd, Pg.prt], fun p hp => by cases hp⟩
  | truth i => exact ⟨by simp [plTab, Pg.wd, Pg.prt], fun p hp => by cases hp⟩
  | nil => exact ⟨by simp [plTab, Pg.wd, Pg.prt], fun p hp => by cases hp⟩
  | name x => exact h.elim
  | off p => simp [Pg.isOff] at ho
  | one w xs p =>
    refine ⟨h.1, fun r hr => ?_⟩
    simp only [Pg.prt, List.mem_cons, List.not_mem_nil, or_false] at hr
    subst hr
    exact ⟨h.2, by simp [Pg.h], by simp; omega⟩
  | two w xs p q =>
    refine ⟨h.1, fun r hr => ?_⟩
    simp only [Pg.prt, List.mem_cons, List.not_mem_nil, or_false] at hr
    rcases hr with rfl | rfl
    · exact ⟨h.2.1, by simp only [Pg.h]; omega, by simp; omega⟩
    · exact ⟨h.2.2, by simp only [Pg.h]; omega, by simp; omega⟩
  | thr w xs p q s =>
    refine ⟨h.1, fun r hr => ?_⟩
    simp only [Pg.prt, List.mem_cons, List.not_mem_nil, or_false] at hr
    rcases hr with rfl | rfl | rfl
    · exact ⟨h.2.1, by simp only [Pg.h]; omega, by simp; omega⟩
    · exact ⟨h.2.2.1, by simp only [Pg.h]; omega, by simp; omega⟩
    · exact ⟨h.2.2.2, by simp only [Pg.h]; omega, by simp; omega⟩
/-- the core of a part, and whether an off stands around it -/
theorem pln_core {p : Pg} (h : p.pln) : ∃ o q, p = offed o q ∧ q.pln ∧ q.isOff = false ∧ sizeOf q ≤ sizeOf p ∧ q.h ≤ p.h := by
  cases p with
  | off p => exact ⟨true, p, rfl, h.2, h.1, by simp, by simp [Pg.h]⟩
  | _ => exact ⟨false, _, rfl, h, rfl, Nat.le_refl _, Nat.le_refl _⟩
theorem tpN_ty {q : Pg} (hq : (q.wd, q.prt.length) ∈ plTab) (ρ : Rh) (o : Bool) : tpN (fun p _ gs v => p.ty ρ false gs v) q o = fun _ gs v => (offed o q).ty ρ false gs v := by
  obtain ⟨_, _, w1, w2, w3, w4, w5⟩ := plTab_ok hq
  funext f gs v
  have e : (offed o q).ty ρ false gs v = q.ty ρ o gs v := by cases o <;> rfl
  rw [e]
  refine propext ?_
  rw [ty_node ⟨w1, w2, w3, w4, w5⟩]
  simp only [tpN, tyLf_ty]
theorem visit_pln {N F a b gv : Nat} {tl : Store} {nm : Val} {ar : D} (h60 : N ≤ 60) (ρ : Rh) : ∀ (s : Nat) (p : Pg) (n : Nat), sizeOf p < s → p.pln → 2 * N + 6 + p.h ≤ n → VOk N F a b gv n tl nm ar (fun _ _ => True) p (fun _ gs v => p.ty ρ false gs v)
  | 0, p, n, h, _, _ => by omega
  | s + 1, p, n, hs, hp, hn => by
    obtain ⟨o, q, rfl, hq, ho, hsz, hh⟩ := pln_core hp
    obtain ⟨ht, hk⟩ := pln_node hq ho
    obtain ⟨n, rfl⟩ : ∃ n', n = n' + 1 := ⟨n - 1, by omega⟩
    rw [← tpN_ty ht ρ o]
    exact visit_node (E := fun _ _ => True) (fun _ _ _ _ _ _ _ => trivial) h60 (by omega) q ht o (fun p hp => visit_pln h60 ρ s p n (by have := (hk p hp).2.2; omega) (hk p hp).1 (by have := (hk p hp).2.1; omega)) (fun p hp L m _ f f' _ gs v => Iff.rfl)
/-! ### most general lists -/
structure MGL (tp : List Kd → Prop) (gs : List Kd) : Prop where
  sound : ∀ f, tp (gs.map (Kd.sub f))
  comp : ∀ gvs, tp gvs → ∃ f, gs.map (Kd.sub f) = gvs
def pack : List Kd → Kd
  | [] => .int
  | k :: ks => .pair k (pack ks)
theorem pack_sub (f : Int → Kd) : ∀ ks : List Kd, (pack ks).sub f = pack (ks.map (Kd.sub f))
  | [] => rfl
  | k :: ks => by simp only [pack, Kd.sub, List.map_cons, pack_sub f ks]
theorem pack_ren : ∀ (ks : List Kd) (s : List Int), (pack ks).ren s = pack (renAll ks s)
  | [], _ => rfl
  | k :: ks, s => by simp only [pack, Kd.ren, renAll, pack_ren ks]
theorem pack_inj : ∀ {ks ls : List Kd}, ks.length = ls.length → pack ks = pack ls → ks = ls
  | [], [], _, _ => rfl
  | k :: ks, l :: ls, h, e => by
    simp only [pack, Kd.pair.injEq] at e
    rw [e.1, pack_inj (by simpa using h) e.2]
theorem renAll_len : ∀ (ks : List Kd) (s : List Int), (renAll ks s).length = ks.length
  | [], _ => rfl
  | k :: ks, s => by simp [renAll, renAll_len ks]
theorem MGL.named {tp : List Kd → Prop} {ks ls : List Kd} (h : MGL tp ks) (h' : MGL tp ls) : renAll ls [] = renAll ks [] := by
  have hk : tp ks := by have := h.sound .free; rwa [show ks.map (Kd.sub .free) = ks from by rw [List.map_congr_left (g := id) fun k _ => k.sub_free]; simp] at this
  have hl : tp ls := by have := h'.sound .free; rwa [show ls.map (Kd.sub .free) = ls from by rw [List.map_congr_left (g := id) fun k _ => k.sub_free]; simp] at this
  obtain ⟨f, e1⟩ := h.comp ls hl
  obtain ⟨g, e2⟩ := h'.comp ks hk
  have e := back_ren (r := pack ks) (r' := pack ls) (f := f) (g := g) (by rw [pack_sub, e1]) (by rw [pack_sub, e2])
  rw [pack_ren, pack_ren] at e
  refine pack_inj ?_ e
  rw [renAll_len, renAll_len, ← e1, List.length_map]
/-- what a state's solutions are -/
theorem mgl_of {S : Int → Kd} {gs : List Kd} {tp : List Kd → Prop} (id' : ∀ i, (S i).sub S = S i) (h1 : ∀ f, Sols f S → tp (gs.map (Kd.sub f))) (h2 : ∀ gvs, tp gvs → ∃ f, Sols f S ∧ gs.map (Kd.sub f) = gvs) : MGL tp (gs.map (Kd.sub S)) := by
  refine ⟨fun f => ?_, fun gvs h => ?_⟩
  · rw [List.map_map]
    have := h1 (fun i => (S i).sub f) (fun i => by rw [← Kd.sub_sub, id'])
    rwa [show gs.map (Kd.sub fun i => (S i).sub f) = gs.map (Kd.sub f ∘ Kd.sub S) from List.map_congr_left fun k _ => by simp only [Function.comp]; rw [Kd.sub_sub]] at this
  · obtain ⟨f, s, e⟩ := h2 gvs h
    refine ⟨f, ?_⟩
    rw [List.map_map, ← e]
    exact List.map_congr_left fun k _ => s.k k
end Prog

namespace Prog
open Ir
/-- the law's own rows -/
def rowsW (h : String) (k : Kd) (ps : List Kd) (nw : Kd) : List (Kd × Kd) :=
  match ps with
  | [p] => if h = "tail" then [(k, p), (p, .list nw)] else rowsK h k ps nw
  | [p, q] => if h = "cons" then [(k, .list p), (k, q)] else rowsK h k ps nw
  | _ => rowsK h k ps nw
theorem rowsW_iff (f : Int → Kd) (h : String) (k : Kd) (ps : List Kd) (nw : Kd) : (∀ p ∈ rowsW h k ps nw, p.1.sub f = p.2.sub f) ↔ ∀ p ∈ rowsK h k ps nw, p.1.sub f = p.2.sub f := by
  match ps with
  | [] => exact Iff.rfl
  | [p] =>
    simp only [rowsW]
    split
    · rename_i e
      subst e
      simp [rowsK, Kd.sub]
      exact ⟨fun ⟨a, b⟩ => ⟨a.trans b, a.symm⟩, fun ⟨a, b⟩ => ⟨b.symm, b.trans a⟩⟩
    · exact Iff.rfl
  | [p, q] =>
    simp only [rowsW]
    split
    · rename_i e
      subst e
      simp [rowsK, Kd.sub]
      exact fun _ => eq_comm
    · exact Iff.rfl
  | _ :: _ :: _ :: _ => exact Iff.rfl
theorem rowsW_free {w : String} {k nw : Kd} {ts : List Kd} (h : (w, ts.length) ∈ plTab) (hk : isC k = false) (hw : isC nw = false) (ht : ∀ t ∈ ts, isC t = false) : RowsF (k :: nw :: ts) (rowsW w k ts nw) := by
  by_cases c1 : w = "tail"
  · subst c1
    have hl : ts.length = 1 := by simpa [plTab] using h
    obtain ⟨a, rfl⟩ := List.length_eq_one_iff.mp hl
    have ha := ht a (by simp)
    have hc : ∀ a, isC (.list a) = true := fun _ => rfl
    refine ⟨by simp [rowsW], ?_, ?_, by simp [rowsW, NB, List.filter, ha, hc], by simp [rowsW]⟩
    · simp [rowsW, Kd.kids]
      intro c hc; cases a <;> simp [isC, Kd.kids] at ha hc
    · simp [rowsW]
      intro i hi; simp [hi]
  by_cases c2 : w = "cons"
  · subst c2
    have hl : ts.length = 2 := by simpa [plTab] using h
    obtain ⟨a, b, rfl⟩ := len_2 hl
    have hb := ht b (by simp)
    have hc : ∀ a, isC (.list a) = true := fun _ => rfl
    refine ⟨by simp [rowsW], ?_, ?_, by simp [rowsW, NB, List.filter, hb, hc], by simp [rowsW]⟩
    · simp [rowsW, Kd.kids]
      intro c hc; cases b <;> simp [isC, Kd.kids] at hb hc
    · simp [rowsW]
      intro i hi; simp [hi]
  have : rowsW w k ts nw = rowsK w k ts nw := by
    match ts with
    | [] => rfl
    | [a] => simp only [rowsW, if_neg c1]
    | [a, b] => simp only [rowsW, if_neg c2]
    | _ :: _ :: _ :: _ => rfl
  rw [this]
  exact rows_free h hk hw ht
set_option maxHeartbeats 4000000 in
theorem lw_rows {w : String} {k nw : Kd} {ts : List Kd} (h : (w, ts.length) ∈ plTab) {n : Nat} {st : Store} : callN T (n + 1) "_law_rows" [.d (.str w), .d k.d, .d (.lst (ts.map Kd.d)), .d nw.d] st = .ok (.d (.lst ((rowsW w k ts nw).map pd))) st := by
  simp only [plTab, List.mem_cons, List.not_mem_nil, or_false, Prod.mk.injEq] at h
  apply eq_of_wp
  rw [callN_run T_f_law_rows]
  rcases h with h | h | h | h | h | h | h | h | h | h | h | h | h | h <;> obtain ⟨rfl, hl⟩ := h
  all_goals
    have im : ∀ (a b c : String) st, cmpV .isin st (.d (.str a)) (.d (.lst [.str b, .str c])) = some (decide (b = a ∨ c = a)) := fun a b c st => by
      have h1 : ∀ z : String, fine (.str z) = true := fun z => rfl
      have h2 : fine (.lst [.str b, .str c]) = true := rfl
      simp [cmpV, inB, D.mem, D.eqv, h1, h2]
    have ef : ∀ (a b : String) st, cmpV .eq st (.d (.str a)) (.d (.str b)) = some (decide (a = b)) := fun a b st => by simp [cmpV, deref, cs_eq]
  · match ts, hl with
    | [], _ =>
      simp [rowsW, rowsK, pd, Kd.d, f_law_rows, runFn, im, ef, asB, asD, asDs, asI, D.seq, Tg.slots, wipe, Tg.put, compL, compStep, conds, indexV, D.index, atI, ixN, D.bin, deref, leave, LIM_eq]
  · match ts, hl with
    | [], _ =>
      simp [rowsW, rowsK, pd, Kd.d, f_law_rows, runFn, im, ef, asB, asD, asDs, asI, D.seq, Tg.slots, wipe, Tg.put, compL, compStep, conds, indexV, D.index, atI, ixN, D.bin, deref, leave, LIM_eq]
  · match ts, hl with
    | [], _ =>
      simp [rowsW, rowsK, pd, Kd.d, f_law_rows, runFn, im, ef, asB, asD, asDs, asI, D.seq, Tg.slots, wipe, Tg.put, compL, compStep, conds, indexV, D.index, atI, ixN, D.bin, deref, leave, LIM_eq]
  · match ts, hl with
    | [a], _ =>
      simp [rowsW, rowsK, pd, Kd.d, f_law_rows, runFn, im, ef, asB, asD, asDs, asI, D.seq, Tg.slots, wipe, Tg.put, compL, compStep, conds, indexV, D.index, atI, ixN, D.bin, deref, leave, LIM_eq]
  · match ts, hl with
    | [a], _ =>
      simp [rowsW, rowsK, pd, Kd.d, f_law_rows, runFn, im, ef, asB, asD, asDs, asI, D.seq, Tg.slots, wipe, Tg.put, compL, compStep, conds, indexV, D.index, atI, ixN, D.bin, deref, leave, LIM_eq]
  · match ts, hl with
    | [a], _ =>
      simp [rowsW, rowsK, pd, Kd.d, f_law_rows, runFn, im, ef, asB, asD, asDs, asI, D.seq, Tg.slots, wipe, Tg.put, compL, compStep, conds, indexV, D.index, atI, ixN, D.bin, deref, leave, LIM_eq]
  · match ts, hl with
    | [a], _ =>
      simp [rowsW, rowsK, pd, Kd.d, f_law_rows, runFn, im, ef, asB, asD, asDs, asI, D.seq, Tg.slots, wipe, Tg.put, compL, compStep, conds, indexV, D.index, atI, ixN, D.bin, deref, leave, LIM_eq]
  · match ts, hl with
    | [a], _ =>
      simp [rowsW, rowsK, pd, Kd.d, f_law_rows, runFn, im, ef, asB, asD, asDs, asI, D.seq, Tg.slots, wipe, Tg.put, compL, compStep, conds, indexV, D.index, atI, ixN, D.bin, deref, leave, LIM_eq]
  · match ts, hl with
    | [a, b], _ =>
      simp [rowsW, rowsK, pd, Kd.d, f_law_rows, runFn, im, ef, asB, asD, asDs, asI, D.seq, Tg.slots, wipe, Tg.put, compL, compStep, conds, indexV, D.index, atI, ixN, D.bin, deref, leave, LIM_eq]
  · match ts, hl with
    | [a, b], _ =>
      simp [rowsW, rowsK, pd, Kd.d, f_law_rows, runFn, im, ef, asB, asD, asDs, asI, D.seq, Tg.slots, wipe, Tg.put, compL, compStep, conds, indexV, D.index, atI, ixN, D.bin, deref, leave, LIM_eq]
  · match ts, hl with
    | [a, b], _ =>
      simp [rowsW, rowsK, pd, Kd.d, f_law_rows, runFn, im, ef, asB, asD, asDs, asI, D.seq, Tg.slots, wipe, Tg.put, compL, compStep, conds, indexV, D.index, atI, ixN, D.bin, deref, leave, LIM_eq]
  · match ts, hl with
    | [a, b], _ =>
      simp [rowsW, rowsK, pd, Kd.d, f_law_rows, runFn, im, ef, asB, asD, asDs, asI, D.seq, Tg.slots, wipe, Tg.put, compL, compStep, conds, indexV, D.index, atI, ixN, D.bin, deref, leave, LIM_eq]
  · match ts, hl with
    | [a, b], _ =>
      simp [rowsW, rowsK, pd, Kd.d, f_law_rows, runFn, im, ef, asB, asD, asDs, asI, D.seq, Tg.slots, wipe, Tg.put, compL, compStep, conds, indexV, D.index, atI, ixN, D.bin, deref, leave, LIM_eq]
  · match ts, hl with
    | [a, b, c], _ =>
      simp [rowsW, rowsK, pd, Kd.d, f_law_rows, runFn, im, ef, asB, asD, asDs, asI, D.seq, Tg.slots, wipe, Tg.put, compL, compStep, conds, indexV, D.index, atI, ixN, D.bin, deref, leave, LIM_eq]
end Prog

namespace Prog
open Ir
theorem within_pgs {C : Calls} {st : Store} {x0 : Option Val} : ∀ (ps : List Pg), compL (compStep (eval C f_law_within_c0) (conds C f_law_within_k0) (.name 1) [x0, none]) (ps.map Pg.d) st = .ok (ps.map Pg.d) st
  | [] => rfl
  | p :: ps => by
    have h := tup_pg p
    have : compStep (eval C f_law_within_c0) (conds C f_law_within_k0) (.name 1) [x0, none] p.d st = .ok (some p.d) st := by
      generalize p.d = pd at *
      simp [compStep, Tg.put, f_law_within_c0, f_law_within_k0, conds, deref, h, asB, asD]
    simp only [List.map_cons, compL, this, Res.bind_ok, within_pgs ps]
theorem within_strs {C : Calls} {st : Store} {x0 : Option Val} (r : List D) : ∀ (xs : List String), compL (compStep (eval C f_law_within_c0) (conds C f_law_within_k0) (.name 1) [x0, none]) (xs.map D.str ++ r) st = compL (compStep (eval C f_law_within_c0) (conds C f_law_within_k0) (.name 1) [x0, none]) r st
  | [] => rfl
  | x :: xs => by
    have : compStep (eval C f_law_within_c0) (conds C f_law_within_k0) (.name 1) [x0, none] (.str x) st = .ok none st := by
      simp [compStep, Tg.put, f_law_within_c0, f_law_within_k0, conds, deref, isiV, D.tyOk, asB, asD]
    simp only [List.map_cons, List.cons_append, compL, this, Res.bind_ok, within_strs r xs]
    cases compL (compStep (eval C f_law_within_c0) (conds C f_law_within_k0) (.name 1) [x0, none]) r st <;> rfl
theorem within_val {C : Calls} {st : Store} {x0 : Option Val} (v : D) (h : isiV [.tuple] v = some (.bool false)) : compL (compStep (eval C f_law_within_c0) (conds C f_law_within_k0) (.name 1) [x0, none]) [v] st = .ok [] st := by
  have : compStep (eval C f_law_within_c0) (conds C f_law_within_k0) (.name 1) [x0, none] v st = .ok none st := by
    simp [compStep, Tg.put, f_law_within_c0, f_law_within_k0, conds, deref, h, asB, asD]
  simp only [compL, this, Res.bind_ok]
theorem within_run {n : Nat} {st : Store} {x : D} {ys zs : List D} (h : compL (compStep (eval (callN T n) f_law_within_c0) (conds (callN T n) f_law_within_k0) (.name 1) [some (.d (.tup (x :: ys))), none]) ys st = .ok zs st) : callN T (n + 1) "_law_within" [.d (.tup (x :: ys))] st = .ok (.d (.lst zs)) st := by
  have hs := sl_pg x ys
  apply eq_of_wp
  rw [callN_run T_f_law_within]
  generalize D.tup (x :: ys) = qd at *
  simp [f_law_within, runFn, deref, hs, asD, asI, D.seq, Tg.slots, wipe, h, leave]
theorem within_pg (q : Pg) (ho : q.isOff = false) {n : Nat} {st : Store} : callN T (n + 1) "_law_within" [.d q.d] st = .ok (.d (.lst (q.prt.map Pg.d))) st := by
  cases q with
  | num i => exact within_run (within_val _ rfl)
  | truth b => exact within_run (within_val _ rfl)
  | name x => exact within_run (within_val _ rfl)
  | nil => exact within_run rfl
  | off p => simp [Pg.isOff] at ho
  | one h xs p => exact within_run (by rw [within_strs]; exact within_pgs [p])
  | two h xs p q => exact within_run (by rw [within_strs]; exact within_pgs [p, q])
  | thr h xs p q r => exact within_run (by rw [within_strs]; exact within_pgs [p, q, r])
theorem lbare_pg (b : Bool) (q : Pg) (ho : q.wd ≠ "off") {n : Nat} {st : Store} : callN T (n + 1) "_law_bare" [.d (offed b q).d] st = .ok (.d (.tup [q.d, .bool b])) st := by
  obtain ⟨ys, e⟩ := d_head q
  cases b with
  | false =>
    have i0 : D.index q.d (.int 0) = some (.str q.wd) := by rw [e]; simp [D.index, atI, ixN]
    have hc : ∀ st, cmpV .eq st (.d (.str q.wd)) (.d (.str "off")) = some false := fun st => by simp [cmpV, deref, cs_eq, ho]
    simp only [offed, Bool.false_eq_true, if_false]
    generalize q.d = qd at *
    apply eq_of_wp
    rw [callN_run T_f_law_bare]
    simp [f_law_bare, runFn, ivdS, i0, hc, asB, asD, asDs, leave]
  | true =>
    have i0 : D.index (.tup [.str "off", q.d]) (.int 0) = some (.str "off") := by simp [D.index, atI, ixN]
    have i1 : D.index (.tup [.str "off", q.d]) (.int 1) = some q.d := by simp [D.index, atI, ixN]
    have hc : ∀ st, cmpV .eq st (.d (.str "off")) (.d (.str "off")) = some true := fun st => by simp [cmpV, deref, cs_eq]
    have hd : (offed true q).d = .tup [.str "off", q.d] := rfl
    rw [hd]
    generalize q.d = qd at *
    generalize D.tup [.str "off", qd] = od at *
    apply eq_of_wp
    rw [callN_run T_f_law_bare]
    simp [f_law_bare, runFn, ivdS, i0, i1, hc, asB, asD, asDs, leave]

theorem walk_turn {n E : Nat} {nm : Val} {ar pd kd : D} {s s' : Store} {x1 x4 x5 x6 x7 : Option Val} (q : callN T n "_law_walk" [.ref E, .d pd, nm, .d ar] s = .ok (.d kd) s') :
    compStep (eval (callN T n) f_law_walk_c0) (conds (callN T n) []) (.name 8) [some (.ref E), x1, some nm, some (.d ar), x4, x5, x6, x7, none] pd s = .ok (some kd) s' := by
  simp [compStep, Tg.put, f_law_walk_c0, q, asD]
set_option maxHeartbeats 4000000 in
theorem walk_run {n E V W : Nat} {pd qd kd nwd ar : D} {nm : Val} {b : Bool} {w : String} {ps ks rows : List D} {s0 s1 s2 s3 s4 s5 : Store}
    (eb : callN T n "_law_bare" [.d pd] s0 = .ok (.d (.tup [qd, .bool b])) s0) (e1 : callN T n "_law_new" [.ref E] s0 = .ok (.d kd) s1) (i2 : indexV s1 (.ref E) (.d (.int 2)) = some (.oid V)) (o1 : omOk s1 (.d (.oid V)) = true) (o2 : omV .append s1 (.d (.oid V)) [.d kd] = .ok (.d .non) s2)
    (i0 : D.index qd (.int 0) = some (.str w)) (w1 : w ≠ "name") (w2 : w ≠ "fn") (w3 : w ≠ "rec") (w4 : w ≠ "let")
    (ei : callN T n "_law_within" [.d qd] s2 = .ok (.d (.lst ps)) s2)
    (ec : compL (compStep (eval (callN T n) f_law_walk_c0) (conds (callN T n) []) (.name 8) [some (.ref E), some (.d qd), some nm, some (.d ar), some (.d (.bool b)), some (.d kd), none, none, none]) ps s2 = .ok ks s3)
    (e3 : callN T n "_law_new" [.ref E] s3 = .ok (.d nwd) s4) (er : callN T n "_law_rows" [.d (.str w), .d kd, .d (.lst ks), .d nwd] s4 = .ok (.d (.lst rows)) s4)
    (ext : b = false → indexV s4 (.ref E) (.d (.int 3)) = some (.oid W) ∧ omOk s4 (.d (.oid W)) = true ∧ omV .extend s4 (.d (.oid W)) [.d (.lst rows)] = .ok (.d .non) s5) (off : b = true → s5 = s4) (hl : s5.take s0.length = s5) :
    callN T (n + 1) "_law_walk" [.ref E, .d pd, nm, .d ar] s0 = .ok (.d kd) s5 := by
  have c2 : ∀ st, cmpV .isin st (.d (.str w)) (.d (.lst [.str "name", .str "fn", .str "rec", .str "let"])) = some false := fun st => by
    have h1 : fine (.str w) = true := rfl
    have h2 : fine (.lst [.str "name", .str "fn", .str "rec", .str "let"]) = true := rfl
    simp [cmpV, inB, D.mem, D.eqv, h1, h2, w1.symm, w2.symm, w3.symm, w4.symm]
  apply eq_of_wp
  rw [callN_run T_f_law_walk]
  cases b with
  | true =>
    obtain rfl := off rfl
    simp [f_law_walk, runFn, eb, Tg.put, Tg.puts, Tg.putV, setAll, D.seq, e1, i2, o1, o2, ivdS, i0, c2, asB, asD, asDs, ei, ec, Tg.slots, wipe, e3, er, leave, hl]
  | false =>
    obtain ⟨h1, h2, h3⟩ := ext rfl
    simp [f_law_walk, runFn, eb, Tg.put, Tg.puts, Tg.putV, setAll, D.seq, e1, i2, o1, o2, ivdS, i0, c2, asB, asD, asDs, ei, ec, Tg.slots, wipe, e3, er, h1, h2, h3, leave, hl]
end Prog

namespace Prog
open Ir
def holdP (f : Int → Kd) (rs : List (Kd × Kd)) : Prop := ∀ p ∈ rs, p.1.sub f = p.2.sub f
def Low (L : List Kd) (m : Int) : Prop := ∀ i, .free i ∈ L → 0 ≤ i ∧ i < m
theorem low_sub {L : List Kd} {m : Int} (cl : Cl L) (lo : Low L m) {u : Kd} (hu : u ∈ L) {f f' : Int → Kd} (e : ∀ i, i < m → f' i = f i) : u.sub f' = u.sub f :=
  Kd.sub_congr _ fun j hj => e j (lo j (cl.free u hu j hj)).2
/-- what the law's walk comes to -/
structure WVis (tp : (Int → Kd) → List Kd → Kd → Prop) (L : List Kd) (m : Int) (sz : Nat) (L' : List Kd) (m' : Int) (gs' : List Kd) (rs : List (Kd × Kd)) (k : Int) : Prop where
  cl : Cl L'
  low : Low L' m'
  sub : ∀ u ∈ L, u ∈ L'
  kL : .free k ∈ L'
  gL : ∀ u ∈ gs', u ∈ L'
  rL : ∀ p ∈ rs, p.1 ∈ L' ∧ p.2 ∈ L'
  nb : NB L' ≤ NB L + sz
  ln : L'.length ≤ L.length + 10 * sz
  mm : m ≤ m'
  len : gs'.length = sz
  rl : rs.length ≤ 3 * sz
  sound : ∀ f, holdP f rs → tp f (gs'.map (Kd.sub f)) (f k)
  comp : ∀ f gvs v, tp f gvs v → ∃ f', holdP f' rs ∧ (∀ i, i < m → f' i = f i) ∧ gs'.map (Kd.sub f') = gvs ∧ f' k = v
def WOk (N n e A V W : Nat) (tl : Store) (nm : Val) (ar : D) (p : Pg) (tp : (Int → Kd) → List Kd → Kd → Prop) : Prop :=
  ∀ (os : List Obj) (g : G) (m : Int) (gs : List Kd) (ps : List (Kd × Kd)) (ok : Bool) (L : List Kd), LS os (tl.set e (lsC A V W m ok)) e A V W g m gs ps ok → Cl L → Low L m → 0 ≤ m → NB L + p.pl ≤ N → L.length + 10 * p.pl ≤ 80000 → gs.length + p.pl ≤ 1000 → ps.length + 3 * p.pl ≤ 5000 →
    ∃ os' m' gs' rs L' k, callN T n "_law_walk" [.ref (e + 1), .d p.d, nm, .d ar] (.arena os :: tl.set e (lsC A V W m ok)) = .ok (.d (Kd.free k).d) (.arena os' :: tl.set e (lsC A V W m' ok)) ∧ LS os' (tl.set e (lsC A V W m' ok)) e A V W g m' (gs ++ gs') (ps ++ rs) ok ∧ WVis tp L m p.pl L' m' gs' rs k
structure KWks (tp : Pg → (Int → Kd) → List Kd → Kd → Prop) (qs : List Pg) (L : List Kd) (m : Int) (L' : List Kd) (m' : Int) (gs' : List Kd) (rs : List (Kd × Kd)) (ks : List Int) : Prop where
  cl : Cl L'
  low : Low L' m'
  sub : ∀ u ∈ L, u ∈ L'
  kL : ∀ k ∈ ks, .free k ∈ L'
  gL : ∀ u ∈ gs', u ∈ L'
  rL : ∀ p ∈ rs, p.1 ∈ L' ∧ p.2 ∈ L'
  nb : NB L' ≤ NB L + plL qs
  ln : L'.length ≤ L.length + 10 * plL qs
  mm : m ≤ m'
  len : gs'.length = plL qs
  rl : rs.length ≤ 3 * plL qs
  kl : ks.length = qs.length
  sound : ∀ f, holdP f rs → tyLf tp f qs (gs'.map (Kd.sub f)) (ks.map f)
  comp : ∀ f gvs ts, tyLf tp f qs gvs ts → ∃ f', holdP f' rs ∧ (∀ i, i < m → f' i = f i) ∧ gs'.map (Kd.sub f') = gvs ∧ ks.map f' = ts
theorem holdP_app {f : Int → Kd} {a b : List (Kd × Kd)} : holdP f (a ++ b) ↔ holdP f a ∧ holdP f b := by
  unfold holdP
  constructor
  · intro h; exact ⟨fun p hp => h p (List.mem_append_left _ hp), fun p hp => h p (List.mem_append_right _ hp)⟩
  · rintro ⟨h1, h2⟩ p hp
    rcases List.mem_append.mp hp with hp | hp
    · exact h1 p hp
    · exact h2 p hp
theorem holdP_low {L : List Kd} {m : Int} (cl : Cl L) (lo : Low L m) {rs : List (Kd × Kd)} (h : ∀ p ∈ rs, p.1 ∈ L ∧ p.2 ∈ L) {f f' : Int → Kd} (e : ∀ i, i < m → f' i = f i) (q : holdP f rs) : holdP f' rs := fun p hp => by
  rw [low_sub cl lo (h p hp).1 e, low_sub cl lo (h p hp).2 e]
  exact q p hp
theorem kids_walk {N n e A V W : Nat} {tl : Store} {nm : Val} {ar : D} {tp : Pg → (Int → Kd) → List Kd → Kd → Prop} {x1 x4 x5 x6 x7 : Option Val} : ∀ (qs : List Pg), (∀ p ∈ qs, WOk N n e A V W tl nm ar p (tp p)) →
    ∀ (os : List Obj) (g : G) (m : Int) (gs : List Kd) (ps : List (Kd × Kd)) (ok : Bool) (L : List Kd), LS os (tl.set e (lsC A V W m ok)) e A V W g m gs ps ok → Cl L → Low L m → 0 ≤ m → (∀ p ∈ qs, ∀ f f' : Int → Kd, (∀ i, i < m → f' i = f i) → ∀ gs v, tp p f gs v ↔ tp p f' gs v) → NB L + plL qs ≤ N → L.length + 10 * plL qs ≤ 80000 → gs.length + plL qs ≤ 1000 → ps.length + 3 * plL qs ≤ 5000 →
    ∃ os' m' gs' rs L' ks, compL (compStep (eval (callN T n) f_law_walk_c0) (conds (callN T n) []) (.name 8) [some (.ref (e + 1)), x1, some nm, some (.d ar), x4, x5, x6, x7, none]) (qs.map Pg.d) (.arena os :: tl.set e (lsC A V W m ok)) = .ok (ks.map fun k => (Kd.free k).d) (.arena os' :: tl.set e (lsC A V W m' ok)) ∧ LS os' (tl.set e (lsC A V W m' ok)) e A V W g m' (gs ++ gs') (ps ++ rs) ok ∧ KWks tp qs L m L' m' gs' rs ks
  | [], _, os, g, m, gs, ps, ok, L, ls, cl, lo, hm, hc, _, _, _, _ => ⟨os, m, [], [], L, [], by simp [compL], by simpa using ls, ⟨cl, lo, fun _ h => h, fun _ h => (by cases h), fun _ h => (by cases h), fun _ h => (by cases h), Nat.le_add_right _ _, Nat.le_add_right _ _, Int.le_refl _, rfl, Nat.zero_le _, rfl, fun f _ => ⟨rfl, rfl⟩, fun f gvs ts h => ⟨f, fun _ h => (by cases h), fun _ _ => rfl, h.1.symm, h.2.symm⟩⟩⟩
  | p :: qs, hv, os, g, m, gs, ps, ok, L, ls, cl, lo, hm, hc, hnb, hln, hgs, hrs => by
    have hpl : plL (p :: qs) = p.pl + plL qs := by simp [plL]
    rw [hpl] at hnb hln hgs hrs
    obtain ⟨os1, m1, gs1, rs1, L1, k, e1, ls1, v1⟩ := hv p (by simp) os g m gs ps ok L ls cl lo hm (by omega) (by omega) (by omega) (by omega)
    have hm1 := v1.mm
    have hnb1 := v1.nb
    have hln1 := v1.ln
    have hl1 := v1.len
    have hr1 := v1.rl
    obtain ⟨os2, m2, gs2, rs2, L2, ks, e2, ls2, v2⟩ := kids_walk (x1 := x1) (x4 := x4) (x5 := x5) (x6 := x6) (x7 := x7) qs (fun q hq => hv q (by simp [hq])) os1 g m1 (gs ++ gs1) (ps ++ rs1) ok L1 ls1 v1.cl v1.low (by omega) (fun q hq f f' h => hc q (by simp [hq]) f f' fun i hi => h i (by omega)) (by omega) (by omega) (by rw [List.length_append]; omega) (by rw [List.length_append]; omega)
    refine ⟨os2, m2, gs1 ++ gs2, rs1 ++ rs2, L2, k :: ks, ?_, ?_, ⟨v2.cl, v2.low, fun u hu => v2.sub u (v1.sub u hu), fun j hj => ?_, fun u hu => ?_, fun p hp => ?_, ?_, ?_, Int.le_trans hm1 v2.mm, ?_, ?_, ?_, fun f h => ?_, fun f gvs ts h => ?_⟩⟩
    · have := walk_turn (x1 := x1) (x4 := x4) (x5 := x5) (x6 := x6) (x7 := x7) e1
      simp only [List.map_cons, compL, this, Res.bind_ok, e2]
    · rw [← List.append_assoc, ← List.append_assoc]; exact ls2
    · rcases List.mem_cons.mp hj with rfl | hj
      · exact v2.sub _ v1.kL
      · exact v2.kL j hj
    · rcases List.mem_append.mp hu with hu | hu
      · exact v2.sub _ (v1.gL u hu)
      · exact v2.gL u hu
    · rcases List.mem_append.mp hp with hp | hp
      · exact ⟨v2.sub _ (v1.rL p hp).1, v2.sub _ (v1.rL p hp).2⟩
      · exact v2.rL p hp
    · have := v2.nb; rw [hpl]; omega
    · have := v2.ln; rw [hpl]; omega
    · have := v2.len; rw [hpl, List.length_append]; omega
    · have := v2.rl; rw [hpl, List.length_append]; omega
    · have := v2.kl; simp [this]
    · obtain ⟨h1, h2⟩ := holdP_app.mp h
      exact ⟨gs1.map (Kd.sub f), f k, gs2.map (Kd.sub f), ks.map f, by simp, by simp, v1.sound f h1, v2.sound f h2⟩
    · obtain ⟨ga, ta, gb, tb, rfl, rfl, h1, h2⟩ := h
      obtain ⟨f1, s1, a1, b1, c1⟩ := v1.comp f ga ta h1
      have hcc := tyLf_congr (tp := tp) (f := f) (f' := f1) qs (fun q hq gs v => hc q (by simp [hq]) f f1 a1 gs v)
      obtain ⟨f2, s2, a2, b2, c2⟩ := v2.comp f1 gb tb ((hcc _ _).mp h2)
      refine ⟨f2, holdP_app.mpr ⟨holdP_low v1.cl v1.low v1.rL a2 s1, s2⟩, fun i hi => (a2 i (by omega)).trans (a1 i hi), ?_, ?_⟩
      · rw [List.map_append, b2, ← b1]
        congr 1
        exact List.map_congr_left fun u hu => low_sub v1.cl v1.low (v1.gL u hu) a2
      · rw [List.map_cons, c2, ← c1, a2 k (v1.low k v1.kL).2]
theorem Low.fresh {L : List Kd} {m : Int} (h : Low L m) (h0 : 0 ≤ m) : Low (L ++ [.free m]) (m + 1) := fun i hi => by
  rcases List.mem_append.mp hi with hi | hi
  · have := h i hi; omega
  · simp at hi; omega
theorem LS.appG {os : List Obj} {tl : Store} {e A V W : Nat} {g : G} {m : Int} {gs : List Kd} {ps : List (Kd × Kd)} {ok : Bool} (h : LS os tl e A V W g m gs ps ok) (k : Kd) (hl : gs.length < 100000) : omOk (.arena os :: tl) (.d (.oid V)) = true ∧ omV .append (.arena os :: tl) (.d (.oid V)) [.d k.d] = .ok (.d .non) (.arena (os.set V (.lst (gs.map Kd.d ++ [k.d]))) :: tl) := by
  constructor
  · simp only [omOk, getO_ar, h.gl, Option.map_some]
  · simp only [omV, getO_ar, h.gl, Option.map_some, putO_ar, List.length_map]
    rw [if_pos (by rw [LIM_eq]; omega)]
theorem walk_node {N n e A V W : Nat} {tl : Store} {nm : Val} {ar : D} {tp : Pg → (Int → Kd) → List Kd → Kd → Prop} (hn : 1 ≤ n) (q : Pg) (hq : (q.wd, q.prt.length) ∈ plTab) (o : Bool)
    (hv : ∀ p ∈ q.prt, WOk N n e A V W tl nm ar p (tp p)) (hc : ∀ p ∈ q.prt, ∀ f f' : Int → Kd, ∀ gs v, tp p f gs v ↔ tp p f' gs v) : WOk N (n + 1) e A V W tl nm ar (offed o q) (tpN tp q o) := by
  intro os g m gs ps ok L ls cl lo hm hnb hln hgs hrs
  obtain ⟨hk, hr, w1, w2, w3, w4, w5⟩ := plTab_ok hq
  have hoff := not_off w5
  have hpl := pl_node hoff
  rw [offed_pl, hpl] at hnb hln hgs hrs
  obtain ⟨n', hn'⟩ : ∃ n', n = n' + 1 := ⟨n - 1, by omega⟩
  have ls1 := ls.tlSet (m + 1) ok
  rw [tl_set2] at ls1
  have ls2 := ls1.give (.free m)
  have cl1 : Cl (L ++ [.free m]) := cl.app (.one m)
  have lo1 := lo.fresh hm
  have hnb1 : NB (L ++ [.free m]) = NB L := by rw [NB_app]; rfl
  obtain ⟨ys, hys⟩ := d_head q
  have i0 : D.index q.d (.int 0) = some (.str q.wd) := by rw [hys]; simp [D.index, atI, ixN]
  obtain ⟨os3, m3, gs3, rs3, L3, ks, e3, ls3, v3⟩ := kids_walk (tp := tp) (nm := nm) (ar := ar) (tl := tl) (x1 := some (.d q.d)) (x4 := some (.d (.bool o))) (x5 := some (.d (Kd.free m).d)) (x6 := none) (x7 := none) q.prt hv _ g (m + 1) _ ps ok _ ls2 cl1 lo1 (by omega) (fun p hp f f' _ => hc p hp f f') (by rw [hnb1]; omega) (by rw [List.length_append]; simp; omega) (by rw [List.length_append]; simp; omega) (by omega)
  have hnb3 := v3.nb
  have hln3 := v3.ln
  rw [hnb1] at hnb3
  rw [List.length_append] at hln3
  simp only [List.length_cons, List.length_nil] at hln3
  have hmm := v3.mm
  have hrl := v3.rl
  have ls4 := ls3.tlSet (m3 + 1) ok
  rw [tl_set2] at ls4
  have cl4 : Cl (L3 ++ [.free m3]) := v3.cl.app (.one m3)
  have lo4 := v3.low.fresh (by omega)
  have hkl := v3.kl
  have rf := rowsW_free (w := q.wd) (k := .free m) (nw := .free m3) (ts := ks.map .free) (by rw [List.length_map, hkl]; exact hq) rfl rfl (fun t ht => by obtain ⟨i, _, rfl⟩ := List.mem_map.mp ht; rfl)
  have er := lw_rows (w := q.wd) (k := .free m) (nw := .free m3) (ts := ks.map .free) (by rw [List.length_map, hkl]; exact hq) (n := n') (st := .arena os3 :: tl.set e (lsC A V W (m3 + 1) ok))
  rw [List.map_map] at er
  have hB : ∀ u ∈ Kd.free m :: .free m3 :: ks.map .free, u ∈ L3 ++ [.free m3] := fun u hu => by
    rcases List.mem_cons.mp hu with rfl | hu
    · exact List.mem_append_left _ (v3.sub _ (by simp))
    rcases List.mem_cons.mp hu with rfl | hu
    · simp
    · obtain ⟨i, hi, rfl⟩ := List.mem_map.mp hu
      exact List.mem_append_left _ (v3.kL i hi)
  have hrow := fun f : Int → Kd => rowsW_iff f q.wd (.free m) (ks.map .free) (.free m3)
  generalize hrows : rowsW q.wd (.free m) (ks.map .free) (.free m3) = rows at *
  have hrlen : rows.length ≤ 3 := by have := rf.len; rwa [List.length_map] at this
  have cl5 : Cl ((L3 ++ [.free m3]) ++ rows.map Prod.snd) := fun u hu c hc => by
    rcases List.mem_append.mp hu with hu | hu
    · exact List.mem_append_left _ (cl4 u hu c hc)
    · exact List.mem_append_left _ (hB c (rf.kids u hu c hc))
  have lo5 : Low ((L3 ++ [.free m3]) ++ rows.map Prod.snd) (m3 + 1) := fun i hi => by
    rcases List.mem_append.mp hi with hi | hi
    · exact lo4 i hi
    · exact lo4 i (hB _ (rf.free i hi))
  have hrm : ∀ p ∈ rows, p.1 ∈ (L3 ++ [.free m3]) ++ rows.map Prod.snd ∧ p.2 ∈ (L3 ++ [.free m3]) ++ rows.map Prod.snd := fun p hp => ⟨List.mem_append_left _ (hB _ (rf.one p hp)), List.mem_append_right _ (List.mem_map.mpr ⟨p, hp, rfl⟩)⟩
  have hnb5 : NB ((L3 ++ [Kd.free m3]) ++ rows.map Prod.snd) ≤ NB L + plL q.prt + 1 := by
    rw [NB_app, NB_app]
    have : NB [Kd.free m3] = 0 := rfl
    have := rf.nb
    omega
  have hln5 : ((L3 ++ [Kd.free m3]) ++ rows.map Prod.snd).length ≤ L.length + 10 * plL q.prt + 10 := by
    rw [List.length_append, List.length_append]
    have := rf.len
    simp only [List.length_cons, List.length_nil]
    omega
  have hsubL : ∀ u ∈ L3, u ∈ (L3 ++ [.free m3]) ++ rows.map Prod.snd := fun u hu => List.mem_append_left _ (List.mem_append_left _ hu)
  have hmL : Kd.free m ∈ L3 := v3.sub _ (by simp)
  have hfr1 := lw_new ls (n := n')
  rw [tl_set2] at hfr1
  have hfr3 := lw_new ls3 (n := n')
  rw [tl_set2] at hfr3
  have happ := ls1.appG (.free m) (by omega)
  have mk : ∀ rs' : List (Kd × Kd), (∀ p ∈ rs', p ∈ rows) → (rs'.length ≤ 3) → (o = false → rs' = rows) → (o = true → rs' = []) → WVis (tpN tp q o) L m (offed o q).pl ((L3 ++ [.free m3]) ++ rows.map Prod.snd) (m3 + 1) (.free m :: gs3) (rs3 ++ rs') m := fun rs' hrs' hl' hro hrt => by
    refine ⟨cl5, lo5, fun u hu => hsubL u (v3.sub u (List.mem_append_left _ hu)), hsubL _ hmL, fun u hu => ?_, fun p hp => ?_, ?_, ?_, by omega, ?_, ?_, fun f h => ?_, fun f gvs v h => ?_⟩
    · rcases List.mem_cons.mp hu with rfl | hu
      · exact hsubL _ hmL
      · exact hsubL _ (v3.gL u hu)
    · rcases List.mem_append.mp hp with hp | hp
      · exact ⟨hsubL _ (v3.rL p hp).1, hsubL _ (v3.rL p hp).2⟩
      · exact hrm p (hrs' p hp)
    · rw [offed_pl, hpl]; omega
    · rw [offed_pl, hpl]; omega
    · rw [offed_pl, hpl, List.length_cons, v3.len]
    · rw [offed_pl, hpl, List.length_append]; omega
    · obtain ⟨h1, h2⟩ := holdP_app.mp h
      refine ⟨gs3.map (Kd.sub f), ks.map f, rfl, v3.sound f h1, fun ho => ?_⟩
      rw [hro ho] at h2
      have h3 := Hk_of ((hrow f).mp h2)
      rw [List.map_map] at h3
      exact h3
    · obtain ⟨gv1, ts, rfl, h1, h2⟩ := h
      have h1' := (tyLf_congr (tp := tp) (f := f) (f' := upd f m v) q.prt (fun p hp => hc p hp f _) _ _).mp h1
      obtain ⟨f2, s2, a2, b2, c2⟩ := v3.comp _ gv1 ts h1'
      have am : f2 m = v := by rw [a2 m (by omega), upd_at]
      have al : ∀ i, i < m → f2 i = f i := fun i hi => by rw [a2 i (by omega), upd_lt hi]
      by_cases ho : o = false
      · obtain ⟨w', hw⟩ := h2 ho
        have hlow : ∀ i, i < m3 → upd f2 m3 w' i = f2 i := fun i hi => upd_lt hi
        refine ⟨upd f2 m3 w', holdP_app.mpr ⟨holdP_low v3.cl v3.low v3.rL hlow s2, ?_⟩, fun i hi => by rw [upd_lt (by omega), al i hi], ?_, by rw [upd_lt (by omega), am]⟩
        · rw [hro ho]
          refine (hrow _).mpr fun p hp => ?_
          have hs := rowsK_sub (upd f2 m3 w') q.wd (.free m) (ks.map .free) (.free m3)
          rw [List.map_map] at hs
          have h3 : (ks.map (Kd.sub (upd f2 m3 w') ∘ Kd.free)) = ts := by
            rw [← c2]
            exact List.map_congr_left fun i hi => upd_lt (v3.low i (v3.kL i hi)).2
          have h4 : (Kd.free m).sub (upd f2 m3 w') = v := by
            show upd f2 m3 w' m = v
            rw [upd_lt (by omega), am]
          have h5 : (Kd.free m3).sub (upd f2 m3 w') = w' := upd_at _ _ _
          rw [h3, h4, h5] at hs
          exact hw (subP (upd f2 m3 w') p) (by rw [← hs]; exact List.mem_map.mpr ⟨p, hp, rfl⟩)
        · rw [List.map_cons, ← b2]
          congr 1
          · show upd f2 m3 w' m = v
            rw [upd_lt (by omega), am]
          · exact List.map_congr_left fun u hu => low_sub v3.cl v3.low (v3.gL u hu) hlow
      · refine ⟨f2, holdP_app.mpr ⟨s2, ?_⟩, al, ?_, am⟩
        · rw [hrt (by cases o; exact absurd rfl ho; rfl)]; exact fun p hp => by cases hp
        · rw [List.map_cons, b2]
          congr 1
  have htk : ∀ (x : List Obj) (c : Cell), List.take (List.length (Cell.arena os :: tl.set e (lsC A V W m ok))) (Cell.arena x :: tl.set e c) = .arena x :: tl.set e c := fun x c => List.take_of_length_le (by simp)
  have hgs3 : gs ++ [Kd.free m] ++ gs3 = gs ++ (.free m :: gs3) := by simp
  subst hn'
  cases ho : o with
  | true =>
    subst ho
    refine ⟨_, m3 + 1, .free m :: gs3, rs3 ++ [], _, m, ?_, by rw [List.append_nil, ← hgs3]; exact ls4, mk [] (fun p hp => by cases hp) (by simp) (fun h => by cases h) fun _ => rfl⟩
    exact walk_run (V := V) (W := W) (s5 := .arena os3 :: tl.set e (lsC A V W (m3 + 1) ok)) (lbare_pg true q w5) hfr1 ls1.ix2 happ.1 happ.2 i0 w1 w2 w3 w4 (within_pg q hoff) e3 hfr3 er (fun h => by cases h) (fun _ => rfl) (htk _ _)
  | false =>
    subst ho
    obtain ⟨x1, x2⟩ := sol_ext (rs := rows) ls4 (by rw [List.length_append]; omega)
    have ls5 := ls4.pendE (ps' := (ps ++ rs3) ++ rows)
    refine ⟨_, m3 + 1, .free m :: gs3, rs3 ++ rows, _, m, ?_, by rw [← List.append_assoc, ← hgs3]; exact ls5, mk rows (fun p hp => hp) hrlen (fun _ => rfl) fun h => by cases h⟩
    exact walk_run (lbare_pg false q w5) hfr1 ls1.ix2 happ.1 happ.2 i0 w1 w2 w3 w4 (within_pg q hoff) e3 hfr3 er (fun _ => ⟨ls4.ix3, x1, x2⟩) (fun h => by cases h) (htk _ _)
theorem walk_pln {N e A V W : Nat} {tl : Store} {nm : Val} {ar : D} (ρ : Rh) : ∀ (s : Nat) (p : Pg) (n : Nat), sizeOf p < s → p.pln → 2 + p.h ≤ n → WOk N n e A V W tl nm ar p (fun _ gs v => p.ty ρ false gs v)
  | 0, p, n, h, _, _ => by omega
  | s + 1, p, n, hs, hp, hn => by
    obtain ⟨o, q, rfl, hq, ho, hsz, hh⟩ := pln_core hp
    obtain ⟨ht, hk⟩ := pln_node hq ho
    obtain ⟨n, rfl⟩ : ∃ n', n = n' + 1 := ⟨n - 1, by omega⟩
    rw [← tpN_ty ht ρ o]
    exact walk_node (by omega) q ht o (fun p hp => walk_pln ρ s p n (by have := (hk p hp).2.2; omega) (hk p hp).1 (by have := (hk p hp).2.1; omega)) (fun p hp f f' gs v => Iff.rfl)
end Prog

namespace Prog
open Ir
theorem Kd.frl_seen : ∀ (k : Kd) (s : List Int), k.frl.foldl addI s = k.seen s
  | .int, _ => rfl
  | .bool, _ => rfl
  | .list a, s => a.frl_seen s
  | .fn a b, s => by simp only [Kd.frl, Kd.seen, List.foldl_append, a.frl_seen, b.frl_seen]
  | .pair a b, s => by simp only [Kd.frl, Kd.seen, List.foldl_append, a.frl_seen, b.frl_seen]
  | .free i, s => rfl
theorem foldl_addI_len : ∀ (l s : List Int), s.length ≤ (l.foldl addI s).length
  | [], s => Nat.le_refl _
  | i :: l, s => by
    have := foldl_addI_len l (addI s i)
    have h : s.length ≤ (addI s i).length := by obtain ⟨u, g⟩ := addI_ext s i; rw [g]; simp
    simp only [List.foldl_cons]; omega
theorem putK_old (g : Int → D) {j : Int} {s : List Int} (h : j ∈ s) : putK (dG g s) (.int j) (g j) = dG g s := by
  unfold putK
  rw [any_dG, if_pos (by simpa using h)]
  unfold dG
  rw [List.map_map]
  refine List.map_congr_left fun i _ => ?_
  simp only [Function.comp, D.eqv]
  by_cases e : i = j
  · subst e; simp
  · simp [e]
def dN (s : List Int) : List (D × D) := dG (fun i => .tup [.str "free", .int (ix s i)]) s
set_option maxHeartbeats 2000000 in
theorem nmx_turn {C : Calls} {st : Store} {d : Nat} {s : List Int} {i : Int} {x0 x2 : Option Val} (hd : st[d]? = some (.dic (dN s))) (hl : s.length < LIM) :
    execs C f_law_named_b0 [x0, some (.ref d), x2, some (.d (.int i))] st = .ok (.nx [x0, some (.ref d), x2, some (.d (.int i))]) (st.set d (.dic (dN (addI s i)))) := by
  have hk : lookK (dN s) (.int i) = if i ∈ s then some (.tup [.str "free", .int (ix s i)]) else none := by unfold dN; rw [lookK_dG]
  have hdl : (dN s).length = s.length := by unfold dN; rw [dG_len]
  by_cases c : i ∈ s
  · have hp : putK (dN s) (.int i) (.tup [.str "free", .int (ix s i)]) = dN s := putK_old _ c
    have ha : addI s i = s := by simp [addI, c]
    rw [ha]
    simp [f_law_named_b0, cmpV, inB, indexV, D.index, atI, ixN, hd, D.key, hk, c, asB, asDs, setV, asD, hl, hdl, hp]
  · have hp : putK (dN s) (.int i) (.tup [.str "free", .int s.length]) = dN (s ++ [i]) := by
      unfold dN; rw [putK_dG _ c, dG_ext c (fun j => .tup [.str "free", .int j])]
    simp [f_law_named_b0, cmpV, inB, hd, D.key, hk, c, asB, asDs, bltV, lenDic, setV, asD, hl, hdl, hp, addI]
theorem nmx_loop {C : Calls} {d : Nat} {x0 x2 : Option Val} : ∀ (l : List Int) (st : Store) (s : List Int) (x3 : Option Val), st[d]? = some (.dic (dN s)) → (l.foldl addI s).length < LIM →
    ∃ x3', loopL (Tg.name 3).putF (execs C f_law_named_b0) (l.map .int) [x0, some (.ref d), x2, x3] st = .ok (.nx [x0, some (.ref d), x2, x3']) (st.set d (.dic (dN (l.foldl addI s))))
  | [], st, s, x3, hd, hl => ⟨x3, by simp [loopL, set_same hd]⟩
  | i :: l, st, s, x3, hd, hl => by
    simp only [List.foldl_cons] at hl ⊢
    have h1 := foldl_addI_len l (addI s i)
    have h2 : s.length ≤ (addI s i).length := by obtain ⟨u, g⟩ := addI_ext s i; rw [g]; simp
    have e := nmx_turn (C := C) (i := i) (x0 := x0) (x2 := x2) hd (by omega)
    obtain ⟨x3', e2⟩ := nmx_loop (C := C) (x0 := x0) (x2 := x2) l _ (addI s i) (some (.d (.int i))) (set_at hd _) hl
    refine ⟨x3', ?_⟩
    simp only [List.set_set] at e2
    generalize hB : f_law_named_b0 = B at *
    simp [loopL, Tg.putF_eq, Tg.put, e, e2]
theorem nmx_outer {n d : Nat} {x0 : Option Val} : ∀ (ks : List Kd) (st : Store) (s : List Int) (x2 x3 : Option Val), (∀ k ∈ ks, k.h + 2 ≤ n ∧ k.frl.length < 100000) → st[d]? = some (.dic (dN s)) → (seenAll ks s).length < LIM →
    ∃ x2' x3', loopL (Tg.name 2).putF (execs (callN T n) f_law_named_b1) (ks.map Kd.d) [x0, some (.ref d), x2, x3] st = .ok (.nx [x0, some (.ref d), x2', x3']) (st.set d (.dic (dN (seenAll ks s))))
  | [], st, s, x2, x3, _, hd, hl => ⟨x2, x3, by simp [loopL, seenAll, set_same hd]⟩
  | k :: ks, st, s, x2, x3, hn, hd, hl => by
    have hk : seenAll (k :: ks) s = seenAll ks (k.seen s) := rfl
    rw [hk] at hl ⊢
    have hsl : (k.seen s).length ≤ (seenAll ks (k.seen s)).length := by obtain ⟨u, g⟩ := seenAll_ext ks (k.seen s); rw [g]; simp
    have e := lw_frees (st := st) n k (hn k (by simp)).1 (hn k (by simp)).2
    obtain ⟨x3', e1⟩ := nmx_loop (C := callN T n) (x0 := x0) (x2 := some (.d k.d)) k.frl st s x3 hd (by rw [k.frl_seen]; omega)
    rw [k.frl_seen] at e1
    obtain ⟨x2', x3'', e2⟩ := nmx_outer (n := n) (x0 := x0) ks _ (k.seen s) (some (.d k.d)) x3' (fun k' h => hn k' (List.mem_cons_of_mem _ h)) (set_at hd _) hl
    simp only [List.set_set] at e2
    refine ⟨x2', x3'', ?_⟩
    have eb : execs (callN T n) f_law_named_b1 [x0, some (.ref d), some (.d k.d), x3] st = .ok (.nx [x0, some (.ref d), some (.d k.d), x3']) (st.set d (.dic (dN (k.seen s)))) := by
      generalize k.frl.map D.int = fl at *
      generalize k.d = kd at *
      unfold f_law_named_b1
      generalize hB : f_law_named_b0 = B at *
      simp [e, asD, D.seq, e1]
    generalize hB : f_law_named_b1 = B at *
    simp [loopL, Tg.putF_eq, Tg.put, eb, e2]
theorem lc_item {C : Calls} {s : Store} {d : Nat} {x1 : Option Val} {k r : Kd} (q : C "_law_copied" [.d (.lst []), .d k.d, .ref d] s = .ok (.d r.d) s) :
    compStep (eval C f_law_copied_c0) (conds C []) (.name 3) [some (.d (.lst [])), x1, some (.ref d), none] k.d s = .ok (some r.d) s := by
  have hi := kd_tupV k
  generalize k.d = kd at *
  simp [compStep, Tg.put, f_law_copied_c0, deref, hi, asB, q, asD]
theorem lc_head {C : Calls} {s : Store} {d : Nat} {x1 : Option Val} (z : String) :
    compStep (eval C f_law_copied_c0) (conds C []) (.name 3) [some (.d (.lst [])), x1, some (.ref d), none] (.str z) s = .ok (some (.str z)) s := by
  simp [compStep, Tg.put, f_law_copied_c0, deref, asB, asD, D.tyOk]
theorem lnv_map {u : Kd} (h : u.nv) (f : Int → Int) : (u.map f).d = .tup (.str u.head :: u.kids.map fun c => (c.map f).d) := by
  cases u with
  | free i => exact h.elim
  | _ => simp [Kd.d, Kd.head, Kd.kids, Kd.map]
theorem has_kid {u c : Kd} (h : c ∈ u.kids) {i : Int} (q : c.has i) : u.has i := by
  cases u <;> simp [Kd.kids] at h
  · subst h; exact q
  · rcases h with rfl | rfl
    · exact .inl q
    · exact .inr q
  · rcases h with rfl | rfl
    · exact .inl q
    · exact .inr q
theorem lw_copied {st : Store} {d : Nat} {s : List Int} (hd : st[d]? = some (.dic (dN s))) : ∀ (n : Nat) (k : Kd), k.h + 1 ≤ n → (∀ i, k.has i → i ∈ s) → callN T n "_law_copied" [.d (.lst []), .d k.d, .ref d] st = .ok (.d (k.map (ix s)).d) st := by
  intro n
  induction n with
  | zero => intro k hh; omega
  | succ n ih =>
    intro k hh hs
    have i0 := kd_ix0 k
    by_cases hv : k.nv
    · have fc := nv_c hv
      have e2 := comp_const (f := compStep (eval (callN T n) f_law_copied_c0) (conds (callN T n) []) (.name 3) [some (.d (.lst [])), some (.d k.d), some (.ref d), none]) (st := st) Kd.d (fun c => (c.map (ix s)).d) k.kids (fun c hc => lc_item (ih c (by have := kid_lt hc; omega) fun i q => hs i (has_kid hc q)))
      have ec : compL (compStep (eval (callN T n) f_law_copied_c0) (conds (callN T n) []) (.name 3) [some (.d (.lst [])), some (.d k.d), some (.ref d), none]) (.str k.head :: k.kids.map Kd.d) st = .ok (.str k.head :: k.kids.map fun c => (c.map (ix s)).d) st := by
        simp only [compL, lc_head, Res.bind_ok, e2]
      rw [lnv_map hv]
      have hseq : k.d.seq = some (.str k.head :: k.kids.map Kd.d) := by rw [lnv_d hv]; rfl
      have hbt : ∀ xs st, bltV .tuple [.d (.lst xs)] st = .ok (.d (.tup xs)) st := fun xs st => by simp [bltV, bltD, derefs, deref, D.blt, D.bTuple]
      generalize (D.str k.head :: k.kids.map fun c => (c.map (ix s)).d) = rl at *
      generalize (D.str k.head :: k.kids.map Kd.d) = ul at *
      generalize k.d = kd at *
      apply eq_of_wp
      rw [callN_run T_f_law_copied]
      simp [f_law_copied, runFn, ivdS, i0, fc, asB, asD, hseq, Tg.slots, wipe, ec, hbt, leave]
    · cases k with
      | free i =>
        have fc := free_c i
        have i1 := free_ix1 i
        have hk : lookK (dN s) (.int i) = some (.tup [.str "free", .int (ix s i)]) := by
          unfold dN; rw [lookK_dG, if_pos (hs i rfl)]
        have hd2 : ((Kd.free i).map (ix s)).d = .tup [.str "free", .int (ix s i)] := rfl
        rw [hd2]
        generalize (Kd.free i).d = kd at *
        apply eq_of_wp
        rw [callN_run T_f_law_copied]
        simp [f_law_copied, runFn, ivdS, i0, i1, fc, asB, mthOk, hd, mthV, mGet, D.key, hk, leave]
      | _ => exact absurd trivial hv
set_option maxHeartbeats 2000000 in
theorem lw_named {n : Nat} {st : Store} (ks : List Kd) (hn : ∀ k ∈ ks, k.h + 2 ≤ n ∧ k.frl.length < 100000) (hl : (seenAll ks []).length < LIM) :
    callN T (n + 1) "_law_named" [.d (.lst (ks.map Kd.d))] st = .ok (.d (.lst ((renAll ks []).map Kd.d))) st := by
  obtain ⟨x2, x3, e⟩ := nmx_outer (n := n) (d := st.length) (x0 := some (.d (.lst (ks.map Kd.d)))) ks (st ++ [.dic (dN [])]) [] none none hn (get_push st _) hl
  rw [set_push] at e
  have e0 : dN [] = [] := rfl
  rw [e0] at e
  have ep := fun k hk => lw_copied (st := st ++ [.dic (dN (seenAll ks []))]) (d := st.length) (s := seenAll ks []) (get_push st _) n k (by have := (hn k hk).1; omega) (fun i q => seenAll_has ks [] k i hk q)
  have ec := comp_const (f := compStep (eval (callN T n) f_law_named_c0) (conds (callN T n) []) (.name 2) [some (.d (.lst (ks.map Kd.d))), some (.ref st.length), none, x3]) (st := st ++ [.dic (dN (seenAll ks []))]) Kd.d (fun k => (k.map (ix (seenAll ks []))).d) ks (fun k hk => by
    have := ep k hk
    generalize k.d = kd at *
    simp [compStep, Tg.put, f_law_named_c0, this, asDs, asD])
  have hm : (renAll ks []).map Kd.d = ks.map fun k => (k.map (ix (seenAll ks []))).d := by rw [renAll_eq]; simp
  rw [hm]
  rw [callN_run T_f_law_named]
  generalize hB : f_law_named_b1 = B at *
  generalize ks.map Kd.d = kl at *
  generalize (ks.map fun k => (k.map (ix (seenAll ks []))).d) = rl at *
  simp [runFn, f_law_named, hB, Tg.putV, asD, D.seq, e, Tg.slots, wipe, ec, leave]
end Prog

namespace Prog
open Ir
set_option maxHeartbeats 4000000 in
theorem renamed_long {T : Tab} (hT : T "renamed" = some f_renamed) {d : Nat} : ∀ (k : Kd) (n : Nat) (st : Store) (s : List Int), k.h + 1 ≤ n → (k.seen s).length < LIM → st[d]? = some (.dic (dP s)) →
    callN T n "renamed" [.d k.d, .ref d] st = .ok (.d (k.ren s).d) (st.set d (.dic (dP (k.seen s)))) := by
  intro k
  induction k with
  | int =>
    intro n st s hn hl hd
    obtain ⟨n, rfl⟩ : ∃ n', n = n' + 1 := ⟨n - 1, by omega⟩
    rw [callN_run hT]
    simp [runFn, f_renamed, Kd.d, Tg.putV, Tg.put, D.seq, setAll, cmpV, deref, D.cmp, fine, D.dep, D.eqv, asB, asDs, asD, compL, bltV, bltD, derefs, D.blt, D.bTuple, D.bin, LIM_eq, leave, Kd.ren, Kd.seen, set_same hd]
  | bool =>
    intro n st s hn hl hd
    obtain ⟨n, rfl⟩ : ∃ n', n = n' + 1 := ⟨n - 1, by omega⟩
    rw [callN_run hT]
    simp [runFn, f_renamed, Kd.d, Tg.putV, Tg.put, D.seq, setAll, cmpV, deref, D.cmp, fine, D.dep, D.eqv, asB, asDs, asD, compL, bltV, bltD, derefs, D.blt, D.bTuple, D.bin, LIM_eq, leave, Kd.ren, Kd.seen, set_same hd]
  | list a ih =>
    intro n st s hn hl hd
    obtain ⟨n, rfl⟩ : ∃ n', n = n' + 1 := ⟨n - 1, by omega⟩
    simp only [Kd.h, Kd.seen] at hn hl
    have e1 := ih n st s (by omega) (by omega) hd
    rw [callN_run hT]
    simp [runFn, f_renamed, Kd.d, Tg.putV, Tg.put, D.seq, setAll, cmpV, deref, D.cmp, fine, D.dep, D.eqv, asB, asDs, asD, compL, compStep, Tg.slots, wipe, e1, bltV, bltD, derefs, D.blt, D.bTuple, D.bin, LIM_eq, leave, take_set, Kd.ren, Kd.seen]
  | fn a b iha ihb =>
    intro n st s hn hl hd
    obtain ⟨n, rfl⟩ : ∃ n', n = n' + 1 := ⟨n - 1, by omega⟩
    simp only [Kd.h, Kd.seen] at hn hl
    have hsl : (a.seen s).length ≤ (b.seen (a.seen s)).length := by obtain ⟨u, g⟩ := b.seen_ext (a.seen s); rw [g]; simp
    have e1 := iha n st s (by omega) (by omega) hd
    have e2 := ihb n _ (a.seen s) (by omega) (by omega) (set_at hd _)
    simp only [List.set_set] at e2
    rw [callN_run hT]
    simp [runFn, f_renamed, Kd.d, Tg.putV, Tg.put, D.seq, setAll, cmpV, deref, D.cmp, fine, D.dep, D.eqv, asB, asDs, asD, compL, compStep, Tg.slots, wipe, e1, e2, bltV, bltD, derefs, D.blt, D.bTuple, D.bin, LIM_eq, leave, take_set, Kd.ren, Kd.seen]
  | pair a b iha ihb =>
    intro n st s hn hl hd
    obtain ⟨n, rfl⟩ : ∃ n', n = n' + 1 := ⟨n - 1, by omega⟩
    simp only [Kd.h, Kd.seen] at hn hl
    have hsl : (a.seen s).length ≤ (b.seen (a.seen s)).length := by obtain ⟨u, g⟩ := b.seen_ext (a.seen s); rw [g]; simp
    have e1 := iha n st s (by omega) (by omega) hd
    have e2 := ihb n _ (a.seen s) (by omega) (by omega) (set_at hd _)
    simp only [List.set_set] at e2
    rw [callN_run hT]
    simp [runFn, f_renamed, Kd.d, Tg.putV, Tg.put, D.seq, setAll, cmpV, deref, D.cmp, fine, D.dep, D.eqv, asB, asDs, asD, compL, compStep, Tg.slots, wipe, e1, e2, bltV, bltD, derefs, D.blt, D.bTuple, D.bin, LIM_eq, leave, take_set, Kd.ren, Kd.seen]
  | free i =>
    intro n st s hn hl hd
    obtain ⟨n, rfl⟩ : ∃ n', n = n' + 1 := ⟨n - 1, by omega⟩
    simp only [Kd.seen] at hl
    have hlen : (dP s).length < LIM := by
      have : s.length ≤ (addI s i).length := by obtain ⟨u, g⟩ := addI_ext s i; rw [g]; simp
      simp only [dP, dG_len]; omega
    have hk := lookK_dG (fun i => .int (ix s i)) i s
    have hlb := len_dic hd
    rw [callN_run hT]
    by_cases hi : i ∈ s
    · rw [if_pos hi] at hk
      have e := setdefault_old (v := .int ((dP s).length : Nat)) hd hlen hk
      simp [runFn, f_renamed, Kd.d, Tg.putV, Tg.put, D.seq, setAll, cmpV, deref, D.cmp, fine, D.dep, D.eqv, asB, asDs, mthOk, hd, indexV, D.index, atI, ixN, hlb, mthV, e, leave, Kd.ren, Kd.seen, addI, hi, set_same hd]
    · rw [if_neg hi] at hk
      have e := setdefault_new (v := .int ((dP s).length : Nat)) hd hlen hk
      have e3 : putK (dP s) (.int i) (.int ((dP s).length : Nat)) = dP (s ++ [i]) := by
        unfold dP
        rw [putK_dG _ hi, dG_ext hi fun x => .int x, dG_len]
      rw [e3] at e
      have hlen2 : ((dP s).length : Int) = s.length := by simp [dP, dG_len]
      rw [hlen2] at e hlb
      simp [runFn, f_renamed, Kd.d, Tg.putV, Tg.put, D.seq, setAll, cmpV, deref, D.cmp, fine, D.dep, D.eqv, asB, asDs, mthOk, hd, indexV, D.index, atI, ixN, hlb, mthV, e, leave, take_set, Kd.ren, Kd.seen, addI, hi, ix_new hi]
/-- a comprehension over kinds that goes on with a dict -/
theorem comp_renl {T : Tab} (hT : T "renamed" = some f_renamed) {d n : Nat} {σ : Env} (hσ : ∀ x : D, (σ.set 2 (some (.d x)))[2]? = some (some (.d x))) (hd1 : σ[1]? = some (some (.ref d))) : ∀ (ks : List Kd) (st : Store) (s : List Int), (∀ k ∈ ks, k.h + 1 ≤ n) → (seenAll ks s).length < LIM → st[d]? = some (.dic (dP s)) →
    compL (compStep (eval (callN T n) (.call "renamed" [.var 2, .var 1])) (conds (callN T n) []) (.name 2) σ) (ks.map Kd.d) st = .ok ((renAll ks s).map Kd.d) (st.set d (.dic (dP (seenAll ks s))))
  | [], st, s, _, _, hd => by simp [compL, renAll, seenAll, set_same hd]
  | k :: ks, st, s, hn, hl, hd => by
    have hk : seenAll (k :: ks) s = seenAll ks (k.seen s) := rfl
    rw [hk] at hl
    have hsl : (k.seen s).length ≤ (seenAll ks (k.seen s)).length := by obtain ⟨u, g⟩ := seenAll_ext ks (k.seen s); rw [g]; simp
    have e1 := renamed_long hT k n st s (hn k (by simp)) (by omega) hd
    have e2 := comp_renl hT hσ hd1 ks _ (k.seen s) (fun k' h => hn k' (List.mem_cons_of_mem _ h)) (by omega) (set_at hd _)
    simp only [List.set_set] at e2
    have h21 : ∀ x : D, (σ.set 2 (some (.d x)))[1]? = some (some (.ref d)) := fun x => by rw [List.getElem?_set_ne (by decide)]; exact hd1
    simp [compL, compStep, Tg.put, hσ, h21, e1, e2, asD, renAll, seenAll]
set_option maxHeartbeats 2000000 in
theorem named_long {T : Tab} (hT : T "renamed" = some f_renamed) (hN : T "named" = some f_named) {n : Nat} {st : Store} (ks : List Kd) (hn : ∀ k ∈ ks, k.h + 1 ≤ n) (hl : (seenAll ks []).length < LIM) :
    callN T (n + 1) "named" [.d (.lst (ks.map Kd.d))] st = .ok (.ref st.length) (st ++ [.lst ((renAll ks []).map Kd.d)]) := by
  have e := comp_renl hT (d := st.length) (n := n) (σ := [some (.d (.lst (ks.map Kd.d))), some (.ref st.length), none]) (fun x => rfl) rfl ks (st ++ [.dic (dP [])]) [] hn hl (get_push st _)
  rw [callN_run hN]
  rw [set_push] at e
  have e0 : dP [] = [] := rfl
  rw [e0] at e
  simp [runFn, f_named, Tg.putV, asD, D.seq, Tg.slots, wipe, e, leave]
end Prog

namespace Prog
open Ir
theorem pushO_a (os : List Obj) (tl : Store) (o : Obj) : pushO (.arena os :: tl) o = .ok (.d (.oid os.length)) (.arena (os ++ [o]) :: tl) := rfl
theorem fldV_a {os : List Obj} {tl : Store} {r : Nat} {c f : String} : fldV (.arena os :: tl) (.d (.oid r)) c f = match os[r]? with
    | some (.inst c' fs) => if c' = c then lookF f fs else none
    | _ => none := by
  simp only [fldV, getO_ar]
  cases os[r]? with
  | none => rfl
  | some o => cases o <;> rfl
theorem setFV_a {os : List Obj} {tl : Store} {r : Nat} {c f : String} {d : D} : setFV (.arena os :: tl) (.d (.oid r)) c f d = match os[r]? with
    | some (.inst c' fs) => if c' = c ∧ fs.length < 1000 then some (.arena (os.set r (.inst c (putFd f d fs))) :: tl) else none
    | _ => none := by
  simp only [setFV, getO_ar]
  cases os[r]? with
  | none => rfl
  | some o => cases o <;> simp
set_option maxHeartbeats 2000000 in
theorem sinit_ok {n : Nat} {os : List Obj} {tl : Store} : callN T (n + 1) "Solver.__init__" [.d (.oid os.length)] (.arena (os ++ [.inst "Solver" []]) :: tl) = .ok (.d .non) (.arena (os ++ [svO (os.length + 1) 0, .dic []]) :: tl) := by
  apply eq_of_wp
  rw [callN_run T_f_Solver___init__]
  have h1 : ∀ X : Obj, (os ++ [X])[os.length]? = some X := fun X => by simp
  have h3 : ∀ X Y : Obj, (os ++ [X, Y])[os.length]? = some X := fun X Y => by simp
  have h4 : ∀ X Y Z : Obj, (os ++ [X, Y]).set os.length Z = os ++ [Z, Y] := fun X Y Z => by simp
  simp [f_Solver___init__, runFn, setFV_a, pushO_a, putFd, asD, h1, h3, h4, leave]
theorem smake_ok {n : Nat} {os : List Obj} {tl : Store} : callN T (n + 2) "Solver" [] (.arena os :: tl) = .ok (.d (.oid os.length)) (.arena (os ++ [svO (os.length + 1) 0, .dic []]) :: tl) := by
  apply eq_of_wp
  rw [callN_run T_f_Solver]
  have hi := sinit_ok (n := n) (os := os) (tl := tl)
  simp [f_Solver, runFn, pushO_a, Tg.putV, hi, cmpV, isNon, deref, asB, leave]
set_option maxHeartbeats 2000000 in
theorem finit_ok {n : Nat} {os : List Obj} {tl : Store} : callN T (n + 3) "Finder.__init__" [.d (.oid os.length)] (.arena (os ++ [.inst "Finder" []]) :: tl) = .ok (.d .non) (.arena (os ++ [fdO (os.length + 1) (os.length + 3) true, svO (os.length + 2) 0, .dic [], .lst []]) :: tl) := by
  apply eq_of_wp
  rw [callN_run T_f_Finder___init__]
  have hs := smake_ok (n := n) (os := os ++ [.inst "Finder" []]) (tl := tl)
  have hl : (os ++ [Obj.inst "Finder" []]).length = os.length + 1 := by simp
  rw [hl] at hs
  simp only [List.append_assoc, List.cons_append, List.nil_append] at hs
  have h1 : ∀ (X : Obj) (Y : List Obj), (os ++ X :: Y)[os.length]? = some X := fun X Y => by simp
  have h4 : ∀ (X Z : Obj) (Y : List Obj), (os ++ X :: Y).set os.length Z = os ++ Z :: Y := fun X Z Y => by simp
  have h5 : ∀ (X Y Z : Obj), (os ++ [X, Y, Z]).length = os.length + 3 := fun X Y Z => by simp
  simp [f_Finder___init__, runFn, hs, setFV_a, pushO_a, putFd, asD, asDs, h1, h4, leave]
theorem fmake_ok {n : Nat} {os : List Obj} {tl : Store} : callN T (n + 4) "Finder" [] (.arena os :: tl) = .ok (.d (.oid os.length)) (.arena (os ++ [fdO (os.length + 1) (os.length + 3) true, svO (os.length + 2) 0, .dic [], .lst []]) :: tl) := by
  apply eq_of_wp
  rw [callN_run T_f_Finder]
  have hi := finit_ok (n := n) (os := os) (tl := tl)
  simp [f_Finder, runFn, pushO_a, Tg.putV, hi, cmpV, isNon, deref, asB, leave]
theorem fd_start (os : List Obj) : Fd (os ++ [fdO (os.length + 1) (os.length + 3) true, svO (os.length + 2) 0, .dic [], .lst []]) os.length (os.length + 1) (os.length + 2) (os.length + 3) [] 0 [] true := by
  refine ⟨by simp, ⟨?_, ?_⟩, ?_⟩
  · rw [List.getElem?_append_right (by omega)]; simp
  · rw [List.getElem?_append_right (by omega)]; simp [dF]
  · rw [List.getElem?_append_right (by omega)]; simp
theorem ss_start : SS [] [] .free 0 := ⟨fun u hu => (by cases hu), FL.start [], fun i hi => (by cases hi)⟩
/-- numbers that stand once are no more than the kinds they come from -/
theorem nodup_lenK : ∀ (s : List Int) (L : List Kd), s.Nodup → (∀ i ∈ s, Kd.free i ∈ L) → s.length ≤ L.length
  | [], _, _, _ => Nat.zero_le _
  | i :: s, L, h, k => by
    have hi := k i (by simp)
    have := nodup_lenK s (L.erase (.free i)) (List.nodup_cons.mp h).2 fun j hj => by
      refine (List.mem_erase_of_ne fun e => ?_).mpr (k j (by simp [hj]))
      cases e
      exact (List.nodup_cons.mp h).1 hj
    rw [List.length_erase_of_mem hi] at this
    have := List.length_pos_of_mem hi
    simp only [List.length_cons]
    omega
theorem seenAll_from : ∀ (ks : List Kd) (s : List Int) (i : Int), i ∈ seenAll ks s → i ∈ s ∨ ∃ k ∈ ks, k.has i
  | [], s, i, h => .inl h
  | k :: ks, s, i, h => by
    rcases seenAll_from ks (k.seen s) i h with h | ⟨k', hk, h⟩
    · rcases (k.seen_map2 (φ := id) s (fun x y _ _ e => e)).2.2 i h with h | h
      · exact .inl h
      · exact .inr ⟨k, by simp, h⟩
    · exact .inr ⟨k', by simp [hk], h⟩
theorem seenAll_short {L : List Kd} {S : Int → Kd} {gs : List Kd} (us : US L S) (cl : Cl L) (hg : ∀ u ∈ gs, u ∈ L) : (seenAll (gs.map (Kd.sub S)) []).length ≤ L.length := by
  refine nodup_lenK _ _ (seenAll_nodup _ List.nodup_nil) fun i hi => ?_
  rcases seenAll_from _ _ i hi with h | ⟨k, hk, h⟩
  · cases h
  · obtain ⟨u, hu, rfl⟩ := List.mem_map.mp hk
    exact us.varsK cl (hg u hu) h
end Prog

namespace Prog
open Ir
theorem comp_guard {α : Type} {x : Val} {xs : List D} {f : D → Store → Res (Option D)} {st : Store} (h : lstOf st x = some xs) (p q : α → D) (l : List α) (hf : ∀ a ∈ l, f (p a) st = .ok (some (q a)) st) : compL (guardL x xs f) (l.map p) st = .ok (l.map q) st :=
  comp_const p q l fun a ha => by unfold guardL; rw [guardO_of h, hf a ha]
theorem lstOf_a {os : List Obj} {tl : Store} {r : Nat} {xs : List D} (h : os[r]? = some (.lst xs)) : lstOf (.arena os :: tl) (.d (.oid r)) = some xs := by
  simp only [lstOf, getO_ar, h, Option.map_some]
def ρ0 : Rh := fun _ _ => False
/-- a typing of all places -/
def tyP (p : Pg) : List Kd → Prop := fun gs => ∃ v, p.ty ρ0 false gs v
set_option maxHeartbeats 4000000 in
theorem types_ok {N n : Nat} {os : List Obj} {tl : Store} (h60 : N ≤ 60) {p : Pg} (hp : p.pln) (hN : p.pl ≤ N) (hn : 2 * N + 6 + p.h ≤ n) :
    (∃ os', callN T (n + 1) "types_of" [.d p.d] (.arena os :: tl) = .ok (.d .non) (.arena os' :: tl) ∧ ∀ gs, ¬ tyP p gs) ∨
    ∃ os' ks, callN T (n + 1) "types_of" [.d p.d] (.arena os :: tl) = .ok (.ref (tl.length + 1)) (.arena os' :: (tl ++ [.lst ((renAll ks []).map Kd.d)])) ∧ MGL (tyP p) ks ∧ (∀ k ∈ ks, k.h ≤ N) ∧ ks.length = p.pl := by
  obtain ⟨n', hn'⟩ : ∃ n', n = n' + 4 := ⟨n - 4, by omega⟩
  have hmk := fmake_ok (n := n') (os := os) (tl := tl)
  have fd0 := fd_start os
  have ne0 : ∀ (l : List Obj), List.length (Cell.arena l :: tl) = tl.length + 1 := fun l => rfl
  obtain ⟨os1, g1, m1, gs1, good1, L1, S1, k, e1, fd1, sm1, v1⟩ := visit_pln (tl := tl ++ [.dic []]) (nm := .ref (tl.length + 1)) (ar := .lst []) h60 ρ0 (sizeOf p + 1) p n (Nat.lt_succ_self _) hp hn _ [] 0 [] true [] .free fd0 ss_start (Int.le_refl _) trivial (by rw [show NB [] = 0 from rfl]; omega) (by simp; omega) (by simp; omega)
  simp only [List.nil_append, Bool.true_and] at fd1
  have hnb := v1.nb
  have hln := v1.ln
  simp only [List.length_nil, Nat.zero_add] at hln
  have hnb0 : NB [] = 0 := rfl
  rw [hnb0] at hnb
  have us := v1.ss.fl.us
  have cl := v1.ss.cl
  have hg := fd1.fgood (tl := tl ++ [.dic []])
  have hgv := fd1.fg (tl := tl ++ [.dic []])
  have hsv := fd1.fs (tl := tl ++ [.dic []])
  have hmv := fd0.meth (tl := tl) "visit" (by decide)
  have mf := fd1.sv.meth (tl := tl ++ [.dic []]) "filled" (by decide)
  have hlo := lstOf_a (tl := tl ++ [.dic []]) fd1.gl
  have hh : ∀ u ∈ gs1, (u.sub S1).h ≤ N := fun u hu => by have := us.h_leC cl (v1.gL u hu); omega
  have htk : ∀ (l : List Obj) (r : Store), List.take (tl.length + 1) (Cell.arena l :: (tl ++ r)) = .arena l :: tl := fun l r => by simp
  cases good1 with
  | false =>
    left
    refine ⟨os1, ?_, fun gs ⟨v, h⟩ => ?_⟩
    · subst hn'
      apply eq_of_wp
      rw [callN_run T_f_types_of]
      generalize hX : os ++ [fdO (os.length + 1) (os.length + 3) true, svO (os.length + 2) 0, Obj.dic [], Obj.lst []] = osx at *
      simp [f_types_of, runFn, hmk, Tg.putV, asDs, hmv, e1, hg, asB, leave, htk]
    · have := (v1.comp .free (fun i => rfl) gs v h).1
      cases this
  | true =>
    right
    refine ⟨os1, gs1.map (Kd.sub S1), ?_, ?_, ?_, ?_⟩
    · have ec := comp_guard (f := compStep (eval (callN T n) f_types_of_c0) (conds (callN T n) []) (.name 2) [some (.d p.d), some (.d (.oid os.length)), none]) hlo Kd.d (fun c => (c.sub S1).d) gs1 (fun c hc => by
        have e2 := sv_filled (tl := tl ++ [.dic []]) cl v1.ss.fl fd1.sv n c (v1.gL c hc) (by have := hh c hc; omega)
        generalize c.d = cd at *
        generalize (c.sub S1).d = rd at *
        simp [compStep, Tg.put, f_types_of_c0, hsv, mf, e2, asD])
      have hnm := named_long (T := T) T_f_renamed T_f_named (n := n - 1) (st := .arena os1 :: (tl ++ [.dic []])) (gs1.map (Kd.sub S1)) (fun k hk => by
        obtain ⟨u, hu, rfl⟩ := List.mem_map.mp hk
        have := hh u hu; omega) (by have := seenAll_short us cl v1.gL; rw [LIM_eq]; omega)
      rw [show n - 1 + 1 = n by omega, List.map_map] at hnm
      have hcf : (Kd.d ∘ Kd.sub S1) = fun c => (c.sub S1).d := rfl
      rw [hcf] at hnm
      have hlen : (Cell.arena os1 :: (tl ++ [.dic []])).length = tl.length + 2 := by simp
      rw [hlen] at hnm
      generalize (renAll (gs1.map (Kd.sub S1)) []).map Kd.d = res at *
      generalize gs1.map (fun c => (c.sub S1).d) = filledL at *
      generalize gs1.map Kd.d = givenL at *
      have hget : (Cell.arena os1 :: (tl ++ [.dic []]) ++ [.lst res])[tl.length + 2]? = some (.lst res) := by
        rw [List.getElem?_append_right (by simp)]; simp
      have hget2 : (Cell.arena os1 :: (tl ++ [.dic [], .lst res]))[tl.length + 2]? = some (.lst res) := by
        rw [← hget]; simp
      subst hn'
      apply eq_of_wp
      rw [callN_run T_f_types_of]
      generalize hX : os ++ [fdO (os.length + 1) (os.length + 3) true, svO (os.length + 2) 0, Obj.dic [], Obj.lst []] = osx at *
      simp [f_types_of, runFn, hmk, Tg.putV, asDs, hmv, e1, hg, asB, hgv, hlo, Tg.slots, wipe, ec, guardO_of hlo, hnm, leave, htk, hget2]
    · refine mgl_of us.idem (fun f s => ⟨f k, v1.sound rfl f s⟩) fun gvs ⟨v, h⟩ => ?_
      obtain ⟨_, f', s', _, b', _⟩ := v1.comp .free (fun i => rfl) gvs v h
      exact ⟨f', s', b'⟩
    · intro k hk
      obtain ⟨u, hu, rfl⟩ := List.mem_map.mp hk
      exact hh u hu
    · rw [List.length_map, v1.len]
theorem typed_ok {N n : Nat} {os : List Obj} {tl : Store} (h60 : N ≤ 60) {p : Pg} (hp : p.pln) (hN : p.pl ≤ N) (hn : 2 * N + 6 + p.h ≤ n) :
    ∃ os' bb, callN T (n + 2) "typed" [.d p.d] (.arena os :: tl) = .ok (.d (.bool bb)) (.arena os' :: tl) ∧ (bb = true ↔ ∃ gs, tyP p gs) := by
  rcases types_ok (os := os) (tl := tl) h60 hp hN hn with ⟨os', e, h⟩ | ⟨os', ks, e, h, _, _⟩
  · refine ⟨os', false, ?_, ⟨fun h => (by cases h), fun ⟨gs, hg⟩ => (h gs hg).elim⟩⟩
    apply eq_of_wp
    rw [callN_run T_f_typed]
    simp [f_typed, runFn, e, cmpV, isNon, leave]
  · refine ⟨os', true, ?_, ⟨fun _ => ⟨_, h.sound .free⟩, fun _ => rfl⟩⟩
    apply eq_of_wp
    rw [callN_run T_f_typed]
    generalize (renAll ks []).map Kd.d = res at *
    have htk : ∀ (l : List Obj) (r : Store), List.take (tl.length + 1) (Cell.arena l :: (tl ++ r)) = .arena l :: tl := fun l r => by simp
    simp [f_typed, runFn, e, cmpV, isNon, leave, htk]
end Prog

namespace Prog
open Ir
theorem Kd.frl_le (k : Kd) : k.frl.length ≤ 2 ^ k.h := by
  induction k with
  | int => simp [Kd.frl]
  | bool => simp [Kd.frl]
  | free i => simp [Kd.frl, Kd.h]
  | list a ih => simp only [Kd.frl, Kd.h, Nat.pow_succ]; omega
  | fn a b iha ihb =>
    simp only [Kd.frl, Kd.h, Nat.pow_succ, List.length_append]
    have h1 : 2 ^ a.h ≤ 2 ^ max a.h b.h := Nat.pow_le_pow_right (by decide) (by omega)
    have h2 : 2 ^ b.h ≤ 2 ^ max a.h b.h := Nat.pow_le_pow_right (by decide) (by omega)
    omega
  | pair a b iha ihb =>
    simp only [Kd.frl, Kd.h, Nat.pow_succ, List.length_append]
    have h1 : 2 ^ a.h ≤ 2 ^ max a.h b.h := Nat.pow_le_pow_right (by decide) (by omega)
    have h2 : 2 ^ b.h ≤ 2 ^ max a.h b.h := Nat.pow_le_pow_right (by decide) (by omega)
    omega
theorem ls_start (os : List Obj) (tl : Store) : LS (os ++ [.dic [], .lst [], .lst []]) (tl ++ [lsC os.length (os.length + 1) (os.length + 2) 0 true, .dic []]) tl.length os.length (os.length + 1) (os.length + 2) [] 0 [] [] true := by
  refine ⟨by simp, by simp [dF], ?_, ?_, by omega⟩
  · rw [List.getElem?_append_right (by omega)]; simp
  · rw [List.getElem?_append_right (by omega)]; simp
set_option maxHeartbeats 4000000 in
theorem ltypes_ok {N n : Nat} {os : List Obj} {tl : Store} (h16 : N ≤ 16) {p : Pg} (hp : p.pln) (hN : p.pl ≤ N) (hn : N + 5 + p.h ≤ n) :
    (∃ os', callN T (n + 1) "_law_types_of" [.d p.d] (.arena os :: tl) = .ok (.d .non) (.arena os' :: tl) ∧ ∀ gs, ¬ tyP p gs) ∨
    ∃ os' ks, callN T (n + 1) "_law_types_of" [.d p.d] (.arena os :: tl) = .ok (.d (.lst ((renAll ks []).map Kd.d))) (.arena os' :: tl) ∧ MGL (tyP p) ks := by
  have ls0 := ls_start os tl
  have hset : ∀ c : Cell, (tl ++ [lsC os.length (os.length + 1) (os.length + 2) 0 true, Cell.dic []]).set tl.length c = tl ++ [c, .dic []] := fun c => by simp
  have ls0' : LS (os ++ [.dic [], .lst [], .lst []]) ((tl ++ [lsC os.length (os.length + 1) (os.length + 2) 0 true, .dic []]).set tl.length (lsC os.length (os.length + 1) (os.length + 2) 0 true)) tl.length os.length (os.length + 1) (os.length + 2) [] 0 [] [] true := by rw [hset]; exact ls0
  obtain ⟨os1, m1, gs1, rs1, L1, k, e1, ls1, v1⟩ := walk_pln (N := N) (e := tl.length) (A := os.length) (V := os.length + 1) (W := os.length + 2) (tl := tl ++ [lsC os.length (os.length + 1) (os.length + 2) 0 true, .dic []]) (nm := .ref (tl.length + 2)) (ar := .lst []) ρ0 (sizeOf p + 1) p n (Nat.lt_succ_self _) hp (by omega) _ [] 0 [] [] true [] ls0' (fun u hu => by cases hu) (fun i hi => by cases hi) (Int.le_refl _) (by rw [show NB [] = 0 from rfl]; omega) (by simp; omega) (by simp; omega) (by simp; omega)
  simp only [List.nil_append] at ls1
  have hnb := v1.nb
  have hln := v1.ln
  have hrl := v1.rl
  rw [show NB [] = 0 from rfl] at hnb
  simp only [List.length_nil, Nat.zero_add] at hln
  obtain ⟨n', hn'⟩ : ∃ n', n = n' + 1 := ⟨n - 1, by omega⟩
  have fl0 : FL L1 [] .free := .start L1
  have hfr : ∀ g' S', FL L1 g' S' → ∀ u ∈ L1, (u.sub S').frl.length < 100000 := fun g' S' f u hu => by
    have h1 := f.us.h_leC v1.cl hu
    have h2 := (u.sub S').frl_le
    have h3 : 2 ^ (u.sub S').h ≤ 2 ^ 16 := Nat.pow_le_pow_right (by decide) (by omega)
    have h4 : (2 : Nat) ^ 16 = 65536 := rfl
    omega
  obtain ⟨os2, g2, S2, ok2, e2, ls2, fl2, bh2, yes, no⟩ := lw_solve (n := n') v1.cl (by omega) (by omega) (by omega) (by omega) hfr fl0 ls1 v1.rL
  rw [hset] at e1 e2 ls2
  rw [hset] at e1
  rw [show ((tl ++ [lsC os.length (os.length + 1) (os.length + 2) m1 true, Cell.dic []]).set tl.length (lsC os.length (os.length + 1) (os.length + 2) m1 ok2)) = tl ++ [lsC os.length (os.length + 1) (os.length + 2) m1 ok2, .dic []] by simp] at e2 ls2
  have htk : ∀ (l : List Obj) (r : Store), List.take (tl.length + 1) (Cell.arena l :: (tl ++ r)) = .arena l :: tl := fun l r => by simp
  have e1' : callN T n "_law_walk" [.ref (tl.length + 1), .d p.d, .ref (tl.length + 1 + 1), .d (.lst [])] (.arena (os ++ [.dic [], .lst [], .lst []]) :: (tl ++ [lsC os.length (os.length + 1) (os.length + 2) 0 true, .dic []])) = .ok (.d (Kd.free k).d) (.arena os1 :: (tl ++ [lsC os.length (os.length + 1) (os.length + 2) m1 true, .dic []])) := e1
  rw [← hn'] at e2
  have allS : ∀ θ : Int → Kd, Sols θ .free := fun θ i => rfl
  unfold lsC at e1' e2
  cases ok2 with
  | false =>
    left
    refine ⟨os2, ?_, fun gs ⟨v, h⟩ => ?_⟩
    · generalize (Kd.free k).d = kd at *
      apply eq_of_wp
      rw [callN_run T_f_law_types_of]
      simp [f_law_types_of, runFn, pushO_a, Tg.putV, asDs, asD, e1', e2, asB, leave, htk]
    · obtain ⟨f', h1, _, _, _⟩ := v1.comp .free gs v h
      exact no rfl f' ⟨rfl, allS f', h1⟩
  | true =>
    right
    have us := fl2.us
    have hh : ∀ u ∈ gs1, (u.sub S2).h ≤ N := fun u hu => by have := us.h_leC v1.cl (v1.gL u hu); omega
    refine ⟨os2, gs1.map (Kd.sub S2), ?_, ?_⟩
    · have hlo : lstOf (.arena os2 :: (tl ++ [lsC os.length (os.length + 1) (os.length + 2) m1 true, .dic []])) (.d (.oid (os.length + 1))) = some (gs1.map Kd.d) := lstOf_a ls2.gl
      have ec := comp_guard (f := compStep (eval (callN T n) f_law_types_of_c0) (conds (callN T n) []) (.name 2) [some (.d p.d), some (.ref (tl.length + 1)), none]) hlo Kd.d (fun c => (c.sub S2).d) gs1 (fun c hc => by
        have e3 := lw_full v1.cl fl2 ls2 n c (v1.gL c hc) (by have := hh c hc; omega)
        generalize c.d = cd at *
        generalize (c.sub S2).d = rd at *
        simp [compStep, Tg.put, f_law_types_of_c0, e3, asD])
      have hnm := lw_named (n := n - 1) (st := .arena os2 :: (tl ++ [lsC os.length (os.length + 1) (os.length + 2) m1 true, .dic []])) (gs1.map (Kd.sub S2)) (fun k hk => by
        obtain ⟨u, hu, rfl⟩ := List.mem_map.mp hk
        have := hh u hu
        exact ⟨by omega, hfr _ _ fl2 u (v1.gL u hu)⟩) (by have := seenAll_short us v1.cl v1.gL; rw [LIM_eq]; omega)
      rw [show n - 1 + 1 = n by omega, List.map_map] at hnm
      have hcf : (Kd.d ∘ Kd.sub S2) = fun c => (c.sub S2).d := rfl
      rw [hcf] at hnm
      have i2 := ls2.ix2
      unfold lsC at hlo ec hnm i2
      generalize (renAll (gs1.map (Kd.sub S2)) []).map Kd.d = res at *
      generalize gs1.map (fun c => (c.sub S2).d) = filledL at *
      generalize gs1.map Kd.d = givenL at *
      generalize (Kd.free k).d = kd at *
      apply eq_of_wp
      rw [callN_run T_f_law_types_of]
      simp [f_law_types_of, runFn, pushO_a, Tg.putV, asDs, asD, e1', e2, asB, i2, hlo, Tg.slots, wipe, ec, guardO_of hlo, hnm, leave, htk]
    · refine mgl_of us.idem (fun f s => ⟨f k, v1.sound f ((yes rfl f).mpr s).2.2⟩) fun gvs ⟨v, h⟩ => ?_
      obtain ⟨f', h1, _, b', _⟩ := v1.comp .free gvs v h
      exact ⟨f', (yes rfl f').mp ⟨rfl, allS f', h1⟩, b'⟩
end Prog

namespace Prog
open Ir
set_option maxHeartbeats 2000000 in
theorem alike_tup {T : Tab} (hT : T "_law_alike" = some f_law_alike) {n : Nat} {st : Store} {xs : List D} (hl : xs.length ≤ LIM) (h : ∀ x ∈ xs, callN T n "_law_alike" [.d x, .d x] st = .ok (.d (.bool true)) st) :
    callN T (n + 1) "_law_alike" [.d (.tup xs), .d (.tup xs)] st = .ok (.d (.bool true)) st := by
  have ec := comp_const (f := compStep (eval (callN T n) (.call "_law_alike" [.idx (.var 0) (.var 2), .idx (.var 1) (.var 2)])) (conds (callN T n) []) (.name 2) [some (.d (.tup xs)), some (.d (.tup xs)), none]) (st := st) (fun i : Nat => D.int i) (fun _ => D.bool true) (List.range xs.length) (fun i hi => by
    have hi := List.mem_range.mp hi
    simp [compStep, Tg.put, indexV, D.index, atI_of hi, h _ (List.getElem_mem hi), asD])
  rw [callN_run hT]
  simp [runFn, f_law_alike, deref, D.tyOk, asB, cmpV, D.cmp, fine, D.dep, D.eqv, bltV, lenDic, bltD, derefs, D.blt, D.bLen, bRange_nat hl, asD, D.seq, Tg.slots, wipe, range_nat, ec, all_true, leave]
set_option maxHeartbeats 2000000 in
theorem alike_ref {T : Tab} (hT : T "_law_alike" = some f_law_alike) {n : Nat} {st : Store} {B : Nat} {xs : List D} (hB : st[B]? = some (.lst xs)) (hl : xs.length ≤ LIM) (h : ∀ x ∈ xs, callN T n "_law_alike" [.d x, .d x] st = .ok (.d (.bool true)) st) :
    callN T (n + 1) "_law_alike" [.ref B, .d (.lst xs)] st = .ok (.d (.bool true)) st := by
  have ec := comp_const (f := compStep (eval (callN T n) (.call "_law_alike" [.idx (.var 0) (.var 2), .idx (.var 1) (.var 2)])) (conds (callN T n) []) (.name 2) [some (.ref B), some (.d (.lst xs)), none]) (st := st) (fun i : Nat => D.int i) (fun _ => D.bool true) (List.range xs.length) (fun i hi => by
    have hi := List.mem_range.mp hi
    simp [compStep, Tg.put, indexV, hB, D.index, atI_of hi, h _ (List.getElem_mem hi), asD])
  rw [callN_run hT]
  simp [runFn, f_law_alike, deref, hB, D.tyOk, asB, cmpV, D.cmp, fine, D.dep, D.eqv, bltV, lenDic, bltD, derefs, D.blt, D.bLen, bRange_nat hl, asD, D.seq, Tg.slots, wipe, range_nat, ec, all_true, leave]
theorem alike_str {T : Tab} (hT : T "_law_alike" = some f_law_alike) {n : Nat} {st : Store} {x : String} : callN T (n + 1) "_law_alike" [.d (.str x), .d (.str x)] st = .ok (.d (.bool true)) st := by
  rw [callN_run hT]
  simp [runFn, f_law_alike, deref, D.tyOk, asB, cmpV, D.cmp, fine, D.dep, D.eqv, leave]
theorem alike_int {T : Tab} (hT : T "_law_alike" = some f_law_alike) {n : Nat} {st : Store} {x : Int} : callN T (n + 1) "_law_alike" [.d (.int x), .d (.int x)] st = .ok (.d (.bool true)) st := by
  rw [callN_run hT]
  simp [runFn, f_law_alike, deref, D.tyOk, asB, cmpV, D.cmp, fine, D.dep, D.eqv, leave]
theorem alike_kd {T : Tab} (hT : T "_law_alike" = some f_law_alike) {st : Store} : ∀ (k : Kd) (n : Nat), k.h + 2 ≤ n → callN T n "_law_alike" [.d k.d, .d k.d] st = .ok (.d (.bool true)) st := by
  intro k
  induction k with
  | int =>
    intro n hn
    obtain ⟨n, rfl⟩ : ∃ n', n = n' + 2 := ⟨n - 2, by omega⟩
    exact alike_tup hT (by simp [LIM_eq]) (by intro x hx; simp at hx; subst hx; exact alike_str hT)
  | bool =>
    intro n hn
    obtain ⟨n, rfl⟩ : ∃ n', n = n' + 2 := ⟨n - 2, by omega⟩
    exact alike_tup hT (by simp [LIM_eq]) (by intro x hx; simp at hx; subst hx; exact alike_str hT)
  | free i =>
    intro n hn
    obtain ⟨n, rfl⟩ : ∃ n', n = n' + 2 := ⟨n - 2, by omega⟩
    exact alike_tup hT (by simp [LIM_eq]) (by intro x hx; simp at hx; rcases hx with rfl | rfl; exact alike_str hT; exact alike_int hT)
  | list a ih =>
    intro n hn
    simp only [Kd.h] at hn
    obtain ⟨n, rfl⟩ : ∃ n', n = n' + 2 := ⟨n - 2, by omega⟩
    exact alike_tup hT (by simp [LIM_eq]) (by intro x hx; simp at hx; rcases hx with rfl | rfl; exact alike_str hT; exact ih _ (by omega))
  | fn a b iha ihb =>
    intro n hn
    simp only [Kd.h] at hn
    obtain ⟨n, rfl⟩ : ∃ n', n = n' + 2 := ⟨n - 2, by omega⟩
    exact alike_tup hT (by simp [LIM_eq]) (by intro x hx; simp at hx; rcases hx with rfl | rfl | rfl; exact alike_str hT; exact iha _ (by omega); exact ihb _ (by omega))
  | pair a b iha ihb =>
    intro n hn
    simp only [Kd.h] at hn
    obtain ⟨n, rfl⟩ : ∃ n', n = n' + 2 := ⟨n - 2, by omega⟩
    exact alike_tup hT (by simp [LIM_eq]) (by intro x hx; simp at hx; rcases hx with rfl | rfl | rfl; exact alike_str hT; exact iha _ (by omega); exact ihb _ (by omega))
end Prog

namespace Prog
open Ir
/-- the parts that are drawn -/
def partP (a b : Int) : Nat → Pg
  | 0 => .num a
  | 1 => .num (0 - b)
  | 2 => .truth true
  | 3 => .truth false
  | 4 => .nil
  | 5 => .two "cons" [] (.num 1) .nil
  | _ => .two "pair" [] .nil (.truth true)
structure Pt (p : Pg) : Prop where
  pln : p.pln
  off : p.isOff = true ∨ p.isOff = false
  pl : p.pl ≤ 3
  h : p.h ≤ 2
theorem partP_ok (a b : Int) (k : Nat) (o : Bool) : Pt (offed o (partP a b k)) := by
  have h : (partP a b k).pln ∧ (partP a b k).isOff = false ∧ (partP a b k).pl ≤ 3 ∧ (partP a b k).h ≤ 1 := by
    unfold partP
    split <;> simp [Pg.pln, Pg.isOff, Pg.pl, Pg.h, plTab]
  obtain ⟨h1, h2, h3, h4⟩ := h
  cases o with
  | false => exact ⟨h1, .inr h2, h3, by show (partP a b k).h ≤ 2; omega⟩
  | true => exact ⟨⟨h2, h1⟩, .inl rfl, h3, by show (partP a b k).h + 1 ≤ 2; omega⟩
theorem big_59 : bigOk (10 ^ 59) = true := by decide +kernel
set_option maxHeartbeats 4000000 in
theorem part_wp {n : Nat} {st : Store} {B : Nat} {pp : Post Val} (hB : Bag st B) (hn : 3 ≤ n)
    (k : ∀ (p : Pg) s, Pt p → Bag s B → Kp B st s → pp.q (.d p.d) s) : @Wp _ (callN T n "_law_part" [.ref B] st) pp := by
  obtain ⟨n, rfl⟩ : ∃ n', n = n' + 1 := ⟨n - 1, by omega⟩
  rw [callN_run T_f_law_part]
  have hpow : D.bin .pow (.int 10) (.int 59) = some (.int (10 ^ 59)) := by
    have h1 : bigOk 10 = true := by decide +kernel
    simp [D.bin, h1]
  simp [f_law_part]
  refine draw_wp hB (by decide) (by decide +kernel) (by omega) fun a s1 _ _ hB1 k1 => ?_
  simp [asDs, deref, hpow]
  refine draw_wp hB1 (by decide) big_59 (by omega) fun b s2 _ _ hB2 k2 => ?_
  have hadd : ∀ w x y z u v t : D, D.bin .add (.lst [w, x, y, z]) (.lst [u, v, t]) = some (.lst [w, x, y, z, u, v, t]) := fun w x y z u v t => by simp [D.bin, LIM_eq]
  have hsub : D.bin .sub (.int 0) (.int b) = some (.int (0 - b)) := rfl
  simp only [Int.zero_sub] at hsub
  simp [asDs, asD, deref, hsub, Tg.putV, hadd]
  refine draw_wp hB2 (by decide) (by decide +kernel) (by omega) fun c s3 c0 c1 hB3 k3 => ?_
  obtain ⟨c, rfl⟩ : ∃ c' : Nat, c = (c' : Int) := ⟨c.toNat, by omega⟩
  have hix : ∀ st, indexV st (.d (.lst [.tup [.str "num", .int a], .tup [.str "num", .int (0 - b)], .tup [.str "truth", .bool true], .tup [.str "truth", .bool false], .tup [.str "nil"], .tup [.str "cons", .tup [.str "num", .int 1], .tup [.str "nil"]], .tup [.str "pair", .tup [.str "nil"], .tup [.str "truth", .bool true]]])) (.d (.int (c : Int))) = some (partP a b c).d := fun st => by
    have : c < 7 := by omega
    obtain rfl | rfl | rfl | rfl | rfl | rfl | rfl : c = 0 ∨ c = 1 ∨ c = 2 ∨ c = 3 ∨ c = 4 ∨ c = 5 ∨ c = 6 := by omega
    all_goals simp [indexV, D.index, atI, ixN, partP, Pg.d]
  simp at hix
  simp [hix, Tg.putV]
  refine draw_wp hB3 (by decide) (by decide +kernel) (by omega) fun d s4 d0 d1 hB4 k4 => ?_
  have kk := ((k1.trans k2).trans k3).trans k4
  have f := k (offed false (partP a b c)) s4 (partP_ok a b c false) hB4 kk
  have g := k (offed true (partP a b c)) s4 (partP_ok a b c true) hB4 kk
  have hd : (offed true (partP a b c)).d = .tup [.str "off", (partP a b c).d] := rfl
  have hd2 : (offed false (partP a b c)).d = (partP a b c).d := rfl
  rw [hd] at g
  rw [hd2] at f
  generalize (partP a b c).d = qd at *
  by_cases z : d = 0
  · subst z
    simp [cmpV, deref, ci_eq, asB, asDs, asD, leave, kk.take]
    exact g
  · simp [cmpV, deref, ci_eq, z, asB, asDs, asD, leave, kk.take]
    exact f
/-- parts, as many as there are numbers -/
theorem parts_wp {n : Nat} {st : Store} {B : Nat} {σ : Env} {pp : Post (List D)} (hB : Bag st B) (hn : 3 ≤ n) (xs : List D) (s0 : ∀ x, (σ.set 5 x)[0]? = some (some (.ref B)))
    (k : ∀ (ps : List Pg) s, ps.length = xs.length → (∀ p ∈ ps, Pt p) → Bag s B → Kp B st s → pp.q (ps.map Pg.d) s) :
    @Wp _ (compL (compStep (eval (callN T n) f_law_single_c0) (conds (callN T n) []) (.name 5) σ) xs st) pp := by
  refine wp_comp (fun ys zs s => ∃ ps : List Pg, zs = ps.map Pg.d ∧ ps.length + ys.length = xs.length ∧ (∀ p ∈ ps, Pt p) ∧ Bag s B ∧ Kp B st s) ⟨[], rfl, by simp, fun p hp => (by cases hp), hB, .refl _ _⟩ ?_ ?_
  · rintro x ys zs s ⟨ps, rfl, hl, hp, hB1, k1⟩
    simp [compStep, Tg.put, f_law_single_c0, s0]
    refine part_wp hB1 hn fun p s2 hpt hB2 k2 => ?_
    simp [asD]
    refine ⟨ps ++ [p], by simp, by simp at hl ⊢; omega, fun q hq => ?_, hB2, k1.trans k2⟩
    rcases List.mem_append.mp hq with hq | hq
    · exact hp q hq
    · simp at hq; rw [hq]; exact hpt
  · rintro zs s ⟨ps, rfl, hl, hp, hB1, k1⟩
    exact k ps s (by simpa using hl) hp hB1 k1
/-- a word with its parts -/
def wordP (h : String) : List Pg → Pg
  | [p] => .one h [] p
  | [p, q] => .two h [] p q
  | [p, q, r] => .thr h [] p q r
  | _ => .nil
structure Sg (p : Pg) : Prop where
  pln : p.pln
  pl : p.pl ≤ 10
  h : p.h ≤ 4
theorem Pt.sg {p : Pg} (h : Pt p) : Sg p := ⟨h.pln, by have := h.pl; omega, by have := h.h; omega⟩
theorem wordP_ok {h : String} {ps : List Pg} (hh : (h, ps.length) ∈ plTab) (h1 : 1 ≤ ps.length) (hp : ∀ p ∈ ps, Pt p) (o : Bool) : Sg (offed o (wordP h ps)) ∧ (wordP h ps).d = .tup (.str h :: ps.map Pg.d) := by
  have h3 : ps.length ≤ 3 := by
    simp only [plTab, List.mem_cons, List.not_mem_nil, or_false, Prod.mk.injEq] at hh
    omega
  have key : ∀ q : Pg, q.pln → q.isOff = false → q.pl ≤ 10 → q.h ≤ 3 → Sg (offed o q) := fun q a b c d => by
    cases o with
    | false => exact ⟨a, c, by show q.h ≤ 4; omega⟩
    | true => exact ⟨⟨b, a⟩, c, by show q.h + 1 ≤ 4; omega⟩
  match ps, h1, h3 with
  | [p], _, _ =>
    have p1 := hp p (by simp)
    refine ⟨key _ ⟨hh, p1.pln⟩ rfl ?_ ?_, by simp [wordP, Pg.d]⟩
    · have := p1.pl; simp only [wordP, Pg.pl]; omega
    · have := p1.h; simp only [wordP, Pg.h]; omega
  | [p, q], _, _ =>
    have p1 := hp p (by simp)
    have p2 := hp q (by simp)
    refine ⟨key _ ⟨hh, p1.pln, p2.pln⟩ rfl ?_ ?_, by simp [wordP, Pg.d]⟩
    · have := p1.pl; have := p2.pl; simp only [wordP, Pg.pl]; omega
    · have := p1.h; have := p2.h; simp only [wordP, Pg.h]; omega
  | [p, q, r], _, _ =>
    have p1 := hp p (by simp)
    have p2 := hp q (by simp)
    have p3 := hp r (by simp)
    refine ⟨key _ ⟨hh, p1.pln, p2.pln, p3.pln⟩ rfl ?_ ?_, by simp [wordP, Pg.d]⟩
    · have := p1.pl; have := p2.pl; have := p3.pl; simp only [wordP, Pg.pl]; omega
    · have := p1.h; have := p2.h; have := p3.h; simp only [wordP, Pg.h]; omega
def hds : List String := ["call", "plus", "less", "pair", "cons", "first", "second", "head", "tail", "none", "if", "leaf"]
def nP (k : Nat) : Nat := if k < 5 then 2 else if k < 10 then 1 else 3
theorem hds_ok {k : Nat} (h : k < 11) : ∃ w, hds[k]? = some w ∧ (w, nP k) ∈ plTab ∧ 1 ≤ nP k := by
  obtain rfl | rfl | rfl | rfl | rfl | rfl | rfl | rfl | rfl | rfl | rfl : k = 0 ∨ k = 1 ∨ k = 2 ∨ k = 3 ∨ k = 4 ∨ k = 5 ∨ k = 6 ∨ k = 7 ∨ k = 8 ∨ k = 9 ∨ k = 10 := by omega
  all_goals exact ⟨_, rfl, by decide, by decide⟩
set_option maxHeartbeats 4000000 in
theorem single_wp {n : Nat} {st : Store} {B : Nat} {pp : Post Val} (hB : Bag st B) (hn : 4 ≤ n)
    (k : ∀ (p : Pg) s, Sg p → Bag s B → Kp B st s → pp.q (.d p.d) s) : @Wp _ (callN T n "_law_single" [.ref B] st) pp := by
  obtain ⟨n, rfl⟩ : ∃ n', n = n' + 1 := ⟨n - 1, by omega⟩
  have hb6 : bigOk 6 = true := by decide +kernel
  rw [callN_run T_f_law_single]
  unfold f_law_single
  generalize hE : (Ex.blt .range [.idx (.lst [.con (.int 2), .con (.int 1), .con (.int 3)]) (.ite (.cmp .lt (.var 2) (.con (.int 10))) (.bin .fdiv (.bin .add (.var 2) (.con (.int 1))) (.con (.int 6))) (.con (.int 2)))]) = E
  simp [asDs, Tg.putV]
  refine draw_wp hB (by decide) (by decide +kernel) (by omega) fun a s1 a0 a1 hB1 k1 => ?_
  obtain ⟨a, rfl⟩ : ∃ a' : Nat, a = (a' : Int) := ⟨a.toNat, by omega⟩
  by_cases c : a = 11
  · subst c
    simp [Tg.putV, cmpV, deref, ci_eq, asB]
    refine part_wp hB1 (by omega) fun p s2 hp hB2 k2 => ?_
    have kk := k1.trans k2
    simp [leave, kk.take]
    exact k p s2 hp.sg hB2 kk
  · have ha : a < 11 := by omega
    have hai : ¬ ((a : Int) = 11) := by omega
    obtain ⟨w, hw, ht, h1⟩ := hds_ok ha
    have hix : ∀ st, indexV st (.d (.lst (hds.map .str))) (.d (.int (a : Int))) = some (.str w) := fun st => by
      obtain rfl | rfl | rfl | rfl | rfl | rfl | rfl | rfl | rfl | rfl | rfl : a = 0 ∨ a = 1 ∨ a = 2 ∨ a = 3 ∨ a = 4 ∨ a = 5 ∨ a = 6 ∨ a = 7 ∨ a = 8 ∨ a = 9 ∨ a = 10 := by omega
      all_goals
        simp [hds] at hw
        subst hw
        rfl
    simp only [hds, List.map_cons, List.map_nil] at hix
    have hnum : ∀ s1 : Store, @Wp _ (eval (callN T n) E [some (.ref B), some (.d (.lst [.str "call", .str "plus", .str "less", .str "pair", .str "cons", .str "first", .str "second", .str "head", .str "tail", .str "none", .str "if", .str "leaf"])), some (.d (.int (a : Int))), none, none, none] s1) ⟨fun v s => v = .d (.lst (rangeL 0 (nP a))) ∧ s = s1⟩ := fun s1 => by
      subst hE
      obtain rfl | rfl | rfl | rfl | rfl | rfl | rfl | rfl | rfl | rfl | rfl : a = 0 ∨ a = 1 ∨ a = 2 ∨ a = 3 ∨ a = 4 ∨ a = 5 ∨ a = 6 ∨ a = 7 ∨ a = 8 ∨ a = 9 ∨ a = 10 := by omega
      all_goals
        simp [Tg.putV, Tg.put, Tg.puts, Tg.putF_eq, setAll, Tg.slots, Tg.slotss, wipe, indexV, D.index, atI, ixN, cmpV, deref, asB, asD, asDs, asI, bltV, lenDic, bltD, derefs, D.blt, D.bLen, D.bTuple, D.bList, D.seq, mthV, mthOk, setV, ci_eq, ci_lt, ci_le, ci_gt, ci_ge, cs_eq, cs_ne, D.bin, D.slice, cut, sIx, isNon, D.bRange, LIM_eq, nP, rangeL, hb6]
    have hE2 : ∀ s1 : Store, eval (callN T n) E [some (.ref B), some (.d (.lst [.str "call", .str "plus", .str "less", .str "pair", .str "cons", .str "first", .str "second", .str "head", .str "tail", .str "none", .str "if", .str "leaf"])), some (.d (.int (a : Int))), none, none, none] s1 = .ok (.d (.lst (rangeL 0 (nP a)))) s1 := fun s1 => by
      obtain ⟨v, s, e, rfl, rfl⟩ := wp_iff.mp (hnum s1)
      exact e
    have hrl : (rangeL 0 (nP a)).length = nP a := by simp [rangeL]
    simp [Tg.putV, cmpV, deref, ci_eq, hai, asB, hE2, asD, D.seq, Tg.slots, wipe]
    refine parts_wp hB1 (by omega) (rangeL 0 (nP a)) (fun x => rfl) fun ps s2 hpl hp hB2 k2 => ?_
    rw [hrl] at hpl
    have hadd : D.bin .add (.lst [.str w]) (.lst (ps.map Pg.d)) = some (.lst (.str w :: ps.map Pg.d)) := by
      have : nP a ≤ 3 := by unfold nP; split <;> (try split) <;> omega
      simp only [D.bin]
      rw [if_pos (by rw [LIM_eq]; simp; omega)]; rfl
    have hbt : ∀ xs st, bltV .tuple [.d (.lst xs)] st = .ok (.d (.tup xs)) st := fun xs st => by simp [bltV, bltD, derefs, deref, D.blt, D.bTuple]
    have w0 := fun o => wordP_ok (h := w) (ps := ps) (by rw [hpl]; exact ht) (by omega) hp o
    simp [hix, asDs, Tg.putV, deref, hadd, asD, hbt]
    refine draw_wp hB2 (by decide) hb6 (by omega) fun d s3 d0 d1 hB3 k3 => ?_
    have kk := (k1.trans k2).trans k3
    have f := k (offed false (wordP w ps)) s3 (w0 false).1 hB3 kk
    have g := k (offed true (wordP w ps)) s3 (w0 true).1 hB3 kk
    have hd : (offed true (wordP w ps)).d = .tup [.str "off", (wordP w ps).d] := rfl
    have hd2 : (offed false (wordP w ps)).d = (wordP w ps).d := rfl
    rw [hd, (w0 true).2] at g
    rw [hd2, (w0 false).2] at f
    by_cases z : d = 0
    · subst z
      simp [cmpV, deref, ci_eq, asB, asDs, asD, leave, kk.take]
      exact g
    · simp [cmpV, deref, ci_eq, z, asB, asDs, asD, leave, kk.take]
      exact f
end Prog

namespace Prog
open Ir
theorem arena_hd {os : List Obj} {tl s : Store} (h : Kp 1 (.arena os :: tl) s) : ∃ tl', s = .arena os :: tl' := by
  have := h.2 0 (by omega)
  cases s with
  | nil => simp at this
  | cons c r => simp at this; exact ⟨r, by rw [this]⟩
theorem bag_tl {os os' : List Obj} {tl : Store} (h : Bag (.arena os :: tl) 1) : Bag (.arena os' :: tl) 1 := by
  obtain ⟨b, e, i, j⟩ := h
  refine ⟨b, by simpa using e, i, ?_⟩
  rcases j with j | ⟨h0, P, h1, h2⟩ | ⟨_, _, _, j, _⟩
  · exact .inl j
  · exact .inr (.inl ⟨h0, P, h1, h2⟩)
  · cases j
theorem pl_pos1 (p : Pg) : 1 ≤ p.pl := by
  induction p <;> simp_all [Pg.pl]
theorem map_hK (φ : Int → Int) (k : Kd) : (k.map φ).h = k.h := by induction k <;> simp_all [Kd.map, Kd.h]
theorem renAll_h {N : Nat} {ks : List Kd} (h : ∀ k ∈ ks, k.h ≤ N) : ∀ k ∈ renAll ks [], k.h ≤ N := fun k hk => by
  rw [renAll_eq] at hk
  obtain ⟨u, hu, rfl⟩ := List.mem_map.mp hk
  rw [map_hK]; exact h u hu
set_option maxHeartbeats 4000000 in
theorem right_ok {p : Pg} (hp : Sg p) {os : List Obj} {tl : Store} {w : Int} : ∃ os', callN T 99 "_law_right" [.d p.d, .d (.int w)] (.arena os :: tl) = .ok (.d (.bool true)) (.arena os' :: tl) := by
  have hpl := hp.pl
  have hh := hp.h
  have ty := fun os tl => types_ok (os := os) (tl := tl) (N := 10) (n := 97) (by omega) hp.pln hpl (by omega)
  have td := fun os tl => typed_ok (os := os) (tl := tl) (N := 10) (n := 96) (by omega) hp.pln hpl (by omega)
  have wy : ∀ st, cmpV .eq st (.d (.int w)) (.d (.int 0)) = some (decide (w = 0)) := fun st => by simp [cmpV, deref, ci_eq]
  have nn : ∀ st, cmpV .is st (.d .non) (.d .non) = some true := fun _ => rfl
  have ff : ∀ st, cmpV .is st (.d (.bool false)) (.d (.bool false)) = some true := fun _ => rfl
  have tt : ∀ st, cmpV .isnot st (.d (.bool true)) (.d (.bool true)) = some false := fun _ => rfl
  have ln : ∀ st xs, cmpV .is st (.d (.lst xs)) (.d .non) = some false := fun _ _ => rfl
  have rn : ∀ st i, cmpV .is st (.ref i) (.d .non) = some false := fun _ _ => rfl
  have htk : ∀ (l : List Obj) (r : Store), List.take (tl.length + 1) (Cell.arena l :: (tl ++ r)) = .arena l :: tl := fun l r => by simp
  rcases ltypes_ok (os := os) (tl := tl) (N := 10) (n := 97) (by omega) hp.pln hpl (by omega) with ⟨os1, e1, no⟩ | ⟨os1, ks, e1, mg⟩
  · rcases ty os1 tl with ⟨os2, e2, _⟩ | ⟨os2, ls, e2, mg2, _, _⟩
    · obtain ⟨os3, bb, e3, hb⟩ := td os2 tl
      have hbb : bb = false := by
        cases bb with
        | false => rfl
        | true => obtain ⟨gs, hg⟩ := hb.mp rfl; exact (no gs hg).elim
      subst hbb
      refine ⟨os3, ?_⟩
      clear ty td
      generalize p.d = qd at *
      apply eq_of_wp
      rw [callN_run T_f_law_right]
      by_cases c : w = 0
      · have wy' : ∀ st, cmpV .eq st (.d (.int w)) (.d (.int 0)) = some true := fun st => by rw [wy]; simp [c]
        simp [f_law_right, runFn, e1, Tg.putV, wy', asB, e2, e3, nn, ff, leave]
      · have wy' : ∀ st, cmpV .eq st (.d (.int w)) (.d (.int 0)) = some false := fun st => by rw [wy]; simp [c]
        simp [f_law_right, runFn, e1, Tg.putV, wy', asB, e2, e3, nn, ff, leave]
    · exact absurd (mg2.sound .free) (no _)
  · rcases ty os1 tl with ⟨os2, _, no⟩ | ⟨os2, ls, e2, mg2, hN, hlen⟩
    · exact absurd (mg.sound .free) (no _)
    · obtain ⟨os3, bb, e3, hb⟩ := td os2 (tl ++ [.lst ((renAll ls []).map Kd.d)])
      have hbb : bb = true := hb.mpr ⟨_, mg2.sound .free⟩
      subst hbb
      have hnm := mg2.named mg
      rw [hnm] at e1
      have hhr := renAll_h hN
      have hrl : (renAll ls []).length = p.pl := by rw [renAll_len, hlen]
      generalize hrs : renAll ls [] = rs at *
      have al : ∀ (st : Store) (B : Nat), st[B]? = some (.lst (rs.map Kd.d)) → callN T 98 "_law_alike" [.ref B, .d (.lst (rs.map Kd.d))] st = .ok (.d (.bool true)) st := fun st B hB => alike_ref T_f_law_alike hB (by simp [LIM_eq]; omega) fun x hx => by
        obtain ⟨k, hk, rfl⟩ := List.mem_map.mp hx
        exact alike_kd T_f_law_alike k 97 (by have := hhr k hk; omega)
      have g1 : ∀ (os : List Obj) (c : Cell) (r : Store), (Cell.arena os :: (tl ++ c :: r))[tl.length + 1]? = some c := fun os c r => by simp
      have g2 : ∀ (os : List Obj) (c d : Cell) (r : Store), (Cell.arena os :: (tl ++ c :: d :: r))[tl.length + 2]? = some d := fun os c d r => by
        rw [List.getElem?_cons_succ, List.getElem?_append_right (by omega)]; simp
      have s1 : ∀ (os : List Obj) (c d : Cell) (r : Store), (Cell.arena os :: (tl ++ c :: r)).set (tl.length + 1) d = .arena os :: (tl ++ d :: r) := fun os c d r => by simp
      obtain ⟨r0, rt, hr⟩ : ∃ r0 rt, rs.map Kd.d = r0 :: rt := by
        cases h : rs.map Kd.d with
        | nil =>
          have h1 : (rs.map Kd.d).length = p.pl := by rw [List.length_map, hrl]
          rw [h] at h1
          have h2 := pl_pos1 p
          simp at h1; omega
        | cons a b => exact ⟨a, b, rfl⟩
      have hrl2 : rt.length + 1 = p.pl := by
        have : (rs.map Kd.d).length = p.pl := by rw [List.length_map, hrl]
        rw [hr] at this; simpa using this
      rcases ty os3 (tl ++ [.lst (.tup [.str "bool"] :: (rt ++ [.tup [.str "int"]]))]) with ⟨os4, _, no⟩ | ⟨os4, ls', e4, mg4, hN4, hlen4⟩
      · exact absurd (mg.sound .free) (no _)
      · have h4 : renAll ls' [] = rs := (mg4.named mg).symm.trans hnm
        rw [h4] at e4
        have hl4 : (tl ++ [Cell.lst (.tup [.str "bool"] :: (rt ++ [.tup [.str "int"]]))]).length + 1 = tl.length + 2 := by simp
        rw [hl4, List.append_assoc] at e4
        have a1 := al (.arena os2 :: (tl ++ [.lst (rs.map Kd.d)])) (tl.length + 1) (g1 _ _ _)
        have a2 := al (.arena os4 :: (tl ++ [.lst (.tup [.str "bool"] :: (rt ++ [.tup [.str "int"]])), .lst (rs.map Kd.d)])) (tl.length + 2) (g2 _ _ _ _)
        have ap : mthOk .append (.ref (tl.length + 1)) (.arena os3 :: (tl ++ [.lst (rs.map Kd.d)])) = true ∧ mthV .append (.ref (tl.length + 1)) [.d (.tup [.str "int"])] (.arena os3 :: (tl ++ [.lst (rs.map Kd.d)])) = .ok (.d .non) (.arena os3 :: (tl ++ [.lst (r0 :: (rt ++ [.tup [.str "int"]]))])) := by
          rw [hr]
          constructor
          · simp only [mthOk, g1]
          · simp only [mthV, mAppend, g1, s1]
            rw [if_pos (by rw [LIM_eq]; simp; omega)]; rfl
        have st : setV (.ref (tl.length + 1)) (.d (.int 0)) (.tup [.str "bool"]) (.arena os3 :: (tl ++ [.lst (r0 :: (rt ++ [.tup [.str "int"]]))])) = some (.arena os3 :: (tl ++ [.lst (.tup [.str "bool"] :: (rt ++ [.tup [.str "int"]]))])) := by
          have hx : ixN (r0 :: (rt ++ [D.tup [.str "int"]])).length 0 = some 0 := by simp [ixN]; try omega
          simp only [setV, g1, hx, Option.map_some, List.set_cons_zero, s1]
        refine ⟨os4, ?_⟩
        clear ty td
        generalize rs.map Kd.d = X at *
        generalize p.d = qd at *
        obtain ⟨ap1, ap2⟩ := ap
        apply eq_of_wp
        rw [callN_run T_f_law_right]
        by_cases c : w = 0
        · have wy' : ∀ st, cmpV .eq st (.d (.int w)) (.d (.int 0)) = some true := fun st => by rw [wy]; simp [c]
          simp [f_law_right, runFn, e1, Tg.putV, wy', asB, e2, ln, rn, a1, e3, tt, asDs, ap1, ap2, asD, st, e4, a2, leave, htk]
        · have wy' : ∀ st, cmpV .eq st (.d (.int w)) (.d (.int 0)) = some false := fun st => by rw [wy]; simp [c]
          simp [f_law_right, runFn, e1, Tg.putV, wy', asB, e2, ln, rn, a1, e3, tt, asDs, ap1, ap2, asD, st, e4, a2, leave, htk]
theorem turn {os : List Obj} {tl : Store} {x0 x2 : Option Val} {i : Int} {pp : Post Out} (hB : Bag (.arena os :: tl) 1)
    (k : ∀ os' tl', Bag (.arena os' :: tl') 1 → pp.q (.nx [x0, some (.ref 1), some (.d (.int i))]) (.arena os' :: tl')) :
    @Wp _ (execs (callN T 99) f_law_b0 [x0, some (.ref 1), some (.d (.int i))] (.arena os :: tl)) pp := by
  have h2 : bigOk 2 = true := by decide +kernel
  simp
  refine single_wp hB (by omega) fun p s hp hB1 k1 => ?_
  obtain ⟨tl1, rfl⟩ := arena_hd k1
  obtain ⟨os', e⟩ := right_ok hp (os := os) (tl := tl1) (w := i % 2)
  simp [deref, D.bin, h2, e, asB]
  exact k os' tl1 (bag_tl hB1)
set_option maxHeartbeats 2000000 in
theorem law_wp (ns : List Int) (hl : ns.length ≤ 63) : @Wp _ (Ir.callN T 100 "law" [.d (.ro (ns.map Ir.D.int))] [.arena []]) ⟨fun v _ => v = .d (.bool true)⟩ := by
  rw [callN_run T_f_law]
  simp [Tg.putV, Tg.put, Tg.puts, Tg.putF_eq, setAll, Tg.slots, Tg.slotss, wipe, indexV, D.index, atI, ixN, cmpV, deref, asB, asD, asDs, asI, bltV, lenDic, bltD, derefs, D.blt, D.bLen, D.bTuple, D.bList, D.seq, mthV, mthOk, setV, ci_eq, ci_lt, ci_le, ci_gt, ci_ge, cs_eq, cs_ne, D.bin, D.slice, cut, sIx, isNon, f_law]
  refine bag_wp ns (by omega) fun s1 hB1 hl1 hk1 => ?_
  obtain ⟨tl, rfl⟩ : ∃ tl, s1 = .arena [] :: tl := by
    have := hk1.2 0 (by simp) (by simp)
    cases s1 with
    | nil => simp at hl1
    | cons c r => simp at this; exact ⟨r, by rw [this]⟩
  obtain ⟨q, hq⟩ : ∃ q, q = (if (ns.length : Int) < (40 : Int) then (ns.length : Int) else (40 : Int)) := ⟨_, rfl⟩
  have hqb : 0 ≤ q ∧ q ≤ 40 := by rw [hq]; split <;> omega
  have hmin : D.bMin [.int 40, .int (ns.length : Int)] = some (.int q) := by simp only [D.bMin, hq]
  have hr : D.bRange [.int (8 + q)] = some (.lst (rangeL 0 (8 + q).toNat)) := by
    have := bRange_nat (n := (8 + q).toNat) (by simp only [LIM_eq]; omega)
    rwa [show (((8 + q).toNat : Nat) : Int) = 8 + q by omega] at this
  simp [Tg.putV, Tg.put, Tg.puts, Tg.putF_eq, setAll, Tg.slots, Tg.slotss, wipe, indexV, D.index, atI, ixN, cmpV, deref, asB, asD, asDs, asI, bltV, lenDic, bltD, derefs, D.blt, D.bLen, D.bTuple, D.bList, D.seq, mthV, mthOk, setV, ci_eq, ci_lt, ci_le, ci_gt, ci_ge, cs_eq, cs_ne, D.bin, D.slice, cut, sIx, isNon, hmin, hr]
  refine wp_loop (fun xs σ s => (∀ x ∈ xs, ∃ i : Int, x = .int i) ∧ ∃ os tl x0 x2, s = .arena os :: tl ∧ Bag s 1 ∧ σ = [x0, some (.ref 1), x2]) ?_ ?_ _ _ _ ⟨?_, [], tl, _, _, rfl, hB1, rfl⟩
  · rintro x xs σ s ⟨hx, os, tl, x0, x2, rfl, hB, rfl⟩
    obtain ⟨i, rfl⟩ := hx x (by simp)
    refine ⟨_, rfl, ?_⟩
    refine turn (x2 := x2) hB fun os' tl' hB' => ?_
    exact ⟨fun x h => hx x (List.mem_cons_of_mem _ h), _, _, _, _, rfl, hB', rfl⟩
  · rintro σ s ⟨_, os, tl, x0, x2, rfl, hB, rfl⟩
    simp [Tg.putV, Tg.put, Tg.puts, Tg.putF_eq, setAll, Tg.slots, Tg.slotss, wipe, indexV, D.index, atI, ixN, cmpV, deref, asB, asD, asDs, asI, bltV, lenDic, bltD, derefs, D.blt, D.bLen, D.bTuple, D.bList, D.seq, mthV, mthOk, setV, ci_eq, ci_lt, ci_le, ci_gt, ci_ge, cs_eq, cs_ne, D.bin, D.slice, cut, sIx, isNon, leave]
  · intro x hx
    simp only [rangeL, List.mem_map] at hx
    obtain ⟨j, _, rfl⟩ := hx
    exact ⟨_, rfl⟩
theorem law_true (ns : List Int) (hl : ns.length ≤ 63) : ∃ st', Ir.callN T 100 "law" [.d (.ro (ns.map Ir.D.int))] [.arena []] = .ok (.d (.bool true)) st' := by
  obtain ⟨v, s, e, h⟩ := wp_iff.mp (law_wp ns hl)
  have h : v = .d (.bool true) := h
  exact ⟨s, by rw [e, h]⟩
end Prog

open PySem PySem.W PyProof.Rows
set_option maxRecDepth 100000 in
set_option maxHeartbeats 0 in
theorem PySem.Challenge.cw_leastmends_k21_rules_of_single_parts_holds : PySem.Challenge.rw_leastmends_k21_rules_of_single_parts.Holds := by
  w_on; o_law; k_head; (case hw => w_witness2)
  k_fill
  refine L2.walk_ofB (l := PySem.Challenge.rw_leastmends_k21_rules_of_single_parts) (n := 63) (k := 102) (x := "_law_script") (CX := fun _ => L2.CX0) (sp := fun w => Prog.spLaw 100 _) rfl (by decide) rfl ⟨rfl, by decide, by decide⟩ (fun w h Y => PySem.W.kIn_of Y) ?F (fun _ H a ns hl hb hO hS => Snd.law_spA hO hS hl (Prog.law_true ns hl).choose_spec) (fun _ _ _ _ _ h => h)
  case F =>
    intro w mg fa h KX G hmg
    refine' Prog.all_mk KX G hmg ?ka_Solver ?kp_Solver ?kh_Solver ?ko_Solver ?ks_Solver ?km_Solver ?kk_Solver ?kn_Solver_bound ?kn_Solver_many ?ka_Finder ?kp_Finder ?kh_Finder ?ko_Finder ?ks_Finder ?km_Finder ?kk_Finder ?kn_Finder_solver ?kn_Finder_given ?kn_Finder_good ?x0 ?l0 ?c0 ?k0 ?x1 ?l1 ?c1 ?k1 ?x2 ?l2 ?c2 ?k2 ?x3 ?l3 ?c3 ?k3 ?x4 ?l4 ?c4 ?k4 ?x5 ?l5 ?c5 ?k5 ?x6 ?l6 ?c6 ?k6 ?x7 ?l7 ?c7 ?k7 ?x8 ?l8 ?c8 ?k8 ?x9 ?l9 ?c9 ?k9 ?x10 ?l10 ?c10 ?k10 ?x11 ?l11 ?c11 ?k11 ?x12 ?l12 ?c12 ?k12 ?x13 ?l13 ?c13 ?k13 ?x14 ?l14 ?c14 ?k14 ?x15 ?l15 ?c15 ?k15 ?x16 ?l16 ?c16 ?k16 ?x17 ?l17 ?c17 ?k17 ?x18 ?i18 ?l18 ?c18 ?k18 ?x19 ?i19 ?l19 ?c19 ?k19 ?x20 ?i20 ?l20 ?c20 ?k20 ?x21 ?i21 ?l21 ?c21 ?k21 ?x22 ?i22 ?l22 ?c22 ?k22 ?x23 ?i23 ?l23 ?c23 ?k23 ?x24 ?i24 ?l24 ?c24 ?k24 ?x25 ?i25 ?l25 ?c25 ?k25 ?x26 ?i26 ?l26 ?c26 ?k26 ?x27 ?l27 ?c27 ?k27 ?x28 ?l28 ?c28 ?k28 ?x29 ?l29 ?c29 ?k29 ?x30 ?l30 ?c30 ?k30 ?x31 ?l31 ?c31 ?k31 ?x32 ?l32 ?c32 ?k32 ?x33 ?l33 ?c33 ?k33 ?x34 ?l34 ?c34 ?k34 ?x35 ?l35 ?c35 ?k35 ?x36 ?l36 ?c36 ?k36 ?x37 ?l37 ?c37 ?k37 ?x38 ?l38 ?c38 ?k38 ?x39 ?l39 ?c39 ?k39 ?x40 ?l40 ?c40 ?k40 ?x41 ?l41 ?c41 ?k41 ?x42 ?l42 ?c42 ?k42 ?x43 ?l43 ?c43 ?k43 ?x44 ?l44 ?c44 ?k44 ?x45 ?l45 ?c45 ?k45 ?x46 ?l46 ?c46 ?k46 ?x47 ?l47 ?c47 ?k47 ?x48 ?l48 ?c48 ?k48   ?g_INT ?gl_INT ?gz_INT ?gk_INT ?g_BOOL ?gl_BOOL ?gz_BOOL ?gk_BOOL ?g_ALONE ?gl_ALONE ?gz_ALONE ?gk_ALONE ?g_RULES ?gl_RULES ?gk_RULES ?go_RULES ?z0 ?z1 ?z2 ?z3 ?z4 ?z5 ?z6 ?z7 ?z8 ?z9 ?z10 ?z11 ?z12
    (case ka_Solver => k_is); (case kp_Solver => k_is); (case kh_Solver => k_is); (case ko_Solver => k_is); (case ks_Solver => k_is); (case km_Solver => k_is); (case kk_Solver => k_is); (case kn_Solver_bound => k_is); (case kn_Solver_many => k_is); (case ka_Finder => k_is); (case kp_Finder => k_is); (case kh_Finder => k_is); (case ko_Finder => k_is); (case ks_Finder => k_is); (case km_Finder => k_is); (case kk_Finder => k_is); (case kn_Finder_solver => k_is); (case kn_Finder_given => k_is); (case kn_Finder_good => k_is); (case x0 => k_is); (case l0 => k_is); (case c0 => k_is); (case k0 => k_is); (case x1 => k_is); (case l1 => k_is); (case c1 => k_is); (case k1 => k_is); (case x2 => k_is); (case l2 => k_is); (case c2 => k_is); (case k2 => k_is); (case x3 => k_is); (case l3 => k_is); (case c3 => k_is); (case k3 => k_is); (case x4 => k_is); (case l4 => k_is); (case c4 => k_is); (case k4 => k_is); (case x5 => k_is); (case l5 => k_is); (case c5 => k_is); (case k5 => k_is); (case x6 => k_is); (case l6 => k_is); (case c6 => k_is); (case k6 => k_is); (case x7 => k_is); (case l7 => k_is); (case c7 => k_is); (case k7 => k_is); (case x8 => k_is); (case l8 => k_is); (case c8 => k_is); (case k8 => k_is); (case x9 => k_is); (case l9 => k_is); (case c9 => k_is); (case k9 => k_is); (case x10 => k_is); (case l10 => k_is); (case c10 => k_is); (case k10 => k_is); (case x11 => k_is); (case l11 => k_is); (case c11 => k_is); (case k11 => k_is); (case x12 => k_is); (case l12 => k_is); (case c12 => k_is); (case k12 => k_is); (case x13 => k_is); (case l13 => k_is); (case c13 => k_is); (case k13 => k_is); (case x14 => k_is); (case l14 => k_is); (case c14 => k_is); (case k14 => k_is); (case x15 => k_is); (case l15 => k_is); (case c15 => k_is); (case k15 => k_is); (case x16 => k_is); (case l16 => k_is); (case c16 => k_is); (case k16 => k_is); (case x17 => k_is); (case l17 => k_is); (case c17 => k_is); (case k17 => k_is); (case x18 => k_is); (case i18 => k_is); (case l18 => k_is); (case c18 => k_is); (case k18 => k_is); (case x19 => k_is); (case i19 => k_is); (case l19 => k_is); (case c19 => k_is); (case k19 => k_is); (case x20 => k_is); (case i20 => k_is); (case l20 => k_is); (case c20 => k_is); (case k20 => k_is); (case x21 => k_is); (case i21 => k_is); (case l21 => k_is); (case c21 => k_is); (case k21 => k_is); (case x22 => k_is); (case i22 => k_is); (case l22 => k_is); (case c22 => k_is); (case k22 => k_is); (case x23 => k_is); (case i23 => k_is); (case l23 => k_is); (case c23 => k_is); (case k23 => k_is); (case x24 => k_is); (case i24 => k_is); (case l24 => k_is); (case c24 => k_is); (case k24 => k_is); (case x25 => k_is); (case i25 => k_is); (case l25 => k_is); (case c25 => k_is); (case k25 => k_is); (case x26 => k_is); (case i26 => k_is); (case l26 => k_is); (case c26 => k_is); (case k26 => k_is); (case x27 => k_is); (case l27 => k_is); (case c27 => k_is); (case k27 => k_is); (case x28 => k_is); (case l28 => k_is); (case c28 => k_is); (case k28 => k_is); (case x29 => k_is); (case l29 => k_is); (case c29 => k_is); (case k29 => k_is); (case x30 => k_is); (case l30 => k_is); (case c30 => k_is); (case k30 => k_is); (case x31 => k_is); (case l31 => k_is); (case c31 => k_is); (case k31 => k_is); (case x32 => k_is); (case l32 => k_is); (case c32 => k_is); (case k32 => k_is); (case x33 => k_is); (case l33 => k_is); (case c33 => k_is); (case k33 => k_is); (case x34 => k_is); (case l34 => k_is); (case c34 => k_is); (case k34 => k_is); (case x35 => k_is); (case l35 => k_is); (case c35 => k_is); (case k35 => k_is); (case x36 => k_is); (case l36 => k_is); (case c36 => k_is); (case k36 => k_is); (case x37 => k_is); (case l37 => k_is); (case c37 => k_is); (case k37 => k_is); (case x38 => k_is); (case l38 => k_is); (case c38 => k_is); (case k38 => k_is); (case x39 => k_is); (case l39 => k_is); (case c39 => k_is); (case k39 => k_is); (case x40 => k_is); (case l40 => k_is); (case c40 => k_is); (case k40 => k_is); (case x41 => k_is); (case l41 => k_is); (case c41 => k_is); (case k41 => k_is); (case x42 => k_is); (case l42 => k_is); (case c42 => k_is); (case k42 => k_is); (case x43 => k_is); (case l43 => k_is); (case c43 => k_is); (case k43 => k_is); (case x44 => k_is); (case l44 => k_is); (case c44 => k_is); (case k44 => k_is); (case x45 => k_is); (case l45 => k_is); (case c45 => k_is); (case k45 => k_is); (case x46 => k_is); (case l46 => k_is); (case c46 => k_is); (case k46 => k_is); (case x47 => k_is); (case l47 => k_is); (case c47 => k_is); (case k47 => k_is); (case x48 => k_is); (case l48 => k_is); (case c48 => k_is); (case k48 => k_is)
    (case g_INT => k_is); (case gl_INT => k_is); (case gz_INT => decide); (case gk_INT => exact (.cons (.str _ _) .nil)); (case g_BOOL => k_is); (case gl_BOOL => k_is); (case gz_BOOL => decide); (case gk_BOOL => exact (.cons (.str _ _) .nil)); (case g_ALONE => k_is); (case gl_ALONE => k_is); (case gz_ALONE => decide); (case gk_ALONE => exact (.cons (.str _ _) (.cons (.str _ _) (.cons (.str _ _) .nil)))); (case g_RULES => k_is); (case gl_RULES => k_is); (case gk_RULES => exact (.cons rfl rfl (.fn (by k_is)) (.cons rfl rfl (.fn (by k_is)) (.cons rfl rfl (.fn (by k_is)) (.cons rfl rfl (.fn (by k_is)) (.cons rfl rfl (.fn (by k_is)) (.cons rfl rfl (.fn (by k_is)) (.cons rfl rfl (.fn (by k_is)) (.cons rfl rfl (.fn (by k_is)) (.cons rfl rfl (.fn (by k_is)) (.cons rfl rfl (.fn (by k_is)) (.cons rfl rfl (.fn (by k_is)) (.cons rfl rfl (.fn (by k_is)) (.cons rfl rfl (.fn (by k_is)) (.cons rfl rfl (.fn (by k_is)) .nil))))))))))))))); (case go_RULES => rfl)
    (case z0 => k_is); (case z1 => k_is); (case z2 => k_is); (case z3 => k_is); (case z4 => k_is); (case z5 => k_is); (case z6 => k_is); (case z7 => k_is); (case z8 => k_is); (case z9 => k_is); (case z10 => k_is); (case z11 => k_is); (case z12 => k_is)


