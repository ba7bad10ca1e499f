import PyProof.Rows.All
import Wide.All
import OpenK.AllK
import Wide.FinOn
import HandS.ForMost
import HandS.Wide
import HandS.WideBits
import HandS.IsInst
import HandS.SetKeys
import HandS.Zip
import HandS.EndBits
import KE.KUnpackStar
import HandS.TupAny
import HandS.Deep
import HandS.TupLe
import KE.KItemsList
import KE.KDictZip
import HandS.ListItems
import HandS.FStr
import HandS.RaiseMore
import PySem.Challenge.RW_leastmends_k81_programs_written
set_option linter.all false
set_option maxRecDepth 100000
/-! A small language with explicit store: what the given defs compute, as total functions. -/
namespace Ir
/-- deep data, never changed -/
inductive D where
  | non | bool (b : Bool) | int (i : Int) | str (s : String) | tup (xs : List D) | lst (xs : List D) | ro (xs : List D)
deriving Inhabited
inductive Val where
  | d (x : D) | ref (n : Nat)
deriving Inhabited
inductive Cell where
  | lst (xs : List D) | dic (kvs : List (D × D)) | dead
deriving Inhabited
abbrev Store := List Cell
abbrev Env := List (Option Val)
inductive Res (α : Type) where
  | ok (a : α) (st : Store) | exc (c : String) (as : List D) (st : Store) | bad
def Res.bind {α β : Type} : Res α → (α → Store → Res β) → Res β
  | .ok a st, f => f a st
  | .exc c as st, _ => .exc c as st
  | .bad, _ => .bad
@[simp] theorem Res.bind_ok {α β : Type} (a : α) (st : Store) (f : α → Store → Res β) : (Res.ok a st).bind f = f a st := rfl
@[simp] theorem Res.bind_bad {α β : Type} (f : α → Store → Res β) : (Res.bad : Res α).bind f = .bad := rfl
@[simp] theorem Res.bind_exc {α β : Type} (c as st) (f : α → Store → Res β) : (Res.exc c as st : Res α).bind f = .exc c as st := rfl
theorem Res.bind_eq_ok {α β : Type} {r : Res α} {f : α → Store → Res β} {b : β} {st : Store} (h : r.bind f = .ok b st) : ∃ a s1, r = .ok a s1 ∧ f a s1 = .ok b st := by
  cases r with
  | ok a s1 => exact ⟨a, s1, rfl, h⟩
  | exc c as s1 => cases h
  | bad => cases h

def LIM : Nat := 16777216
/-! ### data -/
mutual
def D.dep : D → Nat
  | .tup xs | .lst xs => D.depAll xs + 1
  | .non | .bool _ | .int _ | .str _ => 0
  | .ro _ => 1000
def D.depAll : List D → Nat
  | [] => 0
  | x :: xs => max x.dep (D.depAll xs)
end
mutual
/-- Python's == -/
def D.eqv : D → D → Bool
  | .non, .non => true
  | .bool a, .bool b => a == b
  | .bool a, .int j => (if a then 1 else 0) == j
  | .int i, .bool b => i == (if b then 1 else 0)
  | .int i, .int j => i == j
  | .str x, .str y => decide (x = y)
  | .lst xs, .lst ys => D.eqvAll xs ys
  | .tup xs, .tup ys => D.eqvAll xs ys
  | _, _ => false
def D.eqvAll : List D → List D → Bool
  | [], [] => true
  | x :: xs, y :: ys => D.eqv x y && D.eqvAll xs ys
  | [], _ :: _ => false
  | _ :: _, [] => false
end
/-- an index: negative ones from behind -/
def ixN (n : Nat) (i : Int) : Option Nat := if 0 ≤ i then (if i < n then some i.toNat else none) else if -(n : Int) ≤ i then some (i + n).toNat else none
def atI {α : Type} (xs : List α) (i : Int) : Option α := (ixN xs.length i).bind fun j => xs[j]?
/-- a slice's bound: clamp -/
def sIx (n : Nat) (d : Nat) : Option Int → Nat
  | none => d
  | some i => if i < 0 then (i + n).toNat else min i.toNat n
def cut {α : Type} (xs : List α) (lo hi : Option Int) : List α := (xs.drop (sIx xs.length 0 lo)).take (sIx xs.length xs.length hi - sIx xs.length 0 lo)

inductive Op where | add | sub | mul | fdiv | mod | pow
deriving DecidableEq
inductive Cmp where | eq | ne | lt | le | gt | ge | isin | notin | is | isnot
deriving DecidableEq
inductive Bi where | len | abs | tuple | list | all | any | sum | min | max | range | zip | lzip | int | str
deriving DecidableEq
def Bi.name : Bi → String
  | .len => "len" | .abs => "abs" | .tuple => "tuple" | .list => "list" | .all => "all" | .any => "any" | .sum => "sum" | .min => "min" | .max => "max" | .range => "range" | .zip => "zip" | .lzip => "list" | .int => "int" | .str => "str"
inductive Mt where | append | extend | pop | pop0 | setdefault | get | bit_length | join
deriving DecidableEq
inductive Ty where | bool | int | str | tuple | list
deriving DecidableEq
def Ty.name : Ty → String
  | .bool => "bool" | .int => "int" | .str => "str" | .tuple => "tuple" | .list => "list"
inductive Tg where
  | name (i : Nat) | tup (ts : List Tg) | star (pre : List Nat) (i : Nat) (post : List Nat)
inductive Ex where
  | var (i : Nat)
  | con (d : D)
  | tup (es : List Ex)
  | lst (es : List Ex)
  | newL (e : Ex)
  | newD
  | newDP (e : Ex)
  | newDd (es : List Ex)
  | frz (e : Ex)
  | bin (o : Op) (a b : Ex)
  | neg (a : Ex)
  | cmp (o : Cmp) (a b : Ex)
  | chain (o o' : Cmp) (a b c : Ex)
  | and (a b : Ex) | or (a b : Ex) | not (a : Ex)
  | ite (c a b : Ex)
  | idx (a b : Ex)
  | sli (a : Ex) (lo hi : Option Ex)
  | call (f : String) (es : List Ex)
  | callP (f : String) (es : List Ex) (perm : List Nat)
  | blt (f : Bi) (es : List Ex)
  | mth (m : Mt) (o : Ex) (es : List Ex)
  | isi (e : Ex) (ts : List Ty)
  | fs (es : List Ex)
  | comp (elt : Ex) (tg : Tg) (it : Ex) (cs : List Ex)
inductive Stm where
  | asg (t : Tg) (e : Ex)
  | par (i j : Nat) (a b : Ex)
  | set (o i e : Ex)
  | ex (e : Ex)
  | ret (e : Ex)
  | ite (c : Ex) (a b : List Stm)
  | loop (t : Tg) (it : Ex) (body : List Stm)
  | while (c : Ex) (body : List Stm)
  | aug (i : Nat) (o : Op) (e : Ex)
  | pass | brk | cnt
  | never
structure Fn where
  many : Nat            -- slots
  pars : Nat
  body : List Stm
abbrev Calls := String → List Val → Store → Res Val

/-! ### operators -/
def bigOk (i : Int) : Bool := decide (i.natAbs < 2 ^ 4000)
def smallOk (i : Int) : Bool := decide (-(2 ^ 64) < i ∧ i < 2 ^ 64)
def D.bin : Op → D → D → Option D
  | .add, .int i, .int j => some (.int (i + j))
  | .add, .str x, .str y => if x.length + y.length ≤ LIM then some (.str (x ++ y)) else none
  | .add, .tup xs, .tup ys => if xs.length + ys.length ≤ LIM then some (.tup (xs ++ ys)) else none
  | .add, .lst xs, .lst ys => if xs.length + ys.length ≤ LIM then some (.lst (xs ++ ys)) else none
  | .sub, .int i, .int j => some (.int (i - j))
  | .mul, .int i, .int j => if (bigOk i && bigOk j) || (smallOk i || smallOk j) then some (.int (i * j)) else none
  | .fdiv, .int i, .int j => if 0 < j && bigOk j then some (.int (i / j)) else none
  | .mod, .int i, .int j => if 0 < j then some (.int (i % j)) else none
  | .pow, .int i, .int j => if 0 ≤ j && decide (j ≤ 100) && bigOk i then some (.int (i ^ j.toNat)) else none
  | _, _, _ => none
/-- the content of a value: a cell's list as data -/
def deref (st : Store) : Val → Option D
  | .d x => some x
  | .ref n => match st[n]? with
    | some (.lst xs) => some (.lst xs)
    | _ => none
def fine (x : D) : Bool := decide (x.dep ≤ 64)
def flat : D → Bool
  | .non | .bool _ | .int _ | .str _ => true
  | _ => false
def D.key : D → Bool
  | .int _ | .str _ => true
  | _ => false
def lookK (kvs : List (D × D)) (k : D) : Option D := (kvs.find? fun p => p.1.eqv k).map (·.2)
def putK (kvs : List (D × D)) (k v : D) : List (D × D) :=
  if kvs.any fun p => p.1.eqv k then kvs.map fun p => if p.1.eqv k then (p.1, v) else p else kvs ++ [(k, v)]
/-- pairs put into a dict, one by one -/
def mergeP : List (D × D) → List D → Option (List (D × D))
  | acc, [] => some acc
  | acc, .tup [k, v] :: r => if k.key then mergeP (putK acc k v) r else none
  | _, _ :: _ => none
/-- keys and values by turns -/
def mergeF : List (D × D) → List D → Option (List (D × D))
  | acc, [] => some acc
  | acc, k :: v :: r => if k.key then mergeF (putK acc k v) r else none
  | _, [_] => none
def D.cmp : Cmp → D → D → Option Bool
  | .eq, x, y => if fine x && fine y then some (x.eqv y) else none
  | .ne, x, y => if fine x && fine y then some (!x.eqv y) else none
  | .lt, .int i, .int j => some (decide (i < j))
  | .le, .int i, .int j => some (decide (i ≤ j))
  | .gt, .int i, .int j => some (decide (i > j))
  | .ge, .int i, .int j => some (decide (i ≥ j))
  | _, _, _ => none
def D.mem (x : D) : D → Option Bool
  | .lst ys => if fine x && fine (.lst ys) then some (ys.any fun y => y.eqv x) else none
  | .tup ys => if flat x && ys.all flat then some (ys.any fun y => y.eqv x) else none
  | _ => none
def inB (st : Store) (x c : Val) : Option Bool :=
  match x, c with
  | .d k, .ref n => match st[n]? with
    | some (.dic kvs) => if k.key then some (lookK kvs k).isSome else none
    | some (.lst xs) => k.mem (.lst xs)
    | _ => none
  | .d k, .d y => k.mem y
  | _, _ => none
def isNon : Val → Val → Option Bool
  | .ref _, .d .non => some false
  | .d x, .d .non => some (match x with | .non => true | _ => false)
  | .d (.bool b), .d (.bool c) => some (decide (b = c))
  | _, _ => none
def cmpV (o : Cmp) (st : Store) (x y : Val) : Option Bool :=
  match o with
  | .isin => inB st x y
  | .notin => (inB st x y).map (!·)
  | .is => isNon x y
  | .isnot => (isNon x y).map (!·)
  | o => match deref st x, deref st y with
    | some a, some b => D.cmp o a b
    | _, _ => none
/-- a text of one sign -/
def sgn (c : Char) : D := .str (String.singleton c)
def D.index : D → D → Option D
  | .str z, .int i => if z.length ≤ LIM then (atI z.toList i).map sgn else none
  | .tup xs, .int i => atI xs i
  | .lst xs, .int i => atI xs i
  | .ro xs, .int i => atI xs i
  | _, _ => none
def indexV (st : Store) (x y : Val) : Option D :=
  match x, y with
  | .ref n, .d k => match st[n]? with
    | some (.lst xs) => D.index (.lst xs) k
    | some (.dic kvs) => if k.key then lookK kvs k else none
    | _ => none
  | .d a, .d k => a.index k
  | _, _ => none
def D.slice : D → Option Int → Option Int → Option D
  | .str z, lo, hi => if z.length ≤ LIM then some (.str (String.ofList (cut z.toList lo hi))) else none
  | .tup xs, lo, hi => some (.tup (cut xs lo hi))
  | .lst xs, lo, hi => some (.lst (cut xs lo hi))
  | .ro xs, lo, hi => some (.lst (cut xs lo hi))
  | _, _, _ => none
def D.seq : D → Option (List D)
  | .tup xs => some xs
  | .lst xs => some xs
  | _ => none
def D.tyOk : D → Ty → Bool
  | .bool _, .bool => true
  | .bool _, .int => true
  | .int _, .int => true
  | .str _, .str => true
  | .tup _, .tuple => true
  | .lst _, .list => true
  | .ro _, .list => true
  | _, _ => false
def D.bools : List D → Option (List Bool)
  | [] => some []
  | .bool b :: r => (D.bools r).map (b :: ·)
  | _ :: _ => none
def D.ints : List D → Option (List Int)
  | [] => some []
  | .int b :: r => (D.ints r).map (b :: ·)
  | _ :: _ => none
def intBits (i : Int) : Nat := if i.natAbs = 0 then 0 else i.natAbs.log2 + 1
def rangeL (lo : Int) (n : Nat) : List D := (List.range n).map fun i => .int (lo + (i : Nat))
def zipL (xs ys : List D) : List D := (xs.zip ys).map fun p => .tup [p.1, p.2]
/-- built-in calls upon data -/
def D.bLen : List D → Option D
  | [.ro xs] => some (.int xs.length)
  | [.tup xs] => some (.int xs.length)
  | [.lst xs] => some (.int xs.length)
  | [.str z] => if z.length ≤ LIM then some (.int z.length) else none
  | _ => none
def D.bAbs : List D → Option D
  | [.int i] => some (.int (if i < 0 then -i else i))
  | _ => none
def D.bTuple : List D → Option D
  | [.tup xs] => some (.tup xs)
  | [.lst xs] => some (.tup xs)
  | _ => none
def D.bList : List D → Option D
  | [.tup xs] => some (.lst xs)
  | [.lst xs] => some (.lst xs)
  | _ => none
def D.bAll : List D → Option D
  | [.lst xs] => (D.bools xs).map fun bs => .bool (bs.all id)
  | _ => none
def D.bAny : List D → Option D
  | [.lst xs] => (D.bools xs).map fun bs => .bool (bs.any id)
  | _ => none
def D.bSum : List D → Option D
  | [.lst xs] => (D.ints xs).map fun bs => .int bs.sum
  | _ => none
def D.bMin : List D → Option D
  | [.int i, .int j] => some (.int (if j < i then j else i))
  | _ => none
def D.bMax : List D → Option D
  | [.int i, .int j] => some (.int (if j > i then j else i))
  | _ => none
def D.bRange : List D → Option D
  | [.int n] => if -(LIM : Int) ≤ n ∧ n ≤ (LIM : Int) then some (.lst (rangeL 0 n.toNat)) else none
  | [.int i, .int j] => if -(LIM : Int) ≤ i ∧ i ≤ (LIM : Int) ∧ -(LIM : Int) ≤ j ∧ j ≤ (LIM : Int) ∧ j - i ≤ (LIM : Int) then some (.lst (rangeL i (j - i).toNat)) else none
  | _ => none
def D.bZip : List D → Option D
  | [.lst xs, .lst ys] => some (.lst (zipL xs ys))
  | [.tup xs, .tup ys] => some (.lst (zipL xs ys))
  | [.lst xs, .tup ys] => some (.lst (zipL xs ys))
  | _ => none
def D.bInt : List D → Option D
  | [.int i] => some (.int i)
  | [.bool b] => some (.int (if b then 1 else 0))
  | _ => none
def D.bStr : List D → Option D
  | [.int i] => if i.natAbs.log2 < 1920 then some (.str (toString i)) else none
  | [.str z] => if z.length ≤ LIM then some (.str z) else none
  | _ => none
/-- list(zip(a, b)) -/
def D.bLzip : List D → Option D
  | [.tup xs, .tup ys] => some (.lst (zipL xs ys))
  | _ => none
def D.blt : Bi → List D → Option D
  | .len => D.bLen
  | .abs => D.bAbs
  | .tuple => D.bTuple
  | .list => D.bList
  | .all => D.bAll
  | .any => D.bAny
  | .sum => D.bSum
  | .min => D.bMin
  | .max => D.bMax
  | .range => D.bRange
  | .zip => D.bZip
  | .lzip => D.bLzip
  | .int => D.bInt
  | .str => D.bStr
def derefs (st : Store) : List Val → Option (List D)
  | [] => some []
  | v :: r => match deref st v, derefs st r with
    | some d, some ds => some (d :: ds)
    | _, _ => none
def asDs : List Val → Option (List D)
  | [] => some []
  | .d x :: r => (asDs r).map (x :: ·)
  | .ref _ :: _ => none
def bltD (f : Bi) (vs : List Val) (st : Store) : Res Val :=
  match derefs st vs with
  | some ds => match D.blt f ds with
    | some r => .ok (.d r) st
    | none => .bad
  | none => .bad
def lenDic (vs : List Val) (st : Store) : Option Nat :=
  match vs with
  | [.ref n] => match st[n]? with
    | some (.dic kvs) => some kvs.length
    | _ => none
  | _ => none
def bltV (f : Bi) (vs : List Val) (st : Store) : Res Val :=
  match f with
  | .len => match lenDic vs st with
    | some n => .ok (.d (.int n)) st
    | none => bltD .len vs st
  | .zip => match asDs vs with
    | some _ => bltD .zip vs st
    | none => .bad
  | f => bltD f vs st
/-- methods of cells and data -/
def mAppend (n : Nat) (st : Store) : List Val → Res Val
  | [.d x] => match st[n]? with
    | some (.lst xs) => if xs.length < LIM then .ok (.d .non) (st.set n (.lst (xs ++ [x]))) else .bad
    | _ => .bad
  | _ => .bad
def mExtend (n : Nat) (st : Store) : List Val → Res Val
  | [.d (.lst ys)] => match st[n]? with
    | some (.lst xs) => if xs.length + ys.length ≤ LIM then .ok (.d .non) (st.set n (.lst (xs ++ ys))) else .bad
    | _ => .bad
  | _ => .bad
def mPop (n : Nat) (st : Store) : List Val → Res Val
  | [] => match st[n]? with
    | some (.lst xs) => match xs[xs.length - 1]? with
      | some y => .ok (.d y) (st.set n (.lst xs.dropLast))
      | none => .bad
    | _ => .bad
  | _ => .bad
def mPop0 (n : Nat) (st : Store) : List Val → Res Val
  | [] => match st[n]? with
    | some (.lst (y :: ys)) => .ok (.d y) (st.set n (.lst ys))
    | _ => .bad
  | _ => .bad
def mSetdefault (n : Nat) (st : Store) : List Val → Res Val
  | [.d k, .d v] => match st[n]? with
    | some (.dic kvs) => if k.key && decide (kvs.length < LIM) then (match lookK kvs k with
      | some w => .ok (.d w) st
      | none => .ok (.d v) (st.set n (.dic (putK kvs k v)))) else .bad
    | _ => .bad
  | _ => .bad
def mGet (n : Nat) (st : Store) : List Val → Res Val
  | [.d k, .d v] => match st[n]? with
    | some (.dic kvs) => if k.key then .ok (.d ((lookK kvs k).getD v)) st else .bad
    | _ => .bad
  | _ => .bad
def mBits (st : Store) : D → List Val → Res Val
  | .int i, [] => .ok (.d (.int (intBits i))) st
  | _, _ => .bad
def D.strs : List D → Option (List String)
  | [] => some []
  | .str x :: r => (D.strs r).map (x :: ·)
  | _ :: _ => none
def joinS (a : String) : List String → String
  | [] => ""
  | [x] => x
  | x :: y :: r => x ++ a ++ joinS a (y :: r)
def mJoin (st : Store) : D → List Val → Res Val
  | .str a, [.d (.lst xs)] => match D.strs xs with
    | some ys => if (ys.map (·.length)).sum + ys.length * a.length ≤ LIM then .ok (.d (.str (joinS a ys))) st else .bad
    | none => .bad
  | _, _ => .bad
def mthV (m : Mt) (o : Val) (vs : List Val) (st : Store) : Res Val :=
  match m, o with
  | .append, .ref n => mAppend n st vs
  | .extend, .ref n => mExtend n st vs
  | .pop, .ref n => mPop n st vs
  | .pop0, .ref n => mPop0 n st vs
  | .setdefault, .ref n => mSetdefault n st vs
  | .get, .ref n => mGet n st vs
  | .bit_length, .d x => mBits st x vs
  | .join, .d x => mJoin st x vs
  | _, _ => .bad
/-- the receiver's kind, ahead of the arguments -/
def mthOk (m : Mt) (o : Val) (st : Store) : Bool :=
  match m, o with
  | .append, .ref n | .extend, .ref n | .pop, .ref n | .pop0, .ref n => match st[n]? with
    | some (.lst _) => true
    | _ => false
  | .setdefault, .ref n | .get, .ref n => match st[n]? with
    | some (.dic _) => true
    | _ => false
  | .bit_length, .d (.int _) => true
  | .join, .d (.str _) => true
  | _, _ => false
def optR {α : Type} (o : Option α) (st : Store) : Res α :=
  match o with
  | some a => .ok a st
  | none => .bad
@[simp] theorem optR_some {α : Type} (a : α) (st : Store) : optR (some a) st = .ok a st := rfl
@[simp] theorem optR_none {α : Type} (st : Store) : optR (none : Option α) st = .bad := rfl
theorem optR_ok {α : Type} {o : Option α} {st st' : Store} {a : α} (h : optR o st = .ok a st') : o = some a ∧ st' = st := by
  cases o with
  | none => cases h
  | some b => cases h; exact ⟨rfl, rfl⟩

/-! ### targets -/
def wipe (σ : Env) : List Nat → Env
  | [] => σ
  | v :: vs => (wipe σ vs).set v none
mutual
def Tg.slots : Tg → List Nat
  | .name i => [i]
  | .tup ts => Tg.slotss ts
  | .star pre i post => pre ++ i :: post
def Tg.slotss : List Tg → List Nat
  | [] => []
  | t :: r => t.slots ++ Tg.slotss r
end
def setAll : List Nat → List D → Env → Option Env
  | [], [], σ => some σ
  | i :: is, x :: xs, σ => setAll is xs (σ.set i (some (.d x)))
  | _, _, _ => none
mutual
def Tg.put : Tg → D → Env → Option Env
  | .name i, x, σ => some (σ.set i (some (.d x)))
  | .tup ts, .tup xs, σ => Tg.puts ts xs σ
  | .tup _, _, _ => none
  | .star pre i post, x, σ => match x.seq with
    | none => none
    | some xs => if xs.length < pre.length + post.length then none else
      match setAll pre (xs.take pre.length) σ with
      | none => none
      | some σ1 => setAll post (xs.drop (xs.length - post.length)) (σ1.set i (some (.d (.lst ((xs.drop pre.length).take (xs.length - pre.length - post.length))))))
def Tg.puts : List Tg → List D → Env → Option Env
  | [], [], σ => some σ
  | t :: ts, x :: xs, σ => (t.put x σ).bind fun σ1 => Tg.puts ts xs σ1
  | [], _ :: _, _ => none
  | _ :: _, [], _ => none
end
def Tg.putV (t : Tg) (v : Val) (σ : Env) : Option Env :=
  match t, v with
  | .name i, v => some (σ.set i (some v))
  | t, .d x => t.put x σ
  | _, _ => none
def Tg.putF (t : Tg) : D → Env → Option Env := t.put
theorem Tg.putF_eq (t : Tg) (y : D) (σ : Env) : t.putF y σ = t.put y σ := rfl
/-- a comprehension's turns -/
def compL (f : D → Store → Res (Option D)) : List D → Store → Res (List D)
  | [], st => .ok [] st
  | x :: r, st => (f x st).bind fun y s1 => (compL f r s1).bind fun ys s2 => .ok (match y with | some y => y :: ys | none => ys) s2
def asD : Val → Option D
  | .d x => some x
  | .ref _ => none
def asB : Val → Option Bool
  | .d (.bool b) => some b
  | _ => none
def asI : Val → Option Int
  | .d (.int i) => some i
  | _ => none

/-- one turn of a comprehension -/
def compStep (f : Env → Store → Res Val) (g : Env → Store → Res Bool) (tg : Tg) (σ : Env) (y : D) (s : Store) : Res (Option D) :=
  (optR (tg.put y σ) s).bind fun σ1 s4 => (g σ1 s4).bind fun b s5 => if b then (f σ1 s5).bind fun z s6 => (optR (asD z) s6).bind fun d s7 => .ok (some d) s7 else .ok none s5
/-- a test -/
def condB (f : Env → Store → Res Val) (σ : Env) (st : Store) : Res Bool := (f σ st).bind fun x s1 => optR (asB x) s1
mutual
def eval (C : Calls) : Ex → Env → Store → Res Val
  | .var i, σ, st => match σ[i]? with
    | some (some v) => .ok v st
    | _ => .bad
  | .con d, _, st => .ok (.d d) st
  | .tup es, σ, st => (evals C es σ st).bind fun vs s1 => (optR (asDs vs) s1).bind fun ds s2 => .ok (.d (.tup ds)) s2
  | .lst es, σ, st => (evals C es σ st).bind fun vs s1 => (optR (asDs vs) s1).bind fun ds s2 => .ok (.d (.lst ds)) s2
  | .newL e, σ, st => (eval C e σ st).bind fun v s1 => match v with
    | .d (.lst xs) => .ok (.ref s1.length) (s1 ++ [.lst xs])
    | _ => .bad
  | .newD, _, st => .ok (.ref st.length) (st ++ [.dic []])
  | .newDP e, σ, st => (eval C e σ st).bind fun v s1 => match v with
    | .d (.lst xs) => match mergeP [] xs with
      | some kvs => .ok (.ref s1.length) (s1 ++ [.dic kvs])
      | none => .bad
    | _ => .bad
  | .newDd es, σ, st => (evals C es σ st).bind fun us s1 => (optR (asDs us) s1).bind fun ds s2 => match mergeF [] ds with
    | some kvs => .ok (.ref s2.length) (s2 ++ [.dic kvs])
    | none => .bad
  | .frz e, σ, st => (eval C e σ st).bind fun v s1 => match v with
    | .ref n => match s1[n]? with
      | some (.lst xs) => .ok (.d (.lst xs)) (s1.set n .dead)
      | _ => .bad
    | _ => .bad
  | .bin o a b, σ, st => (eval C a σ st).bind fun x s1 => (eval C b σ s1).bind fun y s2 => (optR (deref s2 x) s2).bind fun p s3 => (optR (deref s2 y) s3).bind fun q s4 => (optR (D.bin o p q) s4).bind fun r s5 => .ok (.d r) s5
  | .neg a, σ, st => (eval C a σ st).bind fun x s1 => (optR (asI x) s1).bind fun i s2 => .ok (.d (.int (-i))) s2
  | .cmp o a b, σ, st => (eval C a σ st).bind fun x s1 => (eval C b σ s1).bind fun y s2 => (optR (cmpV o s2 x y) s2).bind fun r s3 => .ok (.d (.bool r)) s3
  | .chain o o' a b c, σ, st => (eval C a σ st).bind fun x s1 => (eval C b σ s1).bind fun y s2 => (optR (cmpV o s2 x y) s2).bind fun r s3 =>
      if r then (eval C c σ s3).bind fun z s4 => (optR (cmpV o' s4 y z) s4).bind fun q s5 => .ok (.d (.bool q)) s5 else .ok (.d (.bool false)) s3
  | .and a b, σ, st => (eval C a σ st).bind fun x s1 => (optR (asB x) s1).bind fun c s2 => if c then eval C b σ s2 else .ok (.d (.bool false)) s2
  | .or a b, σ, st => (eval C a σ st).bind fun x s1 => (optR (asB x) s1).bind fun c s2 => if c then .ok (.d (.bool true)) s2 else eval C b σ s2
  | .not a, σ, st => (eval C a σ st).bind fun x s1 => (optR (asB x) s1).bind fun c s2 => .ok (.d (.bool (!c))) s2
  | .ite c a b, σ, st => (eval C c σ st).bind fun x s1 => (optR (asB x) s1).bind fun c s2 => if c then eval C a σ s2 else eval C b σ s2
  | .idx a b, σ, st => (eval C a σ st).bind fun x s1 => (eval C b σ s1).bind fun y s2 => (optR (indexV s2 x y) s2).bind fun r s3 => .ok (.d r) s3
  | .sli a lo hi, σ, st => (eval C a σ st).bind fun x s1 => (evalO C lo σ s1).bind fun l s2 => (evalO C hi σ s2).bind fun h s3 => (optR (deref s3 x) s3).bind fun p s4 => (optR (p.slice l h) s4).bind fun r s5 => .ok (.d r) s5
  | .call f es, σ, st => (evals C es σ st).bind fun vs s1 => C f vs s1
  | .callP f es perm, σ, st => (evals C es σ st).bind fun vs s1 => C f (perm.filterMap fun i => vs[i]?) s1
  | .blt f es, σ, st => (evals C es σ st).bind fun vs s1 => bltV f vs s1
  | .mth m o es, σ, st => (eval C o σ st).bind fun x s1 => if mthOk m x s1 then (evals C es σ s1).bind fun vs s2 => mthV m x vs s2 else .bad
  | .isi e ts, σ, st => (eval C e σ st).bind fun x s1 => (optR (deref s1 x) s1).bind fun p s2 => .ok (.d (.bool (ts.any fun t => p.tyOk t))) s2
  | .fs es, σ, st => (evals C es σ st).bind fun vs s1 => (optR (asDs vs) s1).bind fun ds s2 => (optR (D.strs ds) s2).bind fun ys s3 => if (ys.map (·.length)).sum ≤ LIM then .ok (.d (.str (joinS "" ys))) s3 else .bad
  | .comp elt tg it cs, σ, st => (eval C it σ st).bind fun x s1 => (optR (asD x) s1).bind fun p s2 => (optR p.seq s2).bind fun xs s3 =>
      (compL (compStep (eval C elt) (conds C cs) tg (wipe σ tg.slots)) xs s3).bind fun ys s8 => .ok (.d (.lst ys)) s8
def evals (C : Calls) : List Ex → Env → Store → Res (List Val)
  | [], _, st => .ok [] st
  | e :: es, σ, st => (eval C e σ st).bind fun v s1 => (evals C es σ s1).bind fun vs s2 => .ok (v :: vs) s2
def evalO (C : Calls) : Option Ex → Env → Store → Res (Option Int)
  | none, _, st => .ok none st
  | some e, σ, st => (eval C e σ st).bind fun v s1 => (optR (asI v) s1).bind fun i s2 => .ok (some i) s2
def conds (C : Calls) : List Ex → Env → Store → Res Bool
  | [], _, st => .ok true st
  | e :: es, σ, st => (eval C e σ st).bind fun v s1 => (optR (asB v) s1).bind fun c s2 => if c then conds C es σ s2 else .ok false s2
end

/-! ### statements -/
inductive Out where
  | nx (σ : Env) | ret (v : Val) | brk (σ : Env) | cnt (σ : Env)
/-- a for's turns -/
def loopL (g : D → Env → Option Env) (f : Env → Store → Res Out) : List D → Env → Store → Res Out
  | [], σ, st => .ok (.nx σ) st
  | x :: r, σ, st => (optR (g x σ) st).bind fun σ1 s1 => (f σ1 s1).bind fun o s2 => match o with
    | .nx σ2 => loopL g f r σ2 s2
    | .cnt σ2 => loopL g f r σ2 s2
    | .brk σ2 => .ok (.nx σ2) s2
    | .ret v => .ok (.ret v) s2
/-- a while's turns -/
def whileL (c : Env → Store → Res Bool) (f : Env → Store → Res Out) : Nat → Env → Store → Res Out
  | 0, _, _ => .bad
  | n + 1, σ, st => (c σ st).bind fun b s1 => if b then (f σ s1).bind fun o s2 => (match o with
    | .nx σ2 => whileL c f n σ2 s2
    | .cnt σ2 => whileL c f n σ2 s2
    | .brk σ2 => .ok (.nx σ2) s2
    | .ret v => .ok (.ret v) s2) else .ok (.nx σ) s1
def setV (o i : Val) (x : D) (st : Store) : Option Store :=
  match o, i with
  | .ref n, .d (.int k) => match st[n]? with
    | some (.lst xs) => (ixN xs.length k).map fun j => st.set n (.lst (xs.set j x))
    | some (.dic kvs) => if kvs.length < LIM then some (st.set n (.dic (putK kvs (.int k) x))) else none
    | _ => none
  | .ref n, .d (.str k) => match st[n]? with
    | some (.dic kvs) => if kvs.length < LIM then some (st.set n (.dic (putK kvs (.str k) x))) else none
    | _ => none
  | _, _ => none
def augI : Op → Int → Int → Option Int
  | .add, i, j => some (i + j)
  | .sub, i, j => some (i - j)
  | _, _, _ => none
theorem whileL_mono {c : Env → Store → Res Bool} {f : Env → Store → Res Out} : ∀ {n m : Nat} {σ : Env} {st : Store} {r : Out} {s : Store}, n ≤ m → whileL c f n σ st = .ok r s → whileL c f m σ st = .ok r s
  | 0, _, _, _, _, _, _, h => by simp [whileL] at h
  | n + 1, 0, _, _, _, _, hl, _ => by omega
  | n + 1, m + 1, σ, st, r, s, hl, h => by
    rw [whileL] at h ⊢
    obtain ⟨b, s1, e1, h1⟩ := Res.bind_eq_ok h
    rw [e1, Res.bind_ok]
    cases b with
    | false => simpa using h1
    | true =>
      simp only [if_true] at h1 ⊢
      obtain ⟨o, s2, e2, h2⟩ := Res.bind_eq_ok h1
      rw [e2, Res.bind_ok]
      cases o with
      | nx σ2 => exact whileL_mono (by omega) h2
      | cnt σ2 => exact whileL_mono (by omega) h2
      | brk σ2 => exact h2
      | ret v => exact h2
open Classical in
/-- a while: as many turns as it takes -/
noncomputable def whileU (c : Env → Store → Res Bool) (f : Env → Store → Res Out) (σ : Env) (st : Store) : Res Out :=
  if h : ∃ n r s, whileL c f n σ st = .ok r s then whileL c f h.choose σ st else .bad
theorem whileU_of {c : Env → Store → Res Bool} {f : Env → Store → Res Out} {n : Nat} {σ : Env} {st : Store} {r : Out} {s : Store} (h : whileL c f n σ st = .ok r s) : whileU c f σ st = .ok r s := by
  have hx : ∃ n r s, whileL c f n σ st = .ok r s := ⟨n, r, s, h⟩
  unfold whileU
  rw [dif_pos hx]
  obtain ⟨r', s', e⟩ := hx.choose_spec
  rw [e]
  have h1 := whileL_mono (Nat.le_max_left n hx.choose) h
  have h2 := whileL_mono (Nat.le_max_right n hx.choose) e
  rw [h1] at h2
  exact h2.symm
theorem whileU_ok {c : Env → Store → Res Bool} {f : Env → Store → Res Out} {σ : Env} {st : Store} {r : Out} {s : Store} (h : whileU c f σ st = .ok r s) : ∃ n, whileL c f n σ st = .ok r s := by
  unfold whileU at h
  split at h
  · exact ⟨_, h⟩
  · cases h
mutual
noncomputable def exec (C : Calls) : Stm → Env → Store → Res Out
  | .asg t e, σ, st => (eval C e σ st).bind fun v s1 => (optR (t.putV v σ) s1).bind fun σ1 s2 => .ok (.nx σ1) s2
  | .par i j a b, σ, st => (eval C a σ st).bind fun x s1 => (eval C b σ s1).bind fun y s2 => .ok (.nx ((σ.set i (some x)).set j (some y))) s2
  | .set o i e, σ, st => (eval C e σ st).bind fun v s1 => (eval C o σ s1).bind fun x s2 => (eval C i σ s2).bind fun k s3 => (optR (asD v) s3).bind fun d s4 => (optR (setV x k d s4) s4).bind fun s5 _ => .ok (.nx σ) s5
  | .ex e, σ, st => (eval C e σ st).bind fun _ s1 => .ok (.nx σ) s1
  | .ret e, σ, st => (eval C e σ st).bind fun v s1 => .ok (.ret v) s1
  | .ite c a b, σ, st => (eval C c σ st).bind fun x s1 => (optR (asB x) s1).bind fun c s2 => if c then execs C a σ s2 else execs C b σ s2
  | .loop t it body, σ, st => (eval C it σ st).bind fun x s1 => (optR (asD x) s1).bind fun p s2 => (optR p.seq s2).bind fun xs s3 => loopL t.putF (execs C body) xs σ s3
  | .while c body, σ, st => whileU (condB (eval C c)) (execs C body) σ st
  | .aug i o e, σ, st => match σ[i]? with
    | some (some x) => (eval C e σ st).bind fun y s1 => (optR (asI x) s1).bind fun p s2 => (optR (asI y) s2).bind fun q s3 => (optR (augI o p q) s3).bind fun r s4 => .ok (.nx (σ.set i (some (.d (.int r))))) s4
    | _ => .bad
  | .pass, σ, st => .ok (.nx σ) st
  | .brk, σ, st => .ok (.brk σ) st
  | .cnt, σ, st => .ok (.cnt σ) st
  | .never, _, _ => .bad
noncomputable def execs (C : Calls) : List Stm → Env → Store → Res Out
  | [], σ, st => .ok (.nx σ) st
  | s :: r, σ, st => (exec C s σ st).bind fun o s1 => match o with
    | .nx σ1 => execs C r σ1 s1
    | o => .ok o s1
end
/-! ### the equations, for whole applications alone -/
set_option autoImplicit true in
@[simp] theorem eval_var {C : Calls} {σ : Env} {st : Store} : eval C (Ex.var i) σ st = (match σ[i]? with
    | some (some v) => .ok v st
    | _ => .bad) := by rw [eval]
set_option autoImplicit true in
@[simp] theorem eval_con {C : Calls} {σ : Env} {st : Store} : eval C (Ex.con d) σ st = (.ok (.d d) st) := by rw [eval]
set_option autoImplicit true in
@[simp] theorem eval_tup {C : Calls} {σ : Env} {st : Store} : eval C (Ex.tup es) σ st = ((evals C es σ st).bind fun vs s1 => (optR (asDs vs) s1).bind fun ds s2 => .ok (.d (.tup ds)) s2) := by rw [eval]
set_option autoImplicit true in
@[simp] theorem eval_lst {C : Calls} {σ : Env} {st : Store} : eval C (Ex.lst es) σ st = ((evals C es σ st).bind fun vs s1 => (optR (asDs vs) s1).bind fun ds s2 => .ok (.d (.lst ds)) s2) := by rw [eval]
set_option autoImplicit true in
@[simp] theorem eval_newL {C : Calls} {σ : Env} {st : Store} : eval C (Ex.newL e) σ st = ((eval C e σ st).bind fun v s1 => match v with
    | .d (.lst xs) => .ok (.ref s1.length) (s1 ++ [.lst xs])
    | _ => .bad) := by rw [eval]
set_option autoImplicit true in
@[simp] theorem eval_newD {C : Calls} {σ : Env} {st : Store} : eval C (Ex.newD) σ st = (.ok (.ref st.length) (st ++ [.dic []])) := by rw [eval]
set_option autoImplicit true in
@[simp] theorem eval_newDP {C : Calls} {σ : Env} {st : Store} : eval C (Ex.newDP e) σ st = ((eval C e σ st).bind fun v s1 => match v with
    | .d (.lst xs) => match mergeP [] xs with
      | some kvs => .ok (.ref s1.length) (s1 ++ [.dic kvs])
      | none => .bad
    | _ => .bad) := by rw [eval]
set_option autoImplicit true in
@[simp] theorem eval_newDd {C : Calls} {σ : Env} {st : Store} : eval C (Ex.newDd es) σ st = ((evals C es σ st).bind fun us s1 => (optR (asDs us) s1).bind fun ds s2 => match mergeF [] ds with
    | some kvs => .ok (.ref s2.length) (s2 ++ [.dic kvs])
    | none => .bad) := by rw [eval]
set_option autoImplicit true in
@[simp] theorem eval_frz {C : Calls} {σ : Env} {st : Store} : eval C (Ex.frz e) σ st = ((eval C e σ st).bind fun v s1 => match v with
    | .ref n => match s1[n]? with
      | some (.lst xs) => .ok (.d (.lst xs)) (s1.set n .dead)
      | _ => .bad
    | _ => .bad) := by rw [eval]
set_option autoImplicit true in
@[simp] theorem eval_bin {C : Calls} {σ : Env} {st : Store} : eval C (Ex.bin o a b) σ st = ((eval C a σ st).bind fun x s1 => (eval C b σ s1).bind fun y s2 => (optR (deref s2 x) s2).bind fun p s3 => (optR (deref s2 y) s3).bind fun q s4 => (optR (D.bin o p q) s4).bind fun r s5 => .ok (.d r) s5) := by rw [eval]
set_option autoImplicit true in
@[simp] theorem eval_neg {C : Calls} {σ : Env} {st : Store} : eval C (Ex.neg a) σ st = ((eval C a σ st).bind fun x s1 => (optR (asI x) s1).bind fun i s2 => .ok (.d (.int (-i))) s2) := by rw [eval]
set_option autoImplicit true in
@[simp] theorem eval_cmp {C : Calls} {σ : Env} {st : Store} : eval C (Ex.cmp o a b) σ st = ((eval C a σ st).bind fun x s1 => (eval C b σ s1).bind fun y s2 => (optR (cmpV o s2 x y) s2).bind fun r s3 => .ok (.d (.bool r)) s3) := by rw [eval]
set_option autoImplicit true in
@[simp] theorem eval_chain {C : Calls} {σ : Env} {st : Store} : eval C (Ex.chain o o' a b c) σ st = ((eval C a σ st).bind fun x s1 => (eval C b σ s1).bind fun y s2 => (optR (cmpV o s2 x y) s2).bind fun r s3 =>
      if r then (eval C c σ s3).bind fun z s4 => (optR (cmpV o' s4 y z) s4).bind fun q s5 => .ok (.d (.bool q)) s5 else .ok (.d (.bool false)) s3) := by rw [eval]
set_option autoImplicit true in
@[simp] theorem eval_and {C : Calls} {σ : Env} {st : Store} : eval C (Ex.and a b) σ st = ((eval C a σ st).bind fun x s1 => (optR (asB x) s1).bind fun c s2 => if c then eval C b σ s2 else .ok (.d (.bool false)) s2) := by rw [eval]
set_option autoImplicit true in
@[simp] theorem eval_or {C : Calls} {σ : Env} {st : Store} : eval C (Ex.or a b) σ st = ((eval C a σ st).bind fun x s1 => (optR (asB x) s1).bind fun c s2 => if c then .ok (.d (.bool true)) s2 else eval C b σ s2) := by rw [eval]
set_option autoImplicit true in
@[simp] theorem eval_not {C : Calls} {σ : Env} {st : Store} : eval C (Ex.not a) σ st = ((eval C a σ st).bind fun x s1 => (optR (asB x) s1).bind fun c s2 => .ok (.d (.bool (!c))) s2) := by rw [eval]
set_option autoImplicit true in
@[simp] theorem eval_ite {C : Calls} {σ : Env} {st : Store} : eval C (Ex.ite c a b) σ st = ((eval C c σ st).bind fun x s1 => (optR (asB x) s1).bind fun c s2 => if c then eval C a σ s2 else eval C b σ s2) := by rw [eval]
set_option autoImplicit true in
@[simp] theorem eval_idx {C : Calls} {σ : Env} {st : Store} : eval C (Ex.idx a b) σ st = ((eval C a σ st).bind fun x s1 => (eval C b σ s1).bind fun y s2 => (optR (indexV s2 x y) s2).bind fun r s3 => .ok (.d r) s3) := by rw [eval]
set_option autoImplicit true in
@[simp] theorem eval_sli {C : Calls} {σ : Env} {st : Store} : eval C (Ex.sli a lo hi) σ st = ((eval C a σ st).bind fun x s1 => (evalO C lo σ s1).bind fun l s2 => (evalO C hi σ s2).bind fun h s3 => (optR (deref s3 x) s3).bind fun p s4 => (optR (p.slice l h) s4).bind fun r s5 => .ok (.d r) s5) := by rw [eval]
set_option autoImplicit true in
@[simp] theorem eval_call {C : Calls} {σ : Env} {st : Store} : eval C (Ex.call f es) σ st = ((evals C es σ st).bind fun vs s1 => C f vs s1) := by rw [eval]
set_option autoImplicit true in
@[simp] theorem eval_callP {C : Calls} {σ : Env} {st : Store} : eval C (Ex.callP f es perm) σ st = ((evals C es σ st).bind fun vs s1 => C f (perm.filterMap fun i => vs[i]?) s1) := by rw [eval]
set_option autoImplicit true in
@[simp] theorem eval_blt {C : Calls} {σ : Env} {st : Store} : eval C (Ex.blt f es) σ st = ((evals C es σ st).bind fun vs s1 => bltV f vs s1) := by rw [eval]
set_option autoImplicit true in
@[simp] theorem eval_mth {C : Calls} {σ : Env} {st : Store} : eval C (Ex.mth m o es) σ st = ((eval C o σ st).bind fun x s1 => if mthOk m x s1 then (evals C es σ s1).bind fun vs s2 => mthV m x vs s2 else .bad) := by rw [eval]
set_option autoImplicit true in
@[simp] theorem eval_isi {C : Calls} {σ : Env} {st : Store} : eval C (Ex.isi e ts) σ st = ((eval C e σ st).bind fun x s1 => (optR (deref s1 x) s1).bind fun p s2 => .ok (.d (.bool (ts.any fun t => p.tyOk t))) s2) := by rw [eval]
set_option autoImplicit true in
@[simp] theorem eval_fs {C : Calls} {σ : Env} {st : Store} : eval C (Ex.fs es) σ st = ((evals C es σ st).bind fun vs s1 => (optR (asDs vs) s1).bind fun ds s2 => (optR (D.strs ds) s2).bind fun ys s3 => if (ys.map (·.length)).sum ≤ LIM then .ok (.d (.str (joinS "" ys))) s3 else .bad) := by rw [eval]
set_option autoImplicit true in
@[simp] theorem eval_comp {C : Calls} {σ : Env} {st : Store} : eval C (Ex.comp elt tg it cs) σ st = ((eval C it σ st).bind fun x s1 => (optR (asD x) s1).bind fun p s2 => (optR p.seq s2).bind fun xs s3 =>
      (compL (compStep (eval C elt) (conds C cs) tg (wipe σ tg.slots)) xs s3).bind fun ys s8 => .ok (.d (.lst ys)) s8) := by rw [eval]
set_option autoImplicit true in
@[simp] theorem evals_nil {C : Calls} {σ : Env} {st : Store} : evals C ([]) σ st = (.ok [] st) := by rw [evals]
set_option autoImplicit true in
@[simp] theorem evals_cons {C : Calls} {σ : Env} {st : Store} : evals C (e :: es) σ st = ((eval C e σ st).bind fun v s1 => (evals C es σ s1).bind fun vs s2 => .ok (v :: vs) s2) := by rw [evals]
set_option autoImplicit true in
@[simp] theorem evalO_none {C : Calls} {σ : Env} {st : Store} : evalO C (none) σ st = (.ok none st) := by rw [evalO]
set_option autoImplicit true in
@[simp] theorem evalO_some {C : Calls} {σ : Env} {st : Store} : evalO C (some e) σ st = ((eval C e σ st).bind fun v s1 => (optR (asI v) s1).bind fun i s2 => .ok (some i) s2) := by rw [evalO]
set_option autoImplicit true in
@[simp] theorem conds_nil {C : Calls} {σ : Env} {st : Store} : conds C ([]) σ st = (.ok true st) := by rw [conds]
set_option autoImplicit true in
@[simp] theorem conds_cons {C : Calls} {σ : Env} {st : Store} : conds C (e :: es) σ st = ((eval C e σ st).bind fun v s1 => (optR (asB v) s1).bind fun c s2 => if c then conds C es σ s2 else .ok false s2) := by rw [conds]
set_option autoImplicit true in
@[simp] theorem exec_asg {C : Calls} {σ : Env} {st : Store} : exec C (Stm.asg t e) σ st = ((eval C e σ st).bind fun v s1 => (optR (t.putV v σ) s1).bind fun σ1 s2 => .ok (.nx σ1) s2) := by rw [exec]
set_option autoImplicit true in
@[simp] theorem exec_par {C : Calls} {σ : Env} {st : Store} : exec C (Stm.par i j a b) σ st = ((eval C a σ st).bind fun x s1 => (eval C b σ s1).bind fun y s2 => .ok (.nx ((σ.set i (some x)).set j (some y))) s2) := by rw [exec]
set_option autoImplicit true in
@[simp] theorem exec_set {C : Calls} {σ : Env} {st : Store} : exec C (Stm.set o i e) σ st = ((eval C e σ st).bind fun v s1 => (eval C o σ s1).bind fun x s2 => (eval C i σ s2).bind fun k s3 => (optR (asD v) s3).bind fun d s4 => (optR (setV x k d s4) s4).bind fun s5 _ => .ok (.nx σ) s5) := by rw [exec]
set_option autoImplicit true in
@[simp] theorem exec_ex {C : Calls} {σ : Env} {st : Store} : exec C (Stm.ex e) σ st = ((eval C e σ st).bind fun _ s1 => .ok (.nx σ) s1) := by rw [exec]
set_option autoImplicit true in
@[simp] theorem exec_ret {C : Calls} {σ : Env} {st : Store} : exec C (Stm.ret e) σ st = ((eval C e σ st).bind fun v s1 => .ok (.ret v) s1) := by rw [exec]
set_option autoImplicit true in
@[simp] theorem exec_ite {C : Calls} {σ : Env} {st : Store} : exec C (Stm.ite c a b) σ st = ((eval C c σ st).bind fun x s1 => (optR (asB x) s1).bind fun c s2 => if c then execs C a σ s2 else execs C b σ s2) := by rw [exec]
set_option autoImplicit true in
@[simp] theorem exec_loop {C : Calls} {σ : Env} {st : Store} : exec C (Stm.loop t it body) σ st = ((eval C it σ st).bind fun x s1 => (optR (asD x) s1).bind fun p s2 => (optR p.seq s2).bind fun xs s3 => loopL t.putF (execs C body) xs σ s3) := by rw [exec]
set_option autoImplicit true in
@[simp] theorem exec_while {C : Calls} {σ : Env} {st : Store} : exec C (Stm.while c body) σ st = (whileU (condB (eval C c)) (execs C body) σ st) := by rw [exec]
set_option autoImplicit true in
@[simp] theorem exec_aug {C : Calls} {σ : Env} {st : Store} : exec C (Stm.aug i o e) σ st = (match σ[i]? with
    | some (some x) => (eval C e σ st).bind fun y s1 => (optR (asI x) s1).bind fun p s2 => (optR (asI y) s2).bind fun q s3 => (optR (augI o p q) s3).bind fun r s4 => .ok (.nx (σ.set i (some (.d (.int r))))) s4
    | _ => .bad) := by rw [exec]
set_option autoImplicit true in
@[simp] theorem exec_pass {C : Calls} {σ : Env} {st : Store} : exec C (Stm.pass) σ st = (.ok (.nx σ) st) := by rw [exec]
set_option autoImplicit true in
@[simp] theorem exec_brk {C : Calls} {σ : Env} {st : Store} : exec C (Stm.brk) σ st = (.ok (.brk σ) st) := by rw [exec]
set_option autoImplicit true in
@[simp] theorem exec_cnt {C : Calls} {σ : Env} {st : Store} : exec C (Stm.cnt) σ st = (.ok (.cnt σ) st) := by rw [exec]
set_option autoImplicit true in
@[simp] theorem exec_never {C : Calls} {σ : Env} {st : Store} : exec C (Stm.never) σ st = (.bad) := by rw [exec]
set_option autoImplicit true in
@[simp] theorem execs_nil {C : Calls} {σ : Env} {st : Store} : execs C ([]) σ st = (.ok (.nx σ) st) := by rw [execs]
set_option autoImplicit true in
@[simp] theorem execs_cons {C : Calls} {σ : Env} {st : Store} : execs C (s :: r) σ st = ((exec C s σ st).bind fun o s1 => match o with
    | .nx σ1 => execs C r σ1 s1
    | o => .ok o s1) := by rw [execs]
/-- what a def leaves: its own cells are dropped, but one that it hands back -/
def leave (m : Nat) (v : Val) (st : Store) : Res Val :=
  match v with
  | .d x => .ok (.d x) (st.take m)
  | .ref n => if n < m then .ok (.ref n) (st.take m) else match st[n]? with
    | some c => .ok (.ref m) (st.take m ++ [c])
    | none => .bad
noncomputable def runFn (C : Calls) (f : Fn) (vs : List Val) (st : Store) : Res Val :=
  if vs.length = f.pars ∧ f.pars ≤ f.many then
    (execs C f.body (vs.map some ++ List.replicate (f.many - f.pars) none) st).bind fun o s1 => match o with
      | .nx _ => leave st.length (.d .non) s1
      | .ret v => leave st.length v s1
      | _ => .bad
  else .bad
abbrev Tab := String → Option Fn
noncomputable def callN (T : Tab) : Nat → Calls
  | 0, _, _, _ => .bad
  | n + 1, f, vs, st => match T f with
    | some fn => runFn (callN T n) fn vs st
    | none => .bad
theorem callN_run {T : Tab} {f : String} {fn : Fn} (h : T f = some fn) (n : Nat) (vs : List Val) (st : Store) : callN T (n + 1) f vs st = runFn (callN T n) fn vs st := by rw [callN, h]
/-- a table by a list -/
def tabOf (l : List (String × Fn)) : Tab := fun s => l.lookup s
theorem tab_mem {l : List (String × Fn)} {f : String} {fn : Fn} (h : tabOf l f = some fn) : (f, fn) ∈ l := by
  unfold tabOf at h
  induction l with
  | nil => cases h
  | cons p l ih =>
    obtain ⟨g, gn⟩ := p
    simp only [List.lookup] at h
    split at h
    · rename_i e
      cases h
      rw [eq_of_beq e]
      exact List.mem_cons_self
    · exact List.mem_cons_of_mem _ (ih h)
end Ir

set_option Elab.async false
namespace Snd
open PySem PySem.Spec PyProof.Rows L2
/-! ### what stands for what -/
/-- the cells' addresses by number; addresses that are kept for a list that is being made -/
structure Rho where
  ix : List (Option Addr)
  res : List Addr := []
def Rho.own (ρ : Rho) (a : Addr) : Prop := some a ∈ ρ.ix ∨ a ∈ ρ.res
def TpAt (ρ : Rho) (K : PySem.W.Frag) (H : Hp) (a : Addr) (ys : List V) : Prop :=
  (Rd H a (.tup ys) ∧ ¬ ρ.own a) ∨
    ∃ (o : Obj) (its : Array Value) (n : Nat), K.lookup a = some o ∧ o.cls = .type "tuple" ∧ o.data = .seq its n ∧ its.size ≤ sizeLine ∧ Vals ys its.toList
theorem TpAt.sq {ρ : Rho} {K : PySem.W.Frag} {H : Hp} {a : Addr} {ys : List V} (h : TpAt ρ K H a ys) : SqT K H a ys := by
  rcases h with ⟨h, _⟩ | h
  · exact .inl h
  · exact .inr h
def LrAt (ρ : Rho) (K : PySem.W.Frag) (H : Hp) (a : Addr) (ys : List V) : Prop :=
  ((∃ o, H a = some (.frz o (.lst ys))) ∧ ¬ ρ.own a) ∨
    ∃ (o : Obj) (its : Array Value) (n : Nat), K.lookup a = some o ∧ o.cls = .type "list" ∧ o.dict = none ∧ o.data = .seq its n ∧ its.size ≤ sizeLine ∧ Vals ys its.toList
theorem LrAt.sq {ρ : Rho} {K : PySem.W.Frag} {H : Hp} {a : Addr} {ys : List V} (h : LrAt ρ K H a ys) : SqL K H a ys := by
  rcases h with ⟨h, _⟩ | h
  · exact .inl (.inr h)
  · exact .inr h
mutual
inductive RD (ρ : Rho) (K : PySem.W.Frag) (H : Hp) : Ir.D → V → Prop
  | non : RD ρ K H .non .non
  | bool (b : Bool) : RD ρ K H (.bool b) (.bl b)
  | int (i : Int) : RD ρ K H (.int i) (.int i)
  | str (s : String) : RD ρ K H (.str s) (.str (Str.ofString s))
  | tup {a : Addr} {xs : List Ir.D} {ys : List V} : TpAt ρ K H a ys → ys.length ≤ sizeLine → RDs ρ K H xs ys → RD ρ K H (.tup xs) (.ref a)
  | lst {a : Addr} {xs : List Ir.D} {ys : List V} : H a = some (.lst ys) → ¬ ρ.own a → ys.length ≤ sizeLine → RDs ρ K H xs ys → RD ρ K H (.lst xs) (.ref a)
  | ro {a : Addr} {xs : List Ir.D} {ys : List V} : LrAt ρ K H a ys → ys.length ≤ sizeLine → RDs ρ K H xs ys → RD ρ K H (.ro xs) (.ref a)
inductive RDs (ρ : Rho) (K : PySem.W.Frag) (H : Hp) : List Ir.D → List V → Prop
  | nil : RDs ρ K H [] []
  | cons {x : Ir.D} {xs : List Ir.D} {y : V} {ys : List V} : RD ρ K H x y → RDs ρ K H xs ys → RDs ρ K H (x :: xs) (y :: ys)
end
structure Ext (ρ : Rho) (H : Hp) (ρ' : Rho) (H' : Hp) : Prop where
  fr : ∀ a o, H a = some o → some a ∉ ρ.ix → H' a = some o
  nw : ∀ a, ρ'.own a → ρ.own a ∨ H a = none
  len : ρ.ix.length ≤ ρ'.ix.length
  ix : ∀ (n : Nat) (a : Addr), ρ'.ix[n]? = some (some a) → n < ρ.ix.length → ρ.ix[n]? = some (some a)
  rs : ∀ a ∈ ρ.res, a ∈ ρ'.res
  rn : ∀ a ∈ ρ.res, some a ∉ ρ.ix → some a ∉ ρ'.ix
  al : ∀ a, H' a = none → H a = none
theorem Ext.refl (ρ : Rho) (H : Hp) : Ext ρ H ρ H := ⟨fun _ _ h _ => h, fun _ h => .inl h, Nat.le_refl _, fun _ _ h _ => h, fun _ h => h, fun _ _ h => h, fun _ h => h⟩
theorem own_no {ρ : Rho} {a : Addr} (h : ¬ ρ.own a) : some a ∉ ρ.ix := fun z => h (.inl z)
theorem Ext.notin {ρ ρ' : Rho} {H H' : Hp} (e : Ext ρ H ρ' H') {a : Addr} {o : HO} (h : H a = some o) (n : ¬ ρ.own a) : ¬ ρ'.own a := fun z => by
  rcases e.nw a z with q | q
  · exact n q
  · rw [h] at q; cases q
theorem Ext.notix {ρ ρ' : Rho} {H H' : Hp} (e : Ext ρ H ρ' H') {a : Addr} {o : HO} (h : H a = some o) (n : some a ∉ ρ.ix) : some a ∉ ρ'.ix := by
  by_cases hr : a ∈ ρ.res
  · exact e.rn a hr n
  · exact own_no (e.notin h (fun z => z.elim n hr))
theorem Ext.trans {ρ ρ1 ρ2 : Rho} {H H1 H2 : Hp} (e : Ext ρ H ρ1 H1) (f : Ext ρ1 H1 ρ2 H2) : Ext ρ H ρ2 H2 where
  fr := fun a o h n => f.fr a o (e.fr a o h n) (e.notix h n)
  nw := fun a h => by
    rcases f.nw a h with q | q
    · exact e.nw a q
    · by_cases ha : some a ∈ ρ.ix
      · exact .inl (.inl ha)
      · cases hh : H a with
        | none => exact .inr rfl
        | some o => rw [e.fr a o hh ha] at q; cases q
  len := Nat.le_trans e.len f.len
  ix := fun n a h hn => e.ix n a (f.ix n a h (Nat.lt_of_lt_of_le hn e.len)) hn
  rs := fun a h => f.rs a (e.rs a h)
  rn := fun a h n => f.rn a (e.rs a h) (e.rn a h n)
  al := fun a h => e.al a (f.al a h)
theorem upd_al {H : Hp} {p : Addr} {o : HO} (a : Addr) (h : upd H p o a = none) : H a = none := by
  by_cases e : a = p
  · subst e; rw [upd_same] at h; cases h
  · rw [upd_ne e] at h; exact h
theorem TpAt.mono {ρ ρ' : Rho} {K : PySem.W.Frag} {H H' : Hp} (e : Ext ρ H ρ' H') {a : Addr} {ys : List V} (h : TpAt ρ K H a ys) : TpAt ρ' K H' a ys := by
  rcases h with ⟨h, n⟩ | h
  · rcases h with h | ⟨o, h⟩
    · exact .inl ⟨.inl (e.fr _ _ h (own_no n)), e.notin h n⟩
    · exact .inl ⟨.inr ⟨o, e.fr _ _ h (own_no n)⟩, e.notin h n⟩
  · exact .inr h
theorem LrAt.mono {ρ ρ' : Rho} {K : PySem.W.Frag} {H H' : Hp} (e : Ext ρ H ρ' H') {a : Addr} {ys : List V} (h : LrAt ρ K H a ys) : LrAt ρ' K H' a ys := by
  rcases h with ⟨⟨o, h⟩, n⟩ | h
  · exact .inl ⟨⟨o, e.fr _ _ h (own_no n)⟩, e.notin h n⟩
  · exact .inr h
mutual
theorem RD.mono {ρ ρ' : Rho} {K : PySem.W.Frag} {H H' : Hp} (e : Ext ρ H ρ' H') : ∀ {x : Ir.D} {v : V}, RD ρ K H x v → RD ρ' K H' x v
  | _, _, .non => .non
  | _, _, .bool b => .bool b
  | _, _, .int i => .int i
  | _, _, .str s => .str s
  | _, _, .tup h z r => .tup (h.mono e) z (RDs.mono e r)
  | _, _, .ro h z r => .ro (h.mono e) z (RDs.mono e r)
  | _, _, .lst h n z r => .lst (e.fr _ _ h (own_no n)) (e.notin h n) z (RDs.mono e r)
theorem RDs.mono {ρ ρ' : Rho} {K : PySem.W.Frag} {H H' : Hp} (e : Ext ρ H ρ' H') : ∀ {xs : List Ir.D} {vs : List V}, RDs ρ K H xs vs → RDs ρ' K H' xs vs
  | _, _, .nil => .nil
  | _, _, .cons h r => .cons (RD.mono e h) (RDs.mono e r)
end
section
variable {ρ : Rho} {K : PySem.W.Frag} {H : Hp}
theorem RDs.length : ∀ {xs : List Ir.D} {vs : List V}, RDs ρ K H xs vs → xs.length = vs.length
  | _, _, .nil => rfl
  | _, _, .cons _ r => congrArg (· + 1) r.length
theorem RDs.get : ∀ {xs : List Ir.D} {vs : List V} {i : Nat} {x : Ir.D}, RDs ρ K H xs vs → xs[i]? = some x → ∃ v, vs[i]? = some v ∧ RD ρ K H x v
  | _, _, _, _, .nil, h => by simp at h
  | _, _, 0, _, .cons h _, e => by simp at e; subst e; exact ⟨_, rfl, h⟩
  | _, _, i + 1, _, .cons _ r, e => by
    obtain ⟨v, h1, h2⟩ := RDs.get (i := i) r (by simpa using e)
    exact ⟨v, by simpa using h1, h2⟩
theorem RDs.append : ∀ {xs ys : List Ir.D} {vs ws : List V}, RDs ρ K H xs vs → RDs ρ K H ys ws → RDs ρ K H (xs ++ ys) (vs ++ ws)
  | _, _, _, _, .nil, s => s
  | _, _, _, _, .cons h r, s => .cons h (RDs.append r s)
theorem RDs.drop : ∀ (n : Nat) {xs : List Ir.D} {vs : List V}, RDs ρ K H xs vs → RDs ρ K H (xs.drop n) (vs.drop n)
  | 0, _, _, r => r
  | _ + 1, _, _, .nil => .nil
  | n + 1, _, _, .cons _ r => RDs.drop n r
theorem RDs.take : ∀ (n : Nat) {xs : List Ir.D} {vs : List V}, RDs ρ K H xs vs → RDs ρ K H (xs.take n) (vs.take n)
  | 0, _, _, _ => .nil
  | _ + 1, _, _, .nil => .nil
  | n + 1, _, _, .cons h r => .cons h (RDs.take n r)
theorem RDs.set {x : Ir.D} {v : V} (h : RD ρ K H x v) : ∀ (n : Nat) {xs : List Ir.D} {vs : List V}, RDs ρ K H xs vs → RDs ρ K H (xs.set n x) (vs.set n v)
  | _, _, _, .nil => .nil
  | 0, _, _, .cons _ r => .cons h r
  | n + 1, _, _, .cons q r => .cons q (RDs.set h n r)
end
def RV (ρ : Rho) (K : PySem.W.Frag) (H : Hp) : Ir.Val → V → Prop
  | .d x, v => RD ρ K H x v
  | .ref n, v => n < ρ.ix.length ∧ ∃ a, v = .ref a ∧ ∀ b, ρ.ix[n]? = some (some b) → b = a
theorem RV.mono {ρ ρ' : Rho} {K : PySem.W.Frag} {H H' : Hp} (e : Ext ρ H ρ' H') : ∀ {x : Ir.Val} {v : V}, RV ρ K H x v → RV ρ' K H' x v
  | .d _, _, h => RD.mono e h
  | .ref n, _, ⟨h1, a, h2, h3⟩ => ⟨Nat.lt_of_lt_of_le h1 e.len, a, h2, fun b q => h3 b (e.ix n b q h1)⟩
inductive RVs (ρ : Rho) (K : PySem.W.Frag) (H : Hp) : List Ir.Val → List V → Prop
  | nil : RVs ρ K H [] []
  | cons {x : Ir.Val} {xs : List Ir.Val} {y : V} {ys : List V} : RV ρ K H x y → RVs ρ K H xs ys → RVs ρ K H (x :: xs) (y :: ys)
theorem RVs.mono {ρ ρ' : Rho} {K : PySem.W.Frag} {H H' : Hp} (e : Ext ρ H ρ' H') : ∀ {xs : List Ir.Val} {vs : List V}, RVs ρ K H xs vs → RVs ρ' K H' xs vs
  | _, _, .nil => .nil
  | _, _, .cons h r => .cons (RV.mono e h) (RVs.mono e r)
theorem RVs.length {ρ : Rho} {K : PySem.W.Frag} {H : Hp} : ∀ {xs : List Ir.Val} {vs : List V}, RVs ρ K H xs vs → xs.length = vs.length
  | _, _, .nil => rfl
  | _, _, .cons _ r => congrArg (· + 1) r.length
theorem RVs.ds {ρ : Rho} {K : PySem.W.Frag} {H : Hp} : ∀ {xs : List Ir.Val} {vs : List V} {ds : List Ir.D}, RVs ρ K H xs vs → Ir.asDs xs = some ds → RDs ρ K H ds vs
  | _, _, _, .nil, h => by simp [Ir.asDs] at h; subst h; exact .nil
  | .d x :: xs, _, _, .cons h r, e => by
    simp only [Ir.asDs, Option.map_eq_some_iff] at e
    obtain ⟨ds, e1, e2⟩ := e
    subst e2
    exact .cons h (RVs.ds r e1)
  | .ref n :: xs, _, _, .cons h r, e => by simp [Ir.asDs] at e
def RK : Ir.D → Key → Prop
  | .int i, k => k = .inl i
  | .str s, k => k = .inr (Str.ofString s)
  | _, _ => False
inductive RKs (ρ : Rho) (K : PySem.W.Frag) (H : Hp) : List (Ir.D × Ir.D) → List (Key × V) → Prop
  | nil : RKs ρ K H [] []
  | cons {k v : Ir.D} {xs : List (Ir.D × Ir.D)} {k' : Key} {v' : V} {ys : List (Key × V)} : RK k k' → RD ρ K H v v' → RKs ρ K H xs ys → RKs ρ K H ((k, v) :: xs) ((k', v') :: ys)
theorem RKs.mono {ρ ρ' : Rho} {K : PySem.W.Frag} {H H' : Hp} (e : Ext ρ H ρ' H') : ∀ {xs : List (Ir.D × Ir.D)} {vs : List (Key × V)}, RKs ρ K H xs vs → RKs ρ' K H' xs vs
  | _, _, .nil => .nil
  | _, _, .cons h q r => .cons h (RD.mono e q) (RKs.mono e r)
theorem RKs.length {ρ : Rho} {K : PySem.W.Frag} {H : Hp} : ∀ {xs : List (Ir.D × Ir.D)} {vs : List (Key × V)}, RKs ρ K H xs vs → xs.length = vs.length
  | _, _, .nil => rfl
  | _, _, .cons _ _ r => congrArg (· + 1) r.length
def RC (ρ : Rho) (K : PySem.W.Frag) (H : Hp) (a : Addr) : Ir.Cell → Prop
  | .lst xs => ∃ ys, H a = some (.lst ys) ∧ ys.length ≤ sizeLine ∧ RDs ρ K H xs ys
  | .dic kvs => ∃ ks, H a = some (.dK ks) ∧ ks.length ≤ sizeLine ∧ RKs ρ K H kvs ks
  | .dead => False
structure RS (ρ : Rho) (K : PySem.W.Frag) (st : Ir.Store) (H : Hp) : Prop where
  len : st.length = ρ.ix.length
  inj : ∀ (i j : Nat) (a : Addr), ρ.ix[i]? = some (some a) → ρ.ix[j]? = some (some a) → i = j
  cell : ∀ (n : Nat) (a : Addr), ρ.ix[n]? = some (some a) → ∃ c, st[n]? = some c ∧ RC ρ K H a c
  dd : ∀ (n : Nat), ρ.ix[n]? = some none → st[n]? = some .dead
  kept : ∀ a ∈ ρ.res, ∃ o, H a = some o
  disj : ∀ a ∈ ρ.res, some a ∉ ρ.ix
section
variable {ρ : Rho} {K : PySem.W.Frag} {st : Ir.Store} {H : Hp}
theorem RS.get (r : RS ρ K st H) {n : Nat} {c : Ir.Cell} (h : st[n]? = some c) (d : c ≠ .dead) : ∃ a, ρ.ix[n]? = some (some a) ∧ RC ρ K H a c := by
  have hn : n < ρ.ix.length := by rw [← r.len]; exact (List.getElem?_eq_some_iff.mp h).1
  cases q : ρ.ix[n]? with
  | none => rw [List.getElem?_eq_none_iff] at q; omega
  | some o =>
    cases o with
    | none =>
      have := r.dd n q
      rw [h] at this; cases this
      exact absurd rfl d
    | some a =>
      obtain ⟨c', h1, h2⟩ := r.cell n a q
      rw [h] at h1; cases h1
      exact ⟨a, rfl, h2⟩
theorem RC.some {a : Addr} {c : Ir.Cell} (h : RC ρ K H a c) : ∃ o, H a = Option.some o ∧ Mut (Option.some o) := by
  cases c with
  | lst xs => obtain ⟨ys, h, _⟩ := h; exact ⟨_, h, trivial⟩
  | dic xs => obtain ⟨ys, h, _⟩ := h; exact ⟨_, h, trivial⟩
  | dead => exact False.elim h
theorem RS.mem (r : RS ρ K st H) {a : Addr} (h : some a ∈ ρ.ix) : ∃ (n : Nat) (c : Ir.Cell), ρ.ix[n]? = some (some a) ∧ st[n]? = some c ∧ RC ρ K H a c := by
  obtain ⟨n, hn⟩ := List.getElem?_of_mem h
  obtain ⟨c, h1, h2⟩ := r.cell n a hn
  exact ⟨n, c, hn, h1, h2⟩
theorem RS.fresh (r : RS ρ K st H) {p : Addr} (h : H p = none) : ¬ ρ.own p := fun z => by
  rcases z with z | z
  · obtain ⟨n, c, _, _, q⟩ := r.mem z
    obtain ⟨o, e, _⟩ := q.some
    rw [h] at e; cases e
  · obtain ⟨o, e⟩ := r.kept p z
    rw [h] at e; cases e
theorem RC.mono {ρ' : Rho} {H' : Hp} (e : Ext ρ H ρ' H') {a : Addr} {c : Ir.Cell} (h : RC ρ K H a c) (s : H' a = H a) : RC ρ' K H' a c := by
  cases c with
  | lst xs => obtain ⟨ys, h1, h2, h3⟩ := h; exact ⟨ys, s.trans h1, h2, h3.mono e⟩
  | dic xs => obtain ⟨ys, h1, h2, h3⟩ := h; exact ⟨ys, s.trans h1, h2, h3.mono e⟩
  | dead => exact h
/-- a new thing that no cell is -/
theorem Ext.grow (r : RS ρ K st H) {p : Addr} (h : H p = none) (o : HO) : Ext ρ H ρ (upd H p o) :=
  ⟨fun a u q _ => by rw [upd_ne (ne_of_none q h)]; exact q, fun _ q => .inl q, Nat.le_refl _, fun _ _ q _ => q, fun _ q => q, fun _ _ q => q, upd_al⟩
theorem RS.ext (r : RS ρ K st H) {H' : Hp} (e : Ext ρ H ρ H') (s : ∀ a, some a ∈ ρ.ix → H' a = H a) : RS ρ K st H' :=
  ⟨r.len, r.inj, fun n a q => let ⟨c, h1, h2⟩ := r.cell n a q; ⟨c, h1, h2.mono e (s a (List.mem_of_getElem? q))⟩, r.dd, fun a q => let ⟨o, h⟩ := r.kept a q; ⟨o, e.fr a o h (r.disj a q)⟩, r.disj⟩
theorem RS.grow (r : RS ρ K st H) {p : Addr} (h : H p = none) (o : HO) : RS ρ K st (upd H p o) :=
  r.ext (.grow r h o) fun a q => upd_ne fun z => r.fresh h (.inl (by rw [← z]; exact q))
/-- a cell changed -/
theorem Ext.write (r : RS ρ K st H) {n : Nat} {a : Addr} (h : ρ.ix[n]? = some (some a)) (o : HO) : Ext ρ H ρ (upd H a o) :=
  ⟨fun b u q z => by rw [upd_ne (fun e => z (by rw [e]; exact List.mem_of_getElem? h))]; exact q, fun _ q => .inl q, Nat.le_refl _, fun _ _ q _ => q, fun _ q => q, fun _ _ q => q, upd_al⟩
theorem RS.write (r : RS ρ K st H) {n : Nat} {a : Addr} (h : ρ.ix[n]? = some (some a)) {o : HO} {c : Ir.Cell} (q : RC ρ K (upd H a o) a c) : RS ρ K (st.set n c) (upd H a o) := by
  have hn : n < st.length := by rw [r.len]; exact (List.getElem?_eq_some_iff.mp h).1
  refine ⟨by rw [List.length_set]; exact r.len, r.inj, fun m b hm => ?_, fun m hm => ?_, fun b hb => ?_, r.disj⟩
  · by_cases e : m = n
    · subst e
      rw [h] at hm; cases hm
      exact ⟨c, List.getElem?_set_self hn, q⟩
    · obtain ⟨c', h1, h2⟩ := r.cell m b hm
      refine ⟨c', by rw [List.getElem?_set_ne (Ne.symm e)]; exact h1, h2.mono (.write r h o) (upd_ne fun z => e (r.inj m n b hm (by rw [z]; exact h)))⟩
  · have e : m ≠ n := fun e => by subst e; rw [h] at hm; cases hm
    rw [List.getElem?_set_ne (Ne.symm e)]
    exact r.dd m hm
  · obtain ⟨u, hu⟩ := r.kept b hb
    exact ⟨u, (Ext.write r h o).fr b u hu (r.disj b hb)⟩
/-- a new cell -/
def Rho.push (ρ : Rho) (p : Addr) : Rho := ⟨ρ.ix ++ [some p], ρ.res⟩
theorem Ext.push (r : RS ρ K st H) {p : Addr} (h : H p = none) (o : HO) : Ext ρ H (ρ.push p) (upd H p o) := by
  refine ⟨fun a u q _ => by rw [upd_ne (ne_of_none q h)]; exact q, fun a q => ?_, by simp [Rho.push], fun n a q hn => ?_, fun _ q => q, fun a ha hn z => ?_, upd_al⟩
  · rcases q with q | q
    · rcases List.mem_append.mp q with z | z
      · exact .inl (.inl z)
      · simp at z; subst z; exact .inr h
    · exact .inl (.inr q)
  · simp only [Rho.push] at q
    rw [List.getElem?_append_left hn] at q; exact q
  · rcases List.mem_append.mp z with z | z
    · exact hn z
    · simp at z
      subst z
      exact r.fresh h (.inr ha)
theorem RS.push (r : RS ρ K st H) {p : Addr} (h : H p = none) {o : HO} {c : Ir.Cell} (q : RC (ρ.push p) K (upd H p o) p c) : RS (ρ.push p) K (st ++ [c]) (upd H p o) := by
  have np : some p ∉ ρ.ix := fun z => r.fresh h (.inl z)
  have key : ∀ (i : Nat) (a : Addr), (ρ.ix ++ [some p])[i]? = some (some a) → (ρ.ix[i]? = some (some a) ∧ a ≠ p) ∨ (i = ρ.ix.length ∧ a = p) := fun i a hi => by
    by_cases hl : i < ρ.ix.length
    · rw [List.getElem?_append_left hl] at hi
      exact .inl ⟨hi, fun e => np (by rw [← e]; exact List.mem_of_getElem? hi)⟩
    · rw [List.getElem?_append_right (by omega)] at hi
      have : i - ρ.ix.length = 0 := by
        by_cases z : i - ρ.ix.length = 0
        · exact z
        · rw [List.getElem?_eq_none (by simp; omega)] at hi; cases hi
      rw [this] at hi
      simp at hi
      exact .inr ⟨by omega, hi.symm⟩
  refine ⟨by simp [Rho.push, r.len], fun i j a hi hj => ?_, fun n a hn => ?_, fun n hn => ?_, fun a ha => ?_, fun a ha z => ?_⟩
  · rcases key i a hi with ⟨h1, n1⟩ | ⟨h1, n1⟩ <;> rcases key j a hj with ⟨h2, n2⟩ | ⟨h2, n2⟩
    · exact r.inj i j a h1 h2
    · exact absurd n2 n1
    · exact absurd n1 n2
    · omega
  · rcases key n a hn with ⟨h1, n1⟩ | ⟨h1, n1⟩
    · obtain ⟨c', h2, h3⟩ := r.cell n a h1
      refine ⟨c', ?_, h3.mono (.push r h o) (upd_ne n1)⟩
      rw [List.getElem?_append_left (List.getElem?_eq_some_iff.mp h2).1]; exact h2
    · subst h1 n1
      refine ⟨c, ?_, q⟩
      rw [← r.len, List.getElem?_append_right (Nat.le_refl _)]; simp
  · have hn : (ρ.ix ++ [some p])[n]? = some none := hn
    by_cases hl : n < ρ.ix.length
    · rw [List.getElem?_append_left hl] at hn
      have := r.dd n hn
      rw [List.getElem?_append_left (List.getElem?_eq_some_iff.mp this).1]; exact this
    · rw [List.getElem?_append_right (by omega)] at hn
      cases z : n - ρ.ix.length with
      | zero => rw [z] at hn; simp at hn
      | succ k => rw [z] at hn; simp at hn
  · obtain ⟨u, hu⟩ := r.kept a ha
    exact ⟨u, (Ext.push r h o).fr a u hu (r.disj a ha)⟩
  · exact (Ext.push r h o).rn a ha (r.disj a ha) z
/-- a cell that is not changed any more -/
def Rho.kill (ρ : Rho) (n : Nat) : Rho := ⟨ρ.ix.set n none, ρ.res⟩
theorem kill_mem {ρ : Rho} {n : Nat} {a : Addr} (q : some a ∈ (ρ.kill n).ix) : ∃ m : Nat, m ≠ n ∧ ρ.ix[m]? = some (some a) := by
  obtain ⟨m, hm⟩ := List.getElem?_of_mem q
  have hm : (ρ.ix.set n none)[m]? = some (some a) := hm
  by_cases e : m = n
  · subst e
    rw [List.getElem?_set] at hm
    simp at hm
  · rw [List.getElem?_set_ne (Ne.symm e)] at hm
    exact ⟨m, e, hm⟩
theorem Ext.kill (ρ : Rho) (H : Hp) (n : Nat) : Ext ρ H (ρ.kill n) H := by
  refine ⟨fun _ _ q _ => q, fun a q => ?_, by simp [Rho.kill], fun m a q hm => ?_, fun _ q => q, fun a _ hn z => ?_, fun _ q => q⟩
  · rcases q with q | q
    · obtain ⟨m, _, hm⟩ := kill_mem q
      exact .inl (.inl (List.mem_of_getElem? hm))
    · exact .inl (.inr q)
  · have q : (ρ.ix.set n none)[m]? = some (some a) := q
    by_cases e : m = n
    · subst e
      rw [List.getElem?_set] at q
      simp at q
    · rw [List.getElem?_set_ne (Ne.symm e)] at q; exact q
  · obtain ⟨m, _, hm⟩ := kill_mem z
    exact hn (List.mem_of_getElem? hm)
theorem RS.kill (r : RS ρ K st H) {n : Nat} (h : n < ρ.ix.length) : RS (ρ.kill n) K (st.set n .dead) H := by
  have hs : n < st.length := by rw [r.len]; exact h
  refine ⟨by simp [Rho.kill, r.len], fun i j a hi hj => ?_, fun m a hm => ?_, fun m hm => ?_, r.kept, fun a ha z => ?_⟩
  · have key : ∀ i : Nat, (ρ.kill n).ix[i]? = some (some a) → ρ.ix[i]? = some (some a) := fun i hi => (Ext.kill ρ H n).ix i a hi (by
      have := (List.getElem?_eq_some_iff.mp hi).1
      simpa [Rho.kill] using this)
    exact r.inj i j a (key i hi) (key j hj)
  · have hm : (ρ.ix.set n none)[m]? = some (some a) := hm
    have e : m ≠ n := fun e => by
      subst e
      rw [List.getElem?_set] at hm
      simp at hm
    have hm' := hm
    rw [List.getElem?_set_ne (Ne.symm e)] at hm'
    obtain ⟨c, h1, h2⟩ := r.cell m a hm'
    exact ⟨c, by rw [List.getElem?_set_ne (Ne.symm e)]; exact h1, h2.mono (.kill ρ H n) rfl⟩
  · have hm : (ρ.ix.set n none)[m]? = some none := hm
    by_cases e : m = n
    · subst e; exact List.getElem?_set_self hs
    · rw [List.getElem?_set_ne (Ne.symm e)] at hm ⊢
      exact r.dd m hm
  · obtain ⟨m, _, hm⟩ := kill_mem z
    exact r.disj a ha (List.mem_of_getElem? hm)
theorem kill_notin (r : RS ρ K st H) {n : Nat} {a : Addr} (h : ρ.ix[n]? = some (some a)) : ¬ (ρ.kill n).own a := fun z => by
  rcases z with z | z
  · obtain ⟨m, e, hm⟩ := kill_mem z
    exact e (r.inj m n a hm h)
  · exact r.disj a z (List.mem_of_getElem? h)
/-- an address kept aside -/
def Rho.keep (ρ : Rho) (p : Addr) : Rho := ⟨ρ.ix, p :: ρ.res⟩
theorem Ext.keep (r : RS ρ K st H) {p : Addr} (h : H p = none) (o : HO) : Ext ρ H (ρ.keep p) (upd H p o) := by
  refine ⟨fun a u q _ => by rw [upd_ne (ne_of_none q h)]; exact q, fun a q => ?_, Nat.le_refl _, fun _ _ q _ => q, fun _ q => List.mem_cons_of_mem _ q, fun _ _ q => q, upd_al⟩
  rcases q with q | q
  · exact .inl (.inl q)
  · rcases List.mem_cons.mp q with e | q
    · subst e; exact .inr h
    · exact .inl (.inr q)
theorem RS.keep (r : RS ρ K st H) {p : Addr} (h : H p = none) (o : HO) : RS (ρ.keep p) K st (upd H p o) := by
  have np : some p ∉ ρ.ix := fun z => r.fresh h (.inl z)
  refine ⟨r.len, r.inj, fun n a q => ?_, r.dd, fun a ha => ?_, fun a ha => ?_⟩
  · obtain ⟨c, h1, h2⟩ := r.cell n a q
    exact ⟨c, h1, h2.mono (.keep r h o) (upd_ne fun z => np (by rw [← z]; exact List.mem_of_getElem? q))⟩
  · rcases List.mem_cons.mp ha with e | ha
    · subst e; exact ⟨o, upd_same⟩
    · obtain ⟨u, hu⟩ := r.kept a ha
      exact ⟨u, by rw [upd_ne (ne_of_none hu h)]; exact hu⟩
  · rcases List.mem_cons.mp ha with e | ha
    · subst e; exact np
    · exact r.disj a ha
end
/-- what was kept aside changes: nothing else leans on it -/
theorem TpAt.aside {ρ : Rho} {K : PySem.W.Frag} {H : Hp} {a p : Addr} {o : HO} {ys : List V} (hp : p ∈ ρ.res) (h : TpAt ρ K H a ys) : TpAt ρ K (upd H p o) a ys := by
  rcases h with ⟨h, n⟩ | h
  · have e : a ≠ p := fun e => n (.inr (by rw [e]; exact hp))
    refine .inl ⟨?_, n⟩
    rcases h with h | ⟨u, h⟩
    · exact .inl (by rw [upd_ne e]; exact h)
    · exact .inr ⟨u, by rw [upd_ne e]; exact h⟩
  · exact .inr h
theorem LrAt.aside {ρ : Rho} {K : PySem.W.Frag} {H : Hp} {a p : Addr} {o : HO} {ys : List V} (hp : p ∈ ρ.res) (h : LrAt ρ K H a ys) : LrAt ρ K (upd H p o) a ys := by
  rcases h with ⟨⟨u, h⟩, n⟩ | h
  · have e : a ≠ p := fun e => n (.inr (by rw [e]; exact hp))
    exact .inl ⟨⟨u, by rw [upd_ne e]; exact h⟩, n⟩
  · exact .inr h
mutual
theorem RD.aside {ρ : Rho} {K : PySem.W.Frag} {H : Hp} {p : Addr} {o : HO} (hp : p ∈ ρ.res) : ∀ {x : Ir.D} {v : V}, RD ρ K H x v → RD ρ K (upd H p o) x v
  | _, _, .non => .non
  | _, _, .bool b => .bool b
  | _, _, .int i => .int i
  | _, _, .str s => .str s
  | _, _, .tup h z r => .tup (h.aside hp) z (RDs.aside hp r)
  | _, _, .ro h z r => .ro (h.aside hp) z (RDs.aside hp r)
  | _, _, .lst h n z r => .lst (by rw [upd_ne (fun e => n (.inr (by rw [e]; exact hp)))]; exact h) n z (RDs.aside hp r)
theorem RDs.aside {ρ : Rho} {K : PySem.W.Frag} {H : Hp} {p : Addr} {o : HO} (hp : p ∈ ρ.res) : ∀ {xs : List Ir.D} {vs : List V}, RDs ρ K H xs vs → RDs ρ K (upd H p o) xs vs
  | _, _, .nil => .nil
  | _, _, .cons h r => .cons (RD.aside hp h) (RDs.aside hp r)
end
theorem RKs.aside {ρ : Rho} {K : PySem.W.Frag} {H : Hp} {p : Addr} {o : HO} (hp : p ∈ ρ.res) : ∀ {xs : List (Ir.D × Ir.D)} {vs : List (Key × V)}, RKs ρ K H xs vs → RKs ρ K (upd H p o) xs vs
  | _, _, .nil => .nil
  | _, _, .cons h q r => .cons h (RD.aside hp q) (RKs.aside hp r)
theorem RC.aside {ρ : Rho} {K : PySem.W.Frag} {H : Hp} {a p : Addr} {o : HO} {c : Ir.Cell} (hp : p ∈ ρ.res) (h : RC ρ K H a c) (e : a ≠ p) : RC ρ K (upd H p o) a c := by
  cases c with
  | lst xs => obtain ⟨ys, h1, h2, h3⟩ := h; exact ⟨ys, by rw [upd_ne e]; exact h1, h2, h3.aside hp⟩
  | dic xs => obtain ⟨ys, h1, h2, h3⟩ := h; exact ⟨ys, by rw [upd_ne e]; exact h1, h2, h3.aside hp⟩
  | dead => exact h
theorem RS.aside {ρ : Rho} {K : PySem.W.Frag} {st : Ir.Store} {H : Hp} {p : Addr} {o : HO} (r : RS ρ K st H) (hp : p ∈ ρ.res) : RS ρ K st (upd H p o) := by
  refine ⟨r.len, r.inj, fun n a q => ?_, r.dd, fun a ha => ?_, r.disj⟩
  · obtain ⟨c, h1, h2⟩ := r.cell n a q
    exact ⟨c, h1, h2.aside hp fun e => r.disj p hp (by rw [← e]; exact List.mem_of_getElem? q)⟩
  · by_cases e : a = p
    · subst e; exact ⟨o, upd_same⟩
    · obtain ⟨u, hu⟩ := r.kept a ha
      exact ⟨u, by rw [upd_ne e]; exact hu⟩
/-- what was free ahead may be anything behind -/
theorem Ext.aside {ρ ρ' : Rho} {H H' : Hp} {p : Addr} {o : HO} (e : Ext ρ H ρ' H') (h : H p = none) : Ext ρ H ρ' (upd H' p o) :=
  ⟨fun a u q n => by rw [upd_ne (ne_of_none q h)]; exact e.fr a u q n, e.nw, e.len, e.ix, e.rs, e.rn, fun a q => e.al a (upd_al a q)⟩
/-- an address is given free -/
def Rho.drop (ρ : Rho) (rs : List Addr) : Rho := ⟨ρ.ix, rs⟩
theorem own_drop {ρ : Rho} {rs : List Addr} (hs : ∀ a ∈ rs, a ∈ ρ.res) {a : Addr} (h : ¬ ρ.own a) : ¬ (ρ.drop rs).own a := fun z => h (z.elim .inl fun z => .inr (hs a z))
mutual
theorem RD.drop {ρ : Rho} {K : PySem.W.Frag} {H : Hp} {rs : List Addr} (hs : ∀ a ∈ rs, a ∈ ρ.res) : ∀ {x : Ir.D} {v : V}, RD ρ K H x v → RD (ρ.drop rs) K H x v
  | _, _, .non => .non
  | _, _, .bool b => .bool b
  | _, _, .int i => .int i
  | _, _, .str s => .str s
  | _, _, .tup h z r => .tup (h.elim (fun q => .inl ⟨q.1, own_drop hs q.2⟩) .inr) z (RDs.drop' hs r)
  | _, _, .ro h z r => .ro (h.elim (fun q => .inl ⟨q.1, own_drop hs q.2⟩) .inr) z (RDs.drop' hs r)
  | _, _, .lst h n z r => .lst h (own_drop hs n) z (RDs.drop' hs r)
theorem RDs.drop' {ρ : Rho} {K : PySem.W.Frag} {H : Hp} {rs : List Addr} (hs : ∀ a ∈ rs, a ∈ ρ.res) : ∀ {xs : List Ir.D} {vs : List V}, RDs ρ K H xs vs → RDs (ρ.drop rs) K H xs vs
  | _, _, .nil => .nil
  | _, _, .cons h r => .cons (RD.drop hs h) (RDs.drop' hs r)
end
theorem RKs.drop {ρ : Rho} {K : PySem.W.Frag} {H : Hp} {rs : List Addr} (hs : ∀ a ∈ rs, a ∈ ρ.res) : ∀ {xs : List (Ir.D × Ir.D)} {vs : List (Key × V)}, RKs ρ K H xs vs → RKs (ρ.drop rs) K H xs vs
  | _, _, .nil => .nil
  | _, _, .cons h q r => .cons h (RD.drop hs q) (RKs.drop hs r)
theorem RC.drop {ρ : Rho} {K : PySem.W.Frag} {H : Hp} {rs : List Addr} {a : Addr} {c : Ir.Cell} (hs : ∀ a ∈ rs, a ∈ ρ.res) (h : RC ρ K H a c) : RC (ρ.drop rs) K H a c := by
  cases c with
  | lst xs => obtain ⟨ys, h1, h2, h3⟩ := h; exact ⟨ys, h1, h2, h3.drop' hs⟩
  | dic xs => obtain ⟨ys, h1, h2, h3⟩ := h; exact ⟨ys, h1, h2, h3.drop hs⟩
  | dead => exact h
theorem RS.drop {ρ : Rho} {K : PySem.W.Frag} {st : Ir.Store} {H : Hp} {rs : List Addr} (r : RS ρ K st H) (hs : ∀ a ∈ rs, a ∈ ρ.res) : RS (ρ.drop rs) K st H :=
  ⟨r.len, r.inj, fun n a q => let ⟨c, h1, h2⟩ := r.cell n a q; ⟨c, h1, h2.drop hs⟩, r.dd, fun a q => r.kept a (hs a q), fun a q => r.disj a (hs a q)⟩
/-- less is owned: what stood stands -/
theorem own_sub {ρ ρ' : Rho} (hs : ∀ b, ρ'.own b → ρ.own b) {a : Addr} (h : ¬ ρ.own a) : ¬ ρ'.own a := fun z => h (hs a z)
mutual
theorem RD.sub {ρ ρ' : Rho} {K : PySem.W.Frag} {H : Hp} (hs : ∀ b, ρ'.own b → ρ.own b) : ∀ {x : Ir.D} {v : V}, RD ρ K H x v → RD ρ' K H x v
  | _, _, .non => .non
  | _, _, .bool b => .bool b
  | _, _, .int i => .int i
  | _, _, .str s => .str s
  | _, _, .tup h z r => .tup (h.elim (fun q => .inl ⟨q.1, own_sub hs q.2⟩) .inr) z (RDs.sub hs r)
  | _, _, .ro h z r => .ro (h.elim (fun q => .inl ⟨q.1, own_sub hs q.2⟩) .inr) z (RDs.sub hs r)
  | _, _, .lst h n z r => .lst h (own_sub hs n) z (RDs.sub hs r)
theorem RDs.sub {ρ ρ' : Rho} {K : PySem.W.Frag} {H : Hp} (hs : ∀ b, ρ'.own b → ρ.own b) : ∀ {xs : List Ir.D} {vs : List V}, RDs ρ K H xs vs → RDs ρ' K H xs vs
  | _, _, .nil => .nil
  | _, _, .cons h r => .cons (RD.sub hs h) (RDs.sub hs r)
end
theorem RKs.sub {ρ ρ' : Rho} {K : PySem.W.Frag} {H : Hp} (hs : ∀ b, ρ'.own b → ρ.own b) : ∀ {xs : List (Ir.D × Ir.D)} {vs : List (Key × V)}, RKs ρ K H xs vs → RKs ρ' K H xs vs
  | _, _, .nil => .nil
  | _, _, .cons h q r => .cons h (RD.sub hs q) (RKs.sub hs r)
theorem RC.sub {ρ ρ' : Rho} {K : PySem.W.Frag} {H : Hp} (hs : ∀ b, ρ'.own b → ρ.own b) {a : Addr} {c : Ir.Cell} (h : RC ρ K H a c) : RC ρ' K H a c := by
  cases c with
  | lst xs => obtain ⟨ys, h1, h2, h3⟩ := h; exact ⟨ys, h1, h2, h3.sub hs⟩
  | dic xs => obtain ⟨ys, h1, h2, h3⟩ := h; exact ⟨ys, h1, h2, h3.sub hs⟩
  | dead => exact h
/-- what is kept aside becomes a cell -/
theorem RS.cellOf {ρ : Rho} {K : PySem.W.Frag} {st : Ir.Store} {H : Hp} {rs : List Addr} {a : Addr} {c : Ir.Cell} (r : RS ρ K st H) (hs : ∀ b ∈ rs, b ∈ ρ.res) (ha : a ∈ ρ.res) (hn : a ∉ rs) (q : RC ⟨ρ.ix ++ [some a], rs⟩ K H a c) : RS ⟨ρ.ix ++ [some a], rs⟩ K (st ++ [c]) H := by
  have sub : ∀ b, Rho.own ⟨ρ.ix ++ [some a], rs⟩ b → ρ.own b := fun b z => by
    rcases z with z | z
    · rcases List.mem_append.mp z with z | z
      · exact .inl z
      · simp at z; subst z; exact .inr ha
    · exact .inr (hs b z)
  have np : some a ∉ ρ.ix := r.disj a ha
  have key : ∀ (i : Nat) (b : Addr), (ρ.ix ++ [some a])[i]? = some (some b) → (ρ.ix[i]? = some (some b) ∧ b ≠ a) ∨ (i = ρ.ix.length ∧ b = a) := fun i b hi => by
    by_cases hl : i < ρ.ix.length
    · rw [List.getElem?_append_left hl] at hi
      exact .inl ⟨hi, fun e => np (by rw [← e]; exact List.mem_of_getElem? hi)⟩
    · rw [List.getElem?_append_right (by omega)] at hi
      have : i - ρ.ix.length = 0 := by
        by_cases z : i - ρ.ix.length = 0
        · exact z
        · rw [List.getElem?_eq_none (by simp; omega)] at hi; cases hi
      rw [this] at hi
      simp at hi
      exact .inr ⟨by omega, hi.symm⟩
  refine ⟨by simp [r.len], fun i j b hi hj => ?_, fun n b hb => ?_, fun n hb => ?_, fun b hb => r.kept b (hs b hb), fun b hb z => ?_⟩
  · rcases key i b hi with ⟨h1, n1⟩ | ⟨h1, n1⟩ <;> rcases key j b hj with ⟨h2, n2⟩ | ⟨h2, n2⟩
    · exact r.inj i j b h1 h2
    · exact absurd n2 n1
    · exact absurd n1 n2
    · omega
  · rcases key n b hb with ⟨h1, n1⟩ | ⟨h1, n1⟩
    · obtain ⟨c', h2, h3⟩ := r.cell n b h1
      exact ⟨c', by rw [List.getElem?_append_left (List.getElem?_eq_some_iff.mp h2).1]; exact h2, h3.sub sub⟩
    · subst h1 n1
      refine ⟨c, ?_, q⟩
      rw [← r.len, List.getElem?_append_right (Nat.le_refl _)]; simp
  · have hb : (ρ.ix ++ [some a])[n]? = some none := hb
    by_cases hl : n < ρ.ix.length
    · rw [List.getElem?_append_left hl] at hb
      have := r.dd n hb
      rw [List.getElem?_append_left (List.getElem?_eq_some_iff.mp this).1]; exact this
    · rw [List.getElem?_append_right (by omega)] at hb
      cases z : n - ρ.ix.length with
      | zero => rw [z] at hb; simp at hb
      | succ k => rw [z] at hb; simp at hb
  · rcases List.mem_append.mp z with z | z
    · exact r.disj b (hs b hb) z
    · simp at z; subst z; exact hn hb
theorem Ext.cellOf {ρ ρ' : Rho} {H H' : Hp} {a : Addr} (e : Ext ρ H ρ' H') (ha : H a = none) (hn : a ∉ ρ.res) : Ext ρ H ⟨ρ'.ix ++ [some a], ρ.res⟩ H' := by
  refine ⟨e.fr, fun b q => ?_, by have := e.len; simp; omega, fun n b q hl => ?_, fun _ q => q, fun b hb n z => ?_, e.al⟩
  · rcases q with q | q
    · rcases List.mem_append.mp q with z | z
      · exact e.nw b (.inl z)
      · simp at z; subst z; exact .inr ha
    · exact .inl (.inr q)
  · have q : (ρ'.ix ++ [some a])[n]? = some (some b) := q
    rw [List.getElem?_append_left (Nat.lt_of_lt_of_le hl e.len)] at q
    exact e.ix n b q hl
  · rcases List.mem_append.mp z with z | z
    · exact e.rn b hb n z
    · simp at z; subst z; exact hn hb
theorem Ext.drop {ρ ρ' : Rho} {H H' : Hp} (e : Ext ρ H ρ' H') : Ext ρ H (ρ'.drop ρ.res) H' :=
  ⟨e.fr, fun a q => q.elim (fun z => e.nw a (.inl z)) fun z => .inl (.inr z), e.len, e.ix, fun _ q => q, e.rn, e.al⟩
end Snd

namespace Snd
open PySem PySem.Spec PyProof.Rows L2
/-! ### readings -/
def REnv (ρ : Rho) (K : PySem.W.Frag) (H : Hp) (env : Ir.Env) (σ : L2.St) : Prop :=
  env.length = σ.length ∧ ∀ (i : Nat) (v : Ir.Val), env[i]? = some (some v) → ∃ x, σ[i]? = some (some x) ∧ RV ρ K H v x
theorem REnv.mono {ρ ρ' : Rho} {K : PySem.W.Frag} {H H' : Hp} {env : Ir.Env} {σ : L2.St} (h : REnv ρ K H env σ) (e : Ext ρ H ρ' H') : REnv ρ' K H' env σ :=
  ⟨h.1, fun i v q => let ⟨x, h1, h2⟩ := h.2 i v q; ⟨x, h1, h2.mono e⟩⟩
theorem REnv.set {ρ : Rho} {K : PySem.W.Frag} {H : Hp} {env : Ir.Env} {σ : L2.St} (h : REnv ρ K H env σ) {v : Ir.Val} {x : V} (r : RV ρ K H v x) (i : Nat) : REnv ρ K H (env.set i (some v)) (σ.set i (some x)) := by
  refine ⟨by simp [h.1], fun j u q => ?_⟩
  by_cases e : i = j
  · subst e
    rw [List.getElem?_set] at q ⊢
    simp only [if_true] at q ⊢
    split at q
    · rename_i hl
      rw [if_pos (by rw [← h.1]; exact hl)]
      cases q
      exact ⟨x, rfl, r⟩
    · cases q
  · rw [List.getElem?_set_ne e] at q ⊢
    exact h.2 j u q
theorem REnv.wipe {ρ : Rho} {K : PySem.W.Frag} {H : Hp} {env : Ir.Env} {σ : L2.St} (h : REnv ρ K H env σ) : ∀ vs : List Nat, REnv ρ K H (Ir.wipe env vs) (L2.wipe σ vs)
  | [] => h
  | v :: vs => by
    have ih := REnv.wipe h vs
    refine ⟨by simp [Ir.wipe, L2.wipe, ih.1], fun j u q => ?_⟩
    simp only [Ir.wipe, L2.wipe] at q ⊢
    by_cases e : v = j
    · subst e
      rw [List.getElem?_set] at q
      simp at q
    · rw [List.getElem?_set_ne e] at q ⊢
      exact ih.2 j u q
/-- data that may be a cell's list -/
def VD (ρ : Rho) (K : PySem.W.Frag) (H : Hp) : Ir.D → V → Prop
  | .lst xs, v => ∃ a ys, v = .ref a ∧ H a = some (.lst ys) ∧ ys.length ≤ sizeLine ∧ RDs ρ K H xs ys
  | x, v => RD ρ K H x v
theorem VD.of {ρ : Rho} {K : PySem.W.Frag} {H : Hp} {x : Ir.D} {v : V} (h : RD ρ K H x v) : VD ρ K H x v := by
  cases h with
  | lst h n z r => exact ⟨_, _, rfl, h, z, r⟩
  | non => exact .non
  | bool b => exact .bool b
  | int i => exact .int i
  | str s => exact .str s
  | tup h z r => exact RD.tup h z r
  | ro h z r => exact RD.ro h z r
theorem RV.cell {ρ : Rho} {K : PySem.W.Frag} {H : Hp} {st : Ir.Store} {n : Nat} {c : Ir.Cell} {x : V} (r : RS ρ K st H) (h : RV ρ K H (.ref n) x) (e : st[n]? = some c) (d : c ≠ .dead) : ∃ a, x = .ref a ∧ ρ.ix[n]? = some (some a) ∧ RC ρ K H a c := by
  obtain ⟨a, h1, h2⟩ := r.get e d
  obtain ⟨_, b, h3, h4⟩ := h
  have := h4 a h1
  subst this
  exact ⟨a, h3, h1, h2⟩
theorem VD.deref {ρ : Rho} {K : PySem.W.Frag} {H : Hp} {st : Ir.Store} {v : Ir.Val} {x : V} {p : Ir.D} (r : RS ρ K st H) (h : RV ρ K H v x) (e : Ir.deref st v = some p) : VD ρ K H p x := by
  cases v with
  | d y =>
    simp only [Ir.deref, Option.some.injEq] at e
    subst e
    exact .of h
  | ref n =>
    simp only [Ir.deref] at e
    split at e
    · rename_i xs hx
      cases e
      obtain ⟨a, e1, e2, ys, h1, h2, h3⟩ := RV.cell r h hx (by simp)
      exact ⟨a, ys, e1, h1, h2, h3⟩
    · cases e

variable {X : Cx} {C : Ir.Calls}
def tI (C : Ir.Calls) (K : PySem.W.Frag) (e : Ir.Ex) : TE := fun σ H Q => ∃ ρ env st v st', RS ρ K st H ∧ REnv ρ K H env σ ∧ Ir.eval C e env st = .ok v st' ∧
  ∀ ρ' H' x, Ext ρ H ρ' H' → RS ρ' K st' H' → RV ρ' K H' v x → Q x H'
def tIs (C : Ir.Calls) (K : PySem.W.Frag) (es : List Ir.Ex) : TA := fun σ H Q => ∃ ρ env st vs st', RS ρ K st H ∧ REnv ρ K H env σ ∧ Ir.evals C es env st = .ok vs st' ∧
  ∀ ρ' H' xs, Ext ρ H ρ' H' → RS ρ' K st' H' → RVs ρ' K H' vs xs → Q xs H'
def tIT (C : Ir.Calls) (K : PySem.W.Frag) (e : Ir.Ex) : TT := fun σ H Q => ∃ ρ env st b st', RS ρ K st H ∧ REnv ρ K H env σ ∧ Ir.eval C e env st = .ok (.d (.bool b)) st' ∧
  ∀ ρ' H', Ext ρ H ρ' H' → RS ρ' K st' H' → Q b H'
def tIO (C : Ir.Calls) (K : PySem.W.Frag) (e : Option Ir.Ex) : TO := fun σ H Q => ∃ ρ env st v st', RS ρ K st H ∧ REnv ρ K H env σ ∧ Ir.evalO C e env st = .ok v st' ∧
  ∀ ρ' H', Ext ρ H ρ' H' → RS ρ' K st' H' → Q v H'
def tICs (C : Ir.Calls) (K : PySem.W.Frag) (es : List Ir.Ex) : TT := fun σ H Q => ∃ ρ env st b st', RS ρ K st H ∧ REnv ρ K H env σ ∧ Ir.conds C es env st = .ok b st' ∧
  ∀ ρ' H', Ext ρ H ρ' H' → RS ρ' K st' H' → Q b H'
abbrev SE (X : Cx) (C : Ir.Calls) (e : Expr) (ir : Ir.Ex) : Prop := PE X e (tI C X.K ir)
abbrev SEs (X : Cx) (C : Ir.Calls) (es : List Expr) (ir : List Ir.Ex) : Prop := PA X es (tIs C X.K ir)
abbrev ST (X : Cx) (C : Ir.Calls) (e : Expr) (ir : Ir.Ex) : Prop := PT X e (tIT C X.K ir)
abbrev SW (X : Cx) (C : Ir.Calls) (e : Expr) (ir : Ir.Ex) : Prop := PW X e (tIT C X.K ir)
abbrev SO (X : Cx) (C : Ir.Calls) (e : Option Expr) (ir : Option Ir.Ex) : Prop := PO X e (tIO C X.K ir)
abbrev SCs (X : Cx) (C : Ir.Calls) (es : List Expr) (ir : List Ir.Ex) : Prop := PTs X es (tICs C X.K ir)
theorem pe_imp {e : Expr} {t t' : TE} (h : PE X e t) (w : ∀ σ H Q, t' σ H Q → t σ H Q) : PE X e t' := ⟨fun pins s σ H Q I q => h.run pins s σ H Q I (w σ H Q q)⟩
theorem pt_imp {e : Expr} {t t' : TT} (h : PT X e t) (w : ∀ σ H Q, t' σ H Q → t σ H Q) : PT X e t' := ⟨fun pins s σ H Q I q => h.run pins s σ H Q I (w σ H Q q)⟩
theorem pw_imp {e : Expr} {t t' : TT} (h : PW X e t) (w : ∀ σ H Q, t' σ H Q → t σ H Q) : PW X e t' := ⟨fun wh pins s σ H Q I q => h.run wh pins s σ H Q I (w σ H Q q)⟩
theorem pa_imp {es : List Expr} {t t' : TA} (h : PA X es t) (w : ∀ σ H Q, t' σ H Q → t σ H Q) : PA X es t' := ⟨fun p pins s σ H Q I q => h.run p pins s σ H Q I (w σ H Q q)⟩
theorem po_imp {e : Option Expr} {t t' : TO} (h : PO X e t) (w : ∀ σ H Q, t' σ H Q → t σ H Q) : PO X e t' := ⟨fun pins s σ H Q I q => h.run pins s σ H Q I (w σ H Q q)⟩
theorem pts_imp {es : List Expr} {t t' : TT} (h : PTs X es t) (w : ∀ σ H Q, t' σ H Q → t σ H Q) : PTs X es t' := ⟨fun pins s σ H Q I q => h.run pins s σ H Q I (w σ H Q q)⟩

theorem bok {α β : Type} {r : Ir.Res α} {f : α → Ir.Store → Ir.Res β} {b : β} {st : Ir.Store} (h : r.bind f = .ok b st) : ∃ a s1, r = .ok a s1 ∧ f a s1 = .ok b st := Ir.Res.bind_eq_ok h
theorem ook {α β : Type} {o : Option α} {s : Ir.Store} {f : α → Ir.Store → Ir.Res β} {b : β} {st : Ir.Store} (h : (Ir.optR o s).bind f = .ok b st) : ∃ a, o = some a ∧ f a s = .ok b st := by
  obtain ⟨a, s1, h1, h2⟩ := bok h
  obtain ⟨e, rfl⟩ := Ir.optR_ok h1
  exact ⟨a, e, h2⟩
/-! ### names, constants -/
theorem se_var (i : Nat) {x : Str} {pos : Pos} (hN : X.N[i]? = some x := by rfl) (hv : Vis X.env.scope x := by first | exact Or.inl rfl | exact Or.inr (Or.inl rfl) | exact Or.inr (Or.inr rfl)) (hd : (x == ("__debug__" : Str)) = false := by decide) (hcd : (x == ("__classdict__" : Str)) = false := by decide) : SE X C (.Name x pos) (.var i) := by
  refine pe_imp (pe_var (i := i) hN hv hd hcd) fun σ H Q ⟨ρ, env, st, v, st', rs, re, ev, k⟩ => ?_
  simp only [Ir.eval] at ev
  split at ev
  · rename_i w hw
    cases ev
    obtain ⟨x, h1, h2⟩ := re.2 i _ hw
    exact ⟨x, h1, k ρ H x (.refl _ _) rs h2⟩
  · cases ev
theorem se_int {i j pos} : SE X C (.Constant (.int i) j pos) (.con (.int i)) := pe_imp pe_int fun σ H Q ⟨ρ, env, st, v, st', rs, re, ev, k⟩ => by
  simp only [Ir.eval] at ev; cases ev; exact k ρ H _ (.refl _ _) rs (.int i)
theorem se_bool {b j pos} : SE X C (.Constant (.bool b) j pos) (.con (.bool b)) := pe_imp pe_bl fun σ H Q ⟨ρ, env, st, v, st', rs, re, ev, k⟩ => by
  simp only [Ir.eval] at ev; cases ev; exact k ρ H _ (.refl _ _) rs (.bool b)
theorem se_non {j pos} : SE X C (.Constant .none j pos) (.con .non) := pe_imp pe_non fun σ H Q ⟨ρ, env, st, v, st', rs, re, ev, k⟩ => by
  simp only [Ir.eval] at ev; cases ev; exact k ρ H _ (.refl _ _) rs .non
theorem se_str {s : String} {j pos} : SE X C (.Constant (.str (Str.ofString s)) j pos) (.con (.str s)) := pe_imp pe_str fun σ H Q ⟨ρ, env, st, v, st', rs, re, ev, k⟩ => by
  simp only [Ir.eval] at ev; cases ev; exact k ρ H _ (.refl _ _) rs (.str s)
/-! ### lists of expressions -/
theorem ses_nil : SEs X C [] [] := pa_imp pa_nil fun σ H Q ⟨ρ, env, st, v, st', rs, re, ev, k⟩ => by
  simp only [Ir.evals] at ev; cases ev; exact k ρ H _ (.refl _ _) rs .nil
theorem ses_cons {e : Expr} {es : List Expr} {i : Ir.Ex} {is : List Ir.Ex} (h : SE X C e i) (hs : SEs X C es is) (hst : starEach (e :: es) X.env = (false, eval e X.env) :: starEach es X.env := by rfl) : SEs X C (e :: es) (i :: is) := by
  refine pa_imp (pa_cons h hs hst) fun σ H Q ⟨ρ, env, st, v, st', rs, re, ev, k⟩ => ?_
  simp only [Ir.evals] at ev
  obtain ⟨x, s1, e1, ev⟩ := bok ev
  obtain ⟨xs, s2, e2, ev⟩ := bok ev
  cases ev
  exact ⟨ρ, env, st, x, s1, rs, re, e1, fun ρ1 H1 X1 x1 rs1 rx => ⟨ρ1, env, s1, xs, st', rs1, re.mono x1, e2, fun ρ2 H2 XS x2 rs2 rxs => k ρ2 H2 (X1 :: XS) (x1.trans x2) rs2 (.cons (rx.mono x2) rxs)⟩⟩
/-- a new tuple, list -/
theorem grow_tup {ρ : Rho} {K : PySem.W.Frag} {st : Ir.Store} {H : Hp} {xs : List Ir.D} {ys : List V} (rs : RS ρ K st H) (r : RDs ρ K H xs ys) (z : ys.length ≤ sizeLine) {p : Addr} (hp : H p = none) : RD ρ K (upd H p (.tup ys)) (.tup xs) (.ref p) :=
  .tup (.inl ⟨.inl upd_same, rs.fresh hp⟩) z (r.mono (.grow rs hp _))
theorem grow_lst {ρ : Rho} {K : PySem.W.Frag} {st : Ir.Store} {H : Hp} {xs : List Ir.D} {ys : List V} (rs : RS ρ K st H) (r : RDs ρ K H xs ys) (z : ys.length ≤ sizeLine) {p : Addr} (hp : H p = none) : RD ρ K (upd H p (.lst ys)) (.lst xs) (.ref p) :=
  .lst upd_same (rs.fresh hp) z (r.mono (.grow rs hp _))
theorem se_tup {es : List Expr} {is : List Ir.Ex} {x1} {pos : Pos} (hs : SEs X C es is) (hl : is.length ≤ sizeLine := by decide) : SE X C (.Tuple es x1 pos) (.tup is) := by
  refine pe_imp (pe_tup hs) fun σ H Q ⟨ρ, env, st, v, st', rs, re, ev, k⟩ => ?_
  simp only [Ir.eval] at ev
  obtain ⟨vs, s1, e1, ev⟩ := bok ev
  obtain ⟨ds, e2, ev⟩ := ook ev
  cases ev
  refine ⟨ρ, env, st, vs, st', rs, re, e1, fun ρ1 H1 XS x1 rs1 rx => ?_⟩
  have hlen : XS.length ≤ sizeLine := by
    have : ∀ (es : List Ir.Ex) (env : Ir.Env) (st st' : Ir.Store) (vs : List Ir.Val), Ir.evals C es env st = .ok vs st' → vs.length = es.length := by
      intro es
      induction es with
      | nil => intro env st st' vs h; simp only [Ir.evals] at h; cases h; rfl
      | cons e es ih =>
        intro env st st' vs h
        simp only [Ir.evals] at h
        obtain ⟨x, s1, e1, h⟩ := bok h
        obtain ⟨xs, s2, e2, h⟩ := bok h
        cases h
        simp [ih _ _ _ _ e2]
    rw [← rx.length, this _ _ _ _ _ e1]; exact hl
  refine ⟨hlen, fun p hp => k ρ1 _ _ (x1.trans (.grow rs1 hp _)) (rs1.grow hp _) (grow_tup rs1 (rx.ds e2) hlen hp)⟩
theorem evals_len : ∀ (es : List Ir.Ex) (env : Ir.Env) (st st' : Ir.Store) (vs : List Ir.Val), Ir.evals C es env st = .ok vs st' → vs.length = es.length := by
  intro es
  induction es with
  | nil => intro env st st' vs h; simp only [Ir.evals] at h; cases h; rfl
  | cons e es ih =>
    intro env st st' vs h
    simp only [Ir.evals] at h
    obtain ⟨x, s1, e1, h⟩ := bok h
    obtain ⟨xs, s2, e2, h⟩ := bok h
    cases h
    simp [ih _ _ _ _ e2]
/-! ### expressions that make a new list: as data, or as a cell -/
/-- ir makes a list of data at an address that was free -/
def tN (C : Ir.Calls) (K : PySem.W.Frag) (e : Ir.Ex) : TE := fun σ H Q => ∃ ρ env st xs st', RS ρ K st H ∧ REnv ρ K H env σ ∧ Ir.eval C e env st = .ok (.d (.lst xs)) st' ∧
  ∀ ρ' H' a ys, Ext ρ H ρ' H' → RS ρ' K st' H' → H a = none → a ∈ ρ'.res → H' a = some (.lst ys) → ys.length ≤ sizeLine → RDs ρ' K H' xs ys → Q (.ref a) H'
abbrev SN (X : Cx) (C : Ir.Calls) (e : Expr) (ir : Ir.Ex) : Prop := PE X e (tN C X.K ir)
theorem tI_list {K : PySem.W.Frag} {ir : Ir.Ex} (hl : ∀ env st v st', Ir.eval C ir env st = .ok v st' → ∃ xs, v = .d (.lst xs)) : ∀ σ H Q, tI C K ir σ H Q → tN C K ir σ H Q := by
  intro σ H Q ⟨ρ, env, st, v, st', rs, re, ev, k⟩
  obtain ⟨xs, rfl⟩ := hl _ _ _ _ ev
  refine ⟨ρ, env, st, xs, st', rs, re, ev, fun ρ' H' a ys x rs' ha hr hh z r => k (ρ'.drop ρ.res) H' _ x.drop (rs'.drop x.rs) (RD.lst hh ?_ z (r.drop' x.rs))⟩
  rintro (q | q)
  · exact rs'.disj a hr q
  · exact rs.fresh ha (.inr q)
theorem tI_newL {K : PySem.W.Frag} {ir : Ir.Ex} : ∀ σ H Q, tI C K (.newL ir) σ H Q → tN C K ir σ H Q := by
  intro σ H Q ⟨ρ, env, st, v, st', rs, re, ev, k⟩
  simp only [Ir.eval] at ev
  obtain ⟨x, s1, e1, ev⟩ := bok ev
  split at ev
  · rename_i xs
    cases ev
    refine ⟨ρ, env, st, xs, s1, rs, re, e1, fun ρ' H' a ys x rs' ha hr hh z r => ?_⟩
    have hn : a ∉ ρ.res := fun q => rs.fresh ha (.inr q)
    have sub : ∀ b, Rho.own ⟨ρ'.ix ++ [some a], ρ.res⟩ b → ρ'.own b := fun b q => by
      rcases q with q | q
      · rcases List.mem_append.mp q with q | q
        · exact .inl q
        · simp at q; subst q; exact .inr hr
      · exact .inr (x.rs b q)
    refine k ⟨ρ'.ix ++ [some a], ρ.res⟩ _ _ (x.cellOf ha hn) (rs'.cellOf x.rs hr hn ⟨ys, hh, z, r.sub sub⟩) ⟨by simp [rs'.len], a, rfl, fun b hb => ?_⟩
    have hb : (ρ'.ix ++ [some a])[s1.length]? = some (some b) := hb
    rw [rs'.len, List.getElem?_append_right (Nat.le_refl _)] at hb
    simp at hb
    exact hb.symm
  · cases ev
theorem se_list {e : Expr} {ir : Ir.Ex} (hl : ∀ env st v st', Ir.eval C ir env st = .ok v st' → ∃ xs, v = .d (.lst xs)) (h : SN X C e ir) : SE X C e ir := pe_imp h (tI_list hl)
theorem se_newL {e : Expr} {ir : Ir.Ex} (h : SN X C e ir) : SE X C e (.newL ir) := pe_imp h tI_newL
/-- a new list, kept aside -/
theorem sn_fin {K : PySem.W.Frag} {ρ ρ1 : Rho} {H H1 : Hp} {st : Ir.Store} {xs : List Ir.D} {ys : List V} {Q : VK} (x : Ext ρ H ρ1 H1) (rs : RS ρ1 K st H1) (r : RDs ρ1 K H1 xs ys) (z : ys.length ≤ sizeLine) {p : Addr} (hp : H1 p = none)
    (k : ∀ ρ' H' a ys, Ext ρ H ρ' H' → RS ρ' K st H' → H a = none → a ∈ ρ'.res → H' a = some (.lst ys) → ys.length ≤ sizeLine → RDs ρ' K H' xs ys → Q (.ref a) H') : Q (.ref p) (upd H1 p (.lst ys)) :=
  k (ρ1.keep p) _ p ys (x.trans (.keep rs hp _)) (rs.keep hp _) (x.al p hp) List.mem_cons_self upd_same z (r.mono (.keep rs hp _))
theorem sn_lst {es : List Expr} {is : List Ir.Ex} {pos : Pos} (hs : SEs X C es is) (hl : is.length ≤ sizeLine := by decide) : SN X C (.List es pos) (.lst is) := by
  refine pe_imp (pe_lst hs) fun σ H Q ⟨ρ, env, st, v, st', rs, re, ev, k⟩ => ?_
  simp only [Ir.eval] at ev
  obtain ⟨vs, s1, e1, ev⟩ := bok ev
  obtain ⟨ds, e2, ev⟩ := ook ev
  cases ev
  refine ⟨ρ, env, st, vs, st', rs, re, e1, fun ρ1 H1 XS x1 rs1 rx => ?_⟩
  have hlen : XS.length ≤ sizeLine := by rw [← rx.length, evals_len _ _ _ _ _ e1]; exact hl
  exact ⟨hlen, fun p hp => sn_fin x1 rs1 (rx.ds e2) hlen hp k⟩
theorem is_lst {is : List Ir.Ex} : ∀ env st v st', Ir.eval C (.lst is) env st = .ok v st' → ∃ xs, v = .d (.lst xs) := fun env st v st' ev => by
  simp only [Ir.eval] at ev
  obtain ⟨vs, s1, e1, ev⟩ := bok ev
  obtain ⟨ds, e2, ev⟩ := ook ev
  cases ev
  exact ⟨_, rfl⟩
theorem se_newD {pos : Pos} : SE X C (.Dict [] [] pos) .newD := by
  refine pe_imp pe_dnewK fun σ H Q ⟨ρ, env, st, v, st', rs, re, ev, k⟩ => fun p hp => ?_
  simp only [Ir.eval] at ev
  cases ev
  refine k (ρ.push p) _ _ (.push rs hp _) (rs.push hp ⟨[], upd_same, Nat.zero_le _, .nil⟩) ⟨by simp [Rho.push, rs.len], p, rfl, fun b hb => ?_⟩
  simp only [Rho.push] at hb
  rw [rs.len, List.getElem?_append_right (Nat.le_refl _)] at hb
  simp at hb
  exact hb.symm
/-- a cell given out as data -/
theorem se_frz {e : Expr} {ir : Ir.Ex} (h : SE X C e ir) : SE X C e (.frz ir) := by
  refine pe_imp h fun σ H Q ⟨ρ, env, st, v, st', rs, re, ev, k⟩ => ?_
  simp only [Ir.eval] at ev
  obtain ⟨x, s1, e1, ev⟩ := bok ev
  split at ev
  · rename_i n
    split at ev
    · rename_i xs hx
      cases ev
      refine ⟨ρ, env, st, _, s1, rs, re, e1, fun ρ1 H1 X1 x1 rs1 rx => ?_⟩
      obtain ⟨a, e2, e3, ys, h1, h2, h3⟩ := RV.cell rs1 rx hx (by simp)
      subst e2
      have hn : n < ρ1.ix.length := (List.getElem?_eq_some_iff.mp e3).1
      exact k _ _ _ (x1.trans (.kill ρ1 H1 n)) (rs1.kill hn) (RD.lst h1 (kill_notin rs1 e3) h2 (h3.mono (.kill ρ1 H1 n)))
    · cases ev
  · cases ev
end Snd

namespace Snd
open PySem PySem.Spec PyProof.Rows L2
/-! ### data as the library's data -/
mutual
def toPy : Ir.D → PyData
  | .non => .none
  | .bool b => .bool b
  | .int i => .int i
  | .str s => .str (Str.ofString s)
  | .tup xs => .tuple (toPys xs)
  | .lst xs => .list (toPys xs)
  | .ro _ => .none
def toPys : List Ir.D → List PyData
  | [] => []
  | x :: xs => toPy x :: toPys xs
end
theorem ofString_inj {x y : String} (h : Str.ofString x = Str.ofString y) : x = y := by
  rw [Str.ofString_eq_toList, Str.ofString_eq_toList] at h
  have h1 := congrArg (fun z : Str => z.cps.toList) h
  simp only at h1
  have h2 : x.toList.map Char.toNat = y.toList.map Char.toNat := by simpa using h1
  have inj : ∀ a b : Char, a.toNat = b.toNat → a = b := fun a b e => Char.ext (UInt32.toNat_inj.mp e)
  have h3 : x.toList = y.toList := (List.map_inj_right inj).mp h2
  exact String.toList_inj.mp h3
theorem ofString_beq (x y : String) : (Str.ofString x == Str.ofString y) = decide (x = y) := by
  by_cases e : x = y
  · subst e; simp
  · have : ¬ Str.ofString x = Str.ofString y := fun h => e (ofString_inj h)
    rw [decide_eq_false e]
    simpa using this
mutual
theorem eqv_toPy : ∀ (x y : Ir.D), x.dep < 1000 → y.dep < 1000 → PyData.eqv (toPy x) (toPy y) = x.eqv y
  | .tup xs, .tup ys, hx, hy => by
    simp only [Ir.D.dep] at hx hy
    simp only [toPy, PyData.eqv, Ir.D.eqv]
    exact eqv_toPys xs ys (by omega) (by omega)
  | .lst xs, .lst ys, hx, hy => by
    simp only [Ir.D.dep] at hx hy
    simp only [toPy, PyData.eqv, Ir.D.eqv]
    exact eqv_toPys xs ys (by omega) (by omega)
  | .str a, .str b, _, _ => by simp only [toPy, PyData.eqv, Ir.D.eqv, ofString_beq]
  | .ro _, _, hx, _ => by simp [Ir.D.dep] at hx
  | .non, .ro _, _, hy => by simp [Ir.D.dep] at hy
  | .bool _, .ro _, _, hy => by simp [Ir.D.dep] at hy
  | .int _, .ro _, _, hy => by simp [Ir.D.dep] at hy
  | .str _, .ro _, _, hy => by simp [Ir.D.dep] at hy
  | .tup _, .ro _, _, hy => by simp [Ir.D.dep] at hy
  | .lst _, .ro _, _, hy => by simp [Ir.D.dep] at hy
  | .non, .non, _, _ => by simp [toPy, PyData.eqv, Ir.D.eqv]
  | .non, .bool _, _, _ => by simp [toPy, PyData.eqv, Ir.D.eqv]
  | .non, .int _, _, _ => by simp [toPy, PyData.eqv, Ir.D.eqv]
  | .non, .str _, _, _ => by simp [toPy, PyData.eqv, Ir.D.eqv]
  | .non, .tup _, _, _ => by simp [toPy, PyData.eqv, Ir.D.eqv]
  | .non, .lst _, _, _ => by simp [toPy, PyData.eqv, Ir.D.eqv]
  | .bool _, .non, _, _ => by simp [toPy, PyData.eqv, Ir.D.eqv]
  | .bool _, .bool _, _, _ => by simp [toPy, PyData.eqv, Ir.D.eqv]
  | .bool _, .int _, _, _ => by simp [toPy, PyData.eqv, Ir.D.eqv]
  | .bool _, .str _, _, _ => by simp [toPy, PyData.eqv, Ir.D.eqv]
  | .bool _, .tup _, _, _ => by simp [toPy, PyData.eqv, Ir.D.eqv]
  | .bool _, .lst _, _, _ => by simp [toPy, PyData.eqv, Ir.D.eqv]
  | .int _, .non, _, _ => by simp [toPy, PyData.eqv, Ir.D.eqv]
  | .int _, .bool _, _, _ => by simp [toPy, PyData.eqv, Ir.D.eqv]
  | .int _, .int _, _, _ => by simp [toPy, PyData.eqv, Ir.D.eqv]
  | .int _, .str _, _, _ => by simp [toPy, PyData.eqv, Ir.D.eqv]
  | .int _, .tup _, _, _ => by simp [toPy, PyData.eqv, Ir.D.eqv]
  | .int _, .lst _, _, _ => by simp [toPy, PyData.eqv, Ir.D.eqv]
  | .str _, .non, _, _ => by simp [toPy, PyData.eqv, Ir.D.eqv]
  | .str _, .bool _, _, _ => by simp [toPy, PyData.eqv, Ir.D.eqv]
  | .str _, .int _, _, _ => by simp [toPy, PyData.eqv, Ir.D.eqv]
  | .str _, .tup _, _, _ => by simp [toPy, PyData.eqv, Ir.D.eqv]
  | .str _, .lst _, _, _ => by simp [toPy, PyData.eqv, Ir.D.eqv]
  | .tup _, .non, _, _ => by simp [toPy, PyData.eqv, Ir.D.eqv]
  | .tup _, .bool _, _, _ => by simp [toPy, PyData.eqv, Ir.D.eqv]
  | .tup _, .int _, _, _ => by simp [toPy, PyData.eqv, Ir.D.eqv]
  | .tup _, .str _, _, _ => by simp [toPy, PyData.eqv, Ir.D.eqv]
  | .tup _, .lst _, _, _ => by simp [toPy, PyData.eqv, Ir.D.eqv]
  | .lst _, .non, _, _ => by simp [toPy, PyData.eqv, Ir.D.eqv]
  | .lst _, .bool _, _, _ => by simp [toPy, PyData.eqv, Ir.D.eqv]
  | .lst _, .int _, _, _ => by simp [toPy, PyData.eqv, Ir.D.eqv]
  | .lst _, .str _, _, _ => by simp [toPy, PyData.eqv, Ir.D.eqv]
  | .lst _, .tup _, _, _ => by simp [toPy, PyData.eqv, Ir.D.eqv]
theorem eqv_toPys : ∀ (xs ys : List Ir.D), Ir.D.depAll xs < 1000 → Ir.D.depAll ys < 1000 → PyData.eqvAll (toPys xs) (toPys ys) = Ir.D.eqvAll xs ys
  | [], [], _, _ => by simp [toPys, PyData.eqvAll, Ir.D.eqvAll]
  | [], _ :: _, _, _ => by simp [toPys, PyData.eqvAll, Ir.D.eqvAll]
  | _ :: _, [], _, _ => by simp [toPys, PyData.eqvAll, Ir.D.eqvAll]
  | x :: xs, y :: ys, hx, hy => by
    simp only [Ir.D.depAll] at hx hy
    simp only [toPys, PyData.eqvAll, Ir.D.eqvAll]
    rw [eqv_toPy x y (by omega) (by omega), eqv_toPys xs ys (by omega) (by omega)]
end
mutual
theorem dep_toPy : ∀ x : Ir.D, x.dep < 1000 → (toPy x).depth = x.dep
  | .non, _ => by simp [toPy, PyData.depth, Ir.D.dep]
  | .bool _, _ => by simp [toPy, PyData.depth, Ir.D.dep]
  | .int _, _ => by simp [toPy, PyData.depth, Ir.D.dep]
  | .str _, _ => by simp [toPy, PyData.depth, Ir.D.dep]
  | .tup xs, h => by simp only [Ir.D.dep] at h; simp only [toPy, PyData.depth, Ir.D.dep]; rw [dep_toPys xs (by omega)]
  | .lst xs, h => by simp only [Ir.D.dep] at h; simp only [toPy, PyData.depth, Ir.D.dep]; rw [dep_toPys xs (by omega)]
  | .ro _, h => by simp [Ir.D.dep] at h
theorem dep_toPys : ∀ xs : List Ir.D, Ir.D.depAll xs < 1000 → PyData.depthAll (toPys xs) = Ir.D.depAll xs
  | [], _ => by simp [toPys, PyData.depthAll, Ir.D.depAll]
  | x :: xs, h => by
    simp only [Ir.D.depAll] at h
    simp only [toPys, PyData.depthAll, Ir.D.depAll]
    rw [dep_toPy x (by omega), dep_toPys xs (by omega)]
end
theorem strOk_ofString (s : String) : PyData.strOk (Str.ofString s) = true := by
  rw [Str.ofString_eq_toList]
  unfold PyData.strOk
  simp only [List.all_toArray, List.all_eq_true]
  intro x hx
  simp only [List.mem_map] at hx
  obtain ⟨c, _, rfl⟩ := hx
  have h : c.toNat < 0xD800 ∨ (0xDFFF < c.toNat ∧ c.toNat < 0x110000) := c.valid
  have h2 : c.toNat < 0x110000 := by omega
  exact decide_eq_true h2
mutual
theorem lay_toPy : ∀ x : Ir.D, (toPy x).canLay0 = true
  | .non => by simp [toPy, PyData.canLay0]
  | .bool _ => by simp [toPy, PyData.canLay0]
  | .int _ => by simp [toPy, PyData.canLay0]
  | .str s => by simp [toPy, PyData.canLay0, strOk_ofString]
  | .tup xs => by simp only [toPy, PyData.canLay0]; exact lay_toPys xs
  | .lst xs => by simp only [toPy, PyData.canLay0]; exact lay_toPys xs
  | .ro _ => by simp [toPy, PyData.canLay0]
theorem lay_toPys : ∀ xs : List Ir.D, PyData.canLayAll0 (toPys xs) = true
  | [] => by simp [toPys, PyData.canLayAll0]
  | x :: xs => by simp [toPys, PyData.canLayAll0, lay_toPy x, lay_toPys xs]
end
theorem shaped_toPy {x : Ir.D} (h : Ir.fine x = true) : SeqAt.shaped (toPy x) = true := by
  have h1 : x.dep ≤ 64 := by simpa [Ir.fine] using h
  unfold SeqAt.shaped
  rw [lay_toPy, dep_toPy x (by omega)]
  simpa using h1
section
variable {ρ : Rho} {K : PySem.W.Frag} {H : Hp}
mutual
theorem RD.dp : ∀ {x : Ir.D} {v : V}, x.dep < 1000 → RD ρ K H x v → Dp K H v (toPy x)
  | _, _, _, .non => .non
  | _, _, _, .bool b => .bl b
  | _, _, _, .int i => .int i
  | _, _, _, .str s => .str _
  | _, _, h, .tup t z r => .tup t.sq (RDs.dp (by simp only [Ir.D.dep] at h; omega) r)
  | _, _, h, .lst t n z r => .lst (SqL.of t) (RDs.dp (by simp only [Ir.D.dep] at h; omega) r)
  | _, _, h, .ro _ _ _ => by simp [Ir.D.dep] at h
theorem RDs.dp : ∀ {xs : List Ir.D} {vs : List V}, Ir.D.depAll xs < 1000 → RDs ρ K H xs vs → DpAll K H vs (toPys xs)
  | _, _, _, .nil => .nil
  | _, _, h, .cons a r => .cons (RD.dp (by simp only [Ir.D.depAll] at h; omega) a) (RDs.dp (by simp only [Ir.D.depAll] at h; omega) r)
end
theorem VD.dp {x : Ir.D} {v : V} (h : x.dep < 1000) (r : VD ρ K H x v) : Dp K H v (toPy x) := by
  cases x with
  | lst xs =>
    obtain ⟨a, ys, rfl, h1, h2, h3⟩ := r
    exact .lst (SqL.of h1) (h3.dp (by simp only [Ir.D.dep] at h; omega))
  | non => exact RD.dp h r
  | bool b => exact RD.dp h r
  | int i => exact RD.dp h r
  | str s => exact RD.dp h r
  | tup xs => exact RD.dp h r
  | ro xs => exact RD.dp h r
end
theorem fine_dep {x : Ir.D} (h : Ir.fine x = true) : x.dep < 1000 := by
  have h1 : x.dep ≤ 64 := by simpa [Ir.fine] using h
  omega
/-! ### operators -/
variable {X : Cx} {C : Ir.Calls}
theorem opR_or {f : Value → Value → Sem Value} {r r' : R2} (h : OpR X f r) (h' : OpR X f r') : OpR X f (fun x y H Q => r x y H Q ∨ r' x y H Q) := by
  intro pins s σ H x y v u Q I rx ry q
  rcases q with q | q
  · exact h pins s σ H x y v u Q I rx ry q
  · exact h' pins s σ H x y v u Q I rx ry q
theorem opR_imp {f : Value → Value → Sem Value} {r r' : R2} (h : OpR X f r) (w : ∀ x y H Q, r' x y H Q → r x y H Q) : OpR X f r' := fun pins s σ H x y v u Q I rx ry q => h pins s σ H x y v u Q I rx ry (w _ _ _ _ q)
/-- data in, data out -/
def rBin (K : PySem.W.Frag) (o : Ir.Op) : R2 := fun x y H Q => ∃ ρ st p q d, RS ρ K st H ∧ VD ρ K H p x ∧ VD ρ K H q y ∧ Ir.D.bin o p q = some d ∧ ∀ ρ' H' z, Ext ρ H ρ' H' → RS ρ' K st H' → RD ρ' K H' d z → Q z H'
theorem RD.int_inv {ρ : Rho} {K : PySem.W.Frag} {H : Hp} {i : Int} {v : V} (h : RD ρ K H (.int i) v) : v = .int i := by cases h; rfl
theorem RD.str_inv {ρ : Rho} {K : PySem.W.Frag} {H : Hp} {i : String} {v : V} (h : RD ρ K H (.str i) v) : v = .str (Str.ofString i) := by cases h; rfl
theorem RD.bool_inv {ρ : Rho} {K : PySem.W.Frag} {H : Hp} {i : Bool} {v : V} (h : RD ρ K H (.bool i) v) : v = .bl i := by cases h; rfl
theorem RD.non_inv {ρ : Rho} {K : PySem.W.Frag} {H : Hp} {v : V} (h : RD ρ K H .non v) : v = .non := by cases h; rfl
theorem RD.tup_inv {ρ : Rho} {K : PySem.W.Frag} {H : Hp} {xs : List Ir.D} {v : V} (h : RD ρ K H (.tup xs) v) : ∃ a ys, v = .ref a ∧ TpAt ρ K H a ys ∧ ys.length ≤ sizeLine ∧ RDs ρ K H xs ys := by
  cases h with
  | tup h z r => exact ⟨_, _, rfl, h, z, r⟩
theorem RD.ro_inv {ρ : Rho} {K : PySem.W.Frag} {H : Hp} {xs : List Ir.D} {v : V} (h : RD ρ K H (.ro xs) v) : ∃ a ys, v = .ref a ∧ LrAt ρ K H a ys ∧ ys.length ≤ sizeLine ∧ RDs ρ K H xs ys := by
  cases h with
  | ro h z r => exact ⟨_, _, rfl, h, z, r⟩
theorem lim_eq : Ir.LIM = sizeLine := by decide
theorem bin_int {o : Ir.Op} {op : Operator} {g : Int → Int → Int} {Cd : Int → Int → Prop} (h : OpR X (binaryOp op) (rI Cd fun i j => .int (g i j)))
    (hd : ∀ p q d, Ir.D.bin o p q = some d → ∃ i j, p = .int i ∧ q = .int j ∧ Cd i j ∧ d = .int (g i j)) : OpR X (binaryOp op) (rBin X.K o) := by
  refine opR_imp h fun x y H Q ⟨ρ, st, p, q, d, rs, hp, hq, hb, k⟩ => ?_
  obtain ⟨i, j, rfl, rfl, hc, rfl⟩ := hd p q d hb
  exact ⟨i, j, RD.int_inv hp, RD.int_inv hq, hc, k ρ H _ (.refl _ _) rs (.int _)⟩
theorem op_sub0 : OpR X (binaryOp .Sub) (rI (fun _ _ => True) fun i j => .int (i - j)) := opI fun _ _ _ _ _ _ _ _ q => sub_int q
theorem op_add0 : OpR X (binaryOp .Add) (rI (fun _ _ => True) fun i j => .int (i + j)) := opI fun _ _ _ _ _ _ _ _ q => add_int q
theorem bin_sub : OpR X (binaryOp .Sub) (rBin X.K .sub) := bin_int op_sub0 fun p q d h => by
  cases p <;> cases q <;> simp [Ir.D.bin] at h
  exact ⟨_, _, rfl, rfl, trivial, h.symm⟩
theorem big_lt {i : Int} (h : Ir.bigOk i = true) : i.natAbs < 2 ^ 4000 := by
  unfold Ir.bigOk at h
  exact of_decide_eq_true h
theorem bin_mul : OpR X (binaryOp .Mult) (rBin X.K .mul) := by
  refine opR_imp (opR_or op_mulW op_mul) fun x y H Q ⟨ρ, st, p, q, d, rs, hp, hq, hb, k⟩ => ?_
  cases p <;> cases q <;> simp only [Ir.D.bin, reduceCtorEq] at hb
  rename_i i j
  split at hb
  · rename_i hc
    cases hb
    have kk := k ρ H _ (.refl _ _) rs (.int (i * j))
    rw [Bool.or_eq_true, Bool.and_eq_true, Bool.or_eq_true] at hc
    rcases hc with hc | hc | hc
    · exact .inl ⟨i, j, RD.int_inv hp, RD.int_inv hq, wide_mul (big_lt hc.1) (big_lt hc.2) (by decide) (by decide) (by decide), kk⟩
    · exact .inr ⟨i, j, RD.int_inv hp, RD.int_inv hq, .inl (of_decide_eq_true hc), kk⟩
    · exact .inr ⟨i, j, RD.int_inv hp, RD.int_inv hq, .inr (of_decide_eq_true hc), kk⟩
  · cases hb
theorem bin_fdiv : OpR X (binaryOp .FloorDiv) (rBin X.K .fdiv) := bin_int op_fdivW fun p q d h => by
  cases p <;> cases q <;> simp only [Ir.D.bin, reduceCtorEq] at h
  rename_i i j
  split at h
  · rename_i hc
    rw [Bool.and_eq_true] at hc
    cases h
    exact ⟨_, _, rfl, rfl, wide_div (of_decide_eq_true hc.1) (big_lt hc.2) (by decide) (by decide), rfl⟩
  · cases h
theorem bin_mod : OpR X (binaryOp .Mod) (rBin X.K .mod) := bin_int op_mod fun p q d h => by
  cases p <;> cases q <;> simp only [Ir.D.bin, reduceCtorEq] at h
  rename_i i j
  split at h
  · rename_i hc
    cases h
    exact ⟨_, _, rfl, rfl, hc, rfl⟩
  · cases h
theorem bits_of {i : Int} {n : Nat} (h : i.natAbs < 2 ^ n) : Builtin.Int.intBits i ≤ n := by
  unfold Builtin.Int.intBits
  split
  · exact Nat.zero_le _
  · rename_i h0
    have : i.natAbs ≠ 0 := by
      intro z
      apply h0
      simpa using z
    exact (Nat.log2_lt this).mpr h
theorem op_powB : OpR X (binaryOp .Pow) (rI (fun i j => 0 ≤ j ∧ j ≤ 100 ∧ i.natAbs < 2 ^ 4000) fun i j => .int (i ^ j.toNat)) := opI fun i j _ _ _ _ _ hc q => pow_int hc.1 (by
  have h1 := bits_of hc.2.2
  have h2 := hc.1
  have h3 := hc.2.1
  have h4 : (Builtin.Int.intBits i : Int) ≤ 4000 := by omega
  calc (Builtin.Int.intBits i : Int) * j ≤ 4000 * j := Int.mul_le_mul_of_nonneg_right h4 h2
    _ ≤ 2 ^ 27 := by omega) q
theorem bin_pow : OpR X (binaryOp .Pow) (rBin X.K .pow) := bin_int op_powB fun p q d h => by
  cases p <;> cases q <;> simp only [Ir.D.bin, reduceCtorEq] at h
  rename_i i j
  split at h
  · rename_i hc
    rw [Bool.and_eq_true, Bool.and_eq_true] at hc
    cases h
    exact ⟨_, _, rfl, rfl, ⟨of_decide_eq_true hc.1.1, of_decide_eq_true hc.1.2, big_lt hc.2⟩, rfl⟩
  · cases h
theorem ofString_app (x y : String) : Str.ofString x ++ Str.ofString y = Str.ofString (x ++ y) := by
  have h : ∀ a b : Str, a ++ b = ⟨a.cps ++ b.cps⟩ := fun a b => by first | rfl | (simp [HAppend.hAppend, Append.append]; rfl)
  rw [Str.ofString_eq_toList, Str.ofString_eq_toList, Str.ofString_eq_toList, h]
  simp
theorem ofString_len (x : String) : (Str.ofString x).length = x.length := by
  rw [Str.ofString_eq_toList]
  show ((x.toList.map Char.toNat).toArray).size = x.length
  simp [String.length_toList]
theorem bin_add : OpR X (binaryOp .Add) (rBin X.K .add) := by
  refine opR_imp (opR_or (opR_or op_add0 op_add_str) (opR_or op_catA op_cat)) fun x y H Q ⟨ρ, st, p, q, d, rs, hp, hq, hb, k⟩ => ?_
  cases p <;> cases q <;> simp only [Ir.D.bin, reduceCtorEq] at hb
  · cases hb
    exact .inl (.inl ⟨_, _, RD.int_inv hp, RD.int_inv hq, trivial, k ρ H _ (.refl _ _) rs (.int _)⟩)
  · rename_i a b
    split at hb
    · rename_i hl
      cases hb
      refine .inl (.inr ⟨_, _, RD.str_inv hp, RD.str_inv hq, by rw [ofString_len, ofString_len, ← lim_eq]; exact hl, ?_⟩)
      rw [ofString_app]
      exact k ρ H _ (.refl _ _) rs (.str _)
    · cases hb
  · rename_i xs ys
    split at hb
    · rename_i hl
      cases hb
      obtain ⟨a, as, rfl, ta, za, ra⟩ := RD.tup_inv hp
      obtain ⟨b, bs, rfl, tb, zb, rb⟩ := RD.tup_inv hq
      have hl2 : as.length + bs.length ≤ sizeLine := by rw [← ra.length, ← rb.length, ← lim_eq]; exact hl
      refine .inr (.inl ⟨a, b, as, bs, rfl, rfl, ta.sq, tb.sq, hl2, fun z => ?_, fun _ z => ?_, fun _ _ p hp => ?_⟩)
      · subst z
        cases ra
        exact k ρ H _ (.refl _ _) rs (.tup tb zb rb)
      · subst z
        cases rb
        rw [List.append_nil] at k
        exact k ρ H _ (.refl _ _) rs (.tup ta za ra)
      · exact k ρ _ _ (.grow rs hp _) (rs.grow hp _) (grow_tup rs (ra.append rb) (by rw [List.length_append]; exact hl2) hp)
    · cases hb
  · rename_i xs ys
    split at hb
    · rename_i hl
      cases hb
      obtain ⟨a, as, rfl, ha, za, ra⟩ := hp
      obtain ⟨b, bs, rfl, hb', zb, rb⟩ := hq
      have hl2 : as.length + bs.length ≤ sizeLine := by rw [← ra.length, ← rb.length, ← lim_eq]; exact hl
      refine .inr (.inr ⟨a, b, as, bs, rfl, rfl, ha, hb', hl2, fun p hp => ?_⟩)
      exact k ρ _ _ (.grow rs hp _) (rs.grow hp _) (grow_lst rs (ra.append rb) (by rw [List.length_append]; exact hl2) hp)
    · cases hb
theorem se_bin {a b : Expr} {op : Operator} {o : Ir.Op} {ia ib : Ir.Ex} {pos : Pos} (ho : OpR X (binaryOp op) (rBin X.K o)) (ha : SE X C a ia) (hb : SE X C b ib) : SE X C (.BinOp a op b pos) (.bin o ia ib) := by
  refine pe_imp (pe_op ho ha hb) fun σ H Q ⟨ρ, env, st, v, st', rs, re, ev, k⟩ => ?_
  simp only [Ir.eval] at ev
  obtain ⟨x, s1, e1, ev⟩ := bok ev
  obtain ⟨y, s2, e2, ev⟩ := bok ev
  obtain ⟨p, e3, ev⟩ := ook ev
  obtain ⟨q, e4, ev⟩ := ook ev
  obtain ⟨d, e5, ev⟩ := ook ev
  cases ev
  exact ⟨ρ, env, st, x, s1, rs, re, e1, fun ρ1 H1 X1 x1 rs1 rx => ⟨ρ1, env, s1, y, st', rs1, re.mono x1, e2, fun ρ2 H2 Y x2 rs2 ry =>
    ⟨ρ2, st', p, q, d, rs2, .deref rs2 (rx.mono x2) e3, .deref rs2 ry e4, e5, fun ρ' H' z x3 rs3 rz => k ρ' H' z ((x1.trans x2).trans x3) rs3 rz⟩⟩⟩
theorem se_neg {a : Expr} {ia : Ir.Ex} {pos : Pos} (ha : SE X C a ia) : SE X C (.UnaryOp .USub a pos) (.neg ia) := by
  refine pe_imp (pe_un un_neg ha) fun σ H Q ⟨ρ, env, st, v, st', rs, re, ev, k⟩ => ?_
  simp only [Ir.eval] at ev
  obtain ⟨x, s1, e1, ev⟩ := bok ev
  obtain ⟨i, e2, ev⟩ := ook ev
  cases ev
  refine ⟨ρ, env, st, x, st', rs, re, e1, fun ρ1 H1 X1 x1 rs1 rx => ?_⟩
  have : x = .d (.int i) := by
    cases x with
    | ref n => simp [Ir.asI] at e2
    | d y => cases y <;> simp [Ir.asI] at e2; subst e2; rfl
  subst this
  exact ⟨i, RD.int_inv rx, k ρ1 H1 _ x1 rs1 (.int _)⟩
end Snd

namespace Snd
open PySem PySem.Spec PyProof.Rows L2
variable {X : Cx} {C : Ir.Calls}
/-! ### comparisons -/
def rCmp (K : PySem.W.Frag) (o : Ir.Cmp) : R2 := fun x y H Q => ∃ ρ st p q b, RS ρ K st H ∧ RV ρ K H p x ∧ RV ρ K H q y ∧ Ir.cmpV o st p q = some b ∧ Q (.bl b) H
theorem cmpV_plain {o : Ir.Cmp} (h : o ≠ .isin ∧ o ≠ .notin ∧ o ≠ .is ∧ o ≠ .isnot) {st : Ir.Store} {p q : Ir.Val} {b : Bool} (e : Ir.cmpV o st p q = some b) : ∃ x y, Ir.deref st p = some x ∧ Ir.deref st q = some y ∧ Ir.D.cmp o x y = some b := by
  obtain ⟨h1, h2, h3, h4⟩ := h
  unfold Ir.cmpV at e
  split at e
  · exact absurd rfl h1
  · exact absurd rfl h2
  · exact absurd rfl h3
  · exact absurd rfl h4
  · split at e
    · rename_i a b' ha hb
      exact ⟨a, b', ha, hb, e⟩
    · cases e
theorem cmp_eq {n : Nat} (hr : Room n X.A) : OpR X (compareOp .Eq) (rCmp X.K .eq) := by
  refine opR_imp (op_eqD hr.units) fun x y H Q ⟨ρ, st, p, q, b, rs, hp, hq, hb, k⟩ => ?_
  obtain ⟨a, c, e1, e2, e3⟩ := cmpV_plain (by decide) hb
  simp only [Ir.D.cmp] at e3
  split at e3
  · rename_i hf
    rw [Bool.and_eq_true] at hf
    cases e3
    refine ⟨toPy a, toPy c, (VD.deref rs hp e1).dp (fine_dep hf.1), (VD.deref rs hq e2).dp (fine_dep hf.2), shaped_toPy hf.1, shaped_toPy hf.2, ?_⟩
    rw [eqv_toPy a c (fine_dep hf.1) (fine_dep hf.2)]
    exact k
  · cases e3
theorem cmp_ne {n : Nat} (hr : Room n X.A) : OpR X (compareOp .NotEq) (rCmp X.K .ne) := by
  refine opR_imp (op_neD hr.units) fun x y H Q ⟨ρ, st, p, q, b, rs, hp, hq, hb, k⟩ => ?_
  obtain ⟨a, c, e1, e2, e3⟩ := cmpV_plain (by decide) hb
  simp only [Ir.D.cmp] at e3
  split at e3
  · rename_i hf
    rw [Bool.and_eq_true] at hf
    cases e3
    refine ⟨toPy a, toPy c, (VD.deref rs hp e1).dp (fine_dep hf.1), (VD.deref rs hq e2).dp (fine_dep hf.2), shaped_toPy hf.1, shaped_toPy hf.2, ?_⟩
    rw [eqv_toPy a c (fine_dep hf.1) (fine_dep hf.2)]
    exact k
  · cases e3
theorem cmp_int {op : CmpOp} {o : Ir.Cmp} {g : Int → Int → Bool} (h : OpR X (compareOp op) (rI0 fun i j => .bl (g i j))) (hp : o ≠ .isin ∧ o ≠ .notin ∧ o ≠ .is ∧ o ≠ .isnot)
    (hd : ∀ p q b, Ir.D.cmp o p q = some b → ∃ i j, p = .int i ∧ q = .int j ∧ b = g i j) : OpR X (compareOp op) (rCmp X.K o) := by
  refine opR_imp h fun x y H Q ⟨ρ, st, p, q, b, rs, rp, rq, hb, k⟩ => ?_
  obtain ⟨a, c, e1, e2, e3⟩ := cmpV_plain hp hb
  obtain ⟨i, j, rfl, rfl, rfl⟩ := hd _ _ _ e3
  exact ⟨i, j, RD.int_inv (VD.deref rs rp e1), RD.int_inv (VD.deref rs rq e2), k⟩
theorem cmp_lt : OpR X (compareOp .Lt) (rCmp X.K .lt) := cmp_int op_lt (by decide) fun p q b h => by
  cases p <;> cases q <;> simp only [Ir.D.cmp, reduceCtorEq] at h
  cases h; exact ⟨_, _, rfl, rfl, rfl⟩
theorem cmp_le : OpR X (compareOp .LtE) (rCmp X.K .le) := cmp_int op_le (by decide) fun p q b h => by
  cases p <;> cases q <;> simp only [Ir.D.cmp, reduceCtorEq] at h
  cases h; exact ⟨_, _, rfl, rfl, rfl⟩
theorem cmp_gt : OpR X (compareOp .Gt) (rCmp X.K .gt) := cmp_int op_gt (by decide) fun p q b h => by
  cases p <;> cases q <;> simp only [Ir.D.cmp, reduceCtorEq] at h
  cases h; exact ⟨_, _, rfl, rfl, rfl⟩
theorem cmp_ge : OpR X (compareOp .GtE) (rCmp X.K .ge) := cmp_int op_ge (by decide) fun p q b h => by
  cases p <;> cases q <;> simp only [Ir.D.cmp, reduceCtorEq] at h
  cases h; exact ⟨_, _, rfl, rfl, rfl⟩
theorem RD.non_iff {ρ : Rho} {K : PySem.W.Frag} {H : Hp} {x : Ir.D} {v : V} (h : RD ρ K H x v) : decide (v = .non) = (match x with | .non => true | _ => false) := by
  cases h <;> simp
theorem isNon_ok {p q : Ir.Val} {b : Bool} {ρ : Rho} {K : PySem.W.Frag} {H : Hp} {x y : V} (rp : RV ρ K H p x) (rq : RV ρ K H q y) (e : Ir.isNon p q = some b) : (y = .non ∧ b = decide (x = .non)) ∨ ∃ u w, x = .bl u ∧ y = .bl w ∧ b = decide (u = w) := by
  unfold Ir.isNon at e
  split at e
  · cases e
    obtain ⟨_, a, rfl, _⟩ := rp
    exact .inl ⟨RD.non_inv rq, by simp⟩
  · rename_i u
    refine .inl ⟨RD.non_inv rq, ?_⟩
    rw [RD.non_iff rp]
    cases u <;> simpa using e.symm
  · cases e
    exact .inr ⟨_, _, RD.bool_inv rp, RD.bool_inv rq, rfl⟩
  · cases e
theorem cmp_is : OpR X (compareOp .Is) (rCmp X.K .is) := opR_imp (opR_or op_isN op_is_bl) fun x y H Q ⟨ρ, st, p, q, b, rs, hp, hq, hb, k⟩ => by
  rcases isNon_ok hp hq (show Ir.isNon p q = some b from hb) with ⟨h1, h2⟩ | ⟨u, w, h1, h2, h3⟩
  · exact .inl ⟨h1, by rw [← h2]; exact k⟩
  · exact .inr ⟨u, w, h1, h2, by rw [← h3]; exact k⟩
theorem cmp_isnot : OpR X (compareOp .IsNot) (rCmp X.K .isnot) := opR_imp (opR_or op_notN op_isnot_bl) fun x y H Q ⟨ρ, st, p, q, b, rs, hp, hq, hb, k⟩ => by
  have hb : (Ir.isNon p q).map (!·) = some b := hb
  simp only [Option.map_eq_some_iff] at hb
  obtain ⟨c, hc, rfl⟩ := hb
  rcases isNon_ok hp hq hc with ⟨h1, h2⟩ | ⟨u, w, h1, h2, h3⟩
  · exact .inl ⟨h1, by rw [← h2]; exact k⟩
  · exact .inr ⟨u, w, h1, h2, by rw [← h3]; exact k⟩
/-- what two expressions give, then a relation over both -/
theorem tI_two {a b : Ir.Ex} {K : PySem.W.Frag} {R : V → V → Hp → Prop} {σ : L2.St} {H : Hp} {ρ : Rho} {env : Ir.Env} {st s1 s2 : Ir.Store} {x y : Ir.Val} (rs : RS ρ K st H) (re : REnv ρ K H env σ) (e1 : Ir.eval C a env st = .ok x s1) (e2 : Ir.eval C b env s1 = .ok y s2)
    (k : ∀ ρ' H' X Y, Ext ρ H ρ' H' → RS ρ' K s2 H' → RV ρ' K H' x X → RV ρ' K H' y Y → R X Y H') : tI C K a σ H fun X H1 => tI C K b σ H1 fun Y H2 => R X Y H2 :=
  ⟨ρ, env, st, x, s1, rs, re, e1, fun ρ1 H1 X1 x1 rs1 rx => ⟨ρ1, env, s1, y, s2, rs1, re.mono x1, e2, fun ρ2 H2 Y x2 rs2 ry => k ρ2 H2 X1 Y (x1.trans x2) rs2 (rx.mono x2) ry⟩⟩
theorem se_cmp {a b : Expr} {op : CmpOp} {o : Ir.Cmp} {ia ib : Ir.Ex} {pos : Pos} (ho : OpR X (compareOp op) (rCmp X.K o)) (ha : SE X C a ia) (hb : SE X C b ib) (hm : behindInMarks op b = false := by first | exact nomark _ | rfl) : SE X C (.Compare a [op] [b] pos) (.cmp o ia ib) := by
  refine pe_imp (pe_cmpR ho ha hb hm) fun σ H Q ⟨ρ, env, st, v, st', rs, re, ev, k⟩ => ?_
  simp only [Ir.eval] at ev
  obtain ⟨x, s1, e1, ev⟩ := bok ev
  obtain ⟨y, s2, e2, ev⟩ := bok ev
  obtain ⟨r, e3, ev⟩ := ook ev
  cases ev
  exact tI_two rs re e1 e2 fun ρ' H' X Y x1 rs1 rx ry => ⟨ρ', _, x, y, r, rs1, rx, ry, e3, k ρ' H' _ x1 rs1 (.bool r)⟩
theorem st_val {e : Expr} {ir : Ir.Ex} (h : SE X C e ir) (he : ∀ whole, isTrue e X.env whole = (do let v ← whole; standAt e.pos; holding [v] (truthy v)) := by intro _; rfl) : ST X C e ir :=
  pt_imp (pt_val h he) fun σ H Q ⟨ρ, env, st, b, st', rs, re, ev, k⟩ => ⟨ρ, env, st, _, st', rs, re, ev, fun ρ' H' x x1 rs1 rx => ⟨b, RD.bool_inv rx, k ρ' H' x1 rs1⟩⟩
theorem st_cmp {a b : Expr} {op : CmpOp} {o : Ir.Cmp} {ia ib : Ir.Ex} {pos : Pos} (ho : OpR X (compareOp op) (rCmp X.K o)) (ha : SE X C a ia) (hb : SE X C b ib) (hm : behindInMarks op b = false := by first | exact nomark _ | rfl) : ST X C (.Compare a [op] [b] pos) (.cmp o ia ib) := by
  refine pt_imp (pt_cmpR ho ha hb hm) fun σ H Q ⟨ρ, env, st, v, st', rs, re, ev, k⟩ => ?_
  simp only [Ir.eval] at ev
  obtain ⟨x, s1, e1, ev⟩ := bok ev
  obtain ⟨y, s2, e2, ev⟩ := bok ev
  obtain ⟨r, e3, ev⟩ := ook ev
  cases ev
  exact tI_two rs re e1 e2 fun ρ' H' X Y x1 rs1 rx ry => ⟨ρ', _, x, y, _, rs1, rx, ry, e3, _, rfl, k ρ' H' x1 rs1⟩
/-! ### in a list, a tuple, a dict -/
theorem RK.kv {ρ : Rho} {K : PySem.W.Frag} {H : Hp} {d : Ir.D} {v : V} (h : RD ρ K H d v) (k : d.key = true) : ∃ k', RK d k' ∧ v = kV k' := by
  cases h <;> simp only [Ir.D.key, Bool.false_eq_true] at k
  · exact ⟨.inl _, rfl, rfl⟩
  · exact ⟨.inr _, rfl, rfl⟩
theorem RK.beq : ∀ {a b : Ir.D} {x y : Key}, RK a x → RK b y → a.eqv b = decide (x = y)
  | .int i, .int j, _, _, rfl, rfl => by simp only [Ir.D.eqv]; rw [key_ll]
  | .int i, .str j, _, _, rfl, rfl => by simp only [Ir.D.eqv]; rw [key_lr]
  | .str i, .int j, _, _, rfl, rfl => by simp only [Ir.D.eqv]; rw [key_rl]
  | .str i, .str j, _, _, rfl, rfl => by
    simp only [Ir.D.eqv]; rw [key_rr]
    by_cases e : i = j
    · subst e; simp
    · have : ¬ Str.ofString i = Str.ofString j := fun h => e (ofString_inj h)
      simp [e, this]
  | .non, _, _, _, h, _ => h.elim
  | .bool _, _, _, _, h, _ => h.elim
  | .tup _, _, _, _, h, _ => h.elim
  | .lst _, _, _, _, h, _ => h.elim
  | .ro _, _, _, _, h, _ => h.elim
  | .int _, .non, _, _, _, h => h.elim
  | .int _, .bool _, _, _, _, h => h.elim
  | .int _, .tup _, _, _, _, h => h.elim
  | .int _, .lst _, _, _, _, h => h.elim
  | .int _, .ro _, _, _, _, h => h.elim
  | .str _, .non, _, _, _, h => h.elim
  | .str _, .bool _, _, _, _, h => h.elim
  | .str _, .tup _, _, _, _, h => h.elim
  | .str _, .lst _, _, _, _, h => h.elim
  | .str _, .ro _, _, _, _, h => h.elim
theorem RKs.look {ρ : Rho} {K : PySem.W.Frag} {H : Hp} {k : Ir.D} {k' : Key} (hk : RK k k') : ∀ {kvs : List (Ir.D × Ir.D)} {ks : List (Key × V)}, RKs ρ K H kvs ks →
    (Ir.lookK kvs k = none ∧ valV ks k' = none) ∨ ∃ v x, Ir.lookK kvs k = some v ∧ valV ks k' = some x ∧ RD ρ K H v x
  | _, _, .nil => .inl ⟨rfl, rfl⟩
  | (a, v) :: kvs, (b, x) :: ks, .cons h1 h2 r => by
    have e := RK.beq h1 hk
    by_cases c : b = k'
    · refine .inr ⟨v, x, ?_, valV_pos c, h2⟩
      simp [Ir.lookK, List.find?_cons, e, c]
    · rw [valV_neg (p := (b, x)) c]
      have : Ir.lookK ((a, v) :: kvs) k = Ir.lookK kvs k := by simp [Ir.lookK, List.find?_cons, e, c]
      rw [this]
      exact RKs.look hk r
theorem RKs.map_put {ρ : Rho} {K : PySem.W.Frag} {H : Hp} {k v : Ir.D} {k' : Key} {x : V} (hk : RK k k') (hv : RD ρ K H v x) : ∀ {kvs : List (Ir.D × Ir.D)} {ks : List (Key × V)}, RKs ρ K H kvs ks →
    RKs ρ K H (kvs.map fun p => if p.1.eqv k then (p.1, v) else p) (ks.map fun kv => if kv.1 = k' then (kv.1, x) else kv)
  | _, _, .nil => .nil
  | (a, w) :: kvs, (b, y) :: ks, .cons h1 h2 r => by
    have e := RK.beq h1 hk
    simp only [List.map_cons]
    by_cases c : b = k'
    · simp only [e, c, decide_true, if_true]
      exact .cons (by rw [← c]; exact h1) hv (RKs.map_put hk hv r)
    · simp only [e, c, decide_false, if_false, Bool.false_eq_true]
      exact .cons h1 h2 (RKs.map_put hk hv r)
theorem RKs.any {ρ : Rho} {K : PySem.W.Frag} {H : Hp} {k : Ir.D} {k' : Key} (hk : RK k k') : ∀ {kvs : List (Ir.D × Ir.D)} {ks : List (Key × V)}, RKs ρ K H kvs ks → (kvs.any fun p => p.1.eqv k) = (ks.any fun kv => decide (kv.1 = k'))
  | _, _, .nil => rfl
  | (a, v) :: kvs, (b, x) :: ks, .cons h1 h2 r => by
    simp only [List.any_cons, RK.beq h1 hk, RKs.any hk r]
theorem RKs.append {ρ : Rho} {K : PySem.W.Frag} {H : Hp} {k v : Ir.D} {k' : Key} {x : V} (hk : RK k k') (hv : RD ρ K H v x) : ∀ {kvs : List (Ir.D × Ir.D)} {ks : List (Key × V)}, RKs ρ K H kvs ks → RKs ρ K H (kvs ++ [(k, v)]) (ks ++ [(k', x)])
  | _, _, .nil => .cons hk hv .nil
  | _, _, .cons h1 h2 r => .cons h1 h2 (RKs.append hk hv r)
theorem RKs.put {ρ : Rho} {K : PySem.W.Frag} {H : Hp} {k v : Ir.D} {k' : Key} {x : V} (hk : RK k k') (hv : RD ρ K H v x) {kvs : List (Ir.D × Ir.D)} {ks : List (Key × V)} (r : RKs ρ K H kvs ks) : RKs ρ K H (Ir.putK kvs k v) (putK ks k' x) := by
  unfold Ir.putK putK
  rw [RKs.any hk r]
  split
  · exact RKs.map_put hk hv r
  · exact RKs.append hk hv r
theorem RD.flat {ρ : Rho} {K : PySem.W.Frag} {H : Hp} {d : Ir.D} {v : V} (h : RD ρ K H d v) (k : Ir.flat d = true) : flatV v = true := by
  cases h <;> simp_all [Ir.flat, flatV]
theorem RD.eqV {ρ : Rho} {K : PySem.W.Frag} {H : Hp} {d e : Ir.D} {v u : V} (h : RD ρ K H d v) (k : Ir.flat d = true) (h' : RD ρ K H e u) (k' : Ir.flat e = true) : L2.eqV v u = d.eqv e := by
  cases h <;> cases h' <;> simp_all [Ir.flat, L2.eqV, Ir.D.eqv, ofString_beq]
theorem RDs.inV {ρ : Rho} {K : PySem.W.Frag} {H : Hp} {d : Ir.D} {v : V} (h : RD ρ K H d v) (k : Ir.flat d = true) : ∀ {xs : List Ir.D} {ys : List V}, RDs ρ K H xs ys → xs.all Ir.flat = true → ys.all flatV = true ∧ L2.inV v ys = xs.any fun y => y.eqv d
  | _, _, .nil, _ => ⟨rfl, rfl⟩
  | _, _, .cons a r, hf => by
    simp only [List.all_cons, Bool.and_eq_true] at hf
    obtain ⟨h1, h2⟩ := RDs.inV h k r hf.2
    refine ⟨by simp only [List.all_cons, Bool.and_eq_true]; exact ⟨a.flat hf.1, h1⟩, ?_⟩
    unfold L2.inV at h2 ⊢
    simp only [List.any_cons, a.eqV hf.1 h k, h2]
theorem pe_or {e : Expr} {t t' : TE} (h : PE X e t) (h' : PE X e t') : PE X e (fun σ H Q => t σ H Q ∨ t' σ H Q) := ⟨fun pins s σ H Q I q => by
  rcases q with q | q
  · exact h.run pins s σ H Q I q
  · exact h'.run pins s σ H Q I q⟩
theorem pt_or {e : Expr} {t t' : TT} (h : PT X e t) (h' : PT X e t') : PT X e (fun σ H Q => t σ H Q ∨ t' σ H Q) := ⟨fun pins s σ H Q I q => by
  rcases q with q | q
  · exact h.run pins s σ H Q I q
  · exact h'.run pins s σ H Q I q⟩
theorem any_toPys (d : Ir.D) (hd : d.dep < 1000) : ∀ xs : List Ir.D, Ir.D.depAll xs < 1000 → ((toPys xs).any fun z => PyData.eqv z (toPy d)) = xs.any fun y => y.eqv d
  | [], _ => rfl
  | x :: xs, h => by
    simp only [Ir.D.depAll] at h
    simp only [toPys, List.any_cons, eqv_toPy x d (by omega) hd, any_toPys d hd xs (by omega)]
/-- in a list or a tuple, by values -/
theorem mem_seq {ρ : Rho} {K : PySem.W.Frag} {H : Hp} {d e : Ir.D} {x y : V} {b : Bool} (hd : RD ρ K H d x) (he : VD ρ K H e y) (h : Ir.D.mem d e = some b) :
    (∃ d' ds, Dp K H x d' ∧ Dp K H y (.list ds) ∧ SeqAt.shaped d' = true ∧ SeqAt.shaped (.list ds) = true ∧ (ds.any fun z => PyData.eqv z d') = b) ∨
    ∃ p xs, y = .ref p ∧ (SqL K H p xs ∨ SqT K H p xs) ∧ flatV x = true ∧ xs.all flatV = true ∧ L2.inV x xs = b := by
  cases e <;> simp only [Ir.D.mem, reduceCtorEq] at h
  · rename_i xs
    split at h
    · rename_i hf
      rw [Bool.and_eq_true] at hf
      cases h
      obtain ⟨a, ys, rfl, t, z, r⟩ := RD.tup_inv he
      obtain ⟨h1, h2⟩ := RDs.inV hd hf.1 r hf.2
      exact .inr ⟨a, ys, rfl, .inr t.sq, hd.flat hf.1, h1, h2⟩
    · cases h
  · rename_i xs
    split at h
    · rename_i hf
      rw [Bool.and_eq_true] at hf
      cases h
      have f2 := fine_dep hf.2
      exact .inl ⟨toPy d, toPys xs, hd.dp (fine_dep hf.1), VD.dp f2 he, shaped_toPy hf.1, shaped_toPy hf.2, any_toPys d (fine_dep hf.1) xs (by simp only [Ir.D.dep] at f2; omega)⟩
    · cases h
theorem inB_seq {ρ : Rho} {K : PySem.W.Frag} {H : Hp} {st : Ir.Store} {p q : Ir.Val} {x y : V} {b : Bool} (rs : RS ρ K st H) (rp : RV ρ K H p x) (rq : RV ρ K H q y) (hd : ¬ ∃ n kvs, q = .ref n ∧ st[n]? = some (.dic kvs)) (e : Ir.inB st p q = some b) :
    (∃ d' ds, Dp K H x d' ∧ Dp K H y (.list ds) ∧ SeqAt.shaped d' = true ∧ SeqAt.shaped (.list ds) = true ∧ (ds.any fun z => PyData.eqv z d') = b) ∨
    ∃ p xs, y = .ref p ∧ (SqL K H p xs ∨ SqT K H p xs) ∧ flatV x = true ∧ xs.all flatV = true ∧ L2.inV x xs = b := by
  unfold Ir.inB at e
  split at e
  · rename_i k n
    split at e
    · rename_i kvs hk
      exact absurd ⟨n, kvs, rfl, hk⟩ hd
    · rename_i xs hk
      obtain ⟨a, rfl, h1, ys, h2, h3, h4⟩ := RV.cell rs rq hk (by simp)
      exact mem_seq rp (show VD ρ K H (.lst xs) _ from ⟨a, ys, rfl, h2, h3, h4⟩) e
    · cases e
  · exact mem_seq rp (VD.of rq) e
  · cases e
theorem inB_dic {ρ : Rho} {K : PySem.W.Frag} {H : Hp} {st : Ir.Store} {p q : Ir.Val} {x y : V} {b : Bool} (rs : RS ρ K st H) (rp : RV ρ K H p x) (rq : RV ρ K H q y) (hd : ∃ n kvs, q = .ref n ∧ st[n]? = some (.dic kvs)) (e : Ir.inB st p q = some b) :
    ∃ a o, y = .ref a ∧ DGet H a x o ∧ o.isSome = b := by
  obtain ⟨n, kvs, rfl, hk⟩ := hd
  unfold Ir.inB at e
  split at e
  · rename_i d m e0
    cases e0
    rw [hk] at e
    simp only at e
    split at e
    · rename_i hkey
      cases e
      obtain ⟨a, rfl, h1, ks, h2, h3, h4⟩ := RV.cell rs rq hk (by simp)
      obtain ⟨k', hk1, rfl⟩ := RK.kv rp hkey
      refine ⟨a, _, rfl, .k h2, ?_⟩
      rcases RKs.look hk1 h4 with ⟨e1, e2⟩ | ⟨v, z, e1, e2, _⟩
      · rw [e1, e2]; rfl
      · rw [e1, e2]; rfl
    · cases e
  · rename_i e0
    cases e0
  · cases e
theorem units65 {n : Nat} {A : Around} (hr : Room n A) : A.units + 65 < cLine := by have := hr.un; omega
theorem se_in {a b : Expr} {ia ib : Ir.Ex} {pos : Pos} {n : Nat} (hr : Room n X.A) (ha : SE X C a ia) (hb : SE X C b ib) (hm : behindInMarks .In b = false := by first | rfl | with_unfolding_all rfl) : SE X C (.Compare a [.In] [b] pos) (.cmp .isin ia ib) := by
  refine pe_imp (pe_or (pe_cmpR (opR_or (op_inD (units65 hr)) op_in_seq) ha hb hm) (pe_cmp (pc_din (hu_of hr) ha hb) hm)) fun σ H Q ⟨ρ, env, st, v, st', rs, re, ev, k⟩ => ?_
  simp only [Ir.eval] at ev
  obtain ⟨x, s1, e1, ev⟩ := bok ev
  obtain ⟨y, s2, e2, ev⟩ := bok ev
  obtain ⟨r, e3, ev⟩ := ook ev
  cases ev
  have e3 : Ir.inB st' x y = some r := e3
  by_cases hd : ∃ n kvs, y = .ref n ∧ st'[n]? = some (.dic kvs)
  · refine .inr (tI_two rs re e1 e2 fun ρ' H' X Y x1 rs1 rx ry => ?_)
    obtain ⟨a, o, h1, h2, h3⟩ := inB_dic rs1 rx ry hd e3
    exact ⟨a, o, h1, h2, by rw [h3]; exact k ρ' H' _ x1 rs1 (.bool r)⟩
  · refine .inl (tI_two rs re e1 e2 fun ρ' H' X Y x1 rs1 rx ry => ?_)
    have kk := k ρ' H' _ x1 rs1 (.bool r)
    rcases inB_seq rs1 rx ry hd e3 with ⟨d, ds, h1, h2, h3, h4, h5⟩ | ⟨p, xs, h1, h2, h3, h4, h5⟩
    · exact .inl ⟨d, ds, h1, h2, h3, h4, by rw [h5]; exact kk⟩
    · exact .inr ⟨p, xs, h1, h2, h3, h4, by simp only [Bool.false_eq_true, if_false, h5]; exact kk⟩
theorem se_notin {a b : Expr} {ia ib : Ir.Ex} {pos : Pos} {n : Nat} (hr : Room n X.A) (ha : SE X C a ia) (hb : SE X C b ib) (hm : behindInMarks .NotIn b = false := by first | rfl | with_unfolding_all rfl) : SE X C (.Compare a [.NotIn] [b] pos) (.cmp .notin ia ib) := by
  refine pe_imp (pe_or (pe_cmpR (opR_or (op_notInD (units65 hr)) op_notIn_seq) ha hb hm) (pe_cmp (pc_dnotin (hu_of hr) ha hb) hm)) fun σ H Q ⟨ρ, env, st, v, st', rs, re, ev, k⟩ => ?_
  simp only [Ir.eval] at ev
  obtain ⟨x, s1, e1, ev⟩ := bok ev
  obtain ⟨y, s2, e2, ev⟩ := bok ev
  obtain ⟨r, e3, ev⟩ := ook ev
  cases ev
  have e3 : (Ir.inB st' x y).map (!·) = some r := e3
  simp only [Option.map_eq_some_iff] at e3
  obtain ⟨c, e4, rfl⟩ := e3
  by_cases hd : ∃ n kvs, y = .ref n ∧ st'[n]? = some (.dic kvs)
  · refine .inr (tI_two rs re e1 e2 fun ρ' H' X Y x1 rs1 rx ry => ?_)
    obtain ⟨a, o, h1, h2, h3⟩ := inB_dic rs1 rx ry hd e4
    exact ⟨a, o, h1, h2, by rw [h3]; exact k ρ' H' _ x1 rs1 (.bool _)⟩
  · refine .inl (tI_two rs re e1 e2 fun ρ' H' X Y x1 rs1 rx ry => ?_)
    have kk := k ρ' H' _ x1 rs1 (.bool _)
    rcases inB_seq rs1 rx ry hd e4 with ⟨d, ds, h1, h2, h3, h4, h5⟩ | ⟨p, xs, h1, h2, h3, h4, h5⟩
    · exact .inl ⟨d, ds, h1, h2, h3, h4, by rw [h5]; exact kk⟩
    · exact .inr ⟨p, xs, h1, h2, h3, h4, by simp only [if_true, h5]; exact kk⟩
/-- a comparison, as a test -/
theorem st_in {a b : Expr} {ia ib : Ir.Ex} {pos : Pos} {n : Nat} (hr : Room n X.A) (ha : SE X C a ia) (hb : SE X C b ib) (hm : behindInMarks .In b = false := by first | rfl | with_unfolding_all rfl) : ST X C (.Compare a [.In] [b] pos) (.cmp .isin ia ib) := by
  refine pt_imp (pt_or (pt_cmpR (opR_or (op_inD (units65 hr)) op_in_seq) ha hb hm) (pt_cmp (pc_din (hu_of hr) ha hb) hm)) fun σ H Q ⟨ρ, env, st, v, st', rs, re, ev, k⟩ => ?_
  simp only [Ir.eval] at ev
  obtain ⟨x, s1, e1, ev⟩ := bok ev
  obtain ⟨y, s2, e2, ev⟩ := bok ev
  obtain ⟨r, e3, ev⟩ := ook ev
  cases ev
  have e3 : Ir.inB st' x y = some v := e3
  by_cases hd : ∃ n kvs, y = .ref n ∧ st'[n]? = some (.dic kvs)
  · refine .inr (tI_two rs re e1 e2 fun ρ' H' X Y x1 rs1 rx ry => ?_)
    obtain ⟨a, o, h1, h2, h3⟩ := inB_dic rs1 rx ry hd e3
    exact ⟨a, o, h1, h2, _, rfl, by rw [h3]; exact k ρ' H' x1 rs1⟩
  · refine .inl (tI_two rs re e1 e2 fun ρ' H' X Y x1 rs1 rx ry => ?_)
    have kk := k ρ' H' x1 rs1
    rcases inB_seq rs1 rx ry hd e3 with ⟨d, ds, h1, h2, h3, h4, h5⟩ | ⟨p, xs, h1, h2, h3, h4, h5⟩
    · exact .inl ⟨d, ds, h1, h2, h3, h4, _, rfl, by rw [h5]; exact kk⟩
    · exact .inr ⟨p, xs, h1, h2, h3, h4, _, rfl, by simp only [Bool.false_eq_true, if_false, h5]; exact kk⟩
theorem st_notin {a b : Expr} {ia ib : Ir.Ex} {pos : Pos} {n : Nat} (hr : Room n X.A) (ha : SE X C a ia) (hb : SE X C b ib) (hm : behindInMarks .NotIn b = false := by first | rfl | with_unfolding_all rfl) : ST X C (.Compare a [.NotIn] [b] pos) (.cmp .notin ia ib) := by
  refine pt_imp (pt_or (pt_cmpR (opR_or (op_notInD (units65 hr)) op_notIn_seq) ha hb hm) (pt_cmp (pc_dnotin (hu_of hr) ha hb) hm)) fun σ H Q ⟨ρ, env, st, v, st', rs, re, ev, k⟩ => ?_
  simp only [Ir.eval] at ev
  obtain ⟨x, s1, e1, ev⟩ := bok ev
  obtain ⟨y, s2, e2, ev⟩ := bok ev
  obtain ⟨r, e3, ev⟩ := ook ev
  cases ev
  have e3 : (Ir.inB st' x y).map (!·) = some v := e3
  simp only [Option.map_eq_some_iff] at e3
  obtain ⟨c, e4, rfl⟩ := e3
  by_cases hd : ∃ n kvs, y = .ref n ∧ st'[n]? = some (.dic kvs)
  · refine .inr (tI_two rs re e1 e2 fun ρ' H' X Y x1 rs1 rx ry => ?_)
    obtain ⟨a, o, h1, h2, h3⟩ := inB_dic rs1 rx ry hd e4
    exact ⟨a, o, h1, h2, _, rfl, by rw [h3]; exact k ρ' H' x1 rs1⟩
  · refine .inl (tI_two rs re e1 e2 fun ρ' H' X Y x1 rs1 rx ry => ?_)
    have kk := k ρ' H' x1 rs1
    rcases inB_seq rs1 rx ry hd e4 with ⟨d, ds, h1, h2, h3, h4, h5⟩ | ⟨p, xs, h1, h2, h3, h4, h5⟩
    · exact .inl ⟨d, ds, h1, h2, h3, h4, _, rfl, by rw [h5]; exact kk⟩
    · exact .inr ⟨p, xs, h1, h2, h3, h4, _, rfl, by simp only [if_true, h5]; exact kk⟩
end Snd

namespace Snd
open PySem PySem.Spec PyProof.Rows L2
variable {X : Cx} {C : Ir.Calls}
theorem asB_ok {v : Ir.Val} {b : Bool} (h : Ir.asB v = some b) : v = .d (.bool b) := by
  cases v with
  | ref n => simp [Ir.asB] at h
  | d y => cases y <;> simp [Ir.asB] at h; subst h; rfl
theorem asI_ok {v : Ir.Val} {b : Int} (h : Ir.asI v = some b) : v = .d (.int b) := by
  cases v with
  | ref n => simp [Ir.asI] at h
  | d y => cases y <;> simp [Ir.asI] at h; subst h; rfl
theorem asD_ok {v : Ir.Val} {x : Ir.D} (h : Ir.asD v = some x) : v = .d x := by
  cases v with
  | ref n => simp [Ir.asD] at h
  | d y => simp [Ir.asD] at h; subst h; rfl
/-! ### and, or, not, if -/
section
variable {a b c : Expr} {rest : List Expr} {ia ib ic : Ir.Ex} {pos : Pos}
theorem se_one {op} (h : SE X C a ia) : SE X C (.BoolOp op [a] pos) ia := pe_one h
theorem se_and (ha : SE X C a ia) (hb : SE X C (.BoolOp .And (b :: rest) pos) ib) : SE X C (.BoolOp .And (a :: b :: rest) pos) (.and ia ib) := by
  refine pe_imp (pe_and ha hb) fun σ H Q ⟨ρ, env, st, v, st', rs, re, ev, k⟩ => ?_
  simp only [Ir.eval] at ev
  obtain ⟨x, s1, e1, ev⟩ := bok ev
  obtain ⟨c, e2, ev⟩ := ook ev
  obtain rfl := asB_ok e2
  refine ⟨ρ, env, st, _, s1, rs, re, e1, fun ρ1 H1 X1 x1 rs1 rx => ⟨c, RD.bool_inv rx, ?_⟩⟩
  cases c with
  | true =>
    simp only [if_true] at ev ⊢
    exact ⟨ρ1, env, s1, v, st', rs1, re.mono x1, ev, fun ρ2 H2 Y x2 rs2 ry => k ρ2 H2 Y (x1.trans x2) rs2 ry⟩
  | false =>
    simp only [Bool.false_eq_true, if_false] at ev ⊢
    cases ev
    exact k ρ1 H1 _ x1 rs1 (.bool false)
theorem se_or (ha : SE X C a ia) (hb : SE X C (.BoolOp .Or (b :: rest) pos) ib) : SE X C (.BoolOp .Or (a :: b :: rest) pos) (.or ia ib) := by
  refine pe_imp (L2.pe_or ha hb) fun σ H Q ⟨ρ, env, st, v, st', rs, re, ev, k⟩ => ?_
  simp only [Ir.eval] at ev
  obtain ⟨x, s1, e1, ev⟩ := bok ev
  obtain ⟨c, e2, ev⟩ := ook ev
  obtain rfl := asB_ok e2
  refine ⟨ρ, env, st, _, s1, rs, re, e1, fun ρ1 H1 X1 x1 rs1 rx => ⟨c, RD.bool_inv rx, ?_⟩⟩
  cases c with
  | false =>
    simp only [Bool.false_eq_true, if_false] at ev ⊢
    exact ⟨ρ1, env, s1, v, st', rs1, re.mono x1, ev, fun ρ2 H2 Y x2 rs2 ry => k ρ2 H2 Y (x1.trans x2) rs2 ry⟩
  | true =>
    simp only [if_true] at ev ⊢
    cases ev
    exact k ρ1 H1 _ x1 rs1 (.bool true)
theorem se_not (ha : SE X C a ia) : SE X C (.UnaryOp .Not a pos) (.not ia) := by
  refine pe_imp (pe_not ha) fun σ H Q ⟨ρ, env, st, v, st', rs, re, ev, k⟩ => ?_
  simp only [Ir.eval] at ev
  obtain ⟨x, s1, e1, ev⟩ := bok ev
  obtain ⟨c, e2, ev⟩ := ook ev
  obtain rfl := asB_ok e2
  cases ev
  exact ⟨ρ, env, st, _, _, rs, re, e1, fun ρ1 H1 X1 x1 rs1 rx => ⟨c, RD.bool_inv rx, k ρ1 H1 _ x1 rs1 (.bool _)⟩⟩
theorem sw_and1 (ha : ST X C a ia) : SW X C (.BoolOp .And [a] pos) ia := pw_and1 ha
theorem sw_or1 (ha : ST X C a ia) : SW X C (.BoolOp .Or [a] pos) ia := pw_or1 ha
theorem sw_and (ha : ST X C a ia) (hb : SW X C (.BoolOp .And (b :: rest) pos) ib) : SW X C (.BoolOp .And (a :: b :: rest) pos) (.and ia ib) := by
  refine pw_imp (pw_and ha hb) fun σ H Q ⟨ρ, env, st, v, st', rs, re, ev, k⟩ => ?_
  simp only [Ir.eval] at ev
  obtain ⟨x, s1, e1, ev⟩ := bok ev
  obtain ⟨c, e2, ev⟩ := ook ev
  obtain rfl := asB_ok e2
  refine ⟨ρ, env, st, _, s1, rs, re, e1, fun ρ1 H1 x1 rs1 => ?_⟩
  cases c with
  | true =>
    simp only [if_true] at ev ⊢
    exact ⟨ρ1, env, s1, v, st', rs1, re.mono x1, ev, fun ρ2 H2 x2 rs2 => k ρ2 H2 (x1.trans x2) rs2⟩
  | false =>
    simp only [Bool.false_eq_true, if_false] at ev ⊢
    cases ev
    exact k ρ1 H1 x1 rs1
theorem sw_or (ha : ST X C a ia) (hb : SW X C (.BoolOp .Or (b :: rest) pos) ib) : SW X C (.BoolOp .Or (a :: b :: rest) pos) (.or ia ib) := by
  refine pw_imp (pw_or ha hb) fun σ H Q ⟨ρ, env, st, v, st', rs, re, ev, k⟩ => ?_
  simp only [Ir.eval] at ev
  obtain ⟨x, s1, e1, ev⟩ := bok ev
  obtain ⟨c, e2, ev⟩ := ook ev
  obtain rfl := asB_ok e2
  refine ⟨ρ, env, st, _, s1, rs, re, e1, fun ρ1 H1 x1 rs1 => ?_⟩
  cases c with
  | false =>
    simp only [Bool.false_eq_true, if_false] at ev ⊢
    exact ⟨ρ1, env, s1, v, st', rs1, re.mono x1, ev, fun ρ2 H2 x2 rs2 => k ρ2 H2 (x1.trans x2) rs2⟩
  | true =>
    simp only [if_true] at ev ⊢
    cases ev
    exact k ρ1 H1 x1 rs1
theorem st_w {e : Expr} {i : Ir.Ex} (h : SW X C e i) : ST X C e i := h.pt
theorem st_not (ha : ST X C a ia) : ST X C (.UnaryOp .Not a pos) (.not ia) := by
  refine pt_imp (pt_not ha) fun σ H Q ⟨ρ, env, st, v, st', rs, re, ev, k⟩ => ?_
  simp only [Ir.eval] at ev
  obtain ⟨x, s1, e1, ev⟩ := bok ev
  obtain ⟨c, e2, ev⟩ := ook ev
  obtain rfl := asB_ok e2
  cases ev
  exact ⟨ρ, env, st, _, _, rs, re, e1, fun ρ1 H1 x1 rs1 => k ρ1 H1 x1 rs1⟩
theorem se_ite (hc : ST X C c ic) (ha : SE X C a ia) (hb : SE X C b ib) : SE X C (.IfExp c a b pos) (.ite ic ia ib) := by
  refine pe_imp (pe_ifExp hc ha hb) fun σ H Q ⟨ρ, env, st, v, st', rs, re, ev, k⟩ => ?_
  simp only [Ir.eval] at ev
  obtain ⟨x, s1, e1, ev⟩ := bok ev
  obtain ⟨c, e2, ev⟩ := ook ev
  obtain rfl := asB_ok e2
  refine ⟨ρ, env, st, c, s1, rs, re, e1, fun ρ1 H1 x1 rs1 => ?_⟩
  cases c with
  | false =>
    simp only [Bool.false_eq_true, if_false] at ev ⊢
    exact ⟨ρ1, env, s1, v, st', rs1, re.mono x1, ev, fun ρ2 H2 Y x2 rs2 ry => k ρ2 H2 Y (x1.trans x2) rs2 ry⟩
  | true =>
    simp only [if_true] at ev ⊢
    exact ⟨ρ1, env, s1, v, st', rs1, re.mono x1, ev, fun ρ2 H2 Y x2 rs2 ry => k ρ2 H2 Y (x1.trans x2) rs2 ry⟩
theorem se_chain {op op' : CmpOp} {o o' : Ir.Cmp} (ho : OpR X (compareOp op) (rCmp X.K o)) (ho' : OpR X (compareOp op') (rCmp X.K o')) (ha : SE X C a ia) (hb : SE X C b ib) (hc : SE X C c ic) (hm : lastMarks [op, op'] [b, c] = false := by with_unfolding_all rfl) : SE X C (.Compare a [op, op'] [b, c] pos) (.chain o o' ia ib ic) := by
  refine pe_imp (pe_chain ho ho' ha hb hc hm) fun σ H Q ⟨ρ, env, st, v, st', rs, re, ev, k⟩ => ?_
  simp only [Ir.eval] at ev
  obtain ⟨x, s1, e1, ev⟩ := bok ev
  obtain ⟨y, s2, e2, ev⟩ := bok ev
  obtain ⟨r, e3, ev⟩ := ook ev
  refine tI_two rs re e1 e2 fun ρ1 H1 X Y x1 rs1 rx ry => ⟨ρ1, _, x, y, r, rs1, rx, ry, e3, r, rfl, ?_⟩
  cases r with
  | false =>
    simp only [Bool.false_eq_true, if_false] at ev ⊢
    cases ev
    exact k ρ1 H1 _ x1 rs1 (.bool false)
  | true =>
    simp only [if_true] at ev ⊢
    obtain ⟨z, s3, e4, ev⟩ := bok ev
    obtain ⟨q, e5, ev⟩ := ook ev
    cases ev
    exact ⟨ρ1, env, s2, z, _, rs1, re.mono x1, e4, fun ρ2 H2 Z x2 rs2 rz => ⟨ρ2, _, y, z, q, rs2, ry.mono x2, rz, e5, k ρ2 H2 _ (x1.trans x2) rs2 (.bool q)⟩⟩
theorem st_chain {op op' : CmpOp} {o o' : Ir.Cmp} (ho : OpR X (compareOp op) (rCmp X.K o)) (ho' : OpR X (compareOp op') (rCmp X.K o')) (ha : SE X C a ia) (hb : SE X C b ib) (hc : SE X C c ic) (hm : lastMarks [op, op'] [b, c] = false := by with_unfolding_all rfl) : ST X C (.Compare a [op, op'] [b, c] pos) (.chain o o' ia ib ic) := by
  refine pt_imp (pt_chain ho ho' ha hb hc hm) fun σ H Q ⟨ρ, env, st, v, st', rs, re, ev, k⟩ => ?_
  simp only [Ir.eval] at ev
  obtain ⟨x, s1, e1, ev⟩ := bok ev
  obtain ⟨y, s2, e2, ev⟩ := bok ev
  obtain ⟨r, e3, ev⟩ := ook ev
  refine tI_two rs re e1 e2 fun ρ1 H1 X Y x1 rs1 rx ry => ⟨ρ1, _, x, y, r, rs1, rx, ry, e3, r, rfl, ?_⟩
  cases r with
  | false =>
    simp only [Bool.false_eq_true, if_false] at ev ⊢
    cases ev
    exact ⟨_, rfl, k ρ1 H1 x1 rs1⟩
  | true =>
    simp only [if_true] at ev ⊢
    obtain ⟨z, s3, e4, ev⟩ := bok ev
    obtain ⟨q, e5, ev⟩ := ook ev
    cases ev
    exact ⟨ρ1, env, s2, z, _, rs1, re.mono x1, e4, fun ρ2 H2 Z x2 rs2 rz => ⟨ρ2, _, y, z, _, rs2, ry.mono x2, rz, e5, _, rfl, k ρ2 H2 (x1.trans x2) rs2⟩⟩
end
/-! ### subscripts -/
theorem atI_rel {ρ : Rho} {K : PySem.W.Frag} {H : Hp} {xs : List Ir.D} {ys : List V} {i : Int} {d : Ir.D} (r : RDs ρ K H xs ys) (h : Ir.atI xs i = some d) : ∃ v, L2.atI ys i = some v ∧ RD ρ K H d v := by
  unfold Ir.atI at h
  unfold L2.atI
  have e : Ir.ixN xs.length i = L2.ixN ys.length i := by rw [r.length]; rfl
  rw [← e]
  cases q : Ir.ixN xs.length i with
  | none => rw [q] at h; cases h
  | some j =>
    rw [q] at h
    exact r.get h
theorem ofString_cps (z : String) : (Str.ofString z).cps.toList = z.toList.map Char.toNat := by
  rw [Str.ofString_eq_toList]
theorem ofString_sgn (c : Char) : (⟨#[c.toNat]⟩ : Str) = Str.ofString (String.singleton c) := by
  rw [Str.ofString_eq_toList]; simp
theorem atI_str {z : String} {i : Int} {c : Char} (h : Ir.atI z.toList i = some c) : L2.atI (Str.ofString z).cps.toList i = some c.toNat := by
  unfold Ir.atI at h
  unfold L2.atI
  rw [ofString_cps]
  have e : Ir.ixN z.toList.length i = L2.ixN (z.toList.map Char.toNat).length i := by rw [List.length_map]; rfl
  rw [← e]
  cases q : Ir.ixN z.toList.length i with
  | none => rw [q] at h; cases h
  | some j =>
    rw [q] at h
    have h : z.toList[j]? = some c := h
    show (z.toList.map Char.toNat)[j]? = _
    rw [List.getElem?_map, h]; rfl
theorem index_ok {ρ : Rho} {K : PySem.W.Frag} {H : Hp} {d k r : Ir.D} {x y : V} {Q : VK} (hd : VD ρ K H d x) (hk : RD ρ K H k y) (h : d.index k = some r) (q : ∀ z, RD ρ K H r z → Q z H) : rIx K x y H Q := by
  cases d <;> cases k <;> simp only [Ir.D.index, reduceCtorEq] at h
  · rename_i z i
    split at h
    · rename_i hl
      obtain ⟨c, h1, rfl⟩ := Option.map_eq_some_iff.mp h
      exact .inr (.inr ⟨_, i, c.toNat, RD.str_inv hd, RD.int_inv hk, by rw [ofString_len, ← lim_eq]; exact hl, atI_str h1, by rw [ofString_sgn]; exact q _ (.str _)⟩)
    · cases h
  · obtain ⟨a, ys, rfl, t, z, rr⟩ := RD.tup_inv hd
    obtain ⟨v, h1, h2⟩ := atI_rel rr h
    exact .inr (.inl ⟨a, ys, _, v, rfl, RD.int_inv hk, t.sq, h1, q v h2⟩)
  · obtain ⟨a, ys, rfl, t, z, rr⟩ := hd
    obtain ⟨v, h1, h2⟩ := atI_rel rr h
    exact .inl ⟨a, ys, _, v, rfl, RD.int_inv hk, SqL.of t, h1, q v h2⟩
  · obtain ⟨a, ys, rfl, t, z, rr⟩ := RD.ro_inv hd
    obtain ⟨v, h1, h2⟩ := atI_rel rr h
    exact .inl ⟨a, ys, _, v, rfl, RD.int_inv hk, t.sq, h1, q v h2⟩
theorem se_idx {a b : Expr} {ia ib : Ir.Ex} {pos : Pos} {n : Nat} (hr : Room n X.A) (ha : SE X C a ia) (hb : SE X C b ib) (hs : PlainIx b := by exact fun _ _ => rfl) : SE X C (.Subscript a b pos) (.idx ia ib) := by
  refine pe_imp (pe_or (pe_ix ix_seq ha hb hs) (pe_dget (hu_of hr) ha hb hs)) fun σ H Q ⟨ρ, env, st, v, st', rs, re, ev, k⟩ => ?_
  simp only [Ir.eval] at ev
  obtain ⟨x, s1, e1, ev⟩ := bok ev
  obtain ⟨y, s2, e2, ev⟩ := bok ev
  obtain ⟨r, e3, ev⟩ := ook ev
  cases ev
  by_cases hd : ∃ n kvs, x = .ref n ∧ st'[n]? = some (.dic kvs)
  · refine .inr (tI_two rs re e1 e2 fun ρ1 H1 X Y x1 rs1 rx ry => ?_)
    obtain ⟨n, kvs, rfl, hk⟩ := hd
    cases y with
    | ref m => simp [Ir.indexV] at e3
    | d key =>
      simp only [Ir.indexV, hk] at e3
      split at e3
      · rename_i hkey
        obtain ⟨a, rfl, h1, ks, h2, h3, h4⟩ := RV.cell rs1 rx hk (by simp)
        obtain ⟨k', hk1, rfl⟩ := RK.kv ry hkey
        rcases RKs.look hk1 h4 with ⟨z1, z2⟩ | ⟨w, z, z1, z2, z3⟩
        · rw [z1] at e3; cases e3
        · rw [z1] at e3; cases e3
          exact ⟨a, z, rfl, by rw [← z2]; exact .k h2, k ρ1 H1 z x1 rs1 z3⟩
      · cases e3
  · refine .inl (tI_two rs re e1 e2 fun ρ1 H1 X Y x1 rs1 rx ry => ?_)
    cases y with
    | ref m => cases x <;> simp [Ir.indexV] at e3
    | d key =>
      cases x with
      | d w =>
        simp only [Ir.indexV] at e3
        exact index_ok (VD.of rx) ry e3 fun z hz => k ρ1 H1 z x1 rs1 hz
      | ref n =>
        simp only [Ir.indexV] at e3
        split at e3
        · rename_i xs hx
          obtain ⟨a, rfl, h1, ys, h2, h3, h4⟩ := RV.cell rs1 rx hx (by simp)
          exact index_ok (show VD ρ1 _ H1 (.lst xs) _ from ⟨a, ys, rfl, h2, h3, h4⟩) ry e3 fun z hz => k ρ1 H1 z x1 rs1 hz
        · rename_i kvs hk
          exact absurd ⟨n, kvs, rfl, hk⟩ hd
        · cases e3
theorem so_none : SO X C none none := po_imp po_none fun σ H Q ⟨ρ, env, st, v, st', rs, re, ev, k⟩ => by
  simp only [Ir.evalO] at ev; cases ev; exact k ρ H (.refl _ _) rs
theorem so_some {e : Expr} {i : Ir.Ex} (h : SE X C e i) : SO X C (some e) (some i) := po_imp (po_some h) fun σ H Q ⟨ρ, env, st, v, st', rs, re, ev, k⟩ => by
  simp only [Ir.evalO] at ev
  obtain ⟨x, s1, e1, ev⟩ := bok ev
  obtain ⟨c, e2, ev⟩ := ook ev
  obtain rfl := asI_ok e2
  cases ev
  exact ⟨ρ, env, st, _, _, rs, re, e1, fun ρ1 H1 X1 x1 rs1 rx => ⟨c, RD.int_inv rx, k ρ1 H1 x1 rs1⟩⟩
theorem cut_rel {ρ : Rho} {K : PySem.W.Frag} {H : Hp} {xs : List Ir.D} {ys : List V} {lo hi : Option Int} (r : RDs ρ K H xs ys) : RDs ρ K H (Ir.cut xs lo hi) (cutV ys lo hi) := by
  unfold Ir.cut cutV
  rw [r.length]
  exact (r.drop _).take _
theorem sIx_same (n d : Nat) (o : Option Int) : Ir.sIx n d o = HT.sIx n d o := by cases o <;> rfl
theorem ofString_cut (z : String) (lo hi : Option Int) : cutS (Str.ofString z) lo hi = Str.ofString (String.ofList (Ir.cut z.toList lo hi)) := by
  unfold cutS Ir.cut
  rw [ofString_cps, ofString_len, Str.ofString_eq_toList, sIx_same, sIx_same, String.length_toList]
  simp [List.map_take, List.map_drop]
theorem cut_len (ys : List V) (lo hi : Option Int) (z : ys.length ≤ sizeLine) : (cutV ys lo hi).length ≤ sizeLine := Nat.le_trans (cutV_length ys lo hi) z
theorem slice_ok {ρ : Rho} {K : PySem.W.Frag} {H : Hp} {st : Ir.Store} {d r : Ir.D} {lo hi : Option Int} {x : V} {Q : VK} (rs : RS ρ K st H) (hd : VD ρ K H d x) (h : d.slice lo hi = some r) (q : ∀ H' z, Ext ρ H ρ H' → RS ρ K st H' → RD ρ K H' r z → Q z H') : (rSlL K x lo hi H Q ∨ rSlA K x lo hi H Q) ∨ rSlS x lo hi H Q := by
  cases d <;> simp only [Ir.D.slice, reduceCtorEq] at h
  · split at h
    · rename_i z hl
      cases h
      exact .inr ⟨_, RD.str_inv hd, by rw [ofString_len, ← lim_eq]; exact hl, by rw [ofString_cut]; exact q H _ (.refl _ _) rs (.str _)⟩
    · cases h
  · cases h
    obtain ⟨a, ys, rfl, t, z, rr⟩ := RD.tup_inv hd
    refine .inl (.inr ⟨a, ys, rfl, t.sq, fun hw => ?_, fun _ p hp => ?_⟩)
    · refine q H _ (.refl _ _) rs ?_
      have e : ∀ {α : Type} (l : List α), l.length = ys.length → Ir.cut l lo hi = l := fun l hl => by
        unfold Ir.cut
        rw [hl, sIx_same, sIx_same, hw.1, hw.2, List.drop_zero, Nat.sub_zero, ← hl, List.take_length]
      rw [e _ rr.length]
      exact .tup t z rr
    · exact q _ _ (.grow rs hp _) (rs.grow hp _) (grow_tup rs (cut_rel rr) (cut_len _ _ _ z) hp)
  · cases h
    obtain ⟨a, ys, rfl, t, z, rr⟩ := hd
    exact .inl (.inl ⟨a, ys, rfl, SqL.of t, fun p hp => q _ _ (.grow rs hp _) (rs.grow hp _) (grow_lst rs (cut_rel rr) (cut_len _ _ _ z) hp)⟩)
  · cases h
    obtain ⟨a, ys, rfl, t, z, rr⟩ := RD.ro_inv hd
    exact .inl (.inl ⟨a, ys, rfl, t.sq, fun p hp => q _ _ (.grow rs hp _) (rs.grow hp _) (grow_lst rs (cut_rel rr) (cut_len _ _ _ z) hp)⟩)
theorem se_sli {a : Expr} {lo hi : Option Expr} {ia : Ir.Ex} {il ih : Option Ir.Ex} {pos p2 : Pos} (ha : SE X C a ia) (hl : SO X C lo il) (hh : SO X C hi ih) : SE X C (.Subscript a (.Slice lo hi none p2) pos) (.sli ia il ih) := by
  refine pe_imp (pe_slice (SlR.or (SlR.or sl_list sl_tupA) sl_str) ha hl hh) fun σ H Q ⟨ρ, env, st, v, st', rs, re, ev, k⟩ => ?_
  simp only [Ir.eval] at ev
  obtain ⟨x, s1, e1, ev⟩ := bok ev
  obtain ⟨l, s2, e2, ev⟩ := bok ev
  obtain ⟨h, s3, e3, ev⟩ := bok ev
  obtain ⟨p, e4, ev⟩ := ook ev
  obtain ⟨r, e5, ev⟩ := ook ev
  cases ev
  exact ⟨ρ, env, st, x, s1, rs, re, e1, fun ρ1 H1 X1 x1 rs1 rx => ⟨ρ1, env, s1, l, s2, rs1, re.mono x1, e2, fun ρ2 H2 x2 rs2 => ⟨ρ2, env, s2, h, _, rs2, re.mono (x1.trans x2), e3, fun ρ3 H3 x3 rs3 =>
    slice_ok rs3 (.deref rs3 (rx.mono (x2.trans x3)) e4) e5 fun H' z x4 rs4 rz => k ρ3 H' z (((x1.trans x2).trans x3).trans x4) rs4 rz⟩⟩⟩
/-! ### calls of own defs -/
def spI (T : Ir.Tab) (n : Nat) (K : PySem.W.Frag) (f : String) : Sp := fun vs H Q _ => ∃ ρ st args v st', RS ρ K st H ∧ RVs ρ K H args vs ∧ Ir.callN T n f args st = .ok v st' ∧ ∀ ρ' H' x, Ext ρ H ρ' H' → RS ρ' K st' H' → RV ρ' K H' v x → Q x H'
/-- how a call with keywords binds: a positional arguments, the keywords ks, the parameters' order perm -/
abbrev Kw := String × Nat × List Str × List Nat
def permV {α : Type} (perm : List Nat) (vs : List α) : List α := perm.filterMap fun i => vs[i]?
def KwOk (K : PySem.W.Frag) (fd : FuncData) (ps : List Str) (q : Kw) : Prop := ∀ (s : Shared) (us ws : List Value), K.In s.heap → us.length = q.2.1 → ws.length = q.2.2.1.length → BindsTo s fd ⟨us, q.2.2.1.zip ws⟩ (ps.zip (permV q.2.2.2 (us ++ ws)))
structure FT (T : Ir.Tab) (KW : List Kw) (n : Nat) (P : Program) (w : World) (K : PySem.W.Frag) (mg : Str → Option Value) (base : Heap) : Prop where
  ok : ∀ f fn, T f = some fn → ∃ a fd ps, FnOk P w K mg base CX0 n a fd ps (spI T n K f) ∧ mg (Str.ofString f) = some (.ref a) ∧ PySem.W.keepIn K (.ref a) = true ∧ Binds K fd ps [] ∧ ∀ q ∈ KW, q.1 = f → KwOk K fd ps q
theorem se_call {T : Ir.Tab} {KW : List Kw} {n : Nat} {f : String} {fn : Ir.Fn} {e : Expr} {es : List Expr} {is : List Ir.Ex} {p pos : Pos} (ft : FT T KW n X.prog X.w X.K X.mg X.base) (hT : T f = some fn) (hr : Room n X.A) (hs : SEs X (Ir.callN T n) (e :: es) is) (hg : Gl X (Str.ofString f) := by rfl)
    (hdb : (Str.ofString f == ("__debug__" : Str)) = false := by decide) (he : starEach (e :: es) X.env = (false, eval e X.env) :: starEach es X.env := by rfl) (hpl : (backTo pos (starEach es X.env)).any (·.1) = false := by rfl) :
    SE X (Ir.callN T n) (.Call (.Name (Str.ofString f) p) (e :: es) [] pos) (.call f is) := by
  obtain ⟨a, fd, ps, F, hm, hk, hb, _⟩ := ft.ok f fn hT
  refine pe_imp (pe_call F hr hg hm hk hb .nil pass0 hs hdb he hpl) fun σ H Q ⟨ρ, env, st, v, st', rs, re, ev, k⟩ => ?_
  simp only [Ir.eval] at ev
  obtain ⟨vs, s1, e1, ev⟩ := bok ev
  refine ⟨ρ, env, st, vs, s1, rs, re, e1, fun ρ1 H1 XS x1 rs1 rx => ?_⟩
  show spI T n X.K f (XS ++ []) H1 Q E0
  rw [List.append_nil]
  exact ⟨ρ1, s1, vs, v, st', rs1, rx, ev, fun ρ' H' x x2 rs2 r2 => k ρ' H' x (x1.trans x2) rs2 r2⟩
/-! ### calls with keywords -/
theorem permV_vals {xs : List V} {us : List Value} (h : Vals xs us) : ∀ perm : List Nat, Vals (permV perm xs) (permV perm us)
  | [] => .nil
  | i :: perm => by
    unfold permV
    have ih := permV_vals h perm
    unfold permV at ih
    simp only [List.filterMap_cons]
    cases q : xs[i]? with
    | none => rw [h.none_of q]; exact ih
    | some x =>
      obtain ⟨u, e, r⟩ := h.get q
      rw [e]
      exact .cons r ih
theorem RVs.get {ρ : Rho} {K : PySem.W.Frag} {H : Hp} : ∀ {xs : List Ir.Val} {vs : List V}, RVs ρ K H xs vs → ∀ i : Nat, (xs[i]? = none ∧ vs[i]? = none) ∨ ∃ x v, xs[i]? = some x ∧ vs[i]? = some v ∧ RV ρ K H x v
  | _, _, .nil, i => .inl ⟨by simp, by simp⟩
  | _, _, .cons h _, 0 => .inr ⟨_, _, rfl, rfl, h⟩
  | _, _, .cons _ r, i + 1 => by simpa using RVs.get r i
theorem permV_rvs {ρ : Rho} {K : PySem.W.Frag} {H : Hp} {xs : List Ir.Val} {vs : List V} (h : RVs ρ K H xs vs) : ∀ perm : List Nat, RVs ρ K H (permV perm xs) (permV perm vs)
  | [] => .nil
  | i :: perm => by
    unfold permV
    have ih := permV_rvs h perm
    unfold permV at ih
    simp only [List.filterMap_cons]
    rcases RVs.get h i with ⟨e1, e2⟩ | ⟨x, v, e1, e2, r⟩
    · rw [e1, e2]; exact ih
    · rw [e1, e2]; exact .cons r ih
theorem RVs.append {ρ : Rho} {K : PySem.W.Frag} {H : Hp} : ∀ {xs ys : List Ir.Val} {vs ws : List V}, RVs ρ K H xs vs → RVs ρ K H ys ws → RVs ρ K H (xs ++ ys) (vs ++ ws)
  | _, _, _, _, .nil, s => s
  | _, _, _, _, .cons h r, s => .cons h (RVs.append r s)
theorem evals_append {is js : List Ir.Ex} {env : Ir.Env} : ∀ {st st' : Ir.Store} {vs : List Ir.Val}, Ir.evals C (is ++ js) env st = .ok vs st' → ∃ us ws s1, Ir.evals C is env st = .ok us s1 ∧ Ir.evals C js env s1 = .ok ws st' ∧ vs = us ++ ws := by
  induction is with
  | nil => intro st st' vs h; exact ⟨[], vs, st, by simp [Ir.evals], h, rfl⟩
  | cons i is ih =>
    intro st st' vs h
    simp only [List.cons_append, Ir.evals] at h ⊢
    obtain ⟨v, s1, e1, h1⟩ := bok h
    obtain ⟨vs1, s2, e2, h2⟩ := bok h1
    cases h2
    obtain ⟨us, ws, s3, e3, e4, rfl⟩ := ih e2
    exact ⟨v :: us, ws, s3, by rw [e1]; simp [e3], e4, rfl⟩
abbrev SKs (X : Cx) (C : Ir.Calls) (kws : List Keyword) (is : List Ir.Ex) : Prop := PK X kws (tIs C X.K is)
theorem pk_imp {kws : List Keyword} {t t' : TA} (h : PK X kws t) (w : ∀ σ H Q, t' σ H Q → t σ H Q) : PK X kws t' := ⟨fun p pins s σ H Q I q => h.run p pins s σ H Q I (w σ H Q q)⟩
theorem sks_nil : SKs X C [] [] := pk_imp pk_nil fun σ H Q ⟨ρ, env, st, v, st', rs, re, ev, k⟩ => by
  simp only [Ir.evals] at ev; cases ev; exact k ρ H _ (.refl _ _) rs .nil
theorem sks_cons {nm : Option Str} {e : Expr} {kpos : Pos} {kws : List Keyword} {i : Ir.Ex} {is : List Ir.Ex} (h : SE X C e i) (hs : SKs X C kws is) : SKs X C (⟨nm, e, kpos⟩ :: kws) (i :: is) := by
  refine pk_imp (pk_cons h hs) fun σ H Q ⟨ρ, env, st, v, st', rs, re, ev, k⟩ => ?_
  simp only [Ir.evals] at ev
  obtain ⟨x, s1, e1, ev⟩ := bok ev
  obtain ⟨xs, s2, e2, ev⟩ := bok ev
  cases ev
  exact ⟨ρ, env, st, x, s1, rs, re, e1, fun ρ1 H1 X1 x1 rs1 rx => ⟨ρ1, env, s1, xs, st', rs1, re.mono x1, e2, fun ρ2 H2 XS x2 rs2 rxs => k ρ2 H2 (X1 :: XS) (x1.trans x2) rs2 (.cons (rx.mono x2) rxs)⟩⟩
theorem run_kw {k : Nat} {f : Addr} {fd : FuncData} {ps : List Str} {sp : Sp} {pins : List (Addr × Obj)} {σ : L2.St} {H : Hp} {s : Shared} {Q : VK} {us ws : List Value} {vs zs : List V} {q : Kw} (F : FnOk X.prog X.w X.K X.mg X.base CX0 k f fd ps sp) (hr : Room k X.A) (hb : KwOk X.K fd ps q) (h1 : us.length = q.2.1) (h2 : ws.length = q.2.2.1.length)
    (I : Inv X pins σ H s) (r : Vals vs us) (rz : Vals zs ws) (h : sp (permV q.2.2.2 (vs ++ zs)) H Q E0) : wpAny (model X.prog X.w) X.A (call (.ref f) us (q.2.2.1.zip ws)) (EP X pins σ Q) X.xe s := by
  have r2 := permV_vals (r.append rz) q.2.2.2
  refine wpAny_call (codeAny_mono (F.run X.A X.stack s H ⟨us, q.2.2.1.zip ws⟩ _ _ Q E0 hr I.env0 (hb s us ws I.kIn h1 h2) r2 h) fun r s' hq => ?_)
  cases r with
  | error e => exact (show False from hq).elim
  | ok fl =>
    cases fl with
    | ret u => exact I.after hq
    | next => exact False.elim hq
    | brk => exact False.elim hq
    | cont => exact False.elim hq
theorem kw_end {T : Ir.Tab} {n : Nat} {f : String} {K : PySem.W.Frag} {ρ1 : Rho} {H1 : Hp} {s1 st' : Ir.Store} {vs : List Ir.Val} {XS : List V} {v : Ir.Val} {perm : List Nat} {Q : VK} (rs1 : RS ρ1 K s1 H1) (rx : RVs ρ1 K H1 vs XS) (ev : Ir.callN T n f (permV perm vs) s1 = .ok v st') (k : ∀ ρ' H' x, Ext ρ1 H1 ρ' H' → RS ρ' K st' H' → RV ρ' K H' v x → Q x H') : spI T n K f (permV perm XS) H1 Q E0 :=
  ⟨ρ1, s1, _, v, st', rs1, permV_rvs rx perm, ev, k⟩
theorem se_callK0 {T : Ir.Tab} {KW : List Kw} {n : Nat} {f : String} {fn : Ir.Fn} {ks : List Str} {perm : List Nat} {kws : List Keyword} {is : List Ir.Ex} {p pos : Pos} (ft : FT T KW n X.prog X.w X.K X.mg X.base) (hT : T f = some fn) (hq : (f, 0, ks, perm) ∈ KW) (hr : Room n X.A) (hs : SKs X (Ir.callN T n) kws is) (hl : is.length = ks.length := by rfl) (hg : Gl X (Str.ofString f) := by rfl)
    (hdb : (Str.ofString f == ("__debug__" : Str)) = false := by decide) (hall : (backToKw pos (keywordEach kws X.env)).all (·.1.isSome) = true := by rfl) (hks : (backToKw pos (keywordEach kws X.env)).filterMap (·.1) = ks := by rfl)
    (hpl : ((backTo pos (starEach [] X.env)).any (·.1) || (backToKw pos (keywordEach kws X.env)).any (·.1.isNone)) = false := by rfl) :
    SE X (Ir.callN T n) (.Call (.Name (Str.ofString f) p) [] kws pos) (.callP f is perm) := by
  obtain ⟨a, fd, ps, F, hm, hk, hb, hkw⟩ := ft.ok f fn hT
  refine ⟨fun pins s σ H Q I h => ?_⟩
  obtain ⟨ρ, env, st, v, st', rs, re, ev, k⟩ := h
  simp only [Ir.eval] at ev
  obtain ⟨vs, s1, e1, ev⟩ := bok ev
  refine wpAny_Call_Name_kw (ld_glob I hg hm ?_ hdb)
  refine PySem.W.callWith_KW0 (h₀ := X.base) I.ok.mod.kin hk hall ?_ hpl
  refine thn (hs.run pos pins s σ H (fun zs H2 => zs.length = ks.length ∧ spI T n X.K f (permV perm zs) H2 Q E0) I ⟨ρ, env, st, vs, s1, rs, re, e1, fun ρ1 H1 XS x1 rs1 rx => ⟨?_, kw_end rs1 rx ev fun ρ' H' x x2 rs2 r2 => k ρ' H' x (x1.trans x2) rs2 r2⟩⟩) fun ws s2 ⟨zs, H2, I2, rz, hzl, q2⟩ => ⟨I2.kIn, ?_⟩
  · rw [← rx.length, evals_len _ _ _ _ _ e1, hl]
  · rw [hks]
    exact run_kw (q := (f, 0, ks, perm)) (us := []) (vs := []) F hr (hkw _ hq rfl) rfl (by rw [← rz.length]; exact hzl) I2 .nil rz q2
theorem se_callK {T : Ir.Tab} {KW : List Kw} {n m : Nat} {f : String} {fn : Ir.Fn} {ks : List Str} {perm : List Nat} {e : Expr} {es : List Expr} {kws : List Keyword} {is js : List Ir.Ex} {p pos : Pos} (ft : FT T KW n X.prog X.w X.K X.mg X.base) (hT : T f = some fn) (hq : (f, m, ks, perm) ∈ KW) (hr : Room n X.A) (ha : SEs X (Ir.callN T n) (e :: es) is) (hs : SKs X (Ir.callN T n) kws js) (hl0 : is.length = m := by rfl) (hl : js.length = ks.length := by rfl) (hg : Gl X (Str.ofString f) := by rfl)
    (hdb : (Str.ofString f == ("__debug__" : Str)) = false := by decide) (hall : (backToKw pos (keywordEach kws X.env)).all (·.1.isSome) = true := by rfl) (hks : (backToKw pos (keywordEach kws X.env)).filterMap (·.1) = ks := by rfl) (he : starEach (e :: es) X.env = (false, eval e X.env) :: starEach es X.env := by rfl)
    (hpl : ((backTo pos (starEach (e :: es) X.env)).any (·.1) || (backToKw pos (keywordEach kws X.env)).any (·.1.isNone)) = false := by rfl) :
    SE X (Ir.callN T n) (.Call (.Name (Str.ofString f) p) (e :: es) kws pos) (.callP f (is ++ js) perm) := by
  obtain ⟨a, fd, ps, F, hm, hk, hb, hkw⟩ := ft.ok f fn hT
  refine ⟨fun pins s σ H Q I h => ?_⟩
  obtain ⟨ρ, env, st, v, st', rs, re, ev, k⟩ := h
  simp only [Ir.eval] at ev
  obtain ⟨vs, s1, e1, ev⟩ := bok ev
  obtain ⟨us, ws, s0, f1, f2, rfl⟩ := evals_append e1
  refine wpAny_Call_Name_kw (ld_glob I hg hm ?_ hdb)
  refine PySem.W.callWith_KW (h₀ := X.base) I.ok.mod.kin hk hall (thn (ha.run pos pins s σ H (fun xs H1 => xs.length = m ∧ tIs (Ir.callN T n) X.K js σ H1 (fun zs H2 => zs.length = ks.length ∧ spI T n X.K f (permV perm (xs ++ zs)) H2 Q E0)) I
    ⟨ρ, env, st, us, s0, rs, re, f1, fun ρ1 H1 XS x1 rs1 rx => ⟨?_, ρ1, env, s0, ws, s1, rs1, re.mono x1, f2, fun ρ2 H2 ZS x2 rs2 rz => ⟨?_, kw_end rs2 ((rx.mono x2).append rz) ev fun ρ' H' x x3 rs3 r3 => k ρ' H' x ((x1.trans x2).trans x3) rs3 r3⟩⟩⟩) fun uv s2 ⟨xs, H1, I1, r1, hxl, q1⟩ => ?_) hpl he
  · rw [← rx.length, evals_len _ _ _ _ _ f1, hl0]
  · rw [← rz.length, evals_len _ _ _ _ _ f2, hl]
  · refine thn (hs.run pos pins s2 σ H1 _ I1 q1) fun wv s3 ⟨zs, H2, I2, rz, hzl, q2⟩ => ⟨I2.kIn, ?_⟩
    rw [hks]
    exact run_kw (q := (f, m, ks, perm)) F hr (hkw _ hq rfl) (show uv.length = m by rw [← r1.length]; exact hxl) (by rw [← rz.length]; exact hzl) I2 r1 rz q2
end Snd

namespace Snd
open PySem PySem.Spec PyProof.Rows L2
variable {X : Cx} {C : Ir.Calls}
/-! ### built-in calls -/
theorem callR_or {f : Value} {r r' : List V → Hp → VK → Prop} (h : CallR X f r) (h' : CallR X f r') : CallR X f (fun xs H Q => r xs H Q ∨ r' xs H Q) := by
  intro pins s σ H xs us Q I r q
  rcases q with q | q
  · exact h pins s σ H xs us Q I r q
  · exact h' pins s σ H xs us Q I r q
theorem callR_imp {f : Value} {r r' : List V → Hp → VK → Prop} (h : CallR X f r) (w : ∀ xs H Q, r' xs H Q → r xs H Q) : CallR X f r' := fun pins s σ H xs us Q I r q => h pins s σ H xs us Q I r (w _ _ _ q)
def rB (K : PySem.W.Frag) (f : Ir.Bi) : List V → Hp → VK → Prop := fun xs H Q => ∃ ρ st vs v st', RS ρ K st H ∧ RVs ρ K H vs xs ∧ Ir.bltV f vs st = .ok v st' ∧ ∀ ρ' H' x, Ext ρ H ρ' H' → RS ρ' K st' H' → RV ρ' K H' v x → Q x H'
inductive VDs (ρ : Rho) (K : PySem.W.Frag) (H : Hp) : List Ir.D → List V → Prop
  | nil : VDs ρ K H [] []
  | cons {x : Ir.D} {xs : List Ir.D} {y : V} {ys : List V} : VD ρ K H x y → VDs ρ K H xs ys → VDs ρ K H (x :: xs) (y :: ys)
theorem VDs.derefs {ρ : Rho} {K : PySem.W.Frag} {H : Hp} {st : Ir.Store} (rs : RS ρ K st H) : ∀ {vs : List Ir.Val} {xs : List V} {ds : List Ir.D}, RVs ρ K H vs xs → Ir.derefs st vs = some ds → VDs ρ K H ds xs
  | [], _, _, .nil, e => by simp [Ir.derefs] at e; subst e; exact .nil
  | v :: vs, _, _, .cons h r, e => by
    simp only [Ir.derefs] at e
    split at e
    · rename_i d ds h1 h2
      cases e
      exact .cons (.deref rs h h1) (VDs.derefs rs r h2)
    · cases e
theorem bltD_inv {f : Ir.Bi} {vs : List Ir.Val} {st st' : Ir.Store} {v : Ir.Val} (h : Ir.bltD f vs st = .ok v st') : st' = st ∧ ∃ ds r, Ir.derefs st vs = some ds ∧ Ir.D.blt f ds = some r ∧ v = .d r := by
  unfold Ir.bltD at h
  split at h
  · rename_i ds hds
    split at h
    · rename_i r hr
      cases h
      exact ⟨rfl, ds, r, hds, hr, rfl⟩
    · cases h
  · cases h
theorem not_len {f : Ir.Bi} (h : f ≠ .len ∧ f ≠ .zip) {vs : List Ir.Val} {st st' : Ir.Store} {v : Ir.Val} (e : Ir.bltV f vs st = .ok v st') : st' = st ∧ ∃ ds r, Ir.derefs st vs = some ds ∧ Ir.D.blt f ds = some r ∧ v = .d r := by
  unfold Ir.bltV at e
  split at e
  · exact absurd rfl h.1
  · exact absurd rfl h.2
  · exact bltD_inv e
theorem zip_inv {vs : List Ir.Val} {st st' : Ir.Store} {v : Ir.Val} (e : Ir.bltV .zip vs st = .ok v st') : st' = st ∧ ∃ ds r, Ir.asDs vs = some ds ∧ Ir.D.bZip ds = some r ∧ v = .d r := by
  have e : (match Ir.asDs vs with | some _ => Ir.bltD .zip vs st | none => Ir.Res.bad) = .ok v st' := e
  split at e
  · rename_i ds hds
    obtain ⟨h1, ds', r, h2, h3, h4⟩ := bltD_inv e
    have : ∀ {vs : List Ir.Val} {ds : List Ir.D}, Ir.asDs vs = some ds → Ir.derefs st vs = some ds := by
      intro vs
      induction vs with
      | nil => intro ds h; simp [Ir.asDs] at h; subst h; rfl
      | cons v vs ih =>
        intro ds h
        cases v with
        | ref _ => simp [Ir.asDs] at h
        | d x =>
          simp only [Ir.asDs, Option.map_eq_some_iff] at h
          obtain ⟨ds, h1, rfl⟩ := h
          simp [Ir.derefs, Ir.deref, ih h1]
    rw [this hds] at h2
    cases h2
    exact ⟨h1, _, r, hds, h3, h4⟩
  · cases e
theorem blt_len : CallR X (.builtin "len") (rB X.K .len) := by
  refine callR_imp (callR_or (callR_or call_len_seq call_lenD) call_len_str) fun xs H Q ⟨ρ, st, vs, v, st', rs, rv, ev, k⟩ => ?_
  have ev : (match Ir.lenDic vs st with | some n => Ir.Res.ok (Ir.Val.d (.int n)) st | none => Ir.bltD .len vs st) = .ok v st' := ev
  split at ev
  · rename_i n hn
    cases ev
    unfold Ir.lenDic at hn
    split at hn
    · rename_i m
      split at hn
      · rename_i kvs hk
        cases hn
        cases rv with
        | cons rv t =>
          cases t
          obtain ⟨a, rfl, _, ks, h2, h3, h4⟩ := RV.cell rs rv hk (by simp)
          refine .inl (.inr ⟨a, ks, rfl, h2, ?_⟩)
          rw [← h4.length]
          exact k ρ H _ (.refl _ _) rs (.int _)
      · cases hn
    · cases hn
  · obtain ⟨rfl, ds, r, h1, h2, rfl⟩ := bltD_inv ev
    have vd := VDs.derefs rs rv h1
    simp only [Ir.D.blt] at h2
    unfold Ir.D.bLen at h2
    split at h2
    · cases h2
      cases vd with
      | cons vd t =>
        cases t
        obtain ⟨a, ys, rfl, t, z, r⟩ := RD.ro_inv vd
        refine .inl (.inl ⟨a, ys, rfl, .inl t.sq, ?_⟩)
        rw [← r.length]
        exact k ρ H _ (.refl _ _) rs (.int _)
    · cases h2
      cases vd with
      | cons vd t =>
        cases t
        obtain ⟨a, ys, rfl, t, z, r⟩ := RD.tup_inv vd
        refine .inl (.inl ⟨a, ys, rfl, .inr t.sq, ?_⟩)
        rw [← r.length]
        exact k ρ H _ (.refl _ _) rs (.int _)
    · cases h2
      cases vd with
      | cons vd t =>
        cases t
        obtain ⟨a, ys, rfl, t, z, r⟩ := vd
        refine .inl (.inl ⟨a, ys, rfl, .inl (SqL.of t), ?_⟩)
        rw [← r.length]
        exact k ρ H _ (.refl _ _) rs (.int _)
    · rename_i z
      split at h2
      · rename_i hl
        cases h2
        cases vd with
        | cons vd t =>
          cases t
          refine .inr ⟨_, by rw [RD.str_inv vd], by rw [ofString_len, ← lim_eq]; exact hl, ?_⟩
          rw [ofString_len]
          exact k ρ H _ (.refl _ _) rs (.int _)
      · cases h2
    · cases h2
theorem blt_abs : CallR X (.builtin "abs") (rB X.K .abs) := by
  refine callR_imp call_abs fun xs H Q ⟨ρ, st, vs, v, st', rs, rv, ev, k⟩ => ?_
  obtain ⟨rfl, ds, r, h1, h2, rfl⟩ := not_len (by decide) ev
  have vd := VDs.derefs rs rv h1
  simp only [Ir.D.blt] at h2
  unfold Ir.D.bAbs at h2
  split at h2
  · cases h2
    cases vd with
    | cons vd t =>
      cases t
      exact ⟨_, by rw [RD.int_inv vd], k ρ H _ (.refl _ _) rs (.int _)⟩
  · cases h2
theorem blt_tuple : CallR X (.type "tuple") (rB X.K .tuple) := by
  refine callR_imp call_tuple_of fun xs H Q ⟨ρ, st, vs, v, st', rs, rv, ev, k⟩ => ?_
  obtain ⟨rfl, ds, r, h1, h2, rfl⟩ := not_len (by decide) ev
  have vd := VDs.derefs rs rv h1
  simp only [Ir.D.blt] at h2
  unfold Ir.D.bTuple at h2
  split at h2
  · cases h2
    cases vd with
    | cons vd t =>
      cases t
      obtain ⟨a, ys, rfl, t, z, r⟩ := RD.tup_inv vd
      exact ⟨a, ys, rfl, .inr ⟨t.sq, k ρ H _ (.refl _ _) rs (RD.tup t z r)⟩⟩
  · cases h2
    cases vd with
    | cons vd t =>
      cases t
      obtain ⟨a, ys, rfl, t, z, r⟩ := vd
      exact ⟨a, ys, rfl, .inl ⟨SqL.of t, fun p hp => k ρ _ _ (.grow rs hp _) (rs.grow hp _) (grow_tup rs r z hp)⟩⟩
  · cases h2
theorem bools_ok {ρ : Rho} {K : PySem.W.Frag} {H : Hp} : ∀ {xs : List Ir.D} {ys : List V} {bs : List Bool}, RDs ρ K H xs ys → Ir.D.bools xs = some bs → ys = bs.map V.bl
  | [], _, _, .nil, e => by simp [Ir.D.bools] at e; subst e; rfl
  | x :: xs, _, _, .cons h r, e => by
    cases x <;> simp [Ir.D.bools] at e
    obtain ⟨bs, e1, rfl⟩ := e
    rw [RD.bool_inv h, bools_ok r e1]; rfl
theorem ints_ok {ρ : Rho} {K : PySem.W.Frag} {H : Hp} : ∀ {xs : List Ir.D} {ys : List V} {bs : List Int}, RDs ρ K H xs ys → Ir.D.ints xs = some bs → ys = bs.map V.int
  | [], _, _, .nil, e => by simp [Ir.D.ints] at e; subst e; rfl
  | x :: xs, _, _, .cons h r, e => by
    cases x <;> simp [Ir.D.ints] at e
    obtain ⟨bs, e1, rfl⟩ := e
    rw [RD.int_inv h, ints_ok r e1]; rfl
theorem blt_all (hc : X.calm = true) : CallR X (.builtin "all") (rB X.K .all) := by
  refine callR_imp (cr_all hc) fun xs H Q ⟨ρ, st, vs, v, st', rs, rv, ev, k⟩ => ?_
  obtain ⟨rfl, ds, r, h1, h2, rfl⟩ := not_len (by decide) ev
  have vd := VDs.derefs rs rv h1
  simp only [Ir.D.blt] at h2
  unfold Ir.D.bAll at h2
  split at h2
  · simp only [Option.map_eq_some_iff] at h2
    obtain ⟨bs, e1, rfl⟩ := h2
    cases vd with
    | cons vd t =>
      cases t
      obtain ⟨a, ys, rfl, t, z, r⟩ := vd
      exact ⟨a, bs, rfl, by rw [← bools_ok r e1]; exact SqL.of t, k ρ H _ (.refl _ _) rs (.bool _)⟩
  · cases h2
theorem blt_any (hc : X.calm = true) : CallR X (.builtin "any") (rB X.K .any) := by
  refine callR_imp (cr_any hc) fun xs H Q ⟨ρ, st, vs, v, st', rs, rv, ev, k⟩ => ?_
  obtain ⟨rfl, ds, r, h1, h2, rfl⟩ := not_len (by decide) ev
  have vd := VDs.derefs rs rv h1
  simp only [Ir.D.blt] at h2
  unfold Ir.D.bAny at h2
  split at h2
  · simp only [Option.map_eq_some_iff] at h2
    obtain ⟨bs, e1, rfl⟩ := h2
    cases vd with
    | cons vd t =>
      cases t
      obtain ⟨a, ys, rfl, t, z, r⟩ := vd
      exact ⟨a, bs, rfl, by rw [← bools_ok r e1]; exact SqL.of t, k ρ H _ (.refl _ _) rs (.bool _)⟩
  · cases h2
theorem blt_sum (hc : X.calm = true) : CallR X (.builtin "sum") (rB X.K .sum) := by
  refine callR_imp (cr_sum hc) fun xs H Q ⟨ρ, st, vs, v, st', rs, rv, ev, k⟩ => ?_
  obtain ⟨rfl, ds, r, h1, h2, rfl⟩ := not_len (by decide) ev
  have vd := VDs.derefs rs rv h1
  simp only [Ir.D.blt] at h2
  unfold Ir.D.bSum at h2
  split at h2
  · simp only [Option.map_eq_some_iff] at h2
    obtain ⟨bs, e1, rfl⟩ := h2
    cases vd with
    | cons vd t =>
      cases t
      obtain ⟨a, ys, rfl, t, z, r⟩ := vd
      exact ⟨a, bs, rfl, by rw [← ints_ok r e1]; exact SqL.of t, k ρ H _ (.refl _ _) rs (.int _)⟩
  · cases h2
theorem blt_min (hc : X.calm = true) : CallR X (.builtin "min") (rB X.K .min) := by
  refine callR_imp (call_min2 hc) fun xs H Q ⟨ρ, st, vs, v, st', rs, rv, ev, k⟩ => ?_
  obtain ⟨rfl, ds, r, h1, h2, rfl⟩ := not_len (by decide) ev
  have vd := VDs.derefs rs rv h1
  simp only [Ir.D.blt] at h2
  unfold Ir.D.bMin at h2
  split at h2
  · cases h2
    cases vd with
    | cons vd t =>
      cases t with
      | cons vd2 t =>
        cases t
        exact ⟨_, _, by rw [RD.int_inv vd, RD.int_inv vd2], k ρ H _ (.refl _ _) rs (.int _)⟩
  · cases h2
theorem blt_max (hc : X.calm = true) : CallR X (.builtin "max") (rB X.K .max) := by
  refine callR_imp (call_max2 hc) fun xs H Q ⟨ρ, st, vs, v, st', rs, rv, ev, k⟩ => ?_
  obtain ⟨rfl, ds, r, h1, h2, rfl⟩ := not_len (by decide) ev
  have vd := VDs.derefs rs rv h1
  simp only [Ir.D.blt] at h2
  unfold Ir.D.bMax at h2
  split at h2
  · cases h2
    cases vd with
    | cons vd t =>
      cases t with
      | cons vd2 t =>
        cases t
        exact ⟨_, _, by rw [RD.int_inv vd, RD.int_inv vd2], k ρ H _ (.refl _ _) rs (.int _)⟩
  · cases h2
theorem se_blt {f : Ir.Bi} {x : String} {e : Expr} {es : List Expr} {is : List Ir.Ex} {p pos : Pos} (hc : CallR X (.builtin x) (rB X.K f)) (hs : SEs X C (e :: es) is) (hm : X.mg (Str.ofString x) = none) (hv : bootBuiltins (Str.ofString x) = some (.builtin x)) (hg : Gl X (Str.ofString x) := by rfl)
    (hn : Str.ofString x ≠ "__name__" := by decide) (hdb : (Str.ofString x == ("__debug__" : Str)) = false := by decide) (he : starEach (e :: es) X.env = (false, eval e X.env) :: starEach es X.env := by rfl) (hpl : (backTo pos (starEach es X.env)).any (·.1) = false := by rfl) :
    SE X C (.Call (.Name (Str.ofString x) p) (e :: es) [] pos) (.blt f is) := by
  refine pe_imp (pe_callB hc hg hm hv hs hn hdb he hpl) fun σ H Q ⟨ρ, env, st, v, st', rs, re, ev, k⟩ => ?_
  simp only [Ir.eval] at ev
  obtain ⟨vs, s1, e1, ev⟩ := bok ev
  exact ⟨ρ, env, st, vs, s1, rs, re, e1, fun ρ1 H1 XS x1 rs1 rx => ⟨ρ1, s1, vs, v, st', rs1, rx, ev, fun ρ' H' x x2 rs2 r2 => k ρ' H' x (x1.trans x2) rs2 r2⟩⟩
theorem se_bltT {f : Ir.Bi} {x : String} {e : Expr} {es : List Expr} {is : List Ir.Ex} {p pos : Pos} (hc : CallR X (.type x) (rB X.K f)) (hs : SEs X C (e :: es) is) (hm : X.mg (Str.ofString x) = none) (hv : bootBuiltins (Str.ofString x) = some (.type x)) (hg : Gl X (Str.ofString x) := by rfl)
    (hn : Str.ofString x ≠ "__name__" := by decide) (hdb : (Str.ofString x == ("__debug__" : Str)) = false := by decide) (he : starEach (e :: es) X.env = (false, eval e X.env) :: starEach es X.env := by rfl) (hpl : (backTo pos (starEach es X.env)).any (·.1) = false := by rfl) :
    SE X C (.Call (.Name (Str.ofString x) p) (e :: es) [] pos) (.blt f is) := by
  refine pe_imp (pe_callTy hc hg hm hv hs hn hdb he hpl) fun σ H Q ⟨ρ, env, st, v, st', rs, re, ev, k⟩ => ?_
  simp only [Ir.eval] at ev
  obtain ⟨vs, s1, e1, ev⟩ := bok ev
  exact ⟨ρ, env, st, vs, s1, rs, re, e1, fun ρ1 H1 XS x1 rs1 rx => ⟨ρ1, s1, vs, v, st', rs1, rx, ev, fun ρ' H' x x2 rs2 r2 => k ρ' H' x (x1.trans x2) rs2 r2⟩⟩
/-- list(x): a new list -/
theorem sn_list {e : Expr} {i : Ir.Ex} {p pos : Pos} (h : SE X C e i) (hm : X.mg (Str.ofString "list") = none) (hv : bootBuiltins (Str.ofString "list") = some (.type "list")) (hg : Gl X (Str.ofString "list") := by rfl)
    (he : starEach [e] X.env = (false, eval e X.env) :: starEach [] X.env := by rfl) (hpl : (backTo pos (starEach [] X.env)).any (·.1) = false := by rfl) :
    SN X C (.Call (.Name (Str.ofString "list") p) [e] [] pos) (.blt .list [i]) := by
  refine pe_imp (pe_callTy call_list_of hg hm hv (pa_cons h pa_nil he) (by decide) (by decide) he hpl) fun σ H Q ⟨ρ, env, st, xs, st', rs, re, ev, k⟩ => ?_
  simp only [Ir.eval, Ir.evals] at ev
  obtain ⟨vs, s1, e1, ev⟩ := bok ev
  obtain ⟨v, s2, e2, e1⟩ := bok e1
  simp only [Ir.Res.bind_ok] at e1
  cases e1
  obtain ⟨rfl, ds, r, h1, h2, h3⟩ := not_len (by decide) ev
  cases h3
  refine ⟨ρ, env, st, v, _, rs, re, e2, fun ρ1 H1 V1 x1 rs1 rv => ?_⟩
  have vd := VDs.derefs rs1 (.cons rv .nil) h1
  simp only [Ir.D.blt] at h2
  unfold Ir.D.bList at h2
  split at h2
  · cases h2
    cases vd with
    | cons vd t =>
      cases t
      obtain ⟨a, ys, rfl, t, z, r⟩ := RD.tup_inv vd
      exact ⟨a, ys, rfl, .inr t.sq, fun l hl => sn_fin x1 rs1 r z hl k⟩
  · cases h2
    cases vd with
    | cons vd t =>
      cases t
      obtain ⟨a, ys, rfl, t, z, r⟩ := vd
      exact ⟨a, ys, rfl, .inl (SqL.of t), fun l hl => sn_fin x1 rs1 r z hl k⟩
  · cases h2
theorem is_list {is : List Ir.Ex} : ∀ env st v st', Ir.eval C (.blt .list is) env st = .ok v st' → ∃ xs, v = .d (.lst xs) := fun env st v st' ev => by
  simp only [Ir.eval] at ev
  obtain ⟨vs, s1, e1, ev⟩ := bok ev
  obtain ⟨_, ds, r, _, h2, rfl⟩ := not_len (by decide) ev
  simp only [Ir.D.blt] at h2
  unfold Ir.D.bList at h2
  split at h2
  · cases h2; exact ⟨_, rfl⟩
  · cases h2; exact ⟨_, rfl⟩
  · cases h2
/-! ### isinstance -/
def dTy : Ir.D → String
  | .non => "NoneType" | .bool _ => "bool" | .int _ => "int" | .str _ => "str" | .tup _ => "tuple" | .lst _ => "list" | .ro _ => "list"
theorem VD.ty {ρ : Rho} {K : PySem.W.Frag} {H : Hp} {d : Ir.D} {x : V} (h : VD ρ K H d x) : TyX K H x (.type (dTy d)) := by
  cases d with
  | non => rw [RD.non_inv h]; exact .base .non
  | bool b => rw [RD.bool_inv h]; exact .base (.bl b)
  | int i => rw [RD.int_inv h]; exact .base (.int i)
  | str s => rw [RD.str_inv h]; exact .base (.str _)
  | tup xs =>
    obtain ⟨a, ys, rfl, t, z, r⟩ := RD.tup_inv h
    rcases t with ⟨t, _⟩ | ⟨o, its, n, h1, h2, _⟩
    · rcases t with t | ⟨o, t⟩
      · exact .base (.tup t)
      · exact .fTuple t
    · exact .kTuple h1 h2
  | lst xs =>
    obtain ⟨a, ys, rfl, t, z, r⟩ := h
    exact .base (.lst t)
  | ro xs =>
    obtain ⟨a, ys, rfl, t, z, r⟩ := RD.ro_inv h
    rcases t with ⟨⟨o, t⟩, _⟩ | ⟨o, its, n, h1, h2, _⟩
    · exact .base (.frz t)
    · exact .kList h1 h2
theorem kit_dTy (d : Ir.D) (c : Ir.Ty) : kitB (dTy d) c.name = some (d.tyOk c) := by
  cases d <;> cases c <;> simp only [dTy, Ir.Ty.name, Ir.D.tyOk] <;> decide +kernel
end Snd

namespace Snd
open PySem PySem.Spec PyProof.Rows L2
variable {X : Cx} {C : Ir.Calls}
/-! ### isinstance -/
abbrev STy (X : Cx) (es : List Expr) (ts : List Ir.Ty) : Prop := PA X es (fun _ H Q => Q (ts.map fun t => V.ty t.name) H)
theorem sty_nil : STy X [] [] := pa_nil
theorem sty_cons {es : List Expr} {ts : List Ir.Ty} {t : Ir.Ty} {p : Pos} (hs : STy X es ts) (hm : X.mg (Str.ofString t.name) = none) (hv : bootBuiltins (Str.ofString t.name) = some (.type t.name)) (hg : Gl X (Str.ofString t.name) := by rfl) (hn : Str.ofString t.name ≠ "__name__" := by decide) (hd : (Str.ofString t.name == ("__debug__" : Str)) = false := by decide)
    (hst : starEach (.Name (Str.ofString t.name) p :: es) X.env = (false, eval (.Name (Str.ofString t.name) p) X.env) :: starEach es X.env := by rfl) : STy X (.Name (Str.ofString t.name) p :: es) (t :: ts) :=
  pa_imp (pa_cons (pe_bltn (v := .ty t.name) hg hm hv rfl hn hd) hs hst) fun σ H Q q => q
theorem kitAny_ok {K : PySem.W.Frag} (d : Ir.D) : ∀ ts : List Ir.Ty, PySem.W.kitAny K (.type (dTy d)) (ts.map fun t => Value.type t.name) = some (ts.any fun t => d.tyOk t)
  | [] => rfl
  | t :: ts => by
    simp only [List.map_cons, List.any_cons]
    refine kitAny_cons (b := d.tyOk t) (kit_ty (kit_dTy d t)) (fun h => ?_) (fun h => ?_)
    · rw [h]; simpa using kitAny_ok d ts
    · rw [h]; rfl
theorem cls_all : ∀ ts : List Ir.Ty, Paired ClsV (ts.map fun t => V.ty t.name) (ts.map fun t => Value.type t.name)
  | [] => .nil
  | t :: ts => .cons (.ty _) (cls_all ts)
theorem se_isiT {e : Expr} {es : List Expr} {i : Ir.Ex} {ts : List Ir.Ty} {p pos p1 : Pos} {k1} (h : SE X C e i) (hs : STy X es ts) (hm : X.mg (Str.ofString "isinstance") = none) (hl : ts.length ≤ sizeLine := by decide) (hg : Gl X (Str.ofString "isinstance") := by rfl)
    (hv : bootBuiltins (Str.ofString "isinstance") = some (.builtin "isinstance") := by decide +kernel)
    (hst : starEach [e, .Tuple es k1 p1] X.env = (false, eval e X.env) :: starEach [.Tuple es k1 p1] X.env := by rfl) (hst2 : starEach [.Tuple es k1 p1] X.env = (false, eval (.Tuple es k1 p1) X.env) :: starEach [] X.env := by rfl) (hpl : (backTo pos (starEach [.Tuple es k1 p1] X.env)).any (·.1) = false := by rfl) :
    SE X C (.Call (.Name (Str.ofString "isinstance") p) [e, .Tuple es k1 p1] [] pos) (.isi i ts) := by
  refine pe_imp (pe_callB call_isiT hg hm hv (pa_cons h (pa_cons (pe_tup hs) pa_nil hst2) hst) (by decide) (by decide) hst hpl) fun σ H Q ⟨ρ, env, st, v, st', rs, re, ev, k⟩ => ?_
  simp only [Ir.eval] at ev
  obtain ⟨x, s1, e1, ev⟩ := bok ev
  obtain ⟨d, e2, ev⟩ := ook ev
  cases ev
  refine ⟨ρ, env, st, x, _, rs, re, e1, fun ρ1 H1 X1 x1 rs1 rx => ⟨by simpa using hl, fun tp hp => ?_⟩⟩
  have x2 : Ext ρ1 H1 ρ1 (upd H1 tp (.tup (ts.map fun t => V.ty t.name))) := .grow rs1 hp _
  have rs2 := rs1.grow hp (.tup (ts.map fun t => V.ty t.name))
  have vd : VD ρ1 X.K _ d X1 := VD.deref rs2 (rx.mono x2) e2
  exact ⟨X1, tp, _, _, _, _, rfl, upd_same, cls_all ts, vd.ty, kitAny_ok d ts, k ρ1 _ _ (x1.trans x2) rs2 (.bool _)⟩
theorem se_isi {e : Expr} {i : Ir.Ex} {t : Ir.Ty} {p pos p1 : Pos} (h : SE X C e i) (hs : STy X [.Name (Str.ofString t.name) p1] [t]) (hm : X.mg (Str.ofString "isinstance") = none) (hg : Gl X (Str.ofString "isinstance") := by rfl)
    (hv : bootBuiltins (Str.ofString "isinstance") = some (.builtin "isinstance") := by decide +kernel)
    (hst : starEach [e, .Name (Str.ofString t.name) p1] X.env = (false, eval e X.env) :: starEach [.Name (Str.ofString t.name) p1] X.env := by rfl) (hpl : (backTo pos (starEach [.Name (Str.ofString t.name) p1] X.env)).any (·.1) = false := by rfl) :
    SE X C (.Call (.Name (Str.ofString "isinstance") p) [e, .Name (Str.ofString t.name) p1] [] pos) (.isi i [t]) := by
  refine pe_imp (pe_callB call_isi hg hm hv (pa_cons h hs hst) (by decide) (by decide) hst hpl) fun σ H Q ⟨ρ, env, st, v, st', rs, re, ev, k⟩ => ?_
  simp only [Ir.eval] at ev
  obtain ⟨x, s1, e1, ev⟩ := bok ev
  obtain ⟨d, e2, ev⟩ := ook ev
  cases ev
  refine ⟨ρ, env, st, x, _, rs, re, e1, fun ρ1 H1 X1 x1 rs1 rx => ?_⟩
  have vd : VD ρ1 X.K _ d X1 := VD.deref rs1 rx e2
  have := k ρ1 _ _ x1 rs1 (.bool _)
  simp only [List.any_cons, List.any_nil, Bool.or_false] at this
  exact ⟨X1, _, _, _, _, rfl, .ty _, vd.ty, kit_ty (kit_dTy d t), this⟩
/-! ### methods -/
theorem mthOk_lst {m : Ir.Mt} {o : Ir.Val} {st : Ir.Store} (hm : m = .append ∨ m = .extend ∨ m = .pop) (h : Ir.mthOk m o st = true) : ∃ n xs, o = .ref n ∧ st[n]? = some (.lst xs) := by
  unfold Ir.mthOk at h
  split at h
  all_goals first
    | (cases h; done)
    | (split at h
       · rename_i n _ xs hx; exact ⟨_, xs, rfl, hx⟩
       · cases h)
    | (rcases hm with hm | hm | hm <;> cases hm)
theorem mthOk_dic {m : Ir.Mt} {o : Ir.Val} {st : Ir.Store} (hm : m = .setdefault ∨ m = .get) (h : Ir.mthOk m o st = true) : ∃ n kvs, o = .ref n ∧ st[n]? = some (.dic kvs) := by
  unfold Ir.mthOk at h
  split at h
  all_goals first
    | (cases h; done)
    | (split at h
       · rename_i n _ xs hx; exact ⟨_, xs, rfl, hx⟩
       · cases h)
    | (rcases hm with hm | hm <;> cases hm)
theorem tyV_lst {ρ : Rho} {K : PySem.W.Frag} {H : Hp} {st : Ir.Store} {n : Nat} {xs : List Ir.D} {x : V} (rs : RS ρ K st H) (r : RV ρ K H (.ref n) x) (h : st[n]? = some (.lst xs)) : tyV K "list" x H := by
  obtain ⟨a, rfl, h1, ys, h2, h3, h4⟩ := RV.cell rs r h (by simp)
  exact .inl ⟨rfl, ys, SqL.of h2⟩
theorem mth_ev {m : Ir.Mt} {io : Ir.Ex} {is : List Ir.Ex} {env : Ir.Env} {st st' : Ir.Store} {v : Ir.Val} (ev : Ir.eval C (.mth m io is) env st = .ok v st') : ∃ x s1 vs s2, Ir.eval C io env st = .ok x s1 ∧ Ir.mthOk m x s1 = true ∧ Ir.evals C is env s1 = .ok vs s2 ∧ Ir.mthV m x vs s2 = .ok v st' := by
  simp only [Ir.eval] at ev
  obtain ⟨x, s1, e1, ev⟩ := bok ev
  split at ev
  · rename_i hk
    obtain ⟨vs, s2, e2, ev⟩ := bok ev
    exact ⟨x, s1, vs, s2, e1, hk, e2, ev⟩
  · cases ev
section
variable {o e : Expr} {io ie : Ir.Ex} {apos cpos : Pos}
theorem se_append (ho : SE X C o io) (he : SE X C e ie) (hbase : attributeBase o (Str.ofString "append") X.env (eval o X.env) = eval o X.env := by rfl)
    (hfew : ((backTo cpos (starEach [e] X.env)).all (fun x => !x.1) && (backToKw cpos (keywordEach [] X.env)).all (fun x => x.1.isSome) && decide (([e] : List Expr).length + ([] : List Keyword).length + (if ([] : List Keyword).isEmpty then 0 else 1) < 30)) = true := by rfl)
    (hline : (apos.endLine == cpos.line) = true := by rfl) (hs : starEach [e] X.env = (false, eval e X.env) :: starEach [] X.env := by rfl) (hpl : (backTo cpos (starEach [] X.env)).any (·.1) = false := by rfl) :
    SE X C (.Call (.Attribute o (Str.ofString "append") apos) [e] [] cpos) (.mth .append io [ie]) := by
  refine pe_imp (pe_bm PySem.F.plainAttrs_list PySem.F.slot_list_append PySem.F.type_list_append mt_append ho (pa_cons he pa_nil hs) hbase hfew hline hs hpl) fun σ H Q ⟨ρ, env, st, v, st', rs, re, ev, k⟩ => ?_
  obtain ⟨x, s1, vs, s2, e1, hk, e2, ev⟩ := mth_ev ev
  obtain ⟨n, ys, rfl, hn⟩ := mthOk_lst (.inl rfl) hk
  simp only [Ir.evals] at e2
  obtain ⟨y, s3, e2, e3⟩ := bok e2
  simp only [Ir.Res.bind_ok] at e3
  cases e3
  refine ⟨ρ, env, st, _, s1, rs, re, e1, fun ρ1 H1 X1 x1 rs1 rx => ⟨tyV_lst rs1 rx hn, ρ1, env, s1, y, _, rs1, re.mono x1, e2, fun ρ2 H2 Y x2 rs2 ry => ?_⟩⟩
  have w0 : Ir.mAppend n s2 [y] = .ok v st' := ev
  clear ev
  unfold Ir.mAppend at w0
  split at w0
  · rename_i d hd
    cases hd
    split at w0
    · rename_i xs hx
      split at w0
      · rename_i hl
        cases w0
        obtain ⟨a, rfl, h1, zs, h2, h3, h4⟩ := RV.cell rs2 (rx.mono x2) hx (by simp)
        have hz : zs.length < sizeLine := by rw [← h4.length, ← lim_eq]; exact hl
        refine ⟨a, zs, Y, rfl, rfl, h2, hz, ?_⟩
        have w : Ext ρ2 H2 ρ2 (upd H2 a (.lst (zs ++ [Y]))) := .write rs2 h1 _
        exact k ρ2 _ _ ((x1.trans x2).trans w) (rs2.write h1 ⟨_, upd_same, by rw [List.length_append]; exact hz, (h4.mono w).append (.cons (ry.mono w) .nil)⟩) .non
      · cases w0
    · cases w0
  · cases w0
theorem se_extend (ho : SE X C o io) (he : SE X C e ie) (hbase : attributeBase o (Str.ofString "extend") X.env (eval o X.env) = eval o X.env := by rfl)
    (hfew : ((backTo cpos (starEach [e] X.env)).all (fun x => !x.1) && (backToKw cpos (keywordEach [] X.env)).all (fun x => x.1.isSome) && decide (([e] : List Expr).length + ([] : List Keyword).length + (if ([] : List Keyword).isEmpty then 0 else 1) < 30)) = true := by rfl)
    (hline : (apos.endLine == cpos.line) = true := by rfl) (hs : starEach [e] X.env = (false, eval e X.env) :: starEach [] X.env := by rfl) (hpl : (backTo cpos (starEach [] X.env)).any (·.1) = false := by rfl) :
    SE X C (.Call (.Attribute o (Str.ofString "extend") apos) [e] [] cpos) (.mth .extend io [ie]) := by
  refine pe_imp (pe_bm PySem.F.plainAttrs_list PySem.F.slot_list_extend PySem.F.type_list_extend mt_extend ho (pa_cons he pa_nil hs) hbase hfew hline hs hpl) fun σ H Q ⟨ρ, env, st, v, st', rs, re, ev, k⟩ => ?_
  obtain ⟨x, s1, vs, s2, e1, hk, e2, ev⟩ := mth_ev ev
  obtain ⟨n, ys, rfl, hn⟩ := mthOk_lst (.inr (.inl rfl)) hk
  simp only [Ir.evals] at e2
  obtain ⟨y, s3, e2, e3⟩ := bok e2
  simp only [Ir.Res.bind_ok] at e3
  cases e3
  refine ⟨ρ, env, st, _, s1, rs, re, e1, fun ρ1 H1 X1 x1 rs1 rx => ⟨tyV_lst rs1 rx hn, ρ1, env, s1, y, _, rs1, re.mono x1, e2, fun ρ2 H2 Y x2 rs2 ry => ?_⟩⟩
  have w0 : Ir.mExtend n s2 [y] = .ok v st' := ev
  clear ev
  unfold Ir.mExtend at w0
  split at w0
  · rename_i d hd
    cases hd
    split at w0
    · rename_i xs hx
      split at w0
      · rename_i hl
        cases w0
        obtain ⟨a, rfl, h1, zs, h2, h3, h4⟩ := RV.cell rs2 (rx.mono x2) hx (by simp)
        obtain ⟨b, ws, rfl, g1, g2, g3⟩ := VD.of ry
        have hz : zs.length + ws.length ≤ sizeLine := by rw [← h4.length, ← g3.length, ← lim_eq]; exact hl
        refine ⟨a, b, zs, ws, rfl, rfl, h2, g1, hz, ?_⟩
        have w : Ext ρ2 H2 ρ2 (upd H2 a (.lst (zs ++ ws))) := .write rs2 h1 _
        exact k ρ2 _ _ ((x1.trans x2).trans w) (rs2.write h1 ⟨_, upd_same, by rw [List.length_append]; exact hz, (h4.mono w).append (g3.mono w)⟩) .non
      · cases w0
    · cases w0
  · cases w0
theorem RDs.dropLast {ρ : Rho} {K : PySem.W.Frag} {H : Hp} {xs : List Ir.D} {ys : List V} (r : RDs ρ K H xs ys) : RDs ρ K H xs.dropLast ys.dropLast := by
  rw [List.dropLast_eq_take, List.dropLast_eq_take, r.length]
  exact r.take _
theorem se_pop (ho : SE X C o io) (hbase : attributeBase o (Str.ofString "pop") X.env (eval o X.env) = eval o X.env := by rfl) (hline : (apos.endLine == cpos.line) = true := by rfl) :
    SE X C (.Call (.Attribute o (Str.ofString "pop") apos) [] [] cpos) (.mth .pop io []) := by
  refine pe_imp (pe_bm0 PySem.F.plainAttrs_list PySem.F.slot_list_pop PySem.F.type_list_pop mt_pop ho hbase hline) fun σ H Q ⟨ρ, env, st, v, st', rs, re, ev, k⟩ => ?_
  obtain ⟨x, s1, vs, s2, e1, hk, e2, ev⟩ := mth_ev ev
  obtain ⟨n, ys, rfl, hn⟩ := mthOk_lst (.inr (.inr rfl)) hk
  simp only [Ir.evals] at e2
  cases e2
  refine ⟨ρ, env, st, _, _, rs, re, e1, fun ρ1 H1 X1 x1 rs1 rx => ⟨tyV_lst rs1 rx hn, ?_⟩⟩
  have w0 : Ir.mPop n s1 [] = .ok v st' := ev
  clear ev
  simp only [Ir.mPop] at w0
  split at w0
  · rename_i xs hx
    split at w0
    · rename_i y hy
      cases w0
      obtain ⟨a, rfl, h1, zs, h2, h3, h4⟩ := RV.cell rs1 rx hx (by simp)
      obtain ⟨w, hw1, hw2⟩ := h4.get hy
      rw [h4.length] at hw1
      refine ⟨a, zs, w, rfl, rfl, h2, hw1, ?_⟩
      have wr : Ext ρ1 H1 ρ1 (upd H1 a (.lst zs.dropLast)) := .write rs1 h1 _
      exact k ρ1 _ _ (x1.trans wr) (rs1.write h1 ⟨_, upd_same, by rw [List.length_dropLast]; omega, h4.dropLast.mono wr⟩) (hw2.mono wr)
    · cases w0
  · cases w0
theorem se_setdefault {f : Expr} {jf : Ir.Ex} (ho : SE X C o io) (he : SE X C e ie) (hf : SE X C f jf) (m : M2 X o (Str.ofString "setdefault") apos e f cpos := by exact ⟨rfl, rfl, rfl, rfl⟩) :
    SE X C (.Call (.Attribute o (Str.ofString "setdefault") apos) [e, f] [] cpos) (.mth .setdefault io [ie, jf]) := by
  refine pe_imp (pe_dsetd ho he hf m) fun σ H Q ⟨ρ, env, st, v, st', rs, re, ev, k⟩ => ?_
  obtain ⟨x, s1, vs, s2, e1, hk, e2, ev⟩ := mth_ev ev
  obtain ⟨n, ys, rfl, hn⟩ := mthOk_dic (.inl rfl) hk
  simp only [Ir.evals] at e2
  obtain ⟨y, s3, f2, e3⟩ := bok e2
  obtain ⟨zs, s4, e3, e4⟩ := bok e3
  obtain ⟨z, s5, f3, e5⟩ := bok e3
  simp only [Ir.Res.bind_ok] at e5
  cases e5
  cases e4
  refine ⟨ρ, env, st, _, s1, rs, re, e1, fun ρ1 H1 X1 x1 rs1 rx => ?_⟩
  obtain ⟨a, rfl, h1, ks, h2, h3, h4⟩ := RV.cell rs1 rx hn (by simp)
  refine ⟨a, rfl, .inl ⟨ks, .inl h2⟩, ρ1, env, s1, y, s3, rs1, re.mono x1, f2, fun ρ2 H2 Y x2 rs2 ry => ⟨ρ2, env, s3, z, _, rs2, re.mono (x1.trans x2), f3, fun ρ3 H3 Z x3 rs3 rz => ?_⟩⟩
  have w0 : Ir.mSetdefault n s2 [y, z] = .ok v st' := ev
  clear ev
  unfold Ir.mSetdefault at w0
  split at w0
  · rename_i kd vd hd
    cases hd
    split at w0
    · rename_i kvs hx
      split at w0
      · rename_i hc
        rw [Bool.and_eq_true] at hc
        obtain ⟨a', e', h1', ks', h2', h3', h4'⟩ := RV.cell rs3 (rx.mono (x2.trans x3)) hx (by simp)
        cases e'
        obtain ⟨k', hk1, rfl⟩ := RK.kv (ry.mono x3) hc.1
        have hlen : ks'.length < sizeLine := by rw [← h4'.length, ← lim_eq]; exact of_decide_eq_true hc.2
        refine ⟨ks', k', h2', rfl, hlen, fun w hw => ?_, fun hw => ?_⟩
        · rcases RKs.look hk1 h4' with ⟨z1, z2⟩ | ⟨u, q, z1, z2, z3⟩
          · rw [hw] at z2; cases z2
          · rw [hw] at z2; cases z2
            rw [z1] at w0
            cases w0
            exact k ρ3 H3 _ ((x1.trans x2).trans x3) rs3 z3
        · rcases RKs.look hk1 h4' with ⟨z1, z2⟩ | ⟨u, q, z1, z2, z3⟩
          · rw [z1] at w0
            cases w0
            have w : Ext ρ3 H3 ρ3 (upd H3 a (.dK (L2.putK ks' k' Z))) := .write rs3 h1' _
            refine k ρ3 _ _ (((x1.trans x2).trans x3).trans w) (rs3.write h1' ⟨_, upd_same, ?_, (h4'.mono w).put hk1 (rz.mono w)⟩) (rz.mono w)
            have := length_putK ks' k' Z
            omega
          · rw [hw] at z2; cases z2
      · cases w0
    · cases w0
  · cases w0
theorem se_get {f : Expr} {jf : Ir.Ex} {n0 : Nat} (hr : Room n0 X.A) (ho : SE X C o io) (he : SE X C e ie) (hf : SE X C f jf) (m : M2 X o (Str.ofString "get") apos e f cpos := by exact ⟨rfl, rfl, rfl, rfl⟩) :
    SE X C (.Call (.Attribute o (Str.ofString "get") apos) [e, f] [] cpos) (.mth .get io [ie, jf]) := by
  refine pe_imp (pe_dget2 (hu_of hr) ho he hf m) fun σ H Q ⟨ρ, env, st, v, st', rs, re, ev, k⟩ => ?_
  obtain ⟨x, s1, vs, s2, e1, hk, e2, ev⟩ := mth_ev ev
  obtain ⟨n, ys, rfl, hn⟩ := mthOk_dic (.inr rfl) hk
  simp only [Ir.evals] at e2
  obtain ⟨y, s3, f2, e3⟩ := bok e2
  obtain ⟨zs, s4, e3, e4⟩ := bok e3
  obtain ⟨z, s5, f3, e5⟩ := bok e3
  simp only [Ir.Res.bind_ok] at e5
  cases e5
  cases e4
  refine ⟨ρ, env, st, _, s1, rs, re, e1, fun ρ1 H1 X1 x1 rs1 rx => ?_⟩
  obtain ⟨a, rfl, h1, ks, h2, h3, h4⟩ := RV.cell rs1 rx hn (by simp)
  refine ⟨a, rfl, .inl ⟨ks, .inl h2⟩, ρ1, env, s1, y, s3, rs1, re.mono x1, f2, fun ρ2 H2 Y x2 rs2 ry => ⟨ρ2, env, s3, z, _, rs2, re.mono (x1.trans x2), f3, fun ρ3 H3 Z x3 rs3 rz => ?_⟩⟩
  have w0 : Ir.mGet n s2 [y, z] = .ok v st' := ev
  clear ev
  unfold Ir.mGet at w0
  split at w0
  · rename_i kd vd hd
    cases hd
    split at w0
    · rename_i kvs hx
      split at w0
      · rename_i hc
        cases w0
        obtain ⟨a', e', h1', ks', h2', h3', h4'⟩ := RV.cell rs3 (rx.mono (x2.trans x3)) hx (by simp)
        cases e'
        obtain ⟨k', hk1, rfl⟩ := RK.kv (ry.mono x3) hc
        refine ⟨_, .k h2', ?_⟩
        rcases RKs.look hk1 h4' with ⟨z1, z2⟩ | ⟨u, q, z1, z2, z3⟩
        · rw [z2]; rw [z1] at k
          exact k ρ3 H3 _ ((x1.trans x2).trans x3) rs3 rz
        · rw [z2]; rw [z1] at k
          exact k ρ3 H3 _ ((x1.trans x2).trans x3) rs3 z3
      · cases w0
    · cases w0
  · cases w0
theorem intBits_same (i : Int) : Ir.intBits i = Builtin.Int.intBits i := by
  unfold Ir.intBits Builtin.Int.intBits
  by_cases h : i = 0
  · subst h; rfl
  · have h1 : ¬ i.natAbs = 0 := by omega
    rw [if_neg h1, if_neg (by simpa using h)]
theorem se_bits (ho : SE X C o io) (hbase : attributeBase o (Str.ofString "bit_length") X.env (eval o X.env) = eval o X.env := by rfl) (hline : (apos.endLine == cpos.line) = true := by rfl) :
    SE X C (.Call (.Attribute o (Str.ofString "bit_length") apos) [] [] cpos) (.mth .bit_length io []) := by
  refine pe_imp (pe_bits ho hbase hline) fun σ H Q ⟨ρ, env, st, v, st', rs, re, ev, k⟩ => ?_
  obtain ⟨x, s1, vs, s2, e1, hk, e2, ev⟩ := mth_ev ev
  simp only [Ir.evals] at e2
  cases e2
  cases x with
  | ref n => cases ev
  | d y =>
    have ev : Ir.mBits s1 y [] = .ok v st' := ev
    cases y <;> simp only [Ir.mBits, reduceCtorEq] at ev
    cases ev
    refine ⟨ρ, env, st, _, _, rs, re, e1, fun ρ1 H1 X1 x1 rs1 rx => ⟨_, RD.int_inv rx, ?_⟩⟩
    rw [← intBits_same]
    exact k ρ1 H1 _ x1 rs1 (.int _)
end
end Snd

namespace Snd
open PySem PySem.Spec PyProof.Rows L2
/-! ### targets -/
section
variable {prog : Program} {w : World} {A : Around} {E : Value → Shared → Prop} {s : Shared}
theorem star_T {l : Addr} {items : Array Value} {n i : Nat} {Q : List Value → Shared → Prop} (hl : IsTup s.heap l items) (hh : A.handled = none) (hi : i < n) (hn : n ≤ items.size + 1) (hz : items.size ≤ sizeLine)
    (h : ∀ (h' : Heap) (tk : Nat), (∀ b o, s.heap.get? b = some o → h'.get? b = some o) → Q (items.toList.take i ++ [.ref h'.objs.size] ++ (items.toList.drop i).drop (items.size + 1 - n)) { s with heap := h'.push { cls := .type "list", data := .seq ((items.toList.drop i).take (items.size + 1 - n)).toArray }, toks := tk }) :
    wpAny (model prog w) A (unpackItems (.ref l) n (some i)) Q E s := by
  have hlt : l ≠ s.heap.objs.size := by obtain ⟨o, ho, _⟩ := hl; exact Nat.ne_of_lt (Heap.lt_size ho)
  unfold unpackItems
  refine wpAny_bind ?_
  unfold notIterableAtAll
  refine wpAny_bind (wpAny_specialOf hl.typeIs slot_tuple_iter.lookup ?_)
  refine wpAny_pure ?_
  simp only [Bool.false_eq_true, if_false]
  refine wpAny_bind (wpAny_holding (iter_tuple hl ?_))
  refine wpAny_bind (wpAny_holding (draw_tuple hlt i 0 _ _ ⟨_, Heap.get?_push_size _ rfl, rfl, rfl⟩ (hl.push _) (by omega) fun h₁ hit₁ hs₁ => ?_))
  have hl₁ : IsTup h₁ l items := (hl.push _).extBut hs₁.extBut hlt
  rw [Nat.zero_add] at hit₁
  have hit₁' := hit₁
  obtain ⟨oi, hoi, _⟩ := hit₁'
  have hl₁' := hl₁
  obtain ⟨ol, hol, _⟩ := hl₁'
  rw [List.drop_zero]
  have hfl : (items.toList.take i).length = i := by rw [List.length_take, Array.length_toList]; omega
  rw [if_neg (show ¬ ((items.toList.take i).length < i) by rw [hfl]; omega)]
  refine wpAny_bind (wpAny_holding (PySem.W.kun_collect (s := { s with heap := h₁ }) (T := "tuple_iterator") (.inr (.inr (.inr rfl))) (Walks.tuple (A := A.in1) hh s.heap.objs.size l hlt items) (fun j u st => st.1.typeIs) (k := i) (by omega) ⟨hit₁, hl₁⟩ (Heap.lt_size hoi) (Heap.lt_size hol) (fun h₂ tk hk => ?_) hz))
  have hrl : (items.toList.drop i).length = items.size - i := by rw [List.length_drop, Array.length_toList]
  have hmid : (items.toList.drop i).length - (n - 1 - i) = items.size + 1 - n := by rw [hrl]; omega
  show wpAny _ _ (if (items.toList.drop i).length < n - 1 - i then _ else _) _ _ _
  rw [if_neg (by rw [hrl]; omega)]
  show wpAny _ _ (newList ((items.toList.drop i).take ((items.toList.drop i).length - (n - 1 - i))) >>= fun d => pure (items.toList.take i ++ [d] ++ (items.toList.drop i).drop ((items.toList.drop i).length - (n - 1 - i)))) _ _ _
  rw [hmid]
  have he : ∀ b o, s.heap.get? b = some o → h₂.get? b = some o := fun b o e => hk b o (Nat.ne_of_lt (Heap.lt_size e)) (hs₁.extBut b o (Nat.ne_of_lt (Heap.lt_size e)) (Heap.get?_push_of_some _ e))
  refine wpAny_bind (wpAny_newObj_type (wpAny_pure (h h₂ tk he)) ?_)
  show (((items.toList.drop i).take (items.size + 1 - n)).toArray).size ≤ sizeLine
  rw [List.size_toArray, List.length_take, hrl]
  omega
theorem star_L {l : Addr} {items : Array Value} {n i : Nat} {Q : List Value → Shared → Prop} (hl : s.heap.IsList l items) (hh : A.handled = none) (hi : i < n) (hn : n ≤ items.size + 1) (hz : items.size ≤ sizeLine)
    (h : ∀ (h' : Heap) (tk : Nat), (∀ b o, s.heap.get? b = some o → h'.get? b = some o) → Q (items.toList.take i ++ [.ref h'.objs.size] ++ (items.toList.drop i).drop (items.size + 1 - n)) { s with heap := h'.push { cls := .type "list", data := .seq ((items.toList.drop i).take (items.size + 1 - n)).toArray }, toks := tk }) :
    wpAny (model prog w) A (unpackItems (.ref l) n (some i)) Q E s := by
  have hlt : l ≠ s.heap.objs.size := by obtain ⟨o, ho, _⟩ := hl; exact Nat.ne_of_lt (Heap.lt_size ho)
  unfold unpackItems
  refine wpAny_bind ?_
  unfold notIterableAtAll
  refine wpAny_bind (wpAny_specialOf hl.typeIs slot_list_iter.lookup ?_)
  refine wpAny_pure ?_
  simp only [Bool.false_eq_true, if_false]
  refine wpAny_bind (wpAny_holding (wpAny_pyIter_list hl ?_))
  refine wpAny_bind (wpAny_holding (PySem.W.kun_draw hlt i 0 _ _ ⟨_, Heap.get?_push_size _ rfl, rfl, rfl⟩ (hl.push _) (by omega) fun h₁ hit₁ hs₁ => ?_))
  have hl₁ : h₁.IsList l items := (hl.push _).extBut hs₁.extBut hlt
  rw [Nat.zero_add] at hit₁
  have hit₁' := hit₁
  obtain ⟨oi, hoi, _⟩ := hit₁'
  have hl₁' := hl₁
  obtain ⟨ol, hol, _⟩ := hl₁'
  rw [List.drop_zero]
  have hfl : (items.toList.take i).length = i := by rw [List.length_take, Array.length_toList]; omega
  rw [if_neg (show ¬ ((items.toList.take i).length < i) by rw [hfl]; omega)]
  refine wpAny_bind (wpAny_holding (PySem.W.kun_collect (s := { s with heap := h₁ }) (T := "list_iterator") (.inr (.inr (.inl rfl))) (Walks.list (A := A.in1) hh s.heap.objs.size l hlt items) (fun j u st => st.1.typeIs) (k := i) (by omega) ⟨hit₁, hl₁⟩ (Heap.lt_size hoi) (Heap.lt_size hol) (fun h₂ tk hk => ?_) hz))
  have hrl : (items.toList.drop i).length = items.size - i := by rw [List.length_drop, Array.length_toList]
  have hmid : (items.toList.drop i).length - (n - 1 - i) = items.size + 1 - n := by rw [hrl]; omega
  show wpAny _ _ (if (items.toList.drop i).length < n - 1 - i then _ else _) _ _ _
  rw [if_neg (by rw [hrl]; omega)]
  show wpAny _ _ (newList ((items.toList.drop i).take ((items.toList.drop i).length - (n - 1 - i))) >>= fun d => pure (items.toList.take i ++ [d] ++ (items.toList.drop i).drop ((items.toList.drop i).length - (n - 1 - i)))) _ _ _
  rw [hmid]
  have he : ∀ b o, s.heap.get? b = some o → h₂.get? b = some o := fun b o e => hk b o (Nat.ne_of_lt (Heap.lt_size e)) (hs₁.extBut b o (Nat.ne_of_lt (Heap.lt_size e)) (Heap.get?_push_of_some _ e))
  refine wpAny_bind (wpAny_newObj_type (wpAny_pure (h h₂ tk he)) ?_)
  show (((items.toList.drop i).take (items.size + 1 - n)).toArray).size ≤ sizeLine
  rw [List.size_toArray, List.length_take, hrl]
  omega
end
variable {X : Cx} {C : Ir.Calls}
/-- (a, .., *r, .., z) = a tuple or a list -/
def gStar (K : PySem.W.Frag) (n i : Nat) (t : TGs) : TG := fun v σ H Q => ∃ a xs, v = .ref a ∧ (SqT K H a xs ∨ SqL K H a xs) ∧ n ≤ xs.length + 1 ∧ ∀ p, H p = none → t (xs.take i ++ [.ref p] ++ (xs.drop i).drop (xs.length + 1 - n)) σ (upd H p (.lst ((xs.drop i).take (xs.length + 1 - n)))) Q
theorem pg_star {es : List Expr} {k : Nat} {t : TGs} {n i : Nat} {pos : Pos} (hc : X.calm = true) (h : PGs X es t) (hi : i < n) (hn : (assignEach es X.env).length = n := by rfl) (hst : (assignEach es X.env).findIdx? (·.1) = some i := by rfl) : PG X (.Tuple es k pos) (gStar X.K n i t) := by
  refine ⟨fun pins s σ H v u Q I r hw => ?_⟩
  obtain ⟨a, xs, e1, hq, hl, hw⟩ := hw
  subst e1
  cases r
  rw [assign_Tuple]
  refine wpAny_bind (wpAny_standAt ?_)
  unfold unpack
  rw [hn, hst]
  have core : ∀ its : List Value, Vals xs its → xs.length ≤ sizeLine → ∀ (h' : Heap) (tk : Nat), (∀ b o, s.heap.get? b = some o → h'.get? b = some o) →
      wpAny (model X.prog X.w) X.A (assignInOrder ((assignEach es X.env).map (·.2)) (its.toArray.toList.take i ++ [.ref h'.objs.size] ++ (its.toArray.toList.drop i).drop (its.toArray.size + 1 - n))) (fun _ s' => ∃ σ' H', Inv X pins σ' H' s' ∧ Q σ' H') X.xe
        { s with heap := h'.push { cls := .type "list", data := .seq ((its.toArray.toList.drop i).take (its.toArray.size + 1 - n)).toArray }, toks := tk } := fun its rv hz h' tk hk => by
    have I1 : Inv X pins σ H { s with heap := h', toks := tk } := I.kept (t' := tk) hk
    have hf : H h'.objs.size = none := I1.hok.fresh (Nat.le_refl _)
    have el : its.toArray.size = xs.length := by rw [List.size_toArray]; exact rv.length.symm
    have rm : Vals ((xs.drop i).take (xs.length + 1 - n)) ((its.toArray.toList.drop i).take (its.toArray.size + 1 - n)) := by
      rw [el]
      exact (Vals.drop i rv).take _
    have I2 : Inv X pins σ (upd H h'.objs.size (.lst ((xs.drop i).take (xs.length + 1 - n)))) { s with heap := h'.push { cls := .type "list", data := .seq ((its.toArray.toList.drop i).take (its.toArray.size + 1 - n)).toArray }, toks := tk } := by
      refine I1.laid (t' := tk) (fun b o e => Heap.get?_push_of_some _ e) (Nat.le_refl _) ⟨?_, _, 0, rm, Heap.get?_push_size _ rfl⟩
      rw [List.length_take, List.length_drop]
      omega
    refine h.run pins _ σ _ _ _ Q I2 ?_ (hw _ hf)
    refine Vals.append (Vals.append (Vals.take i rv) (.cons rfl .nil)) ?_
    rw [el]
    exact Vals.drop _ (Vals.drop i rv)
  rcases hq with hq | hq
  · obtain ⟨its, rv, ht, hz⟩ := I.tuple hq
    exact wpAny_bind (wpAny_holding (star_T ht (I.ok.hd hc) hi (by rw [List.size_toArray, ← rv.length]; omega) (by rw [List.size_toArray, ← rv.length]; exact hz) (core its rv hz)))
  · obtain ⟨its, rv, ht, hz⟩ := I.list hq
    exact wpAny_bind (wpAny_holding (star_L ht.isList (I.ok.hd hc) hi (by rw [List.size_toArray, ← rv.length]; omega) (by rw [List.size_toArray, ← rv.length]; exact hz) (core its rv hz)))
theorem pgs_star {e : Expr} {es : List Expr} {t : TG} {u : TGs} {p : Pos} (h1 : PG X e t) (h2 : PGs X es u)
    (hs : (assignEach (.Starred e p :: es) X.env).map (·.2) = assign e X.env :: (assignEach es X.env).map (·.2) := by rfl) : PGs X (.Starred e p :: es) (gCons t u) := by
  refine ⟨fun pins s σ H vs us Q I r h => ?_⟩
  obtain ⟨v, vr, e1, h⟩ := h
  subst e1
  cases r with
  | cons r rr =>
    rw [hs]
    refine assignInOrder_cons (thn (h1.run pins s σ H _ _ _ I r h) fun _ s1 ⟨σ1, H1, I1, q1⟩ => ?_)
    exact h2.run pins s1 σ1 H1 _ _ Q I1 rr q1
theorem pg_imp {e : Expr} {t t' : TG} (h : PG X e t) (w : ∀ v σ H Q, t' v σ H Q → t v σ H Q) : PG X e t' := ⟨fun pins s σ H v u Q I r q => h.run pins s σ H v u Q I r (w v σ H Q q)⟩
theorem pgs_imp {e : List Expr} {t t' : TGs} (h : PGs X e t) (w : ∀ v σ H Q, t' v σ H Q → t v σ H Q) : PGs X e t' := ⟨fun pins s σ H v u Q I r q => h.run pins s σ H v u Q I r (w v σ H Q q)⟩
theorem wipe_same {σ : L2.St} {i : Nat} {v : V} : ∀ {vs : List Nat}, i ∈ vs → L2.wipe (σ.set i (some v)) vs = L2.wipe σ vs
  | j :: vs, h => by
    simp only [L2.wipe]
    by_cases e : i ∈ vs
    · rw [wipe_same e]
    · have hj : i = j := by
        rcases List.mem_cons.mp h with q | q
        · exact q
        · exact absurd q e
      subst hj
      have : ∀ vs : List Nat, i ∉ vs → L2.wipe (σ.set i (some v)) vs = (L2.wipe σ vs).set i (some v) := by
        intro vs
        induction vs with
        | nil => intro _; rfl
        | cons j vs ih =>
          intro hn
          simp only [L2.wipe]
          rw [ih (fun q => hn (List.mem_cons_of_mem _ q)), List.set_comm _ _ (fun q => hn (by rw [q]; exact List.mem_cons_self))]
      rw [this vs e, List.set_set]
/-- nothing but these slots is changed -/
def OnlyS (is : List Nat) (σ σ' : L2.St) : Prop := ∀ vs : List Nat, (∀ i ∈ is, i ∈ vs) → L2.wipe σ' vs = L2.wipe σ vs
theorem OnlyS.one (i : Nat) (σ : L2.St) (v : V) : OnlyS [i] σ (σ.set i (some v)) := fun vs h => wipe_same (h i (by simp))
theorem OnlyS.trans {is js : List Nat} {σ σ1 σ2 : L2.St} (a : OnlyS is σ σ1) (b : OnlyS js σ1 σ2) : OnlyS (is ++ js) σ σ2 := fun vs h => (b vs fun i q => h i (List.mem_append_right _ q)).trans (a vs fun i q => h i (List.mem_append_left _ q))
theorem OnlyS.fold : ∀ (is : List Nat) (vs : List V) (σ : L2.St), OnlyS is σ ((is.zip vs).foldl (fun s p => s.set p.1 (some p.2)) σ)
  | [], _, σ => fun _ _ => rfl
  | _ :: _, [], σ => fun _ _ => rfl
  | i :: is, v :: vs, σ => OnlyS.trans (is := [i]) (OnlyS.one i σ v) (OnlyS.fold is vs _)
def tG (K : PySem.W.Frag) (t : Ir.Tg) : TG := fun v σ H Q => ∃ ρ env st x env', RS ρ K st H ∧ REnv ρ K H env σ ∧ RD ρ K H x v ∧ t.put x env = some env' ∧ ∀ ρ' H' σ', Ext ρ H ρ' H' → RS ρ' K st H' → REnv ρ' K H' env' σ' → OnlyS t.slots σ σ' → Q σ' H'
def tGs (K : PySem.W.Frag) (ts : List Ir.Tg) : TGs := fun vs σ H Q => ∃ ρ env st xs env', RS ρ K st H ∧ REnv ρ K H env σ ∧ RDs ρ K H xs vs ∧ Ir.Tg.puts ts xs env = some env' ∧ ∀ ρ' H' σ', Ext ρ H ρ' H' → RS ρ' K st H' → REnv ρ' K H' env' σ' → OnlyS (Ir.Tg.slotss ts) σ σ' → Q σ' H'
abbrev SG (X : Cx) (e : Expr) (t : Ir.Tg) : Prop := PG X e (tG X.K t)
abbrev SGs (X : Cx) (e : List Expr) (t : List Ir.Tg) : Prop := PGs X e (tGs X.K t)
theorem sg_name (i : Nat) {x : Str} {pos : Pos} (hN : X.N.Nodup) (hx : Loc X.env.scope x := by first | exact .inl rfl | exact .inr rfl) (hi : X.N[i]? = some x := by rfl) (hf : X.fn x = true ∨ X.env.scope.names.lookup x = some .local := by first | exact .inl rfl | exact .inr rfl | assumption) : SG X (.Name x pos) (.name i) :=
  pg_imp (pg_name hN hi hx hf) fun v σ H Q ⟨ρ, env, st, x, env', rs, re, rx, hp, k⟩ => by
    simp only [Ir.Tg.put, Option.some.injEq] at hp
    subst hp
    exact k ρ H _ (.refl _ _) rs (re.set (v := .d x) rx i) (by simp only [Ir.Tg.slots]; exact OnlyS.one i σ v)
theorem sgs_nil : SGs X [] [] := pgs_imp pgs_nil fun v σ H Q ⟨ρ, env, st, xs, env', rs, re, rx, hp, k⟩ => by
  cases rx with
  | nil =>
    simp only [Ir.Tg.puts, Option.some.injEq] at hp
    subst hp
    exact ⟨rfl, k ρ H _ (.refl _ _) rs re fun _ _ => rfl⟩
  | cons _ _ => simp [Ir.Tg.puts] at hp
theorem sgs_cons {e : Expr} {es : List Expr} {t : Ir.Tg} {ts : List Ir.Tg} (h1 : SG X e t) (h2 : SGs X es ts) (hs : (assignEach (e :: es) X.env).map (·.2) = assign e X.env :: (assignEach es X.env).map (·.2) := by rfl) : SGs X (e :: es) (t :: ts) :=
  pgs_imp (pgs_cons h1 h2 hs) fun v σ H Q ⟨ρ, env, st, xs, env', rs, re, rx, hp, k⟩ => by
    cases rx with
    | nil => simp [Ir.Tg.puts] at hp
    | cons rx rr =>
      simp only [Ir.Tg.puts, Option.bind_eq_some_iff] at hp
      obtain ⟨env1, hp1, hp2⟩ := hp
      exact ⟨_, _, rfl, ρ, env, st, _, env1, rs, re, rx, hp1, fun ρ1 H1 σ1 x1 rs1 re1 o1 => ⟨ρ1, env1, st, _, env', rs1, re1, rr.mono x1, hp2, fun ρ2 H2 σ2 x2 rs2 re2 o2 => k ρ2 H2 σ2 (x1.trans x2) rs2 re2 (by simp only [Ir.Tg.slotss]; exact o1.trans o2)⟩⟩
theorem sg_tup {es : List Expr} {ts : List Ir.Tg} {k : Nat} {pos : Pos} (hc : X.calm = true) (h : SGs X es ts) (hl : ∀ xs env env', Ir.Tg.puts ts xs env = some env' → xs.length = ts.length) (hn : (assignEach es X.env).length = ts.length := by rfl) (hst : (assignEach es X.env).findIdx? (·.1) = none := by rfl) : SG X (.Tuple es k pos) (.tup ts) :=
  pg_imp (pg_tup hc h hn hst) fun v σ H Q ⟨ρ, env, st, x, env', rs, re, rx, hp, k⟩ => by
    cases x <;> simp only [Ir.Tg.put, reduceCtorEq] at hp
    rename_i xs
    obtain ⟨a, ys, rfl, t, z, r⟩ := RD.tup_inv rx
    exact ⟨a, ys, rfl, t.sq, by rw [← r.length]; exact hl _ _ _ hp, ρ, env, st, xs, env', rs, re, r, hp, by simpa only [Ir.Tg.slots] using k⟩
theorem puts_len : ∀ (ts : List Ir.Tg) (xs : List Ir.D) (env env' : Ir.Env), Ir.Tg.puts ts xs env = some env' → xs.length = ts.length
  | [], [], _, _, _ => rfl
  | [], _ :: _, _, _, h => by simp [Ir.Tg.puts] at h
  | _ :: _, [], _, _, h => by simp [Ir.Tg.puts] at h
  | t :: ts, x :: xs, env, env', h => by
    simp only [Ir.Tg.puts, Option.bind_eq_some_iff] at h
    obtain ⟨e1, _, h2⟩ := h
    simp [puts_len ts xs e1 env' h2]
/-- names in a row -/
def gNames (is : List Nat) : TGs := fun vs σ H Q => vs.length = is.length ∧ Q ((is.zip vs).foldl (fun s p => s.set p.1 (some p.2)) σ) H
abbrev SNs (X : Cx) (es : List Expr) (is : List Nat) : Prop := PGs X es (gNames is)
theorem sns_nil : SNs X [] [] := pgs_imp pgs_nil fun v σ H Q ⟨h, q⟩ => by
  cases v with
  | nil => exact ⟨rfl, q⟩
  | cons _ _ => simp at h
theorem sns_cons (i : Nat) {x : Str} {pos : Pos} {es : List Expr} {is : List Nat} (hN : X.N.Nodup) (h : SNs X es is) (hx : Loc X.env.scope x := by first | exact .inl rfl | exact .inr rfl) (hi : X.N[i]? = some x := by rfl) (hf : X.fn x = true ∨ X.env.scope.names.lookup x = some .local := by first | exact .inl rfl | exact .inr rfl | assumption) (hs : (assignEach (.Name x pos :: es) X.env).map (·.2) = assign (.Name x pos) X.env :: (assignEach es X.env).map (·.2) := by rfl) : SNs X (.Name x pos :: es) (i :: is) :=
  pgs_imp (pgs_cons (pg_name hN hi hx hf) h hs) fun v σ H Q ⟨hl, q⟩ => by
    cases v with
    | nil => simp at hl
    | cons v vs => exact ⟨v, vs, rfl, by simpa using hl, q⟩
theorem sns_star (i : Nat) {x : Str} {pos p : Pos} {es : List Expr} {is : List Nat} (hN : X.N.Nodup) (h : SNs X es is) (hx : Loc X.env.scope x := by first | exact .inl rfl | exact .inr rfl) (hi : X.N[i]? = some x := by rfl) (hf : X.fn x = true ∨ X.env.scope.names.lookup x = some .local := by first | exact .inl rfl | exact .inr rfl | assumption) (hs : (assignEach (.Starred (.Name x pos) p :: es) X.env).map (·.2) = assign (.Name x pos) X.env :: (assignEach es X.env).map (·.2) := by rfl) : SNs X (.Starred (.Name x pos) p :: es) (i :: is) :=
  pgs_imp (pgs_star (pg_name hN hi hx hf) h hs) fun v σ H Q ⟨hl, q⟩ => by
    cases v with
    | nil => simp at hl
    | cons v vs => exact ⟨v, vs, rfl, by simpa using hl, q⟩
theorem setAll_ok {ρ : Rho} {K : PySem.W.Frag} {H : Hp} : ∀ {is : List Nat} {xs : List Ir.D} {vs : List V} {env env' : Ir.Env} {σ : L2.St}, RDs ρ K H xs vs → REnv ρ K H env σ → Ir.setAll is xs env = some env' → vs.length = is.length ∧ REnv ρ K H env' ((is.zip vs).foldl (fun s p => s.set p.1 (some p.2)) σ)
  | [], [], _, _, _, _, .nil, re, h => by simp only [Ir.setAll, Option.some.injEq] at h; subst h; exact ⟨rfl, re⟩
  | [], _ :: _, _, _, _, _, _, _, h => by simp [Ir.setAll] at h
  | _ :: _, [], _, _, _, _, _, _, h => by simp [Ir.setAll] at h
  | i :: is, x :: xs, _ :: vs, env, env', σ, .cons a r, re, h => by
    simp only [Ir.setAll] at h
    obtain ⟨h1, h2⟩ := setAll_ok r (re.set (v := .d x) a i) h
    exact ⟨by simp [h1], h2⟩
theorem foldl_zip_append (as bs : List Nat) (xs ys : List V) (σ : L2.St) (h : as.length = xs.length) : ((as ++ bs).zip (xs ++ ys)).foldl (fun (s : L2.St) p => s.set p.1 (some p.2)) σ = (bs.zip ys).foldl (fun s p => s.set p.1 (some p.2)) ((as.zip xs).foldl (fun s p => s.set p.1 (some p.2)) σ) := by
  rw [List.zip_append h, List.foldl_append]
theorem sg_star {es : List Expr} {pre post : List Nat} {j : Nat} {k : Nat} {pos : Pos} (hc : X.calm = true) (h : SNs X es (pre ++ j :: post)) (hn : (assignEach es X.env).length = pre.length + 1 + post.length := by rfl) (hst : (assignEach es X.env).findIdx? (·.1) = some pre.length := by rfl) : SG X (.Tuple es k pos) (.star pre j post) :=
  pg_imp (pg_star hc h (by omega) hn hst) fun v σ H Q ⟨ρ, env, st, x, env', rs, re, rx, hp, k⟩ => by
    simp only [Ir.Tg.put] at hp
    cases hx : x.seq with
    | none => rw [hx] at hp; cases hp
    | some xs =>
      rw [hx] at hp
      simp only at hp
      split at hp
      · cases hp
      · rename_i hlen
        cases hs : Ir.setAll pre (xs.take pre.length) env with
        | none => rw [hs] at hp; cases hp
        | some env1 =>
          rw [hs] at hp
          simp only at hp
          have main : ∀ a ys, v = .ref a → (SqT X.K H a ys ∨ SqL X.K H a ys) → ys.length ≤ sizeLine → RDs ρ X.K H xs ys → gStar X.K (pre.length + 1 + post.length) pre.length (gNames (pre ++ j :: post)) v σ H Q := fun a ys hv hq hz r => by
            have hl := r.length
            refine ⟨a, ys, hv, hq, by omega, fun p hp0 => ?_⟩
            have x1 : Ext ρ H ρ (upd H p (.lst ((ys.drop pre.length).take (ys.length + 1 - (pre.length + 1 + post.length))))) := .grow rs hp0 _
            have rs1 := rs.grow hp0 (.lst ((ys.drop pre.length).take (ys.length + 1 - (pre.length + 1 + post.length))))
            have c1 : ys.length + 1 - (pre.length + 1 + post.length) = xs.length - pre.length - post.length := by omega
            have rm : RDs ρ X.K H ((xs.drop pre.length).take (xs.length - pre.length - post.length)) ((ys.drop pre.length).take (ys.length + 1 - (pre.length + 1 + post.length))) := by
              rw [c1]; exact (r.drop _).take _
            have rD := grow_lst rs rm (by rw [List.length_take, List.length_drop]; omega) hp0
            obtain ⟨g1, g2⟩ := setAll_ok ((r.take pre.length).mono x1) (re.mono x1) hs
            have ed : xs.drop (xs.length - post.length) = (xs.drop pre.length).drop (xs.length - pre.length - post.length) := by
              rw [List.drop_drop]; congr 1; omega
            have rl : RDs ρ X.K H (xs.drop (xs.length - post.length)) ((ys.drop pre.length).drop (ys.length + 1 - (pre.length + 1 + post.length))) := by
              rw [ed, c1]; exact (r.drop _).drop _
            obtain ⟨g3, g4⟩ := setAll_ok (rl.mono x1) (g2.set (v := .d (.lst _)) rD j) hp
            refine ⟨?_, ?_⟩
            · simp only [List.length_append, List.length_cons, List.length_nil, g3, g1]; omega
            · have := k ρ _ _ x1 rs1 g4 (by
                simp only [Ir.Tg.slots]
                have q := OnlyS.fold (pre ++ j :: post) (ys.take pre.length ++ (V.ref p :: (ys.drop pre.length).drop (ys.length + 1 - (pre.length + 1 + post.length)))) σ
                rw [foldl_zip_append _ _ _ _ _ g1.symm] at q
                exact q)
              have e2 : ys.take pre.length ++ [V.ref p] ++ (ys.drop pre.length).drop (ys.length + 1 - (pre.length + 1 + post.length)) = ys.take pre.length ++ (V.ref p :: (ys.drop pre.length).drop (ys.length + 1 - (pre.length + 1 + post.length))) := by simp
              rw [e2, foldl_zip_append _ _ _ _ _ g1.symm]
              exact this
          cases x <;> simp only [Ir.D.seq, reduceCtorEq, Option.some.injEq] at hx
          · subst hx
            obtain ⟨a, ys, rfl, t, z, r⟩ := RD.tup_inv rx
            exact main a ys rfl (.inl t.sq) z r
          · subst hx
            obtain ⟨a, ys, rfl, t, z, r⟩ := VD.of rx
            exact main a ys rfl (.inr (SqL.of t)) z r
end Snd

set_option maxHeartbeats 1000000
namespace Snd
open PySem PySem.Spec PyProof.Rows L2
/-! zip of a list and a tuple: by what each of the two iterators does -/
/-- an iterator `it` over what stands at `l`: `P k h` tells that it is at place k -/
structure ItStep (prog : Program) (w : World) (it l : Addr) (P : Nat → Heap → Prop) (xs : Array Value) : Prop where
  next : ∀ {B : Around} {F : Value → Shared → Prop} {t : Shared} {k : Nat} {x : Value} {R : Value → Shared → Prop}, P k t.heap → xs[k]? = some x → (∀ g, P (k + 1) g → Heap.SameBut it t.heap g → R x { t with heap := g }) → wpAny (model prog w) B (Builtin.SmallTypes.nextOf (.ref it)) R F t
  over : ∀ {B : Around} {F : Value → Shared → Prop} {t : Shared} {k : Nat} {R : Value → Shared → Prop}, B.handled = none → P k t.heap → xs[k]? = none → (∀ g e, Heap.ExtBut it t.heap g → (∃ o, g.get? e = some o ∧ o.cls = .type "StopIteration") → F (.ref e) { t with heap := g }) → wpAny (model prog w) B (Builtin.SmallTypes.nextOf (.ref it)) R F t
  stay : ∀ {k : Nat} {g g' : Heap}, P k g → (∀ o, g.get? it = some o → g'.get? it = some o) → (∀ o, g.get? l = some o → g'.get? l = some o) → P k g'
theorem itr_list {prog : Program} {w : World} {it l : Addr} {xs : Array Value} (ne : l ≠ it) : ItStep prog w it l (fun k h => h.IsListIter it l k ∧ h.IsList l xs) xs where
  next := fun hp hx hR => wpAny_nextOf_list_item hp.1 hp.2 hx fun g h1 h2 => hR g ⟨h1, hp.2.extBut h2.extBut ne⟩ h2
  over := fun hh hp hx hF => wpAny_nextOf_list_end hh hp.1 hp.2 hx hF
  stay := fun hp h1 h2 => ⟨hp.1.at h1, hp.2.at h2⟩
theorem itr_tuple {prog : Program} {w : World} {it l : Addr} {xs : Array Value} (ne : l ≠ it) : ItStep prog w it l (fun k h => h.IsTupleIter it l k ∧ h.IsTuple l xs) xs where
  next := fun hp hx hR => RZ.nextOf_tuple_item hp.1 hp.2 hx fun g h1 h2 => hR g ⟨h1, hp.2.extBut h2.extBut ne⟩ h2
  over := fun hh hp hx hF => RZ.nextOf_tuple_end hh hp.1 hp.2 hx hF
  stay := fun hp h1 h2 => ⟨hp.1.at h1, hp.2.at h2⟩
section
variable {prog : Program} {w : World} {A : Around} {E : Value → Shared → Prop} {s : Shared}
variable {z TI TO i1 i2 l1 l2 : Addr} {P1 P2 : Nat → Heap → Prop} {xs ys : Array Value} {a b : Value}
/-- a zip at rest, its iterators at place k -/
structure ZpAt (h : Heap) (z TI TO i1 i2 : Addr) (P1 P2 : Nat → Heap → Prop) (a b : Value) (k : Nat) : Prop where
  zz : IsZip h z TI TO .none
  ti : IsPair h TI (.ref i1) (.ref i2)
  to : IsPair h TO a b
  p1 : P1 k h
  p2 : P2 k h
theorem zm_item (S1 : ItStep prog w i1 l1 P1 xs) (S2 : ItStep prog w i2 l2 P2 ys) (D : ZipApart z TI TO i1 i2 l1 l2) {k : Nat} {x y : Value} (Z : ZpAt s.heap z TI TO i1 i2 P1 P2 a b k) (hx : xs[k]? = some x) (hy : ys[k]? = some y) {R : Value → Shared → Prop}
    (hR : ∀ g, IsZip g z TI TO (rawInt s.heap.objs.size) → IsPair g TO x y → P1 (k + 1) g → P2 (k + 1) g → IsPair g s.heap.objs.size x y → g.objs.size = s.heap.objs.size + 1 → (∀ c o, c ≠ z → c ≠ TO → c ≠ i1 → c ≠ i2 → s.heap.get? c = some o → g.get? c = some o) → R (.ref s.heap.objs.size) { s with heap := g }) :
    wpAny (model prog w) A (Builtin.«zip.__next__» ⟨[.ref z], []⟩) (fun u t => ∃ v, u = .done (.ret v) ∧ R v t) E s := by
  have hz := Z.zz; have hi := Z.ti; have ho := Z.to
  show wpAny _ _ (field (.ref z) 2 >>= _) _ _ _; refine wpAny_bind (wpAny_field hz rfl (x := .bool false) rfl ?_)
  show wpAny _ _ (field (.ref z) 3 >>= _) _ _ _; refine wpAny_bind (wpAny_field hz rfl (x := .ref TI) rfl (wpAny_bind (wpAny_seqItems hi rfl ?_)))
  show wpAny _ _ (Builtin.SmallTypes.ownedTupleIsFree (.ref z) >>= _) _ _ _; refine wpAny_bind ?_
  unfold Builtin.SmallTypes.ownedTupleIsFree; refine wpAny_bind (wpAny_field hz rfl (x := .none) rfl (wpAny_pure ?_))
  simp only [if_true]; refine wpAny_bind (wpAny_rule (wpAny_bind (wpAny_field hz rfl (x := .ref TO) rfl ?_)))
  refine wpAny_bind (wpAny_setField_rec hz (by simp) fun g1 z1 w1 => ?_); replace z1 : IsZip g1 z TI TO .ellipsis := z1
  refine wpAny_bind ?_; simp only [List.zipIdx_cons, List.zipIdx_nil, List.forIn_cons, List.forIn_nil]
  refine wpAny_bind (wpAny_bind (wpAny_onRaise ?_)); show wpAny _ _ (Builtin.SmallTypes.nextOf (.ref i1) >>= _) _ _ _
  refine wpAny_bind (S1.next (S1.stay Z.p1 (fun o q => w1.extBut _ _ D.i1z q) (fun o q => w1.extBut _ _ D.l1z q)) hx fun g2 p12 w2 => wpAny_pure ?_)
  have o2 : IsPair g2 TO a b := w2.extBut _ _ D.TOi1 (w1.extBut _ _ D.TOz ho)
  refine wpAny_bind (wpAny_seqItems o2 rfl (wpAny_bind (wpAny_updateSeq_pair o2 fun g3 o3 w3 => ?_))); replace o3 : IsPair g3 TO x b := o3
  refine wpAny_bind (wpAny_letGo (wpAny_pure ?_)); refine wpAny_bind (wpAny_bind (wpAny_onRaise ?_))
  show wpAny _ _ (Builtin.SmallTypes.nextOf (.ref i2) >>= _) _ _ _; refine wpAny_bind (S2.next (S2.stay Z.p2 (fun o q => w3.extBut _ _ D.TOi2.symm (w2.extBut _ _ D.i12.symm (w1.extBut _ _ D.i2z q))) (fun o q => w3.extBut _ _ D.l2TO (w2.extBut _ _ D.l2i1 (w1.extBut _ _ D.l2z q)))) hy fun g4 p24 w4 => wpAny_pure ?_)
  have o4 : IsPair g4 TO x b := w4.extBut _ _ D.TOi2 o3
  refine wpAny_bind (wpAny_seqItems o4 rfl (wpAny_bind (wpAny_updateSeq_pair o4 fun g5 o5 w5 => ?_))); replace o5 : IsPair g5 TO x y := o5
  refine wpAny_bind (wpAny_letGo (wpAny_pure (wpAny_pure (wpAny_bind (wpAny_seqItems o5 rfl (wpAny_bind (wpAny_newTuple ?_)))))))
  have sz : g5.objs.size = s.heap.objs.size := by rw [w5.1, w4.1, w3.1, w2.1, w1.1]
  have z5 : IsZip g5 z TI TO .ellipsis := w5.extBut _ _ D.TOz.symm (w4.extBut _ _ D.i2z.symm (w3.extBut _ _ D.TOz.symm (w2.extBut _ _ D.i1z.symm z1)))
  have k5 : ∀ c o, c ≠ z → c ≠ TO → c ≠ i1 → c ≠ i2 → s.heap.get? c = some o → g5.get? c = some o := fun c o n1 n2 n3 n4 q => w5.extBut _ _ n2 (w4.extBut _ _ n4 (w3.extBut _ _ n2 (w2.extBut _ _ n3 (w1.extBut _ _ n1 q))))
  have p15 : P1 (k + 1) g5 := S1.stay p12 (fun o q => w5.extBut _ _ D.TOi1.symm (w4.extBut _ _ D.i12 (w3.extBut _ _ D.TOi1.symm q))) (fun o q => w5.extBut _ _ D.l1TO (w4.extBut _ _ D.l1i2 (w3.extBut _ _ D.l1TO q)))
  have p25 : P2 (k + 1) g5 := S2.stay p24 (fun o q => w5.extBut _ _ D.TOi2.symm q) (fun o q => w5.extBut _ _ D.l2TO q)
  have zl : z < g5.objs.size := Heap.lt_size z5
  show wpAny _ _ (Builtin.SmallTypes.ownedTupleHandOut (.ref z) (.ref g5.objs.size) >>= _) _ _ _; refine wpAny_bind ?_
  unfold Builtin.SmallTypes.ownedTupleHandOut
  have z6 : IsZip (g5.push { cls := .type "tuple", data := .seq #[x, y] }) z TI TO .ellipsis := Heap.get?_push_of_some _ z5
  refine wpAny_bind (wpAny_setField_rec z6 (by simp) fun g7 z7 w7 => ?_); replace z7 : IsZip g7 z TI TO (rawInt g5.objs.size) := z7
  refine wpAny_setField_rec z7 (by simp) fun g8 z8 w8 => ?_; replace z8 : IsZip g8 z TI TO (rawInt g5.objs.size) := z8
  have up : ∀ c o, c ≠ z → g5.get? c = some o → g8.get? c = some o := fun c o n q => w8.extBut _ _ n (w7.extBut _ _ n (Heap.get?_push_of_some _ q))
  have t8 : IsPair g8 g5.objs.size x y := w8.extBut _ _ (Nat.ne_of_gt zl) (w7.extBut _ _ (Nat.ne_of_gt zl) (Heap.get?_push_size _ rfl))
  have s8 : g8.objs.size = g5.objs.size + 1 := by rw [w8.1, w7.1, Heap.size_push]
  rw [sz] at z8 t8 s8; refine wpAny_pure ⟨_, rfl, ?_⟩
  show R (.ref g5.objs.size) _; rw [sz]
  exact hR g8 z8 (up _ _ D.TOz o5) (S1.stay p15 (fun o q => up _ o D.i1z q) (fun o q => up _ o D.l1z q)) (S2.stay p25 (fun o q => up _ o D.i2z q) (fun o q => up _ o D.l2z q)) t8 s8 fun c o n1 n2 n3 n4 q => up c o n1 (k5 c o n1 n2 n3 n4 q)
theorem zm_end (hh : A.handled = none) (S1 : ItStep prog w i1 l1 P1 xs) (S2 : ItStep prog w i2 l2 P2 ys) (D : ZipApart z TI TO i1 i2 l1 l2) {k : Nat} (Z : ZpAt s.heap z TI TO i1 i2 P1 P2 a b k) (hend : xs[k]? = none ∨ ys[k]? = none) {R : Fin → Shared → Prop}
    (hE : ∀ g e, (∀ c o, c ≠ z → c ≠ TO → c ≠ i1 → c ≠ i2 → s.heap.get? c = some o → g.get? c = some o) → (∃ o, g.get? e = some o ∧ o.cls = .type "StopIteration") → E (.ref e) { s with heap := g }) :
    wpAny (model prog w) A (Builtin.«zip.__next__» ⟨[.ref z], []⟩) R E s := by
  have hz := Z.zz; have hi := Z.ti; have ho := Z.to
  show wpAny _ _ (field (.ref z) 2 >>= _) _ _ _; refine wpAny_bind (wpAny_field hz rfl (x := .bool false) rfl ?_)
  show wpAny _ _ (field (.ref z) 3 >>= _) _ _ _; refine wpAny_bind (wpAny_field hz rfl (x := .ref TI) rfl (wpAny_bind (wpAny_seqItems hi rfl ?_)))
  show wpAny _ _ (Builtin.SmallTypes.ownedTupleIsFree (.ref z) >>= _) _ _ _; refine wpAny_bind ?_
  unfold Builtin.SmallTypes.ownedTupleIsFree; refine wpAny_bind (wpAny_field hz rfl (x := .none) rfl (wpAny_pure ?_))
  simp only [if_true]; refine wpAny_bind (wpAny_rule (wpAny_bind (wpAny_field hz rfl (x := .ref TO) rfl ?_)))
  refine wpAny_bind (wpAny_setField_rec hz (by simp) fun g1 z1 w1 => ?_); replace z1 : IsZip g1 z TI TO .ellipsis := z1
  refine wpAny_bind ?_; simp only [List.zipIdx_cons, List.zipIdx_nil, List.forIn_cons, List.forIn_nil]
  refine wpAny_bind (wpAny_bind (wpAny_onRaise ?_)); show wpAny _ _ (Builtin.SmallTypes.nextOf (.ref i1) >>= _) _ _ _
  cases hx : xs[k]? with
  | none =>
    refine wpAny_bind (S1.over hh (S1.stay Z.p1 (fun o q => w1.extBut _ _ D.i1z q) (fun o q => w1.extBut _ _ D.l1z q)) hx fun g2 e w2 he => ?_)
    obtain ⟨oe, q1, q2⟩ := he
    have z2 : IsZip g2 z TI TO .ellipsis := w2 _ _ D.i1z.symm z1
    have ez : e ≠ z := fun x => by subst x; rw [z2] at q1; cases q1; simp at q2
    refine wpAny_setField_rec z2 (by simp) fun g3 _ w3 => hE g3 e (fun c o n1 _ n3 _ q => w3.extBut _ _ n1 (w2 _ _ n3 (w1.extBut _ _ n1 q))) ⟨oe, w3.extBut _ _ ez q1, q2⟩
  | some x =>
    have hy : ys[k]? = none := hend.elim (fun q => by rw [hx] at q; cases q) id
    refine wpAny_bind (S1.next (S1.stay Z.p1 (fun o q => w1.extBut _ _ D.i1z q) (fun o q => w1.extBut _ _ D.l1z q)) hx fun g2 p12 w2 => wpAny_pure ?_)
    have o2 : IsPair g2 TO a b := w2.extBut _ _ D.TOi1 (w1.extBut _ _ D.TOz ho)
    refine wpAny_bind (wpAny_seqItems o2 rfl (wpAny_bind (wpAny_updateSeq_pair o2 fun g3 o3 w3 => ?_)))
    refine wpAny_bind (wpAny_letGo (wpAny_pure ?_)); refine wpAny_bind (wpAny_bind (wpAny_onRaise ?_))
    show wpAny _ _ (Builtin.SmallTypes.nextOf (.ref i2) >>= _) _ _ _; refine wpAny_bind (S2.over hh (S2.stay Z.p2 (fun o q => w3.extBut _ _ D.TOi2.symm (w2.extBut _ _ D.i12.symm (w1.extBut _ _ D.i2z q))) (fun o q => w3.extBut _ _ D.l2TO (w2.extBut _ _ D.l2i1 (w1.extBut _ _ D.l2z q)))) hy fun g4 e w4 he => ?_)
    obtain ⟨oe, q1, q2⟩ := he
    have z4 : IsZip g4 z TI TO .ellipsis := w4 _ _ D.i2z.symm (w3.extBut _ _ D.TOz.symm (w2.extBut _ _ D.i1z.symm z1))
    have ez : e ≠ z := fun x => by subst x; rw [z4] at q1; cases q1; simp at q2
    refine wpAny_setField_rec z4 (by simp) fun g5 _ w5 => hE g5 e (fun c o n1 n2 n3 n4 q => w5.extBut _ _ n1 (w4 _ _ n4 (w3.extBut _ _ n2 (w2.extBut _ _ n3 (w1.extBut _ _ n1 q))))) ⟨oe, w5.extBut _ _ ez q1, q2⟩
theorem zm_next (S1 : ItStep prog w i1 l1 P1 xs) (S2 : ItStep prog w i2 l2 P2 ys) (D : ZipApart z TI TO i1 i2 l1 l2) {k : Nat} {x y : Value} (Z : ZpAt s.heap z TI TO i1 i2 P1 P2 a b k) (hx : xs[k]? = some x) (hy : ys[k]? = some y) {R : Option Value → Shared → Prop}
    (hR : ∀ g, IsZip g z TI TO (rawInt s.heap.objs.size) → IsPair g TO x y → P1 (k + 1) g → P2 (k + 1) g → IsPair g s.heap.objs.size x y → g.objs.size = s.heap.objs.size + 1 → (∀ c o, c ≠ z → c ≠ TO → c ≠ i1 → c ≠ i2 → s.heap.get? c = some o → g.get? c = some o) → R (some (.ref s.heap.objs.size)) { s with heap := g }) :
    wpAny (model prog w) A (pyNext (.ref z)) R E s := by
  have hT : s.TypeIs (.ref z) "zip" := ⟨_, Z.zz, rfl⟩; unfold pyNext
  exact wpAny_bind (wpAny_attempt (wpAny_callSpecial?_slot (name := Str.ofString "__next__") hT F.slot_zip_next (wpAny_call_entry F.slot_zip_next hT F.entry_zip_next (zm_item S1 S2 D Z hx hy fun g b1 b2 b3 b4 b5 b6 b7 => wpAny_pure (hR g b1 b2 b3 b4 b5 b6 b7)) (F.args_zip_next_1 _))))
theorem zm_stop (hh : A.handled = none) (S1 : ItStep prog w i1 l1 P1 xs) (S2 : ItStep prog w i2 l2 P2 ys) (D : ZipApart z TI TO i1 i2 l1 l2) {k : Nat} (Z : ZpAt s.heap z TI TO i1 i2 P1 P2 a b k) (hend : xs[k]? = none ∨ ys[k]? = none) {R : Option Value → Shared → Prop}
    (hR : ∀ g, (∀ c o, c ≠ z → c ≠ TO → c ≠ i1 → c ≠ i2 → s.heap.get? c = some o → g.get? c = some o) → R none { s with heap := g }) : wpAny (model prog w) A (pyNext (.ref z)) R E s := by
  have hT : s.TypeIs (.ref z) "zip" := ⟨_, Z.zz, rfl⟩; unfold pyNext
  refine wpAny_bind (wpAny_attempt (wpAny_callSpecial?_slot (name := Str.ofString "__next__") hT F.slot_zip_next (wpAny_call_entry F.slot_zip_next hT F.entry_zip_next (zm_end (A := A.in1) (show A.in1.handled = none from hh) S1 S2 D Z hend fun g e hk he => ?_) (F.args_zip_next_1 _))))
  obtain ⟨o, ho, hc⟩ := he
  exact wpAny_bind (wpAny_isInstance (T := "StopIteration") (b := true) ⟨o, ho, hc⟩ isSubtype_stop (wpAny_pure (hR _ hk)))
end
end Snd

set_option maxHeartbeats 1000000
namespace Snd
open PySem PySem.Spec PyProof.Rows L2
/-- the five objects of a new zip over a list and a tuple -/
abbrev zmA (h : Heap) (l1 : Addr) : Heap := h.push { cls := .type "list_iterator", data := .fields #[.ref l1, .int 0 0] }
abbrev zmB (h : Heap) (l1 l2 : Addr) : Heap := (zmA h l1).push { cls := .type "tuple_iterator", data := .fields #[.ref l2, .int 0 0] }
abbrev zmC (h : Heap) (l1 l2 : Addr) : Heap := (zmB h l1 l2).push { cls := .type "tuple", data := .seq #[.ref h.objs.size, .ref (zmA h l1).objs.size] }
abbrev zmD (h : Heap) (l1 l2 : Addr) : Heap := (zmC h l1 l2).push { cls := .type "tuple", data := .seq #[.none, .none] }
abbrev zmE (h : Heap) (l1 l2 : Addr) : Heap := (zmD h l1 l2).push { cls := .type "zip", data := .fields #[.none, .bool false, .bool false, .ref (zmB h l1 l2).objs.size, .ref (zmC h l1 l2).objs.size] }
theorem zm_new (l1 l2 : Addr) (xs ys : Array Value) :
    Meets (Builtin.«zip.__new__» ⟨[.type "zip", .ref l1, .ref l2], []⟩) (fun _ R s => s.heap.IsList l1 xs ∧ s.heap.IsTuple l2 ys ∧ R (.ok (.ret (.ref (zmD s.heap l1 l2).objs.size))) { s with heap := zmE s.heap l1 l2 }) :=
  .of_wp fun prog w A R s h => by
    obtain ⟨hp, g, d, tk, os⟩ := s; obtain ⟨q1, q2, h⟩ := h; have hsub := sub_zip
    have hL1 : Heap.IsList (Shared.heap ⟨hp, g, d, tk, os⟩) l1 xs := q1
    have hL2 : Heap.IsTuple (Shared.heap ⟨zmA hp l1, g, d, tk, os⟩) l2 ys := Heap.IsTuple.push q2 _
    wp_walk using wpAny_pyIter_list hL1, wpAny_pyIter_tuple hL2
    exact ⟨_, rfl, h⟩
section
variable {prog : Program} {w : World} {A : Around} {E : Value → Shared → Prop} {s : Shared}
theorem zm_call {l1 l2 : Addr} {xs ys : Array Value} {R : Value → Shared → Prop} (q1 : s.heap.IsList l1 xs) (q2 : s.heap.IsTuple l2 ys)
    (h : ∀ g, ZpAt g (s.heap.objs.size + 4) (s.heap.objs.size + 2) (s.heap.objs.size + 3) s.heap.objs.size (s.heap.objs.size + 1) (fun k h => h.IsListIter s.heap.objs.size l1 k ∧ h.IsList l1 xs) (fun k h => h.IsTupleIter (s.heap.objs.size + 1) l2 k ∧ h.IsTuple l2 ys) .none .none 0 →
      (∀ c o, s.heap.get? c = some o → g.get? c = some o) → R (.ref (s.heap.objs.size + 4)) { s with heap := g }) :
    wpAny (model prog w) A (call (.type "zip") [.ref l1, .ref l2]) R E s := by
  refine callType_new F.called_zip (by decide) (F.typeCall_zip_2 _ _) (F.newCall_zip_2 _ _) (fun obj => F.args_object_init_3 obj _ _) F.entry_zip_new (zm_new l1 l2 xs ys) ⟨q1, q2, ?_⟩
  have n1 : (zmA s.heap l1).objs.size = s.heap.objs.size + 1 := Heap.size_push ..
  have n2 : (zmB s.heap l1 l2).objs.size = s.heap.objs.size + 2 := by rw [Heap.size_push, n1]
  have n3 : (zmC s.heap l1 l2).objs.size = s.heap.objs.size + 3 := by rw [Heap.size_push, n2]
  have n4 : (zmD s.heap l1 l2).objs.size = s.heap.objs.size + 4 := by rw [Heap.size_push, n3]
  have e5 : (zmE s.heap l1 l2).get? (zmD s.heap l1 l2).objs.size = some _ := Heap.get?_push_size _ rfl
  have e4 : (zmE s.heap l1 l2).get? (zmC s.heap l1 l2).objs.size = some _ := Heap.get?_push_of_some _ (Heap.get?_push_size _ rfl)
  have e3 : (zmE s.heap l1 l2).get? (zmB s.heap l1 l2).objs.size = some _ := Heap.get?_push_of_some _ (Heap.get?_push_of_some _ (Heap.get?_push_size _ rfl))
  have e2 : (zmE s.heap l1 l2).get? (zmA s.heap l1).objs.size = some _ := Heap.get?_push_of_some _ (Heap.get?_push_of_some _ (Heap.get?_push_of_some _ (Heap.get?_push_size _ rfl)))
  have e1 : (zmE s.heap l1 l2).get? s.heap.objs.size = some _ := Heap.get?_push_of_some _ (Heap.get?_push_of_some _ (Heap.get?_push_of_some _ (Heap.get?_push_of_some _ (Heap.get?_push_size _ rfl))))
  have kp : ∀ c o, s.heap.get? c = some o → (zmE s.heap l1 l2).get? c = some o := fun c o x => Heap.get?_push_of_some _ (Heap.get?_push_of_some _ (Heap.get?_push_of_some _ (Heap.get?_push_of_some _ (Heap.get?_push_of_some _ x))))
  show _ ∧ _
  rw [n2, n3, n4] at e5; rw [n1, n2] at e3; rw [n3] at e4; rw [n1] at e2; rw [n4]
  exact ⟨⟨_, e5, rfl⟩, h _ ⟨e5, e3, e4, ⟨⟨_, e1, rfl, rfl⟩, q1.at fun o x => kp _ o x⟩, ⟨⟨_, e2, rfl, rfl⟩, q2.at fun o x => kp _ o x⟩⟩ kp⟩
end
/-- the list at a and the tuple at b as they stand at each turn -/
def ItzM (K : PySem.W.Frag) (a b : Addr) : It where
  go i H := ∃ (xs ys : List V) (x y : V), SqL K H a xs ∧ SqT K H b ys ∧ xs[i]? = some x ∧ ys[i]? = some y
  yld i H v H' := ∃ T x y, v = .ref T ∧ H T = none ∧ H' = upd H T (.tup [x, y]) ∧ (∀ xs, SqL K H a xs → xs[i]? = some x) ∧ ∀ ys, SqT K H b ys → ys[i]? = some y
  stop i H := ∃ xs ys : List V, SqL K H a xs ∧ SqT K H b ys ∧ (xs.length ≤ i ∨ ys.length ≤ i)
theorem five {c z TI TO i1 i2 : Addr} (h : c ∈ [z, TI, TO, i1, i2]) : c = z ∨ c = TI ∨ c = TO ∨ c = i1 ∨ c = i2 := by simpa using h
theorem turn_zm {P : Program} {w : World} {K : PySem.W.Frag} {elts : List Expr} {kk : Nat} {tpos : Pos} {a b z TI TO i1 i2 : Addr} (D : ZipApart z TI TO i1 i2 a b) :
    Turn P w K (.Tuple elts kk tpos) (ItzM K a b) [z, TI, TO, i1, i2] z (fun i h => IsZip h z TI TO .none ∧ IsPair h TI (.ref i1) (.ref i2) ∧ (∃ x y, IsPair h TO x y) ∧ h.IsListIter i1 a i ∧ h.IsTupleIter i2 b i) where
  mem := by simp
  obj := fun i h st c hc => by
    obtain ⟨s1, s2, ⟨x, y, s3⟩, ⟨o1, e1, _, d1⟩, ⟨o2, e2, _, d2⟩⟩ := st
    rcases five hc with rfl | rfl | rfl | rfl | rfl
    · exact ⟨_, s1, fun v q => nomatch q⟩
    · exact ⟨_, s2, fun v q => nomatch q⟩
    · exact ⟨_, s3, fun v q => nomatch q⟩
    · exact ⟨o1, e1, fun v q => by rw [d1] at q; cases q⟩
    · exact ⟨o2, e2, fun v q => by rw [d2] at q; cases q⟩
  keep := fun i h h' st k => by
    obtain ⟨s1, s2, ⟨x, y, s3⟩, s4, s5⟩ := st
    exact ⟨k z (by simp) _ s1, k TI (by simp) _ s2, ⟨x, y, k TO (by simp) _ s3⟩, s4.at fun o q => k i1 (by simp) o q, s5.at fun o q => k i2 (by simp) o q⟩
  item := by
    intro X hP hw hK hc i pins s σ H E I hf st hg
    subst hP hw hK
    obtain ⟨s1, s2, ⟨x0, y0, s3⟩, s4, s5⟩ := st
    obtain ⟨xs, ys, x, y, qx, qy, hx, hy⟩ := hg
    obtain ⟨its, rv, p, _⟩ := I.list qx
    obtain ⟨its2, rv2, p2, _⟩ := I.tuple qy
    obtain ⟨u, hu, ru⟩ := rv.get hx
    obtain ⟨u2, hu2, ru2⟩ := rv2.get hy
    have zl : z < s.heap.objs.size := Heap.lt_size s1
    have Z : ZpAt s.heap z TI TO i1 i2 (fun k h => h.IsListIter i1 a k ∧ h.IsList a its.toArray) (fun k h => h.IsTupleIter i2 b k ∧ h.IsTuple b its2.toArray) x0 y0 i := ⟨s1, s2, s3, ⟨s4, p.isList⟩, ⟨s5, p2⟩⟩
    refine zm_next (itr_list D.l1i1) (itr_tuple D.l2i2) D Z (x := u) (y := u2) (by simpa using hu) (by simpa using hu2) fun g gz gO g1 g2 gT gs gk => ?_
    refine ⟨_, rfl, wpAny_letOwnedTupleGo_zip (s := { s with heap := g }) gz fun g' z' sb => ?_⟩
    have hT2 : g'.get? s.heap.objs.size = some { cls := .type "tuple", data := .seq #[u, u2] } := (sb.2 _ (Nat.ne_of_gt zl)).trans gT
    have new : ObjOk X.prog X.w (upd H s.heap.objs.size (.tup [x, y])) g' s.heap.objs.size (.tup [x, y]) := ⟨by show 2 ≤ sizeLine; decide, [u, u2], .cons ru (.cons ru2 .nil), ⟨_, hT2, rfl, _, rfl⟩⟩
    have I1 : Inv X pins σ (upd H s.heap.objs.size (.tup [x, y])) { s with heap := g' } := I.turnedNew (t' := s.toks) (ch := [z, TI, TO, i1, i2]) (fun c o hb q => (sb.2 c (fun e => hb (by simp [e]))).trans (gk c o (fun e => hb (by simp [e])) (fun e => hb (by simp [e])) (fun e => hb (by simp [e])) (fun e => hb (by simp [e])) q)) hf (Nat.le_refl _) new
    refine ⟨.ref s.heap.objs.size, _, I1, rfl, ⟨_, x, y, rfl, I.hok.fresh (Nat.le_refl _), rfl, fun l hl => by rw [I.list_inj hl qx]; exact hx, fun l hl => by rw [I.tuple_inj hl qy]; exact hy⟩, ⟨z', (sb.2 _ D.TIz).trans (gk _ _ D.TIz D.TITO D.TIi1 D.TIi2 s2), ⟨u, u2, (sb.2 _ D.TOz).trans gO⟩, g1.1.at fun o q => (sb.2 _ D.i1z).trans q, g2.1.at fun o q => (sb.2 _ D.i2z).trans q⟩, fun c hcm => ?_⟩
    have lt : c < s.heap.objs.size := by
      rcases five hcm with rfl | rfl | rfl | rfl | rfl
      · exact zl
      · exact Heap.lt_size s2
      · exact Heap.lt_size s3
      · obtain ⟨_, q, _⟩ := s4; exact Heap.lt_size q
      · obtain ⟨_, q, _⟩ := s5; exact Heap.lt_size q
    rw [upd_ne (Nat.ne_of_lt lt)]; exact (hf c hcm).1
  done := by
    intro X hP hw hK hc i pins s σ H E I hf st hg
    subst hP hw hK
    obtain ⟨s1, s2, ⟨x0, y0, s3⟩, s4, s5⟩ := st
    obtain ⟨xs, ys, qx, qy, hend⟩ := hg
    obtain ⟨its, rv, p, _⟩ := I.list qx
    obtain ⟨its2, rv2, p2, _⟩ := I.tuple qy
    have n1 := rv.length; have n2 := rv2.length
    have Z : ZpAt s.heap z TI TO i1 i2 (fun k h => h.IsListIter i1 a k ∧ h.IsList a its.toArray) (fun k h => h.IsTupleIter i2 b k ∧ h.IsTuple b its2.toArray) x0 y0 i := ⟨s1, s2, s3, ⟨s4, p.isList⟩, ⟨s5, p2⟩⟩
    have he : its.toArray[i]? = none ∨ its2.toArray[i]? = none := hend.imp (fun q => by simp; omega) (fun q => by simp; omega)
    exact zm_stop (I.ok.hd hc) (itr_list D.l1i1) (itr_tuple D.l2i2) D Z he fun g gk => ⟨rfl, I.turnedL (t' := s.toks) (ch := [z, TI, TO, i1, i2]) (fun c o hb q => gk c o (fun e => hb (by simp [e])) (fun e => hb (by simp [e])) (fun e => hb (by simp [e])) (fun e => hb (by simp [e])) q) hf⟩
  self := fun A i s Q E st h => wpAny_pyIter_zip st.1 h
def iZipM (K : PySem.W.Frag) (ta : TA) : TI := fun σ H R => ta σ H fun vs H1 => ∃ a b xs ys, vs = [.ref a, .ref b] ∧ SqL K H1 a xs ∧ SqT K H1 b ys ∧ R (ItzM K a b) H1
theorem pi_zipM {X : Cx} {e e2 : Expr} {ta : TA} {p pos tpos : Pos} {elts : List Expr} {kk : Nat} (hg : Gl X "zip") (hm : X.mg "zip" = none) (ha : PA X [e, e2] ta) (hs : starEach [e, e2] X.env = (false, eval e X.env) :: starEach [e2] X.env := by rfl) (hpl : (backTo pos (starEach [e2] X.env)).any (·.1) = false := by rfl) :
    PI X (.Tuple elts kk tpos) (.Call (.Name "zip" p) [e, e2] [] pos) (iZipM X.K ta) := by
  refine ⟨fun pins s σ H R I h => Call_ (ld_blt I hg hm PyProof.Rows.boot_zip (PyProof.Rows.callWith_type1 (thn (ha.run pos pins s σ H _ I h) fun us s1 ⟨vs, H1, I1, r1, q1⟩ => ?_) hs hpl))⟩
  obtain ⟨a, b, xs, ys, rfl, qx, qy, q⟩ := q1
  cases r1 with
  | cons r rr =>
    cases rr with
    | cons r' rr =>
      cases rr; cases r; cases r'
      have fr : ∀ c, c ∈ [s1.heap.objs.size + 4, s1.heap.objs.size + 2, s1.heap.objs.size + 3, s1.heap.objs.size, s1.heap.objs.size + 1] → FpOk X pins H1 c := fun c hcm => by
        have le : s1.heap.objs.size ≤ c := by rcases five hcm with rfl | rfl | rfl | rfl | rfl <;> omega
        exact I1.fpOk le (I1.hok.fresh le)
      obtain ⟨its, rv, p1, _⟩ := I1.list qx
      obtain ⟨its2, rv2, p2, _⟩ := I1.tuple qy
      obtain ⟨o2, ho2, _⟩ := id p2
      refine zm_call p1.isList (show s1.heap.IsTuple b its2.toArray from p2) fun g Z hk => wpAny_pyIter_zip Z.zz ?_
      have I2 : Inv X pins σ H1 { s1 with heap := g } := I1.kept (t' := s1.toks) hk
      exact ⟨s1.heap.objs.size + 4, _, _, _, H1, rfl, I2, turn_zm (PySem.W.ktu_apart s1.heap.objs.size a b p1.lt (Heap.lt_size ho2)), ⟨Z.zz, Z.ti, ⟨_, _, Z.to⟩, Z.p1.1, Z.p2.1⟩, fr, q⟩
end Snd

namespace Snd
open PySem PySem.Spec PyProof.Rows L2
variable {X : Cx} {C : Ir.Calls}
/-! ### what is walked -/
structure Wk (K : PySem.W.Frag) (ρ0 : Rho) (H0 : Hp) (J : It) (xs : List Ir.D) : Prop where
  go : ∀ (i : Nat) (x : Ir.D) (ρ : Rho) (H : Hp) (st : Ir.Store), Ext ρ0 H0 ρ H → RS ρ K st H → xs[i]? = some x → J.go i H ∧ ∀ v H', J.yld i H v H' → Ext ρ H ρ H' ∧ RS ρ K st H' ∧ RD ρ K H' x v
  len : xs.length ≤ sizeLine
  stop : ∀ (i : Nat) (ρ : Rho) (H : Hp) (st : Ir.Store), Ext ρ0 H0 ρ H → RS ρ K st H → xs.length ≤ i → J.stop i H
theorem Wk.mono {K : PySem.W.Frag} {ρ ρ' : Rho} {H H' : Hp} {J : It} {xs : List Ir.D} (w : Wk K ρ H J xs) (e : Ext ρ H ρ' H') : Wk K ρ' H' J xs :=
  ⟨fun i x ρ1 H1 st e1 rs h => w.go i x ρ1 H1 st (e.trans e1) rs h, w.len, fun i ρ1 H1 st e1 rs h => w.stop i ρ1 H1 st (e.trans e1) rs h⟩
/-- data whose items are walked -/
def tSrc (C : Ir.Calls) (K : PySem.W.Frag) (e : Ir.Ex) : TI := fun σ H R => ∃ ρ env st p xs st', RS ρ K st H ∧ REnv ρ K H env σ ∧ Ir.eval C e env st = .ok (.d p) st' ∧ p.seq = some xs ∧ ∀ ρ' H' J, Ext ρ H ρ' H' → RS ρ' K st' H' → Wk K ρ' H' J xs → R J H'
abbrev SI (X : Cx) (C : Ir.Calls) (tg e : Expr) (ir : Ir.Ex) : Prop := PI X tg e (tSrc C X.K ir)
theorem pi_imp {tg e : Expr} {t t' : TI} (h : PI X tg e t) (w : ∀ σ H R, t' σ H R → t σ H R) : PI X tg e t' := ⟨fun pins s σ H R I q => h.run pins s σ H R I (w σ H R q)⟩
theorem pi_or {tg e : Expr} {t t' : TI} (h : PI X tg e t) (h' : PI X tg e t') : PI X tg e (fun σ H R => t σ H R ∨ t' σ H R) := ⟨fun pins s σ H R I q => by
  rcases q with q | q
  · exact h.run pins s σ H R I q
  · exact h'.run pins s σ H R I q⟩
theorem wk_list {K : PySem.W.Frag} {ρ : Rho} {H : Hp} {a : Addr} {xs : List Ir.D} {ys : List V} (h : H a = some (.lst ys)) (n : ¬ ρ.own a) (z : ys.length ≤ sizeLine) (r : RDs ρ K H xs ys) : Wk K ρ H (Itl K a) xs where
  len := by rw [r.length]; exact z
  go := fun i x ρ1 H1 st e rs hx => by
    obtain ⟨v, h1, h2⟩ := r.get hx
    have q : SqL K H1 a ys := SqL.of (e.fr _ _ h (own_no n))
    refine ⟨⟨ys, v, q, h1⟩, fun w H' hy => ?_⟩
    obtain ⟨rfl, hw⟩ := hy
    have := hw ys q
    rw [h1] at this; cases this
    exact ⟨.refl _ _, rs, h2.mono e⟩
  stop := fun i ρ1 H1 st e rs hl => ⟨ys, SqL.of (e.fr _ _ h (own_no n)), by rw [← r.length]; exact hl⟩
theorem wk_tup {K : PySem.W.Frag} {ρ : Rho} {H : Hp} {a : Addr} {xs : List Ir.D} {ys : List V} (h : TpAt ρ K H a ys) (z : ys.length ≤ sizeLine) (r : RDs ρ K H xs ys) : Wk K ρ H (Itt K a) xs where
  len := by rw [r.length]; exact z
  go := fun i x ρ1 H1 st e rs hx => by
    obtain ⟨v, h1, h2⟩ := r.get hx
    have q : SqT K H1 a ys := (h.mono e).sq
    refine ⟨⟨ys, v, q, h1⟩, fun w H' hy => ?_⟩
    obtain ⟨rfl, hw⟩ := hy
    have := hw ys q
    rw [h1] at this; cases this
    exact ⟨.refl _ _, rs, h2.mono e⟩
  stop := fun i ρ1 H1 st e rs hl => ⟨ys, (h.mono e).sq, by rw [← r.length]; exact hl⟩
theorem si_seq {tg e : Expr} {ir : Ir.Ex} (h : SE X C e ir) : SI X C tg e ir := by
  refine pi_imp (pi_or (pi_list h) (pi_tup h)) fun σ H R ⟨ρ, env, st, p, xs, st', rs, re, ev, hs, k⟩ => ?_
  cases p <;> simp only [Ir.D.seq, reduceCtorEq, Option.some.injEq] at hs
  · subst hs
    refine .inr ⟨ρ, env, st, _, st', rs, re, ev, fun ρ1 H1 X1 x1 rs1 rx => ?_⟩
    obtain ⟨a, ys, rfl, t, z, r⟩ := RD.tup_inv rx
    exact ⟨a, rfl, ⟨ys, t.sq⟩, k ρ1 H1 _ x1 rs1 (wk_tup t z r)⟩
  · subst hs
    refine .inl ⟨ρ, env, st, _, st', rs, re, ev, fun ρ1 H1 X1 x1 rs1 rx => ?_⟩
    cases rx with
    | lst h n z r => exact ⟨_, rfl, ⟨_, SqL.of h⟩, k ρ1 H1 _ x1 rs1 (wk_list h n z r)⟩
theorem wk_range {K : PySem.W.Frag} {ρ : Rho} {H : Hp} (lo : Int) (n : Nat) (z : n ≤ sizeLine) : Wk K ρ H (Itr lo n) (Ir.rangeL lo n) where
  len := by simpa [Ir.rangeL] using z
  go := fun i x ρ1 H1 st e rs hx => by
    have hi : i < n := by
      have := (List.getElem?_eq_some_iff.mp hx).1
      simpa [Ir.rangeL] using this
    have ex : x = .int (lo + (i : Nat)) := by
      simp only [Ir.rangeL, List.getElem?_map, List.getElem?_range hi, Option.map_some, Option.some.injEq] at hx
      exact hx.symm
    subst ex
    refine ⟨hi, fun w H' hy => ?_⟩
    obtain ⟨rfl, rfl⟩ := hy
    exact ⟨.refl _ _, rs, .int _⟩
  stop := fun i ρ1 H1 st e rs hl => by
    have : n ≤ i := by simpa [Ir.rangeL] using hl
    exact this
theorem si_range1 {tg e : Expr} {i : Ir.Ex} {p pos : Pos} (h : SE X C e i) (hm : X.mg (Str.ofString "range") = none) (hg : Gl X (Str.ofString "range") := by rfl) (hs : starEach [e] X.env = [(false, eval e X.env)] := by rfl) : SI X C tg (.Call (.Name (Str.ofString "range") p) [e] [] pos) (.blt .range [i]) := by
  refine pi_imp (pi_range1 hg hm (pa_cons h pa_nil hs) hs) fun σ H R ⟨ρ, env, st, q, xs, st', rs, re, ev, hseq, k⟩ => ?_
  simp only [Ir.eval, Ir.evals] at ev
  obtain ⟨vs, s1, e1, ev⟩ := bok ev
  obtain ⟨v, s2, e2, e1⟩ := bok e1
  simp only [Ir.Res.bind_ok] at e1
  cases e1
  obtain ⟨rfl, ds, r, h1, h2, h3⟩ := not_len (by decide) ev
  cases h3
  refine ⟨ρ, env, st, v, _, rs, re, e2, fun ρ1 H1 V1 x1 rs1 rv => ?_⟩
  have vd := VDs.derefs rs1 (.cons rv .nil) h1
  simp only [Ir.D.blt] at h2
  unfold Ir.D.bRange at h2
  split at h2
  · rename_i n
    split at h2
    · rename_i hn
      cases h2
      simp only [Ir.D.seq, Option.some.injEq] at hseq
      subst hseq
      cases vd with
      | cons vd t =>
        cases t
        have e0 : (Ir.LIM : Int) = 16777216 := by decide
        have e1 : sizeLine = 16777216 := by decide
        exact ⟨n, by rw [RD.int_inv vd], by omega, by omega, k ρ1 H1 _ x1 rs1 (wk_range 0 n.toNat (by omega))⟩
    · cases h2
  · cases vd with
    | cons _ t => cases t
  · cases h2
theorem si_range2 {tg e f : Expr} {i j : Ir.Ex} {p pos : Pos} (h : SE X C e i) (h' : SE X C f j) (hm : X.mg (Str.ofString "range") = none) (hg : Gl X (Str.ofString "range") := by rfl) (hs : starEach [e, f] X.env = [(false, eval e X.env), (false, eval f X.env)] := by rfl) (hs2 : starEach [f] X.env = [(false, eval f X.env)] := by rfl) : SI X C tg (.Call (.Name (Str.ofString "range") p) [e, f] [] pos) (.blt .range [i, j]) := by
  refine pi_imp (pi_range2 hg hm (pa_cons h (pa_cons h' pa_nil hs2) (by rw [hs, hs2])) hs hs2) fun σ H R ⟨ρ, env, st, q, xs, st', rs, re, ev, hseq, k⟩ => ?_
  simp only [Ir.eval, Ir.evals] at ev
  obtain ⟨vs, s1, e1, ev⟩ := bok ev
  obtain ⟨v, s2, e2, e1⟩ := bok e1
  obtain ⟨ws, s3, e3, e1⟩ := bok e1
  obtain ⟨w, s4, e4, e3⟩ := bok e3
  simp only [Ir.Res.bind_ok] at e3
  cases e3
  cases e1
  obtain ⟨rfl, ds, r, h1, h2, h3⟩ := not_len (by decide) ev
  cases h3
  refine ⟨ρ, env, st, v, _, rs, re, e2, fun ρ1 H1 V1 x1 rs1 rv => ⟨ρ1, env, _, w, _, rs1, re.mono x1, e4, fun ρ2 H2 W1 x2 rs2 rw' => ?_⟩⟩
  have vd := VDs.derefs rs2 (.cons (rv.mono x2) (.cons rw' .nil)) h1
  simp only [Ir.D.blt] at h2
  unfold Ir.D.bRange at h2
  split at h2
  · cases vd with
    | cons _ t => cases t
  · rename_i a b
    split at h2
    · rename_i hn
      cases h2
      simp only [Ir.D.seq, Option.some.injEq] at hseq
      subst hseq
      cases vd with
      | cons vd t =>
        cases t with
        | cons vd2 t =>
          cases t
          have e0 : (Ir.LIM : Int) = 16777216 := by decide
          have e1 : sizeLine = 16777216 := by decide
          exact ⟨a, b, by rw [RD.int_inv vd, RD.int_inv vd2], ⟨by omega, by omega, by omega, by omega⟩, k ρ2 H2 _ (x1.trans x2) rs2 (wk_range a (b - a).toNat (by omega))⟩
    · cases h2
  · cases h2
theorem zip_get {xs ys : List Ir.D} {i : Nat} {d : Ir.D} (h : (Ir.zipL xs ys)[i]? = some d) : ∃ x y, xs[i]? = some x ∧ ys[i]? = some y ∧ d = .tup [x, y] := by
  simp only [Ir.zipL, List.getElem?_map, Option.map_eq_some_iff] at h
  obtain ⟨p, h1, rfl⟩ := h
  rw [List.getElem?_zip_eq_some] at h1
  exact ⟨p.1, p.2, h1.1, h1.2, rfl⟩
theorem zip_len (xs ys : List Ir.D) : (Ir.zipL xs ys).length = min xs.length ys.length := by simp [Ir.zipL]
theorem wk_zip {K : PySem.W.Frag} {ρ : Rho} {H : Hp} {a b : Addr} {xs zs : List Ir.D} {ys ws : List V} (h : H a = some (.lst ys)) (n : ¬ ρ.own a) (z : ys.length ≤ sizeLine) (r : RDs ρ K H xs ys) (h' : H b = some (.lst ws)) (n' : ¬ ρ.own b) (r' : RDs ρ K H zs ws) : Wk K ρ H (Itz K a b) (Ir.zipL xs zs) where
  len := by rw [zip_len, r.length]; omega
  go := fun i d ρ1 H1 st e rs hd => by
    obtain ⟨x, y, hx, hy, rfl⟩ := zip_get hd
    obtain ⟨v, h1, h2⟩ := r.get hx
    obtain ⟨u, h3, h4⟩ := r'.get hy
    have q : SqL K H1 a ys := SqL.of (e.fr _ _ h (own_no n))
    have q' : SqL K H1 b ws := SqL.of (e.fr _ _ h' (own_no n'))
    refine ⟨⟨ys, ws, v, u, q, q', h1, h3⟩, fun w H' hw => ?_⟩
    obtain ⟨T, x', y', rfl, nT, rfl, f1, f2⟩ := hw
    have e1 := f1 ys q
    have e2 := f2 ws q'
    rw [h1] at e1; cases e1
    rw [h3] at e2; cases e2
    exact ⟨.grow rs nT _, rs.grow nT _, grow_tup rs (.cons (h2.mono e) (.cons (h4.mono e) .nil)) (by show 2 ≤ sizeLine; decide) nT⟩
  stop := fun i ρ1 H1 st e rs hl => by
    refine ⟨ys, ws, SqL.of (e.fr _ _ h (own_no n)), SqL.of (e.fr _ _ h' (own_no n')), ?_⟩
    rw [zip_len, r.length, r'.length] at hl
    omega
theorem wk_zipM {K : PySem.W.Frag} {ρ : Rho} {H : Hp} {a b : Addr} {xs zs : List Ir.D} {ys ws : List V} (h : H a = some (.lst ys)) (n : ¬ ρ.own a) (z : ys.length ≤ sizeLine) (r : RDs ρ K H xs ys) (h' : TpAt ρ K H b ws) (r' : RDs ρ K H zs ws) : Wk K ρ H (ItzM K a b) (Ir.zipL xs zs) where
  len := by rw [zip_len, r.length]; omega
  go := fun i d ρ1 H1 st e rs hd => by
    obtain ⟨x, y, hx, hy, rfl⟩ := zip_get hd
    obtain ⟨v, h1, h2⟩ := r.get hx
    obtain ⟨u, h3, h4⟩ := r'.get hy
    have q : SqL K H1 a ys := SqL.of (e.fr _ _ h (own_no n))
    have q' : SqT K H1 b ws := (h'.mono e).sq
    refine ⟨⟨ys, ws, v, u, q, q', h1, h3⟩, fun w H' hw => ?_⟩
    obtain ⟨T, x', y', rfl, nT, rfl, f1, f2⟩ := hw
    have e1 := f1 ys q
    have e2 := f2 ws q'
    rw [h1] at e1; cases e1
    rw [h3] at e2; cases e2
    exact ⟨.grow rs nT _, rs.grow nT _, grow_tup rs (.cons (h2.mono e) (.cons (h4.mono e) .nil)) (by show 2 ≤ sizeLine; decide) nT⟩
  stop := fun i ρ1 H1 st e rs hl => by
    refine ⟨ys, ws, SqL.of (e.fr _ _ h (own_no n)), (h'.mono e).sq, ?_⟩
    rw [zip_len, r.length, r'.length] at hl
    omega
theorem wk_zipT {K : PySem.W.Frag} {ρ : Rho} {H : Hp} {a b : Addr} {xs zs : List Ir.D} {ys ws : List V} (h : TpAt ρ K H a ys) (z : ys.length ≤ sizeLine) (r : RDs ρ K H xs ys) (h' : TpAt ρ K H b ws) (r' : RDs ρ K H zs ws) : Wk K ρ H (RZ.ItzT K a b) (Ir.zipL xs zs) where
  len := by rw [zip_len, r.length]; omega
  go := fun i d ρ1 H1 st e rs hd => by
    obtain ⟨x, y, hx, hy, rfl⟩ := zip_get hd
    obtain ⟨v, h1, h2⟩ := r.get hx
    obtain ⟨u, h3, h4⟩ := r'.get hy
    have q : SqT K H1 a ys := (h.mono e).sq
    have q' : SqT K H1 b ws := (h'.mono e).sq
    refine ⟨⟨ys, ws, v, u, q, q', h1, h3⟩, fun w H' hw => ?_⟩
    obtain ⟨T, x', y', rfl, nT, rfl, f1, f2⟩ := hw
    have e1 := f1 ys q
    have e2 := f2 ws q'
    rw [h1] at e1; cases e1
    rw [h3] at e2; cases e2
    exact ⟨.grow rs nT _, rs.grow nT _, grow_tup rs (.cons (h2.mono e) (.cons (h4.mono e) .nil)) (by show 2 ≤ sizeLine; decide) nT⟩
  stop := fun i ρ1 H1 st e rs hl => by
    refine ⟨ys, ws, (h.mono e).sq, (h'.mono e).sq, ?_⟩
    rw [zip_len, r.length, r'.length] at hl
    omega
/-! ### comprehensions -/
theorem si_zip {e f : Expr} {i j : Ir.Ex} {p pos tpos : Pos} {elts : List Expr} {kk : Nat} (h : SE X C e i) (h' : SE X C f j) (hm : X.mg (Str.ofString "zip") = none) (hg : Gl X (Str.ofString "zip") := by rfl) (hs : starEach [e, f] X.env = (false, eval e X.env) :: starEach [f] X.env := by rfl) (hs2 : starEach [f] X.env = (false, eval f X.env) :: starEach [] X.env := by rfl) (hpl : (backTo pos (starEach [f] X.env)).any (·.1) = false := by rfl) :
    SI X C (.Tuple elts kk tpos) (.Call (.Name (Str.ofString "zip") p) [e, f] [] pos) (.blt .zip [i, j]) := by
  refine pi_imp (pi_or (RZ.pi_zipA hg hm (pa_cons h (pa_cons h' pa_nil hs2) hs) hs hpl) (pi_zipM hg hm (pa_cons h (pa_cons h' pa_nil hs2) hs) hs hpl)) fun σ H R ⟨ρ, env, st, q, xs, st', rs, re, ev, hseq, k⟩ => ?_
  simp only [Ir.eval, Ir.evals] at ev
  obtain ⟨vs, s1, e1, ev⟩ := bok ev
  obtain ⟨v, s2, e2, e1⟩ := bok e1
  obtain ⟨ws, s3, e3, e1⟩ := bok e1
  obtain ⟨w, s4, e4, e3⟩ := bok e3
  simp only [Ir.Res.bind_ok] at e3
  cases e3
  cases e1
  obtain ⟨rfl, ds, r, h1, h2, h3⟩ := zip_inv ev
  cases h3
  have vv : ∃ p q, v = .d p ∧ w = .d q ∧ ds = [p, q] := by
    cases v <;> cases w <;> simp [Ir.asDs] at h1
    exact ⟨_, _, rfl, rfl, h1.symm⟩
  obtain ⟨p1, q1, rfl, rfl, rfl⟩ := vv
  unfold Ir.D.bZip at h2
  split at h2
  · rename_i as bs hq
    simp only [List.cons.injEq, and_true] at hq
    obtain ⟨rfl, rfl⟩ := hq
    cases h2
    simp only [Ir.D.seq, Option.some.injEq] at hseq
    subst hseq
    refine .inl ⟨ρ, env, st, _, _, rs, re, e2, fun ρ1 H1 V1 x1 rs1 rv => ⟨ρ1, env, _, _, _, rs1, re.mono x1, e4, fun ρ2 H2 W1 x2 rs2 rw' => ?_⟩⟩
    have rv2 : RD ρ2 X.K H2 (.lst as) V1 := RD.mono x2 rv
    have rw2 : RD ρ2 X.K H2 (.lst bs) W1 := rw'
    cases rv2 with
    | lst g1 g2 g3 g4 =>
      cases rw2 with
      | lst f1 f2 f3 f4 => exact ⟨_, _, _, _, rfl, .inl ⟨SqL.of g1, SqL.of f1, k ρ2 H2 _ (x1.trans x2) rs2 (wk_zip g1 g2 g3 g4 f1 f2 f4)⟩⟩
  · rename_i as bs hq
    simp only [List.cons.injEq, and_true] at hq
    obtain ⟨rfl, rfl⟩ := hq
    cases h2
    simp only [Ir.D.seq, Option.some.injEq] at hseq
    subst hseq
    refine .inl ⟨ρ, env, st, _, _, rs, re, e2, fun ρ1 H1 V1 x1 rs1 rv => ⟨ρ1, env, _, _, _, rs1, re.mono x1, e4, fun ρ2 H2 W1 x2 rs2 rw' => ?_⟩⟩
    have rv2 : RD ρ2 X.K H2 (.tup as) V1 := RD.mono x2 rv
    have rw2 : RD ρ2 X.K H2 (.tup bs) W1 := rw'
    obtain ⟨a, ys, rfl, t, z, r⟩ := RD.tup_inv rv2
    obtain ⟨b, zs, rfl, t', z', r'⟩ := RD.tup_inv rw2
    exact ⟨_, _, _, _, rfl, .inr ⟨t.sq, t'.sq, k ρ2 H2 _ (x1.trans x2) rs2 (wk_zipT t z r t' r')⟩⟩
  · rename_i as bs hq
    simp only [List.cons.injEq, and_true] at hq
    obtain ⟨rfl, rfl⟩ := hq
    cases h2
    simp only [Ir.D.seq, Option.some.injEq] at hseq
    subst hseq
    refine .inr ⟨ρ, env, st, _, _, rs, re, e2, fun ρ1 H1 V1 x1 rs1 rv => ⟨ρ1, env, _, _, _, rs1, re.mono x1, e4, fun ρ2 H2 W1 x2 rs2 rw' => ?_⟩⟩
    have rv2 : RD ρ2 X.K H2 (.lst as) V1 := RD.mono x2 rv
    have rw2 : RD ρ2 X.K H2 (.tup bs) W1 := rw'
    obtain ⟨b, zs, rfl, t', z', r'⟩ := RD.tup_inv rw2
    cases rv2 with
    | lst g1 g2 g3 g4 => exact ⟨_, _, _, _, rfl, SqL.of g1, t'.sq, k ρ2 H2 _ (x1.trans x2) rs2 (wk_zipM g1 g2 g3 g4 t' r')⟩
  · cases h2
/-! ### comprehensions -/
theorem sc_nil : SCs X C [] [] := pts_imp pts_nil fun σ H Q ⟨ρ, env, st, b, st', rs, re, ev, k⟩ => by
  simp only [Ir.conds] at ev; cases ev; exact k ρ H (.refl _ _) rs
theorem sc_one {e : Expr} {i : Ir.Ex} (h : ST X C e i) : SCs X C [e] [i] := pts_imp (pts_one h) fun σ H Q ⟨ρ, env, st, b, st', rs, re, ev, k⟩ => by
  simp only [Ir.conds] at ev
  obtain ⟨x, s1, e1, ev⟩ := bok ev
  obtain ⟨c, e2, ev2⟩ := ook ev
  obtain rfl := asB_ok e2
  have : b = c ∧ st' = s1 := by
    split at ev2
    · rename_i hc
      cases ev2
      exact ⟨hc.symm, rfl⟩
    · rename_i hc
      cases ev2
      exact ⟨by simpa using hc, rfl⟩
  obtain ⟨rfl, rfl⟩ := this
  exact ⟨ρ, env, st, b, st', rs, re, e1, k⟩
theorem wipe_get (σ : L2.St) (i : Nat) : ∀ vs : List Nat, (L2.wipe σ vs)[i]? = if i ∈ vs then (σ[i]?).map (fun _ => none) else σ[i]?
  | [] => by simp [L2.wipe]
  | v :: vs => by
    simp only [L2.wipe]
    by_cases e : v = i
    · subst e
      rw [List.getElem?_set, L2.wipe_length]
      simp only [if_true, List.mem_cons, true_or]
      by_cases h : v < σ.length
      · rw [if_pos h, List.getElem?_eq_getElem h]; rfl
      · rw [if_neg h, List.getElem?_eq_none (by omega)]; rfl
    · rw [List.getElem?_set_ne e, wipe_get σ i vs]
      have : i ∈ v :: vs ↔ i ∈ vs := by simp [Ne.symm e]
      simp only [this]
theorem wipe_idem (σ : L2.St) (vs : List Nat) : L2.wipe (L2.wipe σ vs) vs = L2.wipe σ vs := by
  apply List.ext_getElem?
  intro i
  rw [wipe_get, wipe_get]
  split
  · cases σ[i]? <;> rfl
  · rfl
/-- the turns of a comprehension -/
theorem comp_core {K : PySem.W.Frag} {J : It} {xs : List Ir.D} {tg : Ir.Tg} {cs : List Ir.Ex} {elt : Ir.Ex} {σ : L2.St} {env : Ir.Env} {ρ1 : Rho} {H1 : Hp} {s3 s8 : Ir.Store} {ys : List Ir.D} {D : Addr} {Qd : Hp → Prop} (rs1 : RS ρ1 K s3 H1) (re1 : REnv ρ1 K H1 env σ) (wk : Wk K ρ1 H1 J xs) (hD : H1 D = none)
    (ev : Ir.compL (Ir.compStep (Ir.eval C elt) (Ir.conds C cs) tg (Ir.wipe env tg.slots)) xs s3 = .ok ys s8)
    (k : ∀ ρ' H' zs, Ext ρ1 H1 ρ' H' → RS ρ' K s8 H' → D ∈ ρ'.res → H' D = some (.lst zs) → zs.length ≤ sizeLine → RDs ρ' K H' ys zs → Qd H') :
    ∃ W : Nat → Nat → Hp → Prop, (∃ m, W 0 m (upd H1 D (.lst []))) ∧ ∀ i m H, W i m H →
      (J.stop i H ∧ Qd H) ∨ (J.go i H ∧ ∃ Nx : Hp → Prop, (∀ H', Nx H' → ∃ m', m' < m ∧ W (i + 1) m' H') ∧ ∀ x H', J.yld i H x H' → tG K tg x (L2.wipe σ tg.slots) H' fun σ2 H2 => L2.wipe σ2 tg.slots = L2.wipe σ tg.slots ∧ tICs C K cs σ2 H2 fun b H3 =>
        if b = true then tI C K elt σ2 H3 fun y H4 => ∃ acc, H4 D = some (.lst acc) ∧ acc.length < sizeLine ∧ Nx (upd H4 D (.lst (acc ++ [y]))) else Nx H3) := by
  -- between the turns: D holds what is made so far; the rest of the run is known
  refine ⟨fun i m H => ∃ ρ st acc done rest, Ext ρ1 H1 ρ H ∧ RS ρ K st H ∧ D ∈ ρ.res ∧ H D = some (.lst acc) ∧ RDs ρ K H done acc ∧ acc.length ≤ i ∧ i ≤ xs.length ∧ m = xs.length - i ∧ ys = done ++ rest ∧
      Ir.compL (Ir.compStep (Ir.eval C elt) (Ir.conds C cs) tg (Ir.wipe env tg.slots)) (xs.drop i) st = .ok rest s8,
    ⟨xs.length, ρ1.keep D, s3, [], [], ys, .keep rs1 hD _, rs1.keep hD _, List.mem_cons_self, upd_same, .nil, Nat.zero_le _, Nat.zero_le _, by omega, rfl, ev⟩, ?_⟩
  rintro i m H ⟨ρ, st, acc, done, rest, x1, rs, hres, hacc, rd, hl, hi, rfl, rfl, ec⟩
  by_cases hlt : i < xs.length
  · have hx : xs[i]? = some xs[i] := List.getElem?_eq_getElem hlt
    have hdrop : xs.drop i = xs[i] :: xs.drop (i + 1) := List.drop_eq_getElem_cons hlt
    rw [hdrop] at ec
    simp only [Ir.compL] at ec
    obtain ⟨oy, s1, e1, ec⟩ := bok ec
    obtain ⟨rest1, s2, e2, ec⟩ := bok ec
    unfold Ir.compStep at e1
    obtain ⟨env1, e3, e1⟩ := ook e1
    obtain ⟨b, s5, e4, e1⟩ := bok e1
    obtain ⟨go, yl⟩ := wk.go i _ ρ H st x1 rs hx
    refine .inr ⟨go, fun H' => ∃ m', m' < xs.length - i ∧ ∃ ρ st acc done rest, Ext ρ1 H1 ρ H' ∧ RS ρ K st H' ∧ D ∈ ρ.res ∧ H' D = some (.lst acc) ∧ RDs ρ K H' done acc ∧ acc.length ≤ i + 1 ∧ i + 1 ≤ xs.length ∧ m' = xs.length - (i + 1) ∧ _ = done ++ rest ∧ _, fun H' h => h, fun v H2 hy => ?_⟩
    obtain ⟨x2, rs2, rx⟩ := yl v H2 hy
    have hacc2 : H2 D = some (.lst acc) := x2.fr _ _ hacc (rs.disj D hres)
    refine ⟨ρ, _, st, _, env1, rs2, ((re1.mono (x1.trans x2)).wipe tg.slots), rx, e3, fun ρ3 H3 σ3 x3 rs3 re3 on => ⟨?_, ρ3, env1, st, b, s5, rs3, re3, e4, fun ρ4 H4 x4 rs4 => ?_⟩⟩
    · have := on tg.slots fun _ q => q
      rw [this, wipe_idem]
    have hres3 : D ∈ ρ3.res := x3.rs D hres
    have hacc3 : H3 D = some (.lst acc) := x3.fr _ _ hacc2 (rs2.disj D hres)
    have hres4 : D ∈ ρ4.res := x4.rs D hres3
    have hacc4 : H4 D = some (.lst acc) := x4.fr _ _ hacc3 (rs3.disj D hres3)
    have x14 : Ext ρ1 H1 ρ4 H4 := ((x1.trans x2).trans x3).trans x4
    cases b with
    | false =>
      simp only [Bool.false_eq_true, if_false] at e1 ⊢
      cases e1
      simp only at ec
      cases ec
      exact ⟨xs.length - (i + 1), by omega, ρ4, _, acc, done, _, x14, rs4, hres4, hacc4, ((rd.mono x2).mono x3).mono x4, by omega, hlt, rfl, rfl, e2⟩
    | true =>
      simp only [if_true] at e1 ⊢
      obtain ⟨z, s6, e5, e1⟩ := bok e1
      obtain ⟨d, e6, e1⟩ := ook e1
      obtain rfl := asD_ok e6
      cases e1
      simp only at ec
      cases ec
      refine ⟨ρ4, env1, s5, _, _, rs4, re3.mono x4, e5, fun ρ5 H5 Y x5 rs5 ry => ?_⟩
      have hres5 : D ∈ ρ5.res := x5.rs D hres4
      have hacc5 : H5 D = some (.lst acc) := x5.fr _ _ hacc4 (rs4.disj D hres4)
      have hlen := wk.len
      refine ⟨acc, hacc5, by omega, xs.length - (i + 1), by omega, ρ5, _, acc ++ [Y], done ++ [d], _, (x14.trans x5).aside hD, rs5.aside hres5, hres5, upd_same, ?_, ?_, hlt, rfl, by simp, e2⟩
      · exact RDs.aside hres5 (((((rd.mono x2).mono x3).mono x4).mono x5).append (.cons ry .nil))
      · rw [List.length_append]; simp; omega
  · have e : i = xs.length := by omega
    subst e
    rw [List.drop_length] at ec
    simp only [Ir.compL] at ec
    cases ec
    rw [List.append_nil] at k
    have hlen := wk.len
    exact .inl ⟨wk.stop _ ρ H _ x1 rs (Nat.le_refl _), k ρ H acc x1 rs hres hacc (by omega) rd⟩
end Snd

namespace Snd
open PySem PySem.Spec PyProof.Rows L2
variable {X : Cx} {C : Ir.Calls}
/-! ### comprehensions -/
theorem tLc_of {K : PySem.W.Frag} {elt it : Ir.Ex} {tg : Ir.Tg} {cs : List Ir.Ex} {vs : List Nat} (hvs : vs = tg.slots) : ∀ σ H Q, tN C K (.comp elt tg it cs) σ H Q → tLc (tSrc C K it) (tG K tg) (tICs C K cs) (tI C K elt) vs σ H Q := by
  intro σ H Q ⟨ρ, env, st, ys, st', rs, re, ev, k⟩
  subst hvs
  simp only [Ir.eval] at ev
  obtain ⟨x, s1, e1, ev⟩ := bok ev
  obtain ⟨p, e2, ev1⟩ := ook ev
  clear ev
  obtain ⟨xs, e3, ev2⟩ := ook ev1
  clear ev1
  obtain ⟨zs, s8, e4, ev3⟩ := bok ev2
  clear ev2
  obtain rfl := asD_ok e2
  cases ev3
  exact ⟨ρ, env, st, p, xs, s1, rs, re, e1, e3, fun ρ1 H1 J x1 rs1 wk D hD => comp_core rs1 (re.mono x1) wk hD e4 fun ρ' H' ws x2 rs2 hr hh z r => k ρ' H' D ws (x1.trans x2) rs2 (x1.al D hD) hr hh z r⟩
theorem is_comp {elt it : Ir.Ex} {tg : Ir.Tg} {cs : List Ir.Ex} : ∀ env st v st', Ir.eval C (.comp elt tg it cs) env st = .ok v st' → ∃ xs, v = .d (.lst xs) := fun env st v st' ev => by
  simp only [Ir.eval] at ev
  obtain ⟨x, s1, e1, ev⟩ := bok ev
  obtain ⟨p, e2, ev⟩ := ook ev
  obtain ⟨xs, e3, ev⟩ := ook ev
  obtain ⟨zs, s8, e4, ev⟩ := bok ev
  cases ev
  exact ⟨_, rfl⟩
theorem sn_comp {elt tg iter : Expr} {ifs : List Expr} {scope : Scope} (own : List (Str × Nat)) {pos : Pos} {ie it : Ir.Ex} {t : Ir.Tg} {cs : List Ir.Ex} (hc : X.calm = true) (hN : X.N.Nodup) (hi : SI X C tg iter it) (ok : BlkOk X.N X.env.scope scope own)
    (hg : ∀ (s : Shared) (H : Hp) (Cc : Addr) (cl : List (Str × Addr)) (fp : List Addr), SG (X.blk s H scope (compEnvC scope cl Cc X.env) fp) tg t) (ht : ∀ (s : Shared) (H : Hp) (Cc : Addr) (cl : List (Str × Addr)) (fp : List Addr), SCs (X.blk s H scope (compEnvC scope cl Cc X.env) fp) C ifs cs)
    (he : ∀ (s : Shared) (H : Hp) (Cc : Addr) (cl : List (Str × Addr)) (fp : List Addr), SE (X.blk s H scope (compEnvC scope cl Cc X.env) fp) C elt ie) (hvs : own.map (·.2) = t.slots := by rfl) (hs : ∀ x, foldedSetIterable iter X.env x = pure x := by intro _; rfl) :
    SN X C (.ListComp elt [⟨tg, iter, ifs, 0⟩] scope pos) (.comp ie t it cs) := pe_imp (pe_lc hc hN hi ok hg ht he hs) (tLc_of hvs)
/-! ### statements -/
def Post (K : PySem.W.Frag) (D : Ends) (ρ : Rho) (H : Hp) (st' : Ir.Store) : Ir.Out → Prop
  | .nx env' => ∀ ρ' H' σ', Ext ρ H ρ' H' → RS ρ' K st' H' → REnv ρ' K H' env' σ' → D.nx σ' H'
  | .ret v => ∀ ρ' H' x, Ext ρ H ρ' H' → RS ρ' K st' H' → RV ρ' K H' v x → D.rt x H'
  | .brk env' => ∀ ρ' H' σ', Ext ρ H ρ' H' → RS ρ' K st' H' → REnv ρ' K H' env' σ' → D.bk σ' H'
  | .cnt env' => ∀ ρ' H' σ', Ext ρ H ρ' H' → RS ρ' K st' H' → REnv ρ' K H' env' σ' → D.ct σ' H'
theorem Post.mono {K : PySem.W.Frag} {D : Ends} {ρ ρ1 : Rho} {H H1 : Hp} {st' : Ir.Store} {o : Ir.Out} (x : Ext ρ H ρ1 H1) (h : Post K D ρ H st' o) : Post K D ρ1 H1 st' o := by
  cases o with
  | nx e => exact fun ρ' H' σ' x1 rs re => h ρ' H' σ' (x.trans x1) rs re
  | ret v => exact fun ρ' H' σ' x1 rs re => h ρ' H' σ' (x.trans x1) rs re
  | brk e => exact fun ρ' H' σ' x1 rs re => h ρ' H' σ' (x.trans x1) rs re
  | cnt e => exact fun ρ' H' σ' x1 rs re => h ρ' H' σ' (x.trans x1) rs re
def tS1 (C : Ir.Calls) (K : PySem.W.Frag) (s : Ir.Stm) : TS := fun D σ H => ∃ ρ env st o st', RS ρ K st H ∧ REnv ρ K H env σ ∧ Ir.exec C s env st = .ok o st' ∧ Post K D ρ H st' o
def tS (C : Ir.Calls) (K : PySem.W.Frag) (s : List Ir.Stm) : TS := fun D σ H => ∃ ρ env st o st', RS ρ K st H ∧ REnv ρ K H env σ ∧ Ir.execs C s env st = .ok o st' ∧ Post K D ρ H st' o
abbrev SS (X : Cx) (C : Ir.Calls) (st : Stmt) (s : Ir.Stm) : Prop := PS X st (tS1 C X.K s)
abbrev SSs (X : Cx) (C : Ir.Calls) (st : List Stmt) (s : List Ir.Stm) : Prop := PSs X st (tS C X.K s)
theorem ps_imp {st : Stmt} {t t' : TS} (h : PS X st t) (w : ∀ D σ H, t' D σ H → t D σ H) : PS X st t' := ⟨fun pins s σ H D I q => h.run pins s σ H D I (w D σ H q)⟩
theorem pss_imp {st : List Stmt} {t t' : TS} (h : PSs X st t) (w : ∀ D σ H, t' D σ H → t D σ H) : PSs X st t' := ⟨fun pins s σ H D I q => h.run pins s σ H D I (w D σ H q)⟩
theorem ps_or {st : Stmt} {t t' : TS} (h : PS X st t) (h' : PS X st t') : PS X st (fun D σ H => t D σ H ∨ t' D σ H) := ⟨fun pins s σ H D I q => by
  rcases q with q | q
  · exact h.run pins s σ H D I q
  · exact h'.run pins s σ H D I q⟩
theorem ss_nil : SSs X C [] [] := pss_imp pss_nil fun D σ H ⟨ρ, env, st, o, st', rs, re, ev, k⟩ => by
  simp only [Ir.execs] at ev
  cases ev
  exact k ρ H σ (.refl _ _) rs re
theorem ss_cons {st : Stmt} {rest : List Stmt} {s : Ir.Stm} {ss : List Ir.Stm} (h1 : SS X C st s) (h2 : SSs X C rest ss) : SSs X C (st :: rest) (s :: ss) := by
  refine pss_imp (pss_cons h1 h2) fun D σ H ⟨ρ, env, st, o, st', rs, re, ev, k⟩ => ?_
  simp only [Ir.execs] at ev
  obtain ⟨o1, s1, e1, ev⟩ := bok ev
  refine ⟨ρ, env, st, o1, s1, rs, re, e1, ?_⟩
  cases o1 with
  | nx env1 => exact fun ρ' H' σ' x1 rs1 re1 => ⟨ρ', env1, s1, o, st', rs1, re1, ev, k.mono x1⟩
  | ret v => simp only at ev; cases ev; exact k
  | brk v => simp only at ev; cases ev; exact k
  | cnt v => simp only at ev; cases ev; exact k
theorem ss_pass {pos : Pos} : SS X C (.Pass pos) .pass := ps_imp ps_pass fun D σ H ⟨ρ, env, st, o, st', rs, re, ev, k⟩ => by
  simp only [Ir.exec] at ev; cases ev; exact k ρ H σ (.refl _ _) rs re
theorem ss_brk {pos : Pos} : SS X C (.Break pos) .brk := ps_imp ps_break fun D σ H ⟨ρ, env, st, o, st', rs, re, ev, k⟩ => by
  simp only [Ir.exec] at ev; cases ev; exact k ρ H σ (.refl _ _) rs re
theorem ss_cnt {pos : Pos} : SS X C (.Continue pos) .cnt := ps_imp ps_continue fun D σ H ⟨ρ, env, st, o, st', rs, re, ev, k⟩ => by
  simp only [Ir.exec] at ev; cases ev; exact k ρ H σ (.refl _ _) rs re
theorem ss_never {st : Stmt} : SS X C st .never := ps_imp ps_never fun D σ H ⟨ρ, env, st, o, st', rs, re, ev, k⟩ => by
  simp only [Ir.exec] at ev; cases ev
theorem ss_ex {e : Expr} {i : Ir.Ex} {pos : Pos} (h : SE X C e i) (hs : swapsWith e none pos.line X.env = pure false := by rfl) : SS X C (.Expr e pos) (.ex i) := ps_imp (ps_expr h hs) fun D σ H ⟨ρ, env, st, o, st', rs, re, ev, k⟩ => by
  simp only [Ir.exec] at ev
  obtain ⟨v, s1, e1, ev⟩ := bok ev
  cases ev
  exact ⟨ρ, env, st, v, _, rs, re, e1, fun ρ1 H1 x x1 rs1 rx => k ρ1 H1 σ x1 rs1 (re.mono x1)⟩
theorem ss_ret {e : Expr} {i : Ir.Ex} {pos : Pos} (h : SE X C e i) : SS X C (.Return (some e) pos) (.ret i) := ps_imp (ps_ret h) fun D σ H ⟨ρ, env, st, o, st', rs, re, ev, k⟩ => by
  simp only [Ir.exec] at ev
  obtain ⟨v, s1, e1, ev⟩ := bok ev
  cases ev
  exact ⟨ρ, env, st, v, _, rs, re, e1, fun ρ1 H1 x x1 rs1 rx => k ρ1 H1 x x1 rs1 rx⟩
theorem ss_if {c : Expr} {a b : List Stmt} {ic : Ir.Ex} {ia ib : List Ir.Stm} {pos : Pos} (hc : ST X C c ic) (ha : SSs X C a ia) (hb : SSs X C b ib) : SS X C (.If c a b pos) (.ite ic ia ib) := by
  refine ps_imp (ps_if hc ha hb) fun D σ H ⟨ρ, env, st, o, st', rs, re, ev, k⟩ => ?_
  simp only [Ir.exec] at ev
  obtain ⟨x, s1, e1, ev⟩ := bok ev
  obtain ⟨c, e2, ev2⟩ := ook ev
  obtain rfl := asB_ok e2
  refine ⟨ρ, env, st, c, s1, rs, re, e1, fun ρ1 H1 x1 rs1 => ?_⟩
  cases c with
  | true =>
    simp only [if_true] at ev2 ⊢
    exact ⟨ρ1, env, s1, o, st', rs1, re.mono x1, ev2, k.mono x1⟩
  | false =>
    simp only [Bool.false_eq_true, if_false] at ev2 ⊢
    exact ⟨ρ1, env, s1, o, st', rs1, re.mono x1, ev2, k.mono x1⟩
theorem ss_set (i : Nat) {x : Str} {e : Expr} {ie : Ir.Ex} {pos pos' : Pos} (hN : X.N.Nodup) (he : SE X C e ie) (hx : Loc X.env.scope x := by first | exact .inl rfl | exact .inr rfl) (hi : X.N[i]? = some x := by rfl) (hs : swapsWith e (some (.Name x pos')) pos.line X.env = pure false := by rfl) (hf : X.fn x = true ∨ X.env.scope.names.lookup x = some .local := by first | exact .inl rfl | exact .inr rfl | assumption) :
    SS X C (.Assign [.Name x pos'] e pos) (.asg (.name i) ie) := by
  refine ps_imp (ps_set hN hi hx he hs hf) fun D σ H ⟨ρ, env, st, o, st', rs, re, ev, k⟩ => ?_
  simp only [Ir.exec] at ev
  obtain ⟨v, s1, e1, ev⟩ := bok ev
  obtain ⟨env1, e2, ev⟩ := ook ev
  cases ev
  simp only [Ir.Tg.putV, Option.some.injEq] at e2
  subst e2
  exact ⟨ρ, env, st, v, _, rs, re, e1, fun ρ1 H1 x x1 rs1 rx => k ρ1 H1 _ x1 rs1 ((re.mono x1).set rx i)⟩
theorem ss_setLc (i : Nat) {y : Str} {py : Pos} {elt tg iter : Expr} {ifs : List Expr} {scope : Scope} (own : List (Str × Nat)) {pos spos : Pos} {ie it ir : Ir.Ex} {t : Ir.Tg} {cs : List Ir.Ex} (hw : ∀ σ H Q, tI C X.K ir σ H Q → tN C X.K (.comp ie t it cs) σ H Q) (hc : X.calm = true) (hN : X.N.Nodup) (hi : SI X C tg iter it) (ok : BlkOk X.N X.env.scope scope own)
    (hg : ∀ (s : Shared) (H : Hp) (Cc : Addr) (cl : List (Str × Addr)) (fp : List Addr), SG (X.blk s H scope (compEnvC scope cl Cc X.env) fp) tg t) (ht : ∀ (s : Shared) (H : Hp) (Cc : Addr) (cl : List (Str × Addr)) (fp : List Addr), SCs (X.blk s H scope (compEnvC scope cl Cc X.env) fp) C ifs cs)
    (he : ∀ (s : Shared) (H : Hp) (Cc : Addr) (cl : List (Str × Addr)) (fp : List Addr), SE (X.blk s H scope (compEnvC scope cl Cc X.env) fp) C elt ie)
    (hsw : swapsWith (.ListComp elt [⟨tg, iter, ifs, 0⟩] scope pos) (some (.Name y py)) spos.line X.env = pure true) (hyl : X.env.scope.names.lookup y = some .local := by rfl) (hy : X.N[i]? = some y := by rfl) (hvs : own.map (·.2) = t.slots := by rfl) (hs : ∀ x, foldedSetIterable iter X.env x = pure x := by intro _; rfl) :
    SS X C (.Assign [.Name y py] (.ListComp elt [⟨tg, iter, ifs, 0⟩] scope pos) spos) (.asg (.name i) ir) := by
  refine ps_imp (ps_setLc (g := tG X.K t) (tt := tICs C X.K cs) (te := tI C X.K ie) hc hN hy hyl hsw hi ok hg ht he hs) fun D σ H ⟨ρ, env, st, o, st', rs, re, ev, k⟩ => ?_
  simp only [Ir.exec] at ev
  obtain ⟨v, s1, e1, ev⟩ := bok ev
  obtain ⟨env1, e2, ev⟩ := ook ev
  cases ev
  simp only [Ir.Tg.putV, Option.some.injEq] at e2
  subst e2
  refine tLc_of hvs σ H _ (hw σ H _ ⟨ρ, env, st, v, _, rs, re, e1, fun ρ1 H1 x x1 rs1 rx => ?_⟩)
  exact k ρ1 H1 _ x1 rs1 ((re.mono x1).set rx i)
theorem ss_asg {tg e : Expr} {t : Ir.Tg} {ie : Ir.Ex} {pos : Pos} (he : SE X C e ie) (hg : SG X tg t) (hn : ∀ i, t ≠ .name i := by intro i h; cases h) (hs : swapsWithSole [tg] e pos.line X.env = pure false := by rfl) (hw : swappedStores [tg] e X.env = pure none := by rfl) (h1 : (assignEach [tg] X.env).map (·.2) = [assign tg X.env] := by rfl) :
    SS X C (.Assign [tg] e pos) (.asg t ie) := by
  refine ps_imp (ps_asg he hg hs hw h1) fun D σ H ⟨ρ, env, st, o, st', rs, re, ev, k⟩ => ?_
  simp only [Ir.exec] at ev
  obtain ⟨v, s1, e1, ev⟩ := bok ev
  obtain ⟨env1, e2, ev⟩ := ook ev
  cases ev
  refine ⟨ρ, env, st, v, _, rs, re, e1, fun ρ1 H1 x x1 rs1 rx => ?_⟩
  cases v with
  | ref n => cases t <;> simp [Ir.Tg.putV] at e2; exact absurd rfl (hn _)
  | d y =>
    have e3 : t.put y env = some env1 := by
      cases t with
      | name i => exact absurd rfl (hn i)
      | tup ts => exact e2
      | star a b c => exact e2
    exact ⟨ρ1, env, _, y, env1, rs1, re.mono x1, rx, e3, fun ρ2 H2 σ2 x2 rs2 re2 _ => k ρ2 H2 σ2 (x1.trans x2) rs2 re2⟩
theorem ss_par (i j : Nat) {x y : Str} {a b : Expr} {ia ib : Ir.Ex} {px py pt pos : Pos} {kt k2 pt2} (hc : X.calm = true) (hN : X.N.Nodup) (ha : SE X C a ia) (hb : SE X C b ib)
    (hw : swappedStores [.Tuple [.Name x px, .Name y py] kt pt] (.Tuple [a, b] k2 pt2) X.env = pure (some [x, y]) := by rfl) (hij : i ≠ j := by decide) (hi : X.N[i]? = some x := by rfl) (hj : X.N[j]? = some y := by rfl)
    (hx : X.env.scope.names.lookup x = some .local := by rfl) (hy : X.env.scope.names.lookup y = some .local := by rfl)
    (hst : starEach [a, b] X.env = (false, eval a X.env) :: starEach [b] X.env := by rfl) (hst2 : starEach [b] X.env = (false, eval b X.env) :: starEach [] X.env := by rfl)
    (hs : swapsWithSole [.Tuple [.Name x px, .Name y py] kt pt] (.Tuple [a, b] k2 pt2) pos.line X.env = pure false := by rfl) :
    SS X C (.Assign [.Tuple [.Name x px, .Name y py] kt pt] (.Tuple [a, b] k2 pt2) pos) (.par i j ia ib) := by
  refine ps_imp (ps_par hc hN hi hj hij hx hy (pa_cons ha (pa_cons hb pa_nil hst2) hst) hw hs) fun D σ H ⟨ρ, env, st, o, st', rs, re, ev, k⟩ => ?_
  simp only [Ir.exec] at ev
  obtain ⟨v, s1, e1, ev⟩ := bok ev
  obtain ⟨u, s2, e2, ev⟩ := bok ev
  cases ev
  exact tI_two rs re e1 e2 fun ρ1 H1 X Y x1 rs1 rx ry => ⟨X, Y, rfl, k ρ1 H1 _ x1 rs1 (((re.mono x1).set rx i).set ry j)⟩
theorem ip_addI : PIp X .Add (ipI fun i j => i + j) := ip_add
theorem ss_aug (i : Nat) {x : Str} {e : Expr} {ie : Ir.Ex} {op : Operator} {o : Ir.Op} {g : Int → Int → Int} {pos pos' : Pos} (hN : X.N.Nodup) (ho : PIp X op (ipI g)) (hg : ∀ p q r, Ir.augI o p q = some r → r = g p q) (he : SE X C e ie) (hx : Loc X.env.scope x := by first | exact .inl rfl | exact .inr rfl) (hi : X.N[i]? = some x := by rfl) (hf : X.fn x = true ∨ X.env.scope.names.lookup x = some .local := by first | exact .inl rfl | exact .inr rfl | assumption) :
    SS X C (.AugAssign (.Name x pos') op e pos) (.aug i o ie) := by
  refine ps_imp (ps_aug hN hi hx he ho hf) fun D σ H ⟨ρ, env, st, ou, st', rs, re, ev, k⟩ => ?_
  simp only [Ir.exec] at ev
  split at ev
  · rename_i w hw
    obtain ⟨y, s1, e1, ev1⟩ := bok ev
    clear ev
    obtain ⟨p, e2, ev2⟩ := ook ev1
    clear ev1
    obtain ⟨q, e3, ev3⟩ := ook ev2
    clear ev2
    obtain ⟨r, e4, ev4⟩ := ook ev3
    clear ev3
    obtain rfl := asI_ok e2
    obtain rfl := asI_ok e3
    cases ev4
    obtain rfl := hg _ _ _ e4
    obtain ⟨z, h1, h2⟩ := re.2 i _ hw
    refine ⟨z, h1, ρ, env, st, _, _, rs, re, e1, fun ρ1 H1 Y x1 rs1 ry => ⟨p, q, RD.int_inv h2, RD.int_inv ry, k ρ1 H1 _ x1 rs1 ((re.mono x1).set (v := .d (.int _)) (.int _) i)⟩⟩
  · cases ev
theorem aug_add : ∀ p q r, Ir.augI .add p q = some r → r = p + q := fun p q r h => by simp [Ir.augI] at h; exact h.symm
theorem aug_sub : ∀ p q r, Ir.augI .sub p q = some r → r = p - q := fun p q r h => by simp [Ir.augI] at h; exact h.symm
/-- o[i] = e, a list or a dict -/
theorem ss_sub {o i e : Expr} {io ii ie : Ir.Ex} {pos pos' : Pos} {n : Nat} (hr : Room n X.A) (he : SE X C e ie) (ho : SE X C o io) (hi : SE X C i ii) (hs : swapsWithSole [.Subscript o i pos'] e pos.line X.env = pure false := by rfl) (hs2 : swapsWith e (some (.Subscript o i pos')) pos.line X.env = pure false := by rfl) (hw : swappedStores [.Subscript o i pos'] e X.env = pure none := by rfl) (h1 : (assignEach [.Subscript o i pos'] X.env).map (·.2) = [assign (.Subscript o i pos') X.env] := by rfl)
    (hasg : ∀ v, assign (.Subscript o i pos') X.env v = (do
      let ov ← holding [v] (eval o X.env)
      let iv ← holding [v, ov] (eval i X.env)
      standAt pos'
      holding [v, ov, iv] (setItem ov iv v)
      release [v, ov, iv] []) := by intro _; rfl) :
    SS X C (.Assign [.Subscript o i pos'] e pos) (.set io ii ie) := by
  refine ps_imp (ps_or (ps_asg he (pg_sub ho hi set_list hasg) hs hw h1) (ps_dput (hu_of hr) ho hi he hs2)) fun D σ H ⟨ρ, env, st, ou, st', rs, re, ev, k⟩ => ?_
  simp only [Ir.exec] at ev
  obtain ⟨v, s1, e1, ev⟩ := bok ev
  obtain ⟨x, s2, e2, ev⟩ := bok ev
  obtain ⟨y, s3, e3, ev⟩ := bok ev
  obtain ⟨d, e4, ev4⟩ := ook ev
  clear ev
  obtain ⟨s5, e5, ev5⟩ := ook ev4
  clear ev4
  obtain rfl := asD_ok e4
  cases ev5
  cases x with
  | d _ => simp [Ir.setV] at e5
  | ref m =>
    by_cases hd : ∃ kvs, s3[m]? = some (.dic kvs)
    · obtain ⟨kvs, hk⟩ := hd
      refine .inr ⟨ρ, env, st, _, s1, rs, re, e1, fun ρ1 H1 V1 x1 rs1 rv => ⟨ρ1, env, s1, _, s2, rs1, re.mono x1, e2, fun ρ2 H2 O x2 rs2 ro => ⟨ρ2, env, s2, y, s3, rs2, re.mono (x1.trans x2), e3, fun ρ3 H3 Y x3 rs3 ry => ?_⟩⟩⟩
      obtain ⟨a, rfl, h1, ks, h2, h3, h4⟩ := RV.cell rs3 (ro.mono x3) hk (by simp)
      cases y with
      | ref _ => simp [Ir.setV] at e5
      | d key =>
        have hkey : key.key = true ∧ kvs.length < Ir.LIM ∧ st' = s3.set m (.dic (Ir.putK kvs key d)) := by
          cases key <;> simp [Ir.setV, hk] at e5
          · exact ⟨rfl, e5.1, e5.2.symm⟩
          · exact ⟨rfl, e5.1, e5.2.symm⟩
        obtain ⟨hk1, hk2, rfl⟩ := hkey
        obtain ⟨k', hk3, rfl⟩ := RK.kv ry hk1
        have hlen : ks.length < sizeLine := by rw [← h4.length, ← lim_eq]; exact hk2
        have w : Ext ρ3 H3 ρ3 (upd H3 a (.dK (L2.putK ks k' V1))) := .write rs3 h1 _
        refine ⟨a, _, rfl, .k h2 hlen, ?_⟩
        refine k ρ3 _ _ (((x1.trans x2).trans x3).trans w) (rs3.write h1 ⟨_, upd_same, ?_, (h4.mono w).put hk3 (((rv.mono x2).mono x3).mono w)⟩) ((re.mono ((x1.trans x2).trans x3)).mono w)
        have := length_putK ks k' V1
        omega
    · refine .inl ⟨ρ, env, st, _, s1, rs, re, e1, fun ρ1 H1 V1 x1 rs1 rv => ⟨ρ1, env, s1, _, s2, rs1, re.mono x1, e2, fun ρ2 H2 O x2 rs2 ro => ⟨ρ2, env, s2, y, s3, rs2, re.mono (x1.trans x2), e3, fun ρ3 H3 Y x3 rs3 ry => ?_⟩⟩⟩
      cases y with
      | ref _ => simp [Ir.setV] at e5
      | d key =>
        cases key <;> simp only [Ir.setV, reduceCtorEq] at e5
        · rename_i z
          split at e5
          · rename_i xs hx
            simp only [Option.map_eq_some_iff] at e5
            obtain ⟨q, hq, rfl⟩ := e5
            obtain ⟨a, rfl, h1, ys, h2, h3, h4⟩ := RV.cell rs3 (ro.mono x3) hx (by simp)
            have w : Ext ρ3 H3 ρ3 (upd H3 a (.lst (ys.set q V1))) := .write rs3 h1 _
            refine ⟨a, ys, z, q, rfl, RD.int_inv ry, h2, by rw [← h4.length]; exact hq, ?_⟩
            exact k ρ3 _ _ (((x1.trans x2).trans x3).trans w) (rs3.write h1 ⟨_, upd_same, by rw [List.length_set]; exact h3, (h4.mono w).set (((rv.mono x2).mono x3).mono w) q⟩) ((re.mono ((x1.trans x2).trans x3)).mono w)
          · rename_i kvs hk
            exact absurd ⟨kvs, hk⟩ hd
          · cases e5
        · split at e5
          · rename_i kvs hk
            exact absurd ⟨kvs, hk⟩ hd
          · cases e5
end Snd

namespace Snd
open PySem PySem.Spec PyProof.Rows L2
variable {X : Cx} {C : Ir.Calls}
/-! ### loops -/
theorem ss_for {tg iter : Expr} {body : List Stmt} {t : Ir.Tg} {it : Ir.Ex} {ib : List Ir.Stm} {pos : Pos} (hp : PassesOwn (model X.prog X.w) X.A X.env X.xe) (hc : X.calm = true) (hi : SI X C tg iter it) (hg : SG X tg t) (hb : SSs X C body ib)
    (hs : ∀ x, foldedSetIterable iter X.env x = pure x := by intro _; rfl) : SS X C (.For tg iter body [] pos) (.loop t it ib) := by
  refine ps_imp (ps_for hp hc hi hg hb hs) fun D σ H ⟨ρ, env, st, o, st', rs, re, ev, k⟩ => ?_
  simp only [Ir.exec] at ev
  obtain ⟨x, s1, e1, ev1⟩ := bok ev
  clear ev
  obtain ⟨p, e2, ev2⟩ := ook ev1
  clear ev1
  obtain ⟨xs, e3, ev3⟩ := ook ev2
  clear ev2
  obtain rfl := asD_ok e2
  refine ⟨ρ, env, st, p, xs, s1, rs, re, e1, e3, fun ρ1 H1 J x1 rs1 wk => ?_⟩
  refine ⟨fun i m σ H' => ∃ ρ' env' st2, Ext ρ1 H1 ρ' H' ∧ RS ρ' X.K st2 H' ∧ REnv ρ' X.K H' env' σ ∧ i ≤ xs.length ∧ m = xs.length - i ∧ Ir.loopL t.putF (Ir.execs C ib) (xs.drop i) env' st2 = .ok o st',
    ⟨xs.length, ρ1, env, s1, .refl _ _, rs1, re.mono x1, Nat.zero_le _, by omega, ev3⟩, ?_⟩
  rintro i m σ2 H2 ⟨ρ2, env2, st2, x2, rs2, re2, hi2, rfl, el⟩
  by_cases hlt : i < xs.length
  · have hx : xs[i]? = some xs[i] := List.getElem?_eq_getElem hlt
    rw [List.drop_eq_getElem_cons hlt] at el
    simp only [Ir.loopL, Ir.Tg.putF_eq] at el
    obtain ⟨env3, e4, el1⟩ := ook el
    clear el
    obtain ⟨o1, s3, e5, el2⟩ := bok el1
    clear el1
    obtain ⟨go, yl⟩ := wk.go i _ ρ2 H2 st2 x2 rs2 hx
    refine .inr ⟨go, fun σ' H' => ∃ m', m' < xs.length - i ∧ ∃ ρ' env' st2, Ext ρ1 H1 ρ' H' ∧ RS ρ' X.K st2 H' ∧ REnv ρ' X.K H' env' σ' ∧ i + 1 ≤ xs.length ∧ m' = xs.length - (i + 1) ∧ Ir.loopL t.putF (Ir.execs C ib) (xs.drop (i + 1)) env' st2 = .ok o st', fun σ' H' h => h, fun v H3 hy => ?_⟩
    obtain ⟨x3, rs3, rx⟩ := yl v H3 hy
    refine ⟨ρ2, env2, st2, _, env3, rs3, re2.mono x3, rx, e4, fun ρ4 H4 σ4 x4 rs4 re4 _ => ⟨ρ4, env3, st2, o1, s3, rs4, re4, e5, ?_⟩⟩
    have x14 : Ext ρ1 H1 ρ4 H4 := (x2.trans x3).trans x4
    cases o1 with
    | nx env5 => exact fun ρ5 H5 σ5 x5 rs5 re5 => ⟨xs.length - (i + 1), by omega, ρ5, env5, s3, x14.trans x5, rs5, re5, hlt, rfl, el2⟩
    | cnt env5 => exact fun ρ5 H5 σ5 x5 rs5 re5 => ⟨xs.length - (i + 1), by omega, ρ5, env5, s3, x14.trans x5, rs5, re5, hlt, rfl, el2⟩
    | brk env5 =>
      simp only at el2
      cases el2
      exact fun ρ5 H5 σ5 x5 rs5 re5 => k ρ5 H5 σ5 ((x1.trans x14).trans x5) rs5 re5
    | ret w =>
      simp only at el2
      cases el2
      exact fun ρ5 H5 σ5 x5 rs5 re5 => k ρ5 H5 σ5 ((x1.trans x14).trans x5) rs5 re5
  · have e : i = xs.length := by omega
    subst e
    rw [List.drop_length] at el
    simp only [Ir.loopL] at el
    cases el
    exact .inl ⟨wk.stop _ ρ2 H2 _ x2 rs2 (Nat.le_refl _), k ρ2 H2 σ2 (x1.trans x2) rs2 re2⟩
theorem ss_while {c : Expr} {body : List Stmt} {ic : Ir.Ex} {ib : List Ir.Stm} {pos : Pos} (hp : PassesOwn (model X.prog X.w) X.A X.env X.xe) (hc : ST X C c ic) (hb : SSs X C body ib) : SS X C (.While c body [] pos) (.while ic ib) := by
  refine ps_imp (ps_while hp hc hb) fun D σ H ⟨ρ, env, st, o, st', rs, re, ev, k⟩ => ?_
  simp only [Ir.exec] at ev
  obtain ⟨nW, ev⟩ := Ir.whileU_ok ev
  refine ⟨fun m σ H' => ∃ ρ' env' st2, Ext ρ H ρ' H' ∧ RS ρ' X.K st2 H' ∧ REnv ρ' X.K H' env' σ ∧ Ir.whileL (Ir.condB (Ir.eval C ic)) (Ir.execs C ib) m env' st2 = .ok o st',
    ⟨nW, ρ, env, st, .refl _ _, rs, re, ev⟩, ?_⟩
  rintro m σ2 H2 ⟨ρ2, env2, st2, x2, rs2, re2, el⟩
  cases m with
  | zero => simp only [Ir.whileL] at el; cases el
  | succ m =>
    simp only [Ir.whileL] at el
    obtain ⟨b, s1, e1, el1⟩ := bok el
    clear el
    unfold Ir.condB at e1
    obtain ⟨x, s1', e2, e3⟩ := bok e1
    obtain ⟨e4, rfl⟩ := Ir.optR_ok e3
    obtain rfl := asB_ok e4
    refine ⟨ρ2, env2, st2, b, s1, rs2, re2, e2, fun ρ3 H3 x3 rs3 => ?_⟩
    cases b with
    | false =>
      simp only [Bool.false_eq_true, if_false] at el1 ⊢
      cases el1
      exact k ρ3 H3 σ2 (x2.trans x3) rs3 (re2.mono x3)
    | true =>
      simp only [if_true] at el1 ⊢
      obtain ⟨o1, s3, e5, el2⟩ := bok el1
      clear el1
      refine ⟨fun σ' H' => ∃ m', m' < m + 1 ∧ ∃ ρ' env' st2, Ext ρ H ρ' H' ∧ RS ρ' X.K st2 H' ∧ REnv ρ' X.K H' env' σ' ∧ Ir.whileL (Ir.condB (Ir.eval C ic)) (Ir.execs C ib) m' env' st2 = .ok o st', fun σ' H' h => h, ρ3, env2, s1, o1, s3, rs3, re2.mono x3, e5, ?_⟩
      have x13 := x2.trans x3
      cases o1 with
      | nx env5 => exact fun ρ5 H5 σ5 x5 rs5 re5 => ⟨m, Nat.lt_succ_self m, ρ5, env5, s3, x13.trans x5, rs5, re5, el2⟩
      | cnt env5 => exact fun ρ5 H5 σ5 x5 rs5 re5 => ⟨m, Nat.lt_succ_self m, ρ5, env5, s3, x13.trans x5, rs5, re5, el2⟩
      | brk env5 =>
        simp only at el2
        cases el2
        exact fun ρ5 H5 σ5 x5 rs5 re5 => k ρ5 H5 σ5 (x13.trans x5) rs5 re5
      | ret w =>
        simp only at el2
        cases el2
        exact fun ρ5 H5 σ5 x5 rs5 re5 => k ρ5 H5 σ5 (x13.trans x5) rs5 re5
/-! ### a def -/
theorem take_rs {ρ ρ1 : Rho} {K : PySem.W.Frag} {st1 : Ir.Store} {H H1 : Hp} (x : Ext ρ H ρ1 H1) (rs1 : RS ρ1 K st1 H1) : RS ⟨ρ1.ix.take ρ.ix.length, ρ.res⟩ K (st1.take ρ.ix.length) H1 ∧ Ext ρ H ⟨ρ1.ix.take ρ.ix.length, ρ.res⟩ H1 ∧ ∀ b, Rho.own ⟨ρ1.ix.take ρ.ix.length, ρ.res⟩ b → ρ1.own b := by
  have sub : ∀ b, Rho.own ⟨ρ1.ix.take ρ.ix.length, ρ.res⟩ b → ρ1.own b := fun b q => by
    rcases q with q | q
    · exact .inl (List.mem_of_mem_take q)
    · exact .inr (x.rs b q)
  have key : ∀ (n : Nat) (o : Option Addr), (ρ1.ix.take ρ.ix.length)[n]? = some o → n < ρ.ix.length ∧ ρ1.ix[n]? = some o := fun n o h => by
    rw [List.getElem?_take] at h
    split at h
    · exact ⟨by assumption, h⟩
    · cases h
  refine ⟨⟨?_, fun i j a hi hj => rs1.inj i j a (key i _ hi).2 (key j _ hj).2, fun n a hn => ?_, fun n hn => ?_, fun a ha => rs1.kept a (x.rs a ha), fun a ha q => rs1.disj a (x.rs a ha) (List.mem_of_mem_take q)⟩, ⟨x.fr, fun b q => ?_, ?_, fun n a q hl => x.ix n a (key n _ q).2 hl, fun _ q => q, fun a ha hn q => x.rn a ha hn (List.mem_of_mem_take q), x.al⟩, sub⟩
  · simp [rs1.len]
  · obtain ⟨h1, h2⟩ := key n _ hn
    obtain ⟨c, h3, h4⟩ := rs1.cell n a h2
    exact ⟨c, by rw [List.getElem?_take_of_lt h1]; exact h3, h4.sub sub⟩
  · obtain ⟨h1, h2⟩ := key n _ hn
    rw [List.getElem?_take_of_lt h1]
    exact rs1.dd n h2
  · rcases q with q | q
    · exact x.nw b (.inl (List.mem_of_mem_take q))
    · exact .inl (.inr q)
  · have := x.len
    simp
    omega
/-- the first m, and one more behind them -/
theorem pick_rs {ρ ρ1 : Rho} {K : PySem.W.Frag} {st1 : Ir.Store} {H H1 : Hp} {n : Nat} {oa : Option Addr} {c : Ir.Cell} (x : Ext ρ H ρ1 H1) (rs1 : RS ρ1 K st1 H1) (hn : ρ.ix.length ≤ n) (ho : ρ1.ix[n]? = some oa) (hc : st1[n]? = some c) :
    RS ⟨ρ1.ix.take ρ.ix.length ++ [oa], ρ.res⟩ K (st1.take ρ.ix.length ++ [c]) H1 ∧ Ext ρ H ⟨ρ1.ix.take ρ.ix.length ++ [oa], ρ.res⟩ H1 := by
  have hx := x.len
  have hlt : (ρ1.ix.take ρ.ix.length).length = ρ.ix.length := by simp; omega
  have hls : (st1.take ρ.ix.length).length = ρ.ix.length := by rw [List.length_take, rs1.len]; omega
  have mem : ∀ b : Addr, some b ∈ ρ1.ix.take ρ.ix.length ++ [oa] → some b ∈ ρ1.ix := fun b q => by
    rcases List.mem_append.mp q with q | q
    · exact List.mem_of_mem_take q
    · simp at q; rw [← q] at ho; exact List.mem_of_getElem? ho
  have sub : ∀ b, Rho.own ⟨ρ1.ix.take ρ.ix.length ++ [oa], ρ.res⟩ b → ρ1.own b := fun b q => by
    rcases q with q | q
    · exact .inl (mem b q)
    · exact .inr (x.rs b q)
  have key : ∀ (i : Nat) (o : Option Addr), (ρ1.ix.take ρ.ix.length ++ [oa])[i]? = some o → (i < ρ.ix.length ∧ ρ1.ix[i]? = some o) ∨ (i = ρ.ix.length ∧ o = oa) := fun i o hi => by
    by_cases hl : i < ρ.ix.length
    · rw [List.getElem?_append_left (by omega), List.getElem?_take_of_lt hl] at hi
      exact .inl ⟨hl, hi⟩
    · rw [List.getElem?_append_right (by omega), hlt] at hi
      cases z : i - ρ.ix.length with
      | zero => rw [z] at hi; simp at hi; exact .inr ⟨by omega, hi.symm⟩
      | succ k => rw [z] at hi; simp at hi
  have at1 : ∀ i : Nat, i < ρ.ix.length → (st1.take ρ.ix.length ++ [c])[i]? = st1[i]? := fun i hi => by
    rw [List.getElem?_append_left (by omega), List.getElem?_take_of_lt hi]
  have at2 : (st1.take ρ.ix.length ++ [c])[ρ.ix.length]? = some c := by
    rw [List.getElem?_append_right (by omega), hls]; simp
  refine ⟨⟨by simp [rs1.len], fun i j a hi hj => ?_, fun m a hm => ?_, fun m hm => ?_, fun a ha => rs1.kept a (x.rs a ha), fun a ha q => rs1.disj a (x.rs a ha) (mem a q)⟩, ⟨x.fr, fun b q => ?_, by simp; omega, fun m a q hl => ?_, fun _ q => q, fun a ha hn2 q => x.rn a ha hn2 (mem a q), x.al⟩⟩
  · rcases key i _ hi with ⟨h1, h2⟩ | ⟨h1, h2⟩ <;> rcases key j _ hj with ⟨h3, h4⟩ | ⟨h3, h4⟩
    · exact rs1.inj i j a h2 h4
    · rw [← h4] at ho
      have := rs1.inj i n a h2 ho
      omega
    · rw [← h2] at ho
      have := rs1.inj n j a ho h4
      omega
    · omega
  · rcases key m _ hm with ⟨h1, h2⟩ | ⟨h1, h2⟩
    · obtain ⟨c', h3, h4⟩ := rs1.cell m a h2
      exact ⟨c', (at1 m h1).trans h3, h4.sub sub⟩
    · rw [← h2] at ho
      obtain ⟨c', h3, h4⟩ := rs1.cell n a ho
      rw [hc] at h3; cases h3
      subst h1
      exact ⟨c, at2, h4.sub sub⟩
  · rcases key m _ hm with ⟨h1, h2⟩ | ⟨h1, h2⟩
    · exact (at1 m h1).trans (rs1.dd m h2)
    · rw [← h2] at ho
      have := rs1.dd n ho
      rw [hc] at this; cases this
      subst h1
      exact at2
  · rcases q with q | q
    · exact x.nw b (.inl (mem b q))
    · exact .inl (.inr q)
  · rcases key m _ q with ⟨h1, h2⟩ | ⟨h1, h2⟩
    · exact x.ix m a h2 hl
    · omega
theorem leave_ok {ρ ρ1 : Rho} {K : PySem.W.Frag} {st1 st' : Ir.Store} {H H1 : Hp} {v v' : Ir.Val} {y : V} (x : Ext ρ H ρ1 H1) (rs1 : RS ρ1 K st1 H1) (rv : RV ρ1 K H1 v y) (h : Ir.leave ρ.ix.length v st1 = .ok v' st') : ∃ ρ', Ext ρ H ρ' H1 ∧ RS ρ' K st' H1 ∧ RV ρ' K H1 v' y := by
  obtain ⟨t1, t2, sub⟩ := take_rs x rs1
  cases v with
  | d z =>
    simp only [Ir.leave] at h
    cases h
    exact ⟨_, t2, t1, RD.sub sub rv⟩
  | ref n =>
    simp only [Ir.leave] at h
    obtain ⟨h1, a, h2, h3⟩ := rv
    have hx := x.len
    split at h
    · rename_i hn
      cases h
      refine ⟨_, t2, t1, ?_, a, h2, fun b hb => h3 b ?_⟩
      · simp; omega
      · have hb : (ρ1.ix.take ρ.ix.length)[n]? = some (some b) := hb
        rw [List.getElem?_take_of_lt hn] at hb
        exact hb
    · rename_i hn
      split at h
      · rename_i c hc
        cases h
        have ho : ρ1.ix[n]? = some ρ1.ix[n] := List.getElem?_eq_getElem h1
        obtain ⟨q1, q2⟩ := pick_rs x rs1 (by omega) ho hc
        have hlt : (ρ1.ix.take ρ.ix.length).length = ρ.ix.length := by simp; omega
        refine ⟨_, q2, q1, by simp; omega, a, h2, fun b hb => h3 b ?_⟩
        have hb : (ρ1.ix.take ρ.ix.length ++ [ρ1.ix[n]])[ρ.ix.length]? = some (some b) := hb
        rw [List.getElem?_append_right (by omega), hlt] at hb
        simp at hb
        rw [ho, hb]
      · cases h
theorem start_ok {ρ : Rho} {K : PySem.W.Frag} {H : Hp} {N : List Str} {args : List Ir.Val} {vs : List V} (h : RVs ρ K H args vs) (m : Nat) (hm : m = N.length) : REnv ρ K H (args.map some ++ List.replicate (m - args.length) none) (L2.start N vs) := by
  subst hm
  have hl := h.length
  refine ⟨by simp [L2.start, hl], fun i v q => ?_⟩
  have gen : ∀ {args : List Ir.Val} {vs : List V}, RVs ρ K H args vs → ∀ (i : Nat) (v : Ir.Val), (args.map some)[i]? = some (some v) → ∃ x, (vs.map some)[i]? = some (some x) ∧ RV ρ K H v x := by
    intro args vs h
    induction h with
    | nil => intro i v q; simp at q
    | cons a r ih =>
      intro i v q
      cases i with
      | zero => simp at q; subst q; exact ⟨_, rfl, a⟩
      | succ i => simpa using ih i v (by simpa using q)
  by_cases hi : i < args.length
  · rw [List.getElem?_append_left (by simpa using hi)] at q
    obtain ⟨x, h1, h2⟩ := gen h i v q
    refine ⟨x, ?_, h2⟩
    unfold L2.start
    rw [List.getElem?_append_left (by simp; omega)]
    exact h1
  · rw [List.getElem?_append_right (by simp; omega)] at q
    rw [List.getElem?_replicate] at q
    split at q <;> simp at q
theorem fn_ok {P : Program} {w : World} {K : PySem.W.Frag} {mg : Str → Option Value} {base : Heap} {x qual : Str} {st : Stmt} {f : Addr} {fd : FuncData} {N ps : List Str} {T : Ir.Tab} {n : Nat} {name : String} {fn : Ir.Fn}
    (F : Fun K x qual st f fd) (S : FnScope N ps (defScope st)) (hT : T name = some fn) (hp : fn.pars = ps.length) (hN : fn.many = N.length)
    (hb : ∀ (cdv : Value) (A : Around) (outer : List Env) (s : Shared) (H : Hp) (E : XK), Room n (A.deeper (envOfC qual (defScope st) s.heap.objs.size f cdv)) → SSs (cxOf CX0 P w K mg base N qual (defScope st) f cdv A outer s H E).nox (Ir.callN T n) (defBody st) fn.body) :
    FnOk P w K mg base CX0 (n + 1) f fd ps (spI T (n + 1) K name) := by
  refine F.ok S (fun vs H Q E h => ?_) (fun cdv A outer s H vs Q E hr h => ?_)
  · obtain ⟨ρ, st, args, v, st', rs, ra, ev, k⟩ := h
    simp only [Ir.callN, hT, Ir.runFn] at ev
    split at ev
    · rename_i hc
      rw [← ra.length, hc.1, hp]
    · cases ev
  · obtain ⟨ρ, st, args, v, st', rs, ra, ev, k⟩ := h
    refine ⟨_, hb cdv A outer s H E hr, ?_⟩
    simp only [Ir.callN, hT, Ir.runFn] at ev
    split at ev
    · rename_i hc
      obtain ⟨o, s1, e1, ev1⟩ := bok ev
      have re := start_ok (N := N) ra fn.many hN
      rw [hc.1] at re
      refine ⟨ρ, _, st, o, s1, rs, re, e1, ?_⟩
      have hlen : st.length = ρ.ix.length := rs.len
      cases o with
      | nx env' =>
        intro ρ1 H1 σ1 x1 rs1 _
        rw [hlen] at ev1
        obtain ⟨ρ', x2, rs2, rv2⟩ := leave_ok (v := .d .non) (y := V.non) x1 rs1 RD.non ev1
        exact k ρ' H1 _ x2 rs2 rv2
      | ret u =>
        intro ρ1 H1 y x1 rs1 ry
        rw [hlen] at ev1
        obtain ⟨ρ', x2, rs2, rv2⟩ := leave_ok x1 rs1 ry ev1
        exact k ρ' H1 _ x2 rs2 rv2
      | brk _ => simp only at ev1; cases ev1
      | cnt _ => simp only at ev1; cases ev1
    · cases ev
theorem ft_zero {T : Ir.Tab} {KW : List Kw} {P : Program} {w : World} {K : PySem.W.Frag} {mg : Str → Option Value} {base : Heap} (h : ∀ f fn, T f = some fn → ∃ a fd ps, mg (Str.ofString f) = some (.ref a) ∧ PySem.W.keepIn K (.ref a) = true ∧ Binds K fd ps [] ∧ ∀ q ∈ KW, q.1 = f → KwOk K fd ps q) : FT T KW 0 P w K mg base := ⟨fun f fn hT => by
  obtain ⟨a, fd, ps, h1, h2, h3⟩ := h f fn hT
  have no : ∀ vs H Q E, ¬ spI T 0 K f vs H Q E := fun vs H Q E ⟨ρ, st, args, v, st', rs, ra, ev, k⟩ => by simp only [Ir.callN] at ev; cases ev
  exact ⟨a, fd, ps, ⟨fun vs H Q E h => absurd h (no vs H Q E), fun A outer s H args us vs Q E _ _ _ _ h => absurd h (no vs H Q E)⟩, h1, h2, h3⟩⟩
/-! ### the law's own call -/
theorem law_sp {T : Ir.Tab} {n : Nat} {K : PySem.W.Frag} {H : Hp} {a : Addr} {ns : List Int} (hO : Only H) (hS : SqL K H a (ns.map V.int)) (hl : ns.length ≤ 63) {st' : Ir.Store} (ev : Ir.callN T n "law" [.d (.ro (ns.map Ir.D.int))] [] = .ok (.d (.bool true)) st') :
    spI T n K "law" [.ref a] H (fun v _ => v = .bl true) fun _ _ _ => False := by
  have r : RDs ⟨[], []⟩ K H (ns.map Ir.D.int) (ns.map V.int) := by
    clear hl ev hS
    induction ns with
    | nil => exact .nil
    | cons i r ih => exact .cons (.int i) ih
  have hla : LrAt ⟨[], []⟩ K H a (ns.map V.int) := by
    rcases hS with h | h
    · rcases h with h | ⟨o, h⟩
      · rcases hO a with q | ⟨o, xs, q⟩
        · rw [q] at h; cases h
        · rw [q] at h; cases h
      · exact .inl ⟨⟨o, h⟩, by rintro (q | q) <;> simp at q⟩
    · exact .inr h
  have hz : (ns.map V.int).length ≤ sizeLine := by
    rw [List.length_map]
    exact Nat.le_trans hl (by decide)
  refine ⟨⟨[], []⟩, [], [.d (.ro (ns.map Ir.D.int))], _, st', ⟨rfl, fun i j b h => by simp at h, fun m b h => by simp at h, fun m h => by simp at h, fun b h => by simp at h, fun b h => by simp at h⟩, .cons (show RV _ K H (.d (.ro (ns.map Ir.D.int))) (.ref a) from RD.ro hla hz r) .nil, ev, fun ρ' H' x _ _ rx => RD.bool_inv rx⟩
end Snd

namespace Snd
open PySem PySem.Spec PyProof.Rows L2
/-! ### the built-in names -/
theorem bv_len : bootBuiltins (Str.ofString "len") = some (.builtin "len") := by decide +kernel
theorem bv_abs : bootBuiltins (Str.ofString "abs") = some (.builtin "abs") := by decide +kernel
theorem bv_all : bootBuiltins (Str.ofString "all") = some (.builtin "all") := by decide +kernel
theorem bv_any : bootBuiltins (Str.ofString "any") = some (.builtin "any") := by decide +kernel
theorem bv_sum : bootBuiltins (Str.ofString "sum") = some (.builtin "sum") := by decide +kernel
theorem bv_min : bootBuiltins (Str.ofString "min") = some (.builtin "min") := by decide +kernel
theorem bv_max : bootBuiltins (Str.ofString "max") = some (.builtin "max") := by decide +kernel
theorem bv_tuple : bootBuiltins (Str.ofString "tuple") = some (.type "tuple") := by decide +kernel
theorem bv_list : bootBuiltins (Str.ofString "list") = some (.type "list") := by decide +kernel
theorem bv_int : bootBuiltins (Str.ofString "int") = some (.type "int") := by decide +kernel
theorem bv_bool : bootBuiltins (Str.ofString "bool") = some (.type "bool") := by decide +kernel
theorem bv_str : bootBuiltins (Str.ofString "str") = some (.type "str") := by decide +kernel
theorem fun_kw {K : PySem.W.Frag} {x qual : Str} {st : Stmt} {f : Addr} {fd : FuncData} {ps : List Str} (F : Fun K x qual st f fd) (q : Kw)
    (h : ∀ (kV doc pm : Value) (an : Option Addr) (cdv ct : Value) (us ws : List Value), us.length = q.2.1 → ws.length = q.2.2.1.length → bindArgs (PySem.W.fnOf x qual (defArgs st) (defBody st) (defScope st) .none kV doc pm an cdv ct) ⟨us, q.2.2.1.zip ws⟩ = pure (ps.zip (permV q.2.2.2 (us ++ ws)))) : KwOk K fd ps q := by
  obtain ⟨oc, od, kV, doc, pm, an, cdv, ct, osl, rfl, lk, hcd⟩ := F.ex
  exact fun s us ws _ h1 h2 => .of_eq (h kV doc pm an cdv ct us ws h1 h2)
end Snd

namespace Snd
open PySem PySem.Spec PyProof.Rows L2
variable {X : Cx} {C : Ir.Calls}
/-! ### dict(pairs) -/
theorem merge_pairs {ρ : Rho} {K : PySem.W.Frag} {H : Hp} : ∀ {xs : List Ir.D} {ys : List V} {acc kvs : List (Ir.D × Ir.D)} {ks : List (Key × V)}, RDs ρ K H xs ys → Ir.mergeP acc xs = some kvs → RKs ρ K H acc ks →
    ∃ (ps : List Addr) (prs : List (Key × V)), ys = ps.map V.ref ∧ Paired (fun p kv => SqT K H p [kV kv.1, kv.2]) ps prs ∧ RKs ρ K H kvs (mergeK ks prs) ∧ prs.length = ys.length
  | [], _, acc, kvs, ks, .nil, e, r => by
    simp only [Ir.mergeP] at e
    cases e
    exact ⟨[], [], rfl, .nil, r, rfl⟩
  | x :: xs, _, acc, kvs, ks, .cons h t, e, r => by
    unfold Ir.mergeP at e
    split at e
    · rename_i hh; cases hh
    · rename_i k v q hh
      cases hh
      split at e
      · rename_i hk
        obtain ⟨a, ys, rfl, tp, z, rr⟩ := RD.tup_inv h
        cases rr with
        | cons rk rr =>
          cases rr with
          | cons rv rr =>
            cases rr
            obtain ⟨k', h1, rfl⟩ := RK.kv rk hk
            obtain ⟨ps, prs, rfl, h2, h3, h4⟩ := merge_pairs t e (r.put h1 rv)
            exact ⟨a :: ps, (k', _) :: prs, rfl, .cons tp.sq h2, h3, by simp [h4]⟩
      · cases e
    · cases e
theorem se_dictP {e : Expr} {i : Ir.Ex} {p pos : Pos} (hcalm : X.calm = true) (h : SE X C e i) (hm : X.mg (Str.ofString "dict") = none) (hv : bootBuiltins (Str.ofString "dict") = some (.type "dict")) (hg : Gl X (Str.ofString "dict") := by rfl)
    (he : starEach [e] X.env = (false, eval e X.env) :: starEach [] X.env := by rfl) (hpl : (backTo pos (starEach [] X.env)).any (·.1) = false := by rfl) :
    SE X C (.Call (.Name (Str.ofString "dict") p) [e] [] pos) (.newDP i) := by
  refine pe_imp (pe_callTy (call_dictP hcalm) hg hm hv (pa_cons h pa_nil he) (by decide) (by decide) he hpl) fun σ H Q ⟨ρ, env, st, v, st', rs, re, ev, k⟩ => ?_
  simp only [Ir.eval] at ev
  obtain ⟨w, s1, e1, ev⟩ := bok ev
  split at ev
  · rename_i xs
    split at ev
    · rename_i kvs hk
      cases ev
      refine ⟨ρ, env, st, _, s1, rs, re, e1, fun ρ1 H1 V1 x1 rs1 rv => ?_⟩
      obtain ⟨a, ys, rfl, t, z, r⟩ : ∃ a ys, V1 = .ref a ∧ H1 a = some (.lst ys) ∧ ys.length ≤ sizeLine ∧ RDs ρ1 X.K H1 xs ys := by
        cases rv with
        | lst h1 h2 h3 h4 => exact ⟨_, _, rfl, h1, h3, h4⟩
      obtain ⟨ps, prs, rfl, h2, h3, h4⟩ := merge_pairs r hk .nil
      refine ⟨a, ps, prs, rfl, SqL.of t, h2, fun p hp => ?_⟩
      have hz : (mergeK [] prs).length ≤ sizeLine := by
        refine Nat.le_trans (length_mergeK prs []) ?_
        rw [List.length_nil, Nat.zero_add, h4]
        exact z
      have w : Ext ρ1 H1 (ρ1.push p) (upd H1 p (.dK (mergeK [] prs))) := .push rs1 hp _
      refine k (ρ1.push p) _ _ (x1.trans w) (rs1.push hp ⟨_, upd_same, hz, h3.mono w⟩) ⟨by simp [Rho.push, rs1.len], p, rfl, fun b hb => ?_⟩
      simp only [Rho.push] at hb
      rw [rs1.len, List.getElem?_append_right (Nat.le_refl _)] at hb
      simp at hb
      exact hb.symm
    · cases ev
  · cases ev
theorem bv_dict : bootBuiltins (Str.ofString "dict") = some (.type "dict") := by decide +kernel
end Snd

set_option maxHeartbeats 2000000
namespace Snd
open PySem PySem.Spec PyProof.Rows L2
/-! list(zip(a, b)) of two tuples -/
theorem ad_ne {a b c : Addr} (h : a ≤ b) (k : b < c) : c ≠ a := Nat.ne_of_gt (Nat.lt_of_le_of_lt h k)
theorem ad_ne2 {a b c : Addr} (h : a < b) (k : b < c) : c ≠ a := Nat.ne_of_gt (Nat.lt_trans h k)
section
variable {prog : Program} {w : World} {A : Around} {E : Value → Shared → Prop} {s : Shared}
variable {z TI TO i1 i2 l1 l2 : Addr} {P1 P2 : Nat → Heap → Prop} {xs ys : Array Value}
/-- the zip while a pair T that it gave out is still held -/
structure ZhAt (h : Heap) (z TI TO i1 i2 T : Addr) (f : Bool) (P1 P2 : Nat → Heap → Prop) (k : Nat) : Prop where
  zz : IsZipHeld h z TI TO T f
  tt : ∃ oT, h.get? T = some oT
  ti : IsPair h TI (.ref i1) (.ref i2)
  p1 : P1 k h
  p2 : P2 k h
theorem zh_item (S1 : ItStep prog w i1 l1 P1 xs) (S2 : ItStep prog w i2 l2 P2 ys) (D : ZipApart z TI TO i1 i2 l1 l2) {k : Nat} {T : Addr} {f : Bool} {x y : Value} (Z : ZhAt s.heap z TI TO i1 i2 T f P1 P2 k) (hx : xs[k]? = some x) (hy : ys[k]? = some y) {Q : Value → Shared → Prop}
    (hQ : ∀ h', IsZipHeld h' z TI TO T true → P1 (k + 1) h' → P2 (k + 1) h' → IsPair h' s.heap.objs.size x y → h'.objs.size = s.heap.objs.size + 1 →
      (∀ c o, c ≠ z → c ≠ i1 → c ≠ i2 → s.heap.get? c = some o → h'.get? c = some o) → Q (.ref s.heap.objs.size) { s with heap := h' }) :
    wpAny (model prog w) A (Builtin.«zip.__next__» ⟨[.ref z], []⟩) (fun fin s' => ∃ v, fin = .done (.ret v) ∧ Q v s') E s := by
  have hz := Z.zz; obtain ⟨oT, hT⟩ := Z.tt; have hTI := Z.ti
  show wpAny _ _ (field (.ref z) 2 >>= _) _ _ _
  refine wpAny_bind (wpAny_field hz rfl (x := .bool false) rfl ?_)
  show wpAny _ _ (field (.ref z) 3 >>= _) _ _ _
  refine wpAny_bind (wpAny_field hz rfl (x := .ref TI) rfl ?_)
  refine wpAny_bind (wpAny_seqItems hTI rfl ?_)
  show wpAny _ _ (Builtin.SmallTypes.ownedTupleIsFree (.ref z) >>= _) _ _ _
  refine wpAny_bind (wpAny_tupleHeld_zip hz hT fun h₁ hz₁ hs₁ => ?_)
  simp only [Bool.false_eq_true, if_false]
  refine wpAny_bind ?_
  rw [← Array.forIn_toList]
  simp only [List.forIn_cons, List.forIn_nil]
  refine wpAny_bind (wpAny_bind (wpAny_holding ?_))
  show wpAny _ _ (Builtin.SmallTypes.nextOf (.ref i1) >>= _) _ _ _
  refine wpAny_bind (S1.next (t := { s with heap := h₁ }) (S1.stay Z.p1 (fun o q => hs₁.extBut _ _ D.i1z q) (fun o q => hs₁.extBut _ _ D.l1z q)) hx fun h₂ p12 hs₂ => wpAny_pure ?_)
  refine wpAny_pure ?_
  refine wpAny_bind (wpAny_bind (wpAny_holding ?_))
  show wpAny _ _ (Builtin.SmallTypes.nextOf (.ref i2) >>= _) _ _ _
  refine wpAny_bind (S2.next (t := { s with heap := h₂ }) (S2.stay Z.p2 (fun o q => hs₂.extBut _ _ D.i12.symm (hs₁.extBut _ _ D.i2z q)) (fun o q => hs₂.extBut _ _ D.l2i1 (hs₁.extBut _ _ D.l2z q))) hy fun h₃ p23 hs₃ => wpAny_pure ?_)
  refine wpAny_pure (wpAny_pure ?_)
  show wpAny _ _ (newTuple [x, y] >>= _) _ _ _
  refine wpAny_bind (wpAny_newTuple ?_)
  have hsz : h₃.objs.size = s.heap.objs.size := by rw [hs₃.1, hs₂.1, hs₁.1]
  have hz₃ : IsZipHeld h₃ z TI TO T true := hs₃.extBut _ _ D.i2z.symm (hs₂.extBut _ _ D.i1z.symm hz₁)
  have hk : ∀ c o, c ≠ z → c ≠ i1 → c ≠ i2 → s.heap.get? c = some o → h₃.get? c = some o := fun c o c1 c2 c3 e => hs₃.extBut _ _ c3 (hs₂.extBut _ _ c2 (hs₁.extBut _ _ c1 e))
  have p13 : P1 (k + 1) h₃ := S1.stay p12 (fun o q => hs₃.extBut _ _ D.i12 q) (fun o q => hs₃.extBut _ _ D.l1i2 q)
  refine wpAny_pure ⟨_, rfl, ?_⟩
  show Q (.ref h₃.objs.size) _
  have hp : IsPair (h₃.push { cls := .type "tuple", data := .seq #[x, y] }) h₃.objs.size x y := Heap.get?_push_size _ rfl
  have hz4 : (h₃.push { cls := .type "tuple", data := .seq #[x, y] }).objs.size = h₃.objs.size + 1 := Heap.size_push ..
  rw [hsz] at hp hz4 ⊢
  exact hQ _ (Heap.get?_push_of_some _ hz₃) (S1.stay p13 (fun o q => Heap.get?_push_of_some _ q) (fun o q => Heap.get?_push_of_some _ q)) (S2.stay p23 (fun o q => Heap.get?_push_of_some _ q) (fun o q => Heap.get?_push_of_some _ q)) hp hz4 fun c o c1 c2 c3 e => Heap.get?_push_of_some _ (hk c o c1 c2 c3 e)
theorem zh_end (hh : A.handled = none) (S1 : ItStep prog w i1 l1 P1 xs) (S2 : ItStep prog w i2 l2 P2 ys) (D : ZipApart z TI TO i1 i2 l1 l2) {k : Nat} {T : Addr} {f : Bool} (Z : ZhAt s.heap z TI TO i1 i2 T f P1 P2 k) (hend : xs[k]? = none ∨ ys[k]? = none) {Q : Fin → Shared → Prop}
    (hE : ∀ h' e, (∀ c o, c ≠ z → c ≠ i1 → c ≠ i2 → s.heap.get? c = some o → h'.get? c = some o) → (∃ o, h'.get? e = some o ∧ o.cls = .type "StopIteration") → E (.ref e) { s with heap := h' }) :
    wpAny (model prog w) A (Builtin.«zip.__next__» ⟨[.ref z], []⟩) Q E s := by
  have hz := Z.zz; obtain ⟨oT, hT⟩ := Z.tt; have hTI := Z.ti
  show wpAny _ _ (field (.ref z) 2 >>= _) _ _ _
  refine wpAny_bind (wpAny_field hz rfl (x := .bool false) rfl ?_)
  show wpAny _ _ (field (.ref z) 3 >>= _) _ _ _
  refine wpAny_bind (wpAny_field hz rfl (x := .ref TI) rfl ?_)
  refine wpAny_bind (wpAny_seqItems hTI rfl ?_)
  show wpAny _ _ (Builtin.SmallTypes.ownedTupleIsFree (.ref z) >>= _) _ _ _
  refine wpAny_bind (wpAny_tupleHeld_zip hz hT fun h₁ hz₁ hs₁ => ?_)
  simp only [Bool.false_eq_true, if_false]
  refine wpAny_bind ?_
  rw [← Array.forIn_toList]
  simp only [List.forIn_cons, List.forIn_nil]
  refine wpAny_bind (wpAny_bind (wpAny_holding ?_))
  show wpAny _ _ (Builtin.SmallTypes.nextOf (.ref i1) >>= _) _ _ _
  cases hx : xs[k]? with
  | none =>
    refine wpAny_bind (S1.over (t := { s with heap := h₁ }) hh (S1.stay Z.p1 (fun o q => hs₁.extBut _ _ D.i1z q) (fun o q => hs₁.extBut _ _ D.l1z q)) hx fun h₂ e hs₂ he => ?_)
    exact hE h₂ e (fun c o c1 c2 _ x => hs₂ _ _ c2 (hs₁.extBut _ _ c1 x)) he
  | some x =>
    have hy : ys[k]? = none := by rcases hend with h | h; rw [hx] at h; cases h; exact h
    refine wpAny_bind (S1.next (t := { s with heap := h₁ }) (S1.stay Z.p1 (fun o q => hs₁.extBut _ _ D.i1z q) (fun o q => hs₁.extBut _ _ D.l1z q)) hx fun h₂ p12 hs₂ => wpAny_pure ?_)
    refine wpAny_pure ?_
    refine wpAny_bind (wpAny_bind (wpAny_holding ?_))
    show wpAny _ _ (Builtin.SmallTypes.nextOf (.ref i2) >>= _) _ _ _
    refine wpAny_bind (S2.over (t := { s with heap := h₂ }) hh (S2.stay Z.p2 (fun o q => hs₂.extBut _ _ D.i12.symm (hs₁.extBut _ _ D.i2z q)) (fun o q => hs₂.extBut _ _ D.l2i1 (hs₁.extBut _ _ D.l2z q))) hy fun h₃ e hs₃ he => ?_)
    exact hE h₃ e (fun c o c1 c2 c3 x => hs₃ _ _ c3 (hs₂.extBut _ _ c2 (hs₁.extBut _ _ c1 x))) he
theorem zh_next (S1 : ItStep prog w i1 l1 P1 xs) (S2 : ItStep prog w i2 l2 P2 ys) (D : ZipApart z TI TO i1 i2 l1 l2) {k : Nat} {T : Addr} {f : Bool} {x y : Value} (Z : ZhAt s.heap z TI TO i1 i2 T f P1 P2 k) (hx : xs[k]? = some x) (hy : ys[k]? = some y) {Q : Option Value → Shared → Prop}
    (hQ : ∀ h', IsZipHeld h' z TI TO T true → P1 (k + 1) h' → P2 (k + 1) h' → IsPair h' s.heap.objs.size x y → h'.objs.size = s.heap.objs.size + 1 →
      (∀ c o, c ≠ z → c ≠ i1 → c ≠ i2 → s.heap.get? c = some o → h'.get? c = some o) → Q (some (.ref s.heap.objs.size)) { s with heap := h' }) :
    wpAny (model prog w) A (pyNext (.ref z)) Q E s := by
  have hTy : s.TypeIs (.ref z) "zip" := ⟨_, Z.zz, rfl⟩
  unfold pyNext
  exact wpAny_bind (wpAny_attempt (wpAny_callSpecial?_slot (name := Str.ofString "__next__") hTy F.slot_zip_next
    (wpAny_call_entry F.slot_zip_next hTy F.entry_zip_next
      (zh_item S1 S2 D Z hx hy fun h' a1 a3 a4 a5 a6 a7 => wpAny_pure (hQ h' a1 a3 a4 a5 a6 a7)) (F.args_zip_next_1 _))))
theorem zh_stop (hh : A.handled = none) (S1 : ItStep prog w i1 l1 P1 xs) (S2 : ItStep prog w i2 l2 P2 ys) (D : ZipApart z TI TO i1 i2 l1 l2) {k : Nat} {T : Addr} {f : Bool} (Z : ZhAt s.heap z TI TO i1 i2 T f P1 P2 k) (hend : xs[k]? = none ∨ ys[k]? = none) {Q : Option Value → Shared → Prop}
    (hQ : ∀ h', (∀ c o, c ≠ z → c ≠ i1 → c ≠ i2 → s.heap.get? c = some o → h'.get? c = some o) → Q none { s with heap := h' }) : wpAny (model prog w) A (pyNext (.ref z)) Q E s := by
  have hTy : s.TypeIs (.ref z) "zip" := ⟨_, Z.zz, rfl⟩
  unfold pyNext
  refine wpAny_bind (wpAny_attempt (wpAny_callSpecial?_slot (name := Str.ofString "__next__") hTy F.slot_zip_next
    (wpAny_call_entry F.slot_zip_next hTy F.entry_zip_next (zh_end (A := A.in1) (show A.in1.handled = none from hh) S1 S2 D Z hend fun h' e hk he => ?_) (F.args_zip_next_1 _))))
  obtain ⟨o, ho, hc⟩ := he
  refine wpAny_bind (wpAny_isInstance (T := "StopIteration") (b := true) ⟨o, ho, hc⟩ isSubtype_stop ?_)
  exact wpAny_pure (hQ _ hk)
/-- at any turn of the filling of S -/
def LzAt (h : Heap) (S z TI TO i1 i2 : Addr) (P1 P2 : Nat → Heap → Prop) (k : Nat) : Prop :=
  (k = 0 ∧ ZpAt h z TI TO i1 i2 P1 P2 .none .none k) ∨ ∃ T f, ZhAt h z TI TO i1 i2 T f P1 P2 k ∧ T ≠ S ∧ T ≠ z ∧ T ≠ i1 ∧ T ≠ i2
/-- what is laid: the pairs at their addresses -/
structure LzG (xs ys : Array Value) (lo : Addr) (h : Heap) (as : List Addr) : Prop where
  rise : as.Pairwise (· < ·)
  above : ∀ a ∈ as, lo < a
  pairs : ∀ (j : Nat) (a : Addr), as[j]? = some a → ∃ x y, xs[j]? = some x ∧ ys[j]? = some y ∧ h.get? a = some { cls := .type "tuple", data := .seq #[x, y] }
theorem LzG.there {lo : Addr} {h : Heap} {as : List Addr} (g : LzG xs ys lo h as) {a : Addr} (ha : a ∈ as) : a < h.objs.size := by
  obtain ⟨j, hj⟩ := List.mem_iff_getElem?.mp ha
  obtain ⟨_, _, _, _, e⟩ := g.pairs j a hj
  exact Heap.lt_size e
/-- the cells of the zip and of what it walks -/
structure LzOff (S z TI TO i1 i2 l1 l2 : Addr) : Prop where
  sz : S ≠ z
  sTI : S ≠ TI
  sTO : S ≠ TO
  si1 : S ≠ i1
  si2 : S ≠ i2
  sl1 : S ≠ l1
  sl2 : S ≠ l2
  b1 : i1 < z
  b2 : i2 < z
theorem lz_next (S1 : ItStep prog w i1 l1 P1 xs) (S2 : ItStep prog w i2 l2 P2 ys) (D : ZipApart z TI TO i1 i2 l1 l2) {S : Addr} (O : LzOff S z TI TO i1 i2 l1 l2) {k : Nat} {x y : Value} (Z : LzAt s.heap S z TI TO i1 i2 P1 P2 k) (hSl : S < s.heap.objs.size) (hx : xs[k]? = some x) (hy : ys[k]? = some y) {Q : Option Value → Shared → Prop}
    (hQ : ∀ h', LzAt h' S z TI TO i1 i2 P1 P2 (k + 1) → IsPair h' s.heap.objs.size x y → h'.objs.size = s.heap.objs.size + 1 →
      (∀ c o, c ≠ z → c ≠ TO → c ≠ i1 → c ≠ i2 → s.heap.get? c = some o → h'.get? c = some o) → Q (some (.ref s.heap.objs.size)) { s with heap := h' }) :
    wpAny (model prog w) A (pyNext (.ref z)) Q E s := by
  rcases Z with ⟨rfl, Z⟩ | ⟨T, f, Z, hTS, e1, e2, e3⟩
  · have hz := Heap.lt_size Z.zz
    have := O.b1
    have := O.b2
    refine zm_next S1 S2 D Z hx hy fun g z1 t1 p1 p2 pr sz kp => hQ g (.inr ⟨_, false, ⟨z1, ⟨_, pr⟩, kp _ _ D.TIz D.TITO D.TIi1 D.TIi2 Z.ti, p1, p2⟩, Nat.ne_of_gt hSl, Nat.ne_of_gt hz, ad_ne2 O.b1 hz, ad_ne2 O.b2 hz⟩) pr sz kp
  · obtain ⟨oT, hT⟩ := Z.tt
    exact zh_next S1 S2 D Z hx hy fun h' z1 p1 p2 pr sz kp => hQ h' (.inr ⟨T, true, ⟨z1, ⟨oT, kp T oT e1 e2 e3 hT⟩, kp _ _ D.TIz D.TIi1 D.TIi2 Z.ti, p1, p2⟩, hTS, e1, e2, e3⟩) pr sz fun c o c1 _ c3 c4 e => kp c o c1 c3 c4 e
theorem lz_stop (hh : A.handled = none) (S1 : ItStep prog w i1 l1 P1 xs) (S2 : ItStep prog w i2 l2 P2 ys) (D : ZipApart z TI TO i1 i2 l1 l2) {S : Addr} {k : Nat} (Z : LzAt s.heap S z TI TO i1 i2 P1 P2 k) (hend : xs[k]? = none ∨ ys[k]? = none) {Q : Option Value → Shared → Prop}
    (hQ : ∀ h', (∀ c o, c ≠ z → c ≠ TO → c ≠ i1 → c ≠ i2 → s.heap.get? c = some o → h'.get? c = some o) → Q none { s with heap := h' }) : wpAny (model prog w) A (pyNext (.ref z)) Q E s := by
  rcases Z with ⟨rfl, Z⟩ | ⟨T, f, Z, _⟩
  · exact zm_stop hh S1 S2 D Z hend hQ
  · exact zh_stop hh S1 S2 D Z hend fun h' kp => hQ h' fun c o c1 _ c3 c4 e => kp c o c1 c3 c4 e
theorem LzAt.keep (S1 : ItStep prog w i1 l1 P1 xs) (S2 : ItStep prog w i2 l2 P2 ys) {S : Addr} (O : LzOff S z TI TO i1 i2 l1 l2) {h h' : Heap} {k : Nat} (Z : LzAt h S z TI TO i1 i2 P1 P2 k) (hk : ∀ b o, b ≠ S → h.get? b = some o → h'.get? b = some o) : LzAt h' S z TI TO i1 i2 P1 P2 k := by
  rcases Z with ⟨e, Z⟩ | ⟨T, f, Z, hTS, e⟩
  · exact .inl ⟨e, hk _ _ O.sz.symm Z.zz, hk _ _ O.sTI.symm Z.ti, hk _ _ O.sTO.symm Z.to, S1.stay Z.p1 (fun o q => hk _ _ O.si1.symm q) (fun o q => hk _ _ O.sl1.symm q), S2.stay Z.p2 (fun o q => hk _ _ O.si2.symm q) (fun o q => hk _ _ O.sl2.symm q)⟩
  · obtain ⟨oT, hT⟩ := Z.tt
    exact .inr ⟨T, f, ⟨hk _ _ O.sz.symm Z.zz, ⟨oT, hk _ _ hTS hT⟩, hk _ _ O.sTI.symm Z.ti, S1.stay Z.p1 (fun o q => hk _ _ O.si1.symm q) (fun o q => hk _ _ O.sl1.symm q), S2.stay Z.p2 (fun o q => hk _ _ O.si2.symm q) (fun o q => hk _ _ O.sl2.symm q)⟩, hTS, e⟩
theorem LzAt.zip {S : Addr} {h : Heap} {k : Nat} (Z : LzAt h S z TI TO i1 i2 P1 P2 k) : ∃ o, h.get? z = some o ∧ o.cls = .type "zip" := by
  rcases Z with ⟨e, Z⟩ | ⟨T, f, Z, hTS, e⟩
  · exact ⟨_, Z.zz, rfl⟩
  · exact ⟨_, Z.zz, rfl⟩
end
section
variable {prog : Program} {w : World} {A : Around} {s : Shared} {R : Result → Shared → Prop}
variable {z TI TO i1 i2 l1 l2 : Addr} {P1 P2 : Nat → Heap → Prop} {xs ys : Array Value}
theorem lz_loop (S1 : ItStep prog w i1 l1 P1 xs) (S2 : ItStep prog w i2 l2 P2 ys) (D : ZipApart z TI TO i1 i2 l1 l2) {S lo : Addr} (O : LzOff S z TI TO i1 i2 l1 l2) (hlo : ∀ c, c = z ∨ c = TO ∨ c = i1 ∨ c = i2 ∨ c = S → c ≤ lo) (hh : A.handled = none) {n : Nat} (hn : n ≤ sizeLine) (hxs : n = min xs.size ys.size) (res : Value) {h₁ : Heap}
    (hR : ∀ h' tk acc c as, (∀ b o, b ≠ S → b ≠ z → b ≠ TO → b ≠ i1 → b ≠ i2 → h₁.get? b = some o → h'.get? b = some o) → h'.get? S = some { cls := .type "list", dict := none, data := .seq acc c, slots := #[] } → as.length = n → LzG xs ys lo h' as →
      acc.toList = as.map Value.ref → R (.ok (.ret res)) { s with heap := h', toks := tk }) :
    ∀ (k i : Nat) (h : Heap) (tk c : Nat) (acc : Array Value) (as : List Addr), n - i = k → i ≤ n → LzAt h S z TI TO i1 i2 P1 P2 i → (∀ b o, b ≠ S → b ≠ z → b ≠ TO → b ≠ i1 → b ≠ i2 → h₁.get? b = some o → h.get? b = some o) →
      h.get? S = some { cls := .type "list", dict := none, data := .seq acc c, slots := #[] } → acc.toList = as.map Value.ref → as.length = i → LzG xs ys lo h as → lo < h.objs.size →
      codeAny (model prog w) A (.builtin "list.extend.loop" ⟨[.ref S, .ref z, res], []⟩) R { s with heap := h, toks := tk } := by
  intro k
  induction k with
  | zero =>
    intro i h tk c acc as hk hi hst hkeep hS hacc hal hG hIs
    have hin : i = n := by omega
    refine codeAny_builtin PySem.F.entry_extend_loop ?_
    rw [Around.under_plainId PySem.F.plain_extend_loop _]
    show wpAny _ A.in1 (pyNext (.ref z) >>= _) _ _ _
    refine wpAny_bind (lz_stop (s := { s with heap := h, toks := tk }) (A := A.in1) hh S1 S2 D hst ?_ fun h' he => ?_)
    · by_cases c : xs.size ≤ i
      · exact .inl (Array.getElem?_eq_none c)
      · exact .inr (Array.getElem?_eq_none (by omega))
    refine wpAny_pure (hR h' tk acc c as (fun b o h1 h2 h3 h4 h5 e => he b o h2 h3 h4 h5 (hkeep b o h1 h2 h3 h4 h5 e)) (he S _ O.sz O.sTO O.si1 O.si2 hS) (by omega) ⟨hG.rise, hG.above, fun j a hj => ?_⟩ hacc)
    obtain ⟨x, y, e1, e2, e3⟩ := hG.pairs j a hj
    have ha := hG.above a (List.mem_of_getElem? hj)
    exact ⟨x, y, e1, e2, he a _ (ad_ne (hlo z (by simp)) ha) (ad_ne (hlo TO (by simp)) ha) (ad_ne (hlo i1 (by simp)) ha) (ad_ne (hlo i2 (by simp)) ha) e3⟩
  | succ k ih =>
    intro i h tk c acc as hk hi hst hkeep hS hacc hal hG hIs
    have hlt : i < n := by omega
    obtain ⟨x, hx⟩ : ∃ p, xs[i]? = some p := ⟨xs[i]'(by omega), Array.getElem?_eq_getElem (by omega)⟩
    obtain ⟨y, hy⟩ : ∃ p, ys[i]? = some p := ⟨ys[i]'(by omega), Array.getElem?_eq_getElem (by omega)⟩
    have hsz : acc.size = i := by rw [← Array.length_toList, hacc, List.length_map, hal]
    refine codeAny_builtin PySem.F.entry_extend_loop ?_
    rw [Around.under_plainId PySem.F.plain_extend_loop _]
    show wpAny _ A.in1 (pyNext (.ref z) >>= _) _ _ _
    refine wpAny_bind (lz_next (s := { s with heap := h, toks := tk }) (S := S) S1 S2 D O hst (Heap.lt_size hS) hx hy fun h' hst' ht hz hkp => ?_)
    dsimp only at ht hz hkp ⊢
    have hS' := hkp S _ O.sz O.sTO O.si1 O.si2 hS
    have up : ∀ b o, b ≠ S → h'.get? b = some o → (h'.update S (Obj.mapSeq (·.push (Value.ref h.objs.size)))).get? b = some o := fun b o hb e => (Heap.get?_update_other _ _ (Ne.symm hb)).trans e
    have hSl : S < h.objs.size := Heap.lt_size hS
    show wpAny _ A.in1 (updateSeq S (·.push (Value.ref h.objs.size)) >>= _) _ _ _
    refine wpAny_bind ?_
    have hne : h.objs.size ≠ S := Nat.ne_of_gt hSl
    have hg : ∀ a, lo < a → a ≠ z ∧ a ≠ TO ∧ a ≠ i1 ∧ a ≠ i2 ∧ a ≠ S := fun a ha => ⟨ad_ne (hlo z (by simp)) ha, ad_ne (hlo TO (by simp)) ha, ad_ne (hlo i1 (by simp)) ha, ad_ne (hlo i2 (by simp)) ha, ad_ne (hlo S (by simp)) ha⟩
    refine wpAny_updateSeq hS' rfl (wpAny_pure ⟨plainId_quiet PySem.F.plain_extend_loop _, ih (i + 1) _ tk _ (acc.push (Value.ref h.objs.size)) (as ++ [h.objs.size]) (by omega) hlt (hst'.keep S1 S2 O up)
      (fun b o h1 h2 h3 h4 h5 e => up b o h1 (hkp b o h2 h3 h4 h5 (hkeep b o h1 h2 h3 h4 h5 e))) (Heap.get?_update_self _ hS' rfl) (by rw [Array.toList_push, hacc, List.map_append]; rfl) (by rw [List.length_append, hal]; rfl) ⟨?_, ?_, ?_⟩ ?_⟩) (by rw [hsz]; omega) (by show (acc.push (Value.ref h.objs.size)).size ≤ sizeLine + 1; rw [Array.size_push, hsz]; omega)
    · refine List.pairwise_append.mpr ⟨hG.rise, List.pairwise_singleton _ _, fun a ha b hb => ?_⟩
      rw [List.mem_singleton.mp hb]
      exact hG.there ha
    · intro a ha
      rcases List.mem_append.mp ha with ha | ha
      · exact hG.above a ha
      · rw [List.mem_singleton.mp ha]; exact hIs
    · intro j b hj
      rcases Nat.lt_trichotomy j as.length with h1 | h1 | h1
      · rw [List.getElem?_append_left h1] at hj
        obtain ⟨x', y', e1, e2, e3⟩ := hG.pairs j b hj
        obtain ⟨g1, g2, g3, g4, g5⟩ := hg b (hG.above b (List.mem_of_getElem? hj))
        exact ⟨x', y', e1, e2, up b _ g5 (hkp b _ g1 g2 g3 g4 e3)⟩
      · subst h1
        have hb : h.objs.size = b := by simpa using hj
        subst hb
        exact ⟨x, y, by rw [hal]; exact hx, by rw [hal]; exact hy, up _ _ hne ht⟩
      · have hnone : (as ++ [h.objs.size])[j]? = none := List.getElem?_eq_none (by rw [List.length_append, List.length_singleton]; omega)
        rw [hnone] at hj; cases hj
    · have e : (h'.update S (Obj.mapSeq (·.push (Value.ref h.objs.size)))).get? h.objs.size = _ := up _ _ hne ht
      exact Nat.lt_trans hIs (Heap.lt_size e)
end
end Snd

set_option maxHeartbeats 2000000
namespace Snd
open PySem PySem.Spec PyProof.Rows L2
theorem zip_no_len : typeLookup (.type "zip") "__len__" = pure none := am_miss_of_fast (by decide +kernel)
theorem zip_no_hint : typeLookup (.type "zip") "__length_hint__" = pure none := am_miss_of_fast (by decide +kernel)
section
variable {prog : Program} {w : World} {A : Around} {E : Value → Shared → Prop} {s : Shared}
theorem lz_hint {r : Addr} (hT : s.TypeIs (.ref r) "zip") {Q : Bool → Shared → Prop} (h : Q true s) : wpAny (model prog w) A (Builtin.List.listLengthHint (.ref r)) Q E s := by
  unfold Builtin.List.listLengthHint
  refine wpAny_bind (wpAny_specialOf hT zip_no_len ?_)
  wp_delta
  refine wpAny_bind (wpAny_specialOf hT zip_no_hint ?_)
  exact wpAny_pure h
end
section
variable {prog : Program} {w : World} {A : Around} {s : Shared} {R : Result → Shared → Prop}
variable {z TI TO i1 i2 l1 l2 : Addr} {P1 P2 : Nat → Heap → Prop} {xs ys : Array Value}
theorem lz_extend (S1 : ItStep prog w i1 l1 P1 xs) (S2 : ItStep prog w i2 l2 P2 ys) (D : ZipApart z TI TO i1 i2 l1 l2) (hh : A.handled = none) {n : Nat} (hn : n ≤ sizeLine) (hxs : n = min xs.size ys.size) (S : Addr) (O : LzOff S z TI TO i1 i2 l1 l2) (hlo : ∀ c, c = z ∨ c = TO ∨ c = i1 ∨ c = i2 ∨ c = S → c ≤ S) (res : Value) (c₀ : Nat)
    (hS : s.heap.get? S = some { cls := .type "list", data := .seq #[] c₀ }) (hZ : ZpAt s.heap z TI TO i1 i2 P1 P2 .none .none 0)
    (hR : ∀ h' tk acc c as, (∀ b o, b ≠ S → b ≠ z → b ≠ TO → b ≠ i1 → b ≠ i2 → s.heap.get? b = some o → h'.get? b = some o) → h'.get? S = some { cls := .type "list", dict := none, data := .seq acc c, slots := #[] } → as.length = n → LzG xs ys S h' as →
      acc.toList = as.map Value.ref → R (.ok (.ret res)) { s with heap := h', toks := tk }) :
    wpAny (model prog w) A.in1 (Builtin.List.listExtendWith (.ref S) (.ref z) res)
      (fun fin s' => match fin with | .done f => R (.ok f) s' | .again c' => c'.quiet = true ∧ codeAny (model prog w) A c' R s') (fun e s' => R (.error e) s') s := by
  have hSl : S < s.heap.objs.size := Heap.lt_size hS
  have key : ∀ (h : Heap) (c₁ tk : Nat), (∀ b o, b ≠ S → s.heap.get? b = some o → h.get? b = some o) →
      h.get? S = some { cls := .type "list", data := .seq #[] c₁ } → codeAny (model prog w) A (.builtin "list.extend.loop" ⟨[.ref S, .ref z, res], []⟩) R { s with heap := h, toks := tk } := by
    intro h c₁ tk hk hS₁
    have hst : LzAt s.heap S z TI TO i1 i2 P1 P2 0 := .inl ⟨rfl, hZ⟩
    exact lz_loop S1 S2 D O hlo hh hn hxs res hR n 0 h tk c₁ #[] [] (Nat.sub_zero _) (Nat.zero_le _) (hst.keep S1 S2 O hk) (fun b o hb _ _ _ _ e => hk b o hb e) hS₁ rfl rfl
      ⟨List.Pairwise.nil, (fun _ ha => nomatch ha), (fun j a hj => by simp at hj)⟩ (Heap.lt_size hS₁)
  have hT : s.TypeIs (.ref z) "zip" := ⟨_, hZ.zz, rfl⟩
  unfold Builtin.List.listExtendWith
  refine wpAny_bind (wpAny_typeOf (T := "zip") hT ?_)
  have h1 : Builtin.List.listSameRef (.ref S) (.ref z) = false := by simp [Builtin.List.listSameRef, O.sz]
  have h2 : (Value.type "zip" == Value.type "list") = false := by decide
  have h3 : (Value.type "zip" == Value.type "tuple") = false := by decide
  simp only [h1, h2, h3, Bool.or_false, Bool.false_eq_true, if_false]
  refine wpAny_bind (wpAny_pyIter_zip hZ.zz ?_)
  refine wpAny_bind (wpAny_holding (lz_hint hT ?_))
  refine wpAny_ite_split (fun _ => ?_) (fun _ => wpAny_pure ⟨plainId_quiet PySem.F.plain_extend_loop _, key _ c₀ _ (fun b o _ e => e) hS⟩)
  refine wpAny_bind (wpAny_rule ?_)
  refine wpAny_bind ?_
  show wpAny _ _ (updateSeq S (·.push .none) >>= fun _ => updateSeq S (·.pop)) _ _ _
  refine wpAny_bind (wpAny_updateSeq hS rfl ?_)
  have hS₂ := Heap.get?_update_self (Obj.mapSeq (·.push Value.none)) hS rfl
  refine wpAny_updateSeq (hz := by seq_fits) hS₂ rfl ?_
  have hS₃ := Heap.get?_update_self (Obj.mapSeq (·.pop)) hS₂ rfl
  refine wpAny_pure ⟨plainId_quiet PySem.F.plain_extend_loop _, key _ _ _ (fun b o hb e => ?_) hS₃⟩
  exact (Heap.get?_update_other _ _ (Ne.symm hb)).trans ((Heap.get?_update_other _ _ (Ne.symm hb)).trans e)
theorem lz_init (S1 : ItStep prog w i1 l1 P1 xs) (S2 : ItStep prog w i2 l2 P2 ys) (D : ZipApart z TI TO i1 i2 l1 l2) (hh : A.handled = none) {n : Nat} (hn : n ≤ sizeLine) (hxs : n = min xs.size ys.size) (S : Addr) (O : LzOff S z TI TO i1 i2 l1 l2) (hlo : ∀ c, c = z ∨ c = TO ∨ c = i1 ∨ c = i2 ∨ c = S → c ≤ S)
    (hS : s.heap.get? S = some { cls := .type "list", data := .seq #[] }) (hZ : ZpAt s.heap z TI TO i1 i2 P1 P2 .none .none 0)
    (hR : ∀ h' tk acc c as, (∀ b o, b ≠ S → b ≠ z → b ≠ TO → b ≠ i1 → b ≠ i2 → s.heap.get? b = some o → h'.get? b = some o) → h'.get? S = some { cls := .type "list", dict := none, data := .seq acc c, slots := #[] } → as.length = n → LzG xs ys S h' as →
      acc.toList = as.map Value.ref → R (.ok (.ret .none)) { s with heap := h', toks := tk }) :
    wpAny (model prog w) A.in1 (Builtin.«list.__init__» ⟨[.ref S, .ref z], []⟩)
      (fun fin s' => match fin with | .done f => R (.ok f) s' | .again c' => c'.quiet = true ∧ codeAny (model prog w) A c' R s') (fun e s' => R (.error e) s') s := by
  show wpAny _ _ (do let old ← Builtin.List.listItems (.ref S); Builtin.List.listUpdate (.ref S) (fun _ => #[]); letGo old.toList.reverse; Builtin.List.listExtendWith (.ref S) (.ref z) .none) _ _ s
  refine wpAny_bind ?_
  unfold Builtin.List.listItems
  refine wpAny_bind (wpAny_seqItems hS rfl (wpAny_pure ?_))
  show wpAny _ _ (updateSeq S (fun _ => #[]) >>= fun _ => letGo (#[] : Array Value).toList.reverse >>= fun _ => Builtin.List.listExtendWith (.ref S) (.ref z) .none) _ _ s
  refine wpAny_bind (wpAny_updateSeq hS rfl ?_)
  have hS₂ := Heap.get?_update_self (Obj.mapSeq (fun _ => (#[] : Array Value))) hS rfl
  have oth : ∀ b o, b ≠ S → s.heap.get? b = some o → (s.heap.update S (Obj.mapSeq (fun _ => (#[] : Array Value)))).get? b = some o :=
    fun b o hb e => (Heap.get?_update_other _ _ (Ne.symm hb)).trans e
  refine wpAny_bind (wpAny_letGo ?_)
  have hZ2 : ZpAt (s.heap.update S (Obj.mapSeq (fun _ => (#[] : Array Value)))) z TI TO i1 i2 P1 P2 .none .none 0 :=
    ⟨oth _ _ O.sz.symm hZ.zz, oth _ _ O.sTI.symm hZ.ti, oth _ _ O.sTO.symm hZ.to, S1.stay hZ.p1 (fun o q => oth _ _ O.si1.symm q) (fun o q => oth _ _ O.sl1.symm q), S2.stay hZ.p2 (fun o q => oth _ _ O.si2.symm q) (fun o q => oth _ _ O.sl2.symm q)⟩
  refine lz_extend S1 S2 D hh hn hxs S O hlo .none _ hS₂ hZ2 fun h' tk acc c as hk hS' hl hG hacc => ?_
  exact hR h' tk acc c as (fun b o hb h2 h3 h4 h5 e => hk b o hb h2 h3 h4 h5 (oth b o hb e)) hS' hl hG hacc
theorem lz_call {E : Value → Shared → Prop} {Q : Value → Shared → Prop} (S1 : ItStep prog w i1 l1 P1 xs) (S2 : ItStep prog w i2 l2 P2 ys) (D : ZipApart z TI TO i1 i2 l1 l2) (hh : A.handled = none) {n : Nat} (hn : n ≤ sizeLine) (hxs : n = min xs.size ys.size)
    (hZ : ZpAt s.heap z TI TO i1 i2 P1 P2 .none .none 0) (b1 : i1 < z) (b2 : i2 < z) (c1 : l1 < s.heap.objs.size) (c2 : l2 < s.heap.objs.size)
    (hQ : ∀ h' tk acc c as, (∀ b o, b ≠ z → b ≠ TO → b ≠ i1 → b ≠ i2 → s.heap.get? b = some o → h'.get? b = some o) → h'.get? s.heap.objs.size = some { cls := .type "list", dict := none, data := .seq acc c, slots := #[] } → as.length = n → LzG xs ys s.heap.objs.size h' as →
      acc.toList = as.map Value.ref → Q (.ref s.heap.objs.size) { s with heap := h', toks := tk }) :
    wpAny (model prog w) A (call (.type "list") [.ref z]) Q E s := by
  refine callType_codes (Q₁ := fun obj s₁ => obj = .ref s.heap.objs.size ∧ s₁ = { s with heap := s.heap.push { cls := .type "list", data := .seq #[] } }) PySem.F.called_list (PySem.F.typeCall_list_1 _) PySem.F.entry_list_init
    (code_list_new _ ⟨rfl, rfl⟩) fun obj s₁ h₁ => ?_
  obtain ⟨rfl, rfl⟩ := h₁
  have hS : (s.heap.push { cls := .type "list", data := .seq #[] }).get? s.heap.objs.size = some { cls := .type "list", data := .seq #[] } := Heap.get?_push_size _ rfl
  have hz : z < s.heap.objs.size := Heap.lt_size hZ.zz
  have hTI : TI < s.heap.objs.size := Heap.lt_size hZ.ti
  have hTO : TO < s.heap.objs.size := Heap.lt_size hZ.to
  have h1 : i1 < s.heap.objs.size := Nat.lt_trans b1 hz
  have h2 : i2 < s.heap.objs.size := Nat.lt_trans b2 hz
  have pu : ∀ b o, s.heap.get? b = some o → (s.heap.push { cls := .type "list", data := .seq #[] }).get? b = some o := fun b o e => Heap.get?_push_of_some _ e
  have hZ2 : ZpAt (s.heap.push { cls := .type "list", data := .seq #[] }) z TI TO i1 i2 P1 P2 .none .none 0 :=
    ⟨pu _ _ hZ.zz, pu _ _ hZ.ti, pu _ _ hZ.to, S1.stay hZ.p1 (fun o q => pu _ _ q) (fun o q => pu _ _ q), S2.stay hZ.p2 (fun o q => pu _ _ q) (fun o q => pu _ _ q)⟩
  refine ⟨⟨_, hS, rfl⟩, PySem.F.args_list_init_2 _ _, lz_init (A := A.in1) S1 S2 D hh hn hxs _ ⟨Nat.ne_of_gt hz, Nat.ne_of_gt hTI, Nat.ne_of_gt hTO, Nat.ne_of_gt h1, Nat.ne_of_gt h2, Nat.ne_of_gt c1, Nat.ne_of_gt c2, b1, b2⟩ (fun c hc => ?_) hS hZ2 (fun h' tk acc c as hk hS' hl hG hacc => ?_)⟩
  · rcases hc with rfl | rfl | rfl | rfl | rfl
    · exact Nat.le_of_lt hz
    · exact Nat.le_of_lt hTO
    · exact Nat.le_of_lt h1
    · exact Nat.le_of_lt h2
    · exact Nat.le_refl _
  · exact ⟨rfl, hQ h' tk acc c as (fun b o h1 h2 h3 h4 e => hk b o (Nat.ne_of_lt (Heap.lt_size e)) h1 h2 h3 h4 (pu b o e)) hS' hl hG hacc⟩
end
/-! ### the rule -/
def putP : Hp → List Addr → List (V × V) → Hp
  | H, a :: as, p :: ps => putP (upd H a (.tup [p.1, p.2])) as ps
  | H, _, _ => H
theorem putP_off {b : Addr} : ∀ (as : List Addr) (ps : List (V × V)) (H : Hp), b ∉ as → putP H as ps b = H b
  | [], _, _, _ => rfl
  | _ :: _, [], _, _ => rfl
  | a :: as, p :: ps, H, h => by
    show putP (upd H a (.tup [p.1, p.2])) as ps b = H b
    rw [putP_off as ps _ (fun z => h (List.mem_cons_of_mem _ z)), upd_ne (fun z => h (by rw [z]; exact List.mem_cons_self))]
theorem putP_at : ∀ (as : List Addr) (ps : List (V × V)) (H : Hp), as.length = ps.length → as.Nodup → Paired (fun (t : Addr) (p : V × V) => putP H as ps t = some (.tup [p.1, p.2])) as ps
  | [], [], _, _, _ => .nil
  | [], _ :: _, _, h, _ => by cases h
  | _ :: _, [], _, h, _ => by cases h
  | a :: as, p :: ps, H, h, hn => by
    have hn' := List.nodup_cons.mp hn
    have ih := putP_at as ps (upd H a (.tup [p.1, p.2])) (Nat.succ.inj h) hn'.2
    refine .cons ?_ ih
    show putP (upd H a (.tup [p.1, p.2])) as ps a = some (.tup [p.1, p.2])
    rw [putP_off as ps _ hn'.1, upd_same]
end Snd

set_option maxHeartbeats 2000000
namespace Snd
open PySem PySem.Spec PyProof.Rows L2
def rLzip (K : PySem.W.Frag) : List V → Hp → VK → Prop := fun vs H Q => ∃ (a b : Addr) (xs ys : List V), vs = [.ref a, .ref b] ∧ SqT K H a xs ∧ SqT K H b ys ∧
  ∀ (H' : Hp) (p : Addr) (ts : List Addr), (∀ c o, H c = some o → H' c = some o) → H p = none → (∀ t ∈ ts, H t = none) → p ∉ ts → H' p = some (.lst (ts.map V.ref)) → Paired (fun (t : Addr) (q : V × V) => H' t = some (.tup [q.1, q.2])) ts (xs.zip ys) → (xs.zip ys).length ≤ sizeLine → (∀ c o, H' c = some o → (∀ o', H c ≠ some o') → c = p ∨ c ∈ ts) → Q (.ref p) H'
def tLzip (K : PySem.W.Frag) (ta : TA) : TE := fun σ H Q => ta σ H fun vs H1 => rLzip K vs H1 Q
section
variable {X : Cx} {e e2 : Expr} {ta : TA} {p p2 pos pos2 : Pos}
theorem lz_laid {pins : List (Addr × Obj)} {σ : L2.St} {H : Hp} {s : Shared} {h' : Heap} {tk : Nat} {ps : List (V × V)} {xs ys : Array Value} {acc : Array Value} {c : Nat} {as : List Addr} {S : Addr} (I : Inv X pins σ H s) (hz : ps.length ≤ sizeLine)
    (hp : ∀ (j : Nat) (q : V × V) (x y : Value), ps[j]? = some q → xs[j]? = some x → ys[j]? = some y → RelV q.1 x ∧ RelV q.2 y)
    (hS0 : s.heap.objs.size ≤ S) (hk : ∀ b o, s.heap.get? b = some o → h'.get? b = some o) (hS : h'.get? S = some { cls := .type "list", dict := none, data := .seq acc c, slots := #[] }) (hl : as.length = ps.length) (hG : LzG xs ys S h' as) (hacc : acc.toList = as.map Value.ref) :
    ∃ H' : Hp, (∀ b o, H b = some o → H' b = some o) ∧ H S = none ∧ (∀ t ∈ as, H t = none) ∧ S ∉ as ∧ H' S = some (.lst (as.map V.ref)) ∧ Paired (fun (t : Addr) (q : V × V) => H' t = some (.tup [q.1, q.2])) as ps ∧ (∀ c o, H' c = some o → (∀ o', H c ≠ some o') → c = S ∨ c ∈ as) ∧ Inv X pins σ H' { s with heap := h', toks := tk } := by
  have hSn : S ∉ as := fun z => Nat.lt_irrefl _ (hG.above _ z)
  have nd : as.Nodup := List.Pairwise.imp (fun {a b} (h : a < b) => Nat.ne_of_lt h) hG.rise
  have new : ∀ t ∈ as, H t = none := fun t ht => I.hok.fresh (Nat.le_trans hS0 (Nat.le_of_lt (hG.above t ht)))
  have newS : H S = none := I.hok.fresh hS0
  have atP := putP_at as ps (upd H S (.lst (as.map V.ref))) hl nd
  have off : ∀ b, b ∉ as → b ≠ S → putP (upd H S (.lst (as.map V.ref))) as ps b = H b := fun b h1 h2 => by rw [putP_off as ps _ h1, upd_ne h2]
  have low : ∀ b o, s.heap.get? b = some o → b ∉ as ∧ b ≠ S := fun b o e => ⟨fun z => absurd (Heap.lt_size e) (Nat.not_lt.mpr (Nat.le_trans hS0 (Nat.le_of_lt (hG.above b z)))), Nat.ne_of_lt (Nat.lt_of_lt_of_le (Heap.lt_size e) hS0)⟩
  have kp : ∀ b u, H b = some u → (putP (upd H S (.lst (as.map V.ref))) as ps) b = some u := fun b u e => by
    rw [off b (fun z => by rw [new b z] at e; cases e) (fun z => by rw [z, newS] at e; cases e)]
    exact e
  have eS : putP (upd H S (.lst (as.map V.ref))) as ps S = some (.lst (as.map V.ref)) := by rw [putP_off as ps _ hSn, upd_same]
  refine ⟨putP (upd H S (.lst (as.map V.ref))) as ps, kp, newS, new, hSn, eS, atP, fun b o e n => ?_, ?_⟩
  · by_cases h1 : b ∈ as
    · exact .inr h1
    · by_cases h2 : b = S
      · exact .inl h2
      · rw [off b h1 h2] at e; exact absurd e (n o)
  refine I.call' (ch := []) rfl ⟨fun b o q _ _ _ => hk b o q, fun b o q _ _ _ => ⟨o.slots, hk b o q⟩, fun b o q n _ => ?_, fun b o q _ => ⟨o, hk b o q⟩, fun b xs q => kp b _ q, fun b o u q => kp b _ q, fun b ps q => ⟨#[], by rw [kp b _ q]; simp⟩⟩ (fun b u q => ?_) I.bare fun b z => by simp at z
  · obtain ⟨z1, z2⟩ := low b o q
    rw [off b z1 z2]
    exact n
  · by_cases hb : b ∈ as
    · obtain ⟨j, pk, e1, e2, e3⟩ := LiI.paired_ix atP hb
      rw [e3] at q
      cases q
      obtain ⟨x, y, f1, f2, f3⟩ := hG.pairs j b e1
      obtain ⟨r1, r2⟩ := hp j pk x y e2 f1 f2
      exact ⟨by show 2 ≤ sizeLine; decide, [x, y], .cons r1 (.cons r2 .nil), ⟨_, f3, rfl, _, rfl⟩⟩
    · by_cases hb2 : b = S
      · rw [hb2] at q ⊢
        rw [eS] at q
        cases q
        refine ⟨by rw [List.length_map]; omega, acc.toList, c, by rw [hacc]; exact LiI.vals_refs as, ?_⟩
        rw [Array.toArray_toList]
        exact hS
      · rw [off b hb hb2] at q
        exact (I.hok b u q).stay (fun d v _ y => hk d v y) (fun d y => kp d _ y) fun d xs y => kp d _ y
/-- list(zip(e, e2)) -/
theorem pe_lzip (hc : X.calm = true) (ha : PA X [e, e2] ta) (hg : Gl X "list") (hm : X.mg "list" = none) (hv : bootBuiltins "list" = some (.type "list")) (hgz : Gl X "zip") (hmz : X.mg "zip" = none)
    (hs : starEach [.Call (.Name "zip" p2) [e, e2] [] pos2] X.env = (false, eval (.Call (.Name "zip" p2) [e, e2] [] pos2) X.env) :: starEach [] X.env := by rfl)
    (hs2 : starEach [e, e2] X.env = (false, eval e X.env) :: starEach [e2] X.env := by rfl) (hpl : (backTo pos2 (starEach [e2] X.env)).any (·.1) = false := by rfl) :
    PE X (.Call (.Name "list" p) [.Call (.Name "zip" p2) [e, e2] [] pos2] [] pos) (tLzip X.K ta) := by
  refine ⟨fun pins s σ H Q I hq => ?_⟩
  refine wpAny_Call_Name_kw (ld_blt I hg hm hv ?_)
  refine PyProof.Rows.callWith_type1 ?_ hs rfl
  rw [hs]
  show wpAny _ _ (spliced ((false, eval (.Call (.Name "zip" p2) [e, e2] [] pos2) X.env) :: backTo pos (starEach [] X.env))) _ _ s
  refine Calls.spliced_cons ?_
  refine Call_ (ld_blt I hgz hmz PyProof.Rows.boot_zip (PyProof.Rows.callWith_type1 (thn (ha.run pos2 pins s σ H _ I hq) fun us s1 ⟨vs, H1, I1, r1, q1⟩ => ?_) hs2 hpl))
  obtain ⟨a, b, xs, ys, rfl, qx, qy, q⟩ := q1
  cases r1 with
  | cons r rr =>
    cases rr with
    | cons r' rr =>
      cases rr; cases r; cases r'
      obtain ⟨its, rv, p1, hz1⟩ := I1.tuple qx
      obtain ⟨its2, rv2, p2', _⟩ := I1.tuple qy
      have t1 : s1.heap.IsTuple a its.toArray := p1
      have t2 : s1.heap.IsTuple b its2.toArray := p2'
      obtain ⟨o1, ho1, _⟩ := id t1
      obtain ⟨o2, ho2, _⟩ := id t2
      have la := Heap.lt_size ho1
      have lb := Heap.lt_size ho2
      refine RZ.call_zipT t1 t2 fun g zz ti to h1 h2 hsz hk => ?_
      refine Calls.spliced_nil ?_
      have hZ : ZpAt g (s1.heap.objs.size + 4) (s1.heap.objs.size + 2) (s1.heap.objs.size + 3) s1.heap.objs.size (s1.heap.objs.size + 1) (fun k h => h.IsTupleIter s1.heap.objs.size a k ∧ h.IsTuple a its.toArray) (fun k h => h.IsTupleIter (s1.heap.objs.size + 1) b k ∧ h.IsTuple b its2.toArray) .none .none 0 :=
        ⟨zz, ti, to, ⟨h1, t1.at fun o e => hk _ o e⟩, ⟨h2, t2.at fun o e => hk _ o e⟩⟩
      have hxs : (xs.zip ys).length = min its.toArray.size its2.toArray.size := by
        rw [List.length_zip, rv.length, rv2.length]; simp
      have hzl : (xs.zip ys).length ≤ sizeLine := by rw [List.length_zip]; exact Nat.le_trans (Nat.min_le_left _ _) hz1
      have la' : a < s1.heap.objs.size := la
      have lb' : b < s1.heap.objs.size := lb
      refine lz_call (s := { s1 with heap := g }) (itr_tuple (Nat.ne_of_lt la)) (itr_tuple (Nat.ne_of_lt (Nat.lt_succ_of_lt lb))) (PySem.W.ktu_apart s1.heap.objs.size a b la lb) (I1.ok.hd hc) hzl hxs hZ (Nat.lt_add_of_pos_right (by decide)) (Nat.add_lt_add_left (by decide) _) (Heap.lt_size (hk _ _ ho1)) (Heap.lt_size (hk _ _ ho2)) fun h' tk acc c as hk2 hS hl hG hacc => ?_
      have nz : ∀ c o, s1.heap.get? c = some o → c < s1.heap.objs.size := fun c o e => Heap.lt_size e
      have hkk : ∀ c o, s1.heap.get? c = some o → h'.get? c = some o := fun c o e => by
        have hc := nz c o e
        exact hk2 c o (Nat.ne_of_lt (Nat.lt_of_lt_of_le hc (Nat.le_add_right _ _))) (Nat.ne_of_lt (Nat.lt_of_lt_of_le hc (Nat.le_add_right _ _))) (Nat.ne_of_lt hc) (Nat.ne_of_lt (Nat.lt_succ_of_lt hc)) (hk c o e)
      obtain ⟨H', k1, k2, k3, k4, k5, k6, k7, J⟩ := lz_laid (tk := tk) (S := g.objs.size) (ps := xs.zip ys) I1 hzl (fun j q x y hq hx hy => by
        rw [List.getElem?_zip_eq_some] at hq
        obtain ⟨u, e1, r1⟩ := rv.get hq.1
        obtain ⟨v, e2, r2⟩ := rv2.get hq.2
        have hx' : its[j]? = some x := by simpa using hx
        have hy' : its2[j]? = some y := by simpa using hy
        rw [hx'] at e1; rw [hy'] at e2
        cases e1; cases e2
        exact ⟨r1, r2⟩) (by rw [hsz]; exact Nat.le_add_right _ _) hkk hS hl hG hacc
      exact ⟨.ref _, H', J, rfl, q H' _ as k1 k2 k3 k4 k5 k6 hzl k7⟩
end
end Snd

namespace Snd
open PySem PySem.Spec PyProof.Rows L2
variable {X : Cx} {C : Ir.Calls}
/-! ### list(zip(a, b)) -/
theorem zip_rds {ρ : Rho} {K : PySem.W.Frag} {H' : Hp} : ∀ {xs ys : List Ir.D} {vs ws : List V} {ts : List Addr}, RDs ρ K H' xs vs → RDs ρ K H' ys ws → Paired (fun (t : Addr) (q : V × V) => H' t = some (.tup [q.1, q.2])) ts (vs.zip ws) → (∀ t ∈ ts, ¬ ρ.own t) → RDs ρ K H' (Ir.zipL xs ys) (ts.map V.ref)
  | [], _, _, _, _, .nil, _, .nil, _ => .nil
  | _ :: _, [], _, _, _, .cons _ _, .nil, .nil, _ => .nil
  | x :: xs, y :: ys, _, _, _, .cons h r, .cons h' r', .cons hp rp, no => by
    show RDs ρ K H' (.tup [x, y] :: Ir.zipL xs ys) _
    refine .cons (.tup (.inl ⟨.inl hp, no _ List.mem_cons_self⟩) (by show 2 ≤ sizeLine; decide) (.cons h (.cons h' .nil))) (zip_rds r r' rp fun t ht => no t (List.mem_cons_of_mem _ ht))
theorem sn_lzip {e f : Expr} {i j : Ir.Ex} {p p2 pos pos2 : Pos} (hcalm : X.calm = true) (h : SE X C e i) (h' : SE X C f j) (hm : X.mg (Str.ofString "list") = none) (hv : bootBuiltins (Str.ofString "list") = some (.type "list")) (hmz : X.mg (Str.ofString "zip") = none) (hg : Gl X (Str.ofString "list") := by rfl) (hgz : Gl X (Str.ofString "zip") := by rfl)
    (hs : starEach [.Call (.Name (Str.ofString "zip") p2) [e, f] [] pos2] X.env = (false, eval (.Call (.Name (Str.ofString "zip") p2) [e, f] [] pos2) X.env) :: starEach [] X.env := by rfl)
    (hs2 : starEach [e, f] X.env = (false, eval e X.env) :: starEach [f] X.env := by rfl) (hs3 : starEach [f] X.env = (false, eval f X.env) :: starEach [] X.env := by rfl) (hpl : (backTo pos2 (starEach [f] X.env)).any (·.1) = false := by rfl) :
    SN X C (.Call (.Name (Str.ofString "list") p) [.Call (.Name (Str.ofString "zip") p2) [e, f] [] pos2] [] pos) (.blt .lzip [i, j]) := by
  refine pe_imp (pe_lzip hcalm (pa_cons h (pa_cons h' pa_nil hs3) hs2) hg hm hv hgz hmz hs hs2 hpl) fun σ H Q ⟨ρ, env, st, xs, st', rs, re, ev, k⟩ => ?_
  simp only [Ir.eval, Ir.evals] at ev
  obtain ⟨vs, s1, e1, ev⟩ := bok ev
  obtain ⟨v, s2, e2, e1⟩ := bok e1
  obtain ⟨us, s3, e3, e1⟩ := bok e1
  cases e1
  obtain ⟨v', s4, e4, e3⟩ := bok e3
  simp only [Ir.Res.bind_ok] at e3
  cases e3
  obtain ⟨rfl, ds, r, h1, h2, h3⟩ := not_len (by decide) ev
  cases h3
  refine ⟨ρ, env, st, v, _, rs, re, e2, fun ρ1 H1 V1 x1 rs1 rv => ?_⟩
  refine ⟨ρ1, env, _, v', _, rs1, re.mono x1, e4, fun ρ2 H2 V2 x2 rs2 rv' => ?_⟩
  have vd := VDs.derefs rs2 (.cons (rv.mono x2) (.cons rv' .nil)) h1
  simp only [Ir.D.blt] at h2
  unfold Ir.D.bLzip at h2
  split at h2
  · rename_i as bs
    cases h2
    cases vd with
    | cons vd1 t =>
      cases t with
      | cons vd2 t =>
        cases t
        obtain ⟨a, ys, rfl, ta, za, ra⟩ := RD.tup_inv vd1
        obtain ⟨b, ws, rfl, tb, zb, rb⟩ := RD.tup_inv vd2
        refine ⟨a, b, ys, ws, rfl, ta.sq, tb.sq, fun H' q ts k1 k2 k3 k4 k5 k6 hz k7 => ?_⟩
        have w1 : Ext ρ2 H2 (ρ2.keep q) (upd H2 q (.lst (ts.map V.ref))) := .keep rs2 k2 _
        have r1 := rs2.keep k2 (.lst (ts.map V.ref))
        have up : ∀ c o, upd H2 q (.lst (ts.map V.ref)) c = some o → H' c = some o := fun c o hc => by
          by_cases e : c = q
          · subst e; rw [upd_same] at hc; rw [k5]; exact hc
          · rw [upd_ne e] at hc; exact k1 c o hc
        have w2 : Ext (ρ2.keep q) (upd H2 q (.lst (ts.map V.ref))) (ρ2.keep q) H' := ⟨fun c o hc _ => up c o hc, fun _ z => .inl z, Nat.le_refl _, fun _ _ z _ => z, fun _ z => z, fun _ _ z => z, fun c hc => by
          cases hh : upd H2 q (.lst (ts.map V.ref)) c with
          | none => rfl
          | some o => rw [up c o hh] at hc; cases hc⟩
        have r2 : RS (ρ2.keep q) X.K st' H' := r1.ext w2 fun c hc => by
          obtain ⟨n, cc, _, _, hrc⟩ := r1.mem hc
          obtain ⟨o, ho, _⟩ := hrc.some
          rw [up c o ho, ho]
        have w := w1.trans w2
        have hlen : (ts.map V.ref).length ≤ sizeLine := by rw [List.length_map, Paired.length k6]; exact hz
        refine k (ρ2.keep q) H' q (ts.map V.ref) (x1.trans (x2.trans w)) r2 (x1.al q (x2.al q k2)) List.mem_cons_self k5 hlen (zip_rds (ra.mono w) (rb.mono w) k6 fun t ht z => ?_)
        have ht0 := k3 t ht
        rcases z with z | z
        · exact rs2.fresh ht0 (.inl z)
        · rcases List.mem_cons.mp z with z | z
          · exact k4 (by rw [← z]; exact ht)
          · exact rs2.fresh ht0 (.inr z)
  · cases h2
theorem is_lzip {is : List Ir.Ex} : ∀ env st v st', Ir.eval C (.blt .lzip is) env st = .ok v st' → ∃ xs, v = .d (.lst xs) := fun env st v st' ev => by
  simp only [Ir.eval] at ev
  obtain ⟨vs, s1, e1, ev⟩ := bok ev
  obtain ⟨_, ds, r, _, h2, rfl⟩ := not_len (by decide) ev
  simp only [Ir.D.blt] at h2
  unfold Ir.D.bLzip at h2
  split at h2
  · cases h2; exact ⟨_, rfl⟩
  · cases h2
end Snd

namespace Snd
open PySem PySem.Spec PyProof.Rows L2
variable {X : Cx} {C : Ir.Calls}
/-! ### a dict display -/
def flatP : List (V × V) → List V
  | [] => []
  | p :: ps => p.1 :: p.2 :: flatP ps
structure SPs (X : Cx) (C : Ir.Calls) (pos : Pos) (keys : List (Option Expr)) (values : List Expr) (is : List Ir.Ex) : Prop where
  ex : ∃ trs, PPs X pos keys values trs ∧ keys.all (·.isSome) = true ∧ keys.length = values.length ∧
    ∀ σ H ρ env st vs st' (Q : List (V × V) → Hp → Prop), RS ρ X.K st H → REnv ρ X.K H env σ → Ir.evals C is env st = .ok vs st' →
      (∀ ρ' H' ps, Ext ρ H ρ' H' → RS ρ' X.K st' H' → RVs ρ' X.K H' vs (flatP ps) → ps.length = keys.length → Q ps H') → tPairs trs σ H Q
theorem sps_nil {pos : Pos} : SPs X C pos [] [] [] := ⟨[], pps_nil, rfl, rfl, fun σ H ρ env st vs st' Q rs re ev k => by
  simp only [Ir.evals] at ev
  cases ev
  exact k ρ H [] (.refl _ _) rs .nil rfl⟩
theorem sps_cons {pos : Pos} {k v : Expr} {ks : List (Option Expr)} {vs : List Expr} {ik iv : Ir.Ex} {is : List Ir.Ex} (hk : SE X C k ik) (hv : SE X C v iv) (hr : SPs X C pos ks vs is) : SPs X C pos (some k :: ks) (v :: vs) (ik :: iv :: is) := by
  obtain ⟨trs, h1, h2, h3, h4⟩ := hr
  refine ⟨_, pps_cons hk hv h1, by simpa using h2, by simp [h3], fun σ H ρ env st ws st' Q rs re ev kk => ?_⟩
  simp only [Ir.evals] at ev
  obtain ⟨x, s1, e1, ev⟩ := bok ev
  obtain ⟨xs, s2, e2, ev⟩ := bok ev
  cases ev
  obtain ⟨y, s3, e3, e2⟩ := bok e2
  obtain ⟨ys, s4, e4, e2⟩ := bok e2
  cases e2
  refine ⟨ρ, env, st, x, s1, rs, re, e1, fun ρ1 H1 X1 x1 rs1 rx => ⟨ρ1, env, s1, y, s3, rs1, re.mono x1, e3, fun ρ2 H2 Y1 x2 rs2 ry => ?_⟩⟩
  refine h4 σ H2 ρ2 env s3 ys _ _ rs2 ((re.mono x1).mono x2) e4 fun ρ3 H3 ps x3 rs3 rr hl => ?_
  exact kk ρ3 H3 ((X1, Y1) :: ps) (x1.trans (x2.trans x3)) rs3 (.cons (rx.mono (x2.trans x3)) (.cons (ry.mono x3) rr)) (by simp [hl])
theorem merge_flat {ρ : Rho} {K : PySem.W.Frag} {H : Hp} : ∀ {ps : List (V × V)} {xs : List Ir.D} {acc kvs : List (Ir.D × Ir.D)} {ks : List (Key × V)}, RDs ρ K H xs (flatP ps) → Ir.mergeF acc xs = some kvs → RKs ρ K H acc ks →
    ∃ prs : List (Key × V), ps = prs.map (fun kv => (kV kv.1, kv.2)) ∧ RKs ρ K H kvs (mergeK ks prs)
  | [], _, acc, kvs, ks, .nil, e, r => by
    simp only [Ir.mergeF] at e
    cases e
    exact ⟨[], rfl, r⟩
  | p :: ps, _, acc, kvs, ks, .cons h (.cons h' t), e, r => by
    simp only [Ir.mergeF] at e
    split at e
    · rename_i hk
      obtain ⟨k', h1, h2⟩ := RK.kv h hk
      obtain ⟨prs, rfl, h3⟩ := merge_flat t e (r.put h1 h')
      refine ⟨(k', p.2) :: prs, ?_, h3⟩
      simp only [List.map_cons]
      rw [← h2]
    · cases e
theorem se_disp {pos : Pos} {keys : List (Option Expr)} {values : List Expr} {is : List Ir.Ex} (h : SPs X C pos keys values is) (h0 : keys ≠ [] := by simp) (h15 : keys.length ≤ 15 := by decide) : SE X C (.Dict keys values pos) (.newDd is) := by
  obtain ⟨trs, h1, h2, h3, h4⟩ := h
  refine pe_imp (pe_disp h1 h2 h3 h0 h15) fun σ H Q ⟨ρ, env, st, v, st', rs, re, ev, k⟩ p hp => ?_
  simp only [Ir.eval] at ev
  obtain ⟨us, s1, e1, ev⟩ := bok ev
  obtain ⟨ds, e2, ev⟩ := ook ev
  split at ev
  · rename_i kvs hm
    cases ev
    have w1 : Ext ρ H (ρ.keep p) (upd H p (.dK [])) := .keep rs hp _
    refine h4 σ _ (ρ.keep p) env st us s1 _ (rs.keep hp _) (re.mono w1) e1 fun ρ2 H2 ps x2 rs2 rv hl => ?_
    have hres : p ∈ ρ2.res := x2.rs p List.mem_cons_self
    have hp2 : H2 p = some (.dK []) := x2.fr p _ upd_same (fun z => rs.fresh hp (.inl z))
    obtain ⟨prs, rfl, hk⟩ := merge_flat (rv.ds e2) hm .nil
    have hpl : prs.length ≤ 15 := by rw [List.length_map] at hl; omega
    have hz : (mergeK [] prs).length ≤ sizeLine := by
      refine Nat.le_trans (length_mergeK prs []) ?_
      simp only [List.length_nil, Nat.zero_add]
      exact Nat.le_trans hpl (by decide)
    refine ⟨hp2, prs, rfl, hpl, ?_⟩
    have x : Ext ρ H ρ2 H2 := w1.trans x2
    have hn : p ∉ ρ.res := fun q => rs.fresh hp (.inr q)
    have sub : ∀ b, Rho.own ⟨ρ2.ix ++ [some p], ρ.res⟩ b → ρ2.own b := fun b q => by
      rcases q with q | q
      · rcases List.mem_append.mp q with q | q
        · exact .inl q
        · simp at q; subst q; exact .inr hres
      · exact .inr (x.rs b q)
    have xa : Ext ρ H ρ2 (upd H2 p (.dK (mergeK [] prs))) := x.aside hp
    have ra : RS ρ2 X.K s1 (upd H2 p (.dK (mergeK [] prs))) := rs2.aside hres
    refine k ⟨ρ2.ix ++ [some p], ρ.res⟩ _ _ (xa.cellOf hp hn) (ra.cellOf x.rs hres hn ⟨_, upd_same, hz, (hk.aside hres).sub sub⟩) ⟨by simp [rs2.len], p, rfl, fun b hb => ?_⟩
    have hb : (ρ2.ix ++ [some p])[s1.length]? = some (some b) := hb
    rw [rs2.len, List.getElem?_append_right (Nat.le_refl _)] at hb
    simp at hb
    exact hb.symm
  · cases ev
/-! ### a list and a list -/
theorem sn_add {a b : Expr} {ia ib : Ir.Ex} {pos : Pos} (ha : SE X C a ia) (hb : SE X C b ib) : SN X C (.BinOp a .Add b pos) (.bin .add ia ib) := by
  refine pe_imp (pe_op op_cat ha hb) fun σ H Q ⟨ρ, env, st, xs, st', rs, re, ev, k⟩ => ?_
  simp only [Ir.eval] at ev
  obtain ⟨x, s1, e1, ev⟩ := bok ev
  obtain ⟨y, s2, e2, ev⟩ := bok ev
  obtain ⟨p, e3, ev⟩ := ook ev
  obtain ⟨q, e4, ev⟩ := ook ev
  obtain ⟨d, e5, ev⟩ := ook ev
  cases ev
  refine ⟨ρ, env, st, x, s1, rs, re, e1, fun ρ1 H1 X1 x1 rs1 rx => ⟨ρ1, env, s1, y, st', rs1, re.mono x1, e2, fun ρ2 H2 Y x2 rs2 ry => ?_⟩⟩
  have vp := VD.deref rs2 (rx.mono x2) e3
  have vq := VD.deref rs2 ry e4
  cases p <;> cases q <;> simp only [Ir.D.bin, reduceCtorEq] at e5
  · cases e5
  · split at e5
    · cases e5
    · cases e5
  · split at e5
    · cases e5
    · cases e5
  · rename_i xs1 ys1
    split at e5
    · rename_i hl
      cases e5
      obtain ⟨a, as, rfl, h1, za, ra⟩ := vp
      obtain ⟨b, bs, rfl, h2, zb, rb⟩ := vq
      have hl2 : as.length + bs.length ≤ sizeLine := by rw [← ra.length, ← rb.length, ← lim_eq]; exact hl
      exact ⟨a, b, as, bs, rfl, rfl, h1, h2, hl2, fun p hp => sn_fin (x1.trans x2) rs2 (ra.append rb) (by rw [List.length_append]; exact hl2) hp k⟩
    · cases e5
/-! ### pop(0) -/
theorem mthOk_pop0 {o : Ir.Val} {st : Ir.Store} (h : Ir.mthOk .pop0 o st = true) : ∃ n xs, o = .ref n ∧ st[n]? = some (.lst xs) := by
  cases o with
  | d x => simp [Ir.mthOk] at h
  | ref n =>
    cases hc : st[n]? with
    | none => simp [Ir.mthOk, hc] at h
    | some c =>
      cases c with
      | lst xs => exact ⟨n, xs, rfl, hc⟩
      | dic kvs => simp [Ir.mthOk, hc] at h
      | dead => simp [Ir.mthOk, hc] at h
theorem se_pop0 {o : Expr} {io : Ir.Ex} {j : Nat} {apos cpos p0 : Pos} {kk} (ho : SE X C o io) (hbase : attributeBase o (Str.ofString "pop") X.env (eval o X.env) = eval o X.env := by rfl)
    (hfew : ((backTo cpos (starEach [.Constant (.int 0) kk p0] X.env)).all (fun x => !x.1) && (backToKw cpos (keywordEach [] X.env)).all (fun x => x.1.isSome) && decide (([.Constant (.int 0) kk p0] : List Expr).length + ([] : List Keyword).length + (if ([] : List Keyword).isEmpty then 0 else 1) < 30)) = true := by rfl)
    (hline : (apos.endLine == cpos.line) = true := by rfl) (hs : starEach [.Constant (.int 0) kk p0] X.env = (false, eval (.Constant (.int 0) kk p0) X.env) :: starEach [] X.env := by rfl) (hpl : (backTo cpos (starEach [] X.env)).any (·.1) = false := by rfl) :
    SE X C (.Call (.Attribute o (Str.ofString "pop") apos) [.Constant (.int 0) kk p0] [] cpos) (.mth .pop0 io []) := by
  refine pe_imp (pe_bm PySem.F.plainAttrs_list PySem.F.slot_list_pop PySem.F.type_list_pop mt_popAt ho (pa_cons pe_int pa_nil hs) hbase hfew hline hs hpl) fun σ H Q ⟨ρ, env, st, v, st', rs, re, ev, k⟩ => ?_
  obtain ⟨x, s1, vs, s2, e1, hk, e2, ev⟩ := mth_ev ev
  obtain ⟨n, ys, rfl, hn⟩ := mthOk_pop0 hk
  simp only [Ir.evals] at e2
  cases e2
  refine ⟨ρ, env, st, _, _, rs, re, e1, fun ρ1 H1 X1 x1 rs1 rx => ⟨tyV_lst rs1 rx hn, ?_⟩⟩
  have w0 : Ir.mPop0 n s1 [] = .ok v st' := ev
  clear ev
  simp only [Ir.mPop0] at w0
  split at w0
  · rename_i y ys hx
    cases w0
    obtain ⟨a, rfl, h1, zs, h2, h3, h4⟩ := RV.cell rs1 rx hx (by simp)
    cases h4 with
    | cons r0 rr =>
      rename_i w ws
      refine ⟨a, w :: ws, 0, 0, w, rfl, rfl, h2, by decide, by decide, by simp [seqIndex?], rfl, ?_⟩
      have wr : Ext ρ1 H1 ρ1 (upd H1 a (.lst ws)) := .write rs1 h1 _
      have hwz : ws.length ≤ sizeLine := by simp at h3; omega
      exact k ρ1 _ _ (x1.trans wr) (rs1.write h1 ⟨ws, upd_same, hwz, rr.mono wr⟩) (r0.mono wr)
  · cases w0
end Snd

namespace Snd
open PySem PySem.Spec PyProof.Rows L2
variable {X : Cx} {C : Ir.Calls}
/-! ### int(b), str(i) -/
theorem blt_int : CallR X (.type "int") (rB X.K .int) := by
  refine callR_imp call_int1 fun xs H Q ⟨ρ, st, vs, v, st', rs, rv, ev, k⟩ => ?_
  obtain ⟨rfl, ds, r, h1, h2, rfl⟩ := not_len (by decide) ev
  have vd := VDs.derefs rs rv h1
  simp only [Ir.D.blt] at h2
  unfold Ir.D.bInt at h2
  split at h2
  · cases h2
    cases vd with
    | cons vd t =>
      cases t
      exact .inl ⟨_, by rw [RD.int_inv vd], k ρ H _ (.refl _ _) rs (.int _)⟩
  · cases h2
    cases vd with
    | cons vd t =>
      cases t
      exact .inr ⟨_, by rw [RD.bool_inv vd], k ρ H _ (.refl _ _) rs (.int _)⟩
  · cases h2
theorem blt_str : CallR X (.type "str") (rB X.K .str) := by
  refine callR_imp (callR_or call_str_int SkE.call_str_str) fun xs H Q ⟨ρ, st, vs, v, st', rs, rv, ev, k⟩ => ?_
  obtain ⟨rfl, ds, r, h1, h2, rfl⟩ := not_len (by decide) ev
  have vd := VDs.derefs rs rv h1
  simp only [Ir.D.blt] at h2
  unfold Ir.D.bStr at h2
  split at h2
  · split at h2
    · rename_i hl
      cases h2
      cases vd with
      | cons vd t =>
        cases t
        exact .inl ⟨_, by rw [RD.int_inv vd], hl, k ρ H _ (.refl _ _) rs (.str _)⟩
    · cases h2
  · split at h2
    · cases h2
      cases vd with
      | cons vd t =>
        cases t
        exact .inr ⟨_, by rw [RD.str_inv vd], k ρ H _ (.refl _ _) rs (.str _)⟩
    · cases h2
  · cases h2
/-! ### join -/
theorem strs_ok {ρ : Rho} {K : PySem.W.Frag} {H : Hp} : ∀ {xs : List Ir.D} {ys : List V} {bs : List String}, RDs ρ K H xs ys → Ir.D.strs xs = some bs → ys = (bs.map Str.ofString).map V.str
  | [], _, _, .nil, e => by simp [Ir.D.strs] at e; subst e; rfl
  | x :: xs, _, _, .cons h r, e => by
    cases x <;> simp [Ir.D.strs] at e
    obtain ⟨bs, e1, rfl⟩ := e
    rw [RD.str_inv h, strs_ok r e1]; rfl
theorem join_ok (a : String) : ∀ ys : List String, Txt.join (Str.ofString a) (ys.map Str.ofString) = Str.ofString (Ir.joinS a ys) := fun ys => by
  have key : ∀ ys : List String, Str.join (Str.ofString a) (ys.map Str.ofString) = Str.ofString (Ir.joinS a ys) := by
    intro ys
    induction ys with
    | nil => rfl
    | cons x r ih =>
      cases r with
      | nil => rfl
      | cons y r =>
        show Str.ofString x ++ Str.ofString a ++ Str.join (Str.ofString a) ((y :: r).map Str.ofString) = Str.ofString (x ++ a ++ Ir.joinS a (y :: r))
        rw [ih, ofString_app, ofString_app]
  exact (PySem.StrLaws.glued_eq_join _ _).trans (key ys)
theorem sum_len : ∀ ys : List String, ((ys.map Str.ofString).map (·.length)).sum = (ys.map (·.length)).sum
  | [] => rfl
  | y :: ys => by simp only [List.map_cons, List.sum_cons, ofString_len, sum_len ys]
theorem se_join {o e : Expr} {io ie : Ir.Ex} {apos pos : Pos} (ho : SE X C o io) (he : SE X C e ie) (hs : starEach [e] X.env = [(false, eval e X.env)] := by rfl) (hbase : attributeBase o (Str.ofString "join") X.env (eval o X.env) = eval o X.env := by rfl) (hline : (apos.endLine == pos.line) = true := by rfl) :
    SE X C (.Call (.Attribute o (Str.ofString "join") apos) [e] [] pos) (.mth .join io [ie]) := by
  refine pe_imp (pe_join ho he hs hbase hline) fun σ H Q ⟨ρ, env, st, v, st', rs, re, ev, k⟩ => ?_
  obtain ⟨x, s1, vs, s2, e1, hk, e2, ev⟩ := mth_ev ev
  have hx : ∃ a, x = .d (.str a) := by
    cases x with
    | ref n => simp [Ir.mthOk] at hk
    | d y => cases y <;> simp [Ir.mthOk] at hk; exact ⟨_, rfl⟩
  obtain ⟨a, rfl⟩ := hx
  simp only [Ir.evals] at e2
  obtain ⟨y, s3, e2, e3⟩ := bok e2
  simp only [Ir.Res.bind_ok] at e3
  cases e3
  refine ⟨ρ, env, st, _, s1, rs, re, e1, fun ρ1 H1 X1 x1 rs1 rx => ⟨⟨_, RD.str_inv rx⟩, ρ1, env, s1, y, _, rs1, re.mono x1, e2, fun ρ2 H2 Y x2 rs2 ry => ?_⟩⟩
  have w0 : Ir.mJoin s2 (.str a) [y] = .ok v st' := ev
  clear ev
  unfold Ir.mJoin at w0
  split at w0
  · rename_i a' xs h1 h2
    cases h1
    cases h2
    split at w0
    · rename_i ys hy
      split at w0
      · rename_i hl
        cases w0
        cases ry with
        | lst g1 g2 g3 g4 =>
          have e := strs_ok g4 hy
          subst e
          refine ⟨_, _, ys.map Str.ofString, RD.str_inv rx, rfl, .inl (SqL.of g1), ?_, ?_⟩
          · rw [sum_len, List.length_map, ofString_len]; exact hl
          · rw [join_ok]; exact k ρ2 H2 _ (x1.trans x2) rs2 (.str _)
      · cases w0
    · cases w0
  · cases w0
/-! ### f-strings -/
structure SFs (X : Cx) (C : Ir.Calls) (es : List Expr) (is : List Ir.Ex) : Prop where
  ex : ∃ ts, PJ X es ts ∧ ∀ (acc : String) σ H ρ env st vs st' ds ys (Q : Str → Hp → Prop), RS ρ X.K st H → REnv ρ X.K H env σ → Ir.evals C is env st = .ok vs st' → Ir.asDs vs = some ds → Ir.D.strs ds = some ys → acc.length + (ys.map (·.length)).sum ≤ Ir.LIM →
    (∀ ρ' H', Ext ρ H ρ' H' → RS ρ' X.K st' H' → Q (Str.ofString (acc ++ Ir.joinS "" ys)) H') → tJs ts (Str.ofString acc) σ H Q
theorem joinS_cons (y : String) (ys : List String) : Ir.joinS "" (y :: ys) = y ++ Ir.joinS "" ys := by
  cases ys <;> simp [Ir.joinS]
theorem sfs_nil : SFs X C [] [] := ⟨[], .nil, fun acc σ H ρ env st vs st' ds ys Q rs re ev h1 h2 hl k => by
  simp only [Ir.evals] at ev
  cases ev
  simp [Ir.asDs] at h1
  subst h1
  simp [Ir.D.strs] at h2
  subst h2
  have := k ρ H (.refl _ _) rs
  simpa [Ir.joinS, tJs] using this⟩
theorem sfs_step {e : Expr} {i : Ir.Ex} {es : List Expr} {is : List Ir.Ex} {t : TE} (he : PE X e t) (hi : ∀ σ H ρ env st z st' Q, RS ρ X.K st H → REnv ρ X.K H env σ → Ir.eval C i env st = .ok (.d (.str z)) st' → (∀ ρ' H', Ext ρ H ρ' H' → RS ρ' X.K st' H' → Q (.str (Str.ofString z)) H') → t σ H Q) (h : SFs X C es is) : SFs X C (e :: es) (i :: is) := by
  obtain ⟨ts, h1, h2⟩ := h
  refine ⟨_, .cons he h1, fun acc σ H ρ env st vs st' ds ys Q rs re ev hd hy hl k => ?_⟩
  simp only [Ir.evals] at ev
  obtain ⟨x, s1, e1, ev⟩ := bok ev
  obtain ⟨xs, s2, e2, ev⟩ := bok ev
  cases ev
  cases x with
  | ref n => simp [Ir.asDs] at hd
  | d y =>
    simp only [Ir.asDs, Option.map_eq_some_iff] at hd
    obtain ⟨ds', hd', rfl⟩ := hd
    obtain ⟨z, rfl⟩ : ∃ z, y = .str z := by cases y <;> simp [Ir.D.strs] at hy; exact ⟨_, rfl⟩
    simp only [Ir.D.strs, Option.map_eq_some_iff] at hy
    obtain ⟨ys', hy', rfl⟩ := hy
    simp only [List.map_cons, List.sum_cons] at hl
    show t σ H _
    refine hi σ H ρ env st z s1 _ rs re e1 fun ρ1 H1 x1 rs1 => ⟨_, rfl, ?_, ?_⟩
    · rw [ofString_app, ofString_len, ← lim_eq, String.length_append]; omega
    · rw [ofString_app]
      refine h2 (acc ++ z) σ H1 ρ1 env s1 xs st' ds' ys' Q rs1 (re.mono x1) e2 hd' hy' (by rw [String.length_append]; omega) fun ρ2 H2 x2 rs2 => ?_
      have := k ρ2 H2 (x1.trans x2) rs2
      rw [joinS_cons] at this
      rw [String.append_assoc]
      exact this
theorem sfs_con {z : String} {j pos} {es : List Expr} {is : List Ir.Ex} (h : SFs X C es is) : SFs X C (.Constant (.str (Str.ofString z)) j pos :: es) (.con (.str z) :: is) :=
  sfs_step (t := _) pe_str (fun σ H ρ env st z' st' Q rs re ev k => by
    simp only [Ir.eval] at ev
    cases ev
    exact k ρ H (.refl _ _) rs) h
theorem sfs_fmt {e : Expr} {i : Ir.Ex} {pos : Pos} {es : List Expr} {is : List Ir.Ex} (he : SE X C e i) (h : SFs X C es is) : SFs X C (.FormattedValue e (-1) none pos :: es) (.blt .str [i] :: is) :=
  sfs_step (pe_fmt he) (fun σ H ρ env st z st' Q rs re ev k => by
    simp only [Ir.eval, Ir.evals] at ev
    obtain ⟨vs, s1, e1, ev⟩ := bok ev
    obtain ⟨v, s2, e2, e1⟩ := bok e1
    simp only [Ir.Res.bind_ok] at e1
    cases e1
    obtain ⟨rfl, ds, r, h1, h2, h3⟩ := not_len (by decide) ev
    cases h3
    refine ⟨ρ, env, st, v, _, rs, re, e2, fun ρ1 H1 V1 x1 rs1 rv => ?_⟩
    have vd := VDs.derefs rs1 (.cons rv .nil) h1
    simp only [Ir.D.blt] at h2
    unfold Ir.D.bStr at h2
    split at h2
    · split at h2
      · rename_i hl
        cases h2
        cases vd with
        | cons vd t =>
          cases t
          exact .inr ⟨_, RD.int_inv vd, hl, k ρ1 H1 x1 rs1⟩
      · cases h2
    · split at h2
      · rename_i hl
        cases h2
        cases vd with
        | cons vd t =>
          cases t
          exact .inl ⟨_, RD.str_inv vd, by rw [ofString_len, ← lim_eq]; exact hl, k ρ1 H1 x1 rs1⟩
      · cases h2
    · cases h2) h
theorem se_fs {es : List Expr} {v1 v2 : Expr} {is : List Ir.Ex} {pos : Pos} (h : SFs X C (v1 :: v2 :: es) is) : SE X C (.JoinedStr (v1 :: v2 :: es) pos) (.fs is) := by
  obtain ⟨ts, h1, h2⟩ := h
  refine pe_imp (pe_joined h1) fun σ H Q ⟨ρ, env, st, v, st', rs, re, ev, k⟩ => ?_
  simp only [Ir.eval] at ev
  obtain ⟨vs, s1, e1, ev⟩ := bok ev
  obtain ⟨ds, e2, ev⟩ := ook ev
  obtain ⟨ys, e3, ev⟩ := ook ev
  split at ev
  · rename_i hl
    cases ev
    have := h2 "" σ H ρ env st vs _ ds ys (fun out H1 => Q (.str out) H1) rs re e1 e2 e3 (by simpa using hl) fun ρ' H' x rs' => by
      have := k ρ' H' _ x rs' (.str _)
      simpa using this
    exact this
  · cases ev
end Snd

namespace Prog
abbrev f_program_text_c0 : Ir.Ex := .ite (.isi (.var 3) [.str]) (.var 3) (.call "program_text" [.var 3])
def f_program_text : Ir.Fn := ⟨4, 1, [.asg (.star [1] 2 []) (.var 0),
    .ite (.cmp .eq (.var 1) (.con (.str "off"))) [.ret (.bin .add (.con (.str "?")) (.call "program_text" [.idx (.var 2) (.con (.int 0))]))] [],
    .ite (.cmp .eq (.var 1) (.con (.str "truth"))) [.ret (.ite (.idx (.var 2) (.con (.int 0))) (.con (.str "true")) (.con (.str "false")))] [],
    .ite (.cmp .isin (.var 1) (.tup [.con (.str "num"), .con (.str "name")])) [.ret (.blt .str [.idx (.var 2) (.con (.int 0))])] [],
    .ite (.cmp .eq (.var 1) (.con (.str "nil"))) [.ret (.var 1)] [],
    .ret (.bin .add (.bin .add (.con (.str "(")) (.mth .join (.con (.str " ")) [.bin .add (.lst [.var 1]) (.comp (f_program_text_c0) (.name 3) (.var 2) [])])) (.con (.str ")")))]⟩
abbrev f_type_text_c0 : Ir.Ex := .call "type_text" [.var 3]
def f_type_text : Ir.Fn := ⟨4, 1, [.asg (.star [1] 2 []) (.var 0),
    .ite (.cmp .eq (.var 1) (.con (.str "free"))) [.ret (.fs [.con (.str "'"), .blt .str [.idx (.var 2) (.con (.int 0))]])] [],
    .ret (.ite (.cmp .ne (.var 2) (.lst [])) (.bin .add (.bin .add (.con (.str "(")) (.mth .join (.con (.str " ")) [.bin .add (.lst [.var 1]) (.comp (f_type_text_c0) (.name 3) (.var 2) [])])) (.con (.str ")"))) (.var 1))]⟩
abbrev f_law_bag_b0 : List Ir.Stm := [.asg (.name 1) (.bin .mod (.bin .add (.bin .add (.bin .mul (.var 1) (.con (.int 48271))) (.bin .mod (.var 2) (.con (.int 2147483629)))) (.con (.int 1))) (.con (.int 2147483647)))]
abbrev f_law_bag_c0 : Ir.Ex := .bin .mod (.blt .abs [.var 2]) (.bin .pow (.bin .pow (.con (.int 10)) (.con (.int 60))) (.con (.int 10)))
def f_law_bag : Ir.Fn := ⟨3, 1, [.asg (.name 1) (.con (.int 19)),
    .loop (.name 2) (.sli (.var 0) none (some (.con (.int 63)))) f_law_bag_b0,
    .ret (.newL (.lst [.comp (f_law_bag_c0) (.name 2) (.sli (.var 0) none (some (.con (.int 63)))) [], .con (.int 0), .con (.int 0), .var 1, .con (.int 0)]))]⟩
abbrev f_law_stirred_b0 : List Ir.Stm := [.set (.var 0) (.con (.int 4)) (.bin .add (.idx (.var 0) (.con (.int 4))) (.con (.int 1))),
    .set (.var 0) (.con (.int 3)) (.bin .mod (.bin .add (.bin .add (.bin .add (.bin .pow (.idx (.var 0) (.con (.int 3))) (.con (.int 3))) (.bin .mul (.con (.int 69621)) (.idx (.var 0) (.con (.int 3))))) (.bin .mul (.con (.int 1031)) (.idx (.var 0) (.con (.int 4))))) (.con (.int 1))) (.con (.int 2147483647))),
    .asg (.name 2) (.bin .add (.bin .mul (.var 2) (.con (.int 134217728))) (.bin .fdiv (.idx (.var 0) (.con (.int 3))) (.con (.int 16))))]
def f_law_stirred : Ir.Fn := ⟨4, 2, [.asg (.name 2) (.con (.int 0)),
    .loop (.name 3) (.blt .range [.bin .add (.con (.int 1)) (.bin .fdiv (.mth .bit_length (.var 1) []) (.con (.int 27)))]) f_law_stirred_b0,
    .ret (.bin .mod (.var 2) (.var 1))]⟩
def f_law_draw : Ir.Fn := ⟨3, 2, [.ite (.and (.cmp .eq (.idx (.var 0) (.con (.int 2))) (.con (.int 0))) (.cmp .lt (.idx (.var 0) (.con (.int 1))) (.blt .len [.idx (.var 0) (.con (.int 0))]))) [.set (.var 0) (.con (.int 2)) (.idx (.idx (.var 0) (.con (.int 0))) (.idx (.var 0) (.con (.int 1)))),
    .set (.var 0) (.con (.int 1)) (.bin .add (.idx (.var 0) (.con (.int 1))) (.con (.int 1)))] [.ite (.cmp .eq (.idx (.var 0) (.con (.int 2))) (.con (.int 0))) [.ret (.call "_law_stirred" [.var 0, .var 1])] []],
    .asg (.name 2) (.bin .mod (.idx (.var 0) (.con (.int 2))) (.var 1)),
    .set (.var 0) (.con (.int 2)) (.bin .fdiv (.idx (.var 0) (.con (.int 2))) (.var 1)),
    .ret (.var 2)]⟩
abbrev f_law_pool_c0 : Ir.Ex := .idx (.var 1) (.call "_law_draw" [.var 0, .con (.int 26)])
abbrev f_law_pool_b0 : List Ir.Stm := [.asg (.name 8) (.bin .add (.var 9) (.idx (.var 1) (.var 10))),
    .asg (.name 10) (.bin .add (.var 10) (.con (.int 1)))]
abbrev f_law_pool_w0 : Ir.Ex := .or (.cmp .isin (.var 8) (.var 6)) (.cmp .isin (.var 8) (.var 2))
abbrev f_law_pool_b1 : List Ir.Stm := [.asg (.name 8) (.mth .join (.con (.str "")) [.comp (f_law_pool_c0) (.name 11) (.blt .range [.bin .add (.con (.int 1)) (.call "_law_draw" [.var 0, .con (.int 8)])]) []]),
    .ite (.cmp .eq (.var 3) (.con (.int 1))) [.asg (.name 8) (.bin .add (.bin .add (.sli (.var 4) none (some (.var 5))) (.sli (.var 8) none (some (.con (.int 1))))) (.sli (.var 4) (some (.bin .add (.var 5) (.con (.int 1)))) none))] [],
    .ite (.cmp .eq (.var 3) (.con (.int 2))) [.asg (.name 8) (.sli (.bin .add (.var 4) (.var 8)) none (some (.bin .add (.con (.int 1)) (.call "_law_draw" [.var 0, .con (.int 8)]))))] [],
    .asg (.name 9) (.sli (.var 8) none (some (.con (.int 7)))),
    .asg (.name 10) (.con (.int 0)),
    .while (f_law_pool_w0) f_law_pool_b0,
    .ex (.mth .append (.var 6) [.var 8])]
def f_law_pool : Ir.Fn := ⟨12, 1, [.asg (.name 1) (.con (.str "abcdefghijklmnopqrstuvwxyz")),
    .asg (.name 2) (.lst [.con (.str "num"), .con (.str "truth"), .con (.str "name"), .con (.str "fn"), .con (.str "rec"), .con (.str "call"), .con (.str "let"), .con (.str "if"), .con (.str "plus"), .con (.str "less"), .con (.str "pair"), .con (.str "first"), .con (.str "second"), .con (.str "nil")]),
    .asg (.name 2) (.bin .add (.var 2) (.lst [.con (.str "cons"), .con (.str "head"), .con (.str "tail"), .con (.str "none"), .con (.str "off"), .con (.str "true"), .con (.str "false"), .con (.str "int"), .con (.str "bool"), .con (.str "list")])),
    .asg (.name 3) (.call "_law_draw" [.var 0, .con (.int 3)]),
    .asg (.name 4) (.mth .join (.con (.str "")) [.comp (f_law_pool_c0) (.name 7) (.blt .range [.bin .add (.con (.int 1)) (.call "_law_draw" [.var 0, .con (.int 8)])]) []]),
    .asg (.name 5) (.call "_law_draw" [.var 0, .blt .len [.var 4]]),
    .asg (.name 6) (.newL (.lst [])),
    .loop (.name 7) (.blt .range [.bin .add (.con (.int 4)) (.call "_law_draw" [.var 0, .con (.int 5)])]) f_law_pool_b1,
    .ret (.frz (.var 6))]⟩
def f_law_names : Ir.Fn := ⟨1, 1, [.ret (.sli (.call "_law_pool" [.var 0]) none (some (.con (.int 3))))]⟩
def f_law_atom : Ir.Fn := ⟨3, 2, [.asg (.name 2) (.call "_law_draw" [.var 0, .con (.int 8)]),
    .ite (.and (.cmp .lt (.var 2) (.con (.int 4))) (.cmp .ne (.var 1) (.lst []))) [.ret (.tup [.con (.str "name"), .idx (.var 1) (.call "_law_draw" [.var 0, .blt .len [.var 1]])])] [],
    .ite (.cmp .lt (.var 2) (.con (.int 6))) [.ret (.tup [.con (.str "num"), .idx (.lst [.call "_law_draw" [.var 0, .con (.int 10)], .bin .sub (.con (.int 0)) (.call "_law_draw" [.var 0, .con (.int 1000)]), .call "_law_draw" [.var 0, .bin .pow (.con (.int 10)) (.con (.int 60))]]) (.call "_law_draw" [.var 0, .con (.int 3)])])] [],
    .ret (.ite (.cmp .eq (.var 2) (.con (.int 6))) (.tup [.con (.str "truth"), .cmp .eq (.call "_law_draw" [.var 0, .con (.int 2)]) (.con (.int 1))]) (.tup [.con (.str "nil")]))]⟩
abbrev f_law_prog_c0 : Ir.Ex := .var 22
abbrev f_law_prog_k0 : List Ir.Ex := [.cmp .ne (.var 22) (.var 13)]
abbrev f_law_prog_b0 : List Ir.Stm := [.asg (.name 19) (.ite (.cmp .lt (.var 18) (.bin .sub (.var 8) (.con (.int 1)))) (.call "_law_draw" [.var 0, .bin .add (.var 16) (.con (.int 1))]) (.var 16)),
    .asg (.name 16) (.bin .sub (.var 16) (.var 19)),
    .asg (.name 20) (.ite (.and (.cmp .eq (.var 11) (.con (.str "let"))) (.cmp .eq (.var 18) (.con (.int 0)))) (.var 2) (.bin .add (.var 2) (.var 15))),
    .asg (.name 21) (.ite (.and (.cmp .eq (.var 6) (.con (.int 1))) (.and (.cmp .eq (.var 11) (.con (.str "let"))) (.cmp .eq (.var 18) (.con (.int 0))))) (.con (.int 2)) (.var 6)),
    .ex (.mth .append (.var 17) [.call "_law_prog" [.var 0, .var 1, .var 20, .bin .add (.con (.int 1)) (.var 19), .bin .sub (.var 4) (.con (.int 1)), .var 5, .var 21]])]
def f_law_prog : Ir.Fn := ⟨23, 7, [.asg (.name 7) (.cmp .lt (.call "_law_draw" [.var 0, .con (.int 32)]) (.var 5)),
    .asg (.name 8) (.ite (.cmp .gt (.var 4) (.con (.int 1))) (.blt .min [.bin .sub (.var 3) (.con (.int 1)), .idx (.lst [.con (.int 1), .con (.int 2), .con (.int 2), .con (.int 3)]) (.call "_law_draw" [.var 0, .con (.int 4)])]) (.con (.int 0))),
    .asg (.name 9) (.sli (.lst [.con (.str "first"), .con (.str "second"), .con (.str "head"), .con (.str "tail"), .con (.str "none"), .con (.str "fn"), .con (.str "rec"), .con (.str "fn")]) none (some (.ite (.cmp .eq (.var 6) (.con (.int 2))) (.con (.int 5)) (.con (.int 8))))),
    .asg (.name 10) (.idx (.lst [.lst [.con (.str "num")], .var 9, .lst [.con (.str "call"), .con (.str "let"), .con (.str "plus"), .con (.str "less"), .con (.str "pair"), .con (.str "cons"), .con (.str "call"), .con (.str "let")], .lst [.con (.str "if")]]) (.var 8)),
    .asg (.name 11) (.idx (.var 10) (.call "_law_draw" [.var 0, .blt .len [.var 10]])),
    .asg (.name 12) (.call "_law_atom" [.var 0, .var 2]),
    .asg (.name 13) (.idx (.var 1) (.call "_law_draw" [.var 0, .con (.int 3)])),
    .asg (.name 14) (.idx (.comp (f_law_prog_c0) (.name 22) (.var 1) f_law_prog_k0) (.call "_law_draw" [.var 0, .con (.int 2)])),
    .asg (.name 15) (.mth .get (.newDd [.con (.str "fn"), .lst [.var 13], .con (.str "rec"), .lst [.var 14, .var 13], .con (.str "let"), .lst [.var 13]]) [.var 11, .lst []]),
    .asg (.name 16) (.bin .sub (.bin .sub (.var 3) (.con (.int 1))) (.var 8)),
    .asg (.name 17) (.newL (.lst [])),
    .loop (.name 18) (.blt .range [.var 8]) f_law_prog_b0,
    .ite (.cmp .gt (.var 8) (.con (.int 0))) [.asg (.name 12) (.bin .add (.bin .add (.tup [.var 11]) (.blt .tuple [.var 15])) (.blt .tuple [.var 17]))] [],
    .ret (.ite (.var 7) (.tup [.con (.str "off"), .var 12]) (.var 12))]⟩
def f_law_any_prog : Ir.Fn := ⟨4, 1, [.asg (.name 1) (.call "_law_names" [.var 0]),
    .asg (.name 2) (.idx (.lst [.con (.int 0), .con (.int 3), .con (.int 8), .con (.int 20)]) (.call "_law_draw" [.var 0, .con (.int 4)])),
    .asg (.name 3) (.bin .add (.con (.int 1)) (.call "_law_draw" [.var 0, .idx (.lst [.con (.int 5), .con (.int 10), .con (.int 10), .con (.int 16), .con (.int 16), .con (.int 24), .con (.int 40), .con (.int 40)]) (.call "_law_draw" [.var 0, .con (.int 8)])])),
    .ret (.call "_law_prog" [.var 0, .var 1, .lst [], .var 3, .idx (.lst [.con (.int 4), .con (.int 12), .con (.int 25)]) (.call "_law_draw" [.var 0, .con (.int 3)]), .var 2, .blt .int [.cmp .gt (.var 3) (.con (.int 16))]])]⟩
def f_law_any_kind : Ir.Fn := ⟨6, 3, [.asg (.name 3) (.call "_law_draw" [.var 0, .con (.int 8)]),
    .ite (.or (.cmp .lt (.var 2) (.con (.int 2))) (.cmp .lt (.var 3) (.con (.int 2)))) [.ite (.and (.cmp .ne (.var 1) (.lst [])) (.cmp .gt (.call "_law_draw" [.var 0, .con (.int 4)]) (.con (.int 0)))) [.ret (.tup [.con (.str "free"), .idx (.var 1) (.call "_law_draw" [.var 0, .blt .len [.var 1]])])] [],
    .ret (.idx (.lst [.tup [.con (.str "int")], .tup [.con (.str "bool")]]) (.call "_law_draw" [.var 0, .con (.int 2)]))] [],
    .ite (.or (.cmp .lt (.var 2) (.con (.int 3))) (.cmp .eq (.var 3) (.con (.int 2)))) [.ret (.tup [.con (.str "list"), .call "_law_any_kind" [.var 0, .var 1, .bin .sub (.var 2) (.con (.int 1))]])] [],
    .asg (.name 4) (.bin .add (.con (.int 1)) (.call "_law_draw" [.var 0, .bin .sub (.var 2) (.con (.int 2))])),
    .asg (.name 5) (.call "_law_any_kind" [.var 0, .var 1, .var 4]),
    .ret (.tup [.idx (.lst [.con (.str "fn"), .con (.str "pair")]) (.bin .mod (.var 3) (.con (.int 2))), .var 5, .call "_law_any_kind" [.var 0, .var 1, .bin .sub (.bin .sub (.var 2) (.con (.int 1))) (.var 4)]])]⟩
abbrev f_law_numbers_c0 : Ir.Ex := .bin .add (.var 1) (.bin .mul (.var 2) (.bin .add (.con (.int 1)) (.call "_law_draw" [.var 0, .con (.int 3)])))
def f_law_numbers : Ir.Fn := ⟨3, 1, [.asg (.name 1) (.call "_law_draw" [.var 0, .idx (.lst [.con (.int 1), .con (.int 1), .con (.int 10), .bin .pow (.con (.int 10)) (.con (.int 50))]) (.call "_law_draw" [.var 0, .con (.int 4)])]),
    .ret (.comp (f_law_numbers_c0) (.name 2) (.blt .range [.bin .add (.con (.int 1)) (.call "_law_draw" [.var 0, .con (.int 5)])]) [])]⟩
abbrev f_law_written_c0 : Ir.Ex := .ite (.isi (.var 2) [.str]) (.var 2) (.call "_law_written" [.var 2])
def f_law_written : Ir.Fn := ⟨3, 1, [.ite (.cmp .eq (.idx (.var 0) (.con (.int 0))) (.con (.str "off"))) [.ret (.bin .add (.con (.str "?")) (.call "_law_written" [.idx (.var 0) (.con (.int 1))]))] [],
    .ite (.cmp .isin (.idx (.var 0) (.con (.int 0))) (.lst [.con (.str "num"), .con (.str "name")])) [.ret (.blt .str [.idx (.var 0) (.con (.int 1))])] [],
    .ite (.cmp .eq (.idx (.var 0) (.con (.int 0))) (.con (.str "truth"))) [.ret (.ite (.idx (.var 0) (.con (.int 1))) (.con (.str "true")) (.con (.str "false")))] [],
    .ite (.cmp .eq (.idx (.var 0) (.con (.int 0))) (.con (.str "nil"))) [.ret (.con (.str "nil"))] [],
    .asg (.name 1) (.comp (f_law_written_c0) (.name 2) (.sli (.var 0) (some (.con (.int 1))) none) []),
    .ret (.bin .add (.bin .add (.con (.str "(")) (.mth .join (.con (.str " ")) [.bin .add (.lst [.idx (.var 0) (.con (.int 0))]) (.var 1)])) (.con (.str ")")))]⟩
abbrev f_law_kind_written_c0 : Ir.Ex := .call "_law_kind_written" [.var 1]
def f_law_kind_written : Ir.Fn := ⟨2, 1, [.ite (.cmp .eq (.idx (.var 0) (.con (.int 0))) (.con (.str "free"))) [.ret (.bin .add (.con (.str "'")) (.blt .str [.idx (.var 0) (.con (.int 1))]))] [],
    .ite (.cmp .eq (.blt .len [.var 0]) (.con (.int 1))) [.ret (.idx (.var 0) (.con (.int 0)))] [],
    .ret (.bin .add (.bin .add (.con (.str "(")) (.mth .join (.con (.str " ")) [.bin .add (.lst [.idx (.var 0) (.con (.int 0))]) (.comp (f_law_kind_written_c0) (.name 1) (.sli (.var 0) (some (.con (.int 1))) none) [])])) (.con (.str ")")))]⟩
abbrev f_law_b0 : List Ir.Stm := [.asg (.name 3) (.call "_law_any_prog" [.var 1]),
    .asg (.name 4) (.call "_law_any_kind" [.var 1, .call "_law_numbers" [.var 1], .bin .add (.con (.int 1)) (.call "_law_draw" [.var 1, .con (.int 16)])]),
    .asg (.name 5) (.lst [.call "program_text" [.var 3], .call "type_text" [.var 4]]),
    .ite (.cmp .ne (.var 5) (.lst [.call "_law_written" [.var 3], .call "_law_kind_written" [.var 4]])) [.ret (.con (.bool false))] [],
    .ite (.cmp .ne (.lst [.callP "program_text" [.var 3] [0], .callP "type_text" [.var 4] [0]]) (.var 5)) [.ret (.con (.bool false))] []]
def f_law : Ir.Fn := ⟨6, 1, [.asg (.name 1) (.call "_law_bag" [.var 0]),
    .loop (.name 2) (.blt .range [.bin .add (.con (.int 1)) (.blt .min [.con (.int 4), .bin .fdiv (.blt .len [.var 0]) (.con (.int 6))])]) f_law_b0,
    .ret (.con (.bool true))]⟩
def tab : List (String × Ir.Fn) := [("program_text", f_program_text), ("type_text", f_type_text), ("_law_bag", f_law_bag), ("_law_stirred", f_law_stirred), ("_law_draw", f_law_draw), ("_law_pool", f_law_pool), ("_law_names", f_law_names), ("_law_atom", f_law_atom), ("_law_prog", f_law_prog), ("_law_any_prog", f_law_any_prog), ("_law_any_kind", f_law_any_kind), ("_law_numbers", f_law_numbers), ("_law_written", f_law_written), ("_law_kind_written", f_law_kind_written), ("law", f_law)]
def T : Ir.Tab := Ir.tabOf tab
theorem T_f_program_text : T "program_text" = some f_program_text := by simp [T, Ir.tabOf, tab, List.lookup]
theorem T_f_type_text : T "type_text" = some f_type_text := by simp [T, Ir.tabOf, tab, List.lookup]
theorem T_f_law_bag : T "_law_bag" = some f_law_bag := by simp [T, Ir.tabOf, tab, List.lookup]
theorem T_f_law_stirred : T "_law_stirred" = some f_law_stirred := by simp [T, Ir.tabOf, tab, List.lookup]
theorem T_f_law_draw : T "_law_draw" = some f_law_draw := by simp [T, Ir.tabOf, tab, List.lookup]
theorem T_f_law_pool : T "_law_pool" = some f_law_pool := by simp [T, Ir.tabOf, tab, List.lookup]
theorem T_f_law_names : T "_law_names" = some f_law_names := by simp [T, Ir.tabOf, tab, List.lookup]
theorem T_f_law_atom : T "_law_atom" = some f_law_atom := by simp [T, Ir.tabOf, tab, List.lookup]
theorem T_f_law_prog : T "_law_prog" = some f_law_prog := by simp [T, Ir.tabOf, tab, List.lookup]
theorem T_f_law_any_prog : T "_law_any_prog" = some f_law_any_prog := by simp [T, Ir.tabOf, tab, List.lookup]
theorem T_f_law_any_kind : T "_law_any_kind" = some f_law_any_kind := by simp [T, Ir.tabOf, tab, List.lookup]
theorem T_f_law_numbers : T "_law_numbers" = some f_law_numbers := by simp [T, Ir.tabOf, tab, List.lookup]
theorem T_f_law_written : T "_law_written" = some f_law_written := by simp [T, Ir.tabOf, tab, List.lookup]
theorem T_f_law_kind_written : T "_law_kind_written" = some f_law_kind_written := by simp [T, Ir.tabOf, tab, List.lookup]
theorem T_f_law : T "law" = some f_law := by simp [T, Ir.tabOf, tab, List.lookup]
end Prog

namespace Prog
open PySem PySem.Spec PyProof.Rows L2 Snd
/-! ### the text by places -/
def topS (i : Nat) : Stmt := PySem.Challenge.pw_leastmends_k81_programs_written.main.body.getD i (.Pass ⟨0, 0, 0, 0⟩)
abbrev sf_program_text : Stmt := topS 1
abbrev sf_type_text : Stmt := topS 2
abbrev sf_law_bag : Stmt := topS 4
abbrev sf_law_stirred : Stmt := topS 5
abbrev sf_law_draw : Stmt := topS 6
abbrev sf_law_pool : Stmt := topS 7
abbrev sf_law_names : Stmt := topS 8
abbrev sf_law_atom : Stmt := topS 10
abbrev sf_law_prog : Stmt := topS 11
abbrev sf_law_any_prog : Stmt := topS 12
abbrev sf_law_any_kind : Stmt := topS 13
abbrev sf_law_numbers : Stmt := topS 14
abbrev sf_law_written : Stmt := topS 19
abbrev sf_law_kind_written : Stmt := topS 20
abbrev sf_law : Stmt := topS 21
def bn : List String := ["abs", "int", "isinstance", "len", "min", "range", "str", "tuple"]
def KW : List Kw := [("program_text", 0, ["program"], [0]), ("type_text", 0, ["one"], [0])]
end Prog

namespace Prog
open PySem PySem.Spec PyProof.Rows L2 Snd
section
variable {P : Program} {w : World} {K : PySem.W.Frag} {mg : Str → Option Value} {base : Heap}
theorem scf_program_text : FnScope ["program", "head", "parts", "part"] ["program"] (defScope sf_program_text) := ⟨rfl, rfl, rfl, by decide +kernel, rfl, by decide +kernel, by decide +kernel⟩
theorem okf_program_text {n : Nat} {a : Addr} {fd : FuncData} (F : Fun K "program_text" "program_text" sf_program_text a fd) (ft : FT T KW n P w K mg base) (mb : ∀ s ∈ bn, mg (Str.ofString s) = none) : FnOk P w K mg base CX0 (n + 1) a fd ["program"] (spI T (n + 1) K "program_text") :=
  have nd := (scf_program_text).nd
  fn_ok F scf_program_text T_f_program_text rfl rfl fun cdv A outer s H E hr =>
    (ss_cons (ss_asg (se_var 0) (sg_star (pre := [1]) (post := []) rfl (sns_cons 1 nd (sns_star 2 nd sns_nil))))
      (ss_cons (ss_if (st_cmp (cmp_eq hr) (se_var 1) se_str) (ss_cons (ss_ret (se_bin bin_add se_str (se_call ft T_f_program_text hr (ses_cons (se_idx hr (se_var 2) se_int) ses_nil))))
      ss_nil) ss_nil)
      (ss_cons (ss_if (st_cmp (cmp_eq hr) (se_var 1) se_str) (ss_cons (ss_ret (se_ite (st_val (se_idx hr (se_var 2) se_int)) se_str se_str))
      ss_nil) ss_nil)
      (ss_cons (ss_if (st_in hr (se_var 1) (se_tup (ses_cons se_str (ses_cons se_str ses_nil)))) (ss_cons (ss_ret (se_bltT blt_str (ses_cons (se_idx hr (se_var 2) se_int) ses_nil) (mb "str" (by decide)) bv_str))
      ss_nil) ss_nil)
      (ss_cons (ss_if (st_cmp (cmp_eq hr) (se_var 1) se_str) (ss_cons (ss_ret (se_var 1))
      ss_nil) ss_nil)
      (ss_cons (ss_ret (se_bin bin_add (se_bin bin_add se_str (se_join se_str (se_bin bin_add (se_list is_lst (sn_lst (ses_cons (se_var 1) ses_nil))) (se_list is_comp (sn_comp [("part", 3)] rfl nd (si_seq (se_var 2)) (blkOk_by (N := ["program", "head", "parts", "part"]) (sc := defScope sf_program_text) (by decide +kernel)) (fun _ _ _ _ _ => (sg_name 3 nd)) (fun _ _ _ _ _ => sc_nil) (fun _ _ _ _ _ => (se_ite (st_val (se_isi (t := .str) (se_var 3) (sty_cons (t := .str) sty_nil (mb "str" (by decide)) bv_str) (mb "isinstance" (by decide)))) (se_var 3) (se_call ft T_f_program_text hr (ses_cons (se_var 3) ses_nil))))))))) se_str))
      ss_nil))))))
end
end Prog

namespace Prog
open PySem PySem.Spec PyProof.Rows L2 Snd
section
variable {P : Program} {w : World} {K : PySem.W.Frag} {mg : Str → Option Value} {base : Heap}
theorem scf_type_text : FnScope ["one", "head", "parts", "part"] ["one"] (defScope sf_type_text) := ⟨rfl, rfl, rfl, by decide +kernel, rfl, by decide +kernel, by decide +kernel⟩
theorem okf_type_text {n : Nat} {a : Addr} {fd : FuncData} (F : Fun K "type_text" "type_text" sf_type_text a fd) (ft : FT T KW n P w K mg base) (mb : ∀ s ∈ bn, mg (Str.ofString s) = none) : FnOk P w K mg base CX0 (n + 1) a fd ["one"] (spI T (n + 1) K "type_text") :=
  have nd := (scf_type_text).nd
  fn_ok F scf_type_text T_f_type_text rfl rfl fun cdv A outer s H E hr =>
    (ss_cons (ss_asg (se_var 0) (sg_star (pre := [1]) (post := []) rfl (sns_cons 1 nd (sns_star 2 nd sns_nil))))
      (ss_cons (ss_if (st_cmp (cmp_eq hr) (se_var 1) se_str) (ss_cons (ss_ret (se_fs (sfs_con (sfs_fmt (se_idx hr (se_var 2) se_int) sfs_nil))))
      ss_nil) ss_nil)
      (ss_cons (ss_ret (se_ite (st_cmp (cmp_ne hr) (se_var 2) (se_list is_lst (sn_lst ses_nil))) (se_bin bin_add (se_bin bin_add se_str (se_join se_str (se_bin bin_add (se_list is_lst (sn_lst (ses_cons (se_var 1) ses_nil))) (se_list is_comp (sn_comp [("part", 3)] rfl nd (si_seq (se_var 2)) (blkOk_by (N := ["one", "head", "parts", "part"]) (sc := defScope sf_type_text) (by decide +kernel)) (fun _ _ _ _ _ => (sg_name 3 nd)) (fun _ _ _ _ _ => sc_nil) (fun _ _ _ _ _ => (se_call ft T_f_type_text hr (ses_cons (se_var 3) ses_nil)))))))) se_str) (se_var 1)))
      ss_nil)))
end
end Prog

namespace Prog
open PySem PySem.Spec PyProof.Rows L2 Snd
section
variable {P : Program} {w : World} {K : PySem.W.Frag} {mg : Str → Option Value} {base : Heap}
theorem scf_law_bag : FnScope ["_law_script", "_law_stir", "_law_cell"] ["_law_script"] (defScope sf_law_bag) := ⟨rfl, rfl, rfl, by decide +kernel, rfl, by decide +kernel, by decide +kernel⟩
theorem okf_law_bag {n : Nat} {a : Addr} {fd : FuncData} (F : Fun K "_law_bag" "_law_bag" sf_law_bag a fd) (ft : FT T KW n P w K mg base) (mb : ∀ s ∈ bn, mg (Str.ofString s) = none) : FnOk P w K mg base CX0 (n + 1) a fd ["_law_script"] (spI T (n + 1) K "_law_bag") :=
  have nd := (scf_law_bag).nd
  fn_ok F scf_law_bag T_f_law_bag rfl rfl fun cdv A outer s H E hr =>
    (ss_cons (ss_set 1 nd se_int)
      (ss_cons (ss_for PassesOwn.never rfl (si_seq (se_sli (se_var 0) so_none (so_some se_int))) (sg_name 2 nd) (ss_cons (ss_set 1 nd (se_bin bin_mod (se_bin bin_add (se_bin bin_add (se_bin bin_mul (se_var 1) se_int) (se_bin bin_mod (se_var 2) se_int)) se_int) se_int))
      ss_nil))
      (ss_cons (ss_ret (se_newL (sn_lst (ses_cons (se_list is_comp (sn_comp [("_law_cell", 2)] rfl nd (si_seq (se_sli (se_var 0) so_none (so_some se_int))) (blkOk_by (N := ["_law_script", "_law_stir", "_law_cell"]) (sc := defScope sf_law_bag) (by decide +kernel)) (fun _ _ _ _ _ => (sg_name 2 nd)) (fun _ _ _ _ _ => sc_nil) (fun _ _ _ _ _ => (se_bin bin_mod (se_blt blt_abs (ses_cons (se_var 2) ses_nil) (mb "abs" (by decide)) bv_abs) (se_bin bin_pow (se_bin bin_pow se_int se_int) se_int))))) (ses_cons se_int (ses_cons se_int (ses_cons (se_var 1) (ses_cons se_int ses_nil))))))))
      ss_nil)))
end
end Prog

namespace Prog
open PySem PySem.Spec PyProof.Rows L2 Snd
section
variable {P : Program} {w : World} {K : PySem.W.Frag} {mg : Str → Option Value} {base : Heap}
theorem scf_law_stirred : FnScope ["_law_bag_here", "_law_many", "_law_found", "_law_k"] ["_law_bag_here", "_law_many"] (defScope sf_law_stirred) := ⟨rfl, rfl, rfl, by decide +kernel, rfl, by decide +kernel, by decide +kernel⟩
theorem okf_law_stirred {n : Nat} {a : Addr} {fd : FuncData} (F : Fun K "_law_stirred" "_law_stirred" sf_law_stirred a fd) (ft : FT T KW n P w K mg base) (mb : ∀ s ∈ bn, mg (Str.ofString s) = none) : FnOk P w K mg base CX0 (n + 1) a fd ["_law_bag_here", "_law_many"] (spI T (n + 1) K "_law_stirred") :=
  have nd := (scf_law_stirred).nd
  fn_ok F scf_law_stirred T_f_law_stirred rfl rfl fun cdv A outer s H E hr =>
    (ss_cons (ss_set 2 nd se_int)
      (ss_cons (ss_for PassesOwn.never rfl (si_range1 (se_bin bin_add se_int (se_bin bin_fdiv (se_bits (se_var 1)) se_int)) (mb "range" (by decide))) (sg_name 3 nd) (ss_cons (ss_sub hr (se_bin bin_add (se_idx hr (se_var 0) se_int) se_int) (se_var 0) se_int)
      (ss_cons (ss_sub hr (se_bin bin_mod (se_bin bin_add (se_bin bin_add (se_bin bin_add (se_bin bin_pow (se_idx hr (se_var 0) se_int) se_int) (se_bin bin_mul se_int (se_idx hr (se_var 0) se_int))) (se_bin bin_mul se_int (se_idx hr (se_var 0) se_int))) se_int) se_int) (se_var 0) se_int)
      (ss_cons (ss_set 2 nd (se_bin bin_add (se_bin bin_mul (se_var 2) se_int) (se_bin bin_fdiv (se_idx hr (se_var 0) se_int) se_int)))
      ss_nil))))
      (ss_cons (ss_ret (se_bin bin_mod (se_var 2) (se_var 1)))
      ss_nil)))
end
end Prog

namespace Prog
open PySem PySem.Spec PyProof.Rows L2 Snd
section
variable {P : Program} {w : World} {K : PySem.W.Frag} {mg : Str → Option Value} {base : Heap}
theorem scf_law_draw : FnScope ["_law_bag_here", "_law_many", "_law_found"] ["_law_bag_here", "_law_many"] (defScope sf_law_draw) := ⟨rfl, rfl, rfl, by decide +kernel, rfl, by decide +kernel, by decide +kernel⟩
theorem okf_law_draw {n : Nat} {a : Addr} {fd : FuncData} (F : Fun K "_law_draw" "_law_draw" sf_law_draw a fd) (ft : FT T KW n P w K mg base) (mb : ∀ s ∈ bn, mg (Str.ofString s) = none) : FnOk P w K mg base CX0 (n + 1) a fd ["_law_bag_here", "_law_many"] (spI T (n + 1) K "_law_draw") :=
  have nd := (scf_law_draw).nd
  fn_ok F scf_law_draw T_f_law_draw rfl rfl fun cdv A outer s H E hr =>
    (ss_cons (ss_if (st_w (sw_and (st_cmp (cmp_eq hr) (se_idx hr (se_var 0) se_int) se_int) (sw_and1 (st_cmp cmp_lt (se_idx hr (se_var 0) se_int) (se_blt blt_len (ses_cons (se_idx hr (se_var 0) se_int) ses_nil) (mb "len" (by decide)) bv_len))))) (ss_cons (ss_sub hr (se_idx hr (se_idx hr (se_var 0) se_int) (se_idx hr (se_var 0) se_int)) (se_var 0) se_int)
      (ss_cons (ss_sub hr (se_bin bin_add (se_idx hr (se_var 0) se_int) se_int) (se_var 0) se_int)
      ss_nil)) (ss_cons (ss_if (st_cmp (cmp_eq hr) (se_idx hr (se_var 0) se_int) se_int) (ss_cons (ss_ret (se_call ft T_f_law_stirred hr (ses_cons (se_var 0) (ses_cons (se_var 1) ses_nil))))
      ss_nil) ss_nil)
      ss_nil))
      (ss_cons (ss_set 2 nd (se_bin bin_mod (se_idx hr (se_var 0) se_int) (se_var 1)))
      (ss_cons (ss_sub hr (se_bin bin_fdiv (se_idx hr (se_var 0) se_int) (se_var 1)) (se_var 0) se_int)
      (ss_cons (ss_ret (se_var 2))
      ss_nil))))
end
end Prog

namespace Prog
open PySem PySem.Spec PyProof.Rows L2 Snd
section
variable {P : Program} {w : World} {K : PySem.W.Frag} {mg : Str → Option Value} {base : Heap}
theorem scf_law_pool : FnScope ["_law_bag_here", "_law_letters", "_law_words", "_law_style", "_law_base", "_law_at", "_law_found", "_law_k", "_law_name", "_law_start", "_law_step", "_law_j"] ["_law_bag_here"] (defScope sf_law_pool) := ⟨rfl, rfl, rfl, by decide +kernel, rfl, by decide +kernel, by decide +kernel⟩
theorem okf_law_pool {n : Nat} {a : Addr} {fd : FuncData} (F : Fun K "_law_pool" "_law_pool" sf_law_pool a fd) (ft : FT T KW n P w K mg base) (mb : ∀ s ∈ bn, mg (Str.ofString s) = none) : FnOk P w K mg base CX0 (n + 1) a fd ["_law_bag_here"] (spI T (n + 1) K "_law_pool") :=
  have nd := (scf_law_pool).nd
  fn_ok F scf_law_pool T_f_law_pool rfl rfl fun cdv A outer s H E hr =>
    (ss_cons (ss_set 1 nd se_str)
      (ss_cons (ss_set 2 nd (se_list is_lst (sn_lst (ses_cons se_str (ses_cons se_str (ses_cons se_str (ses_cons se_str (ses_cons se_str (ses_cons se_str (ses_cons se_str (ses_cons se_str (ses_cons se_str (ses_cons se_str (ses_cons se_str (ses_cons se_str (ses_cons se_str (ses_cons se_str ses_nil)))))))))))))))))
      (ss_cons (ss_set 2 nd (se_bin bin_add (se_var 2) (se_list is_lst (sn_lst (ses_cons se_str (ses_cons se_str (ses_cons se_str (ses_cons se_str (ses_cons se_str (ses_cons se_str (ses_cons se_str (ses_cons se_str (ses_cons se_str (ses_cons se_str ses_nil))))))))))))))
      (ss_cons (ss_set 3 nd (se_call ft T_f_law_draw hr (ses_cons (se_var 0) (ses_cons se_int ses_nil))))
      (ss_cons (ss_set 4 nd (se_join se_str (se_list is_comp (sn_comp [("_law_k", 7)] rfl nd (si_range1 (se_bin bin_add se_int (se_call ft T_f_law_draw hr (ses_cons (se_var 0) (ses_cons se_int ses_nil)))) (mb "range" (by decide))) (blkOk_by (N := ["_law_bag_here", "_law_letters", "_law_words", "_law_style", "_law_base", "_law_at", "_law_found", "_law_k", "_law_name", "_law_start", "_law_step", "_law_j"]) (sc := defScope sf_law_pool) (by decide +kernel)) (fun _ _ _ _ _ => (sg_name 7 nd)) (fun _ _ _ _ _ => sc_nil) (fun _ _ _ _ _ => (se_idx hr (se_var 1) (se_call ft T_f_law_draw hr (ses_cons (se_var 0) (ses_cons se_int ses_nil)))))))))
      (ss_cons (ss_set 5 nd (se_call ft T_f_law_draw hr (ses_cons (se_var 0) (ses_cons (se_blt blt_len (ses_cons (se_var 4) ses_nil) (mb "len" (by decide)) bv_len) ses_nil))))
      (ss_cons (ss_set 6 nd (se_newL (sn_lst ses_nil)))
      (ss_cons (ss_for PassesOwn.never rfl (si_range1 (se_bin bin_add se_int (se_call ft T_f_law_draw hr (ses_cons (se_var 0) (ses_cons se_int ses_nil)))) (mb "range" (by decide))) (sg_name 7 nd) (ss_cons (ss_set 8 nd (se_join se_str (se_list is_comp (sn_comp [("_law_j", 11)] rfl nd (si_range1 (se_bin bin_add se_int (se_call ft T_f_law_draw hr (ses_cons (se_var 0) (ses_cons se_int ses_nil)))) (mb "range" (by decide))) (blkOk_by (N := ["_law_bag_here", "_law_letters", "_law_words", "_law_style", "_law_base", "_law_at", "_law_found", "_law_k", "_law_name", "_law_start", "_law_step", "_law_j"]) (sc := defScope sf_law_pool) (by decide +kernel)) (fun _ _ _ _ _ => (sg_name 11 nd)) (fun _ _ _ _ _ => sc_nil) (fun _ _ _ _ _ => (se_idx hr (se_var 1) (se_call ft T_f_law_draw hr (ses_cons (se_var 0) (ses_cons se_int ses_nil)))))))))
      (ss_cons (ss_if (st_cmp (cmp_eq hr) (se_var 3) se_int) (ss_cons (ss_set 8 nd (se_bin bin_add (se_bin bin_add (se_sli (se_var 4) so_none (so_some (se_var 5))) (se_sli (se_var 8) so_none (so_some se_int))) (se_sli (se_var 4) (so_some (se_bin bin_add (se_var 5) se_int)) so_none)))
      ss_nil) ss_nil)
      (ss_cons (ss_if (st_cmp (cmp_eq hr) (se_var 3) se_int) (ss_cons (ss_set 8 nd (se_sli (se_bin bin_add (se_var 4) (se_var 8)) so_none (so_some (se_bin bin_add se_int (se_call ft T_f_law_draw hr (ses_cons (se_var 0) (ses_cons se_int ses_nil)))))))
      ss_nil) ss_nil)
      (ss_cons (ss_set 9 nd (se_sli (se_var 8) so_none (so_some se_int)))
      (ss_cons (ss_set 10 nd se_int)
      (ss_cons (ss_while PassesOwn.never (st_w (sw_or (st_in hr (se_var 8) (se_var 6)) (sw_or1 (st_in hr (se_var 8) (se_var 2))))) (ss_cons (ss_set 8 nd (se_bin bin_add (se_var 9) (se_idx hr (se_var 1) (se_var 10))))
      (ss_cons (ss_set 10 nd (se_bin bin_add (se_var 10) se_int))
      ss_nil)))
      (ss_cons (ss_ex (se_append (se_var 6) (se_var 8)))
      ss_nil))))))))
      (ss_cons (ss_ret (se_frz (se_var 6)))
      ss_nil)))))))))
end
end Prog

namespace Prog
open PySem PySem.Spec PyProof.Rows L2 Snd
section
variable {P : Program} {w : World} {K : PySem.W.Frag} {mg : Str → Option Value} {base : Heap}
theorem scf_law_names : FnScope ["_law_bag_here"] ["_law_bag_here"] (defScope sf_law_names) := ⟨rfl, rfl, rfl, by decide +kernel, rfl, by decide +kernel, by decide +kernel⟩
theorem okf_law_names {n : Nat} {a : Addr} {fd : FuncData} (F : Fun K "_law_names" "_law_names" sf_law_names a fd) (ft : FT T KW n P w K mg base) (mb : ∀ s ∈ bn, mg (Str.ofString s) = none) : FnOk P w K mg base CX0 (n + 1) a fd ["_law_bag_here"] (spI T (n + 1) K "_law_names") :=
  have nd := (scf_law_names).nd
  fn_ok F scf_law_names T_f_law_names rfl rfl fun cdv A outer s H E hr =>
    (ss_cons (ss_ret (se_sli (se_call ft T_f_law_pool hr (ses_cons (se_var 0) ses_nil)) so_none (so_some se_int)))
      ss_nil)
end
end Prog

namespace Prog
open PySem PySem.Spec PyProof.Rows L2 Snd
section
variable {P : Program} {w : World} {K : PySem.W.Frag} {mg : Str → Option Value} {base : Heap}
theorem scf_law_atom : FnScope ["_law_bag_here", "_law_env", "_law_way"] ["_law_bag_here", "_law_env"] (defScope sf_law_atom) := ⟨rfl, rfl, rfl, by decide +kernel, rfl, by decide +kernel, by decide +kernel⟩
theorem okf_law_atom {n : Nat} {a : Addr} {fd : FuncData} (F : Fun K "_law_atom" "_law_atom" sf_law_atom a fd) (ft : FT T KW n P w K mg base) (mb : ∀ s ∈ bn, mg (Str.ofString s) = none) : FnOk P w K mg base CX0 (n + 1) a fd ["_law_bag_here", "_law_env"] (spI T (n + 1) K "_law_atom") :=
  have nd := (scf_law_atom).nd
  fn_ok F scf_law_atom T_f_law_atom rfl rfl fun cdv A outer s H E hr =>
    (ss_cons (ss_set 2 nd (se_call ft T_f_law_draw hr (ses_cons (se_var 0) (ses_cons se_int ses_nil))))
      (ss_cons (ss_if (st_w (sw_and (st_cmp cmp_lt (se_var 2) se_int) (sw_and1 (st_cmp (cmp_ne hr) (se_var 1) (se_list is_lst (sn_lst ses_nil)))))) (ss_cons (ss_ret (se_tup (ses_cons se_str (ses_cons (se_idx hr (se_var 1) (se_call ft T_f_law_draw hr (ses_cons (se_var 0) (ses_cons (se_blt blt_len (ses_cons (se_var 1) ses_nil) (mb "len" (by decide)) bv_len) ses_nil)))) ses_nil))))
      ss_nil) ss_nil)
      (ss_cons (ss_if (st_cmp cmp_lt (se_var 2) se_int) (ss_cons (ss_ret (se_tup (ses_cons se_str (ses_cons (se_idx hr (se_list is_lst (sn_lst (ses_cons (se_call ft T_f_law_draw hr (ses_cons (se_var 0) (ses_cons se_int ses_nil))) (ses_cons (se_bin bin_sub se_int (se_call ft T_f_law_draw hr (ses_cons (se_var 0) (ses_cons se_int ses_nil)))) (ses_cons (se_call ft T_f_law_draw hr (ses_cons (se_var 0) (ses_cons (se_bin bin_pow se_int se_int) ses_nil))) ses_nil))))) (se_call ft T_f_law_draw hr (ses_cons (se_var 0) (ses_cons se_int ses_nil)))) ses_nil))))
      ss_nil) ss_nil)
      (ss_cons (ss_ret (se_ite (st_cmp (cmp_eq hr) (se_var 2) se_int) (se_tup (ses_cons se_str (ses_cons (se_cmp (cmp_eq hr) (se_call ft T_f_law_draw hr (ses_cons (se_var 0) (ses_cons se_int ses_nil))) se_int) ses_nil))) (se_tup (ses_cons se_str ses_nil))))
      ss_nil))))
end
end Prog

namespace Prog
open PySem PySem.Spec PyProof.Rows L2 Snd
section
variable {P : Program} {w : World} {K : PySem.W.Frag} {mg : Str → Option Value} {base : Heap}
theorem scf_law_prog : FnScope ["_law_bag_here", "_law_names_here", "_law_env", "_law_many", "_law_deep", "_law_odd", "_law_calm", "_law_off", "_law_arms", "_law_ones", "_law_heads", "_law_head", "_law_found", "_law_former", "_law_two", "_law_bound", "_law_left", "_law_parts_here", "_law_k", "_law_more", "_law_within", "_law_care", "_law_name"] ["_law_bag_here", "_law_names_here", "_law_env", "_law_many", "_law_deep", "_law_odd", "_law_calm"] (defScope sf_law_prog) := ⟨rfl, rfl, rfl, by decide +kernel, rfl, by decide +kernel, by decide +kernel⟩
theorem okf_law_prog {n : Nat} {a : Addr} {fd : FuncData} (F : Fun K "_law_prog" "_law_prog" sf_law_prog a fd) (ft : FT T KW n P w K mg base) (mb : ∀ s ∈ bn, mg (Str.ofString s) = none) : FnOk P w K mg base CX0 (n + 1) a fd ["_law_bag_here", "_law_names_here", "_law_env", "_law_many", "_law_deep", "_law_odd", "_law_calm"] (spI T (n + 1) K "_law_prog") :=
  have nd := (scf_law_prog).nd
  fn_ok F scf_law_prog T_f_law_prog rfl rfl fun cdv A outer s H E hr =>
    (ss_cons (ss_set 7 nd (se_cmp cmp_lt (se_call ft T_f_law_draw hr (ses_cons (se_var 0) (ses_cons se_int ses_nil))) (se_var 5)))
      (ss_cons (ss_set 8 nd (se_ite (st_cmp cmp_gt (se_var 4) se_int) (se_blt (blt_min rfl) (ses_cons (se_bin bin_sub (se_var 3) se_int) (ses_cons (se_idx hr (se_list is_lst (sn_lst (ses_cons se_int (ses_cons se_int (ses_cons se_int (ses_cons se_int ses_nil)))))) (se_call ft T_f_law_draw hr (ses_cons (se_var 0) (ses_cons se_int ses_nil)))) ses_nil)) (mb "min" (by decide)) bv_min) se_int))
      (ss_cons (ss_set 9 nd (se_sli (se_list is_lst (sn_lst (ses_cons se_str (ses_cons se_str (ses_cons se_str (ses_cons se_str (ses_cons se_str (ses_cons se_str (ses_cons se_str (ses_cons se_str ses_nil)))))))))) so_none (so_some (se_ite (st_cmp (cmp_eq hr) (se_var 6) se_int) se_int se_int))))
      (ss_cons (ss_set 10 nd (se_idx hr (se_list is_lst (sn_lst (ses_cons (se_list is_lst (sn_lst (ses_cons se_str ses_nil))) (ses_cons (se_var 9) (ses_cons (se_list is_lst (sn_lst (ses_cons se_str (ses_cons se_str (ses_cons se_str (ses_cons se_str (ses_cons se_str (ses_cons se_str (ses_cons se_str (ses_cons se_str ses_nil)))))))))) (ses_cons (se_list is_lst (sn_lst (ses_cons se_str ses_nil))) ses_nil)))))) (se_var 8)))
      (ss_cons (ss_set 11 nd (se_idx hr (se_var 10) (se_call ft T_f_law_draw hr (ses_cons (se_var 0) (ses_cons (se_blt blt_len (ses_cons (se_var 10) ses_nil) (mb "len" (by decide)) bv_len) ses_nil)))))
      (ss_cons (ss_set 12 nd (se_call ft T_f_law_atom hr (ses_cons (se_var 0) (ses_cons (se_var 2) ses_nil))))
      (ss_cons (ss_set 13 nd (se_idx hr (se_var 1) (se_call ft T_f_law_draw hr (ses_cons (se_var 0) (ses_cons se_int ses_nil)))))
      (ss_cons (ss_set 14 nd (se_idx hr (se_list is_comp (sn_comp [("_law_name", 22)] rfl nd (si_seq (se_var 1)) (blkOk_by (N := ["_law_bag_here", "_law_names_here", "_law_env", "_law_many", "_law_deep", "_law_odd", "_law_calm", "_law_off", "_law_arms", "_law_ones", "_law_heads", "_law_head", "_law_found", "_law_former", "_law_two", "_law_bound", "_law_left", "_law_parts_here", "_law_k", "_law_more", "_law_within", "_law_care", "_law_name"]) (sc := defScope sf_law_prog) (by decide +kernel)) (fun _ _ _ _ _ => (sg_name 22 nd)) (fun _ _ _ _ _ => (sc_one (st_cmp (cmp_ne hr) (se_var 22) (se_var 13)))) (fun _ _ _ _ _ => (se_var 22)))) (se_call ft T_f_law_draw hr (ses_cons (se_var 0) (ses_cons se_int ses_nil)))))
      (ss_cons (ss_set 15 nd (se_get hr (se_disp (sps_cons se_str (se_list is_lst (sn_lst (ses_cons (se_var 13) ses_nil))) (sps_cons se_str (se_list is_lst (sn_lst (ses_cons (se_var 14) (ses_cons (se_var 13) ses_nil)))) (sps_cons se_str (se_list is_lst (sn_lst (ses_cons (se_var 13) ses_nil))) sps_nil)))) (se_var 11) (se_list is_lst (sn_lst ses_nil))))
      (ss_cons (ss_set 16 nd (se_bin bin_sub (se_bin bin_sub (se_var 3) se_int) (se_var 8)))
      (ss_cons (ss_set 17 nd (se_newL (sn_lst ses_nil)))
      (ss_cons (ss_for PassesOwn.never rfl (si_range1 (se_var 8) (mb "range" (by decide))) (sg_name 18 nd) (ss_cons (ss_set 19 nd (se_ite (st_cmp cmp_lt (se_var 18) (se_bin bin_sub (se_var 8) se_int)) (se_call ft T_f_law_draw hr (ses_cons (se_var 0) (ses_cons (se_bin bin_add (se_var 16) se_int) ses_nil))) (se_var 16)))
      (ss_cons (ss_set 16 nd (se_bin bin_sub (se_var 16) (se_var 19)))
      (ss_cons (ss_set 20 nd (se_ite (st_w (sw_and (st_cmp (cmp_eq hr) (se_var 11) se_str) (sw_and1 (st_cmp (cmp_eq hr) (se_var 18) se_int)))) (se_var 2) (se_bin bin_add (se_var 2) (se_var 15))))
      (ss_cons (ss_set 21 nd (se_ite (st_w (sw_and (st_cmp (cmp_eq hr) (se_var 6) se_int) (sw_and (st_cmp (cmp_eq hr) (se_var 11) se_str) (sw_and1 (st_cmp (cmp_eq hr) (se_var 18) se_int))))) se_int (se_var 6)))
      (ss_cons (ss_ex (se_append (se_var 17) (se_call ft T_f_law_prog hr (ses_cons (se_var 0) (ses_cons (se_var 1) (ses_cons (se_var 20) (ses_cons (se_bin bin_add se_int (se_var 19)) (ses_cons (se_bin bin_sub (se_var 4) se_int) (ses_cons (se_var 5) (ses_cons (se_var 21) ses_nil))))))))))
      ss_nil))))))
      (ss_cons (ss_if (st_cmp cmp_gt (se_var 8) se_int) (ss_cons (ss_set 12 nd (se_bin bin_add (se_bin bin_add (se_tup (ses_cons (se_var 11) ses_nil)) (se_bltT blt_tuple (ses_cons (se_var 15) ses_nil) (mb "tuple" (by decide)) bv_tuple)) (se_bltT blt_tuple (ses_cons (se_var 17) ses_nil) (mb "tuple" (by decide)) bv_tuple)))
      ss_nil) ss_nil)
      (ss_cons (ss_ret (se_ite (st_val (se_var 7)) (se_tup (ses_cons se_str (ses_cons (se_var 12) ses_nil))) (se_var 12)))
      ss_nil))))))))))))))
end
end Prog

namespace Prog
open PySem PySem.Spec PyProof.Rows L2 Snd
section
variable {P : Program} {w : World} {K : PySem.W.Frag} {mg : Str → Option Value} {base : Heap}
theorem scf_law_any_prog : FnScope ["_law_bag_here", "_law_names_here", "_law_odd", "_law_many"] ["_law_bag_here"] (defScope sf_law_any_prog) := ⟨rfl, rfl, rfl, by decide +kernel, rfl, by decide +kernel, by decide +kernel⟩
theorem okf_law_any_prog {n : Nat} {a : Addr} {fd : FuncData} (F : Fun K "_law_any_prog" "_law_any_prog" sf_law_any_prog a fd) (ft : FT T KW n P w K mg base) (mb : ∀ s ∈ bn, mg (Str.ofString s) = none) : FnOk P w K mg base CX0 (n + 1) a fd ["_law_bag_here"] (spI T (n + 1) K "_law_any_prog") :=
  have nd := (scf_law_any_prog).nd
  fn_ok F scf_law_any_prog T_f_law_any_prog rfl rfl fun cdv A outer s H E hr =>
    (ss_cons (ss_set 1 nd (se_call ft T_f_law_names hr (ses_cons (se_var 0) ses_nil)))
      (ss_cons (ss_set 2 nd (se_idx hr (se_list is_lst (sn_lst (ses_cons se_int (ses_cons se_int (ses_cons se_int (ses_cons se_int ses_nil)))))) (se_call ft T_f_law_draw hr (ses_cons (se_var 0) (ses_cons se_int ses_nil)))))
      (ss_cons (ss_set 3 nd (se_bin bin_add se_int (se_call ft T_f_law_draw hr (ses_cons (se_var 0) (ses_cons (se_idx hr (se_list is_lst (sn_lst (ses_cons se_int (ses_cons se_int (ses_cons se_int (ses_cons se_int (ses_cons se_int (ses_cons se_int (ses_cons se_int (ses_cons se_int ses_nil)))))))))) (se_call ft T_f_law_draw hr (ses_cons (se_var 0) (ses_cons se_int ses_nil)))) ses_nil)))))
      (ss_cons (ss_ret (se_call ft T_f_law_prog hr (ses_cons (se_var 0) (ses_cons (se_var 1) (ses_cons (se_list is_lst (sn_lst ses_nil)) (ses_cons (se_var 3) (ses_cons (se_idx hr (se_list is_lst (sn_lst (ses_cons se_int (ses_cons se_int (ses_cons se_int ses_nil))))) (se_call ft T_f_law_draw hr (ses_cons (se_var 0) (ses_cons se_int ses_nil)))) (ses_cons (se_var 2) (ses_cons (se_bltT blt_int (ses_cons (se_cmp cmp_gt (se_var 3) se_int) ses_nil) (mb "int" (by decide)) bv_int) ses_nil)))))))))
      ss_nil))))
end
end Prog

namespace Prog
open PySem PySem.Spec PyProof.Rows L2 Snd
section
variable {P : Program} {w : World} {K : PySem.W.Frag} {mg : Str → Option Value} {base : Heap}
theorem scf_law_any_kind : FnScope ["_law_bag_here", "_law_frees_here", "_law_many", "_law_way", "_law_left", "_law_former"] ["_law_bag_here", "_law_frees_here", "_law_many"] (defScope sf_law_any_kind) := ⟨rfl, rfl, rfl, by decide +kernel, rfl, by decide +kernel, by decide +kernel⟩
theorem okf_law_any_kind {n : Nat} {a : Addr} {fd : FuncData} (F : Fun K "_law_any_kind" "_law_any_kind" sf_law_any_kind a fd) (ft : FT T KW n P w K mg base) (mb : ∀ s ∈ bn, mg (Str.ofString s) = none) : FnOk P w K mg base CX0 (n + 1) a fd ["_law_bag_here", "_law_frees_here", "_law_many"] (spI T (n + 1) K "_law_any_kind") :=
  have nd := (scf_law_any_kind).nd
  fn_ok F scf_law_any_kind T_f_law_any_kind rfl rfl fun cdv A outer s H E hr =>
    (ss_cons (ss_set 3 nd (se_call ft T_f_law_draw hr (ses_cons (se_var 0) (ses_cons se_int ses_nil))))
      (ss_cons (ss_if (st_w (sw_or (st_cmp cmp_lt (se_var 2) se_int) (sw_or1 (st_cmp cmp_lt (se_var 3) se_int)))) (ss_cons (ss_if (st_w (sw_and (st_cmp (cmp_ne hr) (se_var 1) (se_list is_lst (sn_lst ses_nil))) (sw_and1 (st_cmp cmp_gt (se_call ft T_f_law_draw hr (ses_cons (se_var 0) (ses_cons se_int ses_nil))) se_int)))) (ss_cons (ss_ret (se_tup (ses_cons se_str (ses_cons (se_idx hr (se_var 1) (se_call ft T_f_law_draw hr (ses_cons (se_var 0) (ses_cons (se_blt blt_len (ses_cons (se_var 1) ses_nil) (mb "len" (by decide)) bv_len) ses_nil)))) ses_nil))))
      ss_nil) ss_nil)
      (ss_cons (ss_ret (se_idx hr (se_list is_lst (sn_lst (ses_cons (se_tup (ses_cons se_str ses_nil)) (ses_cons (se_tup (ses_cons se_str ses_nil)) ses_nil)))) (se_call ft T_f_law_draw hr (ses_cons (se_var 0) (ses_cons se_int ses_nil)))))
      ss_nil)) ss_nil)
      (ss_cons (ss_if (st_w (sw_or (st_cmp cmp_lt (se_var 2) se_int) (sw_or1 (st_cmp (cmp_eq hr) (se_var 3) se_int)))) (ss_cons (ss_ret (se_tup (ses_cons se_str (ses_cons (se_call ft T_f_law_any_kind hr (ses_cons (se_var 0) (ses_cons (se_var 1) (ses_cons (se_bin bin_sub (se_var 2) se_int) ses_nil)))) ses_nil))))
      ss_nil) ss_nil)
      (ss_cons (ss_set 4 nd (se_bin bin_add se_int (se_call ft T_f_law_draw hr (ses_cons (se_var 0) (ses_cons (se_bin bin_sub (se_var 2) se_int) ses_nil)))))
      (ss_cons (ss_set 5 nd (se_call ft T_f_law_any_kind hr (ses_cons (se_var 0) (ses_cons (se_var 1) (ses_cons (se_var 4) ses_nil)))))
      (ss_cons (ss_ret (se_tup (ses_cons (se_idx hr (se_list is_lst (sn_lst (ses_cons se_str (ses_cons se_str ses_nil)))) (se_bin bin_mod (se_var 3) se_int)) (ses_cons (se_var 5) (ses_cons (se_call ft T_f_law_any_kind hr (ses_cons (se_var 0) (ses_cons (se_var 1) (ses_cons (se_bin bin_sub (se_bin bin_sub (se_var 2) se_int) (se_var 4)) ses_nil)))) ses_nil)))))
      ss_nil))))))
end
end Prog

namespace Prog
open PySem PySem.Spec PyProof.Rows L2 Snd
section
variable {P : Program} {w : World} {K : PySem.W.Frag} {mg : Str → Option Value} {base : Heap}
theorem scf_law_numbers : FnScope ["_law_bag_here", "_law_base", "_law_k"] ["_law_bag_here"] (defScope sf_law_numbers) := ⟨rfl, rfl, rfl, by decide +kernel, rfl, by decide +kernel, by decide +kernel⟩
theorem okf_law_numbers {n : Nat} {a : Addr} {fd : FuncData} (F : Fun K "_law_numbers" "_law_numbers" sf_law_numbers a fd) (ft : FT T KW n P w K mg base) (mb : ∀ s ∈ bn, mg (Str.ofString s) = none) : FnOk P w K mg base CX0 (n + 1) a fd ["_law_bag_here"] (spI T (n + 1) K "_law_numbers") :=
  have nd := (scf_law_numbers).nd
  fn_ok F scf_law_numbers T_f_law_numbers rfl rfl fun cdv A outer s H E hr =>
    (ss_cons (ss_set 1 nd (se_call ft T_f_law_draw hr (ses_cons (se_var 0) (ses_cons (se_idx hr (se_list is_lst (sn_lst (ses_cons se_int (ses_cons se_int (ses_cons se_int (ses_cons (se_bin bin_pow se_int se_int) ses_nil)))))) (se_call ft T_f_law_draw hr (ses_cons (se_var 0) (ses_cons se_int ses_nil)))) ses_nil))))
      (ss_cons (ss_ret (se_list is_comp (sn_comp [("_law_k", 2)] rfl nd (si_range1 (se_bin bin_add se_int (se_call ft T_f_law_draw hr (ses_cons (se_var 0) (ses_cons se_int ses_nil)))) (mb "range" (by decide))) (blkOk_by (N := ["_law_bag_here", "_law_base", "_law_k"]) (sc := defScope sf_law_numbers) (by decide +kernel)) (fun _ _ _ _ _ => (sg_name 2 nd)) (fun _ _ _ _ _ => sc_nil) (fun _ _ _ _ _ => (se_bin bin_add (se_var 1) (se_bin bin_mul (se_var 2) (se_bin bin_add se_int (se_call ft T_f_law_draw hr (ses_cons (se_var 0) (ses_cons se_int ses_nil))))))))))
      ss_nil))
end
end Prog

namespace Prog
open PySem PySem.Spec PyProof.Rows L2 Snd
section
variable {P : Program} {w : World} {K : PySem.W.Frag} {mg : Str → Option Value} {base : Heap}
theorem scf_law_written : FnScope ["_law_prog_here", "_law_words", "_law_part"] ["_law_prog_here"] (defScope sf_law_written) := ⟨rfl, rfl, rfl, by decide +kernel, rfl, by decide +kernel, by decide +kernel⟩
theorem okf_law_written {n : Nat} {a : Addr} {fd : FuncData} (F : Fun K "_law_written" "_law_written" sf_law_written a fd) (ft : FT T KW n P w K mg base) (mb : ∀ s ∈ bn, mg (Str.ofString s) = none) : FnOk P w K mg base CX0 (n + 1) a fd ["_law_prog_here"] (spI T (n + 1) K "_law_written") :=
  have nd := (scf_law_written).nd
  fn_ok F scf_law_written T_f_law_written rfl rfl fun cdv A outer s H E hr =>
    (ss_cons (ss_if (st_cmp (cmp_eq hr) (se_idx hr (se_var 0) se_int) se_str) (ss_cons (ss_ret (se_bin bin_add se_str (se_call ft T_f_law_written hr (ses_cons (se_idx hr (se_var 0) se_int) ses_nil))))
      ss_nil) ss_nil)
      (ss_cons (ss_if (st_in hr (se_idx hr (se_var 0) se_int) (se_list is_lst (sn_lst (ses_cons se_str (ses_cons se_str ses_nil))))) (ss_cons (ss_ret (se_bltT blt_str (ses_cons (se_idx hr (se_var 0) se_int) ses_nil) (mb "str" (by decide)) bv_str))
      ss_nil) ss_nil)
      (ss_cons (ss_if (st_cmp (cmp_eq hr) (se_idx hr (se_var 0) se_int) se_str) (ss_cons (ss_ret (se_ite (st_val (se_idx hr (se_var 0) se_int)) se_str se_str))
      ss_nil) ss_nil)
      (ss_cons (ss_if (st_cmp (cmp_eq hr) (se_idx hr (se_var 0) se_int) se_str) (ss_cons (ss_ret se_str)
      ss_nil) ss_nil)
      (ss_cons (ss_setLc 1 [("_law_part", 2)] (tI_list is_comp) rfl nd (si_seq (se_sli (se_var 0) (so_some se_int) so_none)) (blkOk_by (N := ["_law_prog_here", "_law_words", "_law_part"]) (sc := defScope sf_law_written) (by decide +kernel)) (fun _ _ _ _ _ => (sg_name 2 nd)) (fun _ _ _ _ _ => sc_nil) (fun _ _ _ _ _ => (se_ite (st_val (se_isi (t := .str) (se_var 2) (sty_cons (t := .str) sty_nil (mb "str" (by decide)) bv_str) (mb "isinstance" (by decide)))) (se_var 2) (se_call ft T_f_law_written hr (ses_cons (se_var 2) ses_nil)))) (sw_true rfl rfl rfl (by decide +kernel)))
      (ss_cons (ss_ret (se_bin bin_add (se_bin bin_add se_str (se_join se_str (se_bin bin_add (se_list is_lst (sn_lst (ses_cons (se_idx hr (se_var 0) se_int) ses_nil))) (se_var 1)))) se_str))
      ss_nil))))))
end
end Prog

namespace Prog
open PySem PySem.Spec PyProof.Rows L2 Snd
section
variable {P : Program} {w : World} {K : PySem.W.Frag} {mg : Str → Option Value} {base : Heap}
theorem scf_law_kind_written : FnScope ["_law_kind", "_law_part"] ["_law_kind"] (defScope sf_law_kind_written) := ⟨rfl, rfl, rfl, by decide +kernel, rfl, by decide +kernel, by decide +kernel⟩
theorem okf_law_kind_written {n : Nat} {a : Addr} {fd : FuncData} (F : Fun K "_law_kind_written" "_law_kind_written" sf_law_kind_written a fd) (ft : FT T KW n P w K mg base) (mb : ∀ s ∈ bn, mg (Str.ofString s) = none) : FnOk P w K mg base CX0 (n + 1) a fd ["_law_kind"] (spI T (n + 1) K "_law_kind_written") :=
  have nd := (scf_law_kind_written).nd
  fn_ok F scf_law_kind_written T_f_law_kind_written rfl rfl fun cdv A outer s H E hr =>
    (ss_cons (ss_if (st_cmp (cmp_eq hr) (se_idx hr (se_var 0) se_int) se_str) (ss_cons (ss_ret (se_bin bin_add se_str (se_bltT blt_str (ses_cons (se_idx hr (se_var 0) se_int) ses_nil) (mb "str" (by decide)) bv_str)))
      ss_nil) ss_nil)
      (ss_cons (ss_if (st_cmp (cmp_eq hr) (se_blt blt_len (ses_cons (se_var 0) ses_nil) (mb "len" (by decide)) bv_len) se_int) (ss_cons (ss_ret (se_idx hr (se_var 0) se_int))
      ss_nil) ss_nil)
      (ss_cons (ss_ret (se_bin bin_add (se_bin bin_add se_str (se_join se_str (se_bin bin_add (se_list is_lst (sn_lst (ses_cons (se_idx hr (se_var 0) se_int) ses_nil))) (se_list is_comp (sn_comp [("_law_part", 1)] rfl nd (si_seq (se_sli (se_var 0) (so_some se_int) so_none)) (blkOk_by (N := ["_law_kind", "_law_part"]) (sc := defScope sf_law_kind_written) (by decide +kernel)) (fun _ _ _ _ _ => (sg_name 1 nd)) (fun _ _ _ _ _ => sc_nil) (fun _ _ _ _ _ => (se_call ft T_f_law_kind_written hr (ses_cons (se_var 1) ses_nil)))))))) se_str))
      ss_nil)))
end
end Prog

namespace Prog
open PySem PySem.Spec PyProof.Rows L2 Snd
section
variable {P : Program} {w : World} {K : PySem.W.Frag} {mg : Str → Option Value} {base : Heap}
theorem scf_law : FnScope ["_law_script", "_law_bag_here", "_law_again", "_law_prog_here", "_law_kind", "_law_found"] ["_law_script"] (defScope sf_law) := ⟨rfl, rfl, rfl, by decide +kernel, rfl, by decide +kernel, by decide +kernel⟩
theorem okf_law {n : Nat} {a : Addr} {fd : FuncData} (F : Fun K "law" "law" sf_law a fd) (ft : FT T KW n P w K mg base) (mb : ∀ s ∈ bn, mg (Str.ofString s) = none) : FnOk P w K mg base CX0 (n + 1) a fd ["_law_script"] (spI T (n + 1) K "law") :=
  have nd := (scf_law).nd
  fn_ok F scf_law T_f_law rfl rfl fun cdv A outer s H E hr =>
    (ss_cons (ss_set 1 nd (se_call ft T_f_law_bag hr (ses_cons (se_var 0) ses_nil)))
      (ss_cons (ss_for PassesOwn.never rfl (si_range1 (se_bin bin_add se_int (se_blt (blt_min rfl) (ses_cons se_int (ses_cons (se_bin bin_fdiv (se_blt blt_len (ses_cons (se_var 0) ses_nil) (mb "len" (by decide)) bv_len) se_int) ses_nil)) (mb "min" (by decide)) bv_min)) (mb "range" (by decide))) (sg_name 2 nd) (ss_cons (ss_set 3 nd (se_call ft T_f_law_any_prog hr (ses_cons (se_var 1) ses_nil)))
      (ss_cons (ss_set 4 nd (se_call ft T_f_law_any_kind hr (ses_cons (se_var 1) (ses_cons (se_call ft T_f_law_numbers hr (ses_cons (se_var 1) ses_nil)) (ses_cons (se_bin bin_add se_int (se_call ft T_f_law_draw hr (ses_cons (se_var 1) (ses_cons se_int ses_nil)))) ses_nil)))))
      (ss_cons (ss_set 5 nd (se_list is_lst (sn_lst (ses_cons (se_call ft T_f_program_text hr (ses_cons (se_var 3) ses_nil)) (ses_cons (se_call ft T_f_type_text hr (ses_cons (se_var 4) ses_nil)) ses_nil)))))
      (ss_cons (ss_if (st_cmp (cmp_ne hr) (se_var 5) (se_list is_lst (sn_lst (ses_cons (se_call ft T_f_law_written hr (ses_cons (se_var 3) ses_nil)) (ses_cons (se_call ft T_f_law_kind_written hr (ses_cons (se_var 4) ses_nil)) ses_nil))))) (ss_cons (ss_ret se_bool)
      ss_nil) ss_nil)
      (ss_cons (ss_if (st_cmp (cmp_ne hr) (se_list is_lst (sn_lst (ses_cons (se_callK0 (ks := ["program"]) (perm := [0]) ft T_f_program_text (by decide) hr (sks_cons (se_var 3) sks_nil)) (ses_cons (se_callK0 (ks := ["one"]) (perm := [0]) ft T_f_type_text (by decide) hr (sks_cons (se_var 4) sks_nil)) ses_nil)))) (se_var 5)) (ss_cons (ss_ret se_bool)
      ss_nil) ss_nil)
      ss_nil))))))
      (ss_cons (ss_ret se_bool)
      ss_nil)))
end
end Prog

namespace Prog
open PySem PySem.Spec PyProof.Rows L2 Snd
theorem ft_all {P : Program} {w : World} {K : PySem.W.Frag} {mg : Str → Option Value} {base : Heap} {a0 : Addr} {fd0 : FuncData} {a1 : Addr} {fd1 : FuncData} {a2 : Addr} {fd2 : FuncData} {a3 : Addr} {fd3 : FuncData} {a4 : Addr} {fd4 : FuncData} {a5 : Addr} {fd5 : FuncData} {a6 : Addr} {fd6 : FuncData} {a7 : Addr} {fd7 : FuncData} {a8 : Addr} {fd8 : FuncData} {a9 : Addr} {fd9 : FuncData} {a10 : Addr} {fd10 : FuncData} {a11 : Addr} {fd11 : FuncData} {a12 : Addr} {fd12 : FuncData} {a13 : Addr} {fd13 : FuncData} {a14 : Addr} {fd14 : FuncData}
    (F0 : Fun K "program_text" "program_text" sf_program_text a0 fd0) (m0 : mg (Str.ofString "program_text") = some (.ref a0)) (b0 : Binds K fd0 ["program"] [])
    (F1 : Fun K "type_text" "type_text" sf_type_text a1 fd1) (m1 : mg (Str.ofString "type_text") = some (.ref a1)) (b1 : Binds K fd1 ["one"] [])
    (F2 : Fun K "_law_bag" "_law_bag" sf_law_bag a2 fd2) (m2 : mg (Str.ofString "_law_bag") = some (.ref a2)) (b2 : Binds K fd2 ["_law_script"] [])
    (F3 : Fun K "_law_stirred" "_law_stirred" sf_law_stirred a3 fd3) (m3 : mg (Str.ofString "_law_stirred") = some (.ref a3)) (b3 : Binds K fd3 ["_law_bag_here", "_law_many"] [])
    (F4 : Fun K "_law_draw" "_law_draw" sf_law_draw a4 fd4) (m4 : mg (Str.ofString "_law_draw") = some (.ref a4)) (b4 : Binds K fd4 ["_law_bag_here", "_law_many"] [])
    (F5 : Fun K "_law_pool" "_law_pool" sf_law_pool a5 fd5) (m5 : mg (Str.ofString "_law_pool") = some (.ref a5)) (b5 : Binds K fd5 ["_law_bag_here"] [])
    (F6 : Fun K "_law_names" "_law_names" sf_law_names a6 fd6) (m6 : mg (Str.ofString "_law_names") = some (.ref a6)) (b6 : Binds K fd6 ["_law_bag_here"] [])
    (F7 : Fun K "_law_atom" "_law_atom" sf_law_atom a7 fd7) (m7 : mg (Str.ofString "_law_atom") = some (.ref a7)) (b7 : Binds K fd7 ["_law_bag_here", "_law_env"] [])
    (F8 : Fun K "_law_prog" "_law_prog" sf_law_prog a8 fd8) (m8 : mg (Str.ofString "_law_prog") = some (.ref a8)) (b8 : Binds K fd8 ["_law_bag_here", "_law_names_here", "_law_env", "_law_many", "_law_deep", "_law_odd", "_law_calm"] [])
    (F9 : Fun K "_law_any_prog" "_law_any_prog" sf_law_any_prog a9 fd9) (m9 : mg (Str.ofString "_law_any_prog") = some (.ref a9)) (b9 : Binds K fd9 ["_law_bag_here"] [])
    (F10 : Fun K "_law_any_kind" "_law_any_kind" sf_law_any_kind a10 fd10) (m10 : mg (Str.ofString "_law_any_kind") = some (.ref a10)) (b10 : Binds K fd10 ["_law_bag_here", "_law_frees_here", "_law_many"] [])
    (F11 : Fun K "_law_numbers" "_law_numbers" sf_law_numbers a11 fd11) (m11 : mg (Str.ofString "_law_numbers") = some (.ref a11)) (b11 : Binds K fd11 ["_law_bag_here"] [])
    (F12 : Fun K "_law_written" "_law_written" sf_law_written a12 fd12) (m12 : mg (Str.ofString "_law_written") = some (.ref a12)) (b12 : Binds K fd12 ["_law_prog_here"] [])
    (F13 : Fun K "_law_kind_written" "_law_kind_written" sf_law_kind_written a13 fd13) (m13 : mg (Str.ofString "_law_kind_written") = some (.ref a13)) (b13 : Binds K fd13 ["_law_kind"] [])
    (F14 : Fun K "law" "law" sf_law a14 fd14) (m14 : mg (Str.ofString "law") = some (.ref a14)) (b14 : Binds K fd14 ["_law_script"] [])
    (kw0 : KwOk K fd0 ["program"] ("program_text", 0, ["program"], [0]))
    (kw1 : KwOk K fd1 ["one"] ("type_text", 0, ["one"], [0]))
    (mb : ∀ s ∈ bn, mg (Str.ofString s) = none) : ∀ n : Nat, FT T KW n P w K mg base
  | 0 => ft_zero fun f fn hT => by
    have hm := Ir.tab_mem hT
    simp only [tab, List.mem_cons, List.not_mem_nil, or_false] at hm
    rcases hm with hm | hm | hm | hm | hm | hm | hm | hm | hm | hm | hm | hm | hm | hm | hm
    · simp only [Prod.mk.injEq] at hm
      obtain ⟨rfl, rfl⟩ := hm
      exact ⟨a0, fd0, _, m0, F0.kp, b0, (fun q hq e => by
        simp only [KW, List.mem_cons, List.not_mem_nil, or_false] at hq
        rcases hq with rfl | rfl
        · exact kw0
        · exact absurd e (by decide))⟩
    · simp only [Prod.mk.injEq] at hm
      obtain ⟨rfl, rfl⟩ := hm
      exact ⟨a1, fd1, _, m1, F1.kp, b1, (fun q hq e => by
        simp only [KW, List.mem_cons, List.not_mem_nil, or_false] at hq
        rcases hq with rfl | rfl
        · exact absurd e (by decide)
        · exact kw1)⟩
    · simp only [Prod.mk.injEq] at hm
      obtain ⟨rfl, rfl⟩ := hm
      exact ⟨a2, fd2, _, m2, F2.kp, b2, (fun q hq e => by
        simp only [KW, List.mem_cons, List.not_mem_nil, or_false] at hq
        rcases hq with rfl | rfl
        · exact absurd e (by decide)
        · exact absurd e (by decide))⟩
    · simp only [Prod.mk.injEq] at hm
      obtain ⟨rfl, rfl⟩ := hm
      exact ⟨a3, fd3, _, m3, F3.kp, b3, (fun q hq e => by
        simp only [KW, List.mem_cons, List.not_mem_nil, or_false] at hq
        rcases hq with rfl | rfl
        · exact absurd e (by decide)
        · exact absurd e (by decide))⟩
    · simp only [Prod.mk.injEq] at hm
      obtain ⟨rfl, rfl⟩ := hm
      exact ⟨a4, fd4, _, m4, F4.kp, b4, (fun q hq e => by
        simp only [KW, List.mem_cons, List.not_mem_nil, or_false] at hq
        rcases hq with rfl | rfl
        · exact absurd e (by decide)
        · exact absurd e (by decide))⟩
    · simp only [Prod.mk.injEq] at hm
      obtain ⟨rfl, rfl⟩ := hm
      exact ⟨a5, fd5, _, m5, F5.kp, b5, (fun q hq e => by
        simp only [KW, List.mem_cons, List.not_mem_nil, or_false] at hq
        rcases hq with rfl | rfl
        · exact absurd e (by decide)
        · exact absurd e (by decide))⟩
    · simp only [Prod.mk.injEq] at hm
      obtain ⟨rfl, rfl⟩ := hm
      exact ⟨a6, fd6, _, m6, F6.kp, b6, (fun q hq e => by
        simp only [KW, List.mem_cons, List.not_mem_nil, or_false] at hq
        rcases hq with rfl | rfl
        · exact absurd e (by decide)
        · exact absurd e (by decide))⟩
    · simp only [Prod.mk.injEq] at hm
      obtain ⟨rfl, rfl⟩ := hm
      exact ⟨a7, fd7, _, m7, F7.kp, b7, (fun q hq e => by
        simp only [KW, List.mem_cons, List.not_mem_nil, or_false] at hq
        rcases hq with rfl | rfl
        · exact absurd e (by decide)
        · exact absurd e (by decide))⟩
    · simp only [Prod.mk.injEq] at hm
      obtain ⟨rfl, rfl⟩ := hm
      exact ⟨a8, fd8, _, m8, F8.kp, b8, (fun q hq e => by
        simp only [KW, List.mem_cons, List.not_mem_nil, or_false] at hq
        rcases hq with rfl | rfl
        · exact absurd e (by decide)
        · exact absurd e (by decide))⟩
    · simp only [Prod.mk.injEq] at hm
      obtain ⟨rfl, rfl⟩ := hm
      exact ⟨a9, fd9, _, m9, F9.kp, b9, (fun q hq e => by
        simp only [KW, List.mem_cons, List.not_mem_nil, or_false] at hq
        rcases hq with rfl | rfl
        · exact absurd e (by decide)
        · exact absurd e (by decide))⟩
    · simp only [Prod.mk.injEq] at hm
      obtain ⟨rfl, rfl⟩ := hm
      exact ⟨a10, fd10, _, m10, F10.kp, b10, (fun q hq e => by
        simp only [KW, List.mem_cons, List.not_mem_nil, or_false] at hq
        rcases hq with rfl | rfl
        · exact absurd e (by decide)
        · exact absurd e (by decide))⟩
    · simp only [Prod.mk.injEq] at hm
      obtain ⟨rfl, rfl⟩ := hm
      exact ⟨a11, fd11, _, m11, F11.kp, b11, (fun q hq e => by
        simp only [KW, List.mem_cons, List.not_mem_nil, or_false] at hq
        rcases hq with rfl | rfl
        · exact absurd e (by decide)
        · exact absurd e (by decide))⟩
    · simp only [Prod.mk.injEq] at hm
      obtain ⟨rfl, rfl⟩ := hm
      exact ⟨a12, fd12, _, m12, F12.kp, b12, (fun q hq e => by
        simp only [KW, List.mem_cons, List.not_mem_nil, or_false] at hq
        rcases hq with rfl | rfl
        · exact absurd e (by decide)
        · exact absurd e (by decide))⟩
    · simp only [Prod.mk.injEq] at hm
      obtain ⟨rfl, rfl⟩ := hm
      exact ⟨a13, fd13, _, m13, F13.kp, b13, (fun q hq e => by
        simp only [KW, List.mem_cons, List.not_mem_nil, or_false] at hq
        rcases hq with rfl | rfl
        · exact absurd e (by decide)
        · exact absurd e (by decide))⟩
    · simp only [Prod.mk.injEq] at hm
      obtain ⟨rfl, rfl⟩ := hm
      exact ⟨a14, fd14, _, m14, F14.kp, b14, (fun q hq e => by
        simp only [KW, List.mem_cons, List.not_mem_nil, or_false] at hq
        rcases hq with rfl | rfl
        · exact absurd e (by decide)
        · exact absurd e (by decide))⟩
  | n + 1 => ⟨fun f fn hT => by
    have ih := ft_all (P := P) (w := w) (base := base) F0 m0 b0 F1 m1 b1 F2 m2 b2 F3 m3 b3 F4 m4 b4 F5 m5 b5 F6 m6 b6 F7 m7 b7 F8 m8 b8 F9 m9 b9 F10 m10 b10 F11 m11 b11 F12 m12 b12 F13 m13 b13 F14 m14 b14 kw0 kw1 mb n
    have hm := Ir.tab_mem hT
    simp only [tab, List.mem_cons, List.not_mem_nil, or_false] at hm
    rcases hm with hm | hm | hm | hm | hm | hm | hm | hm | hm | hm | hm | hm | hm | hm | hm
    · simp only [Prod.mk.injEq] at hm
      obtain ⟨rfl, rfl⟩ := hm
      exact ⟨a0, fd0, _, okf_program_text F0 ih mb, m0, F0.kp, b0, (fun q hq e => by
        simp only [KW, List.mem_cons, List.not_mem_nil, or_false] at hq
        rcases hq with rfl | rfl
        · exact kw0
        · exact absurd e (by decide))⟩
    · simp only [Prod.mk.injEq] at hm
      obtain ⟨rfl, rfl⟩ := hm
      exact ⟨a1, fd1, _, okf_type_text F1 ih mb, m1, F1.kp, b1, (fun q hq e => by
        simp only [KW, List.mem_cons, List.not_mem_nil, or_false] at hq
        rcases hq with rfl | rfl
        · exact absurd e (by decide)
        · exact kw1)⟩
    · simp only [Prod.mk.injEq] at hm
      obtain ⟨rfl, rfl⟩ := hm
      exact ⟨a2, fd2, _, okf_law_bag F2 ih mb, m2, F2.kp, b2, (fun q hq e => by
        simp only [KW, List.mem_cons, List.not_mem_nil, or_false] at hq
        rcases hq with rfl | rfl
        · exact absurd e (by decide)
        · exact absurd e (by decide))⟩
    · simp only [Prod.mk.injEq] at hm
      obtain ⟨rfl, rfl⟩ := hm
      exact ⟨a3, fd3, _, okf_law_stirred F3 ih mb, m3, F3.kp, b3, (fun q hq e => by
        simp only [KW, List.mem_cons, List.not_mem_nil, or_false] at hq
        rcases hq with rfl | rfl
        · exact absurd e (by decide)
        · exact absurd e (by decide))⟩
    · simp only [Prod.mk.injEq] at hm
      obtain ⟨rfl, rfl⟩ := hm
      exact ⟨a4, fd4, _, okf_law_draw F4 ih mb, m4, F4.kp, b4, (fun q hq e => by
        simp only [KW, List.mem_cons, List.not_mem_nil, or_false] at hq
        rcases hq with rfl | rfl
        · exact absurd e (by decide)
        · exact absurd e (by decide))⟩
    · simp only [Prod.mk.injEq] at hm
      obtain ⟨rfl, rfl⟩ := hm
      exact ⟨a5, fd5, _, okf_law_pool F5 ih mb, m5, F5.kp, b5, (fun q hq e => by
        simp only [KW, List.mem_cons, List.not_mem_nil, or_false] at hq
        rcases hq with rfl | rfl
        · exact absurd e (by decide)
        · exact absurd e (by decide))⟩
    · simp only [Prod.mk.injEq] at hm
      obtain ⟨rfl, rfl⟩ := hm
      exact ⟨a6, fd6, _, okf_law_names F6 ih mb, m6, F6.kp, b6, (fun q hq e => by
        simp only [KW, List.mem_cons, List.not_mem_nil, or_false] at hq
        rcases hq with rfl | rfl
        · exact absurd e (by decide)
        · exact absurd e (by decide))⟩
    · simp only [Prod.mk.injEq] at hm
      obtain ⟨rfl, rfl⟩ := hm
      exact ⟨a7, fd7, _, okf_law_atom F7 ih mb, m7, F7.kp, b7, (fun q hq e => by
        simp only [KW, List.mem_cons, List.not_mem_nil, or_false] at hq
        rcases hq with rfl | rfl
        · exact absurd e (by decide)
        · exact absurd e (by decide))⟩
    · simp only [Prod.mk.injEq] at hm
      obtain ⟨rfl, rfl⟩ := hm
      exact ⟨a8, fd8, _, okf_law_prog F8 ih mb, m8, F8.kp, b8, (fun q hq e => by
        simp only [KW, List.mem_cons, List.not_mem_nil, or_false] at hq
        rcases hq with rfl | rfl
        · exact absurd e (by decide)
        · exact absurd e (by decide))⟩
    · simp only [Prod.mk.injEq] at hm
      obtain ⟨rfl, rfl⟩ := hm
      exact ⟨a9, fd9, _, okf_law_any_prog F9 ih mb, m9, F9.kp, b9, (fun q hq e => by
        simp only [KW, List.mem_cons, List.not_mem_nil, or_false] at hq
        rcases hq with rfl | rfl
        · exact absurd e (by decide)
        · exact absurd e (by decide))⟩
    · simp only [Prod.mk.injEq] at hm
      obtain ⟨rfl, rfl⟩ := hm
      exact ⟨a10, fd10, _, okf_law_any_kind F10 ih mb, m10, F10.kp, b10, (fun q hq e => by
        simp only [KW, List.mem_cons, List.not_mem_nil, or_false] at hq
        rcases hq with rfl | rfl
        · exact absurd e (by decide)
        · exact absurd e (by decide))⟩
    · simp only [Prod.mk.injEq] at hm
      obtain ⟨rfl, rfl⟩ := hm
      exact ⟨a11, fd11, _, okf_law_numbers F11 ih mb, m11, F11.kp, b11, (fun q hq e => by
        simp only [KW, List.mem_cons, List.not_mem_nil, or_false] at hq
        rcases hq with rfl | rfl
        · exact absurd e (by decide)
        · exact absurd e (by decide))⟩
    · simp only [Prod.mk.injEq] at hm
      obtain ⟨rfl, rfl⟩ := hm
      exact ⟨a12, fd12, _, okf_law_written F12 ih mb, m12, F12.kp, b12, (fun q hq e => by
        simp only [KW, List.mem_cons, List.not_mem_nil, or_false] at hq
        rcases hq with rfl | rfl
        · exact absurd e (by decide)
        · exact absurd e (by decide))⟩
    · simp only [Prod.mk.injEq] at hm
      obtain ⟨rfl, rfl⟩ := hm
      exact ⟨a13, fd13, _, okf_law_kind_written F13 ih mb, m13, F13.kp, b13, (fun q hq e => by
        simp only [KW, List.mem_cons, List.not_mem_nil, or_false] at hq
        rcases hq with rfl | rfl
        · exact absurd e (by decide)
        · exact absurd e (by decide))⟩
    · simp only [Prod.mk.injEq] at hm
      obtain ⟨rfl, rfl⟩ := hm
      exact ⟨a14, fd14, _, okf_law F14 ih mb, m14, F14.kp, b14, (fun q hq e => by
        simp only [KW, List.mem_cons, List.not_mem_nil, or_false] at hq
        rcases hq with rfl | rfl
        · exact absurd e (by decide)
        · exact absurd e (by decide))⟩⟩
def spLaw (n : Nat) (K : PySem.W.Frag) : Sp := spI T n K "law"
theorem all_mk {l : PySem.W.OpenLaw} {w : World} {K : PySem.W.Frag} {h : Heap} {mg : Str → Option Value} {fa f0 f1 f2 f3 f4 f5 f6 f7 f8 f9 f10 f11 f12 f13 f14 : Addr} (X : K.In h) (G : h.Ns mainGlobals mg) (hfa : mg "law" = some (.ref fa))
    {od0 an0 od1 an1 od2 an2 od3 an3 od4 an4 od5 an5 od6 an6 od7 an7 od8 an8 od9 an9 od10 an10 od11 an11 od12 an12 od13 an13 od14 an14 : Option Addr} {sl0 sl1 sl2 sl3 sl4 sl5 sl6 sl7 sl8 sl9 sl10 sl11 sl12 sl13 sl14 : Array (Option Value)} {oc0 kV0 dc0 pm0 cd0 ct0 oc1 kV1 dc1 pm1 cd1 ct1 oc2 kV2 dc2 pm2 cd2 ct2 oc3 kV3 dc3 pm3 cd3 ct3 oc4 kV4 dc4 pm4 cd4 ct4 oc5 kV5 dc5 pm5 cd5 ct5 oc6 kV6 dc6 pm6 cd6 ct6 oc7 kV7 dc7 pm7 cd7 ct7 oc8 kV8 dc8 pm8 cd8 ct8 oc9 kV9 dc9 pm9 cd9 ct9 oc10 kV10 dc10 pm10 cd10 ct10 oc11 kV11 dc11 pm11 cd11 ct11 oc12 kV12 dc12 pm12 cd12 ct12 oc13 kV13 dc13 pm13 cd13 ct13 oc14 kV14 dc14 pm14 cd14 ct14 : Value}
    (x0 : PySem.W.nsIn K mainGlobals "program_text" = some (some (.ref f0))) (l0 : K.lookup f0 = some ⟨oc0, od0, .func (PySem.W.fnOf "program_text" "program_text" (defArgs sf_program_text) (defBody sf_program_text) (defScope sf_program_text) .none kV0 dc0 pm0 an0 cd0 ct0), sl0⟩) (c0 : PySem.W.codeIn K cd0 "program_text" = true) (k0 : PySem.W.keepIn K (.ref f0) = true)
    (x1 : PySem.W.nsIn K mainGlobals "type_text" = some (some (.ref f1))) (l1 : K.lookup f1 = some ⟨oc1, od1, .func (PySem.W.fnOf "type_text" "type_text" (defArgs sf_type_text) (defBody sf_type_text) (defScope sf_type_text) .none kV1 dc1 pm1 an1 cd1 ct1), sl1⟩) (c1 : PySem.W.codeIn K cd1 "type_text" = true) (k1 : PySem.W.keepIn K (.ref f1) = true)
    (x2 : PySem.W.nsIn K mainGlobals "_law_bag" = some (some (.ref f2))) (l2 : K.lookup f2 = some ⟨oc2, od2, .func (PySem.W.fnOf "_law_bag" "_law_bag" (defArgs sf_law_bag) (defBody sf_law_bag) (defScope sf_law_bag) .none kV2 dc2 pm2 an2 cd2 ct2), sl2⟩) (c2 : PySem.W.codeIn K cd2 "_law_bag" = true) (k2 : PySem.W.keepIn K (.ref f2) = true)
    (x3 : PySem.W.nsIn K mainGlobals "_law_stirred" = some (some (.ref f3))) (l3 : K.lookup f3 = some ⟨oc3, od3, .func (PySem.W.fnOf "_law_stirred" "_law_stirred" (defArgs sf_law_stirred) (defBody sf_law_stirred) (defScope sf_law_stirred) .none kV3 dc3 pm3 an3 cd3 ct3), sl3⟩) (c3 : PySem.W.codeIn K cd3 "_law_stirred" = true) (k3 : PySem.W.keepIn K (.ref f3) = true)
    (x4 : PySem.W.nsIn K mainGlobals "_law_draw" = some (some (.ref f4))) (l4 : K.lookup f4 = some ⟨oc4, od4, .func (PySem.W.fnOf "_law_draw" "_law_draw" (defArgs sf_law_draw) (defBody sf_law_draw) (defScope sf_law_draw) .none kV4 dc4 pm4 an4 cd4 ct4), sl4⟩) (c4 : PySem.W.codeIn K cd4 "_law_draw" = true) (k4 : PySem.W.keepIn K (.ref f4) = true)
    (x5 : PySem.W.nsIn K mainGlobals "_law_pool" = some (some (.ref f5))) (l5 : K.lookup f5 = some ⟨oc5, od5, .func (PySem.W.fnOf "_law_pool" "_law_pool" (defArgs sf_law_pool) (defBody sf_law_pool) (defScope sf_law_pool) .none kV5 dc5 pm5 an5 cd5 ct5), sl5⟩) (c5 : PySem.W.codeIn K cd5 "_law_pool" = true) (k5 : PySem.W.keepIn K (.ref f5) = true)
    (x6 : PySem.W.nsIn K mainGlobals "_law_names" = some (some (.ref f6))) (l6 : K.lookup f6 = some ⟨oc6, od6, .func (PySem.W.fnOf "_law_names" "_law_names" (defArgs sf_law_names) (defBody sf_law_names) (defScope sf_law_names) .none kV6 dc6 pm6 an6 cd6 ct6), sl6⟩) (c6 : PySem.W.codeIn K cd6 "_law_names" = true) (k6 : PySem.W.keepIn K (.ref f6) = true)
    (x7 : PySem.W.nsIn K mainGlobals "_law_atom" = some (some (.ref f7))) (l7 : K.lookup f7 = some ⟨oc7, od7, .func (PySem.W.fnOf "_law_atom" "_law_atom" (defArgs sf_law_atom) (defBody sf_law_atom) (defScope sf_law_atom) .none kV7 dc7 pm7 an7 cd7 ct7), sl7⟩) (c7 : PySem.W.codeIn K cd7 "_law_atom" = true) (k7 : PySem.W.keepIn K (.ref f7) = true)
    (x8 : PySem.W.nsIn K mainGlobals "_law_prog" = some (some (.ref f8))) (l8 : K.lookup f8 = some ⟨oc8, od8, .func (PySem.W.fnOf "_law_prog" "_law_prog" (defArgs sf_law_prog) (defBody sf_law_prog) (defScope sf_law_prog) .none kV8 dc8 pm8 an8 cd8 ct8), sl8⟩) (c8 : PySem.W.codeIn K cd8 "_law_prog" = true) (k8 : PySem.W.keepIn K (.ref f8) = true)
    (x9 : PySem.W.nsIn K mainGlobals "_law_any_prog" = some (some (.ref f9))) (l9 : K.lookup f9 = some ⟨oc9, od9, .func (PySem.W.fnOf "_law_any_prog" "_law_any_prog" (defArgs sf_law_any_prog) (defBody sf_law_any_prog) (defScope sf_law_any_prog) .none kV9 dc9 pm9 an9 cd9 ct9), sl9⟩) (c9 : PySem.W.codeIn K cd9 "_law_any_prog" = true) (k9 : PySem.W.keepIn K (.ref f9) = true)
    (x10 : PySem.W.nsIn K mainGlobals "_law_any_kind" = some (some (.ref f10))) (l10 : K.lookup f10 = some ⟨oc10, od10, .func (PySem.W.fnOf "_law_any_kind" "_law_any_kind" (defArgs sf_law_any_kind) (defBody sf_law_any_kind) (defScope sf_law_any_kind) .none kV10 dc10 pm10 an10 cd10 ct10), sl10⟩) (c10 : PySem.W.codeIn K cd10 "_law_any_kind" = true) (k10 : PySem.W.keepIn K (.ref f10) = true)
    (x11 : PySem.W.nsIn K mainGlobals "_law_numbers" = some (some (.ref f11))) (l11 : K.lookup f11 = some ⟨oc11, od11, .func (PySem.W.fnOf "_law_numbers" "_law_numbers" (defArgs sf_law_numbers) (defBody sf_law_numbers) (defScope sf_law_numbers) .none kV11 dc11 pm11 an11 cd11 ct11), sl11⟩) (c11 : PySem.W.codeIn K cd11 "_law_numbers" = true) (k11 : PySem.W.keepIn K (.ref f11) = true)
    (x12 : PySem.W.nsIn K mainGlobals "_law_written" = some (some (.ref f12))) (l12 : K.lookup f12 = some ⟨oc12, od12, .func (PySem.W.fnOf "_law_written" "_law_written" (defArgs sf_law_written) (defBody sf_law_written) (defScope sf_law_written) .none kV12 dc12 pm12 an12 cd12 ct12), sl12⟩) (c12 : PySem.W.codeIn K cd12 "_law_written" = true) (k12 : PySem.W.keepIn K (.ref f12) = true)
    (x13 : PySem.W.nsIn K mainGlobals "_law_kind_written" = some (some (.ref f13))) (l13 : K.lookup f13 = some ⟨oc13, od13, .func (PySem.W.fnOf "_law_kind_written" "_law_kind_written" (defArgs sf_law_kind_written) (defBody sf_law_kind_written) (defScope sf_law_kind_written) .none kV13 dc13 pm13 an13 cd13 ct13), sl13⟩) (c13 : PySem.W.codeIn K cd13 "_law_kind_written" = true) (k13 : PySem.W.keepIn K (.ref f13) = true)
    (x14 : PySem.W.nsIn K mainGlobals "law" = some (some (.ref f14))) (l14 : K.lookup f14 = some ⟨oc14, od14, .func (PySem.W.fnOf "law" "law" (defArgs sf_law) (defBody sf_law) (defScope sf_law) .none kV14 dc14 pm14 an14 cd14 ct14), sl14⟩) (c14 : PySem.W.codeIn K cd14 "law" = true) (k14 : PySem.W.keepIn K (.ref f14) = true)
    (z0 : PySem.W.nsIn K mainGlobals "abs" = some none) (z1 : PySem.W.nsIn K mainGlobals "int" = some none) (z2 : PySem.W.nsIn K mainGlobals "isinstance" = some none) (z3 : PySem.W.nsIn K mainGlobals "len" = some none) (z4 : PySem.W.nsIn K mainGlobals "min" = some none) (z5 : PySem.W.nsIn K mainGlobals "range" = some none) (z6 : PySem.W.nsIn K mainGlobals "str" = some none) (z7 : PySem.W.nsIn K mainGlobals "tuple" = some none) :
    ∃ fd : FuncData, (∀ (s : Shared) (v : Value), BindsTo s fd ⟨[v], []⟩ [("_law_script", v)]) ∧ ∀ base : Heap, K.In base → base.Ns mainGlobals mg → FnOk l.prog w K mg base CX0 60 fa fd ["_law_script"] (spLaw 60 K) := by
  have e := hfa.symm.trans (PySem.W.mg_of X G x14)
  cases e
  have F0 := fun_mk (st := sf_program_text) l0 c0 k0
  have b0 := F0.binds (ps := ["program"]) fun _ _ _ _ _ _ us hl => match us, hl with | [_], _ => rfl
  have F1 := fun_mk (st := sf_type_text) l1 c1 k1
  have b1 := F1.binds (ps := ["one"]) fun _ _ _ _ _ _ us hl => match us, hl with | [_], _ => rfl
  have F2 := fun_mk (st := sf_law_bag) l2 c2 k2
  have b2 := F2.binds (ps := ["_law_script"]) fun _ _ _ _ _ _ us hl => match us, hl with | [_], _ => rfl
  have F3 := fun_mk (st := sf_law_stirred) l3 c3 k3
  have b3 := F3.binds (ps := ["_law_bag_here", "_law_many"]) fun _ _ _ _ _ _ us hl => match us, hl with | [_, _], _ => rfl
  have F4 := fun_mk (st := sf_law_draw) l4 c4 k4
  have b4 := F4.binds (ps := ["_law_bag_here", "_law_many"]) fun _ _ _ _ _ _ us hl => match us, hl with | [_, _], _ => rfl
  have F5 := fun_mk (st := sf_law_pool) l5 c5 k5
  have b5 := F5.binds (ps := ["_law_bag_here"]) fun _ _ _ _ _ _ us hl => match us, hl with | [_], _ => rfl
  have F6 := fun_mk (st := sf_law_names) l6 c6 k6
  have b6 := F6.binds (ps := ["_law_bag_here"]) fun _ _ _ _ _ _ us hl => match us, hl with | [_], _ => rfl
  have F7 := fun_mk (st := sf_law_atom) l7 c7 k7
  have b7 := F7.binds (ps := ["_law_bag_here", "_law_env"]) fun _ _ _ _ _ _ us hl => match us, hl with | [_, _], _ => rfl
  have F8 := fun_mk (st := sf_law_prog) l8 c8 k8
  have b8 := F8.binds (ps := ["_law_bag_here", "_law_names_here", "_law_env", "_law_many", "_law_deep", "_law_odd", "_law_calm"]) fun _ _ _ _ _ _ us hl => match us, hl with | [_, _, _, _, _, _, _], _ => rfl
  have F9 := fun_mk (st := sf_law_any_prog) l9 c9 k9
  have b9 := F9.binds (ps := ["_law_bag_here"]) fun _ _ _ _ _ _ us hl => match us, hl with | [_], _ => rfl
  have F10 := fun_mk (st := sf_law_any_kind) l10 c10 k10
  have b10 := F10.binds (ps := ["_law_bag_here", "_law_frees_here", "_law_many"]) fun _ _ _ _ _ _ us hl => match us, hl with | [_, _, _], _ => rfl
  have F11 := fun_mk (st := sf_law_numbers) l11 c11 k11
  have b11 := F11.binds (ps := ["_law_bag_here"]) fun _ _ _ _ _ _ us hl => match us, hl with | [_], _ => rfl
  have F12 := fun_mk (st := sf_law_written) l12 c12 k12
  have b12 := F12.binds (ps := ["_law_prog_here"]) fun _ _ _ _ _ _ us hl => match us, hl with | [_], _ => rfl
  have F13 := fun_mk (st := sf_law_kind_written) l13 c13 k13
  have b13 := F13.binds (ps := ["_law_kind"]) fun _ _ _ _ _ _ us hl => match us, hl with | [_], _ => rfl
  have F14 := fun_mk (st := sf_law) l14 c14 k14
  have b14 := F14.binds (ps := ["_law_script"]) fun _ _ _ _ _ _ us hl => match us, hl with | [_], _ => rfl
  have kw0 := fun_kw (ps := ["program"]) F0 ("program_text", 0, ["program"], [0]) fun _ _ _ _ _ _ us ws h1 h2 => match us, ws, h1, h2 with | [], [_], _, _ => rfl
  have kw1 := fun_kw (ps := ["one"]) F1 ("type_text", 0, ["one"], [0]) fun _ _ _ _ _ _ us ws h1 h2 => match us, ws, h1, h2 with | [], [_], _, _ => rfl
  have mb : ∀ s ∈ bn, mg (Str.ofString s) = none := by
    intro s hs
    simp only [bn, List.mem_cons, List.not_mem_nil, or_false] at hs
    rcases hs with rfl | rfl | rfl | rfl | rfl | rfl | rfl | rfl
    · exact PySem.W.mg_none_of X G z0
    · exact PySem.W.mg_none_of X G z1
    · exact PySem.W.mg_none_of X G z2
    · exact PySem.W.mg_none_of X G z3
    · exact PySem.W.mg_none_of X G z4
    · exact PySem.W.mg_none_of X G z5
    · exact PySem.W.mg_none_of X G z6
    · exact PySem.W.mg_none_of X G z7
  refine ⟨PySem.W.fnOf "law" "law" (defArgs sf_law) (defBody sf_law) (defScope sf_law) .none kV14 dc14 pm14 an14 cd14 ct14, fun s v => .of_eq rfl, fun base _ _ => ?_⟩
  have B := ft_all (P := l.prog) (w := w) (base := base) F0 (PySem.W.mg_of X G x0) b0 F1 (PySem.W.mg_of X G x1) b1 F2 (PySem.W.mg_of X G x2) b2 F3 (PySem.W.mg_of X G x3) b3 F4 (PySem.W.mg_of X G x4) b4 F5 (PySem.W.mg_of X G x5) b5 F6 (PySem.W.mg_of X G x6) b6 F7 (PySem.W.mg_of X G x7) b7 F8 (PySem.W.mg_of X G x8) b8 F9 (PySem.W.mg_of X G x9) b9 F10 (PySem.W.mg_of X G x10) b10 F11 (PySem.W.mg_of X G x11) b11 F12 (PySem.W.mg_of X G x12) b12 F13 (PySem.W.mg_of X G x13) b13 F14 (PySem.W.mg_of X G x14) b14 kw0 kw1 mb 59
  exact okf_law F14 B mb
end Prog

namespace Prog
open Ir
theorem set_at {st : Store} {B : Nat} {c : Cell} (h : st[B]? = some c) (c' : Cell) : (st.set B c')[B]? = some c' := List.getElem?_set_self (List.getElem?_eq_some_iff.mp h).1
theorem take_set (st : Store) (B : Nat) (c : Cell) : (st.set B c).take st.length = st.set B c := List.take_of_length_le (by simp)
theorem take_all (st : Store) : st.take st.length = st := List.take_of_length_le (Nat.le_refl _)
theorem set_same {st : Store} {B : Nat} {c : Cell} (h : st[B]? = some c) : st.set B c = st := by
  apply List.ext_getElem?
  intro i
  by_cases e : B = i
  · subst e; rw [set_at h, h]
  · rw [List.getElem?_set_ne e]
theorem set_push (st : Store) (c c' : Cell) : (st ++ [c]).set st.length c' = st ++ [c'] := by simp
theorem get_push (st : Store) (c : Cell) : (st ++ [c])[st.length]? = some c := by simp
theorem push_get {st : Store} {B : Nat} {b : Cell} (h : st[B]? = some b) (c : Cell) : (st ++ [c])[B]? = some b := by
  rw [List.getElem?_append_left (List.getElem?_eq_some_iff.mp h).1]; exact h
theorem comp_const {α : Type} {f : D → Store → Res (Option D)} {st : Store} (p q : α → D) : ∀ l : List α, (∀ a ∈ l, f (p a) st = .ok (some (q a)) st) → compL f (l.map p) st = .ok (l.map q) st
  | [], _ => by simp [compL]
  | a :: l, h => by
    have e := comp_const (f := f) (st := st) p q l fun a' h' => h a' (List.mem_cons_of_mem _ h')
    simp [compL, h a (by simp), e]
/-! ### alike -/
theorem range_nat (n : Nat) : rangeL 0 n = (List.range n).map fun i => D.int (i : Nat) := by simp [rangeL]
theorem bools_true {α : Type} : ∀ l : List α, D.bools (l.map fun _ => D.bool true) = some (l.map fun _ => true)
  | [] => rfl
  | a :: l => by simp [D.bools, bools_true l]
theorem all_true {α : Type} (l : List α) : D.bAll [.lst (l.map fun _ => D.bool true)] = some (.bool true) := by
  simp [D.bAll, bools_true]
theorem atI_of {xs : List D} {i : Nat} (h : i < xs.length) : atI xs (i : Int) = some xs[i] := by
  simp [atI, ixN, h]
theorem atI_nat {α : Type} {xs : List α} {d : Int} (h0 : 0 ≤ d) (h1 : d < xs.length) : ∃ x, xs[d.toNat]? = some x ∧ atI xs d = some x := by
  have hd : d.toNat < xs.length := by omega
  refine ⟨xs[d.toNat], List.getElem?_eq_getElem hd, ?_⟩
  simp [atI, ixN, h0, h1, hd]
theorem bRange_nat {n : Nat} (h : n ≤ LIM) : D.bRange [.int (n : Int)] = some (.lst (rangeL 0 n)) := by
  simp only [D.bRange]
  rw [if_pos ⟨by omega, by omega⟩]
  simp
/-! ### the free numbers -/
theorem pick4 {a b c d i : Int} (h0 : 0 ≤ i) (h1 : i < 4) : ∃ x, (x = a ∨ x = b ∨ x = c ∨ x = d) ∧ atI [D.int a, .int b, .int c, .int d] i = some (.int x) := by
  have : i = 0 ∨ i = 1 ∨ i = 2 ∨ i = 3 := by omega
  rcases this with rfl | rfl | rfl | rfl
  · exact ⟨a, by simp, by simp [atI, ixN]⟩
  · exact ⟨b, by simp, by simp [atI, ixN]⟩
  · exact ⟨c, by simp, by simp [atI, ixN]⟩
  · exact ⟨d, by simp, by simp [atI, ixN]⟩
theorem pick8 {a b i : Int} (h0 : 0 ≤ i) (h1 : i < 8) : ∃ x, (x = a ∨ x = b) ∧ atI [D.int a, .int a, .int a, .int a, .int a, .int a, .int a, .int b] i = some (.int x) := by
  have : i = 0 ∨ i = 1 ∨ i = 2 ∨ i = 3 ∨ i = 4 ∨ i = 5 ∨ i = 6 ∨ i = 7 := by omega
  rcases this with rfl | rfl | rfl | rfl | rfl | rfl | rfl | rfl
  iterate 7 exact ⟨a, by simp, by simp [atI, ixN]⟩
  exact ⟨b, by simp, by simp [atI, ixN]⟩
theorem big_of_small {i : Int} (h0 : 0 ≤ i) (h : i < 2147483647) : bigOk i = true := by
  unfold bigOk
  have h1 : i.natAbs < 2147483647 := by omega
  have h2 : (2147483647 : Nat) < 2 ^ 4000 := by decide +kernel
  exact decide_eq_true (Nat.lt_trans h1 h2)
theorem big_le {i : Int} (h0 : 0 ≤ i) (h : i < 2147483647) : bigOk i = true := big_of_small h0 h
theorem bigOk_lit : bigOk 16 = true ∧ bigOk 27 = true := by constructor <;> decide +kernel
theorem smallOk_lit : smallOk 69621 = true ∧ smallOk 1031 = true ∧ smallOk 134217728 = true ∧ smallOk 48271 = true := by decide
theorem big_50 : bigOk (10 ^ 50) = true := by decide +kernel
theorem pow_lits : bigOk 10 = true ∧ bigOk (10 ^ 60) = true ∧ (0 : Int) < (10 ^ 60) ^ 10 := by
  refine ⟨by decide +kernel, by decide +kernel, by decide +kernel⟩
theorem bigOk_60 : bigOk 1000000000000000000000000000000000000000000000000000000000000 = true := by decide +kernel
theorem smallOk_of {i : Int} (h0 : 0 ≤ i) (h : i < 2147483647) : smallOk i = true := by
  unfold smallOk
  exact decide_eq_true ⟨by omega, by omega⟩
mutual
theorem eqv_refl : ∀ x : D, x.dep ≤ 64 → x.eqv x = true
  | .non, _ => by simp [D.eqv]
  | .bool b, _ => by simp [D.eqv]
  | .int i, _ => by simp [D.eqv]
  | .str s, _ => by simp [D.eqv]
  | .tup xs, h => by
    simp only [D.dep] at h
    simp only [D.eqv]
    exact eqvAll_refl xs (by omega)
  | .lst xs, h => by
    simp only [D.dep] at h
    simp only [D.eqv]
    exact eqvAll_refl xs (by omega)
  | .ro xs, h => by simp [D.dep] at h
theorem eqvAll_refl : ∀ xs : List D, D.depAll xs ≤ 64 → D.eqvAll xs xs = true
  | [], _ => by simp [D.eqvAll]
  | x :: xs, h => by
    simp only [D.depAll] at h
    simp [D.eqvAll, eqv_refl x (by omega), eqvAll_refl xs (by omega)]
end
theorem depAll_int (fs : List Int) : D.depAll (fs.map .int) = 0 := by
  induction fs with
  | nil => rfl
  | cons i r ih => simp [D.depAll, D.dep, ih]
theorem fine_intlist (l : List Int) : fine (.lst (l.map .int)) = true := by simp [fine, D.dep, depAll_int]
theorem any_ints (l : List Int) (i : Int) : ((l.map D.int).any fun y => y.eqv (.int i)) = decide (i ∈ l) := by
  induction l with
  | nil => rfl
  | cons j l ih =>
    simp only [List.map_cons, List.any_cons, D.eqv, ih]
    by_cases e : j = i
    · subst e; simp
    · have : (j == i) = false := by simpa using e
      simp [this, Ne.symm e]
theorem len_dic {st : Store} {d : Nat} {kvs : List (D × D)} (h : st[d]? = some (.dic kvs)) : bltV .len [.ref d] st = .ok (.d (.int kvs.length)) st := by
  simp [bltV, lenDic, h]
theorem setdefault_new {st : Store} {d : Nat} {kvs : List (D × D)} {i : Int} {v : D} (h : st[d]? = some (.dic kvs)) (hl : kvs.length < LIM) (hn : lookK kvs (.int i) = none) : mSetdefault d st [.d (.int i), .d v] = .ok (.d v) (st.set d (.dic (putK kvs (.int i) v))) := by
  simp [mSetdefault, h, hl, hn, D.key]
theorem setdefault_old {st : Store} {d : Nat} {kvs : List (D × D)} {i : Int} {v w : D} (h : st[d]? = some (.dic kvs)) (hl : kvs.length < LIM) (hn : lookK kvs (.int i) = some w) : mSetdefault d st [.d (.int i), .d v] = .ok (.d w) st := by
  simp [mSetdefault, h, hl, hn, D.key]
end Prog

namespace Prog
open Ir
/-! ### the bag of draws -/
def bagC (ns : List Int) (p r s c : Int) : Cell := .lst [.lst (ns.map .int), .int p, .int r, .int s, .int c]
def isBag (b : Cell) : Prop := ∃ (ns : List Int) (p : Nat) (r s c : Int), b = bagC ns p r s c ∧ (∀ x ∈ ns, 0 ≤ x) ∧ 0 ≤ r ∧ 0 ≤ s ∧ s < 2147483647
set_option maxHeartbeats 1000000 in
theorem draw_mid {T : Tab} (hT : T "_law_draw" = some f_law_draw) {n : Nat} {st : Store} {B : Nat} {ns : List Int} {p r s c many : Int} (hB : st[B]? = some (bagC ns p r s c)) (hr : r ≠ 0) (hm : 0 < many) (hb : bigOk many = true) :
    callN T (n + 1) "_law_draw" [.ref B, .d (.int many)] st = .ok (.d (.int (r % many))) (st.set B (bagC ns p (r / many) s c)) := by
  have hs := set_at hB
  unfold bagC at hB ⊢
  simp [callN, hT, runFn, f_law_draw, indexV, hB, hs, D.index, atI, ixN, cmpV, deref, D.cmp, fine, D.dep, D.eqv, asB, hr, hm, hb, D.bin, Tg.putV, setV, asD, leave, take_set]
set_option maxHeartbeats 1000000 in
theorem draw_next {T : Tab} (hT : T "_law_draw" = some f_law_draw) {n : Nat} {st : Store} {B : Nat} {ns : List Int} {s c many : Int} {p : Nat} (hB : st[B]? = some (bagC ns p 0 s c)) (hp : p < ns.length) (hm : 0 < many) (hb : bigOk many = true) :
    callN T (n + 1) "_law_draw" [.ref B, .d (.int many)] st = .ok (.d (.int (ns[p] % many))) (st.set B (bagC ns (p + 1) (ns[p] / many) s c)) := by
  have hs := set_at hB
  unfold bagC at hB ⊢
  simp [callN, hT, runFn, f_law_draw, indexV, hB, hs, D.index, atI, ixN, cmpV, deref, D.cmp, fine, D.dep, D.eqv, asB, hp, hm, hb, D.bin, Tg.putV, setV, asD, leave, take_set, bltV, lenDic, bltD, derefs, D.blt, D.bLen]
def stirBody : List Stm := [.set (.var 0) (.con (.int 4)) (.bin .add (.idx (.var 0) (.con (.int 4))) (.con (.int 1))),
    .set (.var 0) (.con (.int 3)) (.bin .mod (.bin .add (.bin .add (.bin .add (.bin .pow (.idx (.var 0) (.con (.int 3))) (.con (.int 3))) (.bin .mul (.con (.int 69621)) (.idx (.var 0) (.con (.int 3))))) (.bin .mul (.con (.int 1031)) (.idx (.var 0) (.con (.int 4))))) (.con (.int 1))) (.con (.int 2147483647))),
    .asg (.name 2) (.bin .add (.bin .mul (.var 2) (.con (.int 134217728))) (.bin .fdiv (.idx (.var 0) (.con (.int 3))) (.con (.int 16))))]
set_option maxHeartbeats 2000000 in
theorem stir_turn {C : Calls} {st : Store} {B : Nat} {ns : List Int} {p r s c many found : Int} {x : D} (hB : st[B]? = some (bagC ns p r s c)) (h0 : 0 ≤ s) (h1 : s < 2147483647) :
    ∃ s', (0 ≤ s' ∧ s' < 2147483647) ∧ execs C stirBody [some (.ref B), some (.d (.int many)), some (.d (.int found)), some (.d x)] st = .ok (.nx [some (.ref B), some (.d (.int many)), some (.d (.int (found * 134217728 + s' / 16))), some (.d x)]) (st.set B (bagC ns p r s' (c + 1))) := by
  refine ⟨(s ^ 3 + 69621 * s + 1031 * (c + 1) + 1) % 2147483647, ⟨Int.emod_nonneg _ (by decide), Int.emod_lt_of_pos _ (by decide)⟩, ?_⟩
  have hs := set_at hB
  have hbs := big_of_small h0 h1
  unfold bagC at hB ⊢
  simp [stirBody, indexV, hB, hs, D.index, atI, ixN, deref, D.bin, Tg.putV, setV, asD, smallOk_lit, bigOk_lit, hbs]
theorem stir_loop {C : Calls} {B : Nat} {ns : List Int} {p r many : Int} : ∀ (xs : List D) (st : Store) (s c found : Int) (k : Option Val), st[B]? = some (bagC ns p r s c) → 0 ≤ s → s < 2147483647 →
    ∃ s' c' found' k', (0 ≤ s' ∧ s' < 2147483647) ∧ loopL (Tg.name 3).putF (execs C stirBody) xs [some (.ref B), some (.d (.int many)), some (.d (.int found)), k] st = .ok (.nx [some (.ref B), some (.d (.int many)), some (.d (.int found')), k']) (st.set B (bagC ns p r s' c'))
  | [], st, s, c, found, k, hB, h0, h1 => by
    refine ⟨s, c, found, k, ⟨h0, h1⟩, ?_⟩
    have : st.set B (bagC ns p r s c) = st := by
      apply List.ext_getElem?
      intro i
      by_cases e : B = i
      · subst e; rw [set_at hB, hB]
      · rw [List.getElem?_set_ne e]
    simp [loopL, this]
  | x :: xs, st, s, c, found, k, hB, h0, h1 => by
    obtain ⟨s1, ⟨g0, g1⟩, e⟩ := stir_turn (C := C) (many := many) (found := found) (x := x) hB h0 h1
    obtain ⟨s', c', f', k', hs', e2⟩ := stir_loop (C := C) (many := many) xs (st.set B (bagC ns p r s1 (c + 1))) s1 (c + 1) (found * 134217728 + s1 / 16) (some (.d x)) (set_at hB _) g0 g1
    refine ⟨s', c', f', k', hs', ?_⟩
    simp [loopL, Tg.putF_eq, Tg.put, e, e2]
theorem bits_le {i : Int} (h : bigOk i = true) : intBits i ≤ 4000 := by
  unfold bigOk at h
  have h1 := of_decide_eq_true h
  unfold intBits
  split
  · omega
  · rename_i h0
    exact (Nat.log2_lt h0).mpr h1
theorem range_ok {a : Nat} (h : a ≤ 4000) : D.bRange [.int (1 + (a : Int) / 27)] = some (.lst (rangeL 0 (1 + (a : Int) / 27).toNat)) := by
  have hL : (LIM : Int) = 16777216 := by decide
  simp only [D.bRange]
  rw [if_pos (by omega)]
set_option maxHeartbeats 2000000 in
theorem stirred_ok {T : Tab} (hT : T "_law_stirred" = some f_law_stirred) {n : Nat} {st : Store} {B : Nat} {ns : List Int} {p r s c many : Int} (hB : st[B]? = some (bagC ns p r s c)) (h0 : 0 ≤ s) (h1 : s < 2147483647) (hm : 0 < many) (hb : bigOk many = true) :
    ∃ s' c' d, (0 ≤ s' ∧ s' < 2147483647) ∧ (0 ≤ d ∧ d < many) ∧ callN T (n + 1) "_law_stirred" [.ref B, .d (.int many)] st = .ok (.d (.int d)) (st.set B (bagC ns p r s' c')) := by
  have hbits := bits_le hb
  obtain ⟨s', c', f', k', hs', e⟩ := stir_loop (C := callN T n) (many := many) (rangeL 0 (1 + ((intBits many : Nat) : Int) / 27).toNat) st s c 0 none hB h0 h1
  refine ⟨s', c', f' % many, hs', ⟨Int.emod_nonneg _ (by omega), Int.emod_lt_of_pos _ hm⟩, ?_⟩
  unfold stirBody at e
  simp [callN, hT, runFn, f_law_stirred, mthOk, mthV, mBits, deref, D.bin, Tg.putV, bltV, bltD, derefs, D.blt, range_ok hbits, asD, D.seq, bigOk_lit, e, hm, leave, take_set]
theorem draw_ok {T : Tab} (hT : T "_law_draw" = some f_law_draw) (hT2 : T "_law_stirred" = some f_law_stirred) {n : Nat} {st : Store} {B : Nat} {b : Cell} {many : Int} (hB : st[B]? = some b) (ib : isBag b) (hm : 0 < many) (hb : bigOk many = true) :
    ∃ d b', (0 ≤ d ∧ d < many) ∧ isBag b' ∧ callN T (n + 2) "_law_draw" [.ref B, .d (.int many)] st = .ok (.d (.int d)) (st.set B b') := by
  obtain ⟨ns, p, r, s, c, rfl, hns, hr, h0, h1⟩ := ib
  by_cases hr0 : r = 0
  · subst hr0
    by_cases hp : p < ns.length
    · refine ⟨_, _, ⟨Int.emod_nonneg _ (by omega), Int.emod_lt_of_pos _ hm⟩, ⟨ns, p + 1, ns[p] / many, s, c, by simp, hns, Int.ediv_nonneg (hns _ (List.getElem_mem hp)) (by omega), h0, h1⟩, draw_next hT hB hp hm hb⟩
    · obtain ⟨s', c', d, hs', hd, e⟩ := stirred_ok hT2 (n := n) hB h0 h1 hm hb
      refine ⟨d, _, hd, ⟨ns, p, 0, s', c', rfl, hns, by omega, hs'⟩, ?_⟩
      have hs := set_at hB
      unfold bagC at hB e ⊢
      have hp' : ¬ ((p : Int) < (ns.length : Int)) := by omega
      rw [show n + 2 = (n + 1) + 1 from rfl, callN]
      simp [hT, runFn, f_law_draw, indexV, hB, hs, D.index, atI, ixN, cmpV, deref, D.cmp, fine, D.dep, D.eqv, asB, hp, hp', hm, hb, D.bin, Tg.putV, setV, asD, leave, take_set, bltV, lenDic, bltD, derefs, D.blt, D.bLen, e]
  · exact ⟨_, _, ⟨Int.emod_nonneg _ (by omega), Int.emod_lt_of_pos _ hm⟩, ⟨ns, p, r / many, s, c, rfl, hns, Int.ediv_nonneg hr (by omega), h0, h1⟩, draw_mid hT hB hr0 hm hb⟩
/-! ### the bag at its start -/
def bagBody : List Stm := [.asg (.name 1) (.bin .mod (.bin .add (.bin .add (.bin .mul (.var 1) (.con (.int 48271))) (.bin .mod (.var 2) (.con (.int 2147483629)))) (.con (.int 1))) (.con (.int 2147483647)))]
theorem bag_loop {C : Calls} {st : Store} {x0 : Option Val} : ∀ (l : List Int) (s : Int) (x2 : Option Val), 0 ≤ s → s < 2147483647 →
    ∃ s' x2', (0 ≤ s' ∧ s' < 2147483647) ∧ loopL (Tg.name 2).putF (execs C bagBody) (l.map .int) [x0, some (.d (.int s)), x2] st = .ok (.nx [x0, some (.d (.int s')), x2']) st
  | [], s, x2, h0, h1 => ⟨s, x2, ⟨h0, h1⟩, by simp [loopL]⟩
  | i :: l, s, x2, h0, h1 => by
    obtain ⟨s', x2', hs, e⟩ := bag_loop (C := C) (st := st) (x0 := x0) l ((s * 48271 + i % 2147483629 + 1) % 2147483647) (some (.d (.int i))) (Int.emod_nonneg _ (by decide)) (Int.emod_lt_of_pos _ (by decide))
    refine ⟨s', x2', hs, ?_⟩
    simp [loopL, Tg.putF_eq, Tg.put, bagBody, deref, D.bin, smallOk_lit, Tg.putV]
    simpa [bagBody] using e
set_option maxHeartbeats 2000000 in
theorem bag_ok {T : Tab} (hT : T "_law_bag" = some f_law_bag) {n : Nat} {st : Store} (ns : List Int) :
    ∃ b, isBag b ∧ callN T (n + 1) "_law_bag" [.d (.ro (ns.map .int))] st = .ok (.ref st.length) (st ++ [b]) := by
  obtain ⟨ms, hms⟩ : ∃ ms, ms = ns.take 63 := ⟨_, rfl⟩
  obtain ⟨s, x2, ⟨h0, h1⟩, e⟩ := bag_loop (C := callN T n) (st := st) (x0 := some (.d (.ro (ns.map .int)))) ms 19 none (by decide) (by decide)
  have hcut : cut (ns.map D.int) none (some 63) = ms.map .int := by
    rw [hms]
    simp [cut, sIx, List.map_take]
  have hpow : (0 : Int) < (10 ^ 60) ^ 10 := pow_lits.2.2
  have ec := comp_const (f := compStep (eval (callN T n) (.bin .mod (.blt .abs [.var 2]) (.bin .pow (.bin .pow (.con (.int 10)) (.con (.int 60))) (.con (.int 10))))) (conds (callN T n) []) (.name 2) [some (.d (.ro (ns.map .int))), some (.d (.int s)), none]) (st := st) D.int (fun i => D.int ((if i < 0 then -i else i) % (10 ^ 60) ^ 10)) ms (fun i hi => by
    simp [compStep, Tg.put, bltV, bltD, derefs, deref, D.blt, D.bAbs, D.bin, pow_lits.1, bigOk_60, asD])
  refine ⟨bagC (ms.map fun i => (if i < 0 then -i else i) % (10 ^ 60) ^ 10) (0 : Nat) 0 s 0, ⟨_, 0, 0, s, 0, rfl, ?_, by omega, h0, h1⟩, ?_⟩
  · intro x hx
    obtain ⟨i, _, rfl⟩ := List.mem_map.mp hx
    exact Int.emod_nonneg _ (by omega)
  · rw [callN_run hT]
    unfold bagBody at e
    simp [runFn, f_law_bag, Tg.putV, asI, deref, D.slice, hcut, asD, D.seq, e, Tg.slots, wipe, ec, asDs, leave, bagC]
end Prog

namespace Ir
/-- what is wanted behind a run; as an instance, so that it is left as it is until the run is there -/
class Post (α : Type) where
  q : α → Store → Prop
@[simp] theorem post_mk {α : Type} (f : α → Store → Prop) : (Post.mk f).q = f := rfl
/-- a run ends well, and so -/
def Wp {α : Type} (r : Res α) [p : Post α] : Prop := match r with | .ok a st => p.q a st | _ => False
@[simp] theorem wp_ok {α : Type} (a : α) (st : Store) {p : Post α} : @Wp _ (.ok a st) p = p.q a st := rfl
@[simp] theorem wp_bad {α : Type} {p : Post α} : @Wp _ .bad p = False := rfl
@[simp ↓] theorem wp_bind {α β : Type} (r : Res α) (f : α → Store → Res β) {p : Post β} : @Wp _ (r.bind f) p = @Wp _ r ⟨fun a s => @Wp _ (f a s) p⟩ := by
  cases r <;> rfl
@[simp ↓ high] theorem wp_if_t {α : Type} {c : Prop} [Decidable c] (a b : Res α) {p : Post α} (h : c) : @Wp _ (if c then a else b) p = @Wp _ a p := by rw [if_pos h]
@[simp ↓ high] theorem wp_if_f {α : Type} {c : Prop} [Decidable c] (a b : Res α) {p : Post α} (h : ¬ c) : @Wp _ (if c then a else b) p = @Wp _ b p := by rw [if_neg h]
@[simp ↓ low] theorem wp_if {α : Type} {c : Prop} [Decidable c] (a b : Res α) {p : Post α} : @Wp _ (if c then a else b) p = ((c → @Wp _ a p) ∧ (¬ c → @Wp _ b p)) := by
  by_cases h : c <;> simp [h]
@[simp] theorem wp_oif {α : Type} {c : Prop} [Decidable c] (a b : Option α) (s : Store) {p : Post α} : @Wp _ (optR (if c then a else b) s) p = ((c → @Wp _ (optR a s) p) ∧ (¬ c → @Wp _ (optR b s) p)) := by
  by_cases h : c <;> simp [h]
theorem wp_iff {α : Type} {r : Res α} {p : Post α} : @Wp _ r p ↔ ∃ a s, r = .ok a s ∧ p.q a s := by
  cases r with
  | ok a s => exact ⟨fun h => ⟨a, s, rfl, h⟩, fun ⟨a', s', e, h⟩ => by cases e; exact h⟩
  | exc c as s => exact ⟨fun h => h.elim, fun ⟨_, _, e, _⟩ => by cases e⟩
  | bad => exact ⟨fun h => h.elim, fun ⟨_, _, e, _⟩ => by cases e⟩
theorem Wp.mono {α : Type} {r : Res α} {p p' : Post α} (h : @Wp _ r p) (k : ∀ a s, p.q a s → p'.q a s) : @Wp _ r p' := by
  cases r with
  | ok a s => exact k a s h
  | exc c as s => exact h
  | bad => exact h
theorem Wp.of {α : Type} {r : Res α} {a : α} {s : Store} {p : Post α} (e : r = .ok a s) (h : p.q a s) : @Wp _ r p := by rw [e]; exact h
theorem wpb {α β : Type} {r : Res α} {f : α → Store → Res β} {pp : Post β} {q : α → Store → Prop} (h : ∀ a s, @Wp _ (f a s) pp = q a s) : @Wp _ (r.bind f) pp = @Wp _ r ⟨q⟩ := by
  rw [wp_bind]
  exact congrArg (fun z => @Wp _ r ⟨z⟩) (funext fun a => funext fun s => h a s)
/-! ### the equations -/
set_option autoImplicit true in
@[simp ↓] theorem w_eval_var {C : Calls} {σ : Env} {st : Store} {pp : Post Val} : @Wp _ (eval C (Ex.var i) σ st) pp = (@Wp _ (match σ[i]? with
    | some (some v) => .ok v st
    | _ => .bad) pp) := by
  rw [eval_var]
  repeat (refine wpb fun _ _ => ?_)
  try rfl
set_option autoImplicit true in
@[simp ↓] theorem w_eval_con {C : Calls} {σ : Env} {st : Store} {pp : Post Val} : @Wp _ (eval C (Ex.con d) σ st) pp = (@Wp _ (.ok (.d d) st) pp) := by
  rw [eval_con]
  repeat (refine wpb fun _ _ => ?_)
  try rfl
set_option autoImplicit true in
@[simp ↓] theorem w_eval_tup {C : Calls} {σ : Env} {st : Store} {pp : Post Val} : @Wp _ (eval C (Ex.tup es) σ st) pp = (@Wp _ (evals C es σ st) ⟨fun vs s1 => @Wp _ (optR (asDs vs) s1) ⟨fun ds s2 => @Wp _ (.ok (.d (.tup ds)) s2) pp⟩⟩) := by
  rw [eval_tup]
  repeat (refine wpb fun _ _ => ?_)
  try rfl
set_option autoImplicit true in
@[simp ↓] theorem w_eval_lst {C : Calls} {σ : Env} {st : Store} {pp : Post Val} : @Wp _ (eval C (Ex.lst es) σ st) pp = (@Wp _ (evals C es σ st) ⟨fun vs s1 => @Wp _ (optR (asDs vs) s1) ⟨fun ds s2 => @Wp _ (.ok (.d (.lst ds)) s2) pp⟩⟩) := by
  rw [eval_lst]
  repeat (refine wpb fun _ _ => ?_)
  try rfl
set_option autoImplicit true in
@[simp ↓] theorem w_eval_newL {C : Calls} {σ : Env} {st : Store} {pp : Post Val} : @Wp _ (eval C (Ex.newL e) σ st) pp = (@Wp _ (eval C e σ st) ⟨fun v s1 => @Wp _ (match v with
    | .d (.lst xs) => .ok (.ref s1.length) (s1 ++ [.lst xs])
    | _ => .bad) pp⟩) := by
  rw [eval_newL]
  repeat (refine wpb fun _ _ => ?_)
  try rfl
set_option autoImplicit true in
@[simp ↓] theorem w_eval_newD {C : Calls} {σ : Env} {st : Store} {pp : Post Val} : @Wp _ (eval C (Ex.newD) σ st) pp = (@Wp _ (.ok (.ref st.length) (st ++ [.dic []])) pp) := by
  rw [eval_newD]
  repeat (refine wpb fun _ _ => ?_)
  try rfl
set_option autoImplicit true in
@[simp ↓] theorem w_eval_newDP {C : Calls} {σ : Env} {st : Store} {pp : Post Val} : @Wp _ (eval C (Ex.newDP e) σ st) pp = (@Wp _ (eval C e σ st) ⟨fun v s1 => @Wp _ (match v with
    | .d (.lst xs) => match mergeP [] xs with
      | some kvs => .ok (.ref s1.length) (s1 ++ [.dic kvs])
      | none => .bad
    | _ => .bad) pp⟩) := by
  rw [eval_newDP]
  repeat (refine wpb fun _ _ => ?_)
  try rfl
set_option autoImplicit true in
@[simp ↓] theorem w_eval_newDd {C : Calls} {σ : Env} {st : Store} {pp : Post Val} : @Wp _ (eval C (Ex.newDd es) σ st) pp = (@Wp _ (evals C es σ st) ⟨fun us s1 => @Wp _ (optR (asDs us) s1) ⟨fun ds s2 => @Wp _ (match mergeF [] ds with
    | some kvs => .ok (.ref s2.length) (s2 ++ [.dic kvs])
    | none => .bad) pp⟩⟩) := by
  rw [eval_newDd]
  repeat (refine wpb fun _ _ => ?_)
  try rfl
set_option autoImplicit true in
@[simp ↓] theorem w_eval_frz {C : Calls} {σ : Env} {st : Store} {pp : Post Val} : @Wp _ (eval C (Ex.frz e) σ st) pp = (@Wp _ (eval C e σ st) ⟨fun v s1 => @Wp _ (match v with
    | .ref n => match s1[n]? with
      | some (.lst xs) => .ok (.d (.lst xs)) (s1.set n .dead)
      | _ => .bad
    | _ => .bad) pp⟩) := by
  rw [eval_frz]
  repeat (refine wpb fun _ _ => ?_)
  try rfl
set_option autoImplicit true in
@[simp ↓] theorem w_eval_bin {C : Calls} {σ : Env} {st : Store} {pp : Post Val} : @Wp _ (eval C (Ex.bin o a b) σ st) pp = (@Wp _ (eval C a σ st) ⟨fun x s1 => @Wp _ (eval C b σ s1) ⟨fun y s2 => @Wp _ (optR (deref s2 x) s2) ⟨fun p s3 => @Wp _ (optR (deref s2 y) s3) ⟨fun q s4 => @Wp _ (optR (D.bin o p q) s4) ⟨fun r s5 => @Wp _ (.ok (.d r) s5) pp⟩⟩⟩⟩⟩) := by
  rw [eval_bin]
  repeat (refine wpb fun _ _ => ?_)
  try rfl
set_option autoImplicit true in
@[simp ↓] theorem w_eval_neg {C : Calls} {σ : Env} {st : Store} {pp : Post Val} : @Wp _ (eval C (Ex.neg a) σ st) pp = (@Wp _ (eval C a σ st) ⟨fun x s1 => @Wp _ (optR (asI x) s1) ⟨fun i s2 => @Wp _ (.ok (.d (.int (-i))) s2) pp⟩⟩) := by
  rw [eval_neg]
  repeat (refine wpb fun _ _ => ?_)
  try rfl
set_option autoImplicit true in
@[simp ↓] theorem w_eval_cmp {C : Calls} {σ : Env} {st : Store} {pp : Post Val} : @Wp _ (eval C (Ex.cmp o a b) σ st) pp = (@Wp _ (eval C a σ st) ⟨fun x s1 => @Wp _ (eval C b σ s1) ⟨fun y s2 => @Wp _ (optR (cmpV o s2 x y) s2) ⟨fun r s3 => @Wp _ (.ok (.d (.bool r)) s3) pp⟩⟩⟩) := by
  rw [eval_cmp]
  repeat (refine wpb fun _ _ => ?_)
  try rfl
set_option autoImplicit true in
@[simp ↓] theorem w_eval_chain {C : Calls} {σ : Env} {st : Store} {pp : Post Val} : @Wp _ (eval C (Ex.chain o o' a b c) σ st) pp = (@Wp _ (eval C a σ st) ⟨fun x s1 => @Wp _ (eval C b σ s1) ⟨fun y s2 => @Wp _ (optR (cmpV o s2 x y) s2) ⟨fun r s3 => @Wp _ (if r then (eval C c σ s3).bind fun z s4 => (optR (cmpV o' s4 y z) s4).bind fun q s5 => .ok (.d (.bool q)) s5 else .ok (.d (.bool false)) s3) pp⟩⟩⟩) := by
  rw [eval_chain]
  repeat (refine wpb fun _ _ => ?_)
  try rfl
set_option autoImplicit true in
@[simp ↓] theorem w_eval_and {C : Calls} {σ : Env} {st : Store} {pp : Post Val} : @Wp _ (eval C (Ex.and a b) σ st) pp = (@Wp _ (eval C a σ st) ⟨fun x s1 => @Wp _ (optR (asB x) s1) ⟨fun c s2 => @Wp _ (if c then eval C b σ s2 else .ok (.d (.bool false)) s2) pp⟩⟩) := by
  rw [eval_and]
  repeat (refine wpb fun _ _ => ?_)
  try rfl
set_option autoImplicit true in
@[simp ↓] theorem w_eval_or {C : Calls} {σ : Env} {st : Store} {pp : Post Val} : @Wp _ (eval C (Ex.or a b) σ st) pp = (@Wp _ (eval C a σ st) ⟨fun x s1 => @Wp _ (optR (asB x) s1) ⟨fun c s2 => @Wp _ (if c then .ok (.d (.bool true)) s2 else eval C b σ s2) pp⟩⟩) := by
  rw [eval_or]
  repeat (refine wpb fun _ _ => ?_)
  try rfl
set_option autoImplicit true in
@[simp ↓] theorem w_eval_not {C : Calls} {σ : Env} {st : Store} {pp : Post Val} : @Wp _ (eval C (Ex.not a) σ st) pp = (@Wp _ (eval C a σ st) ⟨fun x s1 => @Wp _ (optR (asB x) s1) ⟨fun c s2 => @Wp _ (.ok (.d (.bool (!c))) s2) pp⟩⟩) := by
  rw [eval_not]
  repeat (refine wpb fun _ _ => ?_)
  try rfl
set_option autoImplicit true in
@[simp ↓] theorem w_eval_ite {C : Calls} {σ : Env} {st : Store} {pp : Post Val} : @Wp _ (eval C (Ex.ite c a b) σ st) pp = (@Wp _ (eval C c σ st) ⟨fun x s1 => @Wp _ (optR (asB x) s1) ⟨fun c s2 => @Wp _ (if c then eval C a σ s2 else eval C b σ s2) pp⟩⟩) := by
  rw [eval_ite]
  repeat (refine wpb fun _ _ => ?_)
  try rfl
set_option autoImplicit true in
@[simp ↓] theorem w_eval_idx {C : Calls} {σ : Env} {st : Store} {pp : Post Val} : @Wp _ (eval C (Ex.idx a b) σ st) pp = (@Wp _ (eval C a σ st) ⟨fun x s1 => @Wp _ (eval C b σ s1) ⟨fun y s2 => @Wp _ (optR (indexV s2 x y) s2) ⟨fun r s3 => @Wp _ (.ok (.d r) s3) pp⟩⟩⟩) := by
  rw [eval_idx]
  repeat (refine wpb fun _ _ => ?_)
  try rfl
set_option autoImplicit true in
@[simp ↓] theorem w_eval_sli {C : Calls} {σ : Env} {st : Store} {pp : Post Val} : @Wp _ (eval C (Ex.sli a lo hi) σ st) pp = (@Wp _ (eval C a σ st) ⟨fun x s1 => @Wp _ (evalO C lo σ s1) ⟨fun l s2 => @Wp _ (evalO C hi σ s2) ⟨fun h s3 => @Wp _ (optR (deref s3 x) s3) ⟨fun p s4 => @Wp _ (optR (p.slice l h) s4) ⟨fun r s5 => @Wp _ (.ok (.d r) s5) pp⟩⟩⟩⟩⟩) := by
  rw [eval_sli]
  repeat (refine wpb fun _ _ => ?_)
  try rfl
set_option autoImplicit true in
@[simp ↓] theorem w_eval_call {C : Calls} {σ : Env} {st : Store} {pp : Post Val} : @Wp _ (eval C (Ex.call f es) σ st) pp = (@Wp _ (evals C es σ st) ⟨fun vs s1 => @Wp _ (C f vs s1) pp⟩) := by
  rw [eval_call]
  repeat (refine wpb fun _ _ => ?_)
  try rfl
set_option autoImplicit true in
@[simp ↓] theorem w_eval_callP {C : Calls} {σ : Env} {st : Store} {pp : Post Val} : @Wp _ (eval C (Ex.callP f es perm) σ st) pp = (@Wp _ (evals C es σ st) ⟨fun vs s1 => @Wp _ (C f (perm.filterMap fun i => vs[i]?) s1) pp⟩) := by
  rw [eval_callP]
  repeat (refine wpb fun _ _ => ?_)
  try rfl
set_option autoImplicit true in
@[simp ↓] theorem w_eval_blt {C : Calls} {σ : Env} {st : Store} {pp : Post Val} : @Wp _ (eval C (Ex.blt f es) σ st) pp = (@Wp _ (evals C es σ st) ⟨fun vs s1 => @Wp _ (bltV f vs s1) pp⟩) := by
  rw [eval_blt]
  repeat (refine wpb fun _ _ => ?_)
  try rfl
set_option autoImplicit true in
@[simp ↓] theorem w_eval_mth {C : Calls} {σ : Env} {st : Store} {pp : Post Val} : @Wp _ (eval C (Ex.mth m o es) σ st) pp = (@Wp _ (eval C o σ st) ⟨fun x s1 => @Wp _ (if mthOk m x s1 then (evals C es σ s1).bind fun vs s2 => mthV m x vs s2 else .bad) pp⟩) := by
  rw [eval_mth]
  repeat (refine wpb fun _ _ => ?_)
  try rfl
set_option autoImplicit true in
@[simp ↓] theorem w_eval_isi {C : Calls} {σ : Env} {st : Store} {pp : Post Val} : @Wp _ (eval C (Ex.isi e ts) σ st) pp = (@Wp _ (eval C e σ st) ⟨fun x s1 => @Wp _ (optR (deref s1 x) s1) ⟨fun p s2 => @Wp _ (.ok (.d (.bool (ts.any fun t => p.tyOk t))) s2) pp⟩⟩) := by
  rw [eval_isi]
  repeat (refine wpb fun _ _ => ?_)
  try rfl
set_option autoImplicit true in
@[simp ↓] theorem w_eval_fs {C : Calls} {σ : Env} {st : Store} {pp : Post Val} : @Wp _ (eval C (Ex.fs es) σ st) pp = (@Wp _ (evals C es σ st) ⟨fun vs s1 => @Wp _ (optR (asDs vs) s1) ⟨fun ds s2 => @Wp _ (optR (D.strs ds) s2) ⟨fun ys s3 => @Wp _ (if (ys.map (·.length)).sum ≤ LIM then .ok (.d (.str (joinS "" ys))) s3 else .bad) pp⟩⟩⟩) := by
  rw [eval_fs]
  repeat (refine wpb fun _ _ => ?_)
  try rfl
set_option autoImplicit true in
@[simp ↓] theorem w_eval_comp {C : Calls} {σ : Env} {st : Store} {pp : Post Val} : @Wp _ (eval C (Ex.comp elt tg it cs) σ st) pp = (@Wp _ (eval C it σ st) ⟨fun x s1 => @Wp _ (optR (asD x) s1) ⟨fun p s2 => @Wp _ (optR p.seq s2) ⟨fun xs s3 => @Wp _ (compL (compStep (eval C elt) (conds C cs) tg (wipe σ tg.slots)) xs s3) ⟨fun ys s8 => @Wp _ (.ok (.d (.lst ys)) s8) pp⟩⟩⟩⟩) := by
  rw [eval_comp]
  repeat (refine wpb fun _ _ => ?_)
  try rfl
set_option autoImplicit true in
@[simp ↓] theorem w_evals_nil {C : Calls} {σ : Env} {st : Store} {pp : Post (List Val)} : @Wp _ (evals C ([]) σ st) pp = (@Wp _ (.ok [] st) pp) := by
  rw [evals_nil]
  repeat (refine wpb fun _ _ => ?_)
  try rfl
set_option autoImplicit true in
@[simp ↓] theorem w_evals_cons {C : Calls} {σ : Env} {st : Store} {pp : Post (List Val)} : @Wp _ (evals C (e :: es) σ st) pp = (@Wp _ (eval C e σ st) ⟨fun v s1 => @Wp _ (evals C es σ s1) ⟨fun vs s2 => @Wp _ (.ok (v :: vs) s2) pp⟩⟩) := by
  rw [evals_cons]
  repeat (refine wpb fun _ _ => ?_)
  try rfl
set_option autoImplicit true in
@[simp ↓] theorem w_evalO_none {C : Calls} {σ : Env} {st : Store} {pp : Post (Option Int)} : @Wp _ (evalO C (none) σ st) pp = (@Wp _ (.ok none st) pp) := by
  rw [evalO_none]
  repeat (refine wpb fun _ _ => ?_)
  try rfl
set_option autoImplicit true in
@[simp ↓] theorem w_evalO_some {C : Calls} {σ : Env} {st : Store} {pp : Post (Option Int)} : @Wp _ (evalO C (some e) σ st) pp = (@Wp _ (eval C e σ st) ⟨fun v s1 => @Wp _ (optR (asI v) s1) ⟨fun i s2 => @Wp _ (.ok (some i) s2) pp⟩⟩) := by
  rw [evalO_some]
  repeat (refine wpb fun _ _ => ?_)
  try rfl
set_option autoImplicit true in
@[simp ↓] theorem w_conds_nil {C : Calls} {σ : Env} {st : Store} {pp : Post Bool} : @Wp _ (conds C ([]) σ st) pp = (@Wp _ (.ok true st) pp) := by
  rw [conds_nil]
  repeat (refine wpb fun _ _ => ?_)
  try rfl
set_option autoImplicit true in
@[simp ↓] theorem w_conds_cons {C : Calls} {σ : Env} {st : Store} {pp : Post Bool} : @Wp _ (conds C (e :: es) σ st) pp = (@Wp _ (eval C e σ st) ⟨fun v s1 => @Wp _ (optR (asB v) s1) ⟨fun c s2 => @Wp _ (if c then conds C es σ s2 else .ok false s2) pp⟩⟩) := by
  rw [conds_cons]
  repeat (refine wpb fun _ _ => ?_)
  try rfl
set_option autoImplicit true in
@[simp ↓] theorem w_exec_asg {C : Calls} {σ : Env} {st : Store} {pp : Post Out} : @Wp _ (exec C (Stm.asg t e) σ st) pp = (@Wp _ (eval C e σ st) ⟨fun v s1 => @Wp _ (optR (t.putV v σ) s1) ⟨fun σ1 s2 => @Wp _ (.ok (.nx σ1) s2) pp⟩⟩) := by
  rw [exec_asg]
  repeat (refine wpb fun _ _ => ?_)
  try rfl
set_option autoImplicit true in
@[simp ↓] theorem w_exec_par {C : Calls} {σ : Env} {st : Store} {pp : Post Out} : @Wp _ (exec C (Stm.par i j a b) σ st) pp = (@Wp _ (eval C a σ st) ⟨fun x s1 => @Wp _ (eval C b σ s1) ⟨fun y s2 => @Wp _ (.ok (.nx ((σ.set i (some x)).set j (some y))) s2) pp⟩⟩) := by
  rw [exec_par]
  repeat (refine wpb fun _ _ => ?_)
  try rfl
set_option autoImplicit true in
@[simp ↓] theorem w_exec_set {C : Calls} {σ : Env} {st : Store} {pp : Post Out} : @Wp _ (exec C (Stm.set o i e) σ st) pp = (@Wp _ (eval C e σ st) ⟨fun v s1 => @Wp _ (eval C o σ s1) ⟨fun x s2 => @Wp _ (eval C i σ s2) ⟨fun k s3 => @Wp _ (optR (asD v) s3) ⟨fun d s4 => @Wp _ (optR (setV x k d s4) s4) ⟨fun s5 _ => @Wp _ (.ok (.nx σ) s5) pp⟩⟩⟩⟩⟩) := by
  rw [exec_set]
  repeat (refine wpb fun _ _ => ?_)
  try rfl
set_option autoImplicit true in
@[simp ↓] theorem w_exec_ex {C : Calls} {σ : Env} {st : Store} {pp : Post Out} : @Wp _ (exec C (Stm.ex e) σ st) pp = (@Wp _ (eval C e σ st) ⟨fun _ s1 => @Wp _ (.ok (.nx σ) s1) pp⟩) := by
  rw [exec_ex]
  repeat (refine wpb fun _ _ => ?_)
  try rfl
set_option autoImplicit true in
@[simp ↓] theorem w_exec_ret {C : Calls} {σ : Env} {st : Store} {pp : Post Out} : @Wp _ (exec C (Stm.ret e) σ st) pp = (@Wp _ (eval C e σ st) ⟨fun v s1 => @Wp _ (.ok (.ret v) s1) pp⟩) := by
  rw [exec_ret]
  repeat (refine wpb fun _ _ => ?_)
  try rfl
set_option autoImplicit true in
@[simp ↓] theorem w_exec_ite {C : Calls} {σ : Env} {st : Store} {pp : Post Out} : @Wp _ (exec C (Stm.ite c a b) σ st) pp = (@Wp _ (eval C c σ st) ⟨fun x s1 => @Wp _ (optR (asB x) s1) ⟨fun c s2 => @Wp _ (if c then execs C a σ s2 else execs C b σ s2) pp⟩⟩) := by
  rw [exec_ite]
  repeat (refine wpb fun _ _ => ?_)
  try rfl
set_option autoImplicit true in
@[simp ↓] theorem w_exec_loop {C : Calls} {σ : Env} {st : Store} {pp : Post Out} : @Wp _ (exec C (Stm.loop t it body) σ st) pp = (@Wp _ (eval C it σ st) ⟨fun x s1 => @Wp _ (optR (asD x) s1) ⟨fun p s2 => @Wp _ (optR p.seq s2) ⟨fun xs s3 => @Wp _ (loopL t.putF (execs C body) xs σ s3) pp⟩⟩⟩) := by
  rw [exec_loop]
  repeat (refine wpb fun _ _ => ?_)
  try rfl
set_option autoImplicit true in
@[simp ↓] theorem w_exec_while {C : Calls} {σ : Env} {st : Store} {pp : Post Out} : @Wp _ (exec C (Stm.while c body) σ st) pp = (@Wp _ (whileU (condB (eval C c)) (execs C body) σ st) pp) := by
  rw [exec_while]
  repeat (refine wpb fun _ _ => ?_)
  try rfl
set_option autoImplicit true in
@[simp ↓] theorem w_exec_aug {C : Calls} {σ : Env} {st : Store} {pp : Post Out} : @Wp _ (exec C (Stm.aug i o e) σ st) pp = (@Wp _ (match σ[i]? with
    | some (some x) => (eval C e σ st).bind fun y s1 => (optR (asI x) s1).bind fun p s2 => (optR (asI y) s2).bind fun q s3 => (optR (augI o p q) s3).bind fun r s4 => .ok (.nx (σ.set i (some (.d (.int r))))) s4
    | _ => .bad) pp) := by
  rw [exec_aug]
  repeat (refine wpb fun _ _ => ?_)
  try rfl
set_option autoImplicit true in
@[simp ↓] theorem w_exec_pass {C : Calls} {σ : Env} {st : Store} {pp : Post Out} : @Wp _ (exec C (Stm.pass) σ st) pp = (@Wp _ (.ok (.nx σ) st) pp) := by
  rw [exec_pass]
  repeat (refine wpb fun _ _ => ?_)
  try rfl
set_option autoImplicit true in
@[simp ↓] theorem w_exec_brk {C : Calls} {σ : Env} {st : Store} {pp : Post Out} : @Wp _ (exec C (Stm.brk) σ st) pp = (@Wp _ (.ok (.brk σ) st) pp) := by
  rw [exec_brk]
  repeat (refine wpb fun _ _ => ?_)
  try rfl
set_option autoImplicit true in
@[simp ↓] theorem w_exec_cnt {C : Calls} {σ : Env} {st : Store} {pp : Post Out} : @Wp _ (exec C (Stm.cnt) σ st) pp = (@Wp _ (.ok (.cnt σ) st) pp) := by
  rw [exec_cnt]
  repeat (refine wpb fun _ _ => ?_)
  try rfl
set_option autoImplicit true in
@[simp ↓] theorem w_exec_never {C : Calls} {σ : Env} {st : Store} {pp : Post Out} : @Wp _ (exec C (Stm.never) σ st) pp = (@Wp _ (.bad) pp) := by
  rw [exec_never]
  repeat (refine wpb fun _ _ => ?_)
  try rfl
set_option autoImplicit true in
@[simp ↓] theorem w_execs_nil {C : Calls} {σ : Env} {st : Store} {pp : Post Out} : @Wp _ (execs C ([]) σ st) pp = (@Wp _ (.ok (.nx σ) st) pp) := by
  rw [execs_nil]
  repeat (refine wpb fun _ _ => ?_)
  try rfl
set_option autoImplicit true in
@[simp ↓] theorem w_execs_cons {C : Calls} {σ : Env} {st : Store} {pp : Post Out} : @Wp _ (execs C (s :: r) σ st) pp = (@Wp _ (exec C s σ st) ⟨fun o s1 => @Wp _ (match o with
    | .nx σ1 => execs C r σ1 s1
    | o => .ok o s1) pp⟩) := by
  rw [execs_cons]
  repeat (refine wpb fun _ _ => ?_)
  try rfl
@[simp ↓] theorem w_compL_nil {f : D → Store → Res (Option D)} {st : Store} {p : Post (List D)} : @Wp _ (compL f [] st) p = p.q [] st := rfl
@[simp ↓] theorem w_compL_cons {f : D → Store → Res (Option D)} {x : D} {r : List D} {st : Store} {p : Post (List D)} : @Wp _ (compL f (x :: r) st) p = @Wp _ (f x st) ⟨fun y s1 => @Wp _ (compL f r s1) ⟨fun ys s2 => p.q (match y with | some y => y :: ys | none => ys) s2⟩⟩ := by
  rw [compL]; repeat (refine wpb fun _ _ => ?_)
  rfl
@[simp ↓] theorem w_compStep {f : Env → Store → Res Val} {g : Env → Store → Res Bool} {tg : Tg} {σ : Env} {y : D} {s : Store} {p : Post (Option D)} : @Wp _ (compStep f g tg σ y s) p =
    @Wp _ (optR (tg.put y σ) s) ⟨fun σ1 s4 => @Wp _ (g σ1 s4) ⟨fun b s5 => @Wp _ (if b then (f σ1 s5).bind fun z s6 => (optR (asD z) s6).bind fun d s7 => .ok (some d) s7 else .ok none s5) p⟩⟩ := by
  rw [compStep]; repeat (refine wpb fun _ _ => ?_)
  rfl
@[simp ↓] theorem w_condB {f : Env → Store → Res Val} {σ : Env} {s : Store} {p : Post Bool} : @Wp _ (condB f σ s) p = @Wp _ (f σ s) ⟨fun x s1 => @Wp _ (optR (asB x) s1) p⟩ := by
  rw [condB]; repeat (refine wpb fun _ _ => ?_)
  rfl
@[simp ↓] theorem w_loopL_nil {g : D → Env → Option Env} {f : Env → Store → Res Out} {σ : Env} {st : Store} {p : Post Out} : @Wp _ (loopL g f [] σ st) p = p.q (.nx σ) st := rfl
@[simp ↓] theorem w_loopL_cons {g : D → Env → Option Env} {f : Env → Store → Res Out} {x : D} {r : List D} {σ : Env} {st : Store} {p : Post Out} : @Wp _ (loopL g f (x :: r) σ st) p =
    @Wp _ (optR (g x σ) st) ⟨fun σ1 s1 => @Wp _ (f σ1 s1) ⟨fun o s2 => @Wp _ (match o with
    | .nx σ2 => loopL g f r σ2 s2
    | .cnt σ2 => loopL g f r σ2 s2
    | .brk σ2 => .ok (.nx σ2) s2
    | .ret v => .ok (.ret v) s2) p⟩⟩ := by
  rw [loopL]; repeat (refine wpb fun _ _ => ?_)
  rfl
@[simp ↓] theorem w_runFn {C : Calls} {f : Fn} {vs : List Val} {st : Store} {p : Post Val} : @Wp _ (runFn C f vs st) p = ((vs.length = f.pars ∧ f.pars ≤ f.many) ∧
    @Wp _ (execs C f.body (vs.map some ++ List.replicate (f.many - f.pars) none) st) ⟨fun o s1 => @Wp _ (match o with
      | .nx _ => leave st.length (.d .non) s1
      | .ret v => leave st.length v s1
      | _ => .bad) p⟩) := by
  unfold runFn
  by_cases h : vs.length = f.pars ∧ f.pars ≤ f.many
  · rw [if_pos h, wp_bind]
    simp only [h, true_and]
  · rw [if_neg h]
    simp [h]
/-! ### loops -/
theorem wp_loop {g : D → Env → Option Env} {f : Env → Store → Res Out} {pp : Post Out} (I : List D → Env → Store → Prop)
    (hs : ∀ x xs σ st, I (x :: xs) σ st → ∃ σ1, g x σ = some σ1 ∧ @Wp _ (f σ1 st) ⟨fun o s => match o with
      | .nx σ2 => I xs σ2 s | .cnt σ2 => I xs σ2 s | .brk σ2 => pp.q (.nx σ2) s | .ret v => pp.q (.ret v) s⟩)
    (hz : ∀ σ st, I [] σ st → pp.q (.nx σ) st) : ∀ (xs : List D) (σ : Env) (st : Store), I xs σ st → @Wp _ (loopL g f xs σ st) pp
  | [], σ, st, h => by rw [w_loopL_nil]; exact hz σ st h
  | x :: xs, σ, st, h => by
    obtain ⟨σ1, e, w⟩ := hs x xs σ st h
    rw [w_loopL_cons, e]
    simp only [optR_some, wp_ok]
    refine w.mono fun o s q => ?_
    cases o with
    | nx σ2 => exact wp_loop I hs hz xs σ2 s q
    | cnt σ2 => exact wp_loop I hs hz xs σ2 s q
    | brk σ2 => exact q
    | ret v => exact q
theorem wp_whileW {α : Type} {lt : α → α → Prop} (wf : WellFounded lt) {c : Env → Store → Res Bool} {f : Env → Store → Res Out} {pp : Post Out} (I : α → Env → Store → Prop)
    (hs : ∀ m σ st, I m σ st → @Wp _ (c σ st) ⟨fun b s1 => (b = true → @Wp _ (f σ s1) ⟨fun o s => match o with
      | .nx σ2 => ∃ m', lt m' m ∧ I m' σ2 s | .cnt σ2 => ∃ m', lt m' m ∧ I m' σ2 s | .brk σ2 => pp.q (.nx σ2) s | .ret v => pp.q (.ret v) s⟩) ∧ (b = false → pp.q (.nx σ) s1)⟩)
    (m : α) (σ : Env) (st : Store) (i : I m σ st) : @Wp _ (whileU c f σ st) pp := by
  have key : ∀ m σ st, I m σ st → ∃ n, @Wp _ (whileL c f n σ st) pp := by
    intro m
    induction m using wf.induction with
    | _ m ih =>
      intro σ st i
      obtain ⟨b, s1, e1, q⟩ := wp_iff.mp (hs m σ st i)
      cases b with
      | false => exact ⟨1, by rw [whileL, e1]; exact q.2 rfl⟩
      | true =>
        obtain ⟨o, s2, e2, q2⟩ := wp_iff.mp (q.1 rfl)
        cases o with
        | nx σ2 => obtain ⟨m', hm, i'⟩ := q2; obtain ⟨n, w⟩ := ih m' hm σ2 s2 i'; exact ⟨n + 1, by rw [whileL, e1]; simp only [Res.bind_ok, if_true, e2]; exact w⟩
        | cnt σ2 => obtain ⟨m', hm, i'⟩ := q2; obtain ⟨n, w⟩ := ih m' hm σ2 s2 i'; exact ⟨n + 1, by rw [whileL, e1]; simp only [Res.bind_ok, if_true, e2]; exact w⟩
        | brk σ2 => exact ⟨1, by rw [whileL, e1]; simp only [Res.bind_ok, if_true, e2]; exact q2⟩
        | ret v => exact ⟨1, by rw [whileL, e1]; simp only [Res.bind_ok, if_true, e2]; exact q2⟩
  obtain ⟨n, w⟩ := key m σ st i
  obtain ⟨r, s, e, q⟩ := wp_iff.mp w
  rw [whileU_of e]
  exact q
theorem wp_while {c : Env → Store → Res Bool} {f : Env → Store → Res Out} {pp : Post Out} (I : Nat → Env → Store → Prop)
    (hs : ∀ m σ st, I m σ st → @Wp _ (c σ st) ⟨fun b s1 => (b = true → @Wp _ (f σ s1) ⟨fun o s => match o with
      | .nx σ2 => ∃ m', m' < m ∧ I m' σ2 s | .cnt σ2 => ∃ m', m' < m ∧ I m' σ2 s | .brk σ2 => pp.q (.nx σ2) s | .ret v => pp.q (.ret v) s⟩) ∧ (b = false → pp.q (.nx σ) s1)⟩)
    (m : Nat) (σ : Env) (st : Store) (i : I m σ st) : @Wp _ (whileU c f σ st) pp := wp_whileW Nat.lt_wfRel.wf I hs m σ st i
/-- a comprehension's turns: what is left, what is made so far -/
theorem wp_comp' {f : D → Store → Res (Option D)} {pp : Post (List D)} (I : List D → List D → Store → Prop)
    (hs : ∀ x xs ys st, I (x :: xs) ys st → @Wp _ (f x st) ⟨fun o s => match o with | some y => I xs (ys ++ [y]) s | none => I xs ys s⟩)
    (hz : ∀ ys st, I [] ys st → pp.q ys st) : ∀ (xs ys : List D) (st : Store), I xs ys st → @Wp _ (compL f xs st) ⟨fun zs s => pp.q (ys ++ zs) s⟩
  | [], ys, st, h => by rw [w_compL_nil]; simpa using hz ys st h
  | x :: xs, ys, st, h => by
    have w := hs x xs ys st h
    rw [w_compL_cons]
    refine w.mono fun o s q => ?_
    cases o with
    | none => exact (wp_comp' I hs hz xs ys s q).mono fun zs s' q' => q'
    | some y => exact (wp_comp' I hs hz xs (ys ++ [y]) s q).mono fun zs s' q' => by simpa using q'
theorem wp_comp {f : D → Store → Res (Option D)} {pp : Post (List D)} (I : List D → List D → Store → Prop) {xs : List D} {st : Store} (h0 : I xs [] st)
    (hs : ∀ x xs ys st, I (x :: xs) ys st → @Wp _ (f x st) ⟨fun o s => match o with | some y => I xs (ys ++ [y]) s | none => I xs ys s⟩)
    (hz : ∀ ys st, I [] ys st → pp.q ys st) : @Wp _ (compL f xs st) pp := (wp_comp' I hs hz xs [] st h0).mono fun zs s q => by simpa using q
/-! ### comparisons -/
theorem ci_eq (a b : Int) : D.cmp .eq (.int a) (.int b) = some (decide (a = b)) := by simp [D.cmp, fine, D.dep, D.eqv]; rfl
theorem ci_ne (a b : Int) : D.cmp .ne (.int a) (.int b) = some (!decide (a = b)) := by simp [D.cmp, fine, D.dep, D.eqv]; rfl
theorem ci_lt (a b : Int) : D.cmp .lt (.int a) (.int b) = some (decide (a < b)) := rfl
theorem ci_le (a b : Int) : D.cmp .le (.int a) (.int b) = some (decide (a ≤ b)) := rfl
theorem ci_gt (a b : Int) : D.cmp .gt (.int a) (.int b) = some (decide (a > b)) := rfl
theorem ci_ge (a b : Int) : D.cmp .ge (.int a) (.int b) = some (decide (a ≥ b)) := rfl
theorem cs_eq (a b : String) : D.cmp .eq (.str a) (.str b) = some (decide (a = b)) := by simp [D.cmp, fine, D.dep, D.eqv]
theorem cs_ne (a b : String) : D.cmp .ne (.str a) (.str b) = some (!decide (a = b)) := by simp [D.cmp, fine, D.dep, D.eqv]
theorem cb_eq (a b : Bool) : D.cmp .eq (.bool a) (.bool b) = some (decide (a = b)) := by cases a <;> cases b <;> simp [D.cmp, fine, D.dep, D.eqv]
theorem cb_ne (a b : Bool) : D.cmp .ne (.bool a) (.bool b) = some (!decide (a = b)) := by cases a <;> cases b <;> simp [D.cmp, fine, D.dep, D.eqv]
/-! ### stores -/
/-- all cells of the one stand in the other, but for one -/
def Keep (B : Nat) (st s : Store) : Prop := st.length ≤ s.length ∧ ∀ i, i < st.length → i ≠ B → s[i]? = st[i]?
theorem Keep.refl (B : Nat) (st : Store) : Keep B st st := ⟨Nat.le_refl _, fun _ _ _ => rfl⟩
theorem Keep.trans {B : Nat} {a b c : Store} (h : Keep B a b) (k : Keep B b c) : Keep B a c :=
  ⟨Nat.le_trans h.1 k.1, fun i hi hn => (k.2 i (by have := h.1; omega) hn).trans (h.2 i hi hn)⟩
theorem Keep.take {B : Nat} {a b : Store} (h : Keep B a b) : Keep B a (b.take a.length) :=
  ⟨by have := h.1; simp; omega, fun i hi hn => by rw [List.getElem?_take, if_pos hi]; exact h.2 i hi hn⟩
theorem Keep.set {B : Nat} {a b : Store} (h : Keep B a b) (c : Cell) : Keep B a (b.set B c) :=
  ⟨by simpa using h.1, fun i hi hn => by rw [List.getElem?_set_ne (Ne.symm hn)]; exact h.2 i hi hn⟩
theorem Keep.push {B : Nat} {a b : Store} (h : Keep B a b) (c : Cell) : Keep B a (b ++ [c]) :=
  ⟨by have := h.1; simp; omega, fun i hi hn => by rw [List.getElem?_append_left (by have := h.1; omega)]; exact h.2 i hi hn⟩
theorem Keep.get {B : Nat} {a b : Store} (h : Keep B a b) {i : Nat} {c : Cell} (hc : a[i]? = some c) (hn : i ≠ B) : b[i]? = some c := by
  rw [h.2 i (List.getElem?_eq_some_iff.mp hc).1 hn]; exact hc
theorem Keep.len {B : Nat} {a b : Store} (h : Keep B a b) : (b.take a.length).length = a.length := by have := h.1; simp; omega
/-- what is handed back as data -/
@[simp] theorem leave_d (m : Nat) (x : D) (st : Store) : leave m (.d x) st = .ok (.d x) (st.take m) := rfl
end Ir

namespace Prog
open Ir
def Bag (st : Store) (B : Nat) : Prop := ∃ b, st[B]? = some b ∧ isBag b
/-- the same cells, but for the bag's -/
def Kp (B : Nat) (st s : Store) : Prop := s.length = st.length ∧ ∀ i, i ≠ B → s[i]? = st[i]?
theorem Kp.refl (B : Nat) (st : Store) : Kp B st st := ⟨rfl, fun _ _ => rfl⟩
theorem Kp.trans {B : Nat} {a b c : Store} (h : Kp B a b) (k : Kp B b c) : Kp B a c := ⟨k.1.trans h.1, fun i hn => (k.2 i hn).trans (h.2 i hn)⟩
theorem Kp.keep {B : Nat} {a b : Store} (h : Kp B a b) : Keep B a b := ⟨by rw [h.1]; exact Nat.le_refl _, fun i _ hn => h.2 i hn⟩
theorem Kp.of {B : Nat} {a b : Store} (h : Keep B a b) : Kp B a (b.take a.length) :=
  ⟨h.len, fun i hn => by
    by_cases hi : i < a.length
    · exact h.take.2 i hi hn
    · rw [List.getElem?_eq_none (by rw [h.len]; omega), List.getElem?_eq_none (by omega)]⟩
theorem Kp.take {B : Nat} {a b : Store} (h : Kp B a b) : b.take a.length = b := List.take_of_length_le (by rw [h.1]; exact Nat.le_refl _)
theorem Kp.set {B : Nat} (a : Store) (c : Cell) : Kp B a (a.set B c) := ⟨by simp, fun i hn => List.getElem?_set_ne (Ne.symm hn)⟩
theorem Bag.lt {st : Store} {B : Nat} (h : Bag st B) : B < st.length := let ⟨_, e, _⟩ := h; (List.getElem?_eq_some_iff.mp e).1
theorem Bag.take {s : Store} {B m : Nat} (h : Bag s B) (hm : B < m) : Bag (s.take m) B := let ⟨b, e, i⟩ := h; ⟨b, by rw [List.getElem?_take, if_pos hm]; exact e, i⟩
theorem Bag.push {s : Store} {B : Nat} (h : Bag s B) (c : Cell) : Bag (s ++ [c]) B := let ⟨b, e, i⟩ := h; ⟨b, push_get e c, i⟩
theorem Bag.pushes {s : Store} {B : Nat} (h : Bag s B) (c : Store) : Bag (s ++ c) B := let ⟨b, e, i⟩ := h; ⟨b, by rw [List.getElem?_append_left (List.getElem?_eq_some_iff.mp e).1]; exact e, i⟩
theorem Bag.keep {a s : Store} {B X : Nat} (h : Bag a B) (k : Kp X a s) (hn : B ≠ X) : Bag s B := let ⟨b, e, i⟩ := h; ⟨b, by rw [k.2 B hn]; exact e, i⟩
theorem draw_wp {n : Nat} {st : Store} {B : Nat} {many : Int} {pp : Post Val} (hB : Bag st B) (hm : 0 < many) (hb : bigOk many = true) (hn : 2 ≤ n)
    (k : ∀ d s, 0 ≤ d → d < many → Bag s B → Kp B st s → pp.q (.d (.int d)) s) : @Wp _ (callN T n "_law_draw" [.ref B, .d (.int many)] st) pp := by
  obtain ⟨n, rfl⟩ : ∃ n', n = n' + 2 := ⟨n - 2, by omega⟩
  obtain ⟨b, e, ib⟩ := hB
  obtain ⟨d, b', ⟨d0, d1⟩, ib', e'⟩ := draw_ok T_f_law_draw T_f_law_stirred (n := n) e ib hm hb
  rw [e', wp_ok]
  exact k d _ d0 d1 ⟨b', set_at e b', ib'⟩ (.set st b')
theorem big_of {i : Int} (h0 : 0 ≤ i) (h : i < 2147483647) : bigOk i = true := big_of_small h0 h
theorem bag_wp {n : Nat} {st : Store} {pp : Post Val} (ns : List Int) (hn : 1 ≤ n)
    (k : ∀ s, Bag s st.length → s.length = st.length + 1 → Keep st.length st s → pp.q (.ref st.length) s) : @Wp _ (callN T n "_law_bag" [.d (.ro (ns.map .int))] st) pp := by
  obtain ⟨n, rfl⟩ : ∃ n', n = n' + 1 := ⟨n - 1, by omega⟩
  obtain ⟨b, ib, e⟩ := bag_ok T_f_law_bag (n := n) (st := st) ns
  rw [e, wp_ok]
  exact k _ ⟨b, get_push st b, ib⟩ (by simp) ((Keep.refl _ st).push b)
end Prog

namespace Prog
open Ir
def azS : String := "abcdefghijklmnopqrstuvwxyz"
def wordsL : List String := ["num", "truth", "name", "fn", "rec", "call", "let", "if", "plus", "less", "pair", "first", "second", "nil", "cons", "head", "tail", "none", "off", "true", "false", "int", "bool", "list"]
/-- a name as the pool gives it -/
structure NameOk (x : String) : Prop where
  pos : 1 ≤ x.length
  most : x.length ≤ 8
  az : ∀ c ∈ x.toList, c ∈ azS.toList
  word : x ∉ wordsL
theorem strs_sgn (cs : List Char) : D.strs (cs.map sgn) = some (cs.map String.singleton) := by
  induction cs with
  | nil => rfl
  | cons c cs ih => simp [D.strs, sgn, ih]
theorem joinE (y : String) (ys : List String) : joinS "" (y :: ys) = y ++ joinS "" ys := by cases ys <;> simp [joinS]
theorem join_sgn (cs : List Char) : joinS "" (cs.map String.singleton) = String.ofList cs := by
  induction cs with
  | nil => rfl
  | cons c cs ih =>
    rw [List.map_cons, joinE, ih]
    apply String.toList_inj.mp
    simp
theorem sum_sgn (cs : List Char) : ((cs.map String.singleton).map (·.length)).sum = cs.length := by
  induction cs with
  | nil => rfl
  | cons c cs ih => simp at ih ⊢; omega
theorem join_ok {st : Store} (cs : List Char) (h : cs.length ≤ 1000) : mJoin st (.str "") [.d (.lst (cs.map sgn))] = .ok (.d (.str (String.ofList cs))) st := by
  have hs := sum_sgn cs
  simp only [mJoin, strs_sgn, hs, join_sgn]
  rw [if_pos (by simp only [LIM]; simp; omega)]
theorem lt26 {d : Int} (h : d < 26) : d < (azS.toList.length : Int) := by
  have : azS.toList.length = 26 := by decide
  omega
theorem az_at {d : Int} (h0 : 0 ≤ d) (h1 : d < 26) : ∃ c ∈ azS.toList, D.index (.str azS) (.int d) = some (sgn c) := by
  have hl : azS.length ≤ LIM := by decide
  obtain ⟨c, h2, h3⟩ := atI_nat (xs := azS.toList) h0 (lt26 h1)
  exact ⟨c, List.mem_of_getElem? h2, by simp only [D.index, if_pos hl, h3]; rfl⟩
/-- some letters drawn -/
theorem letters_wp {B n j : Nat} {σ : Env} {st : Store} {pp : Post (List D)} (hn : 2 ≤ n) (hB : Bag st B) (s0 : ∀ x, (σ.set j x)[0]? = some (some (.ref B))) (s1 : ∀ x, (σ.set j x)[1]? = some (some (.d (.str azS)))) (xs : List D)
    (k : ∀ (cs : List Char) s, cs.length = xs.length → (∀ c ∈ cs, c ∈ azS.toList) → Bag s B → Kp B st s → pp.q (cs.map sgn) s) :
    @Wp _ (compL (compStep (eval (callN T n) f_law_pool_c0) (conds (callN T n) []) (.name j) σ) xs st) pp := by
  refine wp_comp (fun zs ys s => ∃ cs : List Char, ys = cs.map sgn ∧ cs.length + zs.length = xs.length ∧ (∀ c ∈ cs, c ∈ azS.toList) ∧ Bag s B ∧ Kp B st s) ⟨[], rfl, by simp, by simp, hB, .refl _ _⟩ ?_ ?_
  · rintro x zs ys s ⟨cs, rfl, hl, hc, hB1, k1⟩
    simp [Tg.put, s0, s1]
    refine draw_wp hB1 (by decide) (by decide +kernel) (by omega) fun d s2 d0 d1 hB2 k2 => ?_
    obtain ⟨c, hc2, e⟩ := az_at d0 d1
    simp [indexV, e, asD]
    refine ⟨cs ++ [c], by simp, by simp at hl ⊢; omega, fun c' h' => ?_, hB2, k1.trans k2⟩
    rcases List.mem_append.mp h' with h' | h'
    · exact hc c' h'
    · simp at h'; rw [h']; exact hc2
  · rintro ys s ⟨cs, rfl, hl, hc, hB1, k1⟩
    exact k cs s (by simpa using hl) hc hB1 k1
theorem mem_strs (x : String) (l : List String) : D.mem (.str x) (.lst (l.map .str)) = some (decide (x ∈ l)) := by
  have hf : fine (.lst (l.map .str)) = true := by
    have : D.depAll (l.map .str) = 0 := by induction l with | nil => rfl | cons y l ih => simp [D.depAll, D.dep, ih]
    simp [fine, D.dep, this]
  have ha : ((l.map D.str).any fun y => y.eqv (.str x)) = decide (x ∈ l) := by
    induction l with
    | nil => rfl
    | cons y l ih =>
      have hf' : fine (.lst (l.map .str)) = true := by
        have : D.depAll (l.map .str) = 0 := by clear ih hf; induction l with | nil => rfl | cons y l ih => simp [D.depAll, D.dep, ih]
        simp [fine, D.dep, this]
      have ih := ih hf'
      simp only [List.map_cons, List.any_cons, D.eqv, ih]
      by_cases e : y = x
      · subst e; simp
      · simp [e, Ne.symm e]
  simp only [D.mem, hf, ha]
  simp [fine, D.dep]
theorem nodupS : ∀ {l V : List String}, l.Nodup → (∀ x ∈ l, x ∈ V) → l.length ≤ V.length
  | [], V, _, _ => Nat.zero_le _
  | x :: l, V, h, hs => by
    have hx := hs x (by simp)
    have h' := List.nodup_cons.mp h
    have := nodupS (V := V.erase x) h'.2 fun y hy => (List.mem_erase_of_ne fun e => h'.1 (by rw [← e]; exact hy)).mpr (hs y (List.mem_cons_of_mem _ hy))
    rw [List.length_erase_of_mem hx] at this
    have : 0 < V.length := List.length_pos_of_mem hx
    simp; omega
/-- letters that end no word -/
def safeL : List Char := ['a', 'b', 'g', 'i', 'j', 'k', 'o', 'p', 'q', 'u', 'v', 'w', 'x', 'y', 'z']
theorem safe_word (cs : List Char) {c : Char} (h : c ∈ safeL) : String.ofList (cs ++ [c]) ∉ wordsL := by
  have key : ∀ w ∈ wordsL, ∀ c ∈ safeL, w.toList.getLast? ≠ some c := by decide
  intro hw
  have := key _ hw c h
  simp at this
def azC (j : Nat) : Char := azS.toList.getD j 'a'
theorem safe_az : ∀ c ∈ safeL, ∃ j, j < 26 ∧ azC j = c := by decide
/-- not all of the 26 are taken -/
theorem some_free {found : List String} (hf : found.length ≤ 8) (cs : List Char) : ¬ ∀ j, j < 26 → (String.ofList (cs ++ [azC j]) ∈ found ∨ String.ofList (cs ++ [azC j]) ∈ wordsL) := by
  intro h
  have hn : (safeL.map fun c => String.ofList (cs ++ [c])).Nodup := by
    have : safeL.Nodup := by decide
    refine List.Pairwise.map _ (fun a b hab e => hab ?_) this
    have := String.ofList_injective e
    simpa using this
  have := nodupS (V := found) hn fun x hx => by
    obtain ⟨c, hc, rfl⟩ := List.mem_map.mp hx
    obtain ⟨j, hj, rfl⟩ := safe_az c hc
    exact (h j hj).resolve_right (safe_word cs hc)
  have h15 : (safeL.map fun c => String.ofList (cs ++ [c])).length = 15 := by simp [safeL]
  omega
def cand (cs : List Char) (j : Nat) : String := String.ofList cs ++ String.singleton (azC j)
theorem cand_eq (cs : List Char) (j : Nat) : cand cs j = String.ofList (cs ++ [azC j]) := by apply String.toList_inj.mp; simp [cand]
theorem cand_len (cs : List Char) (j : Nat) : (cand cs j).length = cs.length + 1 := by rw [cand_eq]; simp
/-- the loop's word -/
def FrI (c : Nat) (found : List String) (cs : List Char) (st : Store) (x0 x3 x4 x5 x7 x11 : Option Val) (m : Nat) (σ : Env) (s : Store) : Prop :=
  s = st ∧ ∃ (x : String) (t : Nat), m + t = 26 ∧ 1 ≤ x.length ∧ x.length ≤ 8 ∧ (∀ c ∈ x.toList, c ∈ azS.toList) ∧ (1 ≤ t → x = cand cs (t - 1)) ∧ (∀ j, j + 1 < t → (cand cs j ∈ found ∨ cand cs j ∈ wordsL)) ∧
    σ = [x0, some (.d (.str azS)), some (.d (.lst (wordsL.map .str))), x3, x4, x5, some (.ref c), x7, some (.d (.str x)), some (.d (.str (String.ofList cs))), some (.d (.int t)), x11]
/-- the loop that looks for a name that is not taken -/
theorem free_wp {n c : Nat} {found : List String} {name : String} {st : Store} {x0 x3 x4 x5 x7 x11 : Option Val} {pp : Post Out} {cs : List Char} (hf : found.length ≤ 8) (hl : cs.length ≤ 7) (hcs : ∀ c ∈ cs, c ∈ azS.toList) (hn1 : 1 ≤ name.length) (hn8 : name.length ≤ 8) (haz : ∀ c ∈ name.toList, c ∈ azS.toList) (hc : st[c]? = some (.lst (found.map .str)))
    (k : ∀ x x9 x10, NameOk x → x ∉ found → pp.q (.nx [x0, some (.d (.str azS)), some (.d (.lst (wordsL.map .str))), x3, x4, x5, some (.ref c), x7, some (.d (.str x)), x9, x10, x11]) st) :
    @Wp _ (whileU (condB (eval (callN T n) f_law_pool_w0)) (execs (callN T n) f_law_pool_b0) [x0, some (.d (.str azS)), some (.d (.lst (wordsL.map .str))), x3, x4, x5, some (.ref c), x7, some (.d (.str name)), some (.d (.str (String.ofList cs))), some (.d (.int 0)), x11] st) pp := by
  refine wp_while (FrI c found cs st x0 x3 x4 x5 x7 x11) ?_ 26 _ _ ⟨rfl, name, 0, rfl, hn1, hn8, haz, by omega, by omega, rfl⟩
  rintro m σ s ⟨rfl, x, t, hm, h1, h8, ha, hx, hb, rfl⟩
  have ew := mem_strs x wordsL
  have ef := mem_strs x found
  have hl26 : azS.toList.length = 26 := by decide
  generalize hW : (wordsL.map D.str) = W at ew k
  generalize hF : (found.map D.str) = F at ef hc
  by_cases hbl : x ∈ found ∨ x ∈ wordsL
  · have all : ∀ j, j < t → (cand cs j ∈ found ∨ cand cs j ∈ wordsL) := fun j hj => by
      by_cases e : j + 1 < t
      · exact hb j e
      · have : j = t - 1 := by omega
        rw [this, ← hx (by omega)]; exact hbl
    have ht : t < 26 := by
      by_cases e : t < 26
      · exact e
      · refine absurd (fun j hj => ?_) (some_free hf cs)
        rw [← cand_eq]
        exact all j (by omega)
    have hi : D.index (.str azS) (.int (t : Int)) = some (.str (String.singleton (azC t))) := by
      have hle : azS.length ≤ LIM := by decide
      obtain ⟨c, h2, h3⟩ := atI_nat (xs := azS.toList) (d := (t : Int)) (by omega) (by omega)
      simp only [D.index, if_pos hle, h3]
      simp only [Int.toNat_natCast] at h2
      simp only [azC, List.getD_eq_getElem?_getD, h2]
      rfl
    have hadd : D.bin .add (.str (String.ofList cs)) (.str (String.singleton (azC t))) = some (.str (cand cs t)) := by
      simp only [D.bin]
      rw [if_pos (by simp [LIM]; omega)]
      rfl
    have hint : D.bin .add (.int (t : Int)) (.int 1) = some (.int ((t : Int) + 1)) := rfl
    have fin : ∃ m', m' < m ∧ FrI c found cs s x0 x3 x4 x5 x7 x11 m' [x0, some (.d (.str azS)), some (.d (.lst W)), x3, x4, x5, some (.ref c), x7, some (.d (.str (cand cs t))), some (.d (.str (String.ofList cs))), some (.d (.int ((t : Int) + 1))), x11] s := by
      refine ⟨m - 1, by omega, rfl, cand cs t, t + 1, by omega, by rw [cand_len]; omega, by rw [cand_len]; omega, fun c hc => ?_, fun _ => by simp, fun j hj => all j (by omega), by rw [hW]; simp⟩
      rw [cand_eq] at hc
      simp at hc
      rcases hc with hc | hc
      · exact hcs c hc
      · rw [hc]
        have : ∀ j, j < 26 → azC j ∈ azS.toList := by decide
        exact this t ht
    generalize String.ofList cs = nm at hadd fin
    generalize azS = az at hi fin
    rcases hbl with hb1 | hb1
    · simp [cmpV, inB, hc, ef, hb1, asB, indexV, hi, deref, hadd, hint, Tg.putV]
      exact fin
    · by_cases hb0 : x ∈ found
      · simp [cmpV, inB, hc, ef, hb0, asB, indexV, hi, deref, hadd, hint, Tg.putV]
        exact fin
      · simp [cmpV, inB, hc, ef, ew, hb0, hb1, asB, indexV, hi, deref, hadd, hint, Tg.putV]
        exact fin
  · have hb1 : x ∉ found := fun h => hbl (.inl h)
    have hb2 : x ∉ wordsL := fun h => hbl (.inr h)
    simp [cmpV, inB, hc, ef, ew, hb1, hb2, asB]
    exact k x _ _ ⟨h1, h8, ha, hb2⟩ hb1
end Prog

namespace Prog
open Ir
theorem range_d {d : Int} {m : Int} (h0 : 0 ≤ m + d) (h1 : m + d ≤ 1000) : D.bRange [.int (m + d)] = some (.lst (rangeL 0 (m + d).toNat)) := by
  have := bRange_nat (n := (m + d).toNat) (by simp only [LIM]; omega)
  rwa [show (((m + d).toNat : Nat) : Int) = m + d by omega] at this
theorem rangeL_len (n : Nat) : (rangeL 0 n).length = n := by simp [rangeL]
theorem sli_ofList (cs : List Char) (lo hi : Option Int) (h : cs.length ≤ 1000) : D.slice (.str (String.ofList cs)) lo hi = some (.str (String.ofList (cut cs lo hi))) := by
  simp only [D.slice]
  rw [if_pos (by simp [LIM]; omega)]
  simp
theorem add_ofList (a b : List Char) (h : a.length + b.length ≤ 1000) : D.bin .add (.str (String.ofList a)) (.str (String.ofList b)) = some (.str (String.ofList (a ++ b))) := by
  simp only [D.bin]
  rw [if_pos (by simp [LIM]; omega)]
  congr 2
  apply String.toList_inj.mp; simp
theorem cut_mem {α : Type} {xs : List α} {lo hi : Option Int} {x : α} (h : x ∈ cut xs lo hi) : x ∈ xs := List.mem_of_mem_drop (List.mem_of_mem_take h)
theorem cut_head {α : Type} (xs : List α) (k : Int) (h : 0 ≤ k) : cut xs none (some k) = xs.take k.toNat := by
  simp only [cut, sIx, List.drop_zero, Nat.sub_zero]
  rw [if_neg (by omega)]
  exact List.take_eq_take_iff.mpr (by simp)
theorem cut_tail {α : Type} (xs : List α) (k : Int) (h : 0 ≤ k) : cut xs (some k) none = xs.drop k.toNat := by
  simp only [cut, sIx]
  rw [if_neg (by omega)]
  apply List.ext_getElem?
  intro i
  simp only [List.getElem?_take, List.getElem?_drop]
  split
  · by_cases c : k.toNat ≤ xs.length
    · rw [Nat.min_eq_left c]
    · rw [List.getElem?_eq_none (by omega), List.getElem?_eq_none (by omega)]
  · rw [List.getElem?_eq_none (by omega)]
/-- the loop's word -/
def PoI (B c : Nat) (st : Store) (style at' : Int) (bs : List Char) (xs : List D) (σ : Env) (s : Store) : Prop :=
  ∃ (found : List String) (x7 x8 x9 x10 x11 : Option Val), σ = [some (.ref B), some (.d (.str azS)), some (.d (.lst (wordsL.map .str))), some (.d (.int style)), some (.d (.str (String.ofList bs))), some (.d (.int at')), some (.ref c), x7, x8, x9, x10, x11] ∧
    4 ≤ found.length + xs.length ∧ found.length + xs.length ≤ 8 ∧ found.Nodup ∧ (∀ x ∈ found, NameOk x) ∧ s[c]? = some (.lst (found.map .str)) ∧ Bag s B ∧ Keep B st s
theorem pool_end {B c n : Nat} {st s : Store} {style at' : Int} {bs cs : List Char} {xs : List D} {found : List String} {x7 x11 : Option Val} {pp : Post Out} (hst : st.length ≤ c) (hbc : B ≠ c) (hcs1 : 1 ≤ cs.length) (hcs : cs.length ≤ 8) (haz : ∀ c ∈ cs, c ∈ azS.toList)
    (h4 : 4 ≤ found.length + (xs.length + 1)) (h8 : found.length + (xs.length + 1) ≤ 8) (nd : found.Nodup) (hok : ∀ x ∈ found, NameOk x) (hc : s[c]? = some (.lst (found.map .str))) (hB : Bag s B) (kp : Keep B st s)
    (k : ∀ σ s, PoI B c st style at' bs xs σ s → pp.q (.nx σ) s) :
    @Wp _ (whileU (condB (eval (callN T n) f_law_pool_w0)) (execs (callN T n) f_law_pool_b0) [some (.ref B), some (.d (.str azS)), some (.d (.lst (wordsL.map .str))), some (.d (.int style)), some (.d (.str (String.ofList bs))), some (.d (.int at')), some (.ref c), x7, some (.d (.str (String.ofList cs))), some (.d (.str (String.ofList (cs.take 7)))), some (.d (.int 0)), x11] s)
      ⟨fun o s1 => @Wp _ (match o with
    | .nx σ1 => execs (callN T n) [.ex (.mth .append (.var 6) [.var 8])] σ1 s1
    | o => .ok o s1) pp⟩ := by
  refine free_wp (by omega) (by simp; omega) (fun c h => haz c (List.mem_of_mem_take h)) (by simpa using hcs1) (by simpa using hcs) (by simpa using haz) hc fun x x9 x10 hx hxf => ?_
  have happ : mAppend c s [.d (.str x)] = .ok (.d .non) (s.set c (.lst (found.map .str ++ [.str x]))) := by
    simp only [mAppend, hc]
    rw [if_pos (by simp [LIM]; omega)]
  simp [mthOk, hc, mthV, happ]
  refine k _ _ ⟨found ++ [x], x7, _, x9, x10, x11, rfl, by simp; omega, by simp; omega, ?_, ?_, ?_, ?_, ?_⟩
  · exact List.nodup_append.mpr ⟨nd, by simp, fun a ha b hb e => by simp at hb; subst hb; exact hxf (e ▸ ha)⟩
  · intro y hy
    rcases List.mem_append.mp hy with hy | hy
    · exact hok y hy
    · simp at hy; rw [hy]; exact hx
  · rw [set_at hc]; simp
  · obtain ⟨b, e, ib⟩ := hB
    exact ⟨b, by rw [List.getElem?_set_ne (Ne.symm hbc)]; exact e, ib⟩
  · exact ⟨by simpa using kp.1, fun i hi hn => by rw [List.getElem?_set_ne (by omega)]; exact kp.2 i hi hn⟩
theorem sli7 (cs : List Char) (h : cs.length ≤ 1000) : D.slice (.str (String.ofList cs)) none (some 7) = some (.str (String.ofList (cs.take 7))) := by rw [sli_ofList _ _ _ h, cut_head _ _ (by decide)]; rfl
theorem sli1 (cs : List Char) (h : cs.length ≤ 1000) : D.slice (.str (String.ofList cs)) none (some 1) = some (.str (String.ofList (cs.take 1))) := by rw [sli_ofList _ _ _ h, cut_head _ _ (by decide)]; rfl
set_option maxHeartbeats 8000000 in
theorem pool_turn {B c n : Nat} {st s : Store} {style at' : Int} {bs : List Char} {x : D} {xs : List D} {σ : Env} {pp : Post Out} (hst : st.length ≤ c) (hbc : B ≠ c) (hn : 2 ≤ n) (hb1 : 1 ≤ bs.length) (hb8 : bs.length ≤ 8) (hbz : ∀ c ∈ bs, c ∈ azS.toList) (ha0 : 0 ≤ at') (ha1 : at' < bs.length)
    (i : PoI B c st style at' bs (x :: xs) σ s) (k : ∀ σ s, PoI B c st style at' bs xs σ s → pp.q (.nx σ) s) : @Wp _ (execs (callN T n) f_law_pool_b1 (σ.set 7 (some (.d x))) s) pp := by
  obtain ⟨found, x7, x8, x9, x10, x11, rfl, h4, h8, nd, hok, hc, hB, kp⟩ := i
  simp only [List.length_cons] at h4 h8
  simp [mthOk]
  refine draw_wp hB (by decide) (by decide +kernel) (by omega) fun d s1 d0 d1 hB1 k1 => ?_
  have hr := range_d (m := 1) (d := d) (by omega) (by omega)
  simp [Tg.putV, Tg.put, Tg.puts, Tg.putF_eq, setAll, Tg.slots, Tg.slotss, wipe, indexV, D.index, atI, ixN, cmpV, deref, asB, asD, asDs, asI, bltV, lenDic, bltD, derefs, D.blt, D.bLen, D.bTuple, D.bList, D.seq, mthV, mthOk, setV, ci_eq, ci_ne, ci_lt, ci_le, ci_gt, ci_ge, cs_eq, cs_ne, cb_eq, cb_ne, D.bin, D.slice, cut, sIx, isNon, hr]
  refine letters_wp (by omega) hB1 (fun x => rfl) (fun x => rfl) _ fun cs s2 hl hz hB2 k2 => ?_
  rw [rangeL_len] at hl
  have hj := join_ok (st := s2) cs (by omega)
  have hc2 : s2[c]? = some (.lst (found.map .str)) := by rw [(k1.trans k2).2 c (Ne.symm hbc)]; exact hc
  have kp2 := kp.trans (k1.trans k2).keep
  by_cases c1 : style = 1
  · have e1 : D.slice (.str (String.ofList bs)) none (some at') = some (.str (String.ofList (bs.take at'.toNat))) := by rw [sli_ofList _ _ _ (by omega), cut_head _ _ ha0]
    have e2 : D.slice (.str (String.ofList bs)) (some (at' + 1)) none = some (.str (String.ofList (bs.drop (at' + 1).toNat))) := by rw [sli_ofList _ _ _ (by omega), cut_tail _ _ (by omega)]
    have e3 := sli1 cs (by omega)
    have e4 := add_ofList (bs.take at'.toNat) (cs.take 1) (by simp; omega)
    have e5 := add_ofList (bs.take at'.toNat ++ cs.take 1) (bs.drop (at' + 1).toNat) (by simp; omega)
    obtain ⟨ns, hns⟩ : ∃ ns, ns = bs.take at'.toNat ++ cs.take 1 ++ bs.drop (at' + 1).toNat := ⟨_, rfl⟩
    rw [← hns] at e5
    have hnl : ns.length = bs.length := by rw [hns]; simp; omega
    have hnz : ∀ c ∈ ns, c ∈ azS.toList := fun c h => by
      rw [hns] at h
      simp only [List.mem_append] at h
      rcases h with (h | h) | h
      · exact hbz c (List.mem_of_mem_take h)
      · exact hz c (List.mem_of_mem_take h)
      · exact hbz c (List.mem_of_mem_drop h)
    have e6 := sli7 ns (by omega)
    have hadd : ∀ a b : Int, D.bin .add (.int a) (.int b) = some (.int (a + b)) := fun _ _ => rfl
    generalize String.ofList (bs.take at'.toNat ++ cs.take 1) = S12 at e4 e5
    generalize String.ofList (bs.take at'.toNat) = S1 at e1 e4
    generalize String.ofList (cs.take 1) = S2 at e3 e4
    generalize String.ofList (bs.drop (at' + 1).toNat) = S3 at e2 e5
    have hs1 : style = 1 := c1
    subst hs1
    simp [mthV, hj, Tg.putV, cmpV, deref, ci_eq, asB, asI, e1, e2, e3, e4, e5, e6, hadd]
    exact pool_end hst hbc (by omega) (by omega) hnz h4 h8 nd hok hc2 hB2 kp2 k
  · by_cases c2 : style = 2
    · have e4 := add_ofList bs cs (by omega)
      have e5' : ∀ e : Int, 0 ≤ e → D.slice (.str (String.ofList (bs ++ cs))) none (some (1 + e)) = some (.str (String.ofList ((bs ++ cs).take (1 + e).toNat))) := fun e he => by rw [sli_ofList _ _ _ (by simp; omega), cut_head _ _ (by omega)]
      generalize String.ofList (bs ++ cs) = S12 at e4 e5'
      have hs2 : style = 2 := c2
      subst hs2
      simp [mthV, hj, Tg.putV, cmpV, deref, ci_eq, asB, e4]
      refine draw_wp hB2 (by decide) (by decide +kernel) (by omega) fun e s3 f0 f1 hB3 k3 => ?_
      have hc3 : s3[c]? = some (.lst (found.map .str)) := by rw [k3.2 c (Ne.symm hbc)]; exact hc2
      have hadd : ∀ a b : Int, D.bin .add (.int a) (.int b) = some (.int (a + b)) := fun _ _ => rfl
      have e5 := e5' e f0
      obtain ⟨ns, hns⟩ : ∃ ns, ns = (bs ++ cs).take (1 + e).toNat := ⟨_, rfl⟩
      rw [← hns] at e5
      have hnl : 1 ≤ ns.length ∧ ns.length ≤ 8 := by rw [hns]; simp; omega
      have hnz : ∀ c ∈ ns, c ∈ azS.toList := fun c h => by
        rw [hns] at h
        rcases List.mem_append.mp (List.mem_of_mem_take h) with h | h
        · exact hbz c h
        · exact hz c h
      have e6 := sli7 ns (by omega)
      simp [deref, asI, hadd, e5, e6, Tg.putV]
      exact pool_end hst hbc (by omega) (by omega) hnz h4 h8 nd hok hc3 hB3 (kp2.trans k3.keep) k
    · have e6 := sli7 cs (by omega)
      simp [mthV, hj, Tg.putV, cmpV, deref, ci_eq, asB, c1, c2, asI, e6]
      exact pool_end hst hbc (by omega) (by omega) hz h4 h8 nd hok hc2 hB2 kp2 k
set_option maxHeartbeats 8000000 in
theorem pool_wp {n B : Nat} {st : Store} {pp : Post Val} (hB : Bag st B) (hn : 3 ≤ n)
    (k : ∀ (xs : List String) s, 4 ≤ xs.length → xs.length ≤ 8 → xs.Nodup → (∀ x ∈ xs, NameOk x) → Bag s B → Kp B st s → pp.q (.d (.lst (xs.map .str))) s) : @Wp _ (callN T n "_law_pool" [.ref B] st) pp := by
  obtain ⟨n, rfl⟩ : ∃ n', n = n' + 1 := ⟨n - 1, by omega⟩
  rw [callN_run T_f_law_pool]
  simp [Tg.putV, Tg.put, Tg.puts, Tg.putF_eq, setAll, Tg.slots, Tg.slotss, wipe, indexV, D.index, atI, ixN, cmpV, deref, asB, asD, asDs, asI, bltV, lenDic, bltD, derefs, D.blt, D.bLen, D.bTuple, D.bList, D.seq, mthV, mthOk, setV, ci_eq, ci_ne, ci_lt, ci_le, ci_gt, ci_ge, cs_eq, cs_ne, cb_eq, cb_ne, D.bin, D.slice, cut, sIx, isNon, f_law_pool]
  refine ⟨?_, by simp [LIM]⟩
  intro _
  refine draw_wp hB (by decide) (by decide +kernel) (by omega) fun style s1 _ _ hB1 k1 => ?_
  simp [Tg.putV, Tg.put, Tg.puts, Tg.putF_eq, setAll, Tg.slots, Tg.slotss, wipe, indexV, D.index, atI, ixN, cmpV, deref, asB, asD, asDs, asI, bltV, lenDic, bltD, derefs, D.blt, D.bLen, D.bTuple, D.bList, D.seq, mthV, mthOk, setV, ci_eq, ci_ne, ci_lt, ci_le, ci_gt, ci_ge, cs_eq, cs_ne, cb_eq, cb_ne, D.bin, D.slice, cut, sIx, isNon]
  refine draw_wp hB1 (by decide) (by decide +kernel) (by omega) fun d s2 d0 d1 hB2 k2 => ?_
  have hr := range_d (m := 1) (d := d) (by omega) (by omega)
  simp [Tg.putV, Tg.put, Tg.puts, Tg.putF_eq, setAll, Tg.slots, Tg.slotss, wipe, indexV, D.index, atI, ixN, cmpV, deref, asB, asD, asDs, asI, bltV, lenDic, bltD, derefs, D.blt, D.bLen, D.bTuple, D.bList, D.seq, mthV, mthOk, setV, ci_eq, ci_ne, ci_lt, ci_le, ci_gt, ci_ge, cs_eq, cs_ne, cb_eq, cb_ne, D.bin, D.slice, cut, sIx, isNon, hr]
  refine letters_wp (by omega) hB2 (fun x => rfl) (fun x => rfl) _ fun bs s3 hl hz hB3 k3 => ?_
  rw [rangeL_len] at hl
  have hj := join_ok (st := s3) bs (by omega)
  have hlen : D.bLen [.str (String.ofList bs)] = some (.int bs.length) := by
    simp only [D.bLen]
    rw [if_pos (by simp [LIM]; omega)]
    simp
  have hbL : bs.length ≤ LIM := by simp only [LIM]; omega
  simp [mthV, hj, Tg.putV, bltV, lenDic, bltD, derefs, deref, D.blt, hlen, hbL]
  have hbp : (0 : Int) < (bs.length : Int) := by omega
  have hbb : bigOk (bs.length : Int) = true := big_of (by omega) (by omega)
  refine draw_wp (many := (bs.length : Int)) hB3 hbp hbb (by omega) fun at' s4 a0 a1 hB4 k4 => ?_
  simp [Tg.putV, Tg.put, Tg.puts, Tg.putF_eq, setAll, Tg.slots, Tg.slotss, wipe, indexV, D.index, atI, ixN, cmpV, deref, asB, asD, asDs, asI, bltV, lenDic, bltD, derefs, D.blt, D.bLen, D.bTuple, D.bList, D.seq, mthV, mthOk, setV, ci_eq, ci_ne, ci_lt, ci_le, ci_gt, ci_ge, cs_eq, cs_ne, cb_eq, cb_ne, D.bin, D.slice, cut, sIx, isNon]
  refine draw_wp (hB4.push _) (by decide) (by decide +kernel) (by omega) fun m s5 m0 m1 hB5 k5 => ?_
  have hr2 := range_d (m := 4) (d := m) (by omega) (by omega)
  simp [Tg.putV, Tg.put, Tg.puts, Tg.putF_eq, setAll, Tg.slots, Tg.slotss, wipe, indexV, D.index, atI, ixN, cmpV, deref, asB, asD, asDs, asI, bltV, lenDic, bltD, derefs, D.blt, D.bLen, D.bTuple, D.bList, D.seq, mthV, mthOk, setV, ci_eq, ci_ne, ci_lt, ci_le, ci_gt, ci_ge, cs_eq, cs_ne, cb_eq, cb_ne, D.bin, D.slice, cut, sIx, isNon, hr2]
  have kk := ((k1.trans k2).trans k3).trans k4
  have hBl := hB.lt
  have h4l := kk.1
  refine wp_loop (PoI B s4.length st style at' bs) ?_ ?_ _ _ _ ⟨[], none, none, none, none, none, rfl, by simp [rangeL]; omega, by simp [rangeL]; omega, by simp, by simp, by rw [k5.2 _ (by omega), get_push]; rfl, hB5, (kk.keep.push _).trans k5.keep⟩
  · intro x xs σ s i
    obtain ⟨found, x7, x8, x9, x10, x11, e, rest⟩ := id i
    refine ⟨σ.set 7 (some (.d x)), rfl, ?_⟩
    exact pool_turn (by omega) (by omega) (by omega) (by omega) (by omega) hz a0 a1 i fun σ s q => q
  · rintro σ s ⟨found, x7, x8, x9, x10, x11, rfl, h4, h8, nd, hok, hc, hB6, kp⟩
    simp only [List.length_nil, Nat.add_zero] at h4 h8
    simp [hc]
    have kp2 : Keep B st (s.set s4.length .dead) := ⟨by simpa using kp.1, fun i hi hn => by rw [List.getElem?_set_ne (by omega)]; exact kp.2 i hi hn⟩
    have hB7 : Bag (s.set s4.length .dead) B := by
      obtain ⟨b, e, ib⟩ := hB6
      exact ⟨b, by rw [List.getElem?_set_ne (by omega)]; exact e, ib⟩
    exact k found _ h4 h8 nd hok (hB7.take hBl) (.of kp2)
theorem names_wp {n B : Nat} {st : Store} {pp : Post Val} (hB : Bag st B) (hn : 4 ≤ n)
    (k : ∀ (x y z : String) s, x ≠ y → x ≠ z → y ≠ z → NameOk x → NameOk y → NameOk z → Bag s B → Kp B st s → pp.q (.d (.lst [.str x, .str y, .str z])) s) : @Wp _ (callN T n "_law_names" [.ref B] st) pp := by
  obtain ⟨n, rfl⟩ : ∃ n', n = n' + 1 := ⟨n - 1, by omega⟩
  rw [callN_run T_f_law_names]
  simp [f_law_names]
  refine pool_wp hB (by omega) fun xs s h4 h8 nd hok hB1 k1 => ?_
  match xs, h4, nd, hok with
  | x :: y :: z :: w :: r, _, nd, hok =>
    have hs : D.slice (.lst ((x :: y :: z :: w :: r).map .str)) none (some 3) = some (.lst [.str x, .str y, .str z]) := by
      simp only [D.slice]; rw [cut_head _ _ (by decide)]; rfl
    simp [deref, asI] at hs ⊢
    simp [hs, k1.take]
    simp only [List.nodup_cons, List.mem_cons, not_or] at nd
    exact k x y z s nd.1.1 nd.1.2.1 nd.2.1.1 (hok x (by simp)) (hok y (by simp)) (hok z (by simp)) hB1 k1
end Prog

namespace Prog
open Ir
/-! ### programs -/
inductive Pg where
  | num (i : Int) | truth (b : Bool) | name (x : String) | nil | off (p : Pg)
  | one (h : String) (xs : List String) (p : Pg) | two (h : String) (xs : List String) (p q : Pg) | thr (h : String) (xs : List String) (p q r : Pg)
def Pg.d : Pg → D
  | .num i => .tup [.str "num", .int i]
  | .truth b => .tup [.str "truth", .bool b]
  | .name x => .tup [.str "name", .str x]
  | .nil => .tup [.str "nil"]
  | .off p => .tup [.str "off", p.d]
  | .one h xs p => .tup (.str h :: (xs.map .str ++ [p.d]))
  | .two h xs p q => .tup (.str h :: (xs.map .str ++ [p.d, q.d]))
  | .thr h xs p q r => .tup (.str h :: (xs.map .str ++ [p.d, q.d, r.d]))
/-- tuples in all -/
def Pg.sz : Pg → Nat
  | .num _ | .truth _ | .name _ | .nil => 1
  | .off p => p.sz + 1
  | .one _ _ p => p.sz + 1
  | .two _ _ p q => p.sz + q.sz + 1
  | .thr _ _ p q r => p.sz + q.sz + r.sz + 1
/-- how deep -/
def Pg.h : Pg → Nat
  | .num _ | .truth _ | .name _ | .nil => 0
  | .off p => p.h + 1
  | .one _ _ p => p.h + 1
  | .two _ _ p q => max p.h q.h + 1
  | .thr _ _ p q r => max p.h (max q.h r.h) + 1
theorem Pg.sz_pos (p : Pg) : 1 ≤ p.sz := by cases p <;> simp [Pg.sz]
/-- the words with parts -/
def HdOk (h : String) : Prop := h ∉ ["off", "truth", "num", "name", "nil"] ∧ h.length ≤ 8
def Pg.fit : Pg → Prop
  | .num i => i.natAbs < 10 ^ 60
  | .name x => x.length ≤ 8
  | .truth _ | .nil => True
  | .off p => p.fit
  | .one h xs p => HdOk h ∧ xs.length ≤ 2 ∧ (∀ x ∈ xs, x.length ≤ 8) ∧ p.fit
  | .two h xs p q => HdOk h ∧ xs.length ≤ 2 ∧ (∀ x ∈ xs, x.length ≤ 8) ∧ p.fit ∧ q.fit
  | .thr h xs p q r => HdOk h ∧ xs.length ≤ 2 ∧ (∀ x ∈ xs, x.length ≤ 8) ∧ p.fit ∧ q.fit ∧ r.fit
def nodeD (h : String) (xs : List String) (ps : List Pg) : D := .tup (.str h :: (xs.map .str ++ ps.map Pg.d))
/-- a program as it is written -/
def Pg.txt : Pg → String
  | .num i => toString i
  | .truth b => if b then "true" else "false"
  | .name x => x
  | .nil => "nil"
  | .off p => "?" ++ p.txt
  | .one h xs p => "(" ++ joinS " " (h :: (xs ++ [p.txt])) ++ ")"
  | .two h xs p q => "(" ++ joinS " " (h :: (xs ++ [p.txt, q.txt])) ++ ")"
  | .thr h xs p q r => "(" ++ joinS " " (h :: (xs ++ [p.txt, q.txt, r.txt])) ++ ")"
theorem joinS_len (a : String) : ∀ ys : List String, (joinS a ys).length ≤ (ys.map (·.length)).sum + ys.length * a.length
  | [] => by simp [joinS]
  | [x] => by simp [joinS]
  | x :: y :: r => by
    have := joinS_len a (y :: r)
    simp only [joinS, String.length_append, List.map_cons, List.sum_cons, List.length_cons, Nat.add_mul] at this ⊢
    omega
theorem sum_le {k : Nat} : ∀ ys : List String, (∀ y ∈ ys, y.length ≤ k) → (ys.map (·.length)).sum ≤ ys.length * k
  | [], _ => by simp
  | y :: ys, h => by
    have := sum_le ys fun z hz => h z (List.mem_cons_of_mem _ hz)
    have := h y (by simp)
    simp only [List.map_cons, List.sum_cons, List.length_cons, Nat.add_mul]
    omega
theorem log_60 {i : Int} (h : i.natAbs < 10 ^ 60) : i.natAbs.log2 < 1920 := by
  by_cases c : i.natAbs = 0
  · rw [c]; decide
  · exact (Nat.log2_lt c).mpr (Nat.lt_trans h (by decide +kernel))
theorem digits_len : ∀ (k n : Nat), n < 10 ^ (k + 1) → (Nat.toDigits 10 n).length ≤ k + 1 := by
  intro k
  induction k with
  | zero => intro n h; rw [Nat.toDigits_of_lt_base (by simpa using h)]; simp
  | succ k ih =>
    intro n h
    by_cases c : n < 10
    · rw [Nat.toDigits_of_lt_base c]; simp
    · rw [Nat.toDigits_of_base_le (by decide) (by omega)]
      have := ih (n / 10) (by rw [Nat.pow_succ] at h; omega)
      simp; omega
theorem str_60 {i : Int} (h : i.natAbs < 10 ^ 60) : (toString i).length ≤ 61 := by
  have hd : ∀ n : Nat, n < 10 ^ 60 → (toString n).length ≤ 60 := fun n hn => by
    have := digits_len 59 n hn
    show (Nat.repr n).length ≤ 60
    simp only [Nat.repr, String.length_ofList]
    exact this
  cases i with
  | ofNat n => have := hd n (by simpa using h); show (toString n).length ≤ 61; omega
  | negSucc n =>
    have := hd (n + 1) (by simpa using h)
    show ("-" ++ toString (n + 1)).length ≤ 61
    rw [String.length_append]
    have : "-".length = 1 := by decide
    omega
end Prog

namespace Prog
open Ir
theorem node_len {h : String} {xs ts : List String} {S : Nat} (hh : HdOk h) (h2 : xs.length ≤ 2) (hx : ∀ x ∈ xs, x.length ≤ 8) (h3 : ts.length ≤ 3) (hs : (ts.map (·.length)).sum ≤ S) : ("(" ++ joinS " " (h :: (xs ++ ts)) ++ ")").length ≤ S + 50 ∧ ((h :: (xs ++ ts)).map (·.length)).sum + (h :: (xs ++ ts)).length * " ".length ≤ S + 40 := by
  have e1 := joinS_len " " (h :: (xs ++ ts))
  have e2 := sum_le xs hx
  have e3 := hh.2
  have l1 : " ".length = 1 := by decide
  have l2 : "(".length = 1 := by decide
  have l3 : ")".length = 1 := by decide
  simp only [List.map_cons, List.map_append, List.sum_cons, List.sum_append, List.length_cons, List.length_append, l1, Nat.mul_one] at e1 ⊢
  simp only [String.length_append, l2, l3]
  omega
theorem Pg.txt_len : ∀ p : Pg, p.fit → p.txt.length ≤ 100 * p.sz
  | .num i, h => by have := str_60 h; simp only [Pg.txt, Pg.sz]; omega
  | .truth b, _ => by cases b <;> simp [Pg.txt, Pg.sz] <;> decide
  | .name x, h => by simp only [Pg.fit] at h; simp only [Pg.txt, Pg.sz]; omega
  | .nil, _ => by simp only [Pg.txt, Pg.sz]; decide
  | .off p, h => by
    have := p.txt_len h
    have l : "?".length = 1 := by decide
    simp only [Pg.txt, Pg.sz, String.length_append, l]; omega
  | .one h xs p, ⟨h1, h2, h3, hp⟩ => by
    have := p.txt_len hp
    have := (node_len (ts := [p.txt]) (S := p.txt.length) h1 h2 h3 (by simp) (by simp)).1
    simp only [Pg.txt, Pg.sz]; omega
  | .two h xs p q, ⟨h1, h2, h3, hp, hq⟩ => by
    have := p.txt_len hp
    have := q.txt_len hq
    have := (node_len (ts := [p.txt, q.txt]) (S := p.txt.length + q.txt.length) h1 h2 h3 (by simp) (by simp)).1
    simp only [Pg.txt, Pg.sz]; omega
  | .thr h xs p q r, ⟨h1, h2, h3, hp, hq, hr⟩ => by
    have := p.txt_len hp
    have := q.txt_len hq
    have := r.txt_len hr
    have := (node_len (ts := [p.txt, q.txt, r.txt]) (S := p.txt.length + q.txt.length + r.txt.length) h1 h2 h3 (by simp) (by simp; omega)).1
    simp only [Pg.txt, Pg.sz]; omega
theorem strs_map (ys : List String) : D.strs (ys.map .str) = some ys := by induction ys with | nil => rfl | cons y ys ih => simp [D.strs, ih]
theorem Pg.not_str (p : Pg) : p.d.tyOk .str = false := by cases p <;> rfl
/-- the parts' texts -/
theorem comp_txt {f : String} {C : Calls} {σ : Env} {j : Nat} {st : Store} {elt : Ex} (ps : List Pg) (hj : j < σ.length) (he : elt = .ite (.isi (.var j) [.str]) (.var j) (.call f [.var j])) (hp : ∀ p ∈ ps, C f [.d p.d] st = .ok (.d (.str p.txt)) st) : ∀ xs : List String,
    compL (compStep (eval C elt) (conds C []) (.name j) σ) (xs.map .str ++ ps.map Pg.d) st = .ok ((xs ++ ps.map Pg.txt).map .str) st
  | [] => by
    simp only [List.map_nil, List.nil_append]
    induction ps with
    | nil => simp [compL]
    | cons p ps ih =>
      have e := ih fun q hq => hp q (List.mem_cons_of_mem _ hq)
      have g : (σ.set j (some (.d p.d)))[j]? = some (some (.d p.d)) := List.getElem?_set_self hj
      have e1 := hp p (by simp)
      subst he
      simp [compL, compStep, Tg.put, g, deref, Pg.not_str, asB, e1, asD]
      simp at e
      rw [e]; simp
  | x :: xs => by
    have e := comp_txt ps hj he hp xs
    have g : (σ.set j (some (.d (.str x))))[j]? = some (some (.d (.str x))) := List.getElem?_set_self hj
    subst he
    simp [compL, compStep, Tg.put, g, deref, D.tyOk, asB, asD]
    simp at e
    rw [e]; simp
theorem hd_ne {h : String} (hh : HdOk h) : h ≠ "off" ∧ h ≠ "truth" ∧ h ≠ "num" ∧ h ≠ "name" ∧ h ≠ "nil" := by
  have := hh.1
  simp only [List.mem_cons, List.not_mem_nil, or_false, not_or] at this
  exact ⟨this.1, this.2.1, this.2.2.1, this.2.2.2.1, this.2.2.2.2⟩
set_option maxHeartbeats 4000000 in
theorem ptext_node {n : Nat} {st : Store} {h : String} {xs : List String} {ps : List Pg} (hh : HdOk h) (h2 : xs.length ≤ 2) (hx : ∀ x ∈ xs, x.length ≤ 8) (h3 : ps.length ≤ 3) (hs : ((ps.map Pg.txt).map (·.length)).sum ≤ 1000000) (hp : ∀ p ∈ ps, callN T n "program_text" [.d p.d] st = .ok (.d (.str p.txt)) st) :
    callN T (n + 1) "program_text" [.d (nodeD h xs ps)] st = .ok (.d (.str ("(" ++ joinS " " (h :: (xs ++ ps.map Pg.txt)) ++ ")"))) st := by
  obtain ⟨n1, n2, n3, n4, n5⟩ := hd_ne hh
  obtain ⟨b1, b2⟩ := node_len (ts := ps.map Pg.txt) hh h2 hx (by simpa using h3) hs
  have ec := comp_txt (f := "program_text") (C := callN T n) (st := st) (j := 3) (elt := f_program_text_c0) (σ := [some (.d (nodeD h xs ps)), some (.d (.str h)), some (.d (.lst (xs.map .str ++ ps.map Pg.d))), none]) ps (by simp) rfl hp xs
  have hj : ∀ st, mJoin st (.str " ") [.d (.lst (.str h :: (xs ++ ps.map Pg.txt).map .str))] = .ok (.d (.str (joinS " " (h :: (xs ++ ps.map Pg.txt))))) st := fun st => by
    have e := strs_map (h :: (xs ++ ps.map Pg.txt))
    simp only [List.map_cons] at e
    simp only [mJoin, e]
    rw [if_pos (by simp only [LIM]; omega)]
  generalize xs ++ ps.map Pg.txt = ts at *
  have jl : (joinS " " (h :: ts)).length ≤ 1000100 := by rw [String.length_append, String.length_append] at b1; omega
  have ha1 : D.bin .add (.str "(") (.str (joinS " " (h :: ts))) = some (.str ("(" ++ joinS " " (h :: ts))) := by
    simp only [D.bin]; rw [if_pos]; have : "(".length = 1 := by decide
    simp only [LIM]; omega
  have ha2 : D.bin .add (.str ("(" ++ joinS " " (h :: ts))) (.str ")") = some (.str ("(" ++ joinS " " (h :: ts) ++ ")")) := by
    simp only [D.bin]; rw [if_pos]; have : "(".length = 1 := by decide
    have : ")".length = 1 := by decide
    simp only [LIM, String.length_append]; omega
  have hl : D.bin .add (.lst [.str h]) (.lst (ts.map .str)) = some (.lst (.str h :: ts.map .str)) := by
    have htl : ts.length ≤ 1000100 := by
      have : (h :: ts).length * " ".length ≤ 1000040 := by omega
      have l1 : " ".length = 1 := by decide
      rw [l1] at this; simp at this; omega
    simp only [D.bin]; rw [if_pos (by simp [LIM]; omega)]; rfl
  have hm : D.mem (.str h) (.tup [.str "num", .str "name"]) = some false := by
    simp [D.mem, flat, D.eqv, Ne.symm n3, Ne.symm n4]
  rw [callN_run T_f_program_text]
  simp only [nodeD] at ec ⊢
  generalize (xs.map D.str ++ ps.map Pg.d) = L at ec ⊢
  simp [runFn, f_program_text, Tg.putV, Tg.put, D.seq, setAll, cmpV, deref, cs_eq, n1, n2, n5, asB, inB, hm, asDs, asD, mthOk, Tg.slots, wipe, ec, hl, mthV, hj, ha1, ha2, leave, take_all]
end Prog

namespace Prog
open Ir
theorem pick_str {xs : List String} {d : Int} (h0 : 0 ≤ d) (h1 : d < xs.length) : ∃ x, x ∈ xs ∧ D.index (.lst (xs.map .str)) (.int d) = some (.str x) := by
  obtain ⟨y, hy, hy2⟩ := atI_nat (xs := xs.map D.str) h0 (by simpa using h1)
  rw [List.getElem?_map] at hy
  obtain ⟨x, hx, rfl⟩ := Option.map_eq_some_iff.mp hy
  exact ⟨x, List.mem_of_getElem? hx, by simp only [D.index]; exact hy2⟩
theorem depAll_str (l : List String) : D.depAll (l.map .str) = 0 := by induction l with | nil => rfl | cons y l ih => simp [D.depAll, D.dep, ih]
theorem ne_strs (l : List String) : D.cmp .ne (.lst (l.map .str)) (.lst []) = some (!l.isEmpty) := by
  have h1 : fine (.lst (l.map .str)) = true := by simp [fine, D.dep, depAll_str]
  have h2 : fine (.lst []) = true := by simp [fine, D.dep, D.depAll]
  cases l <;> simp [D.cmp, h1, h2, D.eqv, D.eqvAll]
  simpa using h1
theorem len_strs (l : List String) : D.bLen [.lst (l.map .str)] = some (.int l.length) := by simp [D.bLen]
/-- names that are bound -/
def EnvOk (env : List String) : Prop := ∀ x ∈ env, x.length ≤ 8
set_option maxHeartbeats 4000000 in
theorem atom_wp {n B : Nat} {st : Store} {env : List String} {pp : Post Val} (hB : Bag st B) (he : EnvOk env) (hl : env.length ≤ 1000) (hn : 3 ≤ n)
    (k : ∀ (p : Pg) s, p.fit → p.sz = 1 → p.h = 0 → Bag s B → Kp B st s → pp.q (.d p.d) s) : @Wp _ (callN T n "_law_atom" [.ref B, .d (.lst (env.map .str))] st) pp := by
  obtain ⟨n, rfl⟩ : ∃ n', n = n' + 1 := ⟨n - 1, by omega⟩
  have hp10 : bigOk 10 = true := pow_lits.1
  have hp60 : bigOk (10 ^ 60) = true := pow_lits.2.1
  have hne := ne_strs env
  have hlen := len_strs env
  rw [callN_run T_f_law_atom]
  simp [f_law_atom]
  refine draw_wp hB (by decide) (by decide +kernel) (by omega) fun w s1 w0 w1 hB1 k1 => ?_
  have rest : @Wp _ (execs (callN T n) (f_law_atom.body.drop 2) [some (.ref B), some (.d (.lst (env.map .str))), some (.d (.int w))] s1) ⟨fun o s1 => @Wp _ (match o with
      | .nx _ => leave st.length (.d .non) s1
      | .ret v => leave st.length v s1
      | _ => .bad) pp⟩ := by
    simp [f_law_atom, cmpV, deref, ci_lt, ci_eq, asB]
    refine ⟨fun c => ?_, fun c => ⟨fun c2 => ?_, fun c2 => ?_⟩⟩
    · refine draw_wp hB1 (by decide) (by decide +kernel) (by omega) fun a s2 a0 a1 hB2 k2 => ?_
      simp
      refine draw_wp hB2 (by decide) (by decide +kernel) (by omega) fun b s3 b0 b1 hB3 k3 => ?_
      simp [deref, D.bin, hp10]
      refine draw_wp hB3 (by decide) hp60 (by omega) fun c' s4 c0 c1 hB4 k4 => ?_
      simp [asDs]
      refine draw_wp hB4 (by decide) (by decide +kernel) (by omega) fun d s5 d0 d1 hB5 k5 => ?_
      have kk := (((k1.trans k2).trans k3).trans k4).trans k5
      have : d = 0 ∨ d = 1 ∨ d = 2 := by omega
      have hbig : (1000 : Nat) < 10 ^ 60 := by decide
      rcases this with rfl | rfl | rfl
      · simp [indexV, D.index, atI, ixN, asDs, kk.take]
        exact k (.num a) s5 (by show a.natAbs < 10 ^ 60; omega) rfl rfl hB5 kk
      · simp [indexV, D.index, atI, ixN, asDs, kk.take]
        exact k (.num (-b)) s5 (by show (-b).natAbs < 10 ^ 60; omega) rfl rfl hB5 kk
      · simp [indexV, D.index, atI, ixN, asDs, kk.take]
        exact k (.num c') s5 (by
          show c'.natAbs < 10 ^ 60
          have h2 : ((c'.natAbs : Nat) : Int) < ((10 ^ 60 : Nat) : Int) := by rw [show ((10 ^ 60 : Nat) : Int) = (10 : Int) ^ 60 by decide]; omega
          exact Int.ofNat_lt.mp h2) rfl rfl hB5 kk
    · refine draw_wp hB1 (by decide) (by decide +kernel) (by omega) fun b s2 b0 b1 hB2 k2 => ?_
      have kk := k1.trans k2
      simp [deref, ci_eq, asDs, kk.take]
      exact k (.truth _) s2 trivial rfl rfl hB2 kk
    · simp [asDs, k1.take]
      exact k .nil s1 trivial rfl rfl hB1 k1
  simp [f_law_atom, Tg.putV, cmpV, deref, ci_lt, asB, asDs, hne] at rest
  simp [Tg.putV, cmpV, deref, ci_lt, asB, asDs, hne]
  refine ⟨fun c => ⟨fun c2 => ?_, fun c2 => ?_⟩, fun c => ?_⟩
  · have hel : 0 < env.length := by cases env <;> simp_all
    simp [bltV, lenDic, bltD, derefs, deref, D.blt, hlen]
    refine draw_wp (many := (env.length : Int)) hB1 (by omega) (big_of (by omega) (by omega)) (by omega) fun d s2 d0 d1 hB2 k2 => ?_
    obtain ⟨x, hx, e⟩ := pick_str d0 d1
    simp [indexV, e, asDs, (k1.trans k2).take]
    exact k (.name x) s2 (he x hx) rfl rfl hB2 (k1.trans k2)
  · exact rest
  · exact rest
def Pg.szs : List Pg → Nat
  | [] => 0
  | p :: ps => p.sz + Pg.szs ps
theorem szs_snoc (ps : List Pg) (p : Pg) : Pg.szs (ps ++ [p]) = Pg.szs ps + p.sz := by
  induction ps with
  | nil => simp [Pg.szs]
  | cons q ps ih => simp [Pg.szs, ih]; omega
/-- a node of one to three parts -/
theorem node_of {h : String} {xs : List String} {ps : List Pg} {S H : Nat} (h1 : 1 ≤ ps.length) (h3 : ps.length ≤ 3) (hh : HdOk h) (hx2 : xs.length ≤ 2) (hx : ∀ x ∈ xs, x.length ≤ 8) (hf : ∀ p ∈ ps, p.fit ∧ p.h ≤ H) (hs : Pg.szs ps ≤ S) : ∃ p : Pg, p.d = nodeD h xs ps ∧ p.fit ∧ p.sz ≤ S + 1 ∧ p.h ≤ H + 1 := by
  match ps, h1, h3, hf, hs with
  | [p], _, _, hf, hs =>
    have := hf p (by simp)
    simp only [Pg.szs] at hs
    exact ⟨.one h xs p, rfl, ⟨hh, hx2, hx, this.1⟩, by simp only [Pg.sz]; omega, by simp only [Pg.h]; omega⟩
  | [p, q], _, _, hf, hs =>
    have a := hf p (by simp)
    have b := hf q (by simp)
    simp only [Pg.szs] at hs
    exact ⟨.two h xs p q, rfl, ⟨hh, hx2, hx, a.1, b.1⟩, by simp only [Pg.sz]; omega, by simp only [Pg.h]; omega⟩
  | [p, q, r], _, _, hf, hs =>
    have a := hf p (by simp)
    have b := hf q (by simp)
    have c := hf r (by simp)
    simp only [Pg.szs] at hs
    exact ⟨.thr h xs p q r, rfl, ⟨hh, hx2, hx, a.1, b.1, c.1⟩, by simp only [Pg.sz]; omega, by simp only [Pg.h]; omega⟩
/-- what prog promises, at a depth -/
def ProgW (B deep : Nat) (x y z : String) : Prop := ∀ (n : Nat) (st : Store) (env : List String) (many odd calm : Int) (pp : Post Val), Bag st B → EnvOk env → env.length + 2 * deep ≤ 500 → 1 ≤ many → many ≤ 1000 → deep + 5 ≤ n →
  (∀ (p : Pg) s, p.fit → (p.sz : Int) ≤ 2 * many → p.h ≤ 2 * deep → Bag s B → Kp B st s → pp.q (.d p.d) s) →
  @Wp _ (callN T n "_law_prog" [.ref B, .d (.lst [.str x, .str y, .str z]), .d (.lst (env.map .str)), .d (.int many), .d (.int deep), .d (.int odd), .d (.int calm)] st) pp
/-- the loop's word -/
def PrI (B c : Nat) (st : Store) (x y z : String) (env bd : List String) (many odd calm arms : Int) (deep : Nat) (h : String) (offB : Bool) (v9 v10 v12 v13 v14 : Option Val) (xs : List D) (σ : Env) (s : Store) : Prop :=
  ∃ (left : Int) (ps : List Pg) (x18 x19 x20 x21 x22 : Option Val), σ = [some (.ref B), some (.d (.lst [.str x, .str y, .str z])), some (.d (.lst (env.map .str))), some (.d (.int many)), some (.d (.int deep)), some (.d (.int odd)), some (.d (.int calm)), some (.d (.bool offB)), some (.d (.int arms)), v9, v10, some (.d (.str h)), v12, v13, v14, some (.d (.lst (bd.map .str))), some (.d (.int left)), some (.ref c), x18, x19, x20, x21, x22] ∧
    0 ≤ left ∧ (∀ w ∈ xs, ∃ i, w = .int i) ∧ (ps.length : Int) + xs.length = arms ∧ (Pg.szs ps : Int) + 2 * left + 2 * xs.length ≤ 2 * (many - 1) ∧ (∀ p ∈ ps, p.fit ∧ p.h ≤ 2 * (deep - 1)) ∧ s[c]? = some (.lst (ps.map Pg.d)) ∧ Bag s B ∧ Keep B st s
set_option maxHeartbeats 8000000 in
theorem prog_turn {B c n deep : Nat} {st s : Store} {x y z : String} {env bd : List String} {many odd calm arms : Int} {h : String} {offB : Bool} {v9 v10 v12 v13 v14 : Option Val} {w : D} {xs : List D} {σ : Env} {pp : Post Out} (hst : st.length ≤ c) (hbc : B ≠ c) (hn : deep + 4 ≤ n) (hd : 2 ≤ deep) (he : EnvOk env) (hbd : EnvOk bd) (hb2 : bd.length ≤ 2) (hel : env.length + 2 * deep ≤ 500) (hm1 : many ≤ 1000) (ha3 : arms ≤ 3)
    (ih : ProgW B (deep - 1) x y z) (i : PrI B c st x y z env bd many odd calm arms deep h offB v9 v10 v12 v13 v14 (w :: xs) σ s)
    (k : ∀ σ s, PrI B c st x y z env bd many odd calm arms deep h offB v9 v10 v12 v13 v14 xs σ s → pp.q (.nx σ) s) : @Wp _ (execs (callN T n) f_law_prog_b0 (σ.set 18 (some (.d w))) s) pp := by
  obtain ⟨left, ps, x18, x19, x20, x21, x22, rfl, hl0, hxs, hpl, hsz, hps, hc, hB, kp⟩ := i
  obtain ⟨kk, rfl⟩ := hxs w (by simp)
  simp only [List.length_cons, Int.natCast_add, Int.natCast_one] at hpl hsz
  have hcast : ((deep - 1 : Nat) : Int) = (deep : Int) - 1 := by omega
  have hadd : ∀ a b : Int, D.bin .add (.int a) (.int b) = some (.int (a + b)) := fun _ _ => rfl
  have hsub : ∀ a b : Int, D.bin .sub (.int a) (.int b) = some (.int (a - b)) := fun _ _ => rfl
  have hcat : D.bin .add (.lst (env.map .str)) (.lst (bd.map .str)) = some (.lst ((env ++ bd).map .str)) := by
    simp only [D.bin]; rw [if_pos (by simp [LIM]; omega)]; simp
  have heb : EnvOk (env ++ bd) := fun v hv => (List.mem_append.mp hv).elim (he v) (hbd v)
  -- behind the part made
  have fin : ∀ (more : Int) (s1 s2 : Store) (p : Pg) (y18 y19 y20 y21 : Option Val), 0 ≤ more → more ≤ left → s1[c]? = some (.lst (ps.map Pg.d)) → Keep B st s1 → p.fit → (p.sz : Int) ≤ 2 * (1 + more) → p.h ≤ 2 * (deep - 1) → Bag s2 B → Kp B s1 s2 →
      (mAppend c s2 [.d p.d] = .ok (.d .non) (s2.set c (.lst (ps.map Pg.d ++ [p.d])))) ∧ pp.q (.nx [some (.ref B), some (.d (.lst [.str x, .str y, .str z])), some (.d (.lst (env.map .str))), some (.d (.int many)), some (.d (.int deep)), some (.d (.int odd)), some (.d (.int calm)), some (.d (.bool offB)), some (.d (.int arms)), v9, v10, some (.d (.str h)), v12, v13, v14, some (.d (.lst (bd.map .str))), some (.d (.int (left - more))), some (.ref c), y18, y19, y20, y21, x22]) (s2.set c (.lst (ps.map Pg.d ++ [p.d]))) := by
    intro more s1 s2 p y18 y19 y20 y21 m0 m1 hc1 kp1 hf hs hh hB2 k2
    have hc2 : s2[c]? = some (.lst (ps.map Pg.d)) := by rw [k2.2 c (Ne.symm hbc)]; exact hc1
    refine ⟨?_, k _ _ ⟨left - more, ps ++ [p], y18, y19, y20, y21, x22, rfl, by omega, fun w hw => hxs w (List.mem_cons_of_mem _ hw), by simp; omega, by rw [szs_snoc]; omega, fun q hq => ?_, by rw [set_at hc2]; simp, ?_, ?_⟩⟩
    · simp only [mAppend, hc2]
      rw [if_pos (by simp [LIM]; omega)]
    · rcases List.mem_append.mp hq with hq | hq
      · exact hps q hq
      · simp at hq; rw [hq]; exact ⟨hf, by omega⟩
    · obtain ⟨b, e, ib⟩ := hB2
      exact ⟨b, by rw [List.getElem?_set_ne (Ne.symm hbc)]; exact e, ib⟩
    · have k3 := kp1.trans k2.keep
      exact ⟨by simpa using k3.1, fun i hi hn => by rw [List.getElem?_set_ne (by omega)]; exact k3.2 i hi hn⟩
  obtain ⟨EB, hEB⟩ : ∃ EB, EB = (env ++ bd).map D.str := ⟨_, rfl⟩
  rw [← hEB] at hcat
  have run : ∀ (more : Int) (s1 : Store), 0 ≤ more → more ≤ left → s1[c]? = some (.lst (ps.map Pg.d)) → Bag s1 B → Keep B st s1 → ∀ pq : Post Out, pq = pp →
      @Wp _ (execs (callN T n) (f_law_prog_b0.drop 1) [some (.ref B), some (.d (.lst [.str x, .str y, .str z])), some (.d (.lst (env.map .str))), some (.d (.int many)), some (.d (.int deep)), some (.d (.int odd)), some (.d (.int calm)), some (.d (.bool offB)), some (.d (.int arms)), v9, v10, some (.d (.str h)), v12, v13, v14, some (.d (.lst (bd.map .str))), some (.d (.int left)), some (.ref c), some (.d (.int kk)), some (.d (.int more)), x20, x21, x22] s1) pq := by
    intro more s1 m0 m1 hc1 hB1 kp1 pq hpq
    subst hpq
    have ih1 := fun (cm : Int) (pq : Post Val) k => ih n s1 env (1 + more) odd cm pq hB1 he (by omega) (by omega) (by omega) (by omega) k
    have ih2 := fun (cm : Int) (pq : Post Val) k => ih n s1 (env ++ bd) (1 + more) odd cm pq hB1 heb (by simp; omega) (by omega) (by omega) (by omega) k
    rw [hcast] at ih1 ih2
    rw [← hEB] at ih2
    by_cases c1 : h = "let" <;> by_cases c2 : kk = 0 <;> by_cases c3 : calm = 1 <;>
      (simp [c1, c2, c3, deref, hadd, hsub, hcat, cmpV, ci_eq, cs_eq, asB, Tg.putV, mthOk, hc1]
       first
        | (refine ih1 _ _ fun p s2 hf hs hh hB2 k2 => ?_)
        | (refine ih2 _ _ fun p s2 hf hs hh hB2 k2 => ?_)
       obtain ⟨g1, g2⟩ := fin more s1 s2 p _ _ _ _ m0 m1 hc1 kp1 hf hs hh hB2 k2
       simp [mthV, g1]
       try simp only [c1, c2, c3] at g2
       exact g2)
  have first : @Wp _ (exec (callN T n) (.asg (.name 19) (.ite (.cmp .lt (.var 18) (.bin .sub (.var 8) (.con (.int 1)))) (.call "_law_draw" [.var 0, .bin .add (.var 16) (.con (.int 1))]) (.var 16))) [some (.ref B), some (.d (.lst [.str x, .str y, .str z])), some (.d (.lst (env.map .str))), some (.d (.int many)), some (.d (.int deep)), some (.d (.int odd)), some (.d (.int calm)), some (.d (.bool offB)), some (.d (.int arms)), v9, v10, some (.d (.str h)), v12, v13, v14, some (.d (.lst (bd.map .str))), some (.d (.int left)), some (.ref c), some (.d (.int kk)), x19, x20, x21, x22] s)
      ⟨fun o s1 => ∃ more : Int, 0 ≤ more ∧ more ≤ left ∧ s1[c]? = some (.lst (ps.map Pg.d)) ∧ Bag s1 B ∧ Keep B st s1 ∧ o = .nx [some (.ref B), some (.d (.lst [.str x, .str y, .str z])), some (.d (.lst (env.map .str))), some (.d (.int many)), some (.d (.int deep)), some (.d (.int odd)), some (.d (.int calm)), some (.d (.bool offB)), some (.d (.int arms)), v9, v10, some (.d (.str h)), v12, v13, v14, some (.d (.lst (bd.map .str))), some (.d (.int left)), some (.ref c), some (.d (.int kk)), some (.d (.int more)), x20, x21, x22]⟩ := by
    simp [deref, hadd, hsub, cmpV, ci_lt, asB]
    refine ⟨fun _ => ?_, fun _ => ?_⟩
    · refine draw_wp hB (by omega) (big_of (by omega) (by omega)) (by omega) fun d s2 d0 d1 hB2 k2 => ?_
      simp [Tg.putV]
      exact ⟨d, d0, by omega, by rw [k2.2 c (Ne.symm hbc)]; exact hc, hB2, kp.trans k2.keep, rfl⟩
    · simp [Tg.putV]
      exact ⟨left, hl0, Int.le_refl _, hc, hB, kp, rfl⟩
  show @Wp _ (execs (callN T n) (_ :: f_law_prog_b0.drop 1) _ s) pp
  rw [w_execs_cons]
  refine first.mono fun o s1 q => ?_
  obtain ⟨more, q1, q2, q3, q4, q5, rfl⟩ := q
  exact run more s1 q1 q2 q3 q4 q5 pp rfl
theorem heads_ok : ∀ h ∈ ["first", "second", "head", "tail", "none", "fn", "rec", "fn", "call", "let", "plus", "less", "pair", "cons", "call", "let", "if"], HdOk h := by
  intro h hh
  simp only [List.mem_cons, List.not_mem_nil, or_false] at hh
  rcases hh with rfl | rfl | rfl | rfl | rfl | rfl | rfl | rfl | rfl | rfl | rfl | rfl | rfl | rfl | rfl | rfl | rfl <;> exact ⟨by decide, by decide⟩
end Prog

namespace Prog
open Ir
theorem w_execs_app {C : Calls} {b : List Stm} {pp : Post Out} : ∀ (a : List Stm) (σ : Env) (st : Store), @Wp _ (execs C a σ st) ⟨fun o s1 => @Wp _ (match o with | .nx σ1 => execs C b σ1 s1 | o => .ok o s1) pp⟩ → @Wp _ (execs C (a ++ b) σ st) pp
  | [], σ, st, h => by
    simp only [execs_nil, wp_ok] at h
    exact h
  | s :: a, σ, st, h => by
    rw [List.cons_append, w_execs_cons]
    rw [w_execs_cons] at h
    refine h.mono fun o s1 q => ?_
    cases o with
    | nx σ1 => exact w_execs_app a σ1 s1 q
    | ret v => exact q
    | brk v => exact q
    | cnt v => exact q
/-- prog's slots -/
def pE (B : Nat) (x y z : String) (env : List String) (many odd calm : Int) (deep : Nat) (tl : Env) : Env := [some (.ref B), some (.d (.lst [.str x, .str y, .str z])), some (.d (.lst (env.map .str))), some (.d (.int many)), some (.d (.int deep)), some (.d (.int odd)), some (.d (.int calm))] ++ tl
def N15 : Env := [none, none, none, none, none, none, none, none, none, none, none, none, none, none]
section
variable {B n deep : Nat} {st : Store} {x y z : String} {env : List String} {many odd calm : Int}
set_option maxHeartbeats 8000000 in
/-- whether it is off, and how many arms -/
theorem pr_arms {pp : Post Out} (hB : Bag st B) (hn : 4 ≤ n) (hm : 1 ≤ many)
    (k : ∀ (offB : Bool) (arms : Int) s, 0 ≤ arms → arms ≤ 3 → arms ≤ many - 1 → (0 < arms → 2 ≤ deep) → Bag s B → Kp B st s → pp.q (.nx (pE B x y z env many odd calm deep ([some (.d (.bool offB)), some (.d (.int arms))] ++ N15))) s) :
    @Wp _ (execs (callN T n) (f_law_prog.body.take 2) (pE B x y z env many odd calm deep ([none, none] ++ N15)) st) pp := by
  simp only [pE, N15] at k
  simp [f_law_prog, pE, N15]
  refine draw_wp hB (by decide) (by decide +kernel) (by omega) fun d s1 d0 d1 hB1 k1 => ?_
  simp [Tg.putV, Tg.put, Tg.puts, Tg.putF_eq, setAll, Tg.slots, Tg.slotss, wipe, indexV, D.index, atI, ixN, cmpV, deref, asB, asD, asDs, asI, bltV, lenDic, bltD, derefs, D.blt, D.bLen, D.bTuple, D.bList, D.seq, mthV, mthOk, setV, ci_eq, ci_ne, ci_lt, ci_le, ci_gt, ci_ge, cs_eq, cs_ne, cb_eq, cb_ne, D.bin, D.slice, cut, sIx, isNon]
  refine ⟨fun c => ?_, fun c => ?_⟩
  · refine draw_wp hB1 (by decide) (by decide +kernel) (by omega) fun e s2 e0 e1 hB2 k2 => ?_
    obtain ⟨v, hv, hp⟩ := pick4 (a := 1) (b := 2) (c := 2) (d := 3) e0 e1
    unfold atI ixN at hp
    simp at hp
    simp [indexV, D.index, atI, ixN, hp, bltV, bltD, derefs, deref, D.blt, D.bMin, Tg.putV]
    exact k _ (if v < many - 1 then v else many - 1) _ (by split <;> omega) (by split <;> omega) (by split <;> omega) (fun _ => by omega) hB2 (k1.trans k2)
  · exact k _ 0 _ (by omega) (by omega) (by omega) (fun h => by omega) hB1 k1
set_option maxHeartbeats 8000000 in
/-- the word -/
theorem pr_head {pp : Post Out} {offB : Bool} {arms : Int} (hB : Bag st B) (hn : 4 ≤ n) (a0 : 0 ≤ arms) (a3 : arms ≤ 3)
    (k : ∀ (h : String) (v9 v10 : Option Val) s, (0 < arms → HdOk h) → Bag s B → Kp B st s → pp.q (.nx (pE B x y z env many odd calm deep [some (.d (.bool offB)), some (.d (.int arms)), v9, v10, some (.d (.str h)), none, none, none, none, none, none, none, none, none, none, none])) s) :
    @Wp _ (execs (callN T n) ((f_law_prog.body.drop 2).take 3) (pE B x y z env many odd calm deep ([some (.d (.bool offB)), some (.d (.int arms))] ++ N15)) st) pp := by
  simp only [pE] at k
  have go : ∀ (hs : List String) (v9 : Option Val), 0 < hs.length → hs.length ≤ 8 → (0 < arms → ∀ h ∈ hs, HdOk h) → @Wp _ (callN T n "_law_draw" [.ref B, .d (.int hs.length)] st) ⟨fun v s => ∃ d, v = .d (.int d) ∧ ∃ h, D.index (.lst (hs.map .str)) (.int d) = some (.str h) ∧ (0 < arms → HdOk h) ∧ Bag s B ∧ Kp B st s⟩ := by
    intro hs v9 h0 h8 hh
    refine draw_wp hB (by omega) (big_of (by omega) (by omega)) (by omega) fun d s d0 d1 hB1 k1 => ?_
    obtain ⟨h, hm, e⟩ := pick_str d0 d1
    exact ⟨d, rfl, h, e, fun ha => hh ha h hm, hB1, k1⟩
  have hc : arms = 0 ∨ arms = 1 ∨ arms = 2 ∨ arms = 3 := by omega
  have ok : ∀ hs : List String, (∀ h ∈ hs, h ∈ ["first", "second", "head", "tail", "none", "fn", "rec", "fn", "call", "let", "plus", "less", "pair", "cons", "call", "let", "if"]) → ∀ h ∈ hs, HdOk h := fun hs q h hh => heads_ok h (q h hh)
  by_cases c2 : calm = 2
  · subst c2
    rcases hc with rfl | rfl | rfl | rfl
    · simp [f_law_prog, pE, N15, Tg.putV, Tg.put, Tg.puts, Tg.putF_eq, setAll, Tg.slots, Tg.slotss, wipe, indexV, D.index, atI, ixN, cmpV, deref, asB, asD, asDs, asI, bltV, lenDic, bltD, derefs, D.blt, D.bLen, D.bTuple, D.bList, D.seq, mthV, mthOk, setV, ci_eq, ci_ne, ci_lt, ci_le, ci_gt, ci_ge, cs_eq, cs_ne, cb_eq, cb_ne, D.bin, D.slice, cut, sIx, isNon]
      refine (go ["num"] none (by simp) (by simp) (fun h => by omega)).mono ?_
      rintro _ s ⟨d, rfl, h, e, hh, hB1, k1⟩
      simp [D.index, atI, ixN] at e
      simp [indexV, D.index, atI, ixN, e, Tg.putV]
      exact k h _ _ s hh hB1 k1
    · simp [f_law_prog, pE, N15, Tg.putV, Tg.put, Tg.puts, Tg.putF_eq, setAll, Tg.slots, Tg.slotss, wipe, indexV, D.index, atI, ixN, cmpV, deref, asB, asD, asDs, asI, bltV, lenDic, bltD, derefs, D.blt, D.bLen, D.bTuple, D.bList, D.seq, mthV, mthOk, setV, ci_eq, ci_ne, ci_lt, ci_le, ci_gt, ci_ge, cs_eq, cs_ne, cb_eq, cb_ne, D.bin, D.slice, cut, sIx, isNon]
      refine (go ["first", "second", "head", "tail", "none"] none (by simp) (by simp) (fun _ => ok _ (by decide))).mono ?_
      rintro _ s ⟨d, rfl, h, e, hh, hB1, k1⟩
      simp [D.index, atI, ixN] at e
      simp [indexV, D.index, atI, ixN, e, Tg.putV]
      exact k h _ _ s hh hB1 k1
    · simp [f_law_prog, pE, N15, Tg.putV, Tg.put, Tg.puts, Tg.putF_eq, setAll, Tg.slots, Tg.slotss, wipe, indexV, D.index, atI, ixN, cmpV, deref, asB, asD, asDs, asI, bltV, lenDic, bltD, derefs, D.blt, D.bLen, D.bTuple, D.bList, D.seq, mthV, mthOk, setV, ci_eq, ci_ne, ci_lt, ci_le, ci_gt, ci_ge, cs_eq, cs_ne, cb_eq, cb_ne, D.bin, D.slice, cut, sIx, isNon]
      refine (go ["call", "let", "plus", "less", "pair", "cons", "call", "let"] none (by simp) (by simp) (fun _ => ok _ (by decide))).mono ?_
      rintro _ s ⟨d, rfl, h, e, hh, hB1, k1⟩
      simp [D.index, atI, ixN] at e
      simp [indexV, D.index, atI, ixN, e, Tg.putV]
      exact k h _ _ s hh hB1 k1
    · simp [f_law_prog, pE, N15, Tg.putV, Tg.put, Tg.puts, Tg.putF_eq, setAll, Tg.slots, Tg.slotss, wipe, indexV, D.index, atI, ixN, cmpV, deref, asB, asD, asDs, asI, bltV, lenDic, bltD, derefs, D.blt, D.bLen, D.bTuple, D.bList, D.seq, mthV, mthOk, setV, ci_eq, ci_ne, ci_lt, ci_le, ci_gt, ci_ge, cs_eq, cs_ne, cb_eq, cb_ne, D.bin, D.slice, cut, sIx, isNon]
      refine (go ["if"] none (by simp) (by simp) (fun _ => ok _ (by decide))).mono ?_
      rintro _ s ⟨d, rfl, h, e, hh, hB1, k1⟩
      simp [D.index, atI, ixN] at e
      simp [indexV, D.index, atI, ixN, e, Tg.putV]
      exact k h _ _ s hh hB1 k1
  · rcases hc with rfl | rfl | rfl | rfl
    · simp [f_law_prog, pE, N15, Tg.putV, Tg.put, Tg.puts, Tg.putF_eq, setAll, Tg.slots, Tg.slotss, wipe, indexV, D.index, atI, ixN, cmpV, deref, asB, asD, asDs, asI, bltV, lenDic, bltD, derefs, D.blt, D.bLen, D.bTuple, D.bList, D.seq, mthV, mthOk, setV, ci_eq, ci_ne, ci_lt, ci_le, ci_gt, ci_ge, cs_eq, cs_ne, cb_eq, cb_ne, D.bin, D.slice, cut, sIx, isNon, c2]
      refine (go ["num"] none (by simp) (by simp) (fun h => by omega)).mono ?_
      rintro _ s ⟨d, rfl, h, e, hh, hB1, k1⟩
      simp [D.index, atI, ixN] at e
      simp [indexV, D.index, atI, ixN, e, Tg.putV]
      exact k h _ _ s hh hB1 k1
    · simp [f_law_prog, pE, N15, Tg.putV, Tg.put, Tg.puts, Tg.putF_eq, setAll, Tg.slots, Tg.slotss, wipe, indexV, D.index, atI, ixN, cmpV, deref, asB, asD, asDs, asI, bltV, lenDic, bltD, derefs, D.blt, D.bLen, D.bTuple, D.bList, D.seq, mthV, mthOk, setV, ci_eq, ci_ne, ci_lt, ci_le, ci_gt, ci_ge, cs_eq, cs_ne, cb_eq, cb_ne, D.bin, D.slice, cut, sIx, isNon, c2]
      refine (go ["first", "second", "head", "tail", "none", "fn", "rec", "fn"] none (by simp) (by simp) (fun _ => ok _ (by decide))).mono ?_
      rintro _ s ⟨d, rfl, h, e, hh, hB1, k1⟩
      simp [D.index, atI, ixN] at e
      simp [indexV, D.index, atI, ixN, e, Tg.putV]
      exact k h _ _ s hh hB1 k1
    · simp [f_law_prog, pE, N15, Tg.putV, Tg.put, Tg.puts, Tg.putF_eq, setAll, Tg.slots, Tg.slotss, wipe, indexV, D.index, atI, ixN, cmpV, deref, asB, asD, asDs, asI, bltV, lenDic, bltD, derefs, D.blt, D.bLen, D.bTuple, D.bList, D.seq, mthV, mthOk, setV, ci_eq, ci_ne, ci_lt, ci_le, ci_gt, ci_ge, cs_eq, cs_ne, cb_eq, cb_ne, D.bin, D.slice, cut, sIx, isNon, c2]
      refine (go ["call", "let", "plus", "less", "pair", "cons", "call", "let"] none (by simp) (by simp) (fun _ => ok _ (by decide))).mono ?_
      rintro _ s ⟨d, rfl, h, e, hh, hB1, k1⟩
      simp [D.index, atI, ixN] at e
      simp [indexV, D.index, atI, ixN, e, Tg.putV]
      exact k h _ _ s hh hB1 k1
    · simp [f_law_prog, pE, N15, Tg.putV, Tg.put, Tg.puts, Tg.putF_eq, setAll, Tg.slots, Tg.slotss, wipe, indexV, D.index, atI, ixN, cmpV, deref, asB, asD, asDs, asI, bltV, lenDic, bltD, derefs, D.blt, D.bLen, D.bTuple, D.bList, D.seq, mthV, mthOk, setV, ci_eq, ci_ne, ci_lt, ci_le, ci_gt, ci_ge, cs_eq, cs_ne, cb_eq, cb_ne, D.bin, D.slice, cut, sIx, isNon, c2]
      refine (go ["if"] none (by simp) (by simp) (fun _ => ok _ (by decide))).mono ?_
      rintro _ s ⟨d, rfl, h, e, hh, hB1, k1⟩
      simp [D.index, atI, ixN] at e
      simp [indexV, D.index, atI, ixN, e, Tg.putV]
      exact k h _ _ s hh hB1 k1
end
end Prog

namespace Prog
open Ir
/-- the names bound by a word -/
def bdOf (h one two : String) : List String := if h = "fn" then [one] else if h = "rec" then [two, one] else if h = "let" then [one] else []
theorem get_bd {s : Store} {h one two : String} : mGet s.length (s ++ [.dic [(.str "fn", .lst [.str one]), (.str "rec", .lst [.str two, .str one]), (.str "let", .lst [.str one])]]) [.d (.str h), .d (.lst [])] = .ok (.d (.lst ((bdOf h one two).map .str))) (s ++ [.dic [(.str "fn", .lst [.str one]), (.str "rec", .lst [.str two, .str one]), (.str "let", .lst [.str one])]]) := by
  simp only [mGet, get_push, D.key, if_true]
  congr 2
  simp only [lookK, List.find?_cons, D.eqv, bdOf]
  by_cases c1 : h = "fn"
  · subst c1; simp
  · by_cases c2 : h = "rec"
    · subst c2; simp
    · by_cases c3 : h = "let"
      · subst c3; simp
      · simp [c1, c2, c3, Ne.symm c1, Ne.symm c2, Ne.symm c3]
theorem bd_ok {h one two : String} (h1 : one.length ≤ 8) (h2 : two.length ≤ 8) : EnvOk (bdOf h one two) ∧ (bdOf h one two).length ≤ 2 := by
  unfold bdOf EnvOk
  split
  · simpa using h1
  · split
    · simp; exact ⟨h2, h1⟩
    · split
      · simpa using h1
      · simp
theorem merge_bd (one two : String) : mergeF [] [.str "fn", .lst [.str one], .str "rec", .lst [.str two, .str one], .str "let", .lst [.str one]] = some [(.str "fn", .lst [.str one]), (.str "rec", .lst [.str two, .str one]), (.str "let", .lst [.str one])] := by
  simp [mergeF, D.key, putK, D.eqv]
section
variable {B n deep : Nat} {st : Store} {x y z : String} {env : List String} {many odd calm : Int}
set_option maxHeartbeats 8000000 in
theorem pr_mid {pp : Post Out} {offB : Bool} {arms : Int} {h : String} {v9 v10 : Option Val} (hB : Bag st B) (hn : 4 ≤ n) (he : EnvOk env) (hel : env.length ≤ 1000) (xy : x ≠ y) (xz : x ≠ z) (yz : y ≠ z) (hx : x.length ≤ 8) (hy : y.length ≤ 8) (hz : z.length ≤ 8)
    (k : ∀ (p : Pg) (bd : List String) (v13 v14 : Option Val) s, p.fit → p.sz = 1 → p.h = 0 → EnvOk bd → bd.length ≤ 2 → Bag s B → Keep B st s → st.length < s.length → s[s.length - 1]? = some (.lst []) → pp.q (.nx (pE B x y z env many odd calm deep [some (.d (.bool offB)), some (.d (.int arms)), v9, v10, some (.d (.str h)), some (.d p.d), v13, v14, some (.d (.lst (bd.map .str))), some (.d (.int (many - 1 - arms))), some (.ref (s.length - 1)), none, none, none, none, none])) s) :
    @Wp _ (execs (callN T n) ((f_law_prog.body.drop 5).take 6) (pE B x y z env many odd calm deep [some (.d (.bool offB)), some (.d (.int arms)), v9, v10, some (.d (.str h)), none, none, none, none, none, none, none, none, none, none, none]) st) pp := by
  simp only [pE] at k
  simp [f_law_prog, pE]
  refine atom_wp hB he hel (by omega) fun p s1 hp hs hh hB1 k1 => ?_
  simp [Tg.putV]
  refine draw_wp hB1 (by decide) (by decide +kernel) (by omega) fun d s2 d0 d1 hB2 k2 => ?_
  have tail : ∀ (one two : String) (v14 : Option Val) s3, one.length ≤ 8 → two.length ≤ 8 → Bag s3 B → Kp B s2 s3 → @Wp _ (execs (callN T n) [.asg (.name 15) (.mth .get (.newDd [.con (.str "fn"), .lst [.var 13], .con (.str "rec"), .lst [.var 14, .var 13], .con (.str "let"), .lst [.var 13]]) [.var 11, .lst []]),
    .asg (.name 16) (.bin .sub (.bin .sub (.var 3) (.con (.int 1))) (.var 8)),
    .asg (.name 17) (.newL (.lst []))] [some (.ref B), some (.d (.lst [.str x, .str y, .str z])), some (.d (.lst (env.map .str))), some (.d (.int many)), some (.d (.int deep)), some (.d (.int odd)), some (.d (.int calm)), some (.d (.bool offB)), some (.d (.int arms)), v9, v10, some (.d (.str h)), some (.d p.d), some (.d (.str one)), some (.d (.str two)), none, none, none, none, none, none, none, none] s3) pp := by
    intro one two v14 s3 o1 o2 hB3 k3
    obtain ⟨b1, b2⟩ := bd_ok (h := h) o1 o2
    have hm := merge_bd one two
    have hg := get_bd (s := s3) (h := h) (one := one) (two := two)
    have kk := (k1.trans k2).trans k3
    simp [asDs, hm, mthOk, mthV, hg, Tg.putV, deref, D.bin]
    have := k p (bdOf h one two) (some (.d (.str one))) (some (.d (.str two))) (s3 ++ [.dic [(.str "fn", .lst [.str one]), (.str "rec", .lst [.str two, .str one]), (.str "let", .lst [.str one])], .lst []]) hp hs hh b1 b2 (hB3.pushes _) ⟨by have := kk.1; simp; omega, fun i hi hn => by rw [List.getElem?_append_left (by have := kk.1; omega)]; exact kk.2 i hn⟩ (by have := kk.1; simp; omega) (by simp)
    simpa using this
  have pick : ∀ (one a b : String), (x = one ∨ y = one ∨ z = one) → [x, y, z].filter (· ≠ one) = [a, b] → one.length ≤ 8 → a.length ≤ 8 → b.length ≤ 8 → True := fun _ _ _ _ _ _ _ _ => trivial
  have hd : d = 0 ∨ d = 1 ∨ d = 2 := by omega
  rcases hd with rfl | rfl | rfl
  · simp [indexV, D.index, atI, ixN, Tg.putV, asD, D.seq, Tg.slots, wipe, Tg.put, cmpV, deref, cs_ne, asB, Ne.symm xy, Ne.symm xz]
    refine draw_wp hB2 (by decide) (by decide +kernel) (by omega) fun e s3 e0 e1 hB3 k3 => ?_
    have he : e = 0 ∨ e = 1 := by omega
    rcases he with rfl | rfl
    · have t := tail x y none s3 hx hy hB3 k3
      simp at t
      simp [indexV, D.index, atI, ixN, Tg.putV]
      exact t
    · have t := tail x z none s3 hx hz hB3 k3
      simp at t
      simp [indexV, D.index, atI, ixN, Tg.putV]
      exact t
  · simp [indexV, D.index, atI, ixN, Tg.putV, asD, D.seq, Tg.slots, wipe, Tg.put, cmpV, deref, cs_ne, asB, xy, Ne.symm yz]
    refine draw_wp hB2 (by decide) (by decide +kernel) (by omega) fun e s3 e0 e1 hB3 k3 => ?_
    have he : e = 0 ∨ e = 1 := by omega
    rcases he with rfl | rfl
    · have t := tail y x none s3 hy hx hB3 k3
      simp at t
      simp [indexV, D.index, atI, ixN, Tg.putV]
      exact t
    · have t := tail y z none s3 hy hz hB3 k3
      simp at t
      simp [indexV, D.index, atI, ixN, Tg.putV]
      exact t
  · simp [indexV, D.index, atI, ixN, Tg.putV, asD, D.seq, Tg.slots, wipe, Tg.put, cmpV, deref, cs_ne, asB, xz, yz]
    refine draw_wp hB2 (by decide) (by decide +kernel) (by omega) fun e s3 e0 e1 hB3 k3 => ?_
    have he : e = 0 ∨ e = 1 := by omega
    rcases he with rfl | rfl
    · have t := tail z x none s3 hz hx hB3 k3
      simp at t
      simp [indexV, D.index, atI, ixN, Tg.putV]
      exact t
    · have t := tail z y none s3 hz hy hB3 k3
      simp at t
      simp [indexV, D.index, atI, ixN, Tg.putV]
      exact t
end
end Prog

namespace Prog
open Ir
theorem int_range (n : Nat) : ∀ w ∈ rangeL 0 n, ∃ i, w = D.int i := by
  intro w hw
  simp only [rangeL, List.mem_map] at hw
  obtain ⟨i, _, rfl⟩ := hw
  exact ⟨_, rfl⟩
theorem tupD (h : String) (bd : List String) (ps : List Pg) (hl : bd.length ≤ 2) (hp : ps.length ≤ 3) : D.bin .add (.tup [.str h]) (.tup (bd.map .str)) = some (.tup (.str h :: bd.map .str)) ∧ D.bin .add (.tup (.str h :: bd.map .str)) (.tup (ps.map Pg.d)) = some (nodeD h bd ps) := by
  constructor
  · simp only [D.bin]; rw [if_pos (by simp [LIM]; omega)]; rfl
  · simp only [D.bin]; rw [if_pos (by simp [LIM]; omega)]; rfl
set_option maxHeartbeats 8000000 in
theorem prog_all {B : Nat} {x y z : String} (xy : x ≠ y) (xz : x ≠ z) (yz : y ≠ z) (hx : x.length ≤ 8) (hy : y.length ≤ 8) (hz : z.length ≤ 8) : ∀ deep : Nat, 1 ≤ deep → ProgW B deep x y z := by
  intro deep
  induction deep with
  | zero => intro h; omega
  | succ deep ih =>
    intro _ n st env many odd calm pp hB he hel hm1 hm2 hn k
    obtain ⟨n, rfl⟩ : ∃ n', n = n' + 1 := ⟨n - 1, by omega⟩
    have hBl := hB.lt
    rw [callN_run T_f_law_prog, w_runFn]
    refine ⟨⟨rfl, by decide⟩, ?_⟩
    have hb : f_law_prog.body = f_law_prog.body.take 2 ++ ((f_law_prog.body.drop 2).take 3 ++ ((f_law_prog.body.drop 5).take 6 ++ f_law_prog.body.drop 11)) := rfl
    have hE : (([.ref B, .d (.lst [.str x, .str y, .str z]), .d (.lst (env.map .str)), .d (.int many), .d (.int ((deep + 1 : Nat) : Int)), .d (.int odd), .d (.int calm)] : List Val).map some ++ List.replicate (f_law_prog.many - f_law_prog.pars) none) = pE B x y z env many odd calm (deep + 1) ([none, none] ++ N15) := rfl
    rw [hE, hb]
    refine w_execs_app _ _ _ (pr_arms hB (by omega) hm1 fun offB arms s1 a0 a3 am ad hB1 k1 => ?_)
    dsimp only
    refine w_execs_app _ _ _ (pr_head hB1 (by omega) a0 a3 fun h v9 v10 s2 hh hB2 k2 => ?_)
    dsimp only
    refine w_execs_app _ _ _ (pr_mid hB2 (by omega) he (by omega) xy xz yz hx hy hz fun p bd v13 v14 s3 hpf hps hph hbd hb2 hB3 k3 hlt hlast => ?_)
    dsimp only
    have kk := k1.trans k2
    have hkl := kk.1
    have kp3 : Keep B st s3 := kk.keep.trans k3
    have hr : D.bRange [.int arms] = some (.lst (rangeL 0 arms.toNat)) := by
      have := bRange_nat (n := arms.toNat) (by simp only [LIM]; omega)
      rwa [show ((arms.toNat : Nat) : Int) = arms by omega] at this
    simp [f_law_prog, pE, bltV, bltD, derefs, deref, D.blt, hr, asD, D.seq]
    refine wp_loop (PrI B (s3.length - 1) st x y z env bd many odd calm arms (deep + 1) h offB v9 v10 (some (.d p.d)) v13 v14) ?_ ?_ _ _ _ ⟨many - 1 - arms, [], none, none, none, none, none, rfl, by omega, int_range _, by simp [rangeL]; omega, by simp [Pg.szs, rangeL]; omega, by simp, by simpa using hlast, hB3, kp3⟩
    · intro w xs σ s i
      obtain ⟨left, ps, x18, x19, x20, x21, x22, e, rest⟩ := id i
      have harm : 0 < arms := by
        have := rest.2.2.1
        simp at this
        omega
      have hdeep := ad harm
      refine ⟨σ.set 18 (some (.d w)), by rw [e]; rfl, ?_⟩
      exact prog_turn (by omega) (by omega) (by omega) hdeep he hbd hb2 hel hm2 a3 (by
        have := ih (by omega)
        simpa using this) i fun σ s q => q
    · rintro σ s ⟨left, ps, x18, x19, x20, x21, x22, rfl, l0, _, hpl, hsz, hpp, hc, hB4, kp4⟩
      simp only [List.length_nil, Int.natCast_zero, Int.mul_zero, Int.add_zero] at hpl hsz
      have fin : ∀ q : Pg, q.fit → (q.sz : Int) ≤ 2 * many - 1 → q.h ≤ 2 * (deep + 1) - 1 → (offB = true → pp.q (.d (.tup [.str "off", q.d])) (s.take st.length)) ∧ (offB = false → pp.q (.d q.d) (s.take st.length)) := fun q hf hs hh =>
        ⟨fun _ => k (.off q) _ hf (by simp only [Pg.sz]; omega) (by simp only [Pg.h]; omega) (hB4.take hBl) (.of kp4), fun _ => k q _ hf (by omega) (by omega) (hB4.take hBl) (.of kp4)⟩
      by_cases c : 0 < arms
      · have hdeep := ad c
        obtain ⟨q, hqd, hqf, hqs, hqh⟩ := node_of (h := h) (xs := bd) (ps := ps) (S := Pg.szs ps) (H := 2 * deep) (by omega) (by omega) (hh c) hb2 hbd (fun p hp => ⟨(hpp p hp).1, by have := (hpp p hp).2; omega⟩) (Nat.le_refl _)
        obtain ⟨f1, f2⟩ := fin q hqf (by omega) (by omega)
        obtain ⟨t1, t2⟩ := tupD h bd ps hb2 (by omega)
        rw [← hqd] at t2
        simp [cmpV, deref, ci_gt, c, asB, asDs, bltV, bltD, derefs, D.blt, D.bTuple, hc, t1, t2, Tg.putV]
        cases offB with
        | true => simpa using f1 rfl
        | false => simpa using f2 rfl
      · obtain ⟨f1, f2⟩ := fin p hpf (by omega) (by omega)
        simp [cmpV, deref, ci_gt, c, asB, asDs]
        cases offB with
        | true => simpa using f1 rfl
        | false => simpa using f2 rfl
end Prog

namespace Prog
open Ir
theorem pick8i {i : Int} (h0 : 0 ≤ i) (h1 : i < 8) : ∃ x : Int, 1 ≤ x ∧ x ≤ 40 ∧ atI [D.int 5, .int 10, .int 10, .int 16, .int 16, .int 24, .int 40, .int 40] i = some (.int x) := by
  have : i = 0 ∨ i = 1 ∨ i = 2 ∨ i = 3 ∨ i = 4 ∨ i = 5 ∨ i = 6 ∨ i = 7 := by omega
  rcases this with rfl | rfl | rfl | rfl | rfl | rfl | rfl | rfl
  · exact ⟨5, by decide, by decide, by simp [atI, ixN]⟩
  · exact ⟨10, by decide, by decide, by simp [atI, ixN]⟩
  · exact ⟨10, by decide, by decide, by simp [atI, ixN]⟩
  · exact ⟨16, by decide, by decide, by simp [atI, ixN]⟩
  · exact ⟨16, by decide, by decide, by simp [atI, ixN]⟩
  · exact ⟨24, by decide, by decide, by simp [atI, ixN]⟩
  · exact ⟨40, by decide, by decide, by simp [atI, ixN]⟩
  · exact ⟨40, by decide, by decide, by simp [atI, ixN]⟩
theorem pick3i {i : Int} (h0 : 0 ≤ i) (h1 : i < 3) : ∃ x : Nat, 1 ≤ x ∧ x ≤ 25 ∧ atI [D.int 4, .int 12, .int 25] i = some (.int (x : Int)) := by
  have : i = 0 ∨ i = 1 ∨ i = 2 := by omega
  rcases this with rfl | rfl | rfl
  · exact ⟨4, by decide, by decide, by simp [atI, ixN]⟩
  · exact ⟨12, by decide, by decide, by simp [atI, ixN]⟩
  · exact ⟨25, by decide, by decide, by simp [atI, ixN]⟩
set_option maxHeartbeats 8000000 in
theorem any_prog_wp {n B : Nat} {st : Store} {pp : Post Val} (hB : Bag st B) (hn : 40 ≤ n)
    (k : ∀ (p : Pg) s, p.fit → p.sz ≤ 80 → p.h ≤ 50 → Bag s B → Kp B st s → pp.q (.d p.d) s) : @Wp _ (callN T n "_law_any_prog" [.ref B] st) pp := by
  obtain ⟨n, rfl⟩ : ∃ n', n = n' + 1 := ⟨n - 1, by omega⟩
  rw [callN_run T_f_law_any_prog]
  simp [f_law_any_prog]
  refine names_wp hB (by omega) fun x y z s1 xy xz yz hx hy hz hB1 k1 => ?_
  simp [Tg.putV, asDs]
  refine draw_wp hB1 (by decide) (by decide +kernel) (by omega) fun d s2 d0 d1 hB2 k2 => ?_
  obtain ⟨odd, _, ho⟩ := pick4 (a := 0) (b := 3) (c := 8) (d := 20) d0 d1
  have ho : D.index (.lst [.int 0, .int 3, .int 8, .int 20]) (.int d) = some (.int odd) := ho
  generalize D.lst [.int 0, .int 3, .int 8, .int 20] = OL at ho
  simp [indexV, ho, Tg.putV, asDs]
  refine draw_wp hB2 (by decide) (by decide +kernel) (by omega) fun e s3 e0 e1 hB3 k3 => ?_
  obtain ⟨v, v1, v40, hv⟩ := pick8i e0 e1
  have hv : D.index (.lst [.int 5, .int 10, .int 10, .int 16, .int 16, .int 24, .int 40, .int 40]) (.int e) = some (.int v) := hv
  simp [indexV, hv]
  refine draw_wp hB3 (by omega) (big_of (by omega) (by omega)) (by omega) fun m s4 m0 m1 hB4 k4 => ?_
  simp [deref, D.bin, Tg.putV, asDs]
  refine draw_wp hB4 (by decide) (by decide +kernel) (by omega) fun g s5 g0 g1 hB5 k5 => ?_
  obtain ⟨dp, dp1, dp25, hd⟩ := pick3i g0 g1
  have hd : D.index (.lst [.int 4, .int 12, .int 25]) (.int g) = some (.int (dp : Int)) := hd
  have kk := (((k1.trans k2).trans k3).trans k4).trans k5
  have hgt : ∀ b : Bool, D.bInt [.bool b] = some (.int (if b then 1 else 0)) := fun _ => rfl
  simp [indexV, hd, cmpV, deref, ci_gt, bltV, bltD, derefs, D.blt, hgt]
  refine prog_all xy xz yz hx.most hy.most hz.most dp dp1 n s5 [] (1 + m) odd _ _ hB5 (by intro v hv; cases hv) (by simp; omega) (by omega) (by omega) (by omega) fun p s6 hf hs hh hB6 k6 => ?_
  simp [(kk.trans k6).take]
  exact k p s6 hf (by omega) (by omega) hB6 (kk.trans k6)
end Prog

namespace Prog
open Ir
theorem add_q {t : String} (h : t.length ≤ 1000000) : D.bin .add (.str "?") (.str t) = some (.str ("?" ++ t)) := by
  simp only [D.bin]; rw [if_pos]
  have : "?".length = 1 := by decide
  simp only [LIM]; omega
theorem bStr_int {i : Int} (h : i.natAbs < 10 ^ 60) : D.bStr [.int i] = some (.str (toString i)) := by simp only [D.bStr]; rw [if_pos (log_60 h)]
theorem bStr_str {x : String} (h : x.length ≤ 8) : D.bStr [.str x] = some (.str x) := by simp only [D.bStr]; rw [if_pos (by simp only [LIM]; omega)]
set_option maxHeartbeats 4000000 in
theorem program_text_ok {st : Store} : ∀ (p : Pg) (n : Nat), p.fit → p.sz ≤ 1000 → p.h + 1 ≤ n → callN T n "program_text" [.d p.d] st = .ok (.d (.str p.txt)) st := by
  intro p
  induction p with
  | num i =>
    intro n hf hs hn
    obtain ⟨n, rfl⟩ : ∃ n', n = n' + 1 := ⟨n - 1, by omega⟩
    have e := bStr_int hf
    rw [callN_run T_f_program_text]
    simp [runFn, f_program_text, Pg.d, Pg.txt, Tg.putV, Tg.put, D.seq, setAll, cmpV, deref, cs_eq, asB, inB, D.mem, flat, D.eqv, asDs, indexV, D.index, atI, ixN, bltV, bltD, derefs, D.blt, e, leave, take_all]
  | name x =>
    intro n hf hs hn
    obtain ⟨n, rfl⟩ : ∃ n', n = n' + 1 := ⟨n - 1, by omega⟩
    have e := bStr_str hf
    rw [callN_run T_f_program_text]
    simp [runFn, f_program_text, Pg.d, Pg.txt, Tg.putV, Tg.put, D.seq, setAll, cmpV, deref, cs_eq, asB, inB, D.mem, flat, D.eqv, asDs, indexV, D.index, atI, ixN, bltV, bltD, derefs, D.blt, e, leave, take_all]
  | truth b =>
    intro n hf hs hn
    obtain ⟨n, rfl⟩ : ∃ n', n = n' + 1 := ⟨n - 1, by omega⟩
    rw [callN_run T_f_program_text]
    cases b <;> simp [runFn, f_program_text, Pg.d, Pg.txt, Tg.putV, Tg.put, D.seq, setAll, cmpV, deref, cs_eq, asB, indexV, D.index, atI, ixN, leave, take_all]
  | nil =>
    intro n hf hs hn
    obtain ⟨n, rfl⟩ : ∃ n', n = n' + 1 := ⟨n - 1, by omega⟩
    rw [callN_run T_f_program_text]
    simp [runFn, f_program_text, Pg.d, Pg.txt, Tg.putV, Tg.put, D.seq, setAll, cmpV, deref, cs_eq, asB, inB, D.mem, flat, D.eqv, asDs, leave, take_all]
  | off p ih =>
    intro n hf hs hn
    obtain ⟨n, rfl⟩ : ∃ n', n = n' + 1 := ⟨n - 1, by omega⟩
    simp only [Pg.sz, Pg.h] at hs hn
    have hl := p.txt_len hf
    have e := ih n hf (by omega) (by omega)
    have ea := add_q (t := p.txt) (by omega)
    rw [callN_run T_f_program_text]
    simp [runFn, f_program_text, Pg.d, Pg.txt, Tg.putV, Tg.put, D.seq, setAll, cmpV, deref, cs_eq, asB, indexV, D.index, atI, ixN, e, ea, leave, take_all]
  | one h xs p ih =>
    intro n hf hs hn
    obtain ⟨n, rfl⟩ : ∃ n', n = n' + 1 := ⟨n - 1, by omega⟩
    obtain ⟨h1, h2, h3, hp⟩ := hf
    simp only [Pg.sz, Pg.h] at hs hn
    have hl := p.txt_len hp
    exact ptext_node (ps := [p]) h1 h2 h3 (by simp) (by simp; omega) (by intro q hq; simp at hq; subst hq; exact ih n hp (by omega) (by omega))
  | two h xs p q ihp ihq =>
    intro n hf hs hn
    obtain ⟨n, rfl⟩ : ∃ n', n = n' + 1 := ⟨n - 1, by omega⟩
    obtain ⟨h1, h2, h3, hp, hq⟩ := hf
    simp only [Pg.sz, Pg.h] at hs hn
    have hl := p.txt_len hp
    have hl2 := q.txt_len hq
    refine ptext_node (ps := [p, q]) h1 h2 h3 (by simp) (by simp; omega) (fun w hw => ?_)
    simp at hw
    rcases hw with rfl | rfl
    · exact ihp n hp (by omega) (by omega)
    · exact ihq n hq (by omega) (by omega)
  | thr h xs p q r ihp ihq ihr =>
    intro n hf hs hn
    obtain ⟨n, rfl⟩ : ∃ n', n = n' + 1 := ⟨n - 1, by omega⟩
    obtain ⟨h1, h2, h3, hp, hq, hr⟩ := hf
    simp only [Pg.sz, Pg.h] at hs hn
    have hl := p.txt_len hp
    have hl2 := q.txt_len hq
    have hl3 := r.txt_len hr
    refine ptext_node (ps := [p, q, r]) h1 h2 h3 (by simp) (by simp; omega) (fun w hw => ?_)
    simp at hw
    rcases hw with rfl | rfl | rfl
    · exact ihp n hp (by omega) (by omega)
    · exact ihq n hq (by omega) (by omega)
    · exact ihr n hr (by omega) (by omega)
end Prog

namespace Prog
open Ir
set_option maxHeartbeats 4000000 in
theorem wtext_node {n : Nat} {st : Store} {h : String} {xs : List String} {ps : List Pg} (hh : HdOk h) (h2 : xs.length ≤ 2) (hx : ∀ x ∈ xs, x.length ≤ 8) (h3 : ps.length ≤ 3) (hs : ((ps.map Pg.txt).map (·.length)).sum ≤ 1000000) (hp : ∀ p ∈ ps, callN T n "_law_written" [.d p.d] st = .ok (.d (.str p.txt)) st) :
    callN T (n + 1) "_law_written" [.d (nodeD h xs ps)] st = .ok (.d (.str ("(" ++ joinS " " (h :: (xs ++ ps.map Pg.txt)) ++ ")"))) st := by
  obtain ⟨n1, n2, n3, n4, n5⟩ := hd_ne hh
  obtain ⟨b1, b2⟩ := node_len (ts := ps.map Pg.txt) hh h2 hx (by simpa using h3) hs
  have ec := comp_txt (f := "_law_written") (C := callN T n) (st := st) (j := 2) (elt := f_law_written_c0) (σ := [some (.d (nodeD h xs ps)), none, none]) ps (by simp) rfl hp xs
  have hj : ∀ st, mJoin st (.str " ") [.d (.lst (.str h :: (xs ++ ps.map Pg.txt).map .str))] = .ok (.d (.str (joinS " " (h :: (xs ++ ps.map Pg.txt))))) st := fun st => by
    have e := strs_map (h :: (xs ++ ps.map Pg.txt))
    simp only [List.map_cons] at e
    simp only [mJoin, e]
    rw [if_pos (by simp only [LIM]; omega)]
  generalize xs ++ ps.map Pg.txt = ts at *
  have jl : (joinS " " (h :: ts)).length ≤ 1000100 := by rw [String.length_append, String.length_append] at b1; omega
  have ha1 : D.bin .add (.str "(") (.str (joinS " " (h :: ts))) = some (.str ("(" ++ joinS " " (h :: ts))) := by
    simp only [D.bin]; rw [if_pos]; have : "(".length = 1 := by decide
    simp only [LIM]; omega
  have ha2 : D.bin .add (.str ("(" ++ joinS " " (h :: ts))) (.str ")") = some (.str ("(" ++ joinS " " (h :: ts) ++ ")")) := by
    simp only [D.bin]; rw [if_pos]; have : "(".length = 1 := by decide
    have : ")".length = 1 := by decide
    simp only [LIM, String.length_append]; omega
  have hl : D.bin .add (.lst [.str h]) (.lst (ts.map .str)) = some (.lst (.str h :: ts.map .str)) := by
    have htl : ts.length ≤ 1000100 := by
      have : (h :: ts).length * " ".length ≤ 1000040 := by omega
      have l1 : " ".length = 1 := by decide
      rw [l1] at this; simp at this; omega
    simp only [D.bin]; rw [if_pos (by simp [LIM]; omega)]; rfl
  have hm : D.mem (.str h) (.lst [.str "num", .str "name"]) = some false := by
    simp [D.mem, fine, D.dep, D.depAll, D.eqv, Ne.symm n3, Ne.symm n4]
  rw [callN_run T_f_law_written]
  simp only [nodeD] at ec ⊢
  have hsl : ∀ L : List D, D.slice (.tup (.str h :: L)) (some 1) none = some (.tup L) := fun L => by simp [D.slice, cut, sIx]
  generalize (xs.map D.str ++ ps.map Pg.d) = L at ec ⊢
  simp [runFn, f_law_written, Tg.putV, Tg.put, D.seq, setAll, cmpV, deref, cs_eq, n1, n2, n5, asB, inB, hm, asDs, asD, asI, indexV, D.index, atI, ixN, hsl, mthOk, Tg.slots, wipe, ec, hl, mthV, hj, ha1, ha2, leave, take_all]
set_option maxHeartbeats 4000000 in
theorem written_ok {st : Store} : ∀ (p : Pg) (n : Nat), p.fit → p.sz ≤ 1000 → p.h + 1 ≤ n → callN T n "_law_written" [.d p.d] st = .ok (.d (.str p.txt)) st := by
  intro p
  induction p with
  | num i =>
    intro n hf hs hn
    obtain ⟨n, rfl⟩ : ∃ n', n = n' + 1 := ⟨n - 1, by omega⟩
    have e := bStr_int hf
    rw [callN_run T_f_law_written]
    simp [runFn, f_law_written, Pg.d, Pg.txt, Tg.putV, Tg.put, D.seq, setAll, cmpV, deref, cs_eq, asB, inB, D.mem, fine, D.dep, D.depAll, D.eqv, asDs, indexV, D.index, atI, ixN, bltV, bltD, derefs, D.blt, e, leave, take_all]
  | name x =>
    intro n hf hs hn
    obtain ⟨n, rfl⟩ : ∃ n', n = n' + 1 := ⟨n - 1, by omega⟩
    have e := bStr_str hf
    rw [callN_run T_f_law_written]
    simp [runFn, f_law_written, Pg.d, Pg.txt, Tg.putV, Tg.put, D.seq, setAll, cmpV, deref, cs_eq, asB, inB, D.mem, fine, D.dep, D.depAll, D.eqv, asDs, indexV, D.index, atI, ixN, bltV, bltD, derefs, D.blt, e, leave, take_all]
  | truth b =>
    intro n hf hs hn
    obtain ⟨n, rfl⟩ : ∃ n', n = n' + 1 := ⟨n - 1, by omega⟩
    rw [callN_run T_f_law_written]
    cases b <;> simp [runFn, f_law_written, Pg.d, Pg.txt, Tg.putV, Tg.put, D.seq, setAll, cmpV, deref, cs_eq, asB, inB, D.mem, fine, D.dep, D.depAll, D.eqv, asDs, indexV, D.index, atI, ixN, leave, take_all]
  | nil =>
    intro n hf hs hn
    obtain ⟨n, rfl⟩ : ∃ n', n = n' + 1 := ⟨n - 1, by omega⟩
    rw [callN_run T_f_law_written]
    simp [runFn, f_law_written, Pg.d, Pg.txt, Tg.putV, Tg.put, D.seq, setAll, cmpV, deref, cs_eq, asB, inB, D.mem, fine, D.dep, D.depAll, D.eqv, asDs, indexV, D.index, atI, ixN, leave, take_all]
  | off p ih =>
    intro n hf hs hn
    obtain ⟨n, rfl⟩ : ∃ n', n = n' + 1 := ⟨n - 1, by omega⟩
    simp only [Pg.sz, Pg.h] at hs hn
    have hl := p.txt_len hf
    have e := ih n hf (by omega) (by omega)
    have ea := add_q (t := p.txt) (by omega)
    rw [callN_run T_f_law_written]
    simp [runFn, f_law_written, Pg.d, Pg.txt, Tg.putV, Tg.put, D.seq, setAll, cmpV, deref, cs_eq, asB, inB, D.mem, fine, D.dep, D.depAll, D.eqv, asDs, indexV, D.index, atI, ixN, e, ea, leave, take_all]
  | one h xs p ih =>
    intro n hf hs hn
    obtain ⟨n, rfl⟩ : ∃ n', n = n' + 1 := ⟨n - 1, by omega⟩
    obtain ⟨h1, h2, h3, hp⟩ := hf
    simp only [Pg.sz, Pg.h] at hs hn
    have hl := p.txt_len hp
    exact wtext_node (ps := [p]) h1 h2 h3 (by simp) (by simp; omega) (by intro q hq; simp at hq; subst hq; exact ih n hp (by omega) (by omega))
  | two h xs p q ihp ihq =>
    intro n hf hs hn
    obtain ⟨n, rfl⟩ : ∃ n', n = n' + 1 := ⟨n - 1, by omega⟩
    obtain ⟨h1, h2, h3, hp, hq⟩ := hf
    simp only [Pg.sz, Pg.h] at hs hn
    have hl := p.txt_len hp
    have hl2 := q.txt_len hq
    refine wtext_node (ps := [p, q]) h1 h2 h3 (by simp) (by simp; omega) (fun w hw => ?_)
    simp at hw
    rcases hw with rfl | rfl
    · exact ihp n hp (by omega) (by omega)
    · exact ihq n hq (by omega) (by omega)
  | thr h xs p q r ihp ihq ihr =>
    intro n hf hs hn
    obtain ⟨n, rfl⟩ : ∃ n', n = n' + 1 := ⟨n - 1, by omega⟩
    obtain ⟨h1, h2, h3, hp, hq, hr⟩ := hf
    simp only [Pg.sz, Pg.h] at hs hn
    have hl := p.txt_len hp
    have hl2 := q.txt_len hq
    have hl3 := r.txt_len hr
    refine wtext_node (ps := [p, q, r]) h1 h2 h3 (by simp) (by simp; omega) (fun w hw => ?_)
    simp at hw
    rcases hw with rfl | rfl | rfl
    · exact ihp n hp (by omega) (by omega)
    · exact ihq n hq (by omega) (by omega)
    · exact ihr n hr (by omega) (by omega)
end Prog

namespace Prog
open Ir
/-! ### kinds -/
inductive Kd where
  | int | bool | list (a : Kd) | fn (a b : Kd) | pair (a b : Kd) | free (i : Int)
deriving DecidableEq
def Kd.d : Kd → D
  | .int => .tup [.str "int"]
  | .bool => .tup [.str "bool"]
  | .list a => .tup [.str "list", a.d]
  | .fn a b => .tup [.str "fn", a.d, b.d]
  | .pair a b => .tup [.str "pair", a.d, b.d]
  | .free i => .tup [.str "free", .int i]
def Kd.parts : Kd → Nat
  | .int => 1
  | .bool => 1
  | .list a => a.parts + 1
  | .fn a b => a.parts + b.parts + 1
  | .pair a b => a.parts + b.parts + 1
  | .free _ => 1
def Kd.h : Kd → Nat
  | .int => 0
  | .bool => 0
  | .list a => a.h + 1
  | .fn a b => max a.h b.h + 1
  | .pair a b => max a.h b.h + 1
  | .free _ => 0
theorem Kd.h_parts (k : Kd) : k.h < k.parts := by
  induction k <;> simp only [Kd.h, Kd.parts] <;> omega
theorem Kd.dep (k : Kd) : k.d.dep = k.h + 1 := by
  induction k <;> simp_all [Kd.d, Kd.h, D.dep, D.depAll]
/-! ### the mathematics of numbering free ones -/
def addI (s : List Int) (i : Int) : List Int := if i ∈ s then s else s ++ [i]
def Kd.seen : Kd → List Int → List Int
  | .int, s => s
  | .bool, s => s
  | .list a, s => a.seen s
  | .fn a b, s => b.seen (a.seen s)
  | .pair a b, s => b.seen (a.seen s)
  | .free i, s => addI s i
def ix (s : List Int) (i : Int) : Int := (s.idxOf i : Nat)
def Kd.map (f : Int → Int) : Kd → Kd
  | .int => .int
  | .bool => .bool
  | .list a => .list (a.map f)
  | .fn a b => .fn (a.map f) (b.map f)
  | .pair a b => .pair (a.map f) (b.map f)
  | .free i => .free (f i)
def Kd.has (i : Int) : Kd → Prop
  | .int => False
  | .bool => False
  | .list a => a.has i
  | .fn a b => a.has i ∨ b.has i
  | .pair a b => a.has i ∨ b.has i
  | .free j => j = i
def Kd.ren : Kd → List Int → Kd
  | .int, _ => .int
  | .bool, _ => .bool
  | .list a, s => .list (a.ren s)
  | .fn a b, s => .fn (a.ren s) (b.ren (a.seen s))
  | .pair a b, s => .pair (a.ren s) (b.ren (a.seen s))
  | .free i, s => .free (ix (addI s i) i)
theorem addI_ext (s : List Int) (i : Int) : ∃ t, addI s i = s ++ t := by
  unfold addI; split
  · exact ⟨[], by simp⟩
  · exact ⟨[i], rfl⟩
theorem Kd.seen_ext : ∀ (k : Kd) (s : List Int), ∃ t, k.seen s = s ++ t
  | .int, s => ⟨[], by simp [Kd.seen]⟩
  | .bool, s => ⟨[], by simp [Kd.seen]⟩
  | .list a, s => a.seen_ext s
  | .fn a b, s => by
    obtain ⟨t, h⟩ := a.seen_ext s
    obtain ⟨u, g⟩ := b.seen_ext (a.seen s)
    exact ⟨t ++ u, by simp only [Kd.seen]; rw [g, h, List.append_assoc]⟩
  | .pair a b, s => by
    obtain ⟨t, h⟩ := a.seen_ext s
    obtain ⟨u, g⟩ := b.seen_ext (a.seen s)
    exact ⟨t ++ u, by simp only [Kd.seen]; rw [g, h, List.append_assoc]⟩
  | .free i, s => addI_ext s i
theorem mem_addI (s : List Int) (i : Int) : i ∈ addI s i := by
  unfold addI; split
  · assumption
  · simp
theorem Kd.seen_has : ∀ (k : Kd) (s : List Int) (i : Int), k.has i → i ∈ k.seen s
  | .list a, s, i, h => a.seen_has s i h
  | .fn a b, s, i, h => by
    rcases h with h | h
    · obtain ⟨u, g⟩ := b.seen_ext (a.seen s)
      simp only [Kd.seen]; rw [g]
      exact List.mem_append_left _ (a.seen_has s i h)
    · exact b.seen_has _ i h
  | .pair a b, s, i, h => by
    rcases h with h | h
    · obtain ⟨u, g⟩ := b.seen_ext (a.seen s)
      simp only [Kd.seen]; rw [g]
      exact List.mem_append_left _ (a.seen_has s i h)
    · exact b.seen_has _ i h
  | .free j, s, i, h => by
    have : j = i := h
    subst this
    exact mem_addI s j
theorem ix_ext {s t : List Int} {i : Int} (h : i ∈ s) : ix (s ++ t) i = ix s i := by
  unfold ix
  rw [List.idxOf_append, if_pos h]
theorem Kd.map_congr {f g : Int → Int} : ∀ (k : Kd), (∀ i, k.has i → f i = g i) → k.map f = k.map g
  | .int, _ => rfl
  | .bool, _ => rfl
  | .list a, h => by simp only [Kd.map]; rw [a.map_congr h]
  | .fn a b, h => by simp only [Kd.map]; rw [a.map_congr fun i q => h i (.inl q), b.map_congr fun i q => h i (.inr q)]
  | .pair a b, h => by simp only [Kd.map]; rw [a.map_congr fun i q => h i (.inl q), b.map_congr fun i q => h i (.inr q)]
  | .free i, h => by simp only [Kd.map]; rw [h i rfl]
theorem Kd.map_ext (k : Kd) {s t : List Int} (h : ∀ i, k.has i → i ∈ s) : k.map (ix (s ++ t)) = k.map (ix s) := k.map_congr fun i q => ix_ext (h i q)
theorem Kd.ren_eq : ∀ (k : Kd) (s : List Int), k.ren s = k.map (ix (k.seen s))
  | .int, _ => rfl
  | .bool, _ => rfl
  | .list a, s => by simp only [Kd.ren, Kd.map, Kd.seen]; rw [a.ren_eq s]
  | .fn a b, s => by
    simp only [Kd.ren, Kd.map, Kd.seen]
    obtain ⟨u, g⟩ := b.seen_ext (a.seen s)
    rw [a.ren_eq s, b.ren_eq, g, a.map_ext fun i q => a.seen_has s i q]
  | .pair a b, s => by
    simp only [Kd.ren, Kd.map, Kd.seen]
    obtain ⟨u, g⟩ := b.seen_ext (a.seen s)
    rw [a.ren_eq s, b.ren_eq, g, a.map_ext fun i q => a.seen_has s i q]
  | .free i, s => rfl
def seenAll (ks : List Kd) (s : List Int) : List Int := ks.foldl (fun s k => k.seen s) s
def renAll : List Kd → List Int → List Kd
  | [], _ => []
  | k :: ks, s => k.ren s :: renAll ks (k.seen s)
theorem seenAll_ext : ∀ (ks : List Kd) (s : List Int), ∃ t, seenAll ks s = s ++ t
  | [], s => ⟨[], by simp [seenAll]⟩
  | k :: ks, s => by
    obtain ⟨t, h⟩ := k.seen_ext s
    obtain ⟨u, g⟩ := seenAll_ext ks (k.seen s)
    refine ⟨t ++ u, ?_⟩
    show seenAll ks (k.seen s) = _
    rw [g, h, List.append_assoc]
theorem renAll_eq : ∀ (ks : List Kd) (s : List Int), renAll ks s = ks.map (Kd.map (ix (seenAll ks s)))
  | [], _ => rfl
  | k :: ks, s => by
    simp only [renAll, List.map_cons]
    have e : seenAll (k :: ks) s = seenAll ks (k.seen s) := rfl
    obtain ⟨u, g⟩ := seenAll_ext ks (k.seen s)
    rw [e, renAll_eq ks, k.ren_eq]
    congr 1
    rw [g, k.map_ext fun i q => k.seen_has s i q]
theorem seenAll_has : ∀ (ks : List Kd) (s : List Int) (k : Kd) (i : Int), k ∈ ks → k.has i → i ∈ seenAll ks s
  | k :: ks, s, k', i, hm, h => by
    have e : seenAll (k :: ks) s = seenAll ks (k.seen s) := rfl
    rw [e]
    rcases List.mem_cons.mp hm with q | q
    · subst q
      obtain ⟨u, g⟩ := seenAll_ext ks (k'.seen s)
      rw [g]
      exact List.mem_append_left _ (k'.seen_has s i h)
    · exact seenAll_has ks _ k' i q h
theorem addI_nodup {s : List Int} {i : Int} (h : s.Nodup) : (addI s i).Nodup := by
  unfold addI; split
  · exact h
  · rename_i hi
    rw [List.nodup_append]
    refine ⟨h, by simp, fun a ha b hb e => ?_⟩
    simp at hb
    subst hb
    subst e
    exact hi ha
theorem Kd.seen_nodup : ∀ (k : Kd) {s : List Int}, s.Nodup → (k.seen s).Nodup
  | .int, _, h => h
  | .bool, _, h => h
  | .list a, _, h => a.seen_nodup h
  | .fn a b, _, h => b.seen_nodup (a.seen_nodup h)
  | .pair a b, _, h => b.seen_nodup (a.seen_nodup h)
  | .free _, _, h => addI_nodup h
theorem seenAll_nodup : ∀ (ks : List Kd) {s : List Int}, s.Nodup → (seenAll ks s).Nodup
  | [], _, h => h
  | k :: ks, s, h => seenAll_nodup ks (s := k.seen s) (k.seen_nodup h)
/-- numbering goes with a renaming that keeps them apart -/
theorem addI_map {f : Int → Int} {s : List Int} {i : Int} (h : ∀ j ∈ s, f i = f j → i = j) : addI (s.map f) (f i) = (addI s i).map f := by
  unfold addI
  by_cases q : i ∈ s
  · rw [if_pos q, if_pos (List.mem_map_of_mem q)]
  · rw [if_neg q, if_neg (fun z => by
      obtain ⟨j, hj, e⟩ := List.mem_map.mp z
      exact q (by rw [h j hj e.symm]; exact hj))]
    simp
theorem Kd.seen_map {f : Int → Int} {A : List Int} (inj : ∀ i ∈ A, ∀ j ∈ A, f i = f j → i = j) : ∀ (k : Kd) (s : List Int), (∀ i, k.has i → i ∈ A) → (∀ i ∈ s, i ∈ A) → (k.map f).seen (s.map f) = (k.seen s).map f
  | .int, _, _, _ => rfl
  | .bool, _, _, _ => rfl
  | .list a, s, h, g => a.seen_map inj s h g
  | .fn a b, s, h, g => by
    simp only [Kd.map, Kd.seen]
    rw [a.seen_map inj s (fun i q => h i (.inl q)) g]
    refine b.seen_map inj _ (fun i q => h i (.inr q)) fun i q => ?_
    exact Kd.seen_map.Kd.seen_sub A a s (fun i q => h i (.inl q)) g i q
  | .pair a b, s, h, g => by
    simp only [Kd.map, Kd.seen]
    rw [a.seen_map inj s (fun i q => h i (.inl q)) g]
    refine b.seen_map inj _ (fun i q => h i (.inr q)) fun i q => ?_
    exact Kd.seen_map.Kd.seen_sub A a s (fun i q => h i (.inl q)) g i q
  | .free i, s, h, g => addI_map fun j hj e => inj i (h i rfl) j (g j hj) e
where Kd.seen_sub (A : List Int) : ∀ (k : Kd) (s : List Int), (∀ i, k.has i → i ∈ A) → (∀ i ∈ s, i ∈ A) → ∀ i ∈ k.seen s, i ∈ A
  | .int, _, _, g => g
  | .bool, _, _, g => g
  | .list a, s, h, g => Kd.seen_sub A a s h g
  | .fn a b, s, h, g => Kd.seen_sub A b _ (fun i q => h i (.inr q)) (Kd.seen_sub A a s (fun i q => h i (.inl q)) g)
  | .pair a b, s, h, g => Kd.seen_sub A b _ (fun i q => h i (.inr q)) (Kd.seen_sub A a s (fun i q => h i (.inl q)) g)
  | .free j, s, h, g => fun i q => by
    simp only [Kd.seen] at q
    unfold addI at q
    split at q
    · exact g i q
    · rcases List.mem_append.mp q with q | q
      · exact g i q
      · simp at q; subst q; exact h i rfl
theorem seenAll_map {f : Int → Int} {A : List Int} (inj : ∀ i ∈ A, ∀ j ∈ A, f i = f j → i = j) : ∀ (ks : List Kd) (s : List Int), (∀ k ∈ ks, ∀ i, k.has i → i ∈ A) → (∀ i ∈ s, i ∈ A) → seenAll (ks.map (Kd.map f)) (s.map f) = (seenAll ks s).map f
  | [], _, _, _ => rfl
  | k :: ks, s, h, g => by
    show seenAll (ks.map (Kd.map f)) ((k.map f).seen (s.map f)) = _
    rw [k.seen_map inj s (h k (by simp)) g]
    exact seenAll_map inj ks (k.seen s) (fun k' hk => h k' (List.mem_cons_of_mem _ hk)) (Kd.seen_map.Kd.seen_sub A k s (h k (by simp)) g)
theorem Kd.map_map (f g : Int → Int) : ∀ k : Kd, (k.map f).map g = k.map fun i => g (f i)
  | .int => rfl
  | .bool => rfl
  | .list a => by simp only [Kd.map]; rw [a.map_map]
  | .fn a b => by simp only [Kd.map]; rw [a.map_map, b.map_map]
  | .pair a b => by simp only [Kd.map]; rw [a.map_map, b.map_map]
  | .free _ => rfl
theorem idx_nodup : ∀ (s : List Int) (n : Nat) (h : n < s.length), s.Nodup → s.idxOf s[n] = n
  | i :: s, 0, _, _ => by simp
  | i :: s, n + 1, h, hd => by
    rw [List.nodup_cons] at hd
    have hn : n < s.length := by simpa using h
    have : i ≠ s[n] := fun e => hd.1 (by rw [e]; exact List.getElem_mem hn)
    simp only [List.getElem_cons_succ]
    rw [List.idxOf_cons]
    have hb : (i == s[n]) = false := by simpa using this
    rw [hb]
    simp [idx_nodup s n hn hd.2]
theorem nodup_map_on {f : Int → Int} : ∀ (s : List Int), s.Nodup → (∀ i ∈ s, ∀ j ∈ s, f i = f j → i = j) → (s.map f).Nodup
  | [], _, _ => by simp
  | i :: s, hd, h => by
    rw [List.nodup_cons] at hd
    simp only [List.map_cons, List.nodup_cons]
    refine ⟨fun z => ?_, nodup_map_on s hd.2 fun a ha b hb => h a (List.mem_cons_of_mem _ ha) b (List.mem_cons_of_mem _ hb)⟩
    obtain ⟨j, hj, e⟩ := List.mem_map.mp z
    exact hd.1 (by rw [h i (by simp) j (List.mem_cons_of_mem _ hj) e.symm]; exact hj)
/-- named twice is named once -/
theorem named_idem (ks : List Kd) : renAll (renAll ks []) [] = renAll ks [] := by
  have hd := seenAll_nodup ks (s := []) List.nodup_nil
  generalize hs : seenAll ks [] = s at hd
  have hhas : ∀ k ∈ ks, ∀ i, k.has i → i ∈ s := fun k hk i hi => by rw [← hs]; exact seenAll_has ks [] k i hk hi
  have e1 : renAll ks [] = ks.map (Kd.map (ix s)) := by rw [renAll_eq, hs]
  have inj : ∀ i ∈ s, ∀ j ∈ s, ix s i = ix s j → i = j := fun i hi j hj e => by
    unfold ix at e
    have e' : s.idxOf i = s.idxOf j := by omega
    have h1 := List.getElem_idxOf (List.idxOf_lt_length_of_mem hi)
    have h2 := List.getElem_idxOf (List.idxOf_lt_length_of_mem hj)
    rw [← h1, ← h2]
    simp only [e']
  rw [e1, renAll_eq]
  have e2 : seenAll (ks.map (Kd.map (ix s))) [] = s.map (ix s) := by
    have := seenAll_map inj ks [] hhas (by simp)
    rw [hs] at this
    simpa using this
  rw [e2, List.map_map]
  apply List.map_congr_left
  intro k hk
  show (k.map (ix s)).map (ix (s.map (ix s))) = k.map (ix s)
  rw [Kd.map_map]
  refine k.map_congr fun i hi => ?_
  have him := hhas k hk i hi
  have hlt := List.idxOf_lt_length_of_mem him
  have hnd : (s.map (ix s)).Nodup := nodup_map_on s hd inj
  have hl2 : s.idxOf i < (s.map (ix s)).length := by simpa using hlt
  have hg : (s.map (ix s))[s.idxOf i] = ix s i := by
    rw [List.getElem_map, List.getElem_idxOf hlt]
  have := idx_nodup (s.map (ix s)) (s.idxOf i) hl2 hnd
  rw [hg] at this
  show (((s.map (ix s)).idxOf (ix s i) : Nat) : Int) = ((s.idxOf i : Nat) : Int)
  rw [this]
/-! ### the law's own numbering -/
def Kd.fr : Kd → List Int
  | .int => []
  | .bool => []
  | .list a => a.fr
  | .fn a b => a.fr ++ b.fr.filter fun i => decide (i ∉ a.fr)
  | .pair a b => a.fr ++ b.fr.filter fun i => decide (i ∉ a.fr)
  | .free i => [i]
theorem foldl_addI_mem : ∀ (l s : List Int) (i : Int), i ∈ l.foldl addI s ↔ i ∈ s ∨ i ∈ l
  | [], s, i => by simp
  | j :: l, s, i => by
    simp only [List.foldl_cons]
    rw [foldl_addI_mem l]
    unfold addI
    split
    · rename_i h
      simp only [List.mem_cons]
      constructor
      · rintro (q | q) <;> simp [q]
      · rintro (q | rfl | q) <;> simp_all
    · simp only [List.mem_append, List.mem_cons, List.not_mem_nil, or_false]
      constructor
      · rintro ((q | q) | q) <;> simp [q]
      · rintro (q | q | q) <;> simp [q]
theorem foldl_skip : ∀ (l s : List Int) (p : Int → Bool), (∀ i, p i = false → i ∈ s) → (l.filter p).foldl addI s = l.foldl addI s
  | [], _, _, _ => rfl
  | j :: l, s, p, h => by
    by_cases q : p j = true
    · rw [List.filter_cons_of_pos q]
      simp only [List.foldl_cons]
      refine foldl_skip l _ p fun i hi => ?_
      have := h i hi
      unfold addI; split
      · exact this
      · exact List.mem_append_left _ this
    · rw [List.filter_cons_of_neg q]
      simp only [List.foldl_cons]
      have : addI s j = s := by unfold addI; rw [if_pos (h j (by simpa using q))]
      rw [this]
      exact foldl_skip l s p h
theorem Kd.fr_seen : ∀ (k : Kd) (s : List Int), k.fr.foldl addI s = k.seen s
  | .int, _ => rfl
  | .bool, _ => rfl
  | .list a, s => a.fr_seen s
  | .fn a b, s => by
    simp only [Kd.fr, Kd.seen, List.foldl_append]
    rw [foldl_skip _ _ _ fun i hi => ?_, a.fr_seen, b.fr_seen]
    rw [foldl_addI_mem]
    exact .inr (by simpa using hi)
  | .pair a b, s => by
    simp only [Kd.fr, Kd.seen, List.foldl_append]
    rw [foldl_skip _ _ _ fun i hi => ?_, a.fr_seen, b.fr_seen]
    rw [foldl_addI_mem]
    exact .inr (by simpa using hi)
  | .free i, s => rfl
theorem Kd.fr_len (k : Kd) : k.fr.length ≤ k.parts := by
  induction k with
  | int => simp [Kd.fr]
  | bool => simp [Kd.fr]
  | list a ih => simp only [Kd.fr, Kd.parts]; omega
  | fn a b iha ihb =>
    simp only [Kd.fr, Kd.parts, List.length_append]
    have := List.length_filter_le (fun i => decide (i ∉ a.fr)) b.fr
    omega
  | pair a b iha ihb =>
    simp only [Kd.fr, Kd.parts, List.length_append]
    have := List.length_filter_le (fun i => decide (i ∉ a.fr)) b.fr
    omega
  | free i => simp [Kd.fr, Kd.parts]
/-! ### dicts by ints -/
def dG (g : Int → D) (s : List Int) : List (D × D) := s.map fun i => (.int i, g i)
theorem lookK_dG (g : Int → D) (j : Int) : ∀ s : List Int, lookK (dG g s) (.int j) = if j ∈ s then some (g j) else none
  | [] => rfl
  | i :: s => by
    have ih := lookK_dG g j s
    unfold lookK dG at ih ⊢
    simp only [List.map_cons, List.find?_cons, D.eqv]
    by_cases e : i = j
    · subst e; simp
    · have : (i == j) = false := by simpa using e
      rw [this]
      simp only [List.mem_cons, Ne.symm e, false_or]
      exact ih
theorem any_dG (g : Int → D) (j : Int) : ∀ s : List Int, ((dG g s).any fun p => p.1.eqv (.int j)) = decide (j ∈ s)
  | [] => rfl
  | i :: s => by
    have ih := any_dG g j s
    unfold dG at ih ⊢
    simp only [List.map_cons, List.any_cons, D.eqv, ih]
    by_cases e : i = j
    · subst e; simp
    · have : (i == j) = false := by simpa using e
      simp [this, Ne.symm e]
theorem putK_dG (g : Int → D) {j : Int} {s : List Int} (h : j ∉ s) (v : D) : putK (dG g s) (.int j) v = dG g s ++ [(.int j, v)] := by
  unfold putK
  rw [any_dG]
  simp [h]
def dP (s : List Int) : List (D × D) := dG (fun i => .int (ix s i)) s
theorem ix_new {s : List Int} {i : Int} (h : i ∉ s) : ix (s ++ [i]) i = s.length := by
  unfold ix
  rw [List.idxOf_append, if_neg h]
  simp
theorem dG_ext {s : List Int} {i : Int} (h : i ∉ s) (c : Int → D) : dG (fun j => c (ix (s ++ [i]) j)) (s ++ [i]) = dG (fun j => c (ix s j)) s ++ [(.int i, c s.length)] := by
  unfold dG
  rw [List.map_append]
  congr 1
  · apply List.map_congr_left
    intro j hj
    show (D.int j, c (ix (s ++ [i]) j)) = (D.int j, c (ix s j))
    rw [ix_ext hj]
  · simp [ix_new h]
theorem dG_len (g : Int → D) (s : List Int) : (dG g s).length = s.length := by simp [dG]
theorem addI_len (s : List Int) (i : Int) : (addI s i).length ≤ s.length + 1 := by
  unfold addI; split <;> simp
theorem Kd.seen_len : ∀ (k : Kd) (s : List Int), (k.seen s).length ≤ s.length + k.parts
  | .int, s => by simp [Kd.seen]
  | .bool, s => by simp [Kd.seen]
  | .list a, s => by have := a.seen_len s; simp only [Kd.seen, Kd.parts]; omega
  | .fn a b, s => by
    have h1 := a.seen_len s
    have h2 := b.seen_len (a.seen s)
    simp only [Kd.seen, Kd.parts]; omega
  | .pair a b, s => by
    have h1 := a.seen_len s
    have h2 := b.seen_len (a.seen s)
    simp only [Kd.seen, Kd.parts]; omega
  | .free i, s => by have := addI_len s i; simp only [Kd.seen, Kd.parts]; omega
def tot (ks : List Kd) : Nat := (ks.map Kd.parts).sum
/-! ### put_in -/
def dL (s : List Int) : List (D × D) := dG (fun i => .tup [.str "free", .int (ix s i)]) s
theorem depAll_kd : ∀ ks : List Kd, (∀ k ∈ ks, k.parts ≤ 16) → D.depAll (ks.map Kd.d) ≤ 17
  | [], _ => by simp [D.depAll]
  | k :: ks, h => by
    have := depAll_kd ks fun k' h' => h k' (List.mem_cons_of_mem _ h')
    have h1 := h k (by simp)
    have h2 := k.h_parts
    simp only [List.map_cons, D.depAll, Kd.dep]
    omega
theorem tot_le : ∀ ks : List Kd, (∀ k ∈ ks, k.parts ≤ 16) → tot ks ≤ 16 * ks.length
  | [], _ => by simp [tot]
  | k :: ks, h => by
    have := tot_le ks fun k' h' => h k' (List.mem_cons_of_mem _ h')
    have h1 := h k (by simp)
    have hk : tot (k :: ks) = k.parts + tot ks := by simp [tot]
    simp only [List.length_cons]
    omega
theorem Kd.map_parts (f : Int → Int) (k : Kd) : (k.map f).parts = k.parts := by
  induction k <;> simp_all [Kd.map, Kd.parts]
end Prog

namespace Prog
open Ir
/-- a kind as it is written -/
def Kd.txt : Kd → String
  | .int => "int"
  | .bool => "bool"
  | .list a => "(" ++ joinS " " ["list", a.txt] ++ ")"
  | .fn a b => "(" ++ joinS " " ["fn", a.txt, b.txt] ++ ")"
  | .pair a b => "(" ++ joinS " " ["pair", a.txt, b.txt] ++ ")"
  | .free i => "'" ++ toString i
def Kd.fit (k : Kd) : Prop := ∀ i, k.has i → i.natAbs < 10 ^ 60
theorem Kd.txt_len : ∀ k : Kd, k.fit → k.txt.length ≤ 100 * k.parts
  | .int, _ => by simp only [Kd.txt, Kd.parts]; decide
  | .bool, _ => by simp only [Kd.txt, Kd.parts]; decide
  | .list a, h => by
    have := a.txt_len h
    have e := joinS_len " " ["list", a.txt]
    have l1 : " ".length = 1 := by decide
    have l2 : "(".length = 1 := by decide
    have l3 : ")".length = 1 := by decide
    have l4 : "list".length = 4 := by decide
    simp [l4, l1] at e
    simp only [Kd.txt, Kd.parts, String.length_append, l2, l3]; omega
  | .fn a b, h => by
    have := a.txt_len fun i hi => h i (.inl hi)
    have := b.txt_len fun i hi => h i (.inr hi)
    have e := joinS_len " " ["fn", a.txt, b.txt]
    have l1 : " ".length = 1 := by decide
    have l2 : "(".length = 1 := by decide
    have l3 : ")".length = 1 := by decide
    have l4 : "fn".length = 2 := by decide
    simp [l4, l1] at e
    simp only [Kd.txt, Kd.parts, String.length_append, l2, l3]; omega
  | .pair a b, h => by
    have := a.txt_len fun i hi => h i (.inl hi)
    have := b.txt_len fun i hi => h i (.inr hi)
    have e := joinS_len " " ["pair", a.txt, b.txt]
    have l1 : " ".length = 1 := by decide
    have l2 : "(".length = 1 := by decide
    have l3 : ")".length = 1 := by decide
    have l4 : "pair".length = 4 := by decide
    simp [l4, l1] at e
    simp only [Kd.txt, Kd.parts, String.length_append, l2, l3]; omega
  | .free i, h => by
    have := str_60 (h i rfl)
    have l : "'".length = 1 := by decide
    simp only [Kd.txt, Kd.parts, String.length_append, l]; omega
theorem join_any {st : Store} {a : String} (ys : List String) (h : (ys.map (·.length)).sum + ys.length * a.length ≤ 1000000) : mJoin st (.str a) [.d (.lst (ys.map .str))] = .ok (.d (.str (joinS a ys))) st := by
  simp only [mJoin, strs_map]
  rw [if_pos (by simp only [LIM]; omega)]
theorem add_str {x y : String} (h : x.length + y.length ≤ 1000000) : D.bin .add (.str x) (.str y) = some (.str (x ++ y)) := by
  simp only [D.bin]; rw [if_pos (by simp only [LIM]; omega)]
theorem ktext_fin {ys : List String} {st : Store} (h : (ys.map (·.length)).sum + ys.length ≤ 900000) : mJoin st (.str " ") [.d (.lst (ys.map .str))] = .ok (.d (.str (joinS " " ys))) st ∧ D.bin .add (.str "(") (.str (joinS " " ys)) = some (.str ("(" ++ joinS " " ys)) ∧ D.bin .add (.str ("(" ++ joinS " " ys)) (.str ")") = some (.str ("(" ++ joinS " " ys ++ ")")) := by
  have l1 : " ".length = 1 := by decide
  have l2 : "(".length = 1 := by decide
  have l3 : ")".length = 1 := by decide
  have e := joinS_len " " ys
  rw [l1] at e
  exact ⟨join_any ys (by rw [l1]; omega), add_str (by omega), add_str (by rw [String.length_append]; omega)⟩
theorem ne_lst (x : D) (xs : List D) (h : D.depAll (x :: xs) ≤ 60) : D.cmp .ne (.lst (x :: xs)) (.lst []) = some true := by
  have h1 : fine (.lst (x :: xs)) = true := by simp only [fine, D.dep]; exact decide_eq_true (by omega)
  have h2 : fine (.lst []) = true := by simp [fine, D.dep, D.depAll]
  simp [D.cmp, h1, h2, D.eqv, D.eqvAll]
theorem ne_lst0 : D.cmp .ne (.lst []) (.lst []) = some false := by simp [D.cmp, fine, D.dep, D.depAll, D.eqv, D.eqvAll]
set_option maxHeartbeats 8000000 in
theorem type_text_ok {st : Store} : ∀ (k : Kd) (n : Nat), k.fit → k.parts ≤ 50 → k.h + 1 ≤ n → callN T n "type_text" [.d k.d] st = .ok (.d (.str k.txt)) st := by
  intro k
  induction k with
  | int =>
    intro n hf hs hn
    obtain ⟨n, rfl⟩ : ∃ n', n = n' + 1 := ⟨n - 1, by omega⟩
    rw [callN_run T_f_type_text]
    simp [runFn, Tg.putV, Tg.put, Tg.puts, Tg.putF_eq, setAll, Tg.slots, Tg.slotss, wipe, indexV, D.index, atI, ixN, cmpV, deref, asB, asD, asDs, asI, bltV, lenDic, bltD, derefs, D.blt, D.bLen, D.bTuple, D.bList, D.seq, mthV, mthOk, setV, ci_eq, ci_ne, ci_lt, ci_le, ci_gt, ci_ge, cs_eq, cs_ne, cb_eq, cb_ne, D.bin, D.slice, cut, sIx, isNon, f_type_text, Kd.d, Kd.txt, ne_lst0, leave, take_all]
  | bool =>
    intro n hf hs hn
    obtain ⟨n, rfl⟩ : ∃ n', n = n' + 1 := ⟨n - 1, by omega⟩
    rw [callN_run T_f_type_text]
    simp [runFn, Tg.putV, Tg.put, Tg.puts, Tg.putF_eq, setAll, Tg.slots, Tg.slotss, wipe, indexV, D.index, atI, ixN, cmpV, deref, asB, asD, asDs, asI, bltV, lenDic, bltD, derefs, D.blt, D.bLen, D.bTuple, D.bList, D.seq, mthV, mthOk, setV, ci_eq, ci_ne, ci_lt, ci_le, ci_gt, ci_ge, cs_eq, cs_ne, cb_eq, cb_ne, D.bin, D.slice, cut, sIx, isNon, f_type_text, Kd.d, Kd.txt, ne_lst0, leave, take_all]
  | free i =>
    intro n hf hs hn
    obtain ⟨n, rfl⟩ : ∃ n', n = n' + 1 := ⟨n - 1, by omega⟩
    have e : D.bStr [.int i] = some (.str (toString i)) := by simp only [D.bStr]; rw [if_pos (log_60 (hf i rfl))]
    have h60 := str_60 (hf i rfl)
    have l : "'".length = 1 := by decide
    rw [callN_run T_f_type_text]
    simp only [Kd.txt, Kd.d]
    generalize toString i = t at *
    have hs2 : D.strs [.str "'", .str t] = some ["'", t] := rfl
    have hlim : "'".length + t.length ≤ LIM := by rw [l]; simp only [LIM]; omega
    have hjn : joinS "" ["'", t] = "'" ++ t := by simp [joinS]
    simp [runFn, Tg.putV, Tg.put, Tg.puts, Tg.putF_eq, setAll, Tg.slots, Tg.slotss, wipe, indexV, D.index, atI, ixN, cmpV, deref, asB, asD, asDs, asI, bltV, lenDic, bltD, derefs, D.blt, D.bLen, D.bTuple, D.bList, D.seq, mthV, mthOk, setV, ci_eq, ci_ne, ci_lt, ci_le, ci_gt, ci_ge, cs_eq, cs_ne, cb_eq, cb_ne, D.bin, D.slice, cut, sIx, isNon, f_type_text, e, hs2, leave, take_all, hlim, hjn]
  | list a ih =>
    intro n hf hs hn
    obtain ⟨n, rfl⟩ : ∃ n', n = n' + 1 := ⟨n - 1, by omega⟩
    simp only [Kd.parts, Kd.h] at hs hn
    have hl := a.txt_len hf
    have e1 := ih n hf (by omega) (by omega)
    have hah := a.h_parts
    have hne := ne_lst a.d [] (by simp only [D.depAll, Kd.dep]; omega)
    obtain ⟨j1, j2, j3⟩ := ktext_fin (st := st) (ys := ["list", a.txt]) (by have l4 : "list".length = 4 := by decide
                                                                            simp [l4]; omega)
    simp only [List.map_cons, List.map_nil] at j1
    rw [callN_run T_f_type_text]
    simp only [Kd.txt, Kd.d]
    generalize joinS " " ["list", a.txt] = J at *
    generalize "(" ++ J = J2 at *
    have hla : D.bin .add (.lst [.str "list"]) (.lst [.str a.txt]) = some (.lst [.str "list", .str a.txt]) := by simp [D.bin, LIM]
    simp [runFn, f_type_text, Tg.putV, Tg.put, D.seq, setAll, cmpV, deref, cs_eq, asB, asDs, asD, Tg.slots, wipe, compL, compStep, mthOk, hne, e1, hla, mthV, j1, j2, j3, leave, take_all]
  | fn a b iha ihb =>
    intro n hf hs hn
    obtain ⟨n, rfl⟩ : ∃ n', n = n' + 1 := ⟨n - 1, by omega⟩
    simp only [Kd.parts, Kd.h] at hs hn
    have hfa : a.fit := fun i hi => hf i (.inl hi)
    have hfb : b.fit := fun i hi => hf i (.inr hi)
    have hl := a.txt_len hfa
    have hl2 := b.txt_len hfb
    have e1 := iha n hfa (by omega) (by omega)
    have e2 := ihb n hfb (by omega) (by omega)
    have hah := a.h_parts
    have hbh := b.h_parts
    have hne := ne_lst a.d [b.d] (by simp only [D.depAll, Kd.dep]; omega)
    have l4 : "fn".length ≤ 4 := by decide
    obtain ⟨j1, j2, j3⟩ := ktext_fin (st := st) (ys := ["fn", a.txt, b.txt]) (by simp only [List.map_cons, List.map_nil, List.sum_cons, List.sum_nil, List.length_cons, List.length_nil]; omega)
    simp only [List.map_cons, List.map_nil] at j1
    rw [callN_run T_f_type_text]
    simp only [Kd.txt, Kd.d]
    generalize joinS " " ["fn", a.txt, b.txt] = J at *
    generalize "(" ++ J = J2 at *
    have hla : D.bin .add (.lst [.str "fn"]) (.lst [.str a.txt, .str b.txt]) = some (.lst [.str "fn", .str a.txt, .str b.txt]) := by simp [D.bin, LIM]
    simp [runFn, f_type_text, Tg.putV, Tg.put, D.seq, setAll, cmpV, deref, cs_eq, asB, asDs, asD, Tg.slots, wipe, compL, compStep, mthOk, hne, e1, e2, hla, mthV, j1, j2, j3, leave, take_all]
  | pair a b iha ihb =>
    intro n hf hs hn
    obtain ⟨n, rfl⟩ : ∃ n', n = n' + 1 := ⟨n - 1, by omega⟩
    simp only [Kd.parts, Kd.h] at hs hn
    have hfa : a.fit := fun i hi => hf i (.inl hi)
    have hfb : b.fit := fun i hi => hf i (.inr hi)
    have hl := a.txt_len hfa
    have hl2 := b.txt_len hfb
    have e1 := iha n hfa (by omega) (by omega)
    have e2 := ihb n hfb (by omega) (by omega)
    have hah := a.h_parts
    have hbh := b.h_parts
    have hne := ne_lst a.d [b.d] (by simp only [D.depAll, Kd.dep]; omega)
    have l4 : "pair".length ≤ 4 := by decide
    obtain ⟨j1, j2, j3⟩ := ktext_fin (st := st) (ys := ["pair", a.txt, b.txt]) (by simp only [List.map_cons, List.map_nil, List.sum_cons, List.sum_nil, List.length_cons, List.length_nil]; omega)
    simp only [List.map_cons, List.map_nil] at j1
    rw [callN_run T_f_type_text]
    simp only [Kd.txt, Kd.d]
    generalize joinS " " ["pair", a.txt, b.txt] = J at *
    generalize "(" ++ J = J2 at *
    have hla : D.bin .add (.lst [.str "pair"]) (.lst [.str a.txt, .str b.txt]) = some (.lst [.str "pair", .str a.txt, .str b.txt]) := by simp [D.bin, LIM]
    simp [runFn, f_type_text, Tg.putV, Tg.put, D.seq, setAll, cmpV, deref, cs_eq, asB, asDs, asD, Tg.slots, wipe, compL, compStep, mthOk, hne, e1, e2, hla, mthV, j1, j2, j3, leave, take_all]
end Prog

namespace Prog
open Ir
set_option maxHeartbeats 8000000 in
theorem kind_written_ok {st : Store} : ∀ (k : Kd) (n : Nat), k.fit → k.parts ≤ 50 → k.h + 1 ≤ n → callN T n "_law_kind_written" [.d k.d] st = .ok (.d (.str k.txt)) st := by
  intro k
  induction k with
  | int =>
    intro n hf hs hn
    obtain ⟨n, rfl⟩ : ∃ n', n = n' + 1 := ⟨n - 1, by omega⟩
    rw [callN_run T_f_law_kind_written]
    simp [runFn, Tg.putV, Tg.put, Tg.puts, Tg.putF_eq, setAll, Tg.slots, Tg.slotss, wipe, indexV, D.index, atI, ixN, cmpV, deref, asB, asD, asDs, asI, bltV, lenDic, bltD, derefs, D.blt, D.bLen, D.bTuple, D.bList, D.seq, mthV, mthOk, setV, ci_eq, ci_ne, ci_lt, ci_le, ci_gt, ci_ge, cs_eq, cs_ne, cb_eq, cb_ne, D.bin, D.slice, cut, sIx, isNon, f_law_kind_written, Kd.d, Kd.txt, leave, take_all]
  | bool =>
    intro n hf hs hn
    obtain ⟨n, rfl⟩ : ∃ n', n = n' + 1 := ⟨n - 1, by omega⟩
    rw [callN_run T_f_law_kind_written]
    simp [runFn, Tg.putV, Tg.put, Tg.puts, Tg.putF_eq, setAll, Tg.slots, Tg.slotss, wipe, indexV, D.index, atI, ixN, cmpV, deref, asB, asD, asDs, asI, bltV, lenDic, bltD, derefs, D.blt, D.bLen, D.bTuple, D.bList, D.seq, mthV, mthOk, setV, ci_eq, ci_ne, ci_lt, ci_le, ci_gt, ci_ge, cs_eq, cs_ne, cb_eq, cb_ne, D.bin, D.slice, cut, sIx, isNon, f_law_kind_written, Kd.d, Kd.txt, leave, take_all]
  | free i =>
    intro n hf hs hn
    obtain ⟨n, rfl⟩ : ∃ n', n = n' + 1 := ⟨n - 1, by omega⟩
    have e : D.bStr [.int i] = some (.str (toString i)) := by simp only [D.bStr]; rw [if_pos (log_60 (hf i rfl))]
    have h60 := str_60 (hf i rfl)
    have l : "'".length = 1 := by decide
    rw [callN_run T_f_law_kind_written]
    simp only [Kd.txt, Kd.d]
    generalize toString i = t at *
    have hadd := add_str (x := "'") (y := t) (by omega)
    simp [runFn, Tg.putV, indexV, D.index, atI, ixN, cmpV, deref, asB, bltV, bltD, derefs, D.blt, cs_eq, f_law_kind_written, e, hadd, leave, take_all]
  | list a ih =>
    intro n hf hs hn
    obtain ⟨n, rfl⟩ : ∃ n', n = n' + 1 := ⟨n - 1, by omega⟩
    simp only [Kd.parts, Kd.h] at hs hn
    have hl := a.txt_len hf
    have e1 := ih n hf (by omega) (by omega)
    have hah := a.h_parts
    obtain ⟨j1, j2, j3⟩ := ktext_fin (st := st) (ys := ["list", a.txt]) (by have l4 : "list".length = 4 := by decide
                                                                            simp [l4]; omega)
    simp only [List.map_cons, List.map_nil] at j1
    rw [callN_run T_f_law_kind_written]
    simp only [Kd.txt, Kd.d]
    generalize joinS " " ["list", a.txt] = J at *
    generalize "(" ++ J = J2 at *
    have hla : D.bin .add (.lst [.str "list"]) (.lst [.str a.txt]) = some (.lst [.str "list", .str a.txt]) := by simp [D.bin, LIM]
    simp [runFn, f_law_kind_written, Tg.putV, Tg.put, D.seq, setAll, cmpV, deref, cs_eq, ci_eq, asB, asDs, asD, asI, indexV, D.index, atI, ixN, D.slice, cut, sIx, bltV, lenDic, bltD, derefs, D.blt, D.bLen, Tg.slots, wipe, compL, compStep, mthOk, e1, hla, mthV, j1, j2, j3, leave, take_all]
  | fn a b iha ihb =>
    intro n hf hs hn
    obtain ⟨n, rfl⟩ : ∃ n', n = n' + 1 := ⟨n - 1, by omega⟩
    simp only [Kd.parts, Kd.h] at hs hn
    have hfa : a.fit := fun i hi => hf i (.inl hi)
    have hfb : b.fit := fun i hi => hf i (.inr hi)
    have hl := a.txt_len hfa
    have hl2 := b.txt_len hfb
    have e1 := iha n hfa (by omega) (by omega)
    have e2 := ihb n hfb (by omega) (by omega)
    have hah := a.h_parts
    have hbh := b.h_parts
    have l4 : "fn".length ≤ 4 := by decide
    obtain ⟨j1, j2, j3⟩ := ktext_fin (st := st) (ys := ["fn", a.txt, b.txt]) (by simp only [List.map_cons, List.map_nil, List.sum_cons, List.sum_nil, List.length_cons, List.length_nil]; omega)
    simp only [List.map_cons, List.map_nil] at j1
    rw [callN_run T_f_law_kind_written]
    simp only [Kd.txt, Kd.d]
    generalize joinS " " ["fn", a.txt, b.txt] = J at *
    generalize "(" ++ J = J2 at *
    have hla : D.bin .add (.lst [.str "fn"]) (.lst [.str a.txt, .str b.txt]) = some (.lst [.str "fn", .str a.txt, .str b.txt]) := by simp [D.bin, LIM]
    simp [runFn, f_law_kind_written, Tg.putV, Tg.put, D.seq, setAll, cmpV, deref, cs_eq, ci_eq, asB, asDs, asD, asI, indexV, D.index, atI, ixN, D.slice, cut, sIx, bltV, lenDic, bltD, derefs, D.blt, D.bLen, Tg.slots, wipe, compL, compStep, mthOk, e1, e2, hla, mthV, j1, j2, j3, leave, take_all]
  | pair a b iha ihb =>
    intro n hf hs hn
    obtain ⟨n, rfl⟩ : ∃ n', n = n' + 1 := ⟨n - 1, by omega⟩
    simp only [Kd.parts, Kd.h] at hs hn
    have hfa : a.fit := fun i hi => hf i (.inl hi)
    have hfb : b.fit := fun i hi => hf i (.inr hi)
    have hl := a.txt_len hfa
    have hl2 := b.txt_len hfb
    have e1 := iha n hfa (by omega) (by omega)
    have e2 := ihb n hfb (by omega) (by omega)
    have hah := a.h_parts
    have hbh := b.h_parts
    have l4 : "pair".length ≤ 4 := by decide
    obtain ⟨j1, j2, j3⟩ := ktext_fin (st := st) (ys := ["pair", a.txt, b.txt]) (by simp only [List.map_cons, List.map_nil, List.sum_cons, List.sum_nil, List.length_cons, List.length_nil]; omega)
    simp only [List.map_cons, List.map_nil] at j1
    rw [callN_run T_f_law_kind_written]
    simp only [Kd.txt, Kd.d]
    generalize joinS " " ["pair", a.txt, b.txt] = J at *
    generalize "(" ++ J = J2 at *
    have hla : D.bin .add (.lst [.str "pair"]) (.lst [.str a.txt, .str b.txt]) = some (.lst [.str "pair", .str a.txt, .str b.txt]) := by simp [D.bin, LIM]
    simp [runFn, f_law_kind_written, Tg.putV, Tg.put, D.seq, setAll, cmpV, deref, cs_eq, ci_eq, asB, asDs, asD, asI, indexV, D.index, atI, ixN, D.slice, cut, sIx, bltV, lenDic, bltD, derefs, D.blt, D.bLen, Tg.slots, wipe, compL, compStep, mthOk, e1, e2, hla, mthV, j1, j2, j3, leave, take_all]
end Prog

namespace Prog
open Ir
def AnyKind (T : Tab) (B : Nat) (fs : List Int) (m : Nat) : Prop := ∀ (n : Nat) (st : Store) (b : Cell), m + 3 ≤ n → st[B]? = some b → isBag b →
    ∃ k b', k.parts ≤ m ∧ (∀ i, k.has i → i ∈ fs) ∧ isBag b' ∧ callN T n "_law_any_kind" [.ref B, .d (.lst (fs.map .int)), .d (.int m)] st = .ok (.d (Kd.d k)) (st.set B b')
set_option maxHeartbeats 4000000 in
theorem any_kind_ok {T : Tab} (h1 : T "_law_draw" = some f_law_draw) (h2 : T "_law_stirred" = some f_law_stirred) (h3 : T "_law_any_kind" = some f_law_any_kind) {B : Nat} {fs : List Int} (hf : fs.length < 1000) :
    ∀ m : Nat, 1 ≤ m → m ≤ 1000 → AnyKind T B fs m := by
  intro m
  induction m using Nat.strongRecOn with
  | ind m ih =>
    intro hm1 hm2 n st b hn hB ib
    obtain ⟨n, rfl⟩ : ∃ n', n = n' + 3 := ⟨n - 3, by omega⟩
    obtain ⟨d1, b1, ⟨d10, d11⟩, ib1, e1⟩ := draw_ok h1 h2 (n := n) (many := 8) hB ib (by decide) (by decide +kernel)
    have hB1 := set_at hB b1
    have ne : ∀ fs : List Int, D.cmp .ne (.lst (fs.map .int)) (.lst []) = some (!fs.isEmpty) := fun fs => by
      cases fs with
      | nil => simp [D.cmp, fine, D.dep, D.depAll, D.eqv, D.eqvAll]
      | cons i r => simp [D.cmp, fine, D.dep, D.depAll, D.eqv, D.eqvAll, depAll_int]
    by_cases c1 : (m : Int) < 2 ∨ d1 < 2
    · by_cases c2 : fs = []
      · subst c2
        obtain ⟨d2, b2, ⟨d20, d21⟩, ib2, e2⟩ := draw_ok h1 h2 (n := n) (many := 2) hB1 ib1 (by decide) (by decide +kernel)
        simp only [List.set_set] at e2
        have hd2 : d2 = 0 ∨ d2 = 1 := by omega
        refine ⟨if d2 = 0 then .int else .bool, b2, by split <;> (simp [Kd.parts]; omega), by split <;> simp [Kd.has], ib2, ?_⟩
        rw [show n + 3 = (n + 2) + 1 from rfl, callN_run h3]
        rcases c1 with c1 | c1 <;> rcases hd2 with rfl | rfl <;>
        simp [runFn, f_law_any_kind, e1, cmpV, deref, D.cmp, c1, asB, asDs, Tg.putV, fine, D.dep, D.depAll, D.eqv, D.eqvAll, e2, indexV, D.index, atI, ixN, leave, take_set, Kd.d]
      · obtain ⟨d2, b2, ⟨d20, d21⟩, ib2, e2⟩ := draw_ok h1 h2 (n := n) (many := 4) hB1 ib1 (by decide) (by decide +kernel)
        have hB2 := set_at hB1 b2
        have hfe : fs.isEmpty = false := by cases fs <;> simp_all
        simp only [List.set_set] at e2 hB2
        by_cases c3 : 0 < d2
        · have hfl : 0 < fs.length := by cases fs <;> simp_all
          obtain ⟨d3, b3, ⟨d30, d31⟩, ib3, e3⟩ := draw_ok h1 h2 (n := n) (many := (fs.length : Int)) hB2 ib2 (by omega) (big_le (by omega) (by omega))
          simp only [List.set_set] at e3
          obtain ⟨x, hx, hx2⟩ := atI_nat (xs := fs.map D.int) d30 (by simpa using d31)
          rw [List.getElem?_map] at hx
          obtain ⟨i, hi, rfl⟩ := Option.map_eq_some_iff.mp hx
          refine ⟨.free i, b3, by simp [Kd.parts]; omega, fun j hj => (by have e : i = j := hj; rw [← e]; exact List.mem_of_getElem? hi), ib3, ?_⟩
          rw [show n + 3 = (n + 2) + 1 from rfl, callN_run h3]
          rcases c1 with c1 | c1 <;>
          simp [runFn, f_law_any_kind, e1, cmpV, deref, c1, ne, hfe, asB, asDs, Tg.putV, e2, e3, c3, bltV, lenDic, bltD, derefs, D.blt, D.bLen, indexV, D.index, hx2, leave, take_set, Kd.d, show ∀ a b : Int, D.cmp .lt (.int a) (.int b) = some (decide (a < b)) from fun _ _ => rfl, show ∀ a b : Int, D.cmp .gt (.int a) (.int b) = some (decide (a > b)) from fun _ _ => rfl]
        · obtain ⟨d3, b3, ⟨d30, d31⟩, ib3, e3⟩ := draw_ok h1 h2 (n := n) (many := 2) hB2 ib2 (by decide) (by decide +kernel)
          simp only [List.set_set] at e3
          have hd3 : d3 = 0 ∨ d3 = 1 := by omega
          refine ⟨if d3 = 0 then .int else .bool, b3, by split <;> (simp [Kd.parts]; omega), by split <;> simp [Kd.has], ib3, ?_⟩
          rw [show n + 3 = (n + 2) + 1 from rfl, callN_run h3]
          rcases c1 with c1 | c1 <;> rcases hd3 with rfl | rfl <;>
          simp [runFn, f_law_any_kind, e1, cmpV, deref, c1, ne, hfe, asB, asDs, Tg.putV, e2, e3, c3, indexV, D.index, atI, ixN, leave, take_set, Kd.d, show ∀ a b : Int, D.cmp .lt (.int a) (.int b) = some (decide (a < b)) from fun _ _ => rfl, show ∀ a b : Int, D.cmp .gt (.int a) (.int b) = some (decide (a > b)) from fun _ _ => rfl]
    · have c1a : ¬ (m : Int) < 2 := fun h => c1 (.inl h)
      have c1b : ¬ d1 < 2 := fun h => c1 (.inr h)
      by_cases c2 : (m : Int) < 3 ∨ d1 = 2
      · obtain ⟨k, b2, hk, hkh, ib2, e2⟩ := ih (m - 1) (by omega) (by omega) (by omega) (n + 2) (st.set B b1) b1 (by omega) hB1 ib1
        simp only [List.set_set] at e2
        have em : ((m - 1 : Nat) : Int) = (m : Int) - 1 := by omega
        rw [em] at e2
        refine ⟨.list k, b2, by simp [Kd.parts]; omega, hkh, ib2, ?_⟩
        rw [show n + 3 = (n + 2) + 1 from rfl, callN_run h3]
        rcases c2 with c2 | c2 <;>
        simp [runFn, f_law_any_kind, e1, cmpV, deref, c1a, c1b, c2, asB, asDs, Tg.putV, e2, leave, take_set, Kd.d, D.cmp, D.bin, fine, D.dep, D.eqv]
      · have c2a : ¬ (m : Int) < 3 := fun h => c2 (.inl h)
        have c2b : ¬ d1 = 2 := fun h => c2 (.inr h)
        obtain ⟨d2, b2, ⟨d20, d21⟩, ib2, e2⟩ := draw_ok h1 h2 (n := n) (many := (m : Int) - 2) hB1 ib1 (by omega) (big_le (by omega) (by omega))
        have hB2 := set_at hB1 b2
        simp only [List.set_set] at e2 hB2
        obtain ⟨k3, b3, hk3, hkh3, ib3, e3⟩ := ih (1 + d2).toNat (by omega) (by omega) (by omega) (n + 2) _ b2 (by omega) hB2 ib2
        have hB3 := set_at hB2 b3
        simp only [List.set_set] at e3 hB3
        obtain ⟨k4, b4, hk4, hkh4, ib4, e4⟩ := ih ((m : Int) - 1 - (1 + d2)).toNat (by omega) (by omega) (by omega) (n + 2) _ b3 (by omega) hB3 ib3
        simp only [List.set_set] at e4
        have em3 : (((1 + d2).toNat : Nat) : Int) = 1 + d2 := by omega
        have em4 : ((((m : Int) - 1 - (1 + d2)).toNat : Nat) : Int) = (m : Int) - 1 - (1 + d2) := by omega
        rw [em3] at e3
        rw [em4] at e4
        have hmod : d1 % 2 = 0 ∨ d1 % 2 = 1 := by omega
        refine ⟨if d1 % 2 = 0 then .fn k3 k4 else .pair k3 k4, b4, by split <;> (simp [Kd.parts]; omega), by split <;> exact fun i hi => hi.elim (hkh3 i) (hkh4 i), ib4, ?_⟩
        rw [show n + 3 = (n + 2) + 1 from rfl, callN_run h3]
        rcases hmod with hmod | hmod <;>
        simp [runFn, f_law_any_kind, e1, cmpV, deref, c1a, c1b, c2a, c2b, asB, asDs, Tg.putV, e2, e3, e4, leave, take_set, Kd.d, D.cmp, D.bin, fine, D.dep, D.eqv, hmod, indexV, D.index, atI, ixN]
end Prog

namespace Prog
open Ir
theorem any_kind_wp2 {n : Nat} {st : Store} {B : Nat} {fs : List Int} {m : Int} {pp : Post Val} (hB : Bag st B) (hf : fs.length < 1000) (h1 : 1 ≤ m) (h2 : m ≤ 1000) (hn : m + 3 ≤ n)
    (k : ∀ kd s, (Kd.parts kd : Int) ≤ m → (∀ i, kd.has i → i ∈ fs) → Bag s B → Kp B st s → pp.q (.d kd.d) s) : @Wp _ (callN T n "_law_any_kind" [.ref B, .d (.lst (fs.map .int)), .d (.int m)] st) pp := by
  obtain ⟨b, e, ib⟩ := hB
  obtain ⟨kd, b', hk, hh, ib', e'⟩ := any_kind_ok T_f_law_draw T_f_law_stirred T_f_law_any_kind (B := B) hf m.toNat (by omega) (by omega) n st b (by omega) e ib
  rw [show ((m.toNat : Nat) : Int) = m by omega] at e'
  rw [e', wp_ok]
  exact k kd _ (by omega) hh ⟨b', set_at e b', ib'⟩ (.set st b')
theorem any_kind_wp {n : Nat} {st : Store} {B : Nat} {fs : List Int} {m : Int} {pp : Post Val} (hB : Bag st B) (hf : fs.length < 1000) (h1 : 1 ≤ m) (h2 : m ≤ 1000) (hn : m + 3 ≤ n)
    (k : ∀ kd s, (Kd.parts kd : Int) ≤ m → Bag s B → Kp B st s → pp.q (.d kd.d) s) : @Wp _ (callN T n "_law_any_kind" [.ref B, .d (.lst (fs.map .int)), .d (.int m)] st) pp :=
  any_kind_wp2 hB hf h1 h2 hn fun kd s h _ hB k' => k kd s h hB k'
end Prog

namespace Prog
open Ir
theorem num_comp {T : Tab} (h1 : T "_law_draw" = some f_law_draw) (h2 : T "_law_stirred" = some f_law_stirred) {n B : Nat} {base : Int} : ∀ (l : List Nat) (st : Store) (b : Cell), (∀ k ∈ l, k ≤ 100) → st[B]? = some b → isBag b →
    ∃ (fs : List Int) (b' : Cell), fs.length = l.length ∧ (∀ f ∈ fs, base ≤ f ∧ f ≤ base + 300) ∧ isBag b' ∧ compL (compStep (eval (callN T (n + 2)) (.bin .add (.var 1) (.bin .mul (.var 2) (.bin .add (.con (.int 1)) (.call "_law_draw" [.var 0, .con (.int 3)]))))) (conds (callN T (n + 2)) []) (.name 2) [some (.ref B), some (.d (.int base)), none]) (l.map fun i : Nat => D.int i) st = .ok (fs.map .int) (st.set B b')
  | [], st, b, _, hB, ib => ⟨[], b, rfl, by simp, ib, by simp [compL, set_same hB]⟩
  | k :: l, st, b, hk, hB, ib => by
    obtain ⟨d1, b1, ⟨d10, d11⟩, ib1, e1⟩ := draw_ok h1 h2 (n := n) (many := 3) hB ib (by decide) (by decide +kernel)
    have hB1 := set_at hB b1
    obtain ⟨fs, b', hl, hfb, ib', e⟩ := num_comp h1 h2 (n := n) (base := base) l _ b1 (fun j hj => hk j (List.mem_cons_of_mem _ hj)) hB1 ib1
    simp only [List.set_set] at e
    refine ⟨(base + k * (1 + d1)) :: fs, b', by simp [hl], fun f hf => ?_, ib', ?_⟩
    · rcases List.mem_cons.mp hf with rfl | hf
      · have h100 := hk k (by simp)
        have : d1 = 0 ∨ d1 = 1 ∨ d1 = 2 := by omega
        rcases this with rfl | rfl | rfl <;> omega
      · exact hfb f hf
    · simp [compL, compStep, Tg.put, e1, deref, D.bin, smallOk_of (i := 1 + d1) (by omega) (by omega), asD, e]
set_option maxHeartbeats 4000000 in
theorem numbers_ok {T : Tab} (h1 : T "_law_draw" = some f_law_draw) (h2 : T "_law_stirred" = some f_law_stirred) (h3 : T "_law_numbers" = some f_law_numbers) {n : Nat} {st : Store} {B : Nat} {b : Cell} (hB : st[B]? = some b) (ib : isBag b) :
    ∃ (fs : List Int) (b' : Cell), fs.length ≤ 5 ∧ 1 ≤ fs.length ∧ (∀ f ∈ fs, f.natAbs < 10 ^ 60) ∧ isBag b' ∧ callN T (n + 3) "_law_numbers" [.ref B] st = .ok (.d (.lst (fs.map .int))) (st.set B b') := by
  obtain ⟨d1, b1, ⟨d10, d11⟩, ib1, e1⟩ := draw_ok h1 h2 (n := n) (many := 4) hB ib (by decide) (by decide +kernel)
  have hB1 := set_at hB b1
  obtain ⟨x1, hx1, p1⟩ := pick4 (a := 1) (b := 1) (c := 10) (d := 10 ^ 50) d10 d11
  have hx1p : 0 < x1 ∧ bigOk x1 = true := by
    rcases hx1 with rfl | rfl | rfl | rfl
    · exact ⟨by decide, by decide +kernel⟩
    · exact ⟨by decide, by decide +kernel⟩
    · exact ⟨by decide, by decide +kernel⟩
    · exact ⟨by decide, big_50⟩
  obtain ⟨d2, b2, ⟨d20, d21⟩, ib2, e2⟩ := draw_ok h1 h2 (n := n) hB1 ib1 hx1p.1 hx1p.2
  have hB2 := set_at hB1 b2
  simp only [List.set_set] at e2 hB2
  obtain ⟨d3, b3, ⟨d30, d31⟩, ib3, e3⟩ := draw_ok h1 h2 (n := n) (many := 5) hB2 ib2 (by decide) (by decide +kernel)
  have hB3 := set_at hB2 b3
  simp only [List.set_set] at e3 hB3
  have hm : (((1 + d3).toNat : Nat) : Int) = 1 + d3 := by omega
  have hr : D.bRange [.int (1 + d3)] = some (.lst (rangeL 0 (1 + d3).toNat)) := by
    have := bRange_nat (n := (1 + d3).toNat) (by simp only [LIM]; omega)
    rwa [hm] at this
  obtain ⟨fs, b4, hl, hfb, ib4, e4⟩ := num_comp h1 h2 (n := n) (base := d2) (List.range (1 + d3).toNat) _ b3 (fun k hk => by have := List.mem_range.mp hk; omega) hB3 ib3
  simp only [List.set_set] at e4
  refine ⟨fs, b4, by rw [hl]; simp; omega, by rw [hl]; simp; omega, fun f hf => (by
    have := hfb f hf
    have hx50 : x1 ≤ 10 ^ 50 := by rcases hx1 with rfl | rfl | rfl | rfl <;> decide
    have h1 : (10 : Int) ^ 50 + 300 < 10 ^ 60 := by decide
    have h2 : ((f.natAbs : Nat) : Int) < ((10 ^ 60 : Nat) : Int) := by rw [show ((10 ^ 60 : Nat) : Int) = (10 : Int) ^ 60 by decide]; omega
    exact Int.ofNat_lt.mp h2), ib4, ?_⟩
  have hp10 : bigOk 10 = true := pow_lits.1
  simp only [Int.reducePow] at p1
  rw [show n + 3 = (n + 2) + 1 from rfl, callN_run h3]
  simp [runFn, f_law_numbers, e1, e2, e3, indexV, D.index, p1, asDs, deref, D.bin, hp10, Tg.putV, bltV, bltD, derefs, D.blt, hr, asD, D.seq, Tg.slots, wipe, range_nat, e4, leave, take_set]
end Prog

namespace Prog
open Ir
theorem numbers_wp2 {n : Nat} {st : Store} {B : Nat} {pp : Post Val} (hB : Bag st B) (hn : 3 ≤ n)
    (k : ∀ (fs : List Int) s, fs.length ≤ 5 → 1 ≤ fs.length → (∀ f ∈ fs, f.natAbs < 10 ^ 60) → Bag s B → Kp B st s → pp.q (.d (.lst (fs.map .int))) s) : @Wp _ (callN T n "_law_numbers" [.ref B] st) pp := by
  obtain ⟨n, rfl⟩ : ∃ n', n = n' + 3 := ⟨n - 3, by omega⟩
  obtain ⟨b, e, ib⟩ := hB
  obtain ⟨fs, b', hf, hf1, hfb, ib', e'⟩ := numbers_ok T_f_law_draw T_f_law_stirred T_f_law_numbers (n := n) e ib
  rw [e', wp_ok]
  exact k fs _ hf hf1 hfb ⟨b', set_at e b', ib'⟩ (.set st b')
theorem numbers_wp {n : Nat} {st : Store} {B : Nat} {pp : Post Val} (hB : Bag st B) (hn : 3 ≤ n)
    (k : ∀ (fs : List Int) s, fs.length ≤ 5 → 1 ≤ fs.length → Bag s B → Kp B st s → pp.q (.d (.lst (fs.map .int))) s) : @Wp _ (callN T n "_law_numbers" [.ref B] st) pp :=
  numbers_wp2 hB hn fun fs s h1 h2 _ hB k' => k fs s h1 h2 hB k'
end Prog

namespace Prog
open Ir
theorem two_same (a b : String) : D.cmp .ne (.lst [.str a, .str b]) (.lst [.str a, .str b]) = some false := by
  simp [D.cmp, fine, D.dep, D.depAll, D.eqv, D.eqvAll]
set_option maxHeartbeats 8000000 in
theorem turn {s : Store} {x0 x2 x3 x4 x5 : Option Val} {pp : Post Out} (hB : Bag s 0)
    (k : ∀ x3 x4 x5 s', Bag s' 0 → pp.q (.nx [x0, some (.ref 0), x2, x3, x4, x5]) s') :
    @Wp _ (execs (callN T 59) f_law_b0 [x0, some (.ref 0), x2, x3, x4, x5] s) pp := by
  simp
  refine any_prog_wp hB (by omega) fun p s1 hf hs hh hB1 k1 => ?_
  simp [Tg.putV]
  refine numbers_wp2 hB1 (by omega) fun fs s2 hl hl1 hfb hB2 k2 => ?_
  simp
  refine draw_wp hB2 (by decide) (by decide +kernel) (by omega) fun d s3 d0 d1 hB3 k3 => ?_
  simp [deref, D.bin]
  refine any_kind_wp2 hB3 (by omega) (by omega) (by omega) (by omega) fun kd s4 hk hkh hB4 k4 => ?_
  have hkf : kd.fit := fun i hi => hfb i (hkh i hi)
  have hkd := kd.h_parts
  have e1 := fun st => program_text_ok (st := st) p 59 hf (by omega) (by omega)
  have e2 := fun st => written_ok (st := st) p 59 hf (by omega) (by omega)
  have e3 := fun st => type_text_ok (st := st) kd 59 hkf (by omega) (by omega)
  have e4 := fun st => kind_written_ok (st := st) kd 59 hkf (by omega) (by omega)
  simp [Tg.putV, asDs, e1, e2, e3, e4, cmpV, deref, two_same, asB]
  exact k _ _ _ _ hB4
set_option maxHeartbeats 2000000 in
theorem law_wp (ns : List Int) (hl : ns.length ≤ 63) : @Wp _ (Ir.callN T 60 "law" [.d (.ro (ns.map Ir.D.int))] []) ⟨fun v _ => v = .d (.bool true)⟩ := by
  rw [callN_run T_f_law]
  simp [Tg.putV, Tg.put, Tg.puts, Tg.putF_eq, setAll, Tg.slots, Tg.slotss, wipe, indexV, D.index, atI, ixN, cmpV, deref, asB, asD, asDs, asI, bltV, lenDic, bltD, derefs, D.blt, D.bLen, D.bTuple, D.bList, D.seq, mthV, mthOk, setV, ci_eq, ci_ne, ci_lt, ci_le, ci_gt, ci_ge, cs_eq, cs_ne, cb_eq, cb_ne, D.bin, D.slice, cut, sIx, isNon, f_law]
  refine bag_wp ns (by omega) fun s1 hB1 _ _ => ?_
  obtain ⟨q, hq⟩ : ∃ q, q = (if (ns.length : Int) / 6 < 4 then (ns.length : Int) / 6 else 4) := ⟨_, rfl⟩
  have hqb : 0 ≤ q ∧ q ≤ 4 := by rw [hq]; split <;> omega
  have hmin : D.bMin [.int 4, .int ((ns.length : Int) / 6)] = some (.int q) := by simp only [D.bMin, hq]
  have hr : D.bRange [.int (1 + q)] = some (.lst (rangeL 0 (1 + q).toNat)) := by
    have := bRange_nat (n := (1 + q).toNat) (by simp only [LIM]; omega)
    rwa [show (((1 + q).toNat : Nat) : Int) = 1 + q by omega] at this
  simp [Tg.putV, Tg.put, Tg.puts, Tg.putF_eq, setAll, Tg.slots, Tg.slotss, wipe, indexV, D.index, atI, ixN, cmpV, deref, asB, asD, asDs, asI, bltV, lenDic, bltD, derefs, D.blt, D.bLen, D.bTuple, D.bList, D.seq, mthV, mthOk, setV, ci_eq, ci_ne, ci_lt, ci_le, ci_gt, ci_ge, cs_eq, cs_ne, cb_eq, cb_ne, D.bin, D.slice, cut, sIx, isNon, big_of (i := 6) (by decide) (by decide), hmin, hr]
  refine wp_loop (fun _ σ s => Bag s 0 ∧ ∃ x0 x2 x3 x4 x5, σ = [x0, some (.ref 0), x2, x3, x4, x5]) ?_ ?_ _ _ _ ⟨hB1, _, _, _, _, _, rfl⟩
  · rintro x xs σ s ⟨hB, x0, x2, x3, x4, x5, rfl⟩
    refine ⟨_, rfl, ?_⟩
    refine turn hB fun y3 y4 y5 s' hB' => ?_
    exact ⟨hB', _, _, _, _, _, rfl⟩
  · rintro σ s ⟨hB, x0, x2, x3, x4, x5, rfl⟩
    simp [Tg.putV, Tg.put, Tg.puts, Tg.putF_eq, setAll, Tg.slots, Tg.slotss, wipe, indexV, D.index, atI, ixN, cmpV, deref, asB, asD, asDs, asI, bltV, lenDic, bltD, derefs, D.blt, D.bLen, D.bTuple, D.bList, D.seq, mthV, mthOk, setV, ci_eq, ci_ne, ci_lt, ci_le, ci_gt, ci_ge, cs_eq, cs_ne, cb_eq, cb_ne, D.bin, D.slice, cut, sIx, isNon]
theorem law_true (ns : List Int) (hl : ns.length ≤ 63) : ∃ st', Ir.callN T 60 "law" [.d (.ro (ns.map Ir.D.int))] [] = .ok (.d (.bool true)) st' := by
  obtain ⟨v, s, e, h⟩ := wp_iff.mp (law_wp ns hl)
  have h : v = .d (.bool true) := h
  exact ⟨s, by rw [e, h]⟩
end Prog

open PySem PySem.W PyProof.Rows
set_option maxRecDepth 100000 in
set_option maxHeartbeats 0 in
theorem PySem.Challenge.cw_leastmends_k81_programs_written_holds : PySem.Challenge.rw_leastmends_k81_programs_written.Holds := by
  w_on; o_law; k_head; (case hw => w_witness2)
  k_fill
  refine L2.walk_ofB (l := PySem.Challenge.rw_leastmends_k81_programs_written) (n := 63) (k := 60) (x := "_law_script") (CX := fun _ => L2.CX0) (sp := fun w => Prog.spLaw 60 _) rfl (by decide) rfl ⟨rfl, by decide, by decide⟩ (fun w h Y => PySem.W.kIn_of Y) ?F (fun _ H a ns hl hb hO hS => Snd.law_sp hO hS hl (Prog.law_true ns hl).choose_spec) (fun _ _ _ _ _ h => h)
  case F =>
    intro w mg fa h KX G hmg
    refine' Prog.all_mk KX G hmg ?x0 ?l0 ?c0 ?k0 ?x1 ?l1 ?c1 ?k1 ?x2 ?l2 ?c2 ?k2 ?x3 ?l3 ?c3 ?k3 ?x4 ?l4 ?c4 ?k4 ?x5 ?l5 ?c5 ?k5 ?x6 ?l6 ?c6 ?k6 ?x7 ?l7 ?c7 ?k7 ?x8 ?l8 ?c8 ?k8 ?x9 ?l9 ?c9 ?k9 ?x10 ?l10 ?c10 ?k10 ?x11 ?l11 ?c11 ?k11 ?x12 ?l12 ?c12 ?k12 ?x13 ?l13 ?c13 ?k13 ?x14 ?l14 ?c14 ?k14 ?z0 ?z1 ?z2 ?z3 ?z4 ?z5 ?z6 ?z7
    (case x0 => k_is); (case l0 => k_is); (case c0 => k_is); (case k0 => k_is); (case x1 => k_is); (case l1 => k_is); (case c1 => k_is); (case k1 => k_is); (case x2 => k_is); (case l2 => k_is); (case c2 => k_is); (case k2 => k_is); (case x3 => k_is); (case l3 => k_is); (case c3 => k_is); (case k3 => k_is); (case x4 => k_is); (case l4 => k_is); (case c4 => k_is); (case k4 => k_is); (case x5 => k_is); (case l5 => k_is); (case c5 => k_is); (case k5 => k_is); (case x6 => k_is); (case l6 => k_is); (case c6 => k_is); (case k6 => k_is); (case x7 => k_is); (case l7 => k_is); (case c7 => k_is); (case k7 => k_is); (case x8 => k_is); (case l8 => k_is); (case c8 => k_is); (case k8 => k_is); (case x9 => k_is); (case l9 => k_is); (case c9 => k_is); (case k9 => k_is); (case x10 => k_is); (case l10 => k_is); (case c10 => k_is); (case k10 => k_is); (case x11 => k_is); (case l11 => k_is); (case c11 => k_is); (case k11 => k_is); (case x12 => k_is); (case l12 => k_is); (case c12 => k_is); (case k12 => k_is); (case x13 => k_is); (case l13 => k_is); (case c13 => k_is); (case k13 => k_is); (case x14 => k_is); (case l14 => k_is); (case c14 => k_is); (case k14 => k_is)
    (case z0 => k_is); (case z1 => k_is); (case z2 => k_is); (case z3 => k_is); (case z4 => k_is); (case z5 => k_is); (case z6 => k_is); (case z7 => k_is)

