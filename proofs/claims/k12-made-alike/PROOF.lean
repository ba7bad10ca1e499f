import PyProof.Rows.All
import Wide.All
import OpenK.AllK
import Wide.FinOn
import HandS.ForMost
import HandS.Wide
import HandS.WideBits
import HandS.IsInst
import HandS.SetKeys
import HandS.Zip
import HandS.EndBits
import KE.KUnpackStar
import HandS.TupAny
import HandS.Deep
import HandS.TupLe
import KE.KItemsList
import KE.KDictZip
import HandS.ListItems
import PySem.Challenge.RW_leastmends_k12_made_alike
set_option linter.all false
set_option maxRecDepth 100000
/-! A small language with explicit store: what the given defs compute, as total functions. -/
namespace Ir
/-- deep data, never changed -/
inductive D where
  | non | bool (b : Bool) | int (i : Int) | str (s : String) | tup (xs : List D) | lst (xs : List D) | ro (xs : List D)
deriving Inhabited
inductive Val where
  | d (x : D) | ref (n : Nat)
deriving Inhabited
inductive Cell where
  | lst (xs : List D) | dic (kvs : List (D × D)) | dead
deriving Inhabited
abbrev Store := List Cell
abbrev Env := List (Option Val)
inductive Res (α : Type) where
  | ok (a : α) (st : Store) | exc (c : String) (as : List D) (st : Store) | bad
def Res.bind {α β : Type} : Res α → (α → Store → Res β) → Res β
  | .ok a st, f => f a st
  | .exc c as st, _ => .exc c as st
  | .bad, _ => .bad
@[simp] theorem Res.bind_ok {α β : Type} (a : α) (st : Store) (f : α → Store → Res β) : (Res.ok a st).bind f = f a st := rfl
@[simp] theorem Res.bind_bad {α β : Type} (f : α → Store → Res β) : (Res.bad : Res α).bind f = .bad := rfl
@[simp] theorem Res.bind_exc {α β : Type} (c as st) (f : α → Store → Res β) : (Res.exc c as st : Res α).bind f = .exc c as st := rfl
theorem Res.bind_eq_ok {α β : Type} {r : Res α} {f : α → Store → Res β} {b : β} {st : Store} (h : r.bind f = .ok b st) : ∃ a s1, r = .ok a s1 ∧ f a s1 = .ok b st := by
  cases r with
  | ok a s1 => exact ⟨a, s1, rfl, h⟩
  | exc c as s1 => cases h
  | bad => cases h

def LIM : Nat := 16777216
/-! ### data -/
mutual
def D.dep : D → Nat
  | .tup xs | .lst xs => D.depAll xs + 1
  | .non | .bool _ | .int _ | .str _ => 0
  | .ro _ => 1000
def D.depAll : List D → Nat
  | [] => 0
  | x :: xs => max x.dep (D.depAll xs)
end
mutual
/-- Python's == -/
def D.eqv : D → D → Bool
  | .non, .non => true
  | .bool a, .bool b => a == b
  | .bool a, .int j => (if a then 1 else 0) == j
  | .int i, .bool b => i == (if b then 1 else 0)
  | .int i, .int j => i == j
  | .str x, .str y => decide (x = y)
  | .lst xs, .lst ys => D.eqvAll xs ys
  | .tup xs, .tup ys => D.eqvAll xs ys
  | _, _ => false
def D.eqvAll : List D → List D → Bool
  | [], [] => true
  | x :: xs, y :: ys => D.eqv x y && D.eqvAll xs ys
  | [], _ :: _ => false
  | _ :: _, [] => false
end
/-- an index: negative ones from behind -/
def ixN (n : Nat) (i : Int) : Option Nat := if 0 ≤ i then (if i < n then some i.toNat else none) else if -(n : Int) ≤ i then some (i + n).toNat else none
def atI {α : Type} (xs : List α) (i : Int) : Option α := (ixN xs.length i).bind fun j => xs[j]?
/-- a slice's bound: clamp -/
def sIx (n : Nat) (d : Nat) : Option Int → Nat
  | none => d
  | some i => if i < 0 then (i + n).toNat else min i.toNat n
def cut {α : Type} (xs : List α) (lo hi : Option Int) : List α := (xs.drop (sIx xs.length 0 lo)).take (sIx xs.length xs.length hi - sIx xs.length 0 lo)

inductive Op where | add | sub | mul | fdiv | mod | pow
deriving DecidableEq
inductive Cmp where | eq | ne | lt | le | gt | ge | isin | notin | is | isnot
deriving DecidableEq
inductive Bi where | len | abs | tuple | list | all | any | sum | min | max | range | zip | lzip
deriving DecidableEq
def Bi.name : Bi → String
  | .len => "len" | .abs => "abs" | .tuple => "tuple" | .list => "list" | .all => "all" | .any => "any" | .sum => "sum" | .min => "min" | .max => "max" | .range => "range" | .zip => "zip" | .lzip => "list"
inductive Mt where | append | extend | pop | pop0 | setdefault | get | bit_length
deriving DecidableEq
inductive Ty where | bool | int | str | tuple | list
deriving DecidableEq
def Ty.name : Ty → String
  | .bool => "bool" | .int => "int" | .str => "str" | .tuple => "tuple" | .list => "list"
inductive Tg where
  | name (i : Nat) | tup (ts : List Tg) | star (pre : List Nat) (i : Nat) (post : List Nat)
inductive Ex where
  | var (i : Nat)
  | con (d : D)
  | tup (es : List Ex)
  | lst (es : List Ex)
  | newL (e : Ex)
  | newD
  | newDP (e : Ex)
  | newDd (es : List Ex)
  | frz (e : Ex)
  | bin (o : Op) (a b : Ex)
  | neg (a : Ex)
  | cmp (o : Cmp) (a b : Ex)
  | chain (o o' : Cmp) (a b c : Ex)
  | and (a b : Ex) | or (a b : Ex) | not (a : Ex)
  | ite (c a b : Ex)
  | idx (a b : Ex)
  | sli (a : Ex) (lo hi : Option Ex)
  | call (f : String) (es : List Ex)
  | callP (f : String) (es : List Ex) (perm : List Nat)
  | blt (f : Bi) (es : List Ex)
  | mth (m : Mt) (o : Ex) (es : List Ex)
  | isi (e : Ex) (ts : List Ty)
  | comp (elt : Ex) (tg : Tg) (it : Ex) (cs : List Ex)
inductive Stm where
  | asg (t : Tg) (e : Ex)
  | par (i j : Nat) (a b : Ex)
  | set (o i e : Ex)
  | ex (e : Ex)
  | ret (e : Ex)
  | ite (c : Ex) (a b : List Stm)
  | loop (t : Tg) (it : Ex) (body : List Stm)
  | while (c : Ex) (body : List Stm)
  | aug (i : Nat) (o : Op) (e : Ex)
  | pass | brk | cnt
  | never
structure Fn where
  many : Nat            -- slots
  pars : Nat
  body : List Stm
abbrev Calls := String → List Val → Store → Res Val

/-! ### operators -/
def bigOk (i : Int) : Bool := decide (i.natAbs < 2 ^ 4000)
def smallOk (i : Int) : Bool := decide (-(2 ^ 64) < i ∧ i < 2 ^ 64)
def D.bin : Op → D → D → Option D
  | .add, .int i, .int j => some (.int (i + j))
  | .add, .str x, .str y => if x.length + y.length ≤ LIM then some (.str (x ++ y)) else none
  | .add, .tup xs, .tup ys => if xs.length + ys.length ≤ LIM then some (.tup (xs ++ ys)) else none
  | .add, .lst xs, .lst ys => if xs.length + ys.length ≤ LIM then some (.lst (xs ++ ys)) else none
  | .sub, .int i, .int j => some (.int (i - j))
  | .mul, .int i, .int j => if (bigOk i && bigOk j) || (smallOk i || smallOk j) then some (.int (i * j)) else none
  | .fdiv, .int i, .int j => if 0 < j && bigOk j then some (.int (i / j)) else none
  | .mod, .int i, .int j => if 0 < j then some (.int (i % j)) else none
  | .pow, .int i, .int j => if 0 ≤ j && decide (j ≤ 100) && bigOk i then some (.int (i ^ j.toNat)) else none
  | _, _, _ => none
/-- the content of a value: a cell's list as data -/
def deref (st : Store) : Val → Option D
  | .d x => some x
  | .ref n => match st[n]? with
    | some (.lst xs) => some (.lst xs)
    | _ => none
def fine (x : D) : Bool := decide (x.dep ≤ 64)
def flat : D → Bool
  | .non | .bool _ | .int _ | .str _ => true
  | _ => false
def D.key : D → Bool
  | .int _ | .str _ => true
  | _ => false
def lookK (kvs : List (D × D)) (k : D) : Option D := (kvs.find? fun p => p.1.eqv k).map (·.2)
def putK (kvs : List (D × D)) (k v : D) : List (D × D) :=
  if kvs.any fun p => p.1.eqv k then kvs.map fun p => if p.1.eqv k then (p.1, v) else p else kvs ++ [(k, v)]
/-- pairs put into a dict, one by one -/
def mergeP : List (D × D) → List D → Option (List (D × D))
  | acc, [] => some acc
  | acc, .tup [k, v] :: r => if k.key then mergeP (putK acc k v) r else none
  | _, _ :: _ => none
/-- keys and values by turns -/
def mergeF : List (D × D) → List D → Option (List (D × D))
  | acc, [] => some acc
  | acc, k :: v :: r => if k.key then mergeF (putK acc k v) r else none
  | _, [_] => none
def D.cmp : Cmp → D → D → Option Bool
  | .eq, x, y => if fine x && fine y then some (x.eqv y) else none
  | .ne, x, y => if fine x && fine y then some (!x.eqv y) else none
  | .lt, .int i, .int j => some (decide (i < j))
  | .le, .int i, .int j => some (decide (i ≤ j))
  | .gt, .int i, .int j => some (decide (i > j))
  | .ge, .int i, .int j => some (decide (i ≥ j))
  | _, _, _ => none
def D.mem (x : D) : D → Option Bool
  | .lst ys => if fine x && fine (.lst ys) then some (ys.any fun y => y.eqv x) else none
  | .tup ys => if flat x && ys.all flat then some (ys.any fun y => y.eqv x) else none
  | _ => none
def inB (st : Store) (x c : Val) : Option Bool :=
  match x, c with
  | .d k, .ref n => match st[n]? with
    | some (.dic kvs) => if k.key then some (lookK kvs k).isSome else none
    | some (.lst xs) => k.mem (.lst xs)
    | _ => none
  | .d k, .d y => k.mem y
  | _, _ => none
def isNon : Val → Val → Option Bool
  | .ref _, .d .non => some false
  | .d x, .d .non => some (match x with | .non => true | _ => false)
  | .d (.bool b), .d (.bool c) => some (decide (b = c))
  | _, _ => none
def cmpV (o : Cmp) (st : Store) (x y : Val) : Option Bool :=
  match o with
  | .isin => inB st x y
  | .notin => (inB st x y).map (!·)
  | .is => isNon x y
  | .isnot => (isNon x y).map (!·)
  | o => match deref st x, deref st y with
    | some a, some b => D.cmp o a b
    | _, _ => none
def D.index : D → D → Option D
  | .tup xs, .int i => atI xs i
  | .lst xs, .int i => atI xs i
  | .ro xs, .int i => atI xs i
  | _, _ => none
def indexV (st : Store) (x y : Val) : Option D :=
  match x, y with
  | .ref n, .d k => match st[n]? with
    | some (.lst xs) => D.index (.lst xs) k
    | some (.dic kvs) => if k.key then lookK kvs k else none
    | _ => none
  | .d a, .d k => a.index k
  | _, _ => none
def D.slice : D → Option Int → Option Int → Option D
  | .tup xs, lo, hi => some (.tup (cut xs lo hi))
  | .lst xs, lo, hi => some (.lst (cut xs lo hi))
  | .ro xs, lo, hi => some (.lst (cut xs lo hi))
  | _, _, _ => none
def D.seq : D → Option (List D)
  | .tup xs => some xs
  | .lst xs => some xs
  | _ => none
def D.tyOk : D → Ty → Bool
  | .bool _, .bool => true
  | .bool _, .int => true
  | .int _, .int => true
  | .str _, .str => true
  | .tup _, .tuple => true
  | .lst _, .list => true
  | .ro _, .list => true
  | _, _ => false
def D.bools : List D → Option (List Bool)
  | [] => some []
  | .bool b :: r => (D.bools r).map (b :: ·)
  | _ :: _ => none
def D.ints : List D → Option (List Int)
  | [] => some []
  | .int b :: r => (D.ints r).map (b :: ·)
  | _ :: _ => none
def intBits (i : Int) : Nat := if i.natAbs = 0 then 0 else i.natAbs.log2 + 1
def rangeL (lo : Int) (n : Nat) : List D := (List.range n).map fun i => .int (lo + (i : Nat))
def zipL (xs ys : List D) : List D := (xs.zip ys).map fun p => .tup [p.1, p.2]
/-- built-in calls upon data -/
def D.bLen : List D → Option D
  | [.ro xs] => some (.int xs.length)
  | [.tup xs] => some (.int xs.length)
  | [.lst xs] => some (.int xs.length)
  | _ => none
def D.bAbs : List D → Option D
  | [.int i] => some (.int (if i < 0 then -i else i))
  | _ => none
def D.bTuple : List D → Option D
  | [.tup xs] => some (.tup xs)
  | [.lst xs] => some (.tup xs)
  | _ => none
def D.bList : List D → Option D
  | [.tup xs] => some (.lst xs)
  | [.lst xs] => some (.lst xs)
  | _ => none
def D.bAll : List D → Option D
  | [.lst xs] => (D.bools xs).map fun bs => .bool (bs.all id)
  | _ => none
def D.bAny : List D → Option D
  | [.lst xs] => (D.bools xs).map fun bs => .bool (bs.any id)
  | _ => none
def D.bSum : List D → Option D
  | [.lst xs] => (D.ints xs).map fun bs => .int bs.sum
  | _ => none
def D.bMin : List D → Option D
  | [.int i, .int j] => some (.int (if j < i then j else i))
  | _ => none
def D.bMax : List D → Option D
  | [.int i, .int j] => some (.int (if j > i then j else i))
  | _ => none
def D.bRange : List D → Option D
  | [.int n] => if -(LIM : Int) ≤ n ∧ n ≤ (LIM : Int) then some (.lst (rangeL 0 n.toNat)) else none
  | [.int i, .int j] => if -(LIM : Int) ≤ i ∧ i ≤ (LIM : Int) ∧ -(LIM : Int) ≤ j ∧ j ≤ (LIM : Int) ∧ j - i ≤ (LIM : Int) then some (.lst (rangeL i (j - i).toNat)) else none
  | _ => none
def D.bZip : List D → Option D
  | [.lst xs, .lst ys] => some (.lst (zipL xs ys))
  | [.tup xs, .tup ys] => some (.lst (zipL xs ys))
  | [.lst xs, .tup ys] => some (.lst (zipL xs ys))
  | _ => none
/-- list(zip(a, b)) -/
def D.bLzip : List D → Option D
  | [.tup xs, .tup ys] => some (.lst (zipL xs ys))
  | _ => none
def D.blt : Bi → List D → Option D
  | .len => D.bLen
  | .abs => D.bAbs
  | .tuple => D.bTuple
  | .list => D.bList
  | .all => D.bAll
  | .any => D.bAny
  | .sum => D.bSum
  | .min => D.bMin
  | .max => D.bMax
  | .range => D.bRange
  | .zip => D.bZip
  | .lzip => D.bLzip
def derefs (st : Store) : List Val → Option (List D)
  | [] => some []
  | v :: r => match deref st v, derefs st r with
    | some d, some ds => some (d :: ds)
    | _, _ => none
def asDs : List Val → Option (List D)
  | [] => some []
  | .d x :: r => (asDs r).map (x :: ·)
  | .ref _ :: _ => none
def bltD (f : Bi) (vs : List Val) (st : Store) : Res Val :=
  match derefs st vs with
  | some ds => match D.blt f ds with
    | some r => .ok (.d r) st
    | none => .bad
  | none => .bad
def lenDic (vs : List Val) (st : Store) : Option Nat :=
  match vs with
  | [.ref n] => match st[n]? with
    | some (.dic kvs) => some kvs.length
    | _ => none
  | _ => none
def bltV (f : Bi) (vs : List Val) (st : Store) : Res Val :=
  match f with
  | .len => match lenDic vs st with
    | some n => .ok (.d (.int n)) st
    | none => bltD .len vs st
  | .zip => match asDs vs with
    | some _ => bltD .zip vs st
    | none => .bad
  | f => bltD f vs st
/-- methods of cells and data -/
def mAppend (n : Nat) (st : Store) : List Val → Res Val
  | [.d x] => match st[n]? with
    | some (.lst xs) => if xs.length < LIM then .ok (.d .non) (st.set n (.lst (xs ++ [x]))) else .bad
    | _ => .bad
  | _ => .bad
def mExtend (n : Nat) (st : Store) : List Val → Res Val
  | [.d (.lst ys)] => match st[n]? with
    | some (.lst xs) => if xs.length + ys.length ≤ LIM then .ok (.d .non) (st.set n (.lst (xs ++ ys))) else .bad
    | _ => .bad
  | _ => .bad
def mPop (n : Nat) (st : Store) : List Val → Res Val
  | [] => match st[n]? with
    | some (.lst xs) => match xs[xs.length - 1]? with
      | some y => .ok (.d y) (st.set n (.lst xs.dropLast))
      | none => .bad
    | _ => .bad
  | _ => .bad
def mPop0 (n : Nat) (st : Store) : List Val → Res Val
  | [] => match st[n]? with
    | some (.lst (y :: ys)) => .ok (.d y) (st.set n (.lst ys))
    | _ => .bad
  | _ => .bad
def mSetdefault (n : Nat) (st : Store) : List Val → Res Val
  | [.d k, .d v] => match st[n]? with
    | some (.dic kvs) => if k.key && decide (kvs.length < LIM) then (match lookK kvs k with
      | some w => .ok (.d w) st
      | none => .ok (.d v) (st.set n (.dic (putK kvs k v)))) else .bad
    | _ => .bad
  | _ => .bad
def mGet (n : Nat) (st : Store) : List Val → Res Val
  | [.d k, .d v] => match st[n]? with
    | some (.dic kvs) => if k.key then .ok (.d ((lookK kvs k).getD v)) st else .bad
    | _ => .bad
  | _ => .bad
def mBits (st : Store) : D → List Val → Res Val
  | .int i, [] => .ok (.d (.int (intBits i))) st
  | _, _ => .bad
def mthV (m : Mt) (o : Val) (vs : List Val) (st : Store) : Res Val :=
  match m, o with
  | .append, .ref n => mAppend n st vs
  | .extend, .ref n => mExtend n st vs
  | .pop, .ref n => mPop n st vs
  | .pop0, .ref n => mPop0 n st vs
  | .setdefault, .ref n => mSetdefault n st vs
  | .get, .ref n => mGet n st vs
  | .bit_length, .d x => mBits st x vs
  | _, _ => .bad
/-- the receiver's kind, ahead of the arguments -/
def mthOk (m : Mt) (o : Val) (st : Store) : Bool :=
  match m, o with
  | .append, .ref n | .extend, .ref n | .pop, .ref n | .pop0, .ref n => match st[n]? with
    | some (.lst _) => true
    | _ => false
  | .setdefault, .ref n | .get, .ref n => match st[n]? with
    | some (.dic _) => true
    | _ => false
  | .bit_length, .d (.int _) => true
  | _, _ => false
def optR {α : Type} (o : Option α) (st : Store) : Res α :=
  match o with
  | some a => .ok a st
  | none => .bad
@[simp] theorem optR_some {α : Type} (a : α) (st : Store) : optR (some a) st = .ok a st := rfl
@[simp] theorem optR_none {α : Type} (st : Store) : optR (none : Option α) st = .bad := rfl
theorem optR_ok {α : Type} {o : Option α} {st st' : Store} {a : α} (h : optR o st = .ok a st') : o = some a ∧ st' = st := by
  cases o with
  | none => cases h
  | some b => cases h; exact ⟨rfl, rfl⟩

/-! ### targets -/
def wipe (σ : Env) : List Nat → Env
  | [] => σ
  | v :: vs => (wipe σ vs).set v none
mutual
def Tg.slots : Tg → List Nat
  | .name i => [i]
  | .tup ts => Tg.slotss ts
  | .star pre i post => pre ++ i :: post
def Tg.slotss : List Tg → List Nat
  | [] => []
  | t :: r => t.slots ++ Tg.slotss r
end
def setAll : List Nat → List D → Env → Option Env
  | [], [], σ => some σ
  | i :: is, x :: xs, σ => setAll is xs (σ.set i (some (.d x)))
  | _, _, _ => none
mutual
def Tg.put : Tg → D → Env → Option Env
  | .name i, x, σ => some (σ.set i (some (.d x)))
  | .tup ts, .tup xs, σ => Tg.puts ts xs σ
  | .tup _, _, _ => none
  | .star pre i post, x, σ => match x.seq with
    | none => none
    | some xs => if xs.length < pre.length + post.length then none else
      match setAll pre (xs.take pre.length) σ with
      | none => none
      | some σ1 => setAll post (xs.drop (xs.length - post.length)) (σ1.set i (some (.d (.lst ((xs.drop pre.length).take (xs.length - pre.length - post.length))))))
def Tg.puts : List Tg → List D → Env → Option Env
  | [], [], σ => some σ
  | t :: ts, x :: xs, σ => (t.put x σ).bind fun σ1 => Tg.puts ts xs σ1
  | [], _ :: _, _ => none
  | _ :: _, [], _ => none
end
def Tg.putV (t : Tg) (v : Val) (σ : Env) : Option Env :=
  match t, v with
  | .name i, v => some (σ.set i (some v))
  | t, .d x => t.put x σ
  | _, _ => none
def Tg.putF (t : Tg) : D → Env → Option Env := t.put
theorem Tg.putF_eq (t : Tg) (y : D) (σ : Env) : t.putF y σ = t.put y σ := rfl
/-- a comprehension's turns -/
def compL (f : D → Store → Res (Option D)) : List D → Store → Res (List D)
  | [], st => .ok [] st
  | x :: r, st => (f x st).bind fun y s1 => (compL f r s1).bind fun ys s2 => .ok (match y with | some y => y :: ys | none => ys) s2
def asD : Val → Option D
  | .d x => some x
  | .ref _ => none
def asB : Val → Option Bool
  | .d (.bool b) => some b
  | _ => none
def asI : Val → Option Int
  | .d (.int i) => some i
  | _ => none

/-- one turn of a comprehension -/
def compStep (f : Env → Store → Res Val) (g : Env → Store → Res Bool) (tg : Tg) (σ : Env) (y : D) (s : Store) : Res (Option D) :=
  (optR (tg.put y σ) s).bind fun σ1 s4 => (g σ1 s4).bind fun b s5 => if b then (f σ1 s5).bind fun z s6 => (optR (asD z) s6).bind fun d s7 => .ok (some d) s7 else .ok none s5
/-- a test -/
def condB (f : Env → Store → Res Val) (σ : Env) (st : Store) : Res Bool := (f σ st).bind fun x s1 => optR (asB x) s1
mutual
def eval (C : Calls) : Ex → Env → Store → Res Val
  | .var i, σ, st => match σ[i]? with
    | some (some v) => .ok v st
    | _ => .bad
  | .con d, _, st => .ok (.d d) st
  | .tup es, σ, st => (evals C es σ st).bind fun vs s1 => (optR (asDs vs) s1).bind fun ds s2 => .ok (.d (.tup ds)) s2
  | .lst es, σ, st => (evals C es σ st).bind fun vs s1 => (optR (asDs vs) s1).bind fun ds s2 => .ok (.d (.lst ds)) s2
  | .newL e, σ, st => (eval C e σ st).bind fun v s1 => match v with
    | .d (.lst xs) => .ok (.ref s1.length) (s1 ++ [.lst xs])
    | _ => .bad
  | .newD, _, st => .ok (.ref st.length) (st ++ [.dic []])
  | .newDP e, σ, st => (eval C e σ st).bind fun v s1 => match v with
    | .d (.lst xs) => match mergeP [] xs with
      | some kvs => .ok (.ref s1.length) (s1 ++ [.dic kvs])
      | none => .bad
    | _ => .bad
  | .newDd es, σ, st => (evals C es σ st).bind fun us s1 => (optR (asDs us) s1).bind fun ds s2 => match mergeF [] ds with
    | some kvs => .ok (.ref s2.length) (s2 ++ [.dic kvs])
    | none => .bad
  | .frz e, σ, st => (eval C e σ st).bind fun v s1 => match v with
    | .ref n => match s1[n]? with
      | some (.lst xs) => .ok (.d (.lst xs)) (s1.set n .dead)
      | _ => .bad
    | _ => .bad
  | .bin o a b, σ, st => (eval C a σ st).bind fun x s1 => (eval C b σ s1).bind fun y s2 => (optR (deref s2 x) s2).bind fun p s3 => (optR (deref s2 y) s3).bind fun q s4 => (optR (D.bin o p q) s4).bind fun r s5 => .ok (.d r) s5
  | .neg a, σ, st => (eval C a σ st).bind fun x s1 => (optR (asI x) s1).bind fun i s2 => .ok (.d (.int (-i))) s2
  | .cmp o a b, σ, st => (eval C a σ st).bind fun x s1 => (eval C b σ s1).bind fun y s2 => (optR (cmpV o s2 x y) s2).bind fun r s3 => .ok (.d (.bool r)) s3
  | .chain o o' a b c, σ, st => (eval C a σ st).bind fun x s1 => (eval C b σ s1).bind fun y s2 => (optR (cmpV o s2 x y) s2).bind fun r s3 =>
      if r then (eval C c σ s3).bind fun z s4 => (optR (cmpV o' s4 y z) s4).bind fun q s5 => .ok (.d (.bool q)) s5 else .ok (.d (.bool false)) s3
  | .and a b, σ, st => (eval C a σ st).bind fun x s1 => (optR (asB x) s1).bind fun c s2 => if c then eval C b σ s2 else .ok (.d (.bool false)) s2
  | .or a b, σ, st => (eval C a σ st).bind fun x s1 => (optR (asB x) s1).bind fun c s2 => if c then .ok (.d (.bool true)) s2 else eval C b σ s2
  | .not a, σ, st => (eval C a σ st).bind fun x s1 => (optR (asB x) s1).bind fun c s2 => .ok (.d (.bool (!c))) s2
  | .ite c a b, σ, st => (eval C c σ st).bind fun x s1 => (optR (asB x) s1).bind fun c s2 => if c then eval C a σ s2 else eval C b σ s2
  | .idx a b, σ, st => (eval C a σ st).bind fun x s1 => (eval C b σ s1).bind fun y s2 => (optR (indexV s2 x y) s2).bind fun r s3 => .ok (.d r) s3
  | .sli a lo hi, σ, st => (eval C a σ st).bind fun x s1 => (evalO C lo σ s1).bind fun l s2 => (evalO C hi σ s2).bind fun h s3 => (optR (deref s3 x) s3).bind fun p s4 => (optR (p.slice l h) s4).bind fun r s5 => .ok (.d r) s5
  | .call f es, σ, st => (evals C es σ st).bind fun vs s1 => C f vs s1
  | .callP f es perm, σ, st => (evals C es σ st).bind fun vs s1 => C f (perm.filterMap fun i => vs[i]?) s1
  | .blt f es, σ, st => (evals C es σ st).bind fun vs s1 => bltV f vs s1
  | .mth m o es, σ, st => (eval C o σ st).bind fun x s1 => if mthOk m x s1 then (evals C es σ s1).bind fun vs s2 => mthV m x vs s2 else .bad
  | .isi e ts, σ, st => (eval C e σ st).bind fun x s1 => (optR (deref s1 x) s1).bind fun p s2 => .ok (.d (.bool (ts.any fun t => p.tyOk t))) s2
  | .comp elt tg it cs, σ, st => (eval C it σ st).bind fun x s1 => (optR (asD x) s1).bind fun p s2 => (optR p.seq s2).bind fun xs s3 =>
      (compL (compStep (eval C elt) (conds C cs) tg (wipe σ tg.slots)) xs s3).bind fun ys s8 => .ok (.d (.lst ys)) s8
def evals (C : Calls) : List Ex → Env → Store → Res (List Val)
  | [], _, st => .ok [] st
  | e :: es, σ, st => (eval C e σ st).bind fun v s1 => (evals C es σ s1).bind fun vs s2 => .ok (v :: vs) s2
def evalO (C : Calls) : Option Ex → Env → Store → Res (Option Int)
  | none, _, st => .ok none st
  | some e, σ, st => (eval C e σ st).bind fun v s1 => (optR (asI v) s1).bind fun i s2 => .ok (some i) s2
def conds (C : Calls) : List Ex → Env → Store → Res Bool
  | [], _, st => .ok true st
  | e :: es, σ, st => (eval C e σ st).bind fun v s1 => (optR (asB v) s1).bind fun c s2 => if c then conds C es σ s2 else .ok false s2
end

/-! ### statements -/
inductive Out where
  | nx (σ : Env) | ret (v : Val) | brk (σ : Env) | cnt (σ : Env)
/-- a for's turns -/
def loopL (g : D → Env → Option Env) (f : Env → Store → Res Out) : List D → Env → Store → Res Out
  | [], σ, st => .ok (.nx σ) st
  | x :: r, σ, st => (optR (g x σ) st).bind fun σ1 s1 => (f σ1 s1).bind fun o s2 => match o with
    | .nx σ2 => loopL g f r σ2 s2
    | .cnt σ2 => loopL g f r σ2 s2
    | .brk σ2 => .ok (.nx σ2) s2
    | .ret v => .ok (.ret v) s2
/-- a while's turns -/
def whileL (c : Env → Store → Res Bool) (f : Env → Store → Res Out) : Nat → Env → Store → Res Out
  | 0, _, _ => .bad
  | n + 1, σ, st => (c σ st).bind fun b s1 => if b then (f σ s1).bind fun o s2 => (match o with
    | .nx σ2 => whileL c f n σ2 s2
    | .cnt σ2 => whileL c f n σ2 s2
    | .brk σ2 => .ok (.nx σ2) s2
    | .ret v => .ok (.ret v) s2) else .ok (.nx σ) s1
def setV (o i : Val) (x : D) (st : Store) : Option Store :=
  match o, i with
  | .ref n, .d (.int k) => match st[n]? with
    | some (.lst xs) => (ixN xs.length k).map fun j => st.set n (.lst (xs.set j x))
    | some (.dic kvs) => if kvs.length < LIM then some (st.set n (.dic (putK kvs (.int k) x))) else none
    | _ => none
  | .ref n, .d (.str k) => match st[n]? with
    | some (.dic kvs) => if kvs.length < LIM then some (st.set n (.dic (putK kvs (.str k) x))) else none
    | _ => none
  | _, _ => none
def augI : Op → Int → Int → Option Int
  | .add, i, j => some (i + j)
  | .sub, i, j => some (i - j)
  | _, _, _ => none
theorem whileL_mono {c : Env → Store → Res Bool} {f : Env → Store → Res Out} : ∀ {n m : Nat} {σ : Env} {st : Store} {r : Out} {s : Store}, n ≤ m → whileL c f n σ st = .ok r s → whileL c f m σ st = .ok r s
  | 0, _, _, _, _, _, _, h => by simp [whileL] at h
  | n + 1, 0, _, _, _, _, hl, _ => by omega
  | n + 1, m + 1, σ, st, r, s, hl, h => by
    rw [whileL] at h ⊢
    obtain ⟨b, s1, e1, h1⟩ := Res.bind_eq_ok h
    rw [e1, Res.bind_ok]
    cases b with
    | false => simpa using h1
    | true =>
      simp only [if_true] at h1 ⊢
      obtain ⟨o, s2, e2, h2⟩ := Res.bind_eq_ok h1
      rw [e2, Res.bind_ok]
      cases o with
      | nx σ2 => exact whileL_mono (by omega) h2
      | cnt σ2 => exact whileL_mono (by omega) h2
      | brk σ2 => exact h2
      | ret v => exact h2
open Classical in
/-- a while: as many turns as it takes -/
noncomputable def whileU (c : Env → Store → Res Bool) (f : Env → Store → Res Out) (σ : Env) (st : Store) : Res Out :=
  if h : ∃ n r s, whileL c f n σ st = .ok r s then whileL c f h.choose σ st else .bad
theorem whileU_of {c : Env → Store → Res Bool} {f : Env → Store → Res Out} {n : Nat} {σ : Env} {st : Store} {r : Out} {s : Store} (h : whileL c f n σ st = .ok r s) : whileU c f σ st = .ok r s := by
  have hx : ∃ n r s, whileL c f n σ st = .ok r s := ⟨n, r, s, h⟩
  unfold whileU
  rw [dif_pos hx]
  obtain ⟨r', s', e⟩ := hx.choose_spec
  rw [e]
  have h1 := whileL_mono (Nat.le_max_left n hx.choose) h
  have h2 := whileL_mono (Nat.le_max_right n hx.choose) e
  rw [h1] at h2
  exact h2.symm
theorem whileU_ok {c : Env → Store → Res Bool} {f : Env → Store → Res Out} {σ : Env} {st : Store} {r : Out} {s : Store} (h : whileU c f σ st = .ok r s) : ∃ n, whileL c f n σ st = .ok r s := by
  unfold whileU at h
  split at h
  · exact ⟨_, h⟩
  · cases h
mutual
noncomputable def exec (C : Calls) : Stm → Env → Store → Res Out
  | .asg t e, σ, st => (eval C e σ st).bind fun v s1 => (optR (t.putV v σ) s1).bind fun σ1 s2 => .ok (.nx σ1) s2
  | .par i j a b, σ, st => (eval C a σ st).bind fun x s1 => (eval C b σ s1).bind fun y s2 => .ok (.nx ((σ.set i (some x)).set j (some y))) s2
  | .set o i e, σ, st => (eval C e σ st).bind fun v s1 => (eval C o σ s1).bind fun x s2 => (eval C i σ s2).bind fun k s3 => (optR (asD v) s3).bind fun d s4 => (optR (setV x k d s4) s4).bind fun s5 _ => .ok (.nx σ) s5
  | .ex e, σ, st => (eval C e σ st).bind fun _ s1 => .ok (.nx σ) s1
  | .ret e, σ, st => (eval C e σ st).bind fun v s1 => .ok (.ret v) s1
  | .ite c a b, σ, st => (eval C c σ st).bind fun x s1 => (optR (asB x) s1).bind fun c s2 => if c then execs C a σ s2 else execs C b σ s2
  | .loop t it body, σ, st => (eval C it σ st).bind fun x s1 => (optR (asD x) s1).bind fun p s2 => (optR p.seq s2).bind fun xs s3 => loopL t.putF (execs C body) xs σ s3
  | .while c body, σ, st => whileU (condB (eval C c)) (execs C body) σ st
  | .aug i o e, σ, st => match σ[i]? with
    | some (some x) => (eval C e σ st).bind fun y s1 => (optR (asI x) s1).bind fun p s2 => (optR (asI y) s2).bind fun q s3 => (optR (augI o p q) s3).bind fun r s4 => .ok (.nx (σ.set i (some (.d (.int r))))) s4
    | _ => .bad
  | .pass, σ, st => .ok (.nx σ) st
  | .brk, σ, st => .ok (.brk σ) st
  | .cnt, σ, st => .ok (.cnt σ) st
  | .never, _, _ => .bad
noncomputable def execs (C : Calls) : List Stm → Env → Store → Res Out
  | [], σ, st => .ok (.nx σ) st
  | s :: r, σ, st => (exec C s σ st).bind fun o s1 => match o with
    | .nx σ1 => execs C r σ1 s1
    | o => .ok o s1
end
/-! ### the equations, for whole applications alone -/
set_option autoImplicit true in
@[simp] theorem eval_var {C : Calls} {σ : Env} {st : Store} : eval C (Ex.var i) σ st = (match σ[i]? with
    | some (some v) => .ok v st
    | _ => .bad) := by rw [eval]
set_option autoImplicit true in
@[simp] theorem eval_con {C : Calls} {σ : Env} {st : Store} : eval C (Ex.con d) σ st = (.ok (.d d) st) := by rw [eval]
set_option autoImplicit true in
@[simp] theorem eval_tup {C : Calls} {σ : Env} {st : Store} : eval C (Ex.tup es) σ st = ((evals C es σ st).bind fun vs s1 => (optR (asDs vs) s1).bind fun ds s2 => .ok (.d (.tup ds)) s2) := by rw [eval]
set_option autoImplicit true in
@[simp] theorem eval_lst {C : Calls} {σ : Env} {st : Store} : eval C (Ex.lst es) σ st = ((evals C es σ st).bind fun vs s1 => (optR (asDs vs) s1).bind fun ds s2 => .ok (.d (.lst ds)) s2) := by rw [eval]
set_option autoImplicit true in
@[simp] theorem eval_newL {C : Calls} {σ : Env} {st : Store} : eval C (Ex.newL e) σ st = ((eval C e σ st).bind fun v s1 => match v with
    | .d (.lst xs) => .ok (.ref s1.length) (s1 ++ [.lst xs])
    | _ => .bad) := by rw [eval]
set_option autoImplicit true in
@[simp] theorem eval_newD {C : Calls} {σ : Env} {st : Store} : eval C (Ex.newD) σ st = (.ok (.ref st.length) (st ++ [.dic []])) := by rw [eval]
set_option autoImplicit true in
@[simp] theorem eval_newDP {C : Calls} {σ : Env} {st : Store} : eval C (Ex.newDP e) σ st = ((eval C e σ st).bind fun v s1 => match v with
    | .d (.lst xs) => match mergeP [] xs with
      | some kvs => .ok (.ref s1.length) (s1 ++ [.dic kvs])
      | none => .bad
    | _ => .bad) := by rw [eval]
set_option autoImplicit true in
@[simp] theorem eval_newDd {C : Calls} {σ : Env} {st : Store} : eval C (Ex.newDd es) σ st = ((evals C es σ st).bind fun us s1 => (optR (asDs us) s1).bind fun ds s2 => match mergeF [] ds with
    | some kvs => .ok (.ref s2.length) (s2 ++ [.dic kvs])
    | none => .bad) := by rw [eval]
set_option autoImplicit true in
@[simp] theorem eval_frz {C : Calls} {σ : Env} {st : Store} : eval C (Ex.frz e) σ st = ((eval C e σ st).bind fun v s1 => match v with
    | .ref n => match s1[n]? with
      | some (.lst xs) => .ok (.d (.lst xs)) (s1.set n .dead)
      | _ => .bad
    | _ => .bad) := by rw [eval]
set_option autoImplicit true in
@[simp] theorem eval_bin {C : Calls} {σ : Env} {st : Store} : eval C (Ex.bin o a b) σ st = ((eval C a σ st).bind fun x s1 => (eval C b σ s1).bind fun y s2 => (optR (deref s2 x) s2).bind fun p s3 => (optR (deref s2 y) s3).bind fun q s4 => (optR (D.bin o p q) s4).bind fun r s5 => .ok (.d r) s5) := by rw [eval]
set_option autoImplicit true in
@[simp] theorem eval_neg {C : Calls} {σ : Env} {st : Store} : eval C (Ex.neg a) σ st = ((eval C a σ st).bind fun x s1 => (optR (asI x) s1).bind fun i s2 => .ok (.d (.int (-i))) s2) := by rw [eval]
set_option autoImplicit true in
@[simp] theorem eval_cmp {C : Calls} {σ : Env} {st : Store} : eval C (Ex.cmp o a b) σ st = ((eval C a σ st).bind fun x s1 => (eval C b σ s1).bind fun y s2 => (optR (cmpV o s2 x y) s2).bind fun r s3 => .ok (.d (.bool r)) s3) := by rw [eval]
set_option autoImplicit true in
@[simp] theorem eval_chain {C : Calls} {σ : Env} {st : Store} : eval C (Ex.chain o o' a b c) σ st = ((eval C a σ st).bind fun x s1 => (eval C b σ s1).bind fun y s2 => (optR (cmpV o s2 x y) s2).bind fun r s3 =>
      if r then (eval C c σ s3).bind fun z s4 => (optR (cmpV o' s4 y z) s4).bind fun q s5 => .ok (.d (.bool q)) s5 else .ok (.d (.bool false)) s3) := by rw [eval]
set_option autoImplicit true in
@[simp] theorem eval_and {C : Calls} {σ : Env} {st : Store} : eval C (Ex.and a b) σ st = ((eval C a σ st).bind fun x s1 => (optR (asB x) s1).bind fun c s2 => if c then eval C b σ s2 else .ok (.d (.bool false)) s2) := by rw [eval]
set_option autoImplicit true in
@[simp] theorem eval_or {C : Calls} {σ : Env} {st : Store} : eval C (Ex.or a b) σ st = ((eval C a σ st).bind fun x s1 => (optR (asB x) s1).bind fun c s2 => if c then .ok (.d (.bool true)) s2 else eval C b σ s2) := by rw [eval]
set_option autoImplicit true in
@[simp] theorem eval_not {C : Calls} {σ : Env} {st : Store} : eval C (Ex.not a) σ st = ((eval C a σ st).bind fun x s1 => (optR (asB x) s1).bind fun c s2 => .ok (.d (.bool (!c))) s2) := by rw [eval]
set_option autoImplicit true in
@[simp] theorem eval_ite {C : Calls} {σ : Env} {st : Store} : eval C (Ex.ite c a b) σ st = ((eval C c σ st).bind fun x s1 => (optR (asB x) s1).bind fun c s2 => if c then eval C a σ s2 else eval C b σ s2) := by rw [eval]
set_option autoImplicit true in
@[simp] theorem eval_idx {C : Calls} {σ : Env} {st : Store} : eval C (Ex.idx a b) σ st = ((eval C a σ st).bind fun x s1 => (eval C b σ s1).bind fun y s2 => (optR (indexV s2 x y) s2).bind fun r s3 => .ok (.d r) s3) := by rw [eval]
set_option autoImplicit true in
@[simp] theorem eval_sli {C : Calls} {σ : Env} {st : Store} : eval C (Ex.sli a lo hi) σ st = ((eval C a σ st).bind fun x s1 => (evalO C lo σ s1).bind fun l s2 => (evalO C hi σ s2).bind fun h s3 => (optR (deref s3 x) s3).bind fun p s4 => (optR (p.slice l h) s4).bind fun r s5 => .ok (.d r) s5) := by rw [eval]
set_option autoImplicit true in
@[simp] theorem eval_call {C : Calls} {σ : Env} {st : Store} : eval C (Ex.call f es) σ st = ((evals C es σ st).bind fun vs s1 => C f vs s1) := by rw [eval]
set_option autoImplicit true in
@[simp] theorem eval_callP {C : Calls} {σ : Env} {st : Store} : eval C (Ex.callP f es perm) σ st = ((evals C es σ st).bind fun vs s1 => C f (perm.filterMap fun i => vs[i]?) s1) := by rw [eval]
set_option autoImplicit true in
@[simp] theorem eval_blt {C : Calls} {σ : Env} {st : Store} : eval C (Ex.blt f es) σ st = ((evals C es σ st).bind fun vs s1 => bltV f vs s1) := by rw [eval]
set_option autoImplicit true in
@[simp] theorem eval_mth {C : Calls} {σ : Env} {st : Store} : eval C (Ex.mth m o es) σ st = ((eval C o σ st).bind fun x s1 => if mthOk m x s1 then (evals C es σ s1).bind fun vs s2 => mthV m x vs s2 else .bad) := by rw [eval]
set_option autoImplicit true in
@[simp] theorem eval_isi {C : Calls} {σ : Env} {st : Store} : eval C (Ex.isi e ts) σ st = ((eval C e σ st).bind fun x s1 => (optR (deref s1 x) s1).bind fun p s2 => .ok (.d (.bool (ts.any fun t => p.tyOk t))) s2) := by rw [eval]
set_option autoImplicit true in
@[simp] theorem eval_comp {C : Calls} {σ : Env} {st : Store} : eval C (Ex.comp elt tg it cs) σ st = ((eval C it σ st).bind fun x s1 => (optR (asD x) s1).bind fun p s2 => (optR p.seq s2).bind fun xs s3 =>
      (compL (compStep (eval C elt) (conds C cs) tg (wipe σ tg.slots)) xs s3).bind fun ys s8 => .ok (.d (.lst ys)) s8) := by rw [eval]
set_option autoImplicit true in
@[simp] theorem evals_nil {C : Calls} {σ : Env} {st : Store} : evals C ([]) σ st = (.ok [] st) := by rw [evals]
set_option autoImplicit true in
@[simp] theorem evals_cons {C : Calls} {σ : Env} {st : Store} : evals C (e :: es) σ st = ((eval C e σ st).bind fun v s1 => (evals C es σ s1).bind fun vs s2 => .ok (v :: vs) s2) := by rw [evals]
set_option autoImplicit true in
@[simp] theorem evalO_none {C : Calls} {σ : Env} {st : Store} : evalO C (none) σ st = (.ok none st) := by rw [evalO]
set_option autoImplicit true in
@[simp] theorem evalO_some {C : Calls} {σ : Env} {st : Store} : evalO C (some e) σ st = ((eval C e σ st).bind fun v s1 => (optR (asI v) s1).bind fun i s2 => .ok (some i) s2) := by rw [evalO]
set_option autoImplicit true in
@[simp] theorem conds_nil {C : Calls} {σ : Env} {st : Store} : conds C ([]) σ st = (.ok true st) := by rw [conds]
set_option autoImplicit true in
@[simp] theorem conds_cons {C : Calls} {σ : Env} {st : Store} : conds C (e :: es) σ st = ((eval C e σ st).bind fun v s1 => (optR (asB v) s1).bind fun c s2 => if c then conds C es σ s2 else .ok false s2) := by rw [conds]
set_option autoImplicit true in
@[simp] theorem exec_asg {C : Calls} {σ : Env} {st : Store} : exec C (Stm.asg t e) σ st = ((eval C e σ st).bind fun v s1 => (optR (t.putV v σ) s1).bind fun σ1 s2 => .ok (.nx σ1) s2) := by rw [exec]
set_option autoImplicit true in
@[simp] theorem exec_par {C : Calls} {σ : Env} {st : Store} : exec C (Stm.par i j a b) σ st = ((eval C a σ st).bind fun x s1 => (eval C b σ s1).bind fun y s2 => .ok (.nx ((σ.set i (some x)).set j (some y))) s2) := by rw [exec]
set_option autoImplicit true in
@[simp] theorem exec_set {C : Calls} {σ : Env} {st : Store} : exec C (Stm.set o i e) σ st = ((eval C e σ st).bind fun v s1 => (eval C o σ s1).bind fun x s2 => (eval C i σ s2).bind fun k s3 => (optR (asD v) s3).bind fun d s4 => (optR (setV x k d s4) s4).bind fun s5 _ => .ok (.nx σ) s5) := by rw [exec]
set_option autoImplicit true in
@[simp] theorem exec_ex {C : Calls} {σ : Env} {st : Store} : exec C (Stm.ex e) σ st = ((eval C e σ st).bind fun _ s1 => .ok (.nx σ) s1) := by rw [exec]
set_option autoImplicit true in
@[simp] theorem exec_ret {C : Calls} {σ : Env} {st : Store} : exec C (Stm.ret e) σ st = ((eval C e σ st).bind fun v s1 => .ok (.ret v) s1) := by rw [exec]
set_option autoImplicit true in
@[simp] theorem exec_ite {C : Calls} {σ : Env} {st : Store} : exec C (Stm.ite c a b) σ st = ((eval C c σ st).bind fun x s1 => (optR (asB x) s1).bind fun c s2 => if c then execs C a σ s2 else execs C b σ s2) := by rw [exec]
set_option autoImplicit true in
@[simp] theorem exec_loop {C : Calls} {σ : Env} {st : Store} : exec C (Stm.loop t it body) σ st = ((eval C it σ st).bind fun x s1 => (optR (asD x) s1).bind fun p s2 => (optR p.seq s2).bind fun xs s3 => loopL t.putF (execs C body) xs σ s3) := by rw [exec]
set_option autoImplicit true in
@[simp] theorem exec_while {C : Calls} {σ : Env} {st : Store} : exec C (Stm.while c body) σ st = (whileU (condB (eval C c)) (execs C body) σ st) := by rw [exec]
set_option autoImplicit true in
@[simp] theorem exec_aug {C : Calls} {σ : Env} {st : Store} : exec C (Stm.aug i o e) σ st = (match σ[i]? with
    | some (some x) => (eval C e σ st).bind fun y s1 => (optR (asI x) s1).bind fun p s2 => (optR (asI y) s2).bind fun q s3 => (optR (augI o p q) s3).bind fun r s4 => .ok (.nx (σ.set i (some (.d (.int r))))) s4
    | _ => .bad) := by rw [exec]
set_option autoImplicit true in
@[simp] theorem exec_pass {C : Calls} {σ : Env} {st : Store} : exec C (Stm.pass) σ st = (.ok (.nx σ) st) := by rw [exec]
set_option autoImplicit true in
@[simp] theorem exec_brk {C : Calls} {σ : Env} {st : Store} : exec C (Stm.brk) σ st = (.ok (.brk σ) st) := by rw [exec]
set_option autoImplicit true in
@[simp] theorem exec_cnt {C : Calls} {σ : Env} {st : Store} : exec C (Stm.cnt) σ st = (.ok (.cnt σ) st) := by rw [exec]
set_option autoImplicit true in
@[simp] theorem exec_never {C : Calls} {σ : Env} {st : Store} : exec C (Stm.never) σ st = (.bad) := by rw [exec]
set_option autoImplicit true in
@[simp] theorem execs_nil {C : Calls} {σ : Env} {st : Store} : execs C ([]) σ st = (.ok (.nx σ) st) := by rw [execs]
set_option autoImplicit true in
@[simp] theorem execs_cons {C : Calls} {σ : Env} {st : Store} : execs C (s :: r) σ st = ((exec C s σ st).bind fun o s1 => match o with
    | .nx σ1 => execs C r σ1 s1
    | o => .ok o s1) := by rw [execs]
/-- what a def leaves: its own cells are dropped, but one that it hands back -/
def leave (m : Nat) (v : Val) (st : Store) : Res Val :=
  match v with
  | .d x => .ok (.d x) (st.take m)
  | .ref n => if n < m then .ok (.ref n) (st.take m) else match st[n]? with
    | some c => .ok (.ref m) (st.take m ++ [c])
    | none => .bad
noncomputable def runFn (C : Calls) (f : Fn) (vs : List Val) (st : Store) : Res Val :=
  if vs.length = f.pars ∧ f.pars ≤ f.many then
    (execs C f.body (vs.map some ++ List.replicate (f.many - f.pars) none) st).bind fun o s1 => match o with
      | .nx _ => leave st.length (.d .non) s1
      | .ret v => leave st.length v s1
      | _ => .bad
  else .bad
abbrev Tab := String → Option Fn
noncomputable def callN (T : Tab) : Nat → Calls
  | 0, _, _, _ => .bad
  | n + 1, f, vs, st => match T f with
    | some fn => runFn (callN T n) fn vs st
    | none => .bad
theorem callN_run {T : Tab} {f : String} {fn : Fn} (h : T f = some fn) (n : Nat) (vs : List Val) (st : Store) : callN T (n + 1) f vs st = runFn (callN T n) fn vs st := by rw [callN, h]
/-- a table by a list -/
def tabOf (l : List (String × Fn)) : Tab := fun s => l.lookup s
theorem tab_mem {l : List (String × Fn)} {f : String} {fn : Fn} (h : tabOf l f = some fn) : (f, fn) ∈ l := by
  unfold tabOf at h
  induction l with
  | nil => cases h
  | cons p l ih =>
    obtain ⟨g, gn⟩ := p
    simp only [List.lookup] at h
    split at h
    · rename_i e
      cases h
      rw [eq_of_beq e]
      exact List.mem_cons_self
    · exact List.mem_cons_of_mem _ (ih h)
end Ir

set_option Elab.async false
namespace Snd
open PySem PySem.Spec PyProof.Rows L2
/-! ### what stands for what -/
/-- the cells' addresses by number; addresses that are kept for a list that is being made -/
structure Rho where
  ix : List (Option Addr)
  res : List Addr := []
def Rho.own (ρ : Rho) (a : Addr) : Prop := some a ∈ ρ.ix ∨ a ∈ ρ.res
def TpAt (ρ : Rho) (K : PySem.W.Frag) (H : Hp) (a : Addr) (ys : List V) : Prop :=
  (Rd H a (.tup ys) ∧ ¬ ρ.own a) ∨
    ∃ (o : Obj) (its : Array Value) (n : Nat), K.lookup a = some o ∧ o.cls = .type "tuple" ∧ o.data = .seq its n ∧ its.size ≤ sizeLine ∧ Vals ys its.toList
theorem TpAt.sq {ρ : Rho} {K : PySem.W.Frag} {H : Hp} {a : Addr} {ys : List V} (h : TpAt ρ K H a ys) : SqT K H a ys := by
  rcases h with ⟨h, _⟩ | h
  · exact .inl h
  · exact .inr h
def LrAt (ρ : Rho) (K : PySem.W.Frag) (H : Hp) (a : Addr) (ys : List V) : Prop :=
  ((∃ o, H a = some (.frz o (.lst ys))) ∧ ¬ ρ.own a) ∨
    ∃ (o : Obj) (its : Array Value) (n : Nat), K.lookup a = some o ∧ o.cls = .type "list" ∧ o.dict = none ∧ o.data = .seq its n ∧ its.size ≤ sizeLine ∧ Vals ys its.toList
theorem LrAt.sq {ρ : Rho} {K : PySem.W.Frag} {H : Hp} {a : Addr} {ys : List V} (h : LrAt ρ K H a ys) : SqL K H a ys := by
  rcases h with ⟨h, _⟩ | h
  · exact .inl (.inr h)
  · exact .inr h
mutual
inductive RD (ρ : Rho) (K : PySem.W.Frag) (H : Hp) : Ir.D → V → Prop
  | non : RD ρ K H .non .non
  | bool (b : Bool) : RD ρ K H (.bool b) (.bl b)
  | int (i : Int) : RD ρ K H (.int i) (.int i)
  | str (s : String) : RD ρ K H (.str s) (.str (Str.ofString s))
  | tup {a : Addr} {xs : List Ir.D} {ys : List V} : TpAt ρ K H a ys → ys.length ≤ sizeLine → RDs ρ K H xs ys → RD ρ K H (.tup xs) (.ref a)
  | lst {a : Addr} {xs : List Ir.D} {ys : List V} : H a = some (.lst ys) → ¬ ρ.own a → ys.length ≤ sizeLine → RDs ρ K H xs ys → RD ρ K H (.lst xs) (.ref a)
  | ro {a : Addr} {xs : List Ir.D} {ys : List V} : LrAt ρ K H a ys → ys.length ≤ sizeLine → RDs ρ K H xs ys → RD ρ K H (.ro xs) (.ref a)
inductive RDs (ρ : Rho) (K : PySem.W.Frag) (H : Hp) : List Ir.D → List V → Prop
  | nil : RDs ρ K H [] []
  | cons {x : Ir.D} {xs : List Ir.D} {y : V} {ys : List V} : RD ρ K H x y → RDs ρ K H xs ys → RDs ρ K H (x :: xs) (y :: ys)
end
structure Ext (ρ : Rho) (H : Hp) (ρ' : Rho) (H' : Hp) : Prop where
  fr : ∀ a o, H a = some o → some a ∉ ρ.ix → H' a = some o
  nw : ∀ a, ρ'.own a → ρ.own a ∨ H a = none
  len : ρ.ix.length ≤ ρ'.ix.length
  ix : ∀ (n : Nat) (a : Addr), ρ'.ix[n]? = some (some a) → n < ρ.ix.length → ρ.ix[n]? = some (some a)
  rs : ∀ a ∈ ρ.res, a ∈ ρ'.res
  rn : ∀ a ∈ ρ.res, some a ∉ ρ.ix → some a ∉ ρ'.ix
  al : ∀ a, H' a = none → H a = none
theorem Ext.refl (ρ : Rho) (H : Hp) : Ext ρ H ρ H := ⟨fun _ _ h _ => h, fun _ h => .inl h, Nat.le_refl _, fun _ _ h _ => h, fun _ h => h, fun _ _ h => h, fun _ h => h⟩
theorem own_no {ρ : Rho} {a : Addr} (h : ¬ ρ.own a) : some a ∉ ρ.ix := fun z => h (.inl z)
theorem Ext.notin {ρ ρ' : Rho} {H H' : Hp} (e : Ext ρ H ρ' H') {a : Addr} {o : HO} (h : H a = some o) (n : ¬ ρ.own a) : ¬ ρ'.own a := fun z => by
  rcases e.nw a z with q | q
  · exact n q
  · rw [h] at q; cases q
theorem Ext.notix {ρ ρ' : Rho} {H H' : Hp} (e : Ext ρ H ρ' H') {a : Addr} {o : HO} (h : H a = some o) (n : some a ∉ ρ.ix) : some a ∉ ρ'.ix := by
  by_cases hr : a ∈ ρ.res
  · exact e.rn a hr n
  · exact own_no (e.notin h (fun z => z.elim n hr))
theorem Ext.trans {ρ ρ1 ρ2 : Rho} {H H1 H2 : Hp} (e : Ext ρ H ρ1 H1) (f : Ext ρ1 H1 ρ2 H2) : Ext ρ H ρ2 H2 where
  fr := fun a o h n => f.fr a o (e.fr a o h n) (e.notix h n)
  nw := fun a h => by
    rcases f.nw a h with q | q
    · exact e.nw a q
    · by_cases ha : some a ∈ ρ.ix
      · exact .inl (.inl ha)
      · cases hh : H a with
        | none => exact .inr rfl
        | some o => rw [e.fr a o hh ha] at q; cases q
  len := Nat.le_trans e.len f.len
  ix := fun n a h hn => e.ix n a (f.ix n a h (Nat.lt_of_lt_of_le hn e.len)) hn
  rs := fun a h => f.rs a (e.rs a h)
  rn := fun a h n => f.rn a (e.rs a h) (e.rn a h n)
  al := fun a h => e.al a (f.al a h)
theorem upd_al {H : Hp} {p : Addr} {o : HO} (a : Addr) (h : upd H p o a = none) : H a = none := by
  by_cases e : a = p
  · subst e; rw [upd_same] at h; cases h
  · rw [upd_ne e] at h; exact h
theorem TpAt.mono {ρ ρ' : Rho} {K : PySem.W.Frag} {H H' : Hp} (e : Ext ρ H ρ' H') {a : Addr} {ys : List V} (h : TpAt ρ K H a ys) : TpAt ρ' K H' a ys := by
  rcases h with ⟨h, n⟩ | h
  · rcases h with h | ⟨o, h⟩
    · exact .inl ⟨.inl (e.fr _ _ h (own_no n)), e.notin h n⟩
    · exact .inl ⟨.inr ⟨o, e.fr _ _ h (own_no n)⟩, e.notin h n⟩
  · exact .inr h
theorem LrAt.mono {ρ ρ' : Rho} {K : PySem.W.Frag} {H H' : Hp} (e : Ext ρ H ρ' H') {a : Addr} {ys : List V} (h : LrAt ρ K H a ys) : LrAt ρ' K H' a ys := by
  rcases h with ⟨⟨o, h⟩, n⟩ | h
  · exact .inl ⟨⟨o, e.fr _ _ h (own_no n)⟩, e.notin h n⟩
  · exact .inr h
mutual
theorem RD.mono {ρ ρ' : Rho} {K : PySem.W.Frag} {H H' : Hp} (e : Ext ρ H ρ' H') : ∀ {x : Ir.D} {v : V}, RD ρ K H x v → RD ρ' K H' x v
  | _, _, .non => .non
  | _, _, .bool b => .bool b
  | _, _, .int i => .int i
  | _, _, .str s => .str s
  | _, _, .tup h z r => .tup (h.mono e) z (RDs.mono e r)
  | _, _, .ro h z r => .ro (h.mono e) z (RDs.mono e r)
  | _, _, .lst h n z r => .lst (e.fr _ _ h (own_no n)) (e.notin h n) z (RDs.mono e r)
theorem RDs.mono {ρ ρ' : Rho} {K : PySem.W.Frag} {H H' : Hp} (e : Ext ρ H ρ' H') : ∀ {xs : List Ir.D} {vs : List V}, RDs ρ K H xs vs → RDs ρ' K H' xs vs
  | _, _, .nil => .nil
  | _, _, .cons h r => .cons (RD.mono e h) (RDs.mono e r)
end
section
variable {ρ : Rho} {K : PySem.W.Frag} {H : Hp}
theorem RDs.length : ∀ {xs : List Ir.D} {vs : List V}, RDs ρ K H xs vs → xs.length = vs.length
  | _, _, .nil => rfl
  | _, _, .cons _ r => congrArg (· + 1) r.length
theorem RDs.get : ∀ {xs : List Ir.D} {vs : List V} {i : Nat} {x : Ir.D}, RDs ρ K H xs vs → xs[i]? = some x → ∃ v, vs[i]? = some v ∧ RD ρ K H x v
  | _, _, _, _, .nil, h => by simp at h
  | _, _, 0, _, .cons h _, e => by simp at e; subst e; exact ⟨_, rfl, h⟩
  | _, _, i + 1, _, .cons _ r, e => by
    obtain ⟨v, h1, h2⟩ := RDs.get (i := i) r (by simpa using e)
    exact ⟨v, by simpa using h1, h2⟩
theorem RDs.append : ∀ {xs ys : List Ir.D} {vs ws : List V}, RDs ρ K H xs vs → RDs ρ K H ys ws → RDs ρ K H (xs ++ ys) (vs ++ ws)
  | _, _, _, _, .nil, s => s
  | _, _, _, _, .cons h r, s => .cons h (RDs.append r s)
theorem RDs.drop : ∀ (n : Nat) {xs : List Ir.D} {vs : List V}, RDs ρ K H xs vs → RDs ρ K H (xs.drop n) (vs.drop n)
  | 0, _, _, r => r
  | _ + 1, _, _, .nil => .nil
  | n + 1, _, _, .cons _ r => RDs.drop n r
theorem RDs.take : ∀ (n : Nat) {xs : List Ir.D} {vs : List V}, RDs ρ K H xs vs → RDs ρ K H (xs.take n) (vs.take n)
  | 0, _, _, _ => .nil
  | _ + 1, _, _, .nil => .nil
  | n + 1, _, _, .cons h r => .cons h (RDs.take n r)
theorem RDs.set {x : Ir.D} {v : V} (h : RD ρ K H x v) : ∀ (n : Nat) {xs : List Ir.D} {vs : List V}, RDs ρ K H xs vs → RDs ρ K H (xs.set n x) (vs.set n v)
  | _, _, _, .nil => .nil
  | 0, _, _, .cons _ r => .cons h r
  | n + 1, _, _, .cons q r => .cons q (RDs.set h n r)
end
def RV (ρ : Rho) (K : PySem.W.Frag) (H : Hp) : Ir.Val → V → Prop
  | .d x, v => RD ρ K H x v
  | .ref n, v => n < ρ.ix.length ∧ ∃ a, v = .ref a ∧ ∀ b, ρ.ix[n]? = some (some b) → b = a
theorem RV.mono {ρ ρ' : Rho} {K : PySem.W.Frag} {H H' : Hp} (e : Ext ρ H ρ' H') : ∀ {x : Ir.Val} {v : V}, RV ρ K H x v → RV ρ' K H' x v
  | .d _, _, h => RD.mono e h
  | .ref n, _, ⟨h1, a, h2, h3⟩ => ⟨Nat.lt_of_lt_of_le h1 e.len, a, h2, fun b q => h3 b (e.ix n b q h1)⟩
inductive RVs (ρ : Rho) (K : PySem.W.Frag) (H : Hp) : List Ir.Val → List V → Prop
  | nil : RVs ρ K H [] []
  | cons {x : Ir.Val} {xs : List Ir.Val} {y : V} {ys : List V} : RV ρ K H x y → RVs ρ K H xs ys → RVs ρ K H (x :: xs) (y :: ys)
theorem RVs.mono {ρ ρ' : Rho} {K : PySem.W.Frag} {H H' : Hp} (e : Ext ρ H ρ' H') : ∀ {xs : List Ir.Val} {vs : List V}, RVs ρ K H xs vs → RVs ρ' K H' xs vs
  | _, _, .nil => .nil
  | _, _, .cons h r => .cons (RV.mono e h) (RVs.mono e r)
theorem RVs.length {ρ : Rho} {K : PySem.W.Frag} {H : Hp} : ∀ {xs : List Ir.Val} {vs : List V}, RVs ρ K H xs vs → xs.length = vs.length
  | _, _, .nil => rfl
  | _, _, .cons _ r => congrArg (· + 1) r.length
theorem RVs.ds {ρ : Rho} {K : PySem.W.Frag} {H : Hp} : ∀ {xs : List Ir.Val} {vs : List V} {ds : List Ir.D}, RVs ρ K H xs vs → Ir.asDs xs = some ds → RDs ρ K H ds vs
  | _, _, _, .nil, h => by simp [Ir.asDs] at h; subst h; exact .nil
  | .d x :: xs, _, _, .cons h r, e => by
    simp only [Ir.asDs, Option.map_eq_some_iff] at e
    obtain ⟨ds, e1, e2⟩ := e
    subst e2
    exact .cons h (RVs.ds r e1)
  | .ref n :: xs, _, _, .cons h r, e => by simp [Ir.asDs] at e
def RK : Ir.D → Key → Prop
  | .int i, k => k = .inl i
  | .str s, k => k = .inr (Str.ofString s)
  | _, _ => False
inductive RKs (ρ : Rho) (K : PySem.W.Frag) (H : Hp) : List (Ir.D × Ir.D) → List (Key × V) → Prop
  | nil : RKs ρ K H [] []
  | cons {k v : Ir.D} {xs : List (Ir.D × Ir.D)} {k' : Key} {v' : V} {ys : List (Key × V)} : RK k k' → RD ρ K H v v' → RKs ρ K H xs ys → RKs ρ K H ((k, v) :: xs) ((k', v') :: ys)
theorem RKs.mono {ρ ρ' : Rho} {K : PySem.W.Frag} {H H' : Hp} (e : Ext ρ H ρ' H') : ∀ {xs : List (Ir.D × Ir.D)} {vs : List (Key × V)}, RKs ρ K H xs vs → RKs ρ' K H' xs vs
  | _, _, .nil => .nil
  | _, _, .cons h q r => .cons h (RD.mono e q) (RKs.mono e r)
theorem RKs.length {ρ : Rho} {K : PySem.W.Frag} {H : Hp} : ∀ {xs : List (Ir.D × Ir.D)} {vs : List (Key × V)}, RKs ρ K H xs vs → xs.length = vs.length
  | _, _, .nil => rfl
  | _, _, .cons _ _ r => congrArg (· + 1) r.length
def RC (ρ : Rho) (K : PySem.W.Frag) (H : Hp) (a : Addr) : Ir.Cell → Prop
  | .lst xs => ∃ ys, H a = some (.lst ys) ∧ ys.length ≤ sizeLine ∧ RDs ρ K H xs ys
  | .dic kvs => ∃ ks, H a = some (.dK ks) ∧ ks.length ≤ sizeLine ∧ RKs ρ K H kvs ks
  | .dead => False
structure RS (ρ : Rho) (K : PySem.W.Frag) (st : Ir.Store) (H : Hp) : Prop where
  len : st.length = ρ.ix.length
  inj : ∀ (i j : Nat) (a : Addr), ρ.ix[i]? = some (some a) → ρ.ix[j]? = some (some a) → i = j
  cell : ∀ (n : Nat) (a : Addr), ρ.ix[n]? = some (some a) → ∃ c, st[n]? = some c ∧ RC ρ K H a c
  dd : ∀ (n : Nat), ρ.ix[n]? = some none → st[n]? = some .dead
  kept : ∀ a ∈ ρ.res, ∃ o, H a = some o
  disj : ∀ a ∈ ρ.res, some a ∉ ρ.ix
section
variable {ρ : Rho} {K : PySem.W.Frag} {st : Ir.Store} {H : Hp}
theorem RS.get (r : RS ρ K st H) {n : Nat} {c : Ir.Cell} (h : st[n]? = some c) (d : c ≠ .dead) : ∃ a, ρ.ix[n]? = some (some a) ∧ RC ρ K H a c := by
  have hn : n < ρ.ix.length := by rw [← r.len]; exact (List.getElem?_eq_some_iff.mp h).1
  cases q : ρ.ix[n]? with
  | none => rw [List.getElem?_eq_none_iff] at q; omega
  | some o =>
    cases o with
    | none =>
      have := r.dd n q
      rw [h] at this; cases this
      exact absurd rfl d
    | some a =>
      obtain ⟨c', h1, h2⟩ := r.cell n a q
      rw [h] at h1; cases h1
      exact ⟨a, rfl, h2⟩
theorem RC.some {a : Addr} {c : Ir.Cell} (h : RC ρ K H a c) : ∃ o, H a = Option.some o ∧ Mut (Option.some o) := by
  cases c with
  | lst xs => obtain ⟨ys, h, _⟩ := h; exact ⟨_, h, trivial⟩
  | dic xs => obtain ⟨ys, h, _⟩ := h; exact ⟨_, h, trivial⟩
  | dead => exact False.elim h
theorem RS.mem (r : RS ρ K st H) {a : Addr} (h : some a ∈ ρ.ix) : ∃ (n : Nat) (c : Ir.Cell), ρ.ix[n]? = some (some a) ∧ st[n]? = some c ∧ RC ρ K H a c := by
  obtain ⟨n, hn⟩ := List.getElem?_of_mem h
  obtain ⟨c, h1, h2⟩ := r.cell n a hn
  exact ⟨n, c, hn, h1, h2⟩
theorem RS.fresh (r : RS ρ K st H) {p : Addr} (h : H p = none) : ¬ ρ.own p := fun z => by
  rcases z with z | z
  · obtain ⟨n, c, _, _, q⟩ := r.mem z
    obtain ⟨o, e, _⟩ := q.some
    rw [h] at e; cases e
  · obtain ⟨o, e⟩ := r.kept p z
    rw [h] at e; cases e
theorem RC.mono {ρ' : Rho} {H' : Hp} (e : Ext ρ H ρ' H') {a : Addr} {c : Ir.Cell} (h : RC ρ K H a c) (s : H' a = H a) : RC ρ' K H' a c := by
  cases c with
  | lst xs => obtain ⟨ys, h1, h2, h3⟩ := h; exact ⟨ys, s.trans h1, h2, h3.mono e⟩
  | dic xs => obtain ⟨ys, h1, h2, h3⟩ := h; exact ⟨ys, s.trans h1, h2, h3.mono e⟩
  | dead => exact h
/-- a new thing that no cell is -/
theorem Ext.grow (r : RS ρ K st H) {p : Addr} (h : H p = none) (o : HO) : Ext ρ H ρ (upd H p o) :=
  ⟨fun a u q _ => by rw [upd_ne (ne_of_none q h)]; exact q, fun _ q => .inl q, Nat.le_refl _, fun _ _ q _ => q, fun _ q => q, fun _ _ q => q, upd_al⟩
theorem RS.ext (r : RS ρ K st H) {H' : Hp} (e : Ext ρ H ρ H') (s : ∀ a, some a ∈ ρ.ix → H' a = H a) : RS ρ K st H' :=
  ⟨r.len, r.inj, fun n a q => let ⟨c, h1, h2⟩ := r.cell n a q; ⟨c, h1, h2.mono e (s a (List.mem_of_getElem? q))⟩, r.dd, fun a q => let ⟨o, h⟩ := r.kept a q; ⟨o, e.fr a o h (r.disj a q)⟩, r.disj⟩
theorem RS.grow (r : RS ρ K st H) {p : Addr} (h : H p = none) (o : HO) : RS ρ K st (upd H p o) :=
  r.ext (.grow r h o) fun a q => upd_ne fun z => r.fresh h (.inl (by rw [← z]; exact q))
/-- a cell changed -/
theorem Ext.write (r : RS ρ K st H) {n : Nat} {a : Addr} (h : ρ.ix[n]? = some (some a)) (o : HO) : Ext ρ H ρ (upd H a o) :=
  ⟨fun b u q z => by rw [upd_ne (fun e => z (by rw [e]; exact List.mem_of_getElem? h))]; exact q, fun _ q => .inl q, Nat.le_refl _, fun _ _ q _ => q, fun _ q => q, fun _ _ q => q, upd_al⟩
theorem RS.write (r : RS ρ K st H) {n : Nat} {a : Addr} (h : ρ.ix[n]? = some (some a)) {o : HO} {c : Ir.Cell} (q : RC ρ K (upd H a o) a c) : RS ρ K (st.set n c) (upd H a o) := by
  have hn : n < st.length := by rw [r.len]; exact (List.getElem?_eq_some_iff.mp h).1
  refine ⟨by rw [List.length_set]; exact r.len, r.inj, fun m b hm => ?_, fun m hm => ?_, fun b hb => ?_, r.disj⟩
  · by_cases e : m = n
    · subst e
      rw [h] at hm; cases hm
      exact ⟨c, List.getElem?_set_self hn, q⟩
    · obtain ⟨c', h1, h2⟩ := r.cell m b hm
      refine ⟨c', by rw [List.getElem?_set_ne (Ne.symm e)]; exact h1, h2.mono (.write r h o) (upd_ne fun z => e (r.inj m n b hm (by rw [z]; exact h)))⟩
  · have e : m ≠ n := fun e => by subst e; rw [h] at hm; cases hm
    rw [List.getElem?_set_ne (Ne.symm e)]
    exact r.dd m hm
  · obtain ⟨u, hu⟩ := r.kept b hb
    exact ⟨u, (Ext.write r h o).fr b u hu (r.disj b hb)⟩
/-- a new cell -/
def Rho.push (ρ : Rho) (p : Addr) : Rho := ⟨ρ.ix ++ [some p], ρ.res⟩
theorem Ext.push (r : RS ρ K st H) {p : Addr} (h : H p = none) (o : HO) : Ext ρ H (ρ.push p) (upd H p o) := by
  refine ⟨fun a u q _ => by rw [upd_ne (ne_of_none q h)]; exact q, fun a q => ?_, by simp [Rho.push], fun n a q hn => ?_, fun _ q => q, fun a ha hn z => ?_, upd_al⟩
  · rcases q with q | q
    · rcases List.mem_append.mp q with z | z
      · exact .inl (.inl z)
      · simp at z; subst z; exact .inr h
    · exact .inl (.inr q)
  · simp only [Rho.push] at q
    rw [List.getElem?_append_left hn] at q; exact q
  · rcases List.mem_append.mp z with z | z
    · exact hn z
    · simp at z
      subst z
      exact r.fresh h (.inr ha)
theorem RS.push (r : RS ρ K st H) {p : Addr} (h : H p = none) {o : HO} {c : Ir.Cell} (q : RC (ρ.push p) K (upd H p o) p c) : RS (ρ.push p) K (st ++ [c]) (upd H p o) := by
  have np : some p ∉ ρ.ix := fun z => r.fresh h (.inl z)
  have key : ∀ (i : Nat) (a : Addr), (ρ.ix ++ [some p])[i]? = some (some a) → (ρ.ix[i]? = some (some a) ∧ a ≠ p) ∨ (i = ρ.ix.length ∧ a = p) := fun i a hi => by
    by_cases hl : i < ρ.ix.length
    · rw [List.getElem?_append_left hl] at hi
      exact .inl ⟨hi, fun e => np (by rw [← e]; exact List.mem_of_getElem? hi)⟩
    · rw [List.getElem?_append_right (by omega)] at hi
      have : i - ρ.ix.length = 0 := by
        by_cases z : i - ρ.ix.length = 0
        · exact z
        · rw [List.getElem?_eq_none (by simp; omega)] at hi; cases hi
      rw [this] at hi
      simp at hi
      exact .inr ⟨by omega, hi.symm⟩
  refine ⟨by simp [Rho.push, r.len], fun i j a hi hj => ?_, fun n a hn => ?_, fun n hn => ?_, fun a ha => ?_, fun a ha z => ?_⟩
  · rcases key i a hi with ⟨h1, n1⟩ | ⟨h1, n1⟩ <;> rcases key j a hj with ⟨h2, n2⟩ | ⟨h2, n2⟩
    · exact r.inj i j a h1 h2
    · exact absurd n2 n1
    · exact absurd n1 n2
    · omega
  · rcases key n a hn with ⟨h1, n1⟩ | ⟨h1, n1⟩
    · obtain ⟨c', h2, h3⟩ := r.cell n a h1
      refine ⟨c', ?_, h3.mono (.push r h o) (upd_ne n1)⟩
      rw [List.getElem?_append_left (List.getElem?_eq_some_iff.mp h2).1]; exact h2
    · subst h1 n1
      refine ⟨c, ?_, q⟩
      rw [← r.len, List.getElem?_append_right (Nat.le_refl _)]; simp
  · have hn : (ρ.ix ++ [some p])[n]? = some none := hn
    by_cases hl : n < ρ.ix.length
    · rw [List.getElem?_append_left hl] at hn
      have := r.dd n hn
      rw [List.getElem?_append_left (List.getElem?_eq_some_iff.mp this).1]; exact this
    · rw [List.getElem?_append_right (by omega)] at hn
      cases z : n - ρ.ix.length with
      | zero => rw [z] at hn; simp at hn
      | succ k => rw [z] at hn; simp at hn
  · obtain ⟨u, hu⟩ := r.kept a ha
    exact ⟨u, (Ext.push r h o).fr a u hu (r.disj a ha)⟩
  · exact (Ext.push r h o).rn a ha (r.disj a ha) z
/-- a cell that is not changed any more -/
def Rho.kill (ρ : Rho) (n : Nat) : Rho := ⟨ρ.ix.set n none, ρ.res⟩
theorem kill_mem {ρ : Rho} {n : Nat} {a : Addr} (q : some a ∈ (ρ.kill n).ix) : ∃ m : Nat, m ≠ n ∧ ρ.ix[m]? = some (some a) := by
  obtain ⟨m, hm⟩ := List.getElem?_of_mem q
  have hm : (ρ.ix.set n none)[m]? = some (some a) := hm
  by_cases e : m = n
  · subst e
    rw [List.getElem?_set] at hm
    simp at hm
  · rw [List.getElem?_set_ne (Ne.symm e)] at hm
    exact ⟨m, e, hm⟩
theorem Ext.kill (ρ : Rho) (H : Hp) (n : Nat) : Ext ρ H (ρ.kill n) H := by
  refine ⟨fun _ _ q _ => q, fun a q => ?_, by simp [Rho.kill], fun m a q hm => ?_, fun _ q => q, fun a _ hn z => ?_, fun _ q => q⟩
  · rcases q with q | q
    · obtain ⟨m, _, hm⟩ := kill_mem q
      exact .inl (.inl (List.mem_of_getElem? hm))
    · exact .inl (.inr q)
  · have q : (ρ.ix.set n none)[m]? = some (some a) := q
    by_cases e : m = n
    · subst e
      rw [List.getElem?_set] at q
      simp at q
    · rw [List.getElem?_set_ne (Ne.symm e)] at q; exact q
  · obtain ⟨m, _, hm⟩ := kill_mem z
    exact hn (List.mem_of_getElem? hm)
theorem RS.kill (r : RS ρ K st H) {n : Nat} (h : n < ρ.ix.length) : RS (ρ.kill n) K (st.set n .dead) H := by
  have hs : n < st.length := by rw [r.len]; exact h
  refine ⟨by simp [Rho.kill, r.len], fun i j a hi hj => ?_, fun m a hm => ?_, fun m hm => ?_, r.kept, fun a ha z => ?_⟩
  · have key : ∀ i : Nat, (ρ.kill n).ix[i]? = some (some a) → ρ.ix[i]? = some (some a) := fun i hi => (Ext.kill ρ H n).ix i a hi (by
      have := (List.getElem?_eq_some_iff.mp hi).1
      simpa [Rho.kill] using this)
    exact r.inj i j a (key i hi) (key j hj)
  · have hm : (ρ.ix.set n none)[m]? = some (some a) := hm
    have e : m ≠ n := fun e => by
      subst e
      rw [List.getElem?_set] at hm
      simp at hm
    have hm' := hm
    rw [List.getElem?_set_ne (Ne.symm e)] at hm'
    obtain ⟨c, h1, h2⟩ := r.cell m a hm'
    exact ⟨c, by rw [List.getElem?_set_ne (Ne.symm e)]; exact h1, h2.mono (.kill ρ H n) rfl⟩
  · have hm : (ρ.ix.set n none)[m]? = some none := hm
    by_cases e : m = n
    · subst e; exact List.getElem?_set_self hs
    · rw [List.getElem?_set_ne (Ne.symm e)] at hm ⊢
      exact r.dd m hm
  · obtain ⟨m, _, hm⟩ := kill_mem z
    exact r.disj a ha (List.mem_of_getElem? hm)
theorem kill_notin (r : RS ρ K st H) {n : Nat} {a : Addr} (h : ρ.ix[n]? = some (some a)) : ¬ (ρ.kill n).own a := fun z => by
  rcases z with z | z
  · obtain ⟨m, e, hm⟩ := kill_mem z
    exact e (r.inj m n a hm h)
  · exact r.disj a z (List.mem_of_getElem? h)
/-- an address kept aside -/
def Rho.keep (ρ : Rho) (p : Addr) : Rho := ⟨ρ.ix, p :: ρ.res⟩
theorem Ext.keep (r : RS ρ K st H) {p : Addr} (h : H p = none) (o : HO) : Ext ρ H (ρ.keep p) (upd H p o) := by
  refine ⟨fun a u q _ => by rw [upd_ne (ne_of_none q h)]; exact q, fun a q => ?_, Nat.le_refl _, fun _ _ q _ => q, fun _ q => List.mem_cons_of_mem _ q, fun _ _ q => q, upd_al⟩
  rcases q with q | q
  · exact .inl (.inl q)
  · rcases List.mem_cons.mp q with e | q
    · subst e; exact .inr h
    · exact .inl (.inr q)
theorem RS.keep (r : RS ρ K st H) {p : Addr} (h : H p = none) (o : HO) : RS (ρ.keep p) K st (upd H p o) := by
  have np : some p ∉ ρ.ix := fun z => r.fresh h (.inl z)
  refine ⟨r.len, r.inj, fun n a q => ?_, r.dd, fun a ha => ?_, fun a ha => ?_⟩
  · obtain ⟨c, h1, h2⟩ := r.cell n a q
    exact ⟨c, h1, h2.mono (.keep r h o) (upd_ne fun z => np (by rw [← z]; exact List.mem_of_getElem? q))⟩
  · rcases List.mem_cons.mp ha with e | ha
    · subst e; exact ⟨o, upd_same⟩
    · obtain ⟨u, hu⟩ := r.kept a ha
      exact ⟨u, by rw [upd_ne (ne_of_none hu h)]; exact hu⟩
  · rcases List.mem_cons.mp ha with e | ha
    · subst e; exact np
    · exact r.disj a ha
end
/-- what was kept aside changes: nothing else leans on it -/
theorem TpAt.aside {ρ : Rho} {K : PySem.W.Frag} {H : Hp} {a p : Addr} {o : HO} {ys : List V} (hp : p ∈ ρ.res) (h : TpAt ρ K H a ys) : TpAt ρ K (upd H p o) a ys := by
  rcases h with ⟨h, n⟩ | h
  · have e : a ≠ p := fun e => n (.inr (by rw [e]; exact hp))
    refine .inl ⟨?_, n⟩
    rcases h with h | ⟨u, h⟩
    · exact .inl (by rw [upd_ne e]; exact h)
    · exact .inr ⟨u, by rw [upd_ne e]; exact h⟩
  · exact .inr h
theorem LrAt.aside {ρ : Rho} {K : PySem.W.Frag} {H : Hp} {a p : Addr} {o : HO} {ys : List V} (hp : p ∈ ρ.res) (h : LrAt ρ K H a ys) : LrAt ρ K (upd H p o) a ys := by
  rcases h with ⟨⟨u, h⟩, n⟩ | h
  · have e : a ≠ p := fun e => n (.inr (by rw [e]; exact hp))
    exact .inl ⟨⟨u, by rw [upd_ne e]; exact h⟩, n⟩
  · exact .inr h
mutual
theorem RD.aside {ρ : Rho} {K : PySem.W.Frag} {H : Hp} {p : Addr} {o : HO} (hp : p ∈ ρ.res) : ∀ {x : Ir.D} {v : V}, RD ρ K H x v → RD ρ K (upd H p o) x v
  | _, _, .non => .non
  | _, _, .bool b => .bool b
  | _, _, .int i => .int i
  | _, _, .str s => .str s
  | _, _, .tup h z r => .tup (h.aside hp) z (RDs.aside hp r)
  | _, _, .ro h z r => .ro (h.aside hp) z (RDs.aside hp r)
  | _, _, .lst h n z r => .lst (by rw [upd_ne (fun e => n (.inr (by rw [e]; exact hp)))]; exact h) n z (RDs.aside hp r)
theorem RDs.aside {ρ : Rho} {K : PySem.W.Frag} {H : Hp} {p : Addr} {o : HO} (hp : p ∈ ρ.res) : ∀ {xs : List Ir.D} {vs : List V}, RDs ρ K H xs vs → RDs ρ K (upd H p o) xs vs
  | _, _, .nil => .nil
  | _, _, .cons h r => .cons (RD.aside hp h) (RDs.aside hp r)
end
theorem RKs.aside {ρ : Rho} {K : PySem.W.Frag} {H : Hp} {p : Addr} {o : HO} (hp : p ∈ ρ.res) : ∀ {xs : List (Ir.D × Ir.D)} {vs : List (Key × V)}, RKs ρ K H xs vs → RKs ρ K (upd H p o) xs vs
  | _, _, .nil => .nil
  | _, _, .cons h q r => .cons h (RD.aside hp q) (RKs.aside hp r)
theorem RC.aside {ρ : Rho} {K : PySem.W.Frag} {H : Hp} {a p : Addr} {o : HO} {c : Ir.Cell} (hp : p ∈ ρ.res) (h : RC ρ K H a c) (e : a ≠ p) : RC ρ K (upd H p o) a c := by
  cases c with
  | lst xs => obtain ⟨ys, h1, h2, h3⟩ := h; exact ⟨ys, by rw [upd_ne e]; exact h1, h2, h3.aside hp⟩
  | dic xs => obtain ⟨ys, h1, h2, h3⟩ := h; exact ⟨ys, by rw [upd_ne e]; exact h1, h2, h3.aside hp⟩
  | dead => exact h
theorem RS.aside {ρ : Rho} {K : PySem.W.Frag} {st : Ir.Store} {H : Hp} {p : Addr} {o : HO} (r : RS ρ K st H) (hp : p ∈ ρ.res) : RS ρ K st (upd H p o) := by
  refine ⟨r.len, r.inj, fun n a q => ?_, r.dd, fun a ha => ?_, r.disj⟩
  · obtain ⟨c, h1, h2⟩ := r.cell n a q
    exact ⟨c, h1, h2.aside hp fun e => r.disj p hp (by rw [← e]; exact List.mem_of_getElem? q)⟩
  · by_cases e : a = p
    · subst e; exact ⟨o, upd_same⟩
    · obtain ⟨u, hu⟩ := r.kept a ha
      exact ⟨u, by rw [upd_ne e]; exact hu⟩
/-- what was free ahead may be anything behind -/
theorem Ext.aside {ρ ρ' : Rho} {H H' : Hp} {p : Addr} {o : HO} (e : Ext ρ H ρ' H') (h : H p = none) : Ext ρ H ρ' (upd H' p o) :=
  ⟨fun a u q n => by rw [upd_ne (ne_of_none q h)]; exact e.fr a u q n, e.nw, e.len, e.ix, e.rs, e.rn, fun a q => e.al a (upd_al a q)⟩
/-- an address is given free -/
def Rho.drop (ρ : Rho) (rs : List Addr) : Rho := ⟨ρ.ix, rs⟩
theorem own_drop {ρ : Rho} {rs : List Addr} (hs : ∀ a ∈ rs, a ∈ ρ.res) {a : Addr} (h : ¬ ρ.own a) : ¬ (ρ.drop rs).own a := fun z => h (z.elim .inl fun z => .inr (hs a z))
mutual
theorem RD.drop {ρ : Rho} {K : PySem.W.Frag} {H : Hp} {rs : List Addr} (hs : ∀ a ∈ rs, a ∈ ρ.res) : ∀ {x : Ir.D} {v : V}, RD ρ K H x v → RD (ρ.drop rs) K H x v
  | _, _, .non => .non
  | _, _, .bool b => .bool b
  | _, _, .int i => .int i
  | _, _, .str s => .str s
  | _, _, .tup h z r => .tup (h.elim (fun q => .inl ⟨q.1, own_drop hs q.2⟩) .inr) z (RDs.drop' hs r)
  | _, _, .ro h z r => .ro (h.elim (fun q => .inl ⟨q.1, own_drop hs q.2⟩) .inr) z (RDs.drop' hs r)
  | _, _, .lst h n z r => .lst h (own_drop hs n) z (RDs.drop' hs r)
theorem RDs.drop' {ρ : Rho} {K : PySem.W.Frag} {H : Hp} {rs : List Addr} (hs : ∀ a ∈ rs, a ∈ ρ.res) : ∀ {xs : List Ir.D} {vs : List V}, RDs ρ K H xs vs → RDs (ρ.drop rs) K H xs vs
  | _, _, .nil => .nil
  | _, _, .cons h r => .cons (RD.drop hs h) (RDs.drop' hs r)
end
theorem RKs.drop {ρ : Rho} {K : PySem.W.Frag} {H : Hp} {rs : List Addr} (hs : ∀ a ∈ rs, a ∈ ρ.res) : ∀ {xs : List (Ir.D × Ir.D)} {vs : List (Key × V)}, RKs ρ K H xs vs → RKs (ρ.drop rs) K H xs vs
  | _, _, .nil => .nil
  | _, _, .cons h q r => .cons h (RD.drop hs q) (RKs.drop hs r)
theorem RC.drop {ρ : Rho} {K : PySem.W.Frag} {H : Hp} {rs : List Addr} {a : Addr} {c : Ir.Cell} (hs : ∀ a ∈ rs, a ∈ ρ.res) (h : RC ρ K H a c) : RC (ρ.drop rs) K H a c := by
  cases c with
  | lst xs => obtain ⟨ys, h1, h2, h3⟩ := h; exact ⟨ys, h1, h2, h3.drop' hs⟩
  | dic xs => obtain ⟨ys, h1, h2, h3⟩ := h; exact ⟨ys, h1, h2, h3.drop hs⟩
  | dead => exact h
theorem RS.drop {ρ : Rho} {K : PySem.W.Frag} {st : Ir.Store} {H : Hp} {rs : List Addr} (r : RS ρ K st H) (hs : ∀ a ∈ rs, a ∈ ρ.res) : RS (ρ.drop rs) K st H :=
  ⟨r.len, r.inj, fun n a q => let ⟨c, h1, h2⟩ := r.cell n a q; ⟨c, h1, h2.drop hs⟩, r.dd, fun a q => r.kept a (hs a q), fun a q => r.disj a (hs a q)⟩
/-- less is owned: what stood stands -/
theorem own_sub {ρ ρ' : Rho} (hs : ∀ b, ρ'.own b → ρ.own b) {a : Addr} (h : ¬ ρ.own a) : ¬ ρ'.own a := fun z => h (hs a z)
mutual
theorem RD.sub {ρ ρ' : Rho} {K : PySem.W.Frag} {H : Hp} (hs : ∀ b, ρ'.own b → ρ.own b) : ∀ {x : Ir.D} {v : V}, RD ρ K H x v → RD ρ' K H x v
  | _, _, .non => .non
  | _, _, .bool b => .bool b
  | _, _, .int i => .int i
  | _, _, .str s => .str s
  | _, _, .tup h z r => .tup (h.elim (fun q => .inl ⟨q.1, own_sub hs q.2⟩) .inr) z (RDs.sub hs r)
  | _, _, .ro h z r => .ro (h.elim (fun q => .inl ⟨q.1, own_sub hs q.2⟩) .inr) z (RDs.sub hs r)
  | _, _, .lst h n z r => .lst h (own_sub hs n) z (RDs.sub hs r)
theorem RDs.sub {ρ ρ' : Rho} {K : PySem.W.Frag} {H : Hp} (hs : ∀ b, ρ'.own b → ρ.own b) : ∀ {xs : List Ir.D} {vs : List V}, RDs ρ K H xs vs → RDs ρ' K H xs vs
  | _, _, .nil => .nil
  | _, _, .cons h r => .cons (RD.sub hs h) (RDs.sub hs r)
end
theorem RKs.sub {ρ ρ' : Rho} {K : PySem.W.Frag} {H : Hp} (hs : ∀ b, ρ'.own b → ρ.own b) : ∀ {xs : List (Ir.D × Ir.D)} {vs : List (Key × V)}, RKs ρ K H xs vs → RKs ρ' K H xs vs
  | _, _, .nil => .nil
  | _, _, .cons h q r => .cons h (RD.sub hs q) (RKs.sub hs r)
theorem RC.sub {ρ ρ' : Rho} {K : PySem.W.Frag} {H : Hp} (hs : ∀ b, ρ'.own b → ρ.own b) {a : Addr} {c : Ir.Cell} (h : RC ρ K H a c) : RC ρ' K H a c := by
  cases c with
  | lst xs => obtain ⟨ys, h1, h2, h3⟩ := h; exact ⟨ys, h1, h2, h3.sub hs⟩
  | dic xs => obtain ⟨ys, h1, h2, h3⟩ := h; exact ⟨ys, h1, h2, h3.sub hs⟩
  | dead => exact h
/-- what is kept aside becomes a cell -/
theorem RS.cellOf {ρ : Rho} {K : PySem.W.Frag} {st : Ir.Store} {H : Hp} {rs : List Addr} {a : Addr} {c : Ir.Cell} (r : RS ρ K st H) (hs : ∀ b ∈ rs, b ∈ ρ.res) (ha : a ∈ ρ.res) (hn : a ∉ rs) (q : RC ⟨ρ.ix ++ [some a], rs⟩ K H a c) : RS ⟨ρ.ix ++ [some a], rs⟩ K (st ++ [c]) H := by
  have sub : ∀ b, Rho.own ⟨ρ.ix ++ [some a], rs⟩ b → ρ.own b := fun b z => by
    rcases z with z | z
    · rcases List.mem_append.mp z with z | z
      · exact .inl z
      · simp at z; subst z; exact .inr ha
    · exact .inr (hs b z)
  have np : some a ∉ ρ.ix := r.disj a ha
  have key : ∀ (i : Nat) (b : Addr), (ρ.ix ++ [some a])[i]? = some (some b) → (ρ.ix[i]? = some (some b) ∧ b ≠ a) ∨ (i = ρ.ix.length ∧ b = a) := fun i b hi => by
    by_cases hl : i < ρ.ix.length
    · rw [List.getElem?_append_left hl] at hi
      exact .inl ⟨hi, fun e => np (by rw [← e]; exact List.mem_of_getElem? hi)⟩
    · rw [List.getElem?_append_right (by omega)] at hi
      have : i - ρ.ix.length = 0 := by
        by_cases z : i - ρ.ix.length = 0
        · exact z
        · rw [List.getElem?_eq_none (by simp; omega)] at hi; cases hi
      rw [this] at hi
      simp at hi
      exact .inr ⟨by omega, hi.symm⟩
  refine ⟨by simp [r.len], fun i j b hi hj => ?_, fun n b hb => ?_, fun n hb => ?_, fun b hb => r.kept b (hs b hb), fun b hb z => ?_⟩
  · rcases key i b hi with ⟨h1, n1⟩ | ⟨h1, n1⟩ <;> rcases key j b hj with ⟨h2, n2⟩ | ⟨h2, n2⟩
    · exact r.inj i j b h1 h2
    · exact absurd n2 n1
    · exact absurd n1 n2
    · omega
  · rcases key n b hb with ⟨h1, n1⟩ | ⟨h1, n1⟩
    · obtain ⟨c', h2, h3⟩ := r.cell n b h1
      exact ⟨c', by rw [List.getElem?_append_left (List.getElem?_eq_some_iff.mp h2).1]; exact h2, h3.sub sub⟩
    · subst h1 n1
      refine ⟨c, ?_, q⟩
      rw [← r.len, List.getElem?_append_right (Nat.le_refl _)]; simp
  · have hb : (ρ.ix ++ [some a])[n]? = some none := hb
    by_cases hl : n < ρ.ix.length
    · rw [List.getElem?_append_left hl] at hb
      have := r.dd n hb
      rw [List.getElem?_append_left (List.getElem?_eq_some_iff.mp this).1]; exact this
    · rw [List.getElem?_append_right (by omega)] at hb
      cases z : n - ρ.ix.length with
      | zero => rw [z] at hb; simp at hb
      | succ k => rw [z] at hb; simp at hb
  · rcases List.mem_append.mp z with z | z
    · exact r.disj b (hs b hb) z
    · simp at z; subst z; exact hn hb
theorem Ext.cellOf {ρ ρ' : Rho} {H H' : Hp} {a : Addr} (e : Ext ρ H ρ' H') (ha : H a = none) (hn : a ∉ ρ.res) : Ext ρ H ⟨ρ'.ix ++ [some a], ρ.res⟩ H' := by
  refine ⟨e.fr, fun b q => ?_, by have := e.len; simp; omega, fun n b q hl => ?_, fun _ q => q, fun b hb n z => ?_, e.al⟩
  · rcases q with q | q
    · rcases List.mem_append.mp q with z | z
      · exact e.nw b (.inl z)
      · simp at z; subst z; exact .inr ha
    · exact .inl (.inr q)
  · have q : (ρ'.ix ++ [some a])[n]? = some (some b) := q
    rw [List.getElem?_append_left (Nat.lt_of_lt_of_le hl e.len)] at q
    exact e.ix n b q hl
  · rcases List.mem_append.mp z with z | z
    · exact e.rn b hb n z
    · simp at z; subst z; exact hn hb
theorem Ext.drop {ρ ρ' : Rho} {H H' : Hp} (e : Ext ρ H ρ' H') : Ext ρ H (ρ'.drop ρ.res) H' :=
  ⟨e.fr, fun a q => q.elim (fun z => e.nw a (.inl z)) fun z => .inl (.inr z), e.len, e.ix, fun _ q => q, e.rn, e.al⟩
end Snd

namespace Snd
open PySem PySem.Spec PyProof.Rows L2
/-! ### readings -/
def REnv (ρ : Rho) (K : PySem.W.Frag) (H : Hp) (env : Ir.Env) (σ : L2.St) : Prop :=
  env.length = σ.length ∧ ∀ (i : Nat) (v : Ir.Val), env[i]? = some (some v) → ∃ x, σ[i]? = some (some x) ∧ RV ρ K H v x
theorem REnv.mono {ρ ρ' : Rho} {K : PySem.W.Frag} {H H' : Hp} {env : Ir.Env} {σ : L2.St} (h : REnv ρ K H env σ) (e : Ext ρ H ρ' H') : REnv ρ' K H' env σ :=
  ⟨h.1, fun i v q => let ⟨x, h1, h2⟩ := h.2 i v q; ⟨x, h1, h2.mono e⟩⟩
theorem REnv.set {ρ : Rho} {K : PySem.W.Frag} {H : Hp} {env : Ir.Env} {σ : L2.St} (h : REnv ρ K H env σ) {v : Ir.Val} {x : V} (r : RV ρ K H v x) (i : Nat) : REnv ρ K H (env.set i (some v)) (σ.set i (some x)) := by
  refine ⟨by simp [h.1], fun j u q => ?_⟩
  by_cases e : i = j
  · subst e
    rw [List.getElem?_set] at q ⊢
    simp only [if_true] at q ⊢
    split at q
    · rename_i hl
      rw [if_pos (by rw [← h.1]; exact hl)]
      cases q
      exact ⟨x, rfl, r⟩
    · cases q
  · rw [List.getElem?_set_ne e] at q ⊢
    exact h.2 j u q
theorem REnv.wipe {ρ : Rho} {K : PySem.W.Frag} {H : Hp} {env : Ir.Env} {σ : L2.St} (h : REnv ρ K H env σ) : ∀ vs : List Nat, REnv ρ K H (Ir.wipe env vs) (L2.wipe σ vs)
  | [] => h
  | v :: vs => by
    have ih := REnv.wipe h vs
    refine ⟨by simp [Ir.wipe, L2.wipe, ih.1], fun j u q => ?_⟩
    simp only [Ir.wipe, L2.wipe] at q ⊢
    by_cases e : v = j
    · subst e
      rw [List.getElem?_set] at q
      simp at q
    · rw [List.getElem?_set_ne e] at q ⊢
      exact ih.2 j u q
/-- data that may be a cell's list -/
def VD (ρ : Rho) (K : PySem.W.Frag) (H : Hp) : Ir.D → V → Prop
  | .lst xs, v => ∃ a ys, v = .ref a ∧ H a = some (.lst ys) ∧ ys.length ≤ sizeLine ∧ RDs ρ K H xs ys
  | x, v => RD ρ K H x v
theorem VD.of {ρ : Rho} {K : PySem.W.Frag} {H : Hp} {x : Ir.D} {v : V} (h : RD ρ K H x v) : VD ρ K H x v := by
  cases h with
  | lst h n z r => exact ⟨_, _, rfl, h, z, r⟩
  | non => exact .non
  | bool b => exact .bool b
  | int i => exact .int i
  | str s => exact .str s
  | tup h z r => exact RD.tup h z r
  | ro h z r => exact RD.ro h z r
theorem RV.cell {ρ : Rho} {K : PySem.W.Frag} {H : Hp} {st : Ir.Store} {n : Nat} {c : Ir.Cell} {x : V} (r : RS ρ K st H) (h : RV ρ K H (.ref n) x) (e : st[n]? = some c) (d : c ≠ .dead) : ∃ a, x = .ref a ∧ ρ.ix[n]? = some (some a) ∧ RC ρ K H a c := by
  obtain ⟨a, h1, h2⟩ := r.get e d
  obtain ⟨_, b, h3, h4⟩ := h
  have := h4 a h1
  subst this
  exact ⟨a, h3, h1, h2⟩
theorem VD.deref {ρ : Rho} {K : PySem.W.Frag} {H : Hp} {st : Ir.Store} {v : Ir.Val} {x : V} {p : Ir.D} (r : RS ρ K st H) (h : RV ρ K H v x) (e : Ir.deref st v = some p) : VD ρ K H p x := by
  cases v with
  | d y =>
    simp only [Ir.deref, Option.some.injEq] at e
    subst e
    exact .of h
  | ref n =>
    simp only [Ir.deref] at e
    split at e
    · rename_i xs hx
      cases e
      obtain ⟨a, e1, e2, ys, h1, h2, h3⟩ := RV.cell r h hx (by simp)
      exact ⟨a, ys, e1, h1, h2, h3⟩
    · cases e

variable {X : Cx} {C : Ir.Calls}
def tI (C : Ir.Calls) (K : PySem.W.Frag) (e : Ir.Ex) : TE := fun σ H Q => ∃ ρ env st v st', RS ρ K st H ∧ REnv ρ K H env σ ∧ Ir.eval C e env st = .ok v st' ∧
  ∀ ρ' H' x, Ext ρ H ρ' H' → RS ρ' K st' H' → RV ρ' K H' v x → Q x H'
def tIs (C : Ir.Calls) (K : PySem.W.Frag) (es : List Ir.Ex) : TA := fun σ H Q => ∃ ρ env st vs st', RS ρ K st H ∧ REnv ρ K H env σ ∧ Ir.evals C es env st = .ok vs st' ∧
  ∀ ρ' H' xs, Ext ρ H ρ' H' → RS ρ' K st' H' → RVs ρ' K H' vs xs → Q xs H'
def tIT (C : Ir.Calls) (K : PySem.W.Frag) (e : Ir.Ex) : TT := fun σ H Q => ∃ ρ env st b st', RS ρ K st H ∧ REnv ρ K H env σ ∧ Ir.eval C e env st = .ok (.d (.bool b)) st' ∧
  ∀ ρ' H', Ext ρ H ρ' H' → RS ρ' K st' H' → Q b H'
def tIO (C : Ir.Calls) (K : PySem.W.Frag) (e : Option Ir.Ex) : TO := fun σ H Q => ∃ ρ env st v st', RS ρ K st H ∧ REnv ρ K H env σ ∧ Ir.evalO C e env st = .ok v st' ∧
  ∀ ρ' H', Ext ρ H ρ' H' → RS ρ' K st' H' → Q v H'
def tICs (C : Ir.Calls) (K : PySem.W.Frag) (es : List Ir.Ex) : TT := fun σ H Q => ∃ ρ env st b st', RS ρ K st H ∧ REnv ρ K H env σ ∧ Ir.conds C es env st = .ok b st' ∧
  ∀ ρ' H', Ext ρ H ρ' H' → RS ρ' K st' H' → Q b H'
abbrev SE (X : Cx) (C : Ir.Calls) (e : Expr) (ir : Ir.Ex) : Prop := PE X e (tI C X.K ir)
abbrev SEs (X : Cx) (C : Ir.Calls) (es : List Expr) (ir : List Ir.Ex) : Prop := PA X es (tIs C X.K ir)
abbrev ST (X : Cx) (C : Ir.Calls) (e : Expr) (ir : Ir.Ex) : Prop := PT X e (tIT C X.K ir)
abbrev SW (X : Cx) (C : Ir.Calls) (e : Expr) (ir : Ir.Ex) : Prop := PW X e (tIT C X.K ir)
abbrev SO (X : Cx) (C : Ir.Calls) (e : Option Expr) (ir : Option Ir.Ex) : Prop := PO X e (tIO C X.K ir)
abbrev SCs (X : Cx) (C : Ir.Calls) (es : List Expr) (ir : List Ir.Ex) : Prop := PTs X es (tICs C X.K ir)
theorem pe_imp {e : Expr} {t t' : TE} (h : PE X e t) (w : ∀ σ H Q, t' σ H Q → t σ H Q) : PE X e t' := ⟨fun pins s σ H Q I q => h.run pins s σ H Q I (w σ H Q q)⟩
theorem pt_imp {e : Expr} {t t' : TT} (h : PT X e t) (w : ∀ σ H Q, t' σ H Q → t σ H Q) : PT X e t' := ⟨fun pins s σ H Q I q => h.run pins s σ H Q I (w σ H Q q)⟩
theorem pw_imp {e : Expr} {t t' : TT} (h : PW X e t) (w : ∀ σ H Q, t' σ H Q → t σ H Q) : PW X e t' := ⟨fun wh pins s σ H Q I q => h.run wh pins s σ H Q I (w σ H Q q)⟩
theorem pa_imp {es : List Expr} {t t' : TA} (h : PA X es t) (w : ∀ σ H Q, t' σ H Q → t σ H Q) : PA X es t' := ⟨fun p pins s σ H Q I q => h.run p pins s σ H Q I (w σ H Q q)⟩
theorem po_imp {e : Option Expr} {t t' : TO} (h : PO X e t) (w : ∀ σ H Q, t' σ H Q → t σ H Q) : PO X e t' := ⟨fun pins s σ H Q I q => h.run pins s σ H Q I (w σ H Q q)⟩
theorem pts_imp {es : List Expr} {t t' : TT} (h : PTs X es t) (w : ∀ σ H Q, t' σ H Q → t σ H Q) : PTs X es t' := ⟨fun pins s σ H Q I q => h.run pins s σ H Q I (w σ H Q q)⟩

theorem bok {α β : Type} {r : Ir.Res α} {f : α → Ir.Store → Ir.Res β} {b : β} {st : Ir.Store} (h : r.bind f = .ok b st) : ∃ a s1, r = .ok a s1 ∧ f a s1 = .ok b st := Ir.Res.bind_eq_ok h
theorem ook {α β : Type} {o : Option α} {s : Ir.Store} {f : α → Ir.Store → Ir.Res β} {b : β} {st : Ir.Store} (h : (Ir.optR o s).bind f = .ok b st) : ∃ a, o = some a ∧ f a s = .ok b st := by
  obtain ⟨a, s1, h1, h2⟩ := bok h
  obtain ⟨e, rfl⟩ := Ir.optR_ok h1
  exact ⟨a, e, h2⟩
/-! ### names, constants -/
theorem se_var (i : Nat) {x : Str} {pos : Pos} (hN : X.N[i]? = some x := by rfl) (hv : Vis X.env.scope x := by first | exact Or.inl rfl | exact Or.inr (Or.inl rfl) | exact Or.inr (Or.inr rfl)) (hd : (x == ("__debug__" : Str)) = false := by decide) (hcd : (x == ("__classdict__" : Str)) = false := by decide) : SE X C (.Name x pos) (.var i) := by
  refine pe_imp (pe_var (i := i) hN hv hd hcd) fun σ H Q ⟨ρ, env, st, v, st', rs, re, ev, k⟩ => ?_
  simp only [Ir.eval] at ev
  split at ev
  · rename_i w hw
    cases ev
    obtain ⟨x, h1, h2⟩ := re.2 i _ hw
    exact ⟨x, h1, k ρ H x (.refl _ _) rs h2⟩
  · cases ev
theorem se_int {i j pos} : SE X C (.Constant (.int i) j pos) (.con (.int i)) := pe_imp pe_int fun σ H Q ⟨ρ, env, st, v, st', rs, re, ev, k⟩ => by
  simp only [Ir.eval] at ev; cases ev; exact k ρ H _ (.refl _ _) rs (.int i)
theorem se_bool {b j pos} : SE X C (.Constant (.bool b) j pos) (.con (.bool b)) := pe_imp pe_bl fun σ H Q ⟨ρ, env, st, v, st', rs, re, ev, k⟩ => by
  simp only [Ir.eval] at ev; cases ev; exact k ρ H _ (.refl _ _) rs (.bool b)
theorem se_non {j pos} : SE X C (.Constant .none j pos) (.con .non) := pe_imp pe_non fun σ H Q ⟨ρ, env, st, v, st', rs, re, ev, k⟩ => by
  simp only [Ir.eval] at ev; cases ev; exact k ρ H _ (.refl _ _) rs .non
theorem se_str {s : String} {j pos} : SE X C (.Constant (.str (Str.ofString s)) j pos) (.con (.str s)) := pe_imp pe_str fun σ H Q ⟨ρ, env, st, v, st', rs, re, ev, k⟩ => by
  simp only [Ir.eval] at ev; cases ev; exact k ρ H _ (.refl _ _) rs (.str s)
/-! ### lists of expressions -/
theorem ses_nil : SEs X C [] [] := pa_imp pa_nil fun σ H Q ⟨ρ, env, st, v, st', rs, re, ev, k⟩ => by
  simp only [Ir.evals] at ev; cases ev; exact k ρ H _ (.refl _ _) rs .nil
theorem ses_cons {e : Expr} {es : List Expr} {i : Ir.Ex} {is : List Ir.Ex} (h : SE X C e i) (hs : SEs X C es is) (hst : starEach (e :: es) X.env = (false, eval e X.env) :: starEach es X.env := by rfl) : SEs X C (e :: es) (i :: is) := by
  refine pa_imp (pa_cons h hs hst) fun σ H Q ⟨ρ, env, st, v, st', rs, re, ev, k⟩ => ?_
  simp only [Ir.evals] at ev
  obtain ⟨x, s1, e1, ev⟩ := bok ev
  obtain ⟨xs, s2, e2, ev⟩ := bok ev
  cases ev
  exact ⟨ρ, env, st, x, s1, rs, re, e1, fun ρ1 H1 X1 x1 rs1 rx => ⟨ρ1, env, s1, xs, st', rs1, re.mono x1, e2, fun ρ2 H2 XS x2 rs2 rxs => k ρ2 H2 (X1 :: XS) (x1.trans x2) rs2 (.cons (rx.mono x2) rxs)⟩⟩
/-- a new tuple, list -/
theorem grow_tup {ρ : Rho} {K : PySem.W.Frag} {st : Ir.Store} {H : Hp} {xs : List Ir.D} {ys : List V} (rs : RS ρ K st H) (r : RDs ρ K H xs ys) (z : ys.length ≤ sizeLine) {p : Addr} (hp : H p = none) : RD ρ K (upd H p (.tup ys)) (.tup xs) (.ref p) :=
  .tup (.inl ⟨.inl upd_same, rs.fresh hp⟩) z (r.mono (.grow rs hp _))
theorem grow_lst {ρ : Rho} {K : PySem.W.Frag} {st : Ir.Store} {H : Hp} {xs : List Ir.D} {ys : List V} (rs : RS ρ K st H) (r : RDs ρ K H xs ys) (z : ys.length ≤ sizeLine) {p : Addr} (hp : H p = none) : RD ρ K (upd H p (.lst ys)) (.lst xs) (.ref p) :=
  .lst upd_same (rs.fresh hp) z (r.mono (.grow rs hp _))
theorem se_tup {es : List Expr} {is : List Ir.Ex} {x1} {pos : Pos} (hs : SEs X C es is) (hl : is.length ≤ sizeLine := by decide) : SE X C (.Tuple es x1 pos) (.tup is) := by
  refine pe_imp (pe_tup hs) fun σ H Q ⟨ρ, env, st, v, st', rs, re, ev, k⟩ => ?_
  simp only [Ir.eval] at ev
  obtain ⟨vs, s1, e1, ev⟩ := bok ev
  obtain ⟨ds, e2, ev⟩ := ook ev
  cases ev
  refine ⟨ρ, env, st, vs, st', rs, re, e1, fun ρ1 H1 XS x1 rs1 rx => ?_⟩
  have hlen : XS.length ≤ sizeLine := by
    have : ∀ (es : List Ir.Ex) (env : Ir.Env) (st st' : Ir.Store) (vs : List Ir.Val), Ir.evals C es env st = .ok vs st' → vs.length = es.length := by
      intro es
      induction es with
      | nil => intro env st st' vs h; simp only [Ir.evals] at h; cases h; rfl
      | cons e es ih =>
        intro env st st' vs h
        simp only [Ir.evals] at h
        obtain ⟨x, s1, e1, h⟩ := bok h
        obtain ⟨xs, s2, e2, h⟩ := bok h
        cases h
        simp [ih _ _ _ _ e2]
    rw [← rx.length, this _ _ _ _ _ e1]; exact hl
  refine ⟨hlen, fun p hp => k ρ1 _ _ (x1.trans (.grow rs1 hp _)) (rs1.grow hp _) (grow_tup rs1 (rx.ds e2) hlen hp)⟩
theorem evals_len : ∀ (es : List Ir.Ex) (env : Ir.Env) (st st' : Ir.Store) (vs : List Ir.Val), Ir.evals C es env st = .ok vs st' → vs.length = es.length := by
  intro es
  induction es with
  | nil => intro env st st' vs h; simp only [Ir.evals] at h; cases h; rfl
  | cons e es ih =>
    intro env st st' vs h
    simp only [Ir.evals] at h
    obtain ⟨x, s1, e1, h⟩ := bok h
    obtain ⟨xs, s2, e2, h⟩ := bok h
    cases h
    simp [ih _ _ _ _ e2]
/-! ### expressions that make a new list: as data, or as a cell -/
/-- ir makes a list of data at an address that was free -/
def tN (C : Ir.Calls) (K : PySem.W.Frag) (e : Ir.Ex) : TE := fun σ H Q => ∃ ρ env st xs st', RS ρ K st H ∧ REnv ρ K H env σ ∧ Ir.eval C e env st = .ok (.d (.lst xs)) st' ∧
  ∀ ρ' H' a ys, Ext ρ H ρ' H' → RS ρ' K st' H' → H a = none → a ∈ ρ'.res → H' a = some (.lst ys) → ys.length ≤ sizeLine → RDs ρ' K H' xs ys → Q (.ref a) H'
abbrev SN (X : Cx) (C : Ir.Calls) (e : Expr) (ir : Ir.Ex) : Prop := PE X e (tN C X.K ir)
theorem tI_list {K : PySem.W.Frag} {ir : Ir.Ex} (hl : ∀ env st v st', Ir.eval C ir env st = .ok v st' → ∃ xs, v = .d (.lst xs)) : ∀ σ H Q, tI C K ir σ H Q → tN C K ir σ H Q := by
  intro σ H Q ⟨ρ, env, st, v, st', rs, re, ev, k⟩
  obtain ⟨xs, rfl⟩ := hl _ _ _ _ ev
  refine ⟨ρ, env, st, xs, st', rs, re, ev, fun ρ' H' a ys x rs' ha hr hh z r => k (ρ'.drop ρ.res) H' _ x.drop (rs'.drop x.rs) (RD.lst hh ?_ z (r.drop' x.rs))⟩
  rintro (q | q)
  · exact rs'.disj a hr q
  · exact rs.fresh ha (.inr q)
theorem tI_newL {K : PySem.W.Frag} {ir : Ir.Ex} : ∀ σ H Q, tI C K (.newL ir) σ H Q → tN C K ir σ H Q := by
  intro σ H Q ⟨ρ, env, st, v, st', rs, re, ev, k⟩
  simp only [Ir.eval] at ev
  obtain ⟨x, s1, e1, ev⟩ := bok ev
  split at ev
  · rename_i xs
    cases ev
    refine ⟨ρ, env, st, xs, s1, rs, re, e1, fun ρ' H' a ys x rs' ha hr hh z r => ?_⟩
    have hn : a ∉ ρ.res := fun q => rs.fresh ha (.inr q)
    have sub : ∀ b, Rho.own ⟨ρ'.ix ++ [some a], ρ.res⟩ b → ρ'.own b := fun b q => by
      rcases q with q | q
      · rcases List.mem_append.mp q with q | q
        · exact .inl q
        · simp at q; subst q; exact .inr hr
      · exact .inr (x.rs b q)
    refine k ⟨ρ'.ix ++ [some a], ρ.res⟩ _ _ (x.cellOf ha hn) (rs'.cellOf x.rs hr hn ⟨ys, hh, z, r.sub sub⟩) ⟨by simp [rs'.len], a, rfl, fun b hb => ?_⟩
    have hb : (ρ'.ix ++ [some a])[s1.length]? = some (some b) := hb
    rw [rs'.len, List.getElem?_append_right (Nat.le_refl _)] at hb
    simp at hb
    exact hb.symm
  · cases ev
theorem se_list {e : Expr} {ir : Ir.Ex} (hl : ∀ env st v st', Ir.eval C ir env st = .ok v st' → ∃ xs, v = .d (.lst xs)) (h : SN X C e ir) : SE X C e ir := pe_imp h (tI_list hl)
theorem se_newL {e : Expr} {ir : Ir.Ex} (h : SN X C e ir) : SE X C e (.newL ir) := pe_imp h tI_newL
/-- a new list, kept aside -/
theorem sn_fin {K : PySem.W.Frag} {ρ ρ1 : Rho} {H H1 : Hp} {st : Ir.Store} {xs : List Ir.D} {ys : List V} {Q : VK} (x : Ext ρ H ρ1 H1) (rs : RS ρ1 K st H1) (r : RDs ρ1 K H1 xs ys) (z : ys.length ≤ sizeLine) {p : Addr} (hp : H1 p = none)
    (k : ∀ ρ' H' a ys, Ext ρ H ρ' H' → RS ρ' K st H' → H a = none → a ∈ ρ'.res → H' a = some (.lst ys) → ys.length ≤ sizeLine → RDs ρ' K H' xs ys → Q (.ref a) H') : Q (.ref p) (upd H1 p (.lst ys)) :=
  k (ρ1.keep p) _ p ys (x.trans (.keep rs hp _)) (rs.keep hp _) (x.al p hp) List.mem_cons_self upd_same z (r.mono (.keep rs hp _))
theorem sn_lst {es : List Expr} {is : List Ir.Ex} {pos : Pos} (hs : SEs X C es is) (hl : is.length ≤ sizeLine := by decide) : SN X C (.List es pos) (.lst is) := by
  refine pe_imp (pe_lst hs) fun σ H Q ⟨ρ, env, st, v, st', rs, re, ev, k⟩ => ?_
  simp only [Ir.eval] at ev
  obtain ⟨vs, s1, e1, ev⟩ := bok ev
  obtain ⟨ds, e2, ev⟩ := ook ev
  cases ev
  refine ⟨ρ, env, st, vs, st', rs, re, e1, fun ρ1 H1 XS x1 rs1 rx => ?_⟩
  have hlen : XS.length ≤ sizeLine := by rw [← rx.length, evals_len _ _ _ _ _ e1]; exact hl
  exact ⟨hlen, fun p hp => sn_fin x1 rs1 (rx.ds e2) hlen hp k⟩
theorem is_lst {is : List Ir.Ex} : ∀ env st v st', Ir.eval C (.lst is) env st = .ok v st' → ∃ xs, v = .d (.lst xs) := fun env st v st' ev => by
  simp only [Ir.eval] at ev
  obtain ⟨vs, s1, e1, ev⟩ := bok ev
  obtain ⟨ds, e2, ev⟩ := ook ev
  cases ev
  exact ⟨_, rfl⟩
theorem se_newD {pos : Pos} : SE X C (.Dict [] [] pos) .newD := by
  refine pe_imp pe_dnewK fun σ H Q ⟨ρ, env, st, v, st', rs, re, ev, k⟩ => fun p hp => ?_
  simp only [Ir.eval] at ev
  cases ev
  refine k (ρ.push p) _ _ (.push rs hp _) (rs.push hp ⟨[], upd_same, Nat.zero_le _, .nil⟩) ⟨by simp [Rho.push, rs.len], p, rfl, fun b hb => ?_⟩
  simp only [Rho.push] at hb
  rw [rs.len, List.getElem?_append_right (Nat.le_refl _)] at hb
  simp at hb
  exact hb.symm
/-- a cell given out as data -/
theorem se_frz {e : Expr} {ir : Ir.Ex} (h : SE X C e ir) : SE X C e (.frz ir) := by
  refine pe_imp h fun σ H Q ⟨ρ, env, st, v, st', rs, re, ev, k⟩ => ?_
  simp only [Ir.eval] at ev
  obtain ⟨x, s1, e1, ev⟩ := bok ev
  split at ev
  · rename_i n
    split at ev
    · rename_i xs hx
      cases ev
      refine ⟨ρ, env, st, _, s1, rs, re, e1, fun ρ1 H1 X1 x1 rs1 rx => ?_⟩
      obtain ⟨a, e2, e3, ys, h1, h2, h3⟩ := RV.cell rs1 rx hx (by simp)
      subst e2
      have hn : n < ρ1.ix.length := (List.getElem?_eq_some_iff.mp e3).1
      exact k _ _ _ (x1.trans (.kill ρ1 H1 n)) (rs1.kill hn) (RD.lst h1 (kill_notin rs1 e3) h2 (h3.mono (.kill ρ1 H1 n)))
    · cases ev
  · cases ev
end Snd

namespace Snd
open PySem PySem.Spec PyProof.Rows L2
/-! ### data as the library's data -/
mutual
def toPy : Ir.D → PyData
  | .non => .none
  | .bool b => .bool b
  | .int i => .int i
  | .str s => .str (Str.ofString s)
  | .tup xs => .tuple (toPys xs)
  | .lst xs => .list (toPys xs)
  | .ro _ => .none
def toPys : List Ir.D → List PyData
  | [] => []
  | x :: xs => toPy x :: toPys xs
end
theorem ofString_inj {x y : String} (h : Str.ofString x = Str.ofString y) : x = y := by
  rw [Str.ofString_eq_toList, Str.ofString_eq_toList] at h
  have h1 := congrArg (fun z : Str => z.cps.toList) h
  simp only at h1
  have h2 : x.toList.map Char.toNat = y.toList.map Char.toNat := by simpa using h1
  have inj : ∀ a b : Char, a.toNat = b.toNat → a = b := fun a b e => Char.ext (UInt32.toNat_inj.mp e)
  have h3 : x.toList = y.toList := (List.map_inj_right inj).mp h2
  exact String.toList_inj.mp h3
theorem ofString_beq (x y : String) : (Str.ofString x == Str.ofString y) = decide (x = y) := by
  by_cases e : x = y
  · subst e; simp
  · have : ¬ Str.ofString x = Str.ofString y := fun h => e (ofString_inj h)
    rw [decide_eq_false e]
    simpa using this
mutual
theorem eqv_toPy : ∀ (x y : Ir.D), x.dep < 1000 → y.dep < 1000 → PyData.eqv (toPy x) (toPy y) = x.eqv y
  | .tup xs, .tup ys, hx, hy => by
    simp only [Ir.D.dep] at hx hy
    simp only [toPy, PyData.eqv, Ir.D.eqv]
    exact eqv_toPys xs ys (by omega) (by omega)
  | .lst xs, .lst ys, hx, hy => by
    simp only [Ir.D.dep] at hx hy
    simp only [toPy, PyData.eqv, Ir.D.eqv]
    exact eqv_toPys xs ys (by omega) (by omega)
  | .str a, .str b, _, _ => by simp only [toPy, PyData.eqv, Ir.D.eqv, ofString_beq]
  | .ro _, _, hx, _ => by simp [Ir.D.dep] at hx
  | .non, .ro _, _, hy => by simp [Ir.D.dep] at hy
  | .bool _, .ro _, _, hy => by simp [Ir.D.dep] at hy
  | .int _, .ro _, _, hy => by simp [Ir.D.dep] at hy
  | .str _, .ro _, _, hy => by simp [Ir.D.dep] at hy
  | .tup _, .ro _, _, hy => by simp [Ir.D.dep] at hy
  | .lst _, .ro _, _, hy => by simp [Ir.D.dep] at hy
  | .non, .non, _, _ => by simp [toPy, PyData.eqv, Ir.D.eqv]
  | .non, .bool _, _, _ => by simp [toPy, PyData.eqv, Ir.D.eqv]
  | .non, .int _, _, _ => by simp [toPy, PyData.eqv, Ir.D.eqv]
  | .non, .str _, _, _ => by simp [toPy, PyData.eqv, Ir.D.eqv]
  | .non, .tup _, _, _ => by simp [toPy, PyData.eqv, Ir.D.eqv]
  | .non, .lst _, _, _ => by simp [toPy, PyData.eqv, Ir.D.eqv]
  | .bool _, .non, _, _ => by simp [toPy, PyData.eqv, Ir.D.eqv]
  | .bool _, .bool _, _, _ => by simp [toPy, PyData.eqv, Ir.D.eqv]
  | .bool _, .int _, _, _ => by simp [toPy, PyData.eqv, Ir.D.eqv]
  | .bool _, .str _, _, _ => by simp [toPy, PyData.eqv, Ir.D.eqv]
  | .bool _, .tup _, _, _ => by simp [toPy, PyData.eqv, Ir.D.eqv]
  | .bool _, .lst _, _, _ => by simp [toPy, PyData.eqv, Ir.D.eqv]
  | .int _, .non, _, _ => by simp [toPy, PyData.eqv, Ir.D.eqv]
  | .int _, .bool _, _, _ => by simp [toPy, PyData.eqv, Ir.D.eqv]
  | .int _, .int _, _, _ => by simp [toPy, PyData.eqv, Ir.D.eqv]
  | .int _, .str _, _, _ => by simp [toPy, PyData.eqv, Ir.D.eqv]
  | .int _, .tup _, _, _ => by simp [toPy, PyData.eqv, Ir.D.eqv]
  | .int _, .lst _, _, _ => by simp [toPy, PyData.eqv, Ir.D.eqv]
  | .str _, .non, _, _ => by simp [toPy, PyData.eqv, Ir.D.eqv]
  | .str _, .bool _, _, _ => by simp [toPy, PyData.eqv, Ir.D.eqv]
  | .str _, .int _, _, _ => by simp [toPy, PyData.eqv, Ir.D.eqv]
  | .str _, .tup _, _, _ => by simp [toPy, PyData.eqv, Ir.D.eqv]
  | .str _, .lst _, _, _ => by simp [toPy, PyData.eqv, Ir.D.eqv]
  | .tup _, .non, _, _ => by simp [toPy, PyData.eqv, Ir.D.eqv]
  | .tup _, .bool _, _, _ => by simp [toPy, PyData.eqv, Ir.D.eqv]
  | .tup _, .int _, _, _ => by simp [toPy, PyData.eqv, Ir.D.eqv]
  | .tup _, .str _, _, _ => by simp [toPy, PyData.eqv, Ir.D.eqv]
  | .tup _, .lst _, _, _ => by simp [toPy, PyData.eqv, Ir.D.eqv]
  | .lst _, .non, _, _ => by simp [toPy, PyData.eqv, Ir.D.eqv]
  | .lst _, .bool _, _, _ => by simp [toPy, PyData.eqv, Ir.D.eqv]
  | .lst _, .int _, _, _ => by simp [toPy, PyData.eqv, Ir.D.eqv]
  | .lst _, .str _, _, _ => by simp [toPy, PyData.eqv, Ir.D.eqv]
  | .lst _, .tup _, _, _ => by simp [toPy, PyData.eqv, Ir.D.eqv]
theorem eqv_toPys : ∀ (xs ys : List Ir.D), Ir.D.depAll xs < 1000 → Ir.D.depAll ys < 1000 → PyData.eqvAll (toPys xs) (toPys ys) = Ir.D.eqvAll xs ys
  | [], [], _, _ => by simp [toPys, PyData.eqvAll, Ir.D.eqvAll]
  | [], _ :: _, _, _ => by simp [toPys, PyData.eqvAll, Ir.D.eqvAll]
  | _ :: _, [], _, _ => by simp [toPys, PyData.eqvAll, Ir.D.eqvAll]
  | x :: xs, y :: ys, hx, hy => by
    simp only [Ir.D.depAll] at hx hy
    simp only [toPys, PyData.eqvAll, Ir.D.eqvAll]
    rw [eqv_toPy x y (by omega) (by omega), eqv_toPys xs ys (by omega) (by omega)]
end
mutual
theorem dep_toPy : ∀ x : Ir.D, x.dep < 1000 → (toPy x).depth = x.dep
  | .non, _ => by simp [toPy, PyData.depth, Ir.D.dep]
  | .bool _, _ => by simp [toPy, PyData.depth, Ir.D.dep]
  | .int _, _ => by simp [toPy, PyData.depth, Ir.D.dep]
  | .str _, _ => by simp [toPy, PyData.depth, Ir.D.dep]
  | .tup xs, h => by simp only [Ir.D.dep] at h; simp only [toPy, PyData.depth, Ir.D.dep]; rw [dep_toPys xs (by omega)]
  | .lst xs, h => by simp only [Ir.D.dep] at h; simp only [toPy, PyData.depth, Ir.D.dep]; rw [dep_toPys xs (by omega)]
  | .ro _, h => by simp [Ir.D.dep] at h
theorem dep_toPys : ∀ xs : List Ir.D, Ir.D.depAll xs < 1000 → PyData.depthAll (toPys xs) = Ir.D.depAll xs
  | [], _ => by simp [toPys, PyData.depthAll, Ir.D.depAll]
  | x :: xs, h => by
    simp only [Ir.D.depAll] at h
    simp only [toPys, PyData.depthAll, Ir.D.depAll]
    rw [dep_toPy x (by omega), dep_toPys xs (by omega)]
end
theorem strOk_ofString (s : String) : PyData.strOk (Str.ofString s) = true := by
  rw [Str.ofString_eq_toList]
  unfold PyData.strOk
  simp only [List.all_toArray, List.all_eq_true]
  intro x hx
  simp only [List.mem_map] at hx
  obtain ⟨c, _, rfl⟩ := hx
  have h : c.toNat < 0xD800 ∨ (0xDFFF < c.toNat ∧ c.toNat < 0x110000) := c.valid
  have h2 : c.toNat < 0x110000 := by omega
  exact decide_eq_true h2
mutual
theorem lay_toPy : ∀ x : Ir.D, (toPy x).canLay0 = true
  | .non => by simp [toPy, PyData.canLay0]
  | .bool _ => by simp [toPy, PyData.canLay0]
  | .int _ => by simp [toPy, PyData.canLay0]
  | .str s => by simp [toPy, PyData.canLay0, strOk_ofString]
  | .tup xs => by simp only [toPy, PyData.canLay0]; exact lay_toPys xs
  | .lst xs => by simp only [toPy, PyData.canLay0]; exact lay_toPys xs
  | .ro _ => by simp [toPy, PyData.canLay0]
theorem lay_toPys : ∀ xs : List Ir.D, PyData.canLayAll0 (toPys xs) = true
  | [] => by simp [toPys, PyData.canLayAll0]
  | x :: xs => by simp [toPys, PyData.canLayAll0, lay_toPy x, lay_toPys xs]
end
theorem shaped_toPy {x : Ir.D} (h : Ir.fine x = true) : SeqAt.shaped (toPy x) = true := by
  have h1 : x.dep ≤ 64 := by simpa [Ir.fine] using h
  unfold SeqAt.shaped
  rw [lay_toPy, dep_toPy x (by omega)]
  simpa using h1
section
variable {ρ : Rho} {K : PySem.W.Frag} {H : Hp}
mutual
theorem RD.dp : ∀ {x : Ir.D} {v : V}, x.dep < 1000 → RD ρ K H x v → Dp K H v (toPy x)
  | _, _, _, .non => .non
  | _, _, _, .bool b => .bl b
  | _, _, _, .int i => .int i
  | _, _, _, .str s => .str _
  | _, _, h, .tup t z r => .tup t.sq (RDs.dp (by simp only [Ir.D.dep] at h; omega) r)
  | _, _, h, .lst t n z r => .lst (SqL.of t) (RDs.dp (by simp only [Ir.D.dep] at h; omega) r)
  | _, _, h, .ro _ _ _ => by simp [Ir.D.dep] at h
theorem RDs.dp : ∀ {xs : List Ir.D} {vs : List V}, Ir.D.depAll xs < 1000 → RDs ρ K H xs vs → DpAll K H vs (toPys xs)
  | _, _, _, .nil => .nil
  | _, _, h, .cons a r => .cons (RD.dp (by simp only [Ir.D.depAll] at h; omega) a) (RDs.dp (by simp only [Ir.D.depAll] at h; omega) r)
end
theorem VD.dp {x : Ir.D} {v : V} (h : x.dep < 1000) (r : VD ρ K H x v) : Dp K H v (toPy x) := by
  cases x with
  | lst xs =>
    obtain ⟨a, ys, rfl, h1, h2, h3⟩ := r
    exact .lst (SqL.of h1) (h3.dp (by simp only [Ir.D.dep] at h; omega))
  | non => exact RD.dp h r
  | bool b => exact RD.dp h r
  | int i => exact RD.dp h r
  | str s => exact RD.dp h r
  | tup xs => exact RD.dp h r
  | ro xs => exact RD.dp h r
end
theorem fine_dep {x : Ir.D} (h : Ir.fine x = true) : x.dep < 1000 := by
  have h1 : x.dep ≤ 64 := by simpa [Ir.fine] using h
  omega
/-! ### operators -/
variable {X : Cx} {C : Ir.Calls}
theorem opR_or {f : Value → Value → Sem Value} {r r' : R2} (h : OpR X f r) (h' : OpR X f r') : OpR X f (fun x y H Q => r x y H Q ∨ r' x y H Q) := by
  intro pins s σ H x y v u Q I rx ry q
  rcases q with q | q
  · exact h pins s σ H x y v u Q I rx ry q
  · exact h' pins s σ H x y v u Q I rx ry q
theorem opR_imp {f : Value → Value → Sem Value} {r r' : R2} (h : OpR X f r) (w : ∀ x y H Q, r' x y H Q → r x y H Q) : OpR X f r' := fun pins s σ H x y v u Q I rx ry q => h pins s σ H x y v u Q I rx ry (w _ _ _ _ q)
/-- data in, data out -/
def rBin (K : PySem.W.Frag) (o : Ir.Op) : R2 := fun x y H Q => ∃ ρ st p q d, RS ρ K st H ∧ VD ρ K H p x ∧ VD ρ K H q y ∧ Ir.D.bin o p q = some d ∧ ∀ ρ' H' z, Ext ρ H ρ' H' → RS ρ' K st H' → RD ρ' K H' d z → Q z H'
theorem RD.int_inv {ρ : Rho} {K : PySem.W.Frag} {H : Hp} {i : Int} {v : V} (h : RD ρ K H (.int i) v) : v = .int i := by cases h; rfl
theorem RD.str_inv {ρ : Rho} {K : PySem.W.Frag} {H : Hp} {i : String} {v : V} (h : RD ρ K H (.str i) v) : v = .str (Str.ofString i) := by cases h; rfl
theorem RD.bool_inv {ρ : Rho} {K : PySem.W.Frag} {H : Hp} {i : Bool} {v : V} (h : RD ρ K H (.bool i) v) : v = .bl i := by cases h; rfl
theorem RD.non_inv {ρ : Rho} {K : PySem.W.Frag} {H : Hp} {v : V} (h : RD ρ K H .non v) : v = .non := by cases h; rfl
theorem RD.tup_inv {ρ : Rho} {K : PySem.W.Frag} {H : Hp} {xs : List Ir.D} {v : V} (h : RD ρ K H (.tup xs) v) : ∃ a ys, v = .ref a ∧ TpAt ρ K H a ys ∧ ys.length ≤ sizeLine ∧ RDs ρ K H xs ys := by
  cases h with
  | tup h z r => exact ⟨_, _, rfl, h, z, r⟩
theorem RD.ro_inv {ρ : Rho} {K : PySem.W.Frag} {H : Hp} {xs : List Ir.D} {v : V} (h : RD ρ K H (.ro xs) v) : ∃ a ys, v = .ref a ∧ LrAt ρ K H a ys ∧ ys.length ≤ sizeLine ∧ RDs ρ K H xs ys := by
  cases h with
  | ro h z r => exact ⟨_, _, rfl, h, z, r⟩
theorem lim_eq : Ir.LIM = sizeLine := by decide
theorem bin_int {o : Ir.Op} {op : Operator} {g : Int → Int → Int} {Cd : Int → Int → Prop} (h : OpR X (binaryOp op) (rI Cd fun i j => .int (g i j)))
    (hd : ∀ p q d, Ir.D.bin o p q = some d → ∃ i j, p = .int i ∧ q = .int j ∧ Cd i j ∧ d = .int (g i j)) : OpR X (binaryOp op) (rBin X.K o) := by
  refine opR_imp h fun x y H Q ⟨ρ, st, p, q, d, rs, hp, hq, hb, k⟩ => ?_
  obtain ⟨i, j, rfl, rfl, hc, rfl⟩ := hd p q d hb
  exact ⟨i, j, RD.int_inv hp, RD.int_inv hq, hc, k ρ H _ (.refl _ _) rs (.int _)⟩
theorem op_sub0 : OpR X (binaryOp .Sub) (rI (fun _ _ => True) fun i j => .int (i - j)) := opI fun _ _ _ _ _ _ _ _ q => sub_int q
theorem op_add0 : OpR X (binaryOp .Add) (rI (fun _ _ => True) fun i j => .int (i + j)) := opI fun _ _ _ _ _ _ _ _ q => add_int q
theorem bin_sub : OpR X (binaryOp .Sub) (rBin X.K .sub) := bin_int op_sub0 fun p q d h => by
  cases p <;> cases q <;> simp [Ir.D.bin] at h
  exact ⟨_, _, rfl, rfl, trivial, h.symm⟩
theorem big_lt {i : Int} (h : Ir.bigOk i = true) : i.natAbs < 2 ^ 4000 := by
  unfold Ir.bigOk at h
  exact of_decide_eq_true h
theorem bin_mul : OpR X (binaryOp .Mult) (rBin X.K .mul) := by
  refine opR_imp (opR_or op_mulW op_mul) fun x y H Q ⟨ρ, st, p, q, d, rs, hp, hq, hb, k⟩ => ?_
  cases p <;> cases q <;> simp only [Ir.D.bin, reduceCtorEq] at hb
  rename_i i j
  split at hb
  · rename_i hc
    cases hb
    have kk := k ρ H _ (.refl _ _) rs (.int (i * j))
    rw [Bool.or_eq_true, Bool.and_eq_true, Bool.or_eq_true] at hc
    rcases hc with hc | hc | hc
    · exact .inl ⟨i, j, RD.int_inv hp, RD.int_inv hq, wide_mul (big_lt hc.1) (big_lt hc.2) (by decide) (by decide) (by decide), kk⟩
    · exact .inr ⟨i, j, RD.int_inv hp, RD.int_inv hq, .inl (of_decide_eq_true hc), kk⟩
    · exact .inr ⟨i, j, RD.int_inv hp, RD.int_inv hq, .inr (of_decide_eq_true hc), kk⟩
  · cases hb
theorem bin_fdiv : OpR X (binaryOp .FloorDiv) (rBin X.K .fdiv) := bin_int op_fdivW fun p q d h => by
  cases p <;> cases q <;> simp only [Ir.D.bin, reduceCtorEq] at h
  rename_i i j
  split at h
  · rename_i hc
    rw [Bool.and_eq_true] at hc
    cases h
    exact ⟨_, _, rfl, rfl, wide_div (of_decide_eq_true hc.1) (big_lt hc.2) (by decide) (by decide), rfl⟩
  · cases h
theorem bin_mod : OpR X (binaryOp .Mod) (rBin X.K .mod) := bin_int op_mod fun p q d h => by
  cases p <;> cases q <;> simp only [Ir.D.bin, reduceCtorEq] at h
  rename_i i j
  split at h
  · rename_i hc
    cases h
    exact ⟨_, _, rfl, rfl, hc, rfl⟩
  · cases h
theorem bits_of {i : Int} {n : Nat} (h : i.natAbs < 2 ^ n) : Builtin.Int.intBits i ≤ n := by
  unfold Builtin.Int.intBits
  split
  · exact Nat.zero_le _
  · rename_i h0
    have : i.natAbs ≠ 0 := by
      intro z
      apply h0
      simpa using z
    exact (Nat.log2_lt this).mpr h
theorem op_powB : OpR X (binaryOp .Pow) (rI (fun i j => 0 ≤ j ∧ j ≤ 100 ∧ i.natAbs < 2 ^ 4000) fun i j => .int (i ^ j.toNat)) := opI fun i j _ _ _ _ _ hc q => pow_int hc.1 (by
  have h1 := bits_of hc.2.2
  have h2 := hc.1
  have h3 := hc.2.1
  have h4 : (Builtin.Int.intBits i : Int) ≤ 4000 := by omega
  calc (Builtin.Int.intBits i : Int) * j ≤ 4000 * j := Int.mul_le_mul_of_nonneg_right h4 h2
    _ ≤ 2 ^ 27 := by omega) q
theorem bin_pow : OpR X (binaryOp .Pow) (rBin X.K .pow) := bin_int op_powB fun p q d h => by
  cases p <;> cases q <;> simp only [Ir.D.bin, reduceCtorEq] at h
  rename_i i j
  split at h
  · rename_i hc
    rw [Bool.and_eq_true, Bool.and_eq_true] at hc
    cases h
    exact ⟨_, _, rfl, rfl, ⟨of_decide_eq_true hc.1.1, of_decide_eq_true hc.1.2, big_lt hc.2⟩, rfl⟩
  · cases h
theorem ofString_app (x y : String) : Str.ofString x ++ Str.ofString y = Str.ofString (x ++ y) := by
  have h : ∀ a b : Str, a ++ b = ⟨a.cps ++ b.cps⟩ := fun a b => by first | rfl | (simp [HAppend.hAppend, Append.append]; rfl)
  rw [Str.ofString_eq_toList, Str.ofString_eq_toList, Str.ofString_eq_toList, h]
  simp
theorem ofString_len (x : String) : (Str.ofString x).length = x.length := by
  rw [Str.ofString_eq_toList]
  show ((x.toList.map Char.toNat).toArray).size = x.length
  simp [String.length_toList]
theorem bin_add : OpR X (binaryOp .Add) (rBin X.K .add) := by
  refine opR_imp (opR_or (opR_or op_add0 op_add_str) (opR_or op_catA op_cat)) fun x y H Q ⟨ρ, st, p, q, d, rs, hp, hq, hb, k⟩ => ?_
  cases p <;> cases q <;> simp only [Ir.D.bin, reduceCtorEq] at hb
  · cases hb
    exact .inl (.inl ⟨_, _, RD.int_inv hp, RD.int_inv hq, trivial, k ρ H _ (.refl _ _) rs (.int _)⟩)
  · rename_i a b
    split at hb
    · rename_i hl
      cases hb
      refine .inl (.inr ⟨_, _, RD.str_inv hp, RD.str_inv hq, by rw [ofString_len, ofString_len, ← lim_eq]; exact hl, ?_⟩)
      rw [ofString_app]
      exact k ρ H _ (.refl _ _) rs (.str _)
    · cases hb
  · rename_i xs ys
    split at hb
    · rename_i hl
      cases hb
      obtain ⟨a, as, rfl, ta, za, ra⟩ := RD.tup_inv hp
      obtain ⟨b, bs, rfl, tb, zb, rb⟩ := RD.tup_inv hq
      have hl2 : as.length + bs.length ≤ sizeLine := by rw [← ra.length, ← rb.length, ← lim_eq]; exact hl
      refine .inr (.inl ⟨a, b, as, bs, rfl, rfl, ta.sq, tb.sq, hl2, fun z => ?_, fun _ z => ?_, fun _ _ p hp => ?_⟩)
      · subst z
        cases ra
        exact k ρ H _ (.refl _ _) rs (.tup tb zb rb)
      · subst z
        cases rb
        rw [List.append_nil] at k
        exact k ρ H _ (.refl _ _) rs (.tup ta za ra)
      · exact k ρ _ _ (.grow rs hp _) (rs.grow hp _) (grow_tup rs (ra.append rb) (by rw [List.length_append]; exact hl2) hp)
    · cases hb
  · rename_i xs ys
    split at hb
    · rename_i hl
      cases hb
      obtain ⟨a, as, rfl, ha, za, ra⟩ := hp
      obtain ⟨b, bs, rfl, hb', zb, rb⟩ := hq
      have hl2 : as.length + bs.length ≤ sizeLine := by rw [← ra.length, ← rb.length, ← lim_eq]; exact hl
      refine .inr (.inr ⟨a, b, as, bs, rfl, rfl, ha, hb', hl2, fun p hp => ?_⟩)
      exact k ρ _ _ (.grow rs hp _) (rs.grow hp _) (grow_lst rs (ra.append rb) (by rw [List.length_append]; exact hl2) hp)
    · cases hb
theorem se_bin {a b : Expr} {op : Operator} {o : Ir.Op} {ia ib : Ir.Ex} {pos : Pos} (ho : OpR X (binaryOp op) (rBin X.K o)) (ha : SE X C a ia) (hb : SE X C b ib) : SE X C (.BinOp a op b pos) (.bin o ia ib) := by
  refine pe_imp (pe_op ho ha hb) fun σ H Q ⟨ρ, env, st, v, st', rs, re, ev, k⟩ => ?_
  simp only [Ir.eval] at ev
  obtain ⟨x, s1, e1, ev⟩ := bok ev
  obtain ⟨y, s2, e2, ev⟩ := bok ev
  obtain ⟨p, e3, ev⟩ := ook ev
  obtain ⟨q, e4, ev⟩ := ook ev
  obtain ⟨d, e5, ev⟩ := ook ev
  cases ev
  exact ⟨ρ, env, st, x, s1, rs, re, e1, fun ρ1 H1 X1 x1 rs1 rx => ⟨ρ1, env, s1, y, st', rs1, re.mono x1, e2, fun ρ2 H2 Y x2 rs2 ry =>
    ⟨ρ2, st', p, q, d, rs2, .deref rs2 (rx.mono x2) e3, .deref rs2 ry e4, e5, fun ρ' H' z x3 rs3 rz => k ρ' H' z ((x1.trans x2).trans x3) rs3 rz⟩⟩⟩
theorem se_neg {a : Expr} {ia : Ir.Ex} {pos : Pos} (ha : SE X C a ia) : SE X C (.UnaryOp .USub a pos) (.neg ia) := by
  refine pe_imp (pe_un un_neg ha) fun σ H Q ⟨ρ, env, st, v, st', rs, re, ev, k⟩ => ?_
  simp only [Ir.eval] at ev
  obtain ⟨x, s1, e1, ev⟩ := bok ev
  obtain ⟨i, e2, ev⟩ := ook ev
  cases ev
  refine ⟨ρ, env, st, x, st', rs, re, e1, fun ρ1 H1 X1 x1 rs1 rx => ?_⟩
  have : x = .d (.int i) := by
    cases x with
    | ref n => simp [Ir.asI] at e2
    | d y => cases y <;> simp [Ir.asI] at e2; subst e2; rfl
  subst this
  exact ⟨i, RD.int_inv rx, k ρ1 H1 _ x1 rs1 (.int _)⟩
end Snd

namespace Snd
open PySem PySem.Spec PyProof.Rows L2
variable {X : Cx} {C : Ir.Calls}
/-! ### comparisons -/
def rCmp (K : PySem.W.Frag) (o : Ir.Cmp) : R2 := fun x y H Q => ∃ ρ st p q b, RS ρ K st H ∧ RV ρ K H p x ∧ RV ρ K H q y ∧ Ir.cmpV o st p q = some b ∧ Q (.bl b) H
theorem cmpV_plain {o : Ir.Cmp} (h : o ≠ .isin ∧ o ≠ .notin ∧ o ≠ .is ∧ o ≠ .isnot) {st : Ir.Store} {p q : Ir.Val} {b : Bool} (e : Ir.cmpV o st p q = some b) : ∃ x y, Ir.deref st p = some x ∧ Ir.deref st q = some y ∧ Ir.D.cmp o x y = some b := by
  obtain ⟨h1, h2, h3, h4⟩ := h
  unfold Ir.cmpV at e
  split at e
  · exact absurd rfl h1
  · exact absurd rfl h2
  · exact absurd rfl h3
  · exact absurd rfl h4
  · split at e
    · rename_i a b' ha hb
      exact ⟨a, b', ha, hb, e⟩
    · cases e
theorem cmp_eq {n : Nat} (hr : Room n X.A) : OpR X (compareOp .Eq) (rCmp X.K .eq) := by
  refine opR_imp (op_eqD hr.units) fun x y H Q ⟨ρ, st, p, q, b, rs, hp, hq, hb, k⟩ => ?_
  obtain ⟨a, c, e1, e2, e3⟩ := cmpV_plain (by decide) hb
  simp only [Ir.D.cmp] at e3
  split at e3
  · rename_i hf
    rw [Bool.and_eq_true] at hf
    cases e3
    refine ⟨toPy a, toPy c, (VD.deref rs hp e1).dp (fine_dep hf.1), (VD.deref rs hq e2).dp (fine_dep hf.2), shaped_toPy hf.1, shaped_toPy hf.2, ?_⟩
    rw [eqv_toPy a c (fine_dep hf.1) (fine_dep hf.2)]
    exact k
  · cases e3
theorem cmp_ne {n : Nat} (hr : Room n X.A) : OpR X (compareOp .NotEq) (rCmp X.K .ne) := by
  refine opR_imp (op_neD hr.units) fun x y H Q ⟨ρ, st, p, q, b, rs, hp, hq, hb, k⟩ => ?_
  obtain ⟨a, c, e1, e2, e3⟩ := cmpV_plain (by decide) hb
  simp only [Ir.D.cmp] at e3
  split at e3
  · rename_i hf
    rw [Bool.and_eq_true] at hf
    cases e3
    refine ⟨toPy a, toPy c, (VD.deref rs hp e1).dp (fine_dep hf.1), (VD.deref rs hq e2).dp (fine_dep hf.2), shaped_toPy hf.1, shaped_toPy hf.2, ?_⟩
    rw [eqv_toPy a c (fine_dep hf.1) (fine_dep hf.2)]
    exact k
  · cases e3
theorem cmp_int {op : CmpOp} {o : Ir.Cmp} {g : Int → Int → Bool} (h : OpR X (compareOp op) (rI0 fun i j => .bl (g i j))) (hp : o ≠ .isin ∧ o ≠ .notin ∧ o ≠ .is ∧ o ≠ .isnot)
    (hd : ∀ p q b, Ir.D.cmp o p q = some b → ∃ i j, p = .int i ∧ q = .int j ∧ b = g i j) : OpR X (compareOp op) (rCmp X.K o) := by
  refine opR_imp h fun x y H Q ⟨ρ, st, p, q, b, rs, rp, rq, hb, k⟩ => ?_
  obtain ⟨a, c, e1, e2, e3⟩ := cmpV_plain hp hb
  obtain ⟨i, j, rfl, rfl, rfl⟩ := hd _ _ _ e3
  exact ⟨i, j, RD.int_inv (VD.deref rs rp e1), RD.int_inv (VD.deref rs rq e2), k⟩
theorem cmp_lt : OpR X (compareOp .Lt) (rCmp X.K .lt) := cmp_int op_lt (by decide) fun p q b h => by
  cases p <;> cases q <;> simp only [Ir.D.cmp, reduceCtorEq] at h
  cases h; exact ⟨_, _, rfl, rfl, rfl⟩
theorem cmp_le : OpR X (compareOp .LtE) (rCmp X.K .le) := cmp_int op_le (by decide) fun p q b h => by
  cases p <;> cases q <;> simp only [Ir.D.cmp, reduceCtorEq] at h
  cases h; exact ⟨_, _, rfl, rfl, rfl⟩
theorem cmp_gt : OpR X (compareOp .Gt) (rCmp X.K .gt) := cmp_int op_gt (by decide) fun p q b h => by
  cases p <;> cases q <;> simp only [Ir.D.cmp, reduceCtorEq] at h
  cases h; exact ⟨_, _, rfl, rfl, rfl⟩
theorem cmp_ge : OpR X (compareOp .GtE) (rCmp X.K .ge) := cmp_int op_ge (by decide) fun p q b h => by
  cases p <;> cases q <;> simp only [Ir.D.cmp, reduceCtorEq] at h
  cases h; exact ⟨_, _, rfl, rfl, rfl⟩
theorem RD.non_iff {ρ : Rho} {K : PySem.W.Frag} {H : Hp} {x : Ir.D} {v : V} (h : RD ρ K H x v) : decide (v = .non) = (match x with | .non => true | _ => false) := by
  cases h <;> simp
theorem isNon_ok {p q : Ir.Val} {b : Bool} {ρ : Rho} {K : PySem.W.Frag} {H : Hp} {x y : V} (rp : RV ρ K H p x) (rq : RV ρ K H q y) (e : Ir.isNon p q = some b) : (y = .non ∧ b = decide (x = .non)) ∨ ∃ u w, x = .bl u ∧ y = .bl w ∧ b = decide (u = w) := by
  unfold Ir.isNon at e
  split at e
  · cases e
    obtain ⟨_, a, rfl, _⟩ := rp
    exact .inl ⟨RD.non_inv rq, by simp⟩
  · rename_i u
    refine .inl ⟨RD.non_inv rq, ?_⟩
    rw [RD.non_iff rp]
    cases u <;> simpa using e.symm
  · cases e
    exact .inr ⟨_, _, RD.bool_inv rp, RD.bool_inv rq, rfl⟩
  · cases e
theorem cmp_is : OpR X (compareOp .Is) (rCmp X.K .is) := opR_imp (opR_or op_isN op_is_bl) fun x y H Q ⟨ρ, st, p, q, b, rs, hp, hq, hb, k⟩ => by
  rcases isNon_ok hp hq (show Ir.isNon p q = some b from hb) with ⟨h1, h2⟩ | ⟨u, w, h1, h2, h3⟩
  · exact .inl ⟨h1, by rw [← h2]; exact k⟩
  · exact .inr ⟨u, w, h1, h2, by rw [← h3]; exact k⟩
theorem cmp_isnot : OpR X (compareOp .IsNot) (rCmp X.K .isnot) := opR_imp (opR_or op_notN op_isnot_bl) fun x y H Q ⟨ρ, st, p, q, b, rs, hp, hq, hb, k⟩ => by
  have hb : (Ir.isNon p q).map (!·) = some b := hb
  simp only [Option.map_eq_some_iff] at hb
  obtain ⟨c, hc, rfl⟩ := hb
  rcases isNon_ok hp hq hc with ⟨h1, h2⟩ | ⟨u, w, h1, h2, h3⟩
  · exact .inl ⟨h1, by rw [← h2]; exact k⟩
  · exact .inr ⟨u, w, h1, h2, by rw [← h3]; exact k⟩
/-- what two expressions give, then a relation over both -/
theorem tI_two {a b : Ir.Ex} {K : PySem.W.Frag} {R : V → V → Hp → Prop} {σ : L2.St} {H : Hp} {ρ : Rho} {env : Ir.Env} {st s1 s2 : Ir.Store} {x y : Ir.Val} (rs : RS ρ K st H) (re : REnv ρ K H env σ) (e1 : Ir.eval C a env st = .ok x s1) (e2 : Ir.eval C b env s1 = .ok y s2)
    (k : ∀ ρ' H' X Y, Ext ρ H ρ' H' → RS ρ' K s2 H' → RV ρ' K H' x X → RV ρ' K H' y Y → R X Y H') : tI C K a σ H fun X H1 => tI C K b σ H1 fun Y H2 => R X Y H2 :=
  ⟨ρ, env, st, x, s1, rs, re, e1, fun ρ1 H1 X1 x1 rs1 rx => ⟨ρ1, env, s1, y, s2, rs1, re.mono x1, e2, fun ρ2 H2 Y x2 rs2 ry => k ρ2 H2 X1 Y (x1.trans x2) rs2 (rx.mono x2) ry⟩⟩
theorem se_cmp {a b : Expr} {op : CmpOp} {o : Ir.Cmp} {ia ib : Ir.Ex} {pos : Pos} (ho : OpR X (compareOp op) (rCmp X.K o)) (ha : SE X C a ia) (hb : SE X C b ib) (hm : behindInMarks op b = false := by first | exact nomark _ | rfl) : SE X C (.Compare a [op] [b] pos) (.cmp o ia ib) := by
  refine pe_imp (pe_cmpR ho ha hb hm) fun σ H Q ⟨ρ, env, st, v, st', rs, re, ev, k⟩ => ?_
  simp only [Ir.eval] at ev
  obtain ⟨x, s1, e1, ev⟩ := bok ev
  obtain ⟨y, s2, e2, ev⟩ := bok ev
  obtain ⟨r, e3, ev⟩ := ook ev
  cases ev
  exact tI_two rs re e1 e2 fun ρ' H' X Y x1 rs1 rx ry => ⟨ρ', _, x, y, r, rs1, rx, ry, e3, k ρ' H' _ x1 rs1 (.bool r)⟩
theorem st_val {e : Expr} {ir : Ir.Ex} (h : SE X C e ir) (he : ∀ whole, isTrue e X.env whole = (do let v ← whole; standAt e.pos; holding [v] (truthy v)) := by intro _; rfl) : ST X C e ir :=
  pt_imp (pt_val h he) fun σ H Q ⟨ρ, env, st, b, st', rs, re, ev, k⟩ => ⟨ρ, env, st, _, st', rs, re, ev, fun ρ' H' x x1 rs1 rx => ⟨b, RD.bool_inv rx, k ρ' H' x1 rs1⟩⟩
theorem st_cmp {a b : Expr} {op : CmpOp} {o : Ir.Cmp} {ia ib : Ir.Ex} {pos : Pos} (ho : OpR X (compareOp op) (rCmp X.K o)) (ha : SE X C a ia) (hb : SE X C b ib) (hm : behindInMarks op b = false := by first | exact nomark _ | rfl) : ST X C (.Compare a [op] [b] pos) (.cmp o ia ib) := by
  refine pt_imp (pt_cmpR ho ha hb hm) fun σ H Q ⟨ρ, env, st, v, st', rs, re, ev, k⟩ => ?_
  simp only [Ir.eval] at ev
  obtain ⟨x, s1, e1, ev⟩ := bok ev
  obtain ⟨y, s2, e2, ev⟩ := bok ev
  obtain ⟨r, e3, ev⟩ := ook ev
  cases ev
  exact tI_two rs re e1 e2 fun ρ' H' X Y x1 rs1 rx ry => ⟨ρ', _, x, y, _, rs1, rx, ry, e3, _, rfl, k ρ' H' x1 rs1⟩
/-! ### in a list, a tuple, a dict -/
theorem RK.kv {ρ : Rho} {K : PySem.W.Frag} {H : Hp} {d : Ir.D} {v : V} (h : RD ρ K H d v) (k : d.key = true) : ∃ k', RK d k' ∧ v = kV k' := by
  cases h <;> simp only [Ir.D.key, Bool.false_eq_true] at k
  · exact ⟨.inl _, rfl, rfl⟩
  · exact ⟨.inr _, rfl, rfl⟩
theorem RK.beq : ∀ {a b : Ir.D} {x y : Key}, RK a x → RK b y → a.eqv b = decide (x = y)
  | .int i, .int j, _, _, rfl, rfl => by simp only [Ir.D.eqv]; rw [key_ll]
  | .int i, .str j, _, _, rfl, rfl => by simp only [Ir.D.eqv]; rw [key_lr]
  | .str i, .int j, _, _, rfl, rfl => by simp only [Ir.D.eqv]; rw [key_rl]
  | .str i, .str j, _, _, rfl, rfl => by
    simp only [Ir.D.eqv]; rw [key_rr]
    by_cases e : i = j
    · subst e; simp
    · have : ¬ Str.ofString i = Str.ofString j := fun h => e (ofString_inj h)
      simp [e, this]
  | .non, _, _, _, h, _ => h.elim
  | .bool _, _, _, _, h, _ => h.elim
  | .tup _, _, _, _, h, _ => h.elim
  | .lst _, _, _, _, h, _ => h.elim
  | .ro _, _, _, _, h, _ => h.elim
  | .int _, .non, _, _, _, h => h.elim
  | .int _, .bool _, _, _, _, h => h.elim
  | .int _, .tup _, _, _, _, h => h.elim
  | .int _, .lst _, _, _, _, h => h.elim
  | .int _, .ro _, _, _, _, h => h.elim
  | .str _, .non, _, _, _, h => h.elim
  | .str _, .bool _, _, _, _, h => h.elim
  | .str _, .tup _, _, _, _, h => h.elim
  | .str _, .lst _, _, _, _, h => h.elim
  | .str _, .ro _, _, _, _, h => h.elim
theorem RKs.look {ρ : Rho} {K : PySem.W.Frag} {H : Hp} {k : Ir.D} {k' : Key} (hk : RK k k') : ∀ {kvs : List (Ir.D × Ir.D)} {ks : List (Key × V)}, RKs ρ K H kvs ks →
    (Ir.lookK kvs k = none ∧ valV ks k' = none) ∨ ∃ v x, Ir.lookK kvs k = some v ∧ valV ks k' = some x ∧ RD ρ K H v x
  | _, _, .nil => .inl ⟨rfl, rfl⟩
  | (a, v) :: kvs, (b, x) :: ks, .cons h1 h2 r => by
    have e := RK.beq h1 hk
    by_cases c : b = k'
    · refine .inr ⟨v, x, ?_, valV_pos c, h2⟩
      simp [Ir.lookK, List.find?_cons, e, c]
    · rw [valV_neg (p := (b, x)) c]
      have : Ir.lookK ((a, v) :: kvs) k = Ir.lookK kvs k := by simp [Ir.lookK, List.find?_cons, e, c]
      rw [this]
      exact RKs.look hk r
theorem RKs.map_put {ρ : Rho} {K : PySem.W.Frag} {H : Hp} {k v : Ir.D} {k' : Key} {x : V} (hk : RK k k') (hv : RD ρ K H v x) : ∀ {kvs : List (Ir.D × Ir.D)} {ks : List (Key × V)}, RKs ρ K H kvs ks →
    RKs ρ K H (kvs.map fun p => if p.1.eqv k then (p.1, v) else p) (ks.map fun kv => if kv.1 = k' then (kv.1, x) else kv)
  | _, _, .nil => .nil
  | (a, w) :: kvs, (b, y) :: ks, .cons h1 h2 r => by
    have e := RK.beq h1 hk
    simp only [List.map_cons]
    by_cases c : b = k'
    · simp only [e, c, decide_true, if_true]
      exact .cons (by rw [← c]; exact h1) hv (RKs.map_put hk hv r)
    · simp only [e, c, decide_false, if_false, Bool.false_eq_true]
      exact .cons h1 h2 (RKs.map_put hk hv r)
theorem RKs.any {ρ : Rho} {K : PySem.W.Frag} {H : Hp} {k : Ir.D} {k' : Key} (hk : RK k k') : ∀ {kvs : List (Ir.D × Ir.D)} {ks : List (Key × V)}, RKs ρ K H kvs ks → (kvs.any fun p => p.1.eqv k) = (ks.any fun kv => decide (kv.1 = k'))
  | _, _, .nil => rfl
  | (a, v) :: kvs, (b, x) :: ks, .cons h1 h2 r => by
    simp only [List.any_cons, RK.beq h1 hk, RKs.any hk r]
theorem RKs.append {ρ : Rho} {K : PySem.W.Frag} {H : Hp} {k v : Ir.D} {k' : Key} {x : V} (hk : RK k k') (hv : RD ρ K H v x) : ∀ {kvs : List (Ir.D × Ir.D)} {ks : List (Key × V)}, RKs ρ K H kvs ks → RKs ρ K H (kvs ++ [(k, v)]) (ks ++ [(k', x)])
  | _, _, .nil => .cons hk hv .nil
  | _, _, .cons h1 h2 r => .cons h1 h2 (RKs.append hk hv r)
theorem RKs.put {ρ : Rho} {K : PySem.W.Frag} {H : Hp} {k v : Ir.D} {k' : Key} {x : V} (hk : RK k k') (hv : RD ρ K H v x) {kvs : List (Ir.D × Ir.D)} {ks : List (Key × V)} (r : RKs ρ K H kvs ks) : RKs ρ K H (Ir.putK kvs k v) (putK ks k' x) := by
  unfold Ir.putK putK
  rw [RKs.any hk r]
  split
  · exact RKs.map_put hk hv r
  · exact RKs.append hk hv r
theorem RD.flat {ρ : Rho} {K : PySem.W.Frag} {H : Hp} {d : Ir.D} {v : V} (h : RD ρ K H d v) (k : Ir.flat d = true) : flatV v = true := by
  cases h <;> simp_all [Ir.flat, flatV]
theorem RD.eqV {ρ : Rho} {K : PySem.W.Frag} {H : Hp} {d e : Ir.D} {v u : V} (h : RD ρ K H d v) (k : Ir.flat d = true) (h' : RD ρ K H e u) (k' : Ir.flat e = true) : L2.eqV v u = d.eqv e := by
  cases h <;> cases h' <;> simp_all [Ir.flat, L2.eqV, Ir.D.eqv, ofString_beq]
theorem RDs.inV {ρ : Rho} {K : PySem.W.Frag} {H : Hp} {d : Ir.D} {v : V} (h : RD ρ K H d v) (k : Ir.flat d = true) : ∀ {xs : List Ir.D} {ys : List V}, RDs ρ K H xs ys → xs.all Ir.flat = true → ys.all flatV = true ∧ L2.inV v ys = xs.any fun y => y.eqv d
  | _, _, .nil, _ => ⟨rfl, rfl⟩
  | _, _, .cons a r, hf => by
    simp only [List.all_cons, Bool.and_eq_true] at hf
    obtain ⟨h1, h2⟩ := RDs.inV h k r hf.2
    refine ⟨by simp only [List.all_cons, Bool.and_eq_true]; exact ⟨a.flat hf.1, h1⟩, ?_⟩
    unfold L2.inV at h2 ⊢
    simp only [List.any_cons, a.eqV hf.1 h k, h2]
theorem pe_or {e : Expr} {t t' : TE} (h : PE X e t) (h' : PE X e t') : PE X e (fun σ H Q => t σ H Q ∨ t' σ H Q) := ⟨fun pins s σ H Q I q => by
  rcases q with q | q
  · exact h.run pins s σ H Q I q
  · exact h'.run pins s σ H Q I q⟩
theorem pt_or {e : Expr} {t t' : TT} (h : PT X e t) (h' : PT X e t') : PT X e (fun σ H Q => t σ H Q ∨ t' σ H Q) := ⟨fun pins s σ H Q I q => by
  rcases q with q | q
  · exact h.run pins s σ H Q I q
  · exact h'.run pins s σ H Q I q⟩
theorem any_toPys (d : Ir.D) (hd : d.dep < 1000) : ∀ xs : List Ir.D, Ir.D.depAll xs < 1000 → ((toPys xs).any fun z => PyData.eqv z (toPy d)) = xs.any fun y => y.eqv d
  | [], _ => rfl
  | x :: xs, h => by
    simp only [Ir.D.depAll] at h
    simp only [toPys, List.any_cons, eqv_toPy x d (by omega) hd, any_toPys d hd xs (by omega)]
/-- in a list or a tuple, by values -/
theorem mem_seq {ρ : Rho} {K : PySem.W.Frag} {H : Hp} {d e : Ir.D} {x y : V} {b : Bool} (hd : RD ρ K H d x) (he : VD ρ K H e y) (h : Ir.D.mem d e = some b) :
    (∃ d' ds, Dp K H x d' ∧ Dp K H y (.list ds) ∧ SeqAt.shaped d' = true ∧ SeqAt.shaped (.list ds) = true ∧ (ds.any fun z => PyData.eqv z d') = b) ∨
    ∃ p xs, y = .ref p ∧ (SqL K H p xs ∨ SqT K H p xs) ∧ flatV x = true ∧ xs.all flatV = true ∧ L2.inV x xs = b := by
  cases e <;> simp only [Ir.D.mem, reduceCtorEq] at h
  · rename_i xs
    split at h
    · rename_i hf
      rw [Bool.and_eq_true] at hf
      cases h
      obtain ⟨a, ys, rfl, t, z, r⟩ := RD.tup_inv he
      obtain ⟨h1, h2⟩ := RDs.inV hd hf.1 r hf.2
      exact .inr ⟨a, ys, rfl, .inr t.sq, hd.flat hf.1, h1, h2⟩
    · cases h
  · rename_i xs
    split at h
    · rename_i hf
      rw [Bool.and_eq_true] at hf
      cases h
      have f2 := fine_dep hf.2
      exact .inl ⟨toPy d, toPys xs, hd.dp (fine_dep hf.1), VD.dp f2 he, shaped_toPy hf.1, shaped_toPy hf.2, any_toPys d (fine_dep hf.1) xs (by simp only [Ir.D.dep] at f2; omega)⟩
    · cases h
theorem inB_seq {ρ : Rho} {K : PySem.W.Frag} {H : Hp} {st : Ir.Store} {p q : Ir.Val} {x y : V} {b : Bool} (rs : RS ρ K st H) (rp : RV ρ K H p x) (rq : RV ρ K H q y) (hd : ¬ ∃ n kvs, q = .ref n ∧ st[n]? = some (.dic kvs)) (e : Ir.inB st p q = some b) :
    (∃ d' ds, Dp K H x d' ∧ Dp K H y (.list ds) ∧ SeqAt.shaped d' = true ∧ SeqAt.shaped (.list ds) = true ∧ (ds.any fun z => PyData.eqv z d') = b) ∨
    ∃ p xs, y = .ref p ∧ (SqL K H p xs ∨ SqT K H p xs) ∧ flatV x = true ∧ xs.all flatV = true ∧ L2.inV x xs = b := by
  unfold Ir.inB at e
  split at e
  · rename_i k n
    split at e
    · rename_i kvs hk
      exact absurd ⟨n, kvs, rfl, hk⟩ hd
    · rename_i xs hk
      obtain ⟨a, rfl, h1, ys, h2, h3, h4⟩ := RV.cell rs rq hk (by simp)
      exact mem_seq rp (show VD ρ K H (.lst xs) _ from ⟨a, ys, rfl, h2, h3, h4⟩) e
    · cases e
  · exact mem_seq rp (VD.of rq) e
  · cases e
theorem inB_dic {ρ : Rho} {K : PySem.W.Frag} {H : Hp} {st : Ir.Store} {p q : Ir.Val} {x y : V} {b : Bool} (rs : RS ρ K st H) (rp : RV ρ K H p x) (rq : RV ρ K H q y) (hd : ∃ n kvs, q = .ref n ∧ st[n]? = some (.dic kvs)) (e : Ir.inB st p q = some b) :
    ∃ a o, y = .ref a ∧ DGet H a x o ∧ o.isSome = b := by
  obtain ⟨n, kvs, rfl, hk⟩ := hd
  unfold Ir.inB at e
  split at e
  · rename_i d m e0
    cases e0
    rw [hk] at e
    simp only at e
    split at e
    · rename_i hkey
      cases e
      obtain ⟨a, rfl, h1, ks, h2, h3, h4⟩ := RV.cell rs rq hk (by simp)
      obtain ⟨k', hk1, rfl⟩ := RK.kv rp hkey
      refine ⟨a, _, rfl, .k h2, ?_⟩
      rcases RKs.look hk1 h4 with ⟨e1, e2⟩ | ⟨v, z, e1, e2, _⟩
      · rw [e1, e2]; rfl
      · rw [e1, e2]; rfl
    · cases e
  · rename_i e0
    cases e0
  · cases e
theorem units65 {n : Nat} {A : Around} (hr : Room n A) : A.units + 65 < cLine := by have := hr.un; omega
theorem se_in {a b : Expr} {ia ib : Ir.Ex} {pos : Pos} {n : Nat} (hr : Room n X.A) (ha : SE X C a ia) (hb : SE X C b ib) (hm : behindInMarks .In b = false := by first | rfl | with_unfolding_all rfl) : SE X C (.Compare a [.In] [b] pos) (.cmp .isin ia ib) := by
  refine pe_imp (pe_or (pe_cmpR (opR_or (op_inD (units65 hr)) op_in_seq) ha hb hm) (pe_cmp (pc_din (hu_of hr) ha hb) hm)) fun σ H Q ⟨ρ, env, st, v, st', rs, re, ev, k⟩ => ?_
  simp only [Ir.eval] at ev
  obtain ⟨x, s1, e1, ev⟩ := bok ev
  obtain ⟨y, s2, e2, ev⟩ := bok ev
  obtain ⟨r, e3, ev⟩ := ook ev
  cases ev
  have e3 : Ir.inB st' x y = some r := e3
  by_cases hd : ∃ n kvs, y = .ref n ∧ st'[n]? = some (.dic kvs)
  · refine .inr (tI_two rs re e1 e2 fun ρ' H' X Y x1 rs1 rx ry => ?_)
    obtain ⟨a, o, h1, h2, h3⟩ := inB_dic rs1 rx ry hd e3
    exact ⟨a, o, h1, h2, by rw [h3]; exact k ρ' H' _ x1 rs1 (.bool r)⟩
  · refine .inl (tI_two rs re e1 e2 fun ρ' H' X Y x1 rs1 rx ry => ?_)
    have kk := k ρ' H' _ x1 rs1 (.bool r)
    rcases inB_seq rs1 rx ry hd e3 with ⟨d, ds, h1, h2, h3, h4, h5⟩ | ⟨p, xs, h1, h2, h3, h4, h5⟩
    · exact .inl ⟨d, ds, h1, h2, h3, h4, by rw [h5]; exact kk⟩
    · exact .inr ⟨p, xs, h1, h2, h3, h4, by simp only [Bool.false_eq_true, if_false, h5]; exact kk⟩
theorem se_notin {a b : Expr} {ia ib : Ir.Ex} {pos : Pos} {n : Nat} (hr : Room n X.A) (ha : SE X C a ia) (hb : SE X C b ib) (hm : behindInMarks .NotIn b = false := by first | rfl | with_unfolding_all rfl) : SE X C (.Compare a [.NotIn] [b] pos) (.cmp .notin ia ib) := by
  refine pe_imp (pe_or (pe_cmpR (opR_or (op_notInD (units65 hr)) op_notIn_seq) ha hb hm) (pe_cmp (pc_dnotin (hu_of hr) ha hb) hm)) fun σ H Q ⟨ρ, env, st, v, st', rs, re, ev, k⟩ => ?_
  simp only [Ir.eval] at ev
  obtain ⟨x, s1, e1, ev⟩ := bok ev
  obtain ⟨y, s2, e2, ev⟩ := bok ev
  obtain ⟨r, e3, ev⟩ := ook ev
  cases ev
  have e3 : (Ir.inB st' x y).map (!·) = some r := e3
  simp only [Option.map_eq_some_iff] at e3
  obtain ⟨c, e4, rfl⟩ := e3
  by_cases hd : ∃ n kvs, y = .ref n ∧ st'[n]? = some (.dic kvs)
  · refine .inr (tI_two rs re e1 e2 fun ρ' H' X Y x1 rs1 rx ry => ?_)
    obtain ⟨a, o, h1, h2, h3⟩ := inB_dic rs1 rx ry hd e4
    exact ⟨a, o, h1, h2, by rw [h3]; exact k ρ' H' _ x1 rs1 (.bool _)⟩
  · refine .inl (tI_two rs re e1 e2 fun ρ' H' X Y x1 rs1 rx ry => ?_)
    have kk := k ρ' H' _ x1 rs1 (.bool _)
    rcases inB_seq rs1 rx ry hd e4 with ⟨d, ds, h1, h2, h3, h4, h5⟩ | ⟨p, xs, h1, h2, h3, h4, h5⟩
    · exact .inl ⟨d, ds, h1, h2, h3, h4, by rw [h5]; exact kk⟩
    · exact .inr ⟨p, xs, h1, h2, h3, h4, by simp only [if_true, h5]; exact kk⟩
/-- a comparison, as a test -/
theorem st_in {a b : Expr} {ia ib : Ir.Ex} {pos : Pos} {n : Nat} (hr : Room n X.A) (ha : SE X C a ia) (hb : SE X C b ib) (hm : behindInMarks .In b = false := by first | rfl | with_unfolding_all rfl) : ST X C (.Compare a [.In] [b] pos) (.cmp .isin ia ib) := by
  refine pt_imp (pt_or (pt_cmpR (opR_or (op_inD (units65 hr)) op_in_seq) ha hb hm) (pt_cmp (pc_din (hu_of hr) ha hb) hm)) fun σ H Q ⟨ρ, env, st, v, st', rs, re, ev, k⟩ => ?_
  simp only [Ir.eval] at ev
  obtain ⟨x, s1, e1, ev⟩ := bok ev
  obtain ⟨y, s2, e2, ev⟩ := bok ev
  obtain ⟨r, e3, ev⟩ := ook ev
  cases ev
  have e3 : Ir.inB st' x y = some v := e3
  by_cases hd : ∃ n kvs, y = .ref n ∧ st'[n]? = some (.dic kvs)
  · refine .inr (tI_two rs re e1 e2 fun ρ' H' X Y x1 rs1 rx ry => ?_)
    obtain ⟨a, o, h1, h2, h3⟩ := inB_dic rs1 rx ry hd e3
    exact ⟨a, o, h1, h2, _, rfl, by rw [h3]; exact k ρ' H' x1 rs1⟩
  · refine .inl (tI_two rs re e1 e2 fun ρ' H' X Y x1 rs1 rx ry => ?_)
    have kk := k ρ' H' x1 rs1
    rcases inB_seq rs1 rx ry hd e3 with ⟨d, ds, h1, h2, h3, h4, h5⟩ | ⟨p, xs, h1, h2, h3, h4, h5⟩
    · exact .inl ⟨d, ds, h1, h2, h3, h4, _, rfl, by rw [h5]; exact kk⟩
    · exact .inr ⟨p, xs, h1, h2, h3, h4, _, rfl, by simp only [Bool.false_eq_true, if_false, h5]; exact kk⟩
theorem st_notin {a b : Expr} {ia ib : Ir.Ex} {pos : Pos} {n : Nat} (hr : Room n X.A) (ha : SE X C a ia) (hb : SE X C b ib) (hm : behindInMarks .NotIn b = false := by first | rfl | with_unfolding_all rfl) : ST X C (.Compare a [.NotIn] [b] pos) (.cmp .notin ia ib) := by
  refine pt_imp (pt_or (pt_cmpR (opR_or (op_notInD (units65 hr)) op_notIn_seq) ha hb hm) (pt_cmp (pc_dnotin (hu_of hr) ha hb) hm)) fun σ H Q ⟨ρ, env, st, v, st', rs, re, ev, k⟩ => ?_
  simp only [Ir.eval] at ev
  obtain ⟨x, s1, e1, ev⟩ := bok ev
  obtain ⟨y, s2, e2, ev⟩ := bok ev
  obtain ⟨r, e3, ev⟩ := ook ev
  cases ev
  have e3 : (Ir.inB st' x y).map (!·) = some v := e3
  simp only [Option.map_eq_some_iff] at e3
  obtain ⟨c, e4, rfl⟩ := e3
  by_cases hd : ∃ n kvs, y = .ref n ∧ st'[n]? = some (.dic kvs)
  · refine .inr (tI_two rs re e1 e2 fun ρ' H' X Y x1 rs1 rx ry => ?_)
    obtain ⟨a, o, h1, h2, h3⟩ := inB_dic rs1 rx ry hd e4
    exact ⟨a, o, h1, h2, _, rfl, by rw [h3]; exact k ρ' H' x1 rs1⟩
  · refine .inl (tI_two rs re e1 e2 fun ρ' H' X Y x1 rs1 rx ry => ?_)
    have kk := k ρ' H' x1 rs1
    rcases inB_seq rs1 rx ry hd e4 with ⟨d, ds, h1, h2, h3, h4, h5⟩ | ⟨p, xs, h1, h2, h3, h4, h5⟩
    · exact .inl ⟨d, ds, h1, h2, h3, h4, _, rfl, by rw [h5]; exact kk⟩
    · exact .inr ⟨p, xs, h1, h2, h3, h4, _, rfl, by simp only [if_true, h5]; exact kk⟩
end Snd

namespace Snd
open PySem PySem.Spec PyProof.Rows L2
variable {X : Cx} {C : Ir.Calls}
theorem asB_ok {v : Ir.Val} {b : Bool} (h : Ir.asB v = some b) : v = .d (.bool b) := by
  cases v with
  | ref n => simp [Ir.asB] at h
  | d y => cases y <;> simp [Ir.asB] at h; subst h; rfl
theorem asI_ok {v : Ir.Val} {b : Int} (h : Ir.asI v = some b) : v = .d (.int b) := by
  cases v with
  | ref n => simp [Ir.asI] at h
  | d y => cases y <;> simp [Ir.asI] at h; subst h; rfl
theorem asD_ok {v : Ir.Val} {x : Ir.D} (h : Ir.asD v = some x) : v = .d x := by
  cases v with
  | ref n => simp [Ir.asD] at h
  | d y => simp [Ir.asD] at h; subst h; rfl
/-! ### and, or, not, if -/
section
variable {a b c : Expr} {rest : List Expr} {ia ib ic : Ir.Ex} {pos : Pos}
theorem se_one {op} (h : SE X C a ia) : SE X C (.BoolOp op [a] pos) ia := pe_one h
theorem se_and (ha : SE X C a ia) (hb : SE X C (.BoolOp .And (b :: rest) pos) ib) : SE X C (.BoolOp .And (a :: b :: rest) pos) (.and ia ib) := by
  refine pe_imp (pe_and ha hb) fun σ H Q ⟨ρ, env, st, v, st', rs, re, ev, k⟩ => ?_
  simp only [Ir.eval] at ev
  obtain ⟨x, s1, e1, ev⟩ := bok ev
  obtain ⟨c, e2, ev⟩ := ook ev
  obtain rfl := asB_ok e2
  refine ⟨ρ, env, st, _, s1, rs, re, e1, fun ρ1 H1 X1 x1 rs1 rx => ⟨c, RD.bool_inv rx, ?_⟩⟩
  cases c with
  | true =>
    simp only [if_true] at ev ⊢
    exact ⟨ρ1, env, s1, v, st', rs1, re.mono x1, ev, fun ρ2 H2 Y x2 rs2 ry => k ρ2 H2 Y (x1.trans x2) rs2 ry⟩
  | false =>
    simp only [Bool.false_eq_true, if_false] at ev ⊢
    cases ev
    exact k ρ1 H1 _ x1 rs1 (.bool false)
theorem se_or (ha : SE X C a ia) (hb : SE X C (.BoolOp .Or (b :: rest) pos) ib) : SE X C (.BoolOp .Or (a :: b :: rest) pos) (.or ia ib) := by
  refine pe_imp (L2.pe_or ha hb) fun σ H Q ⟨ρ, env, st, v, st', rs, re, ev, k⟩ => ?_
  simp only [Ir.eval] at ev
  obtain ⟨x, s1, e1, ev⟩ := bok ev
  obtain ⟨c, e2, ev⟩ := ook ev
  obtain rfl := asB_ok e2
  refine ⟨ρ, env, st, _, s1, rs, re, e1, fun ρ1 H1 X1 x1 rs1 rx => ⟨c, RD.bool_inv rx, ?_⟩⟩
  cases c with
  | false =>
    simp only [Bool.false_eq_true, if_false] at ev ⊢
    exact ⟨ρ1, env, s1, v, st', rs1, re.mono x1, ev, fun ρ2 H2 Y x2 rs2 ry => k ρ2 H2 Y (x1.trans x2) rs2 ry⟩
  | true =>
    simp only [if_true] at ev ⊢
    cases ev
    exact k ρ1 H1 _ x1 rs1 (.bool true)
theorem se_not (ha : SE X C a ia) : SE X C (.UnaryOp .Not a pos) (.not ia) := by
  refine pe_imp (pe_not ha) fun σ H Q ⟨ρ, env, st, v, st', rs, re, ev, k⟩ => ?_
  simp only [Ir.eval] at ev
  obtain ⟨x, s1, e1, ev⟩ := bok ev
  obtain ⟨c, e2, ev⟩ := ook ev
  obtain rfl := asB_ok e2
  cases ev
  exact ⟨ρ, env, st, _, _, rs, re, e1, fun ρ1 H1 X1 x1 rs1 rx => ⟨c, RD.bool_inv rx, k ρ1 H1 _ x1 rs1 (.bool _)⟩⟩
theorem sw_and1 (ha : ST X C a ia) : SW X C (.BoolOp .And [a] pos) ia := pw_and1 ha
theorem sw_or1 (ha : ST X C a ia) : SW X C (.BoolOp .Or [a] pos) ia := pw_or1 ha
theorem sw_and (ha : ST X C a ia) (hb : SW X C (.BoolOp .And (b :: rest) pos) ib) : SW X C (.BoolOp .And (a :: b :: rest) pos) (.and ia ib) := by
  refine pw_imp (pw_and ha hb) fun σ H Q ⟨ρ, env, st, v, st', rs, re, ev, k⟩ => ?_
  simp only [Ir.eval] at ev
  obtain ⟨x, s1, e1, ev⟩ := bok ev
  obtain ⟨c, e2, ev⟩ := ook ev
  obtain rfl := asB_ok e2
  refine ⟨ρ, env, st, _, s1, rs, re, e1, fun ρ1 H1 x1 rs1 => ?_⟩
  cases c with
  | true =>
    simp only [if_true] at ev ⊢
    exact ⟨ρ1, env, s1, v, st', rs1, re.mono x1, ev, fun ρ2 H2 x2 rs2 => k ρ2 H2 (x1.trans x2) rs2⟩
  | false =>
    simp only [Bool.false_eq_true, if_false] at ev ⊢
    cases ev
    exact k ρ1 H1 x1 rs1
theorem sw_or (ha : ST X C a ia) (hb : SW X C (.BoolOp .Or (b :: rest) pos) ib) : SW X C (.BoolOp .Or (a :: b :: rest) pos) (.or ia ib) := by
  refine pw_imp (pw_or ha hb) fun σ H Q ⟨ρ, env, st, v, st', rs, re, ev, k⟩ => ?_
  simp only [Ir.eval] at ev
  obtain ⟨x, s1, e1, ev⟩ := bok ev
  obtain ⟨c, e2, ev⟩ := ook ev
  obtain rfl := asB_ok e2
  refine ⟨ρ, env, st, _, s1, rs, re, e1, fun ρ1 H1 x1 rs1 => ?_⟩
  cases c with
  | false =>
    simp only [Bool.false_eq_true, if_false] at ev ⊢
    exact ⟨ρ1, env, s1, v, st', rs1, re.mono x1, ev, fun ρ2 H2 x2 rs2 => k ρ2 H2 (x1.trans x2) rs2⟩
  | true =>
    simp only [if_true] at ev ⊢
    cases ev
    exact k ρ1 H1 x1 rs1
theorem st_w {e : Expr} {i : Ir.Ex} (h : SW X C e i) : ST X C e i := h.pt
theorem st_not (ha : ST X C a ia) : ST X C (.UnaryOp .Not a pos) (.not ia) := by
  refine pt_imp (pt_not ha) fun σ H Q ⟨ρ, env, st, v, st', rs, re, ev, k⟩ => ?_
  simp only [Ir.eval] at ev
  obtain ⟨x, s1, e1, ev⟩ := bok ev
  obtain ⟨c, e2, ev⟩ := ook ev
  obtain rfl := asB_ok e2
  cases ev
  exact ⟨ρ, env, st, _, _, rs, re, e1, fun ρ1 H1 x1 rs1 => k ρ1 H1 x1 rs1⟩
theorem se_ite (hc : ST X C c ic) (ha : SE X C a ia) (hb : SE X C b ib) : SE X C (.IfExp c a b pos) (.ite ic ia ib) := by
  refine pe_imp (pe_ifExp hc ha hb) fun σ H Q ⟨ρ, env, st, v, st', rs, re, ev, k⟩ => ?_
  simp only [Ir.eval] at ev
  obtain ⟨x, s1, e1, ev⟩ := bok ev
  obtain ⟨c, e2, ev⟩ := ook ev
  obtain rfl := asB_ok e2
  refine ⟨ρ, env, st, c, s1, rs, re, e1, fun ρ1 H1 x1 rs1 => ?_⟩
  cases c with
  | false =>
    simp only [Bool.false_eq_true, if_false] at ev ⊢
    exact ⟨ρ1, env, s1, v, st', rs1, re.mono x1, ev, fun ρ2 H2 Y x2 rs2 ry => k ρ2 H2 Y (x1.trans x2) rs2 ry⟩
  | true =>
    simp only [if_true] at ev ⊢
    exact ⟨ρ1, env, s1, v, st', rs1, re.mono x1, ev, fun ρ2 H2 Y x2 rs2 ry => k ρ2 H2 Y (x1.trans x2) rs2 ry⟩
theorem se_chain {op op' : CmpOp} {o o' : Ir.Cmp} (ho : OpR X (compareOp op) (rCmp X.K o)) (ho' : OpR X (compareOp op') (rCmp X.K o')) (ha : SE X C a ia) (hb : SE X C b ib) (hc : SE X C c ic) (hm : lastMarks [op, op'] [b, c] = false := by with_unfolding_all rfl) : SE X C (.Compare a [op, op'] [b, c] pos) (.chain o o' ia ib ic) := by
  refine pe_imp (pe_chain ho ho' ha hb hc hm) fun σ H Q ⟨ρ, env, st, v, st', rs, re, ev, k⟩ => ?_
  simp only [Ir.eval] at ev
  obtain ⟨x, s1, e1, ev⟩ := bok ev
  obtain ⟨y, s2, e2, ev⟩ := bok ev
  obtain ⟨r, e3, ev⟩ := ook ev
  refine tI_two rs re e1 e2 fun ρ1 H1 X Y x1 rs1 rx ry => ⟨ρ1, _, x, y, r, rs1, rx, ry, e3, r, rfl, ?_⟩
  cases r with
  | false =>
    simp only [Bool.false_eq_true, if_false] at ev ⊢
    cases ev
    exact k ρ1 H1 _ x1 rs1 (.bool false)
  | true =>
    simp only [if_true] at ev ⊢
    obtain ⟨z, s3, e4, ev⟩ := bok ev
    obtain ⟨q, e5, ev⟩ := ook ev
    cases ev
    exact ⟨ρ1, env, s2, z, _, rs1, re.mono x1, e4, fun ρ2 H2 Z x2 rs2 rz => ⟨ρ2, _, y, z, q, rs2, ry.mono x2, rz, e5, k ρ2 H2 _ (x1.trans x2) rs2 (.bool q)⟩⟩
theorem st_chain {op op' : CmpOp} {o o' : Ir.Cmp} (ho : OpR X (compareOp op) (rCmp X.K o)) (ho' : OpR X (compareOp op') (rCmp X.K o')) (ha : SE X C a ia) (hb : SE X C b ib) (hc : SE X C c ic) (hm : lastMarks [op, op'] [b, c] = false := by with_unfolding_all rfl) : ST X C (.Compare a [op, op'] [b, c] pos) (.chain o o' ia ib ic) := by
  refine pt_imp (pt_chain ho ho' ha hb hc hm) fun σ H Q ⟨ρ, env, st, v, st', rs, re, ev, k⟩ => ?_
  simp only [Ir.eval] at ev
  obtain ⟨x, s1, e1, ev⟩ := bok ev
  obtain ⟨y, s2, e2, ev⟩ := bok ev
  obtain ⟨r, e3, ev⟩ := ook ev
  refine tI_two rs re e1 e2 fun ρ1 H1 X Y x1 rs1 rx ry => ⟨ρ1, _, x, y, r, rs1, rx, ry, e3, r, rfl, ?_⟩
  cases r with
  | false =>
    simp only [Bool.false_eq_true, if_false] at ev ⊢
    cases ev
    exact ⟨_, rfl, k ρ1 H1 x1 rs1⟩
  | true =>
    simp only [if_true] at ev ⊢
    obtain ⟨z, s3, e4, ev⟩ := bok ev
    obtain ⟨q, e5, ev⟩ := ook ev
    cases ev
    exact ⟨ρ1, env, s2, z, _, rs1, re.mono x1, e4, fun ρ2 H2 Z x2 rs2 rz => ⟨ρ2, _, y, z, _, rs2, ry.mono x2, rz, e5, _, rfl, k ρ2 H2 (x1.trans x2) rs2⟩⟩
end
/-! ### subscripts -/
theorem atI_rel {ρ : Rho} {K : PySem.W.Frag} {H : Hp} {xs : List Ir.D} {ys : List V} {i : Int} {d : Ir.D} (r : RDs ρ K H xs ys) (h : Ir.atI xs i = some d) : ∃ v, L2.atI ys i = some v ∧ RD ρ K H d v := by
  unfold Ir.atI at h
  unfold L2.atI
  have e : Ir.ixN xs.length i = L2.ixN ys.length i := by rw [r.length]; rfl
  rw [← e]
  cases q : Ir.ixN xs.length i with
  | none => rw [q] at h; cases h
  | some j =>
    rw [q] at h
    exact r.get h
theorem index_ok {ρ : Rho} {K : PySem.W.Frag} {H : Hp} {d k r : Ir.D} {x y : V} {Q : VK} (hd : VD ρ K H d x) (hk : RD ρ K H k y) (h : d.index k = some r) (q : ∀ z, RD ρ K H r z → Q z H) : rIx K x y H Q := by
  cases d <;> cases k <;> simp only [Ir.D.index, reduceCtorEq] at h
  · obtain ⟨a, ys, rfl, t, z, rr⟩ := RD.tup_inv hd
    obtain ⟨v, h1, h2⟩ := atI_rel rr h
    exact .inr (.inl ⟨a, ys, _, v, rfl, RD.int_inv hk, t.sq, h1, q v h2⟩)
  · obtain ⟨a, ys, rfl, t, z, rr⟩ := hd
    obtain ⟨v, h1, h2⟩ := atI_rel rr h
    exact .inl ⟨a, ys, _, v, rfl, RD.int_inv hk, SqL.of t, h1, q v h2⟩
  · obtain ⟨a, ys, rfl, t, z, rr⟩ := RD.ro_inv hd
    obtain ⟨v, h1, h2⟩ := atI_rel rr h
    exact .inl ⟨a, ys, _, v, rfl, RD.int_inv hk, t.sq, h1, q v h2⟩
theorem se_idx {a b : Expr} {ia ib : Ir.Ex} {pos : Pos} {n : Nat} (hr : Room n X.A) (ha : SE X C a ia) (hb : SE X C b ib) (hs : PlainIx b := by exact fun _ _ => rfl) : SE X C (.Subscript a b pos) (.idx ia ib) := by
  refine pe_imp (pe_or (pe_ix ix_seq ha hb hs) (pe_dget (hu_of hr) ha hb hs)) fun σ H Q ⟨ρ, env, st, v, st', rs, re, ev, k⟩ => ?_
  simp only [Ir.eval] at ev
  obtain ⟨x, s1, e1, ev⟩ := bok ev
  obtain ⟨y, s2, e2, ev⟩ := bok ev
  obtain ⟨r, e3, ev⟩ := ook ev
  cases ev
  by_cases hd : ∃ n kvs, x = .ref n ∧ st'[n]? = some (.dic kvs)
  · refine .inr (tI_two rs re e1 e2 fun ρ1 H1 X Y x1 rs1 rx ry => ?_)
    obtain ⟨n, kvs, rfl, hk⟩ := hd
    cases y with
    | ref m => simp [Ir.indexV] at e3
    | d key =>
      simp only [Ir.indexV, hk] at e3
      split at e3
      · rename_i hkey
        obtain ⟨a, rfl, h1, ks, h2, h3, h4⟩ := RV.cell rs1 rx hk (by simp)
        obtain ⟨k', hk1, rfl⟩ := RK.kv ry hkey
        rcases RKs.look hk1 h4 with ⟨z1, z2⟩ | ⟨w, z, z1, z2, z3⟩
        · rw [z1] at e3; cases e3
        · rw [z1] at e3; cases e3
          exact ⟨a, z, rfl, by rw [← z2]; exact .k h2, k ρ1 H1 z x1 rs1 z3⟩
      · cases e3
  · refine .inl (tI_two rs re e1 e2 fun ρ1 H1 X Y x1 rs1 rx ry => ?_)
    cases y with
    | ref m => cases x <;> simp [Ir.indexV] at e3
    | d key =>
      cases x with
      | d w =>
        simp only [Ir.indexV] at e3
        exact index_ok (VD.of rx) ry e3 fun z hz => k ρ1 H1 z x1 rs1 hz
      | ref n =>
        simp only [Ir.indexV] at e3
        split at e3
        · rename_i xs hx
          obtain ⟨a, rfl, h1, ys, h2, h3, h4⟩ := RV.cell rs1 rx hx (by simp)
          exact index_ok (show VD ρ1 _ H1 (.lst xs) _ from ⟨a, ys, rfl, h2, h3, h4⟩) ry e3 fun z hz => k ρ1 H1 z x1 rs1 hz
        · rename_i kvs hk
          exact absurd ⟨n, kvs, rfl, hk⟩ hd
        · cases e3
theorem so_none : SO X C none none := po_imp po_none fun σ H Q ⟨ρ, env, st, v, st', rs, re, ev, k⟩ => by
  simp only [Ir.evalO] at ev; cases ev; exact k ρ H (.refl _ _) rs
theorem so_some {e : Expr} {i : Ir.Ex} (h : SE X C e i) : SO X C (some e) (some i) := po_imp (po_some h) fun σ H Q ⟨ρ, env, st, v, st', rs, re, ev, k⟩ => by
  simp only [Ir.evalO] at ev
  obtain ⟨x, s1, e1, ev⟩ := bok ev
  obtain ⟨c, e2, ev⟩ := ook ev
  obtain rfl := asI_ok e2
  cases ev
  exact ⟨ρ, env, st, _, _, rs, re, e1, fun ρ1 H1 X1 x1 rs1 rx => ⟨c, RD.int_inv rx, k ρ1 H1 x1 rs1⟩⟩
theorem cut_rel {ρ : Rho} {K : PySem.W.Frag} {H : Hp} {xs : List Ir.D} {ys : List V} {lo hi : Option Int} (r : RDs ρ K H xs ys) : RDs ρ K H (Ir.cut xs lo hi) (cutV ys lo hi) := by
  unfold Ir.cut cutV
  rw [r.length]
  exact (r.drop _).take _
theorem sIx_same (n d : Nat) (o : Option Int) : Ir.sIx n d o = HT.sIx n d o := by cases o <;> rfl
theorem cut_len (ys : List V) (lo hi : Option Int) (z : ys.length ≤ sizeLine) : (cutV ys lo hi).length ≤ sizeLine := Nat.le_trans (cutV_length ys lo hi) z
theorem slice_ok {ρ : Rho} {K : PySem.W.Frag} {H : Hp} {st : Ir.Store} {d r : Ir.D} {lo hi : Option Int} {x : V} {Q : VK} (rs : RS ρ K st H) (hd : VD ρ K H d x) (h : d.slice lo hi = some r) (q : ∀ H' z, Ext ρ H ρ H' → RS ρ K st H' → RD ρ K H' r z → Q z H') : rSlL K x lo hi H Q ∨ rSlA K x lo hi H Q := by
  cases d <;> simp only [Ir.D.slice, reduceCtorEq] at h
  · cases h
    obtain ⟨a, ys, rfl, t, z, rr⟩ := RD.tup_inv hd
    refine .inr ⟨a, ys, rfl, t.sq, fun hw => ?_, fun _ p hp => ?_⟩
    · refine q H _ (.refl _ _) rs ?_
      have e : ∀ {α : Type} (l : List α), l.length = ys.length → Ir.cut l lo hi = l := fun l hl => by
        unfold Ir.cut
        rw [hl, sIx_same, sIx_same, hw.1, hw.2, List.drop_zero, Nat.sub_zero, ← hl, List.take_length]
      rw [e _ rr.length]
      exact .tup t z rr
    · exact q _ _ (.grow rs hp _) (rs.grow hp _) (grow_tup rs (cut_rel rr) (cut_len _ _ _ z) hp)
  · cases h
    obtain ⟨a, ys, rfl, t, z, rr⟩ := hd
    exact .inl ⟨a, ys, rfl, SqL.of t, fun p hp => q _ _ (.grow rs hp _) (rs.grow hp _) (grow_lst rs (cut_rel rr) (cut_len _ _ _ z) hp)⟩
  · cases h
    obtain ⟨a, ys, rfl, t, z, rr⟩ := RD.ro_inv hd
    exact .inl ⟨a, ys, rfl, t.sq, fun p hp => q _ _ (.grow rs hp _) (rs.grow hp _) (grow_lst rs (cut_rel rr) (cut_len _ _ _ z) hp)⟩
theorem se_sli {a : Expr} {lo hi : Option Expr} {ia : Ir.Ex} {il ih : Option Ir.Ex} {pos p2 : Pos} (ha : SE X C a ia) (hl : SO X C lo il) (hh : SO X C hi ih) : SE X C (.Subscript a (.Slice lo hi none p2) pos) (.sli ia il ih) := by
  refine pe_imp (pe_slice (SlR.or sl_list sl_tupA) ha hl hh) fun σ H Q ⟨ρ, env, st, v, st', rs, re, ev, k⟩ => ?_
  simp only [Ir.eval] at ev
  obtain ⟨x, s1, e1, ev⟩ := bok ev
  obtain ⟨l, s2, e2, ev⟩ := bok ev
  obtain ⟨h, s3, e3, ev⟩ := bok ev
  obtain ⟨p, e4, ev⟩ := ook ev
  obtain ⟨r, e5, ev⟩ := ook ev
  cases ev
  exact ⟨ρ, env, st, x, s1, rs, re, e1, fun ρ1 H1 X1 x1 rs1 rx => ⟨ρ1, env, s1, l, s2, rs1, re.mono x1, e2, fun ρ2 H2 x2 rs2 => ⟨ρ2, env, s2, h, _, rs2, re.mono (x1.trans x2), e3, fun ρ3 H3 x3 rs3 =>
    slice_ok rs3 (.deref rs3 (rx.mono (x2.trans x3)) e4) e5 fun H' z x4 rs4 rz => k ρ3 H' z (((x1.trans x2).trans x3).trans x4) rs4 rz⟩⟩⟩
/-! ### calls of own defs -/
def spI (T : Ir.Tab) (n : Nat) (K : PySem.W.Frag) (f : String) : Sp := fun vs H Q _ => ∃ ρ st args v st', RS ρ K st H ∧ RVs ρ K H args vs ∧ Ir.callN T n f args st = .ok v st' ∧ ∀ ρ' H' x, Ext ρ H ρ' H' → RS ρ' K st' H' → RV ρ' K H' v x → Q x H'
/-- how a call with keywords binds: a positional arguments, the keywords ks, the parameters' order perm -/
abbrev Kw := String × Nat × List Str × List Nat
def permV {α : Type} (perm : List Nat) (vs : List α) : List α := perm.filterMap fun i => vs[i]?
def KwOk (K : PySem.W.Frag) (fd : FuncData) (ps : List Str) (q : Kw) : Prop := ∀ (s : Shared) (us ws : List Value), K.In s.heap → us.length = q.2.1 → ws.length = q.2.2.1.length → BindsTo s fd ⟨us, q.2.2.1.zip ws⟩ (ps.zip (permV q.2.2.2 (us ++ ws)))
structure FT (T : Ir.Tab) (KW : List Kw) (n : Nat) (P : Program) (w : World) (K : PySem.W.Frag) (mg : Str → Option Value) (base : Heap) : Prop where
  ok : ∀ f fn, T f = some fn → ∃ a fd ps, FnOk P w K mg base CX0 n a fd ps (spI T n K f) ∧ mg (Str.ofString f) = some (.ref a) ∧ PySem.W.keepIn K (.ref a) = true ∧ Binds K fd ps [] ∧ ∀ q ∈ KW, q.1 = f → KwOk K fd ps q
theorem se_call {T : Ir.Tab} {KW : List Kw} {n : Nat} {f : String} {fn : Ir.Fn} {e : Expr} {es : List Expr} {is : List Ir.Ex} {p pos : Pos} (ft : FT T KW n X.prog X.w X.K X.mg X.base) (hT : T f = some fn) (hr : Room n X.A) (hs : SEs X (Ir.callN T n) (e :: es) is) (hg : Gl X (Str.ofString f) := by rfl)
    (hdb : (Str.ofString f == ("__debug__" : Str)) = false := by decide) (he : starEach (e :: es) X.env = (false, eval e X.env) :: starEach es X.env := by rfl) (hpl : (backTo pos (starEach es X.env)).any (·.1) = false := by rfl) :
    SE X (Ir.callN T n) (.Call (.Name (Str.ofString f) p) (e :: es) [] pos) (.call f is) := by
  obtain ⟨a, fd, ps, F, hm, hk, hb, _⟩ := ft.ok f fn hT
  refine pe_imp (pe_call F hr hg hm hk hb .nil pass0 hs hdb he hpl) fun σ H Q ⟨ρ, env, st, v, st', rs, re, ev, k⟩ => ?_
  simp only [Ir.eval] at ev
  obtain ⟨vs, s1, e1, ev⟩ := bok ev
  refine ⟨ρ, env, st, vs, s1, rs, re, e1, fun ρ1 H1 XS x1 rs1 rx => ?_⟩
  show spI T n X.K f (XS ++ []) H1 Q E0
  rw [List.append_nil]
  exact ⟨ρ1, s1, vs, v, st', rs1, rx, ev, fun ρ' H' x x2 rs2 r2 => k ρ' H' x (x1.trans x2) rs2 r2⟩
/-! ### calls with keywords -/
theorem permV_vals {xs : List V} {us : List Value} (h : Vals xs us) : ∀ perm : List Nat, Vals (permV perm xs) (permV perm us)
  | [] => .nil
  | i :: perm => by
    unfold permV
    have ih := permV_vals h perm
    unfold permV at ih
    simp only [List.filterMap_cons]
    cases q : xs[i]? with
    | none => rw [h.none_of q]; exact ih
    | some x =>
      obtain ⟨u, e, r⟩ := h.get q
      rw [e]
      exact .cons r ih
theorem RVs.get {ρ : Rho} {K : PySem.W.Frag} {H : Hp} : ∀ {xs : List Ir.Val} {vs : List V}, RVs ρ K H xs vs → ∀ i : Nat, (xs[i]? = none ∧ vs[i]? = none) ∨ ∃ x v, xs[i]? = some x ∧ vs[i]? = some v ∧ RV ρ K H x v
  | _, _, .nil, i => .inl ⟨by simp, by simp⟩
  | _, _, .cons h _, 0 => .inr ⟨_, _, rfl, rfl, h⟩
  | _, _, .cons _ r, i + 1 => by simpa using RVs.get r i
theorem permV_rvs {ρ : Rho} {K : PySem.W.Frag} {H : Hp} {xs : List Ir.Val} {vs : List V} (h : RVs ρ K H xs vs) : ∀ perm : List Nat, RVs ρ K H (permV perm xs) (permV perm vs)
  | [] => .nil
  | i :: perm => by
    unfold permV
    have ih := permV_rvs h perm
    unfold permV at ih
    simp only [List.filterMap_cons]
    rcases RVs.get h i with ⟨e1, e2⟩ | ⟨x, v, e1, e2, r⟩
    · rw [e1, e2]; exact ih
    · rw [e1, e2]; exact .cons r ih
theorem RVs.append {ρ : Rho} {K : PySem.W.Frag} {H : Hp} : ∀ {xs ys : List Ir.Val} {vs ws : List V}, RVs ρ K H xs vs → RVs ρ K H ys ws → RVs ρ K H (xs ++ ys) (vs ++ ws)
  | _, _, _, _, .nil, s => s
  | _, _, _, _, .cons h r, s => .cons h (RVs.append r s)
theorem evals_append {is js : List Ir.Ex} {env : Ir.Env} : ∀ {st st' : Ir.Store} {vs : List Ir.Val}, Ir.evals C (is ++ js) env st = .ok vs st' → ∃ us ws s1, Ir.evals C is env st = .ok us s1 ∧ Ir.evals C js env s1 = .ok ws st' ∧ vs = us ++ ws := by
  induction is with
  | nil => intro st st' vs h; exact ⟨[], vs, st, by simp [Ir.evals], h, rfl⟩
  | cons i is ih =>
    intro st st' vs h
    simp only [List.cons_append, Ir.evals] at h ⊢
    obtain ⟨v, s1, e1, h1⟩ := bok h
    obtain ⟨vs1, s2, e2, h2⟩ := bok h1
    cases h2
    obtain ⟨us, ws, s3, e3, e4, rfl⟩ := ih e2
    exact ⟨v :: us, ws, s3, by rw [e1]; simp [e3], e4, rfl⟩
abbrev SKs (X : Cx) (C : Ir.Calls) (kws : List Keyword) (is : List Ir.Ex) : Prop := PK X kws (tIs C X.K is)
theorem pk_imp {kws : List Keyword} {t t' : TA} (h : PK X kws t) (w : ∀ σ H Q, t' σ H Q → t σ H Q) : PK X kws t' := ⟨fun p pins s σ H Q I q => h.run p pins s σ H Q I (w σ H Q q)⟩
theorem sks_nil : SKs X C [] [] := pk_imp pk_nil fun σ H Q ⟨ρ, env, st, v, st', rs, re, ev, k⟩ => by
  simp only [Ir.evals] at ev; cases ev; exact k ρ H _ (.refl _ _) rs .nil
theorem sks_cons {nm : Option Str} {e : Expr} {kpos : Pos} {kws : List Keyword} {i : Ir.Ex} {is : List Ir.Ex} (h : SE X C e i) (hs : SKs X C kws is) : SKs X C (⟨nm, e, kpos⟩ :: kws) (i :: is) := by
  refine pk_imp (pk_cons h hs) fun σ H Q ⟨ρ, env, st, v, st', rs, re, ev, k⟩ => ?_
  simp only [Ir.evals] at ev
  obtain ⟨x, s1, e1, ev⟩ := bok ev
  obtain ⟨xs, s2, e2, ev⟩ := bok ev
  cases ev
  exact ⟨ρ, env, st, x, s1, rs, re, e1, fun ρ1 H1 X1 x1 rs1 rx => ⟨ρ1, env, s1, xs, st', rs1, re.mono x1, e2, fun ρ2 H2 XS x2 rs2 rxs => k ρ2 H2 (X1 :: XS) (x1.trans x2) rs2 (.cons (rx.mono x2) rxs)⟩⟩
theorem run_kw {k : Nat} {f : Addr} {fd : FuncData} {ps : List Str} {sp : Sp} {pins : List (Addr × Obj)} {σ : L2.St} {H : Hp} {s : Shared} {Q : VK} {us ws : List Value} {vs zs : List V} {q : Kw} (F : FnOk X.prog X.w X.K X.mg X.base CX0 k f fd ps sp) (hr : Room k X.A) (hb : KwOk X.K fd ps q) (h1 : us.length = q.2.1) (h2 : ws.length = q.2.2.1.length)
    (I : Inv X pins σ H s) (r : Vals vs us) (rz : Vals zs ws) (h : sp (permV q.2.2.2 (vs ++ zs)) H Q E0) : wpAny (model X.prog X.w) X.A (call (.ref f) us (q.2.2.1.zip ws)) (EP X pins σ Q) X.xe s := by
  have r2 := permV_vals (r.append rz) q.2.2.2
  refine wpAny_call (codeAny_mono (F.run X.A X.stack s H ⟨us, q.2.2.1.zip ws⟩ _ _ Q E0 hr I.env0 (hb s us ws I.kIn h1 h2) r2 h) fun r s' hq => ?_)
  cases r with
  | error e => exact (show False from hq).elim
  | ok fl =>
    cases fl with
    | ret u => exact I.after hq
    | next => exact False.elim hq
    | brk => exact False.elim hq
    | cont => exact False.elim hq
theorem kw_end {T : Ir.Tab} {n : Nat} {f : String} {K : PySem.W.Frag} {ρ1 : Rho} {H1 : Hp} {s1 st' : Ir.Store} {vs : List Ir.Val} {XS : List V} {v : Ir.Val} {perm : List Nat} {Q : VK} (rs1 : RS ρ1 K s1 H1) (rx : RVs ρ1 K H1 vs XS) (ev : Ir.callN T n f (permV perm vs) s1 = .ok v st') (k : ∀ ρ' H' x, Ext ρ1 H1 ρ' H' → RS ρ' K st' H' → RV ρ' K H' v x → Q x H') : spI T n K f (permV perm XS) H1 Q E0 :=
  ⟨ρ1, s1, _, v, st', rs1, permV_rvs rx perm, ev, k⟩
theorem se_callK0 {T : Ir.Tab} {KW : List Kw} {n : Nat} {f : String} {fn : Ir.Fn} {ks : List Str} {perm : List Nat} {kws : List Keyword} {is : List Ir.Ex} {p pos : Pos} (ft : FT T KW n X.prog X.w X.K X.mg X.base) (hT : T f = some fn) (hq : (f, 0, ks, perm) ∈ KW) (hr : Room n X.A) (hs : SKs X (Ir.callN T n) kws is) (hl : is.length = ks.length := by rfl) (hg : Gl X (Str.ofString f) := by rfl)
    (hdb : (Str.ofString f == ("__debug__" : Str)) = false := by decide) (hall : (backToKw pos (keywordEach kws X.env)).all (·.1.isSome) = true := by rfl) (hks : (backToKw pos (keywordEach kws X.env)).filterMap (·.1) = ks := by rfl)
    (hpl : ((backTo pos (starEach [] X.env)).any (·.1) || (backToKw pos (keywordEach kws X.env)).any (·.1.isNone)) = false := by rfl) :
    SE X (Ir.callN T n) (.Call (.Name (Str.ofString f) p) [] kws pos) (.callP f is perm) := by
  obtain ⟨a, fd, ps, F, hm, hk, hb, hkw⟩ := ft.ok f fn hT
  refine ⟨fun pins s σ H Q I h => ?_⟩
  obtain ⟨ρ, env, st, v, st', rs, re, ev, k⟩ := h
  simp only [Ir.eval] at ev
  obtain ⟨vs, s1, e1, ev⟩ := bok ev
  refine wpAny_Call_Name_kw (ld_glob I hg hm ?_ hdb)
  refine PySem.W.callWith_KW0 (h₀ := X.base) I.ok.mod.kin hk hall ?_ hpl
  refine thn (hs.run pos pins s σ H (fun zs H2 => zs.length = ks.length ∧ spI T n X.K f (permV perm zs) H2 Q E0) I ⟨ρ, env, st, vs, s1, rs, re, e1, fun ρ1 H1 XS x1 rs1 rx => ⟨?_, kw_end rs1 rx ev fun ρ' H' x x2 rs2 r2 => k ρ' H' x (x1.trans x2) rs2 r2⟩⟩) fun ws s2 ⟨zs, H2, I2, rz, hzl, q2⟩ => ⟨I2.kIn, ?_⟩
  · rw [← rx.length, evals_len _ _ _ _ _ e1, hl]
  · rw [hks]
    exact run_kw (q := (f, 0, ks, perm)) (us := []) (vs := []) F hr (hkw _ hq rfl) rfl (by rw [← rz.length]; exact hzl) I2 .nil rz q2
theorem se_callK {T : Ir.Tab} {KW : List Kw} {n m : Nat} {f : String} {fn : Ir.Fn} {ks : List Str} {perm : List Nat} {e : Expr} {es : List Expr} {kws : List Keyword} {is js : List Ir.Ex} {p pos : Pos} (ft : FT T KW n X.prog X.w X.K X.mg X.base) (hT : T f = some fn) (hq : (f, m, ks, perm) ∈ KW) (hr : Room n X.A) (ha : SEs X (Ir.callN T n) (e :: es) is) (hs : SKs X (Ir.callN T n) kws js) (hl0 : is.length = m := by rfl) (hl : js.length = ks.length := by rfl) (hg : Gl X (Str.ofString f) := by rfl)
    (hdb : (Str.ofString f == ("__debug__" : Str)) = false := by decide) (hall : (backToKw pos (keywordEach kws X.env)).all (·.1.isSome) = true := by rfl) (hks : (backToKw pos (keywordEach kws X.env)).filterMap (·.1) = ks := by rfl) (he : starEach (e :: es) X.env = (false, eval e X.env) :: starEach es X.env := by rfl)
    (hpl : ((backTo pos (starEach (e :: es) X.env)).any (·.1) || (backToKw pos (keywordEach kws X.env)).any (·.1.isNone)) = false := by rfl) :
    SE X (Ir.callN T n) (.Call (.Name (Str.ofString f) p) (e :: es) kws pos) (.callP f (is ++ js) perm) := by
  obtain ⟨a, fd, ps, F, hm, hk, hb, hkw⟩ := ft.ok f fn hT
  refine ⟨fun pins s σ H Q I h => ?_⟩
  obtain ⟨ρ, env, st, v, st', rs, re, ev, k⟩ := h
  simp only [Ir.eval] at ev
  obtain ⟨vs, s1, e1, ev⟩ := bok ev
  obtain ⟨us, ws, s0, f1, f2, rfl⟩ := evals_append e1
  refine wpAny_Call_Name_kw (ld_glob I hg hm ?_ hdb)
  refine PySem.W.callWith_KW (h₀ := X.base) I.ok.mod.kin hk hall (thn (ha.run pos pins s σ H (fun xs H1 => xs.length = m ∧ tIs (Ir.callN T n) X.K js σ H1 (fun zs H2 => zs.length = ks.length ∧ spI T n X.K f (permV perm (xs ++ zs)) H2 Q E0)) I
    ⟨ρ, env, st, us, s0, rs, re, f1, fun ρ1 H1 XS x1 rs1 rx => ⟨?_, ρ1, env, s0, ws, s1, rs1, re.mono x1, f2, fun ρ2 H2 ZS x2 rs2 rz => ⟨?_, kw_end rs2 ((rx.mono x2).append rz) ev fun ρ' H' x x3 rs3 r3 => k ρ' H' x ((x1.trans x2).trans x3) rs3 r3⟩⟩⟩) fun uv s2 ⟨xs, H1, I1, r1, hxl, q1⟩ => ?_) hpl he
  · rw [← rx.length, evals_len _ _ _ _ _ f1, hl0]
  · rw [← rz.length, evals_len _ _ _ _ _ f2, hl]
  · refine thn (hs.run pos pins s2 σ H1 _ I1 q1) fun wv s3 ⟨zs, H2, I2, rz, hzl, q2⟩ => ⟨I2.kIn, ?_⟩
    rw [hks]
    exact run_kw (q := (f, m, ks, perm)) F hr (hkw _ hq rfl) (show uv.length = m by rw [← r1.length]; exact hxl) (by rw [← rz.length]; exact hzl) I2 r1 rz q2
end Snd

namespace Snd
open PySem PySem.Spec PyProof.Rows L2
variable {X : Cx} {C : Ir.Calls}
/-! ### built-in calls -/
theorem callR_or {f : Value} {r r' : List V → Hp → VK → Prop} (h : CallR X f r) (h' : CallR X f r') : CallR X f (fun xs H Q => r xs H Q ∨ r' xs H Q) := by
  intro pins s σ H xs us Q I r q
  rcases q with q | q
  · exact h pins s σ H xs us Q I r q
  · exact h' pins s σ H xs us Q I r q
theorem callR_imp {f : Value} {r r' : List V → Hp → VK → Prop} (h : CallR X f r) (w : ∀ xs H Q, r' xs H Q → r xs H Q) : CallR X f r' := fun pins s σ H xs us Q I r q => h pins s σ H xs us Q I r (w _ _ _ q)
def rB (K : PySem.W.Frag) (f : Ir.Bi) : List V → Hp → VK → Prop := fun xs H Q => ∃ ρ st vs v st', RS ρ K st H ∧ RVs ρ K H vs xs ∧ Ir.bltV f vs st = .ok v st' ∧ ∀ ρ' H' x, Ext ρ H ρ' H' → RS ρ' K st' H' → RV ρ' K H' v x → Q x H'
inductive VDs (ρ : Rho) (K : PySem.W.Frag) (H : Hp) : List Ir.D → List V → Prop
  | nil : VDs ρ K H [] []
  | cons {x : Ir.D} {xs : List Ir.D} {y : V} {ys : List V} : VD ρ K H x y → VDs ρ K H xs ys → VDs ρ K H (x :: xs) (y :: ys)
theorem VDs.derefs {ρ : Rho} {K : PySem.W.Frag} {H : Hp} {st : Ir.Store} (rs : RS ρ K st H) : ∀ {vs : List Ir.Val} {xs : List V} {ds : List Ir.D}, RVs ρ K H vs xs → Ir.derefs st vs = some ds → VDs ρ K H ds xs
  | [], _, _, .nil, e => by simp [Ir.derefs] at e; subst e; exact .nil
  | v :: vs, _, _, .cons h r, e => by
    simp only [Ir.derefs] at e
    split at e
    · rename_i d ds h1 h2
      cases e
      exact .cons (.deref rs h h1) (VDs.derefs rs r h2)
    · cases e
theorem bltD_inv {f : Ir.Bi} {vs : List Ir.Val} {st st' : Ir.Store} {v : Ir.Val} (h : Ir.bltD f vs st = .ok v st') : st' = st ∧ ∃ ds r, Ir.derefs st vs = some ds ∧ Ir.D.blt f ds = some r ∧ v = .d r := by
  unfold Ir.bltD at h
  split at h
  · rename_i ds hds
    split at h
    · rename_i r hr
      cases h
      exact ⟨rfl, ds, r, hds, hr, rfl⟩
    · cases h
  · cases h
theorem not_len {f : Ir.Bi} (h : f ≠ .len ∧ f ≠ .zip) {vs : List Ir.Val} {st st' : Ir.Store} {v : Ir.Val} (e : Ir.bltV f vs st = .ok v st') : st' = st ∧ ∃ ds r, Ir.derefs st vs = some ds ∧ Ir.D.blt f ds = some r ∧ v = .d r := by
  unfold Ir.bltV at e
  split at e
  · exact absurd rfl h.1
  · exact absurd rfl h.2
  · exact bltD_inv e
theorem zip_inv {vs : List Ir.Val} {st st' : Ir.Store} {v : Ir.Val} (e : Ir.bltV .zip vs st = .ok v st') : st' = st ∧ ∃ ds r, Ir.asDs vs = some ds ∧ Ir.D.bZip ds = some r ∧ v = .d r := by
  have e : (match Ir.asDs vs with | some _ => Ir.bltD .zip vs st | none => Ir.Res.bad) = .ok v st' := e
  split at e
  · rename_i ds hds
    obtain ⟨h1, ds', r, h2, h3, h4⟩ := bltD_inv e
    have : ∀ {vs : List Ir.Val} {ds : List Ir.D}, Ir.asDs vs = some ds → Ir.derefs st vs = some ds := by
      intro vs
      induction vs with
      | nil => intro ds h; simp [Ir.asDs] at h; subst h; rfl
      | cons v vs ih =>
        intro ds h
        cases v with
        | ref _ => simp [Ir.asDs] at h
        | d x =>
          simp only [Ir.asDs, Option.map_eq_some_iff] at h
          obtain ⟨ds, h1, rfl⟩ := h
          simp [Ir.derefs, Ir.deref, ih h1]
    rw [this hds] at h2
    cases h2
    exact ⟨h1, _, r, hds, h3, h4⟩
  · cases e
theorem blt_len : CallR X (.builtin "len") (rB X.K .len) := by
  refine callR_imp (callR_or call_len_seq call_lenD) fun xs H Q ⟨ρ, st, vs, v, st', rs, rv, ev, k⟩ => ?_
  have ev : (match Ir.lenDic vs st with | some n => Ir.Res.ok (Ir.Val.d (.int n)) st | none => Ir.bltD .len vs st) = .ok v st' := ev
  split at ev
  · rename_i n hn
    cases ev
    unfold Ir.lenDic at hn
    split at hn
    · rename_i m
      split at hn
      · rename_i kvs hk
        cases hn
        cases rv with
        | cons rv t =>
          cases t
          obtain ⟨a, rfl, _, ks, h2, h3, h4⟩ := RV.cell rs rv hk (by simp)
          refine .inr ⟨a, ks, rfl, h2, ?_⟩
          rw [← h4.length]
          exact k ρ H _ (.refl _ _) rs (.int _)
      · cases hn
    · cases hn
  · obtain ⟨rfl, ds, r, h1, h2, rfl⟩ := bltD_inv ev
    have vd := VDs.derefs rs rv h1
    simp only [Ir.D.blt] at h2
    unfold Ir.D.bLen at h2
    split at h2
    · cases h2
      cases vd with
      | cons vd t =>
        cases t
        obtain ⟨a, ys, rfl, t, z, r⟩ := RD.ro_inv vd
        refine .inl ⟨a, ys, rfl, .inl t.sq, ?_⟩
        rw [← r.length]
        exact k ρ H _ (.refl _ _) rs (.int _)
    · cases h2
      cases vd with
      | cons vd t =>
        cases t
        obtain ⟨a, ys, rfl, t, z, r⟩ := RD.tup_inv vd
        refine .inl ⟨a, ys, rfl, .inr t.sq, ?_⟩
        rw [← r.length]
        exact k ρ H _ (.refl _ _) rs (.int _)
    · cases h2
      cases vd with
      | cons vd t =>
        cases t
        obtain ⟨a, ys, rfl, t, z, r⟩ := vd
        refine .inl ⟨a, ys, rfl, .inl (SqL.of t), ?_⟩
        rw [← r.length]
        exact k ρ H _ (.refl _ _) rs (.int _)
    · cases h2
theorem blt_abs : CallR X (.builtin "abs") (rB X.K .abs) := by
  refine callR_imp call_abs fun xs H Q ⟨ρ, st, vs, v, st', rs, rv, ev, k⟩ => ?_
  obtain ⟨rfl, ds, r, h1, h2, rfl⟩ := not_len (by decide) ev
  have vd := VDs.derefs rs rv h1
  simp only [Ir.D.blt] at h2
  unfold Ir.D.bAbs at h2
  split at h2
  · cases h2
    cases vd with
    | cons vd t =>
      cases t
      exact ⟨_, by rw [RD.int_inv vd], k ρ H _ (.refl _ _) rs (.int _)⟩
  · cases h2
theorem blt_tuple : CallR X (.type "tuple") (rB X.K .tuple) := by
  refine callR_imp call_tuple_of fun xs H Q ⟨ρ, st, vs, v, st', rs, rv, ev, k⟩ => ?_
  obtain ⟨rfl, ds, r, h1, h2, rfl⟩ := not_len (by decide) ev
  have vd := VDs.derefs rs rv h1
  simp only [Ir.D.blt] at h2
  unfold Ir.D.bTuple at h2
  split at h2
  · cases h2
    cases vd with
    | cons vd t =>
      cases t
      obtain ⟨a, ys, rfl, t, z, r⟩ := RD.tup_inv vd
      exact ⟨a, ys, rfl, .inr ⟨t.sq, k ρ H _ (.refl _ _) rs (RD.tup t z r)⟩⟩
  · cases h2
    cases vd with
    | cons vd t =>
      cases t
      obtain ⟨a, ys, rfl, t, z, r⟩ := vd
      exact ⟨a, ys, rfl, .inl ⟨SqL.of t, fun p hp => k ρ _ _ (.grow rs hp _) (rs.grow hp _) (grow_tup rs r z hp)⟩⟩
  · cases h2
theorem bools_ok {ρ : Rho} {K : PySem.W.Frag} {H : Hp} : ∀ {xs : List Ir.D} {ys : List V} {bs : List Bool}, RDs ρ K H xs ys → Ir.D.bools xs = some bs → ys = bs.map V.bl
  | [], _, _, .nil, e => by simp [Ir.D.bools] at e; subst e; rfl
  | x :: xs, _, _, .cons h r, e => by
    cases x <;> simp [Ir.D.bools] at e
    obtain ⟨bs, e1, rfl⟩ := e
    rw [RD.bool_inv h, bools_ok r e1]; rfl
theorem ints_ok {ρ : Rho} {K : PySem.W.Frag} {H : Hp} : ∀ {xs : List Ir.D} {ys : List V} {bs : List Int}, RDs ρ K H xs ys → Ir.D.ints xs = some bs → ys = bs.map V.int
  | [], _, _, .nil, e => by simp [Ir.D.ints] at e; subst e; rfl
  | x :: xs, _, _, .cons h r, e => by
    cases x <;> simp [Ir.D.ints] at e
    obtain ⟨bs, e1, rfl⟩ := e
    rw [RD.int_inv h, ints_ok r e1]; rfl
theorem blt_all (hc : X.calm = true) : CallR X (.builtin "all") (rB X.K .all) := by
  refine callR_imp (cr_all hc) fun xs H Q ⟨ρ, st, vs, v, st', rs, rv, ev, k⟩ => ?_
  obtain ⟨rfl, ds, r, h1, h2, rfl⟩ := not_len (by decide) ev
  have vd := VDs.derefs rs rv h1
  simp only [Ir.D.blt] at h2
  unfold Ir.D.bAll at h2
  split at h2
  · simp only [Option.map_eq_some_iff] at h2
    obtain ⟨bs, e1, rfl⟩ := h2
    cases vd with
    | cons vd t =>
      cases t
      obtain ⟨a, ys, rfl, t, z, r⟩ := vd
      exact ⟨a, bs, rfl, by rw [← bools_ok r e1]; exact SqL.of t, k ρ H _ (.refl _ _) rs (.bool _)⟩
  · cases h2
theorem blt_any (hc : X.calm = true) : CallR X (.builtin "any") (rB X.K .any) := by
  refine callR_imp (cr_any hc) fun xs H Q ⟨ρ, st, vs, v, st', rs, rv, ev, k⟩ => ?_
  obtain ⟨rfl, ds, r, h1, h2, rfl⟩ := not_len (by decide) ev
  have vd := VDs.derefs rs rv h1
  simp only [Ir.D.blt] at h2
  unfold Ir.D.bAny at h2
  split at h2
  · simp only [Option.map_eq_some_iff] at h2
    obtain ⟨bs, e1, rfl⟩ := h2
    cases vd with
    | cons vd t =>
      cases t
      obtain ⟨a, ys, rfl, t, z, r⟩ := vd
      exact ⟨a, bs, rfl, by rw [← bools_ok r e1]; exact SqL.of t, k ρ H _ (.refl _ _) rs (.bool _)⟩
  · cases h2
theorem blt_sum (hc : X.calm = true) : CallR X (.builtin "sum") (rB X.K .sum) := by
  refine callR_imp (cr_sum hc) fun xs H Q ⟨ρ, st, vs, v, st', rs, rv, ev, k⟩ => ?_
  obtain ⟨rfl, ds, r, h1, h2, rfl⟩ := not_len (by decide) ev
  have vd := VDs.derefs rs rv h1
  simp only [Ir.D.blt] at h2
  unfold Ir.D.bSum at h2
  split at h2
  · simp only [Option.map_eq_some_iff] at h2
    obtain ⟨bs, e1, rfl⟩ := h2
    cases vd with
    | cons vd t =>
      cases t
      obtain ⟨a, ys, rfl, t, z, r⟩ := vd
      exact ⟨a, bs, rfl, by rw [← ints_ok r e1]; exact SqL.of t, k ρ H _ (.refl _ _) rs (.int _)⟩
  · cases h2
theorem blt_min (hc : X.calm = true) : CallR X (.builtin "min") (rB X.K .min) := by
  refine callR_imp (call_min2 hc) fun xs H Q ⟨ρ, st, vs, v, st', rs, rv, ev, k⟩ => ?_
  obtain ⟨rfl, ds, r, h1, h2, rfl⟩ := not_len (by decide) ev
  have vd := VDs.derefs rs rv h1
  simp only [Ir.D.blt] at h2
  unfold Ir.D.bMin at h2
  split at h2
  · cases h2
    cases vd with
    | cons vd t =>
      cases t with
      | cons vd2 t =>
        cases t
        exact ⟨_, _, by rw [RD.int_inv vd, RD.int_inv vd2], k ρ H _ (.refl _ _) rs (.int _)⟩
  · cases h2
theorem blt_max (hc : X.calm = true) : CallR X (.builtin "max") (rB X.K .max) := by
  refine callR_imp (call_max2 hc) fun xs H Q ⟨ρ, st, vs, v, st', rs, rv, ev, k⟩ => ?_
  obtain ⟨rfl, ds, r, h1, h2, rfl⟩ := not_len (by decide) ev
  have vd := VDs.derefs rs rv h1
  simp only [Ir.D.blt] at h2
  unfold Ir.D.bMax at h2
  split at h2
  · cases h2
    cases vd with
    | cons vd t =>
      cases t with
      | cons vd2 t =>
        cases t
        exact ⟨_, _, by rw [RD.int_inv vd, RD.int_inv vd2], k ρ H _ (.refl _ _) rs (.int _)⟩
  · cases h2
theorem se_blt {f : Ir.Bi} {x : String} {e : Expr} {es : List Expr} {is : List Ir.Ex} {p pos : Pos} (hc : CallR X (.builtin x) (rB X.K f)) (hs : SEs X C (e :: es) is) (hm : X.mg (Str.ofString x) = none) (hv : bootBuiltins (Str.ofString x) = some (.builtin x)) (hg : Gl X (Str.ofString x) := by rfl)
    (hn : Str.ofString x ≠ "__name__" := by decide) (hdb : (Str.ofString x == ("__debug__" : Str)) = false := by decide) (he : starEach (e :: es) X.env = (false, eval e X.env) :: starEach es X.env := by rfl) (hpl : (backTo pos (starEach es X.env)).any (·.1) = false := by rfl) :
    SE X C (.Call (.Name (Str.ofString x) p) (e :: es) [] pos) (.blt f is) := by
  refine pe_imp (pe_callB hc hg hm hv hs hn hdb he hpl) fun σ H Q ⟨ρ, env, st, v, st', rs, re, ev, k⟩ => ?_
  simp only [Ir.eval] at ev
  obtain ⟨vs, s1, e1, ev⟩ := bok ev
  exact ⟨ρ, env, st, vs, s1, rs, re, e1, fun ρ1 H1 XS x1 rs1 rx => ⟨ρ1, s1, vs, v, st', rs1, rx, ev, fun ρ' H' x x2 rs2 r2 => k ρ' H' x (x1.trans x2) rs2 r2⟩⟩
theorem se_bltT {f : Ir.Bi} {x : String} {e : Expr} {es : List Expr} {is : List Ir.Ex} {p pos : Pos} (hc : CallR X (.type x) (rB X.K f)) (hs : SEs X C (e :: es) is) (hm : X.mg (Str.ofString x) = none) (hv : bootBuiltins (Str.ofString x) = some (.type x)) (hg : Gl X (Str.ofString x) := by rfl)
    (hn : Str.ofString x ≠ "__name__" := by decide) (hdb : (Str.ofString x == ("__debug__" : Str)) = false := by decide) (he : starEach (e :: es) X.env = (false, eval e X.env) :: starEach es X.env := by rfl) (hpl : (backTo pos (starEach es X.env)).any (·.1) = false := by rfl) :
    SE X C (.Call (.Name (Str.ofString x) p) (e :: es) [] pos) (.blt f is) := by
  refine pe_imp (pe_callTy hc hg hm hv hs hn hdb he hpl) fun σ H Q ⟨ρ, env, st, v, st', rs, re, ev, k⟩ => ?_
  simp only [Ir.eval] at ev
  obtain ⟨vs, s1, e1, ev⟩ := bok ev
  exact ⟨ρ, env, st, vs, s1, rs, re, e1, fun ρ1 H1 XS x1 rs1 rx => ⟨ρ1, s1, vs, v, st', rs1, rx, ev, fun ρ' H' x x2 rs2 r2 => k ρ' H' x (x1.trans x2) rs2 r2⟩⟩
/-- list(x): a new list -/
theorem sn_list {e : Expr} {i : Ir.Ex} {p pos : Pos} (h : SE X C e i) (hm : X.mg (Str.ofString "list") = none) (hv : bootBuiltins (Str.ofString "list") = some (.type "list")) (hg : Gl X (Str.ofString "list") := by rfl)
    (he : starEach [e] X.env = (false, eval e X.env) :: starEach [] X.env := by rfl) (hpl : (backTo pos (starEach [] X.env)).any (·.1) = false := by rfl) :
    SN X C (.Call (.Name (Str.ofString "list") p) [e] [] pos) (.blt .list [i]) := by
  refine pe_imp (pe_callTy call_list_of hg hm hv (pa_cons h pa_nil he) (by decide) (by decide) he hpl) fun σ H Q ⟨ρ, env, st, xs, st', rs, re, ev, k⟩ => ?_
  simp only [Ir.eval, Ir.evals] at ev
  obtain ⟨vs, s1, e1, ev⟩ := bok ev
  obtain ⟨v, s2, e2, e1⟩ := bok e1
  simp only [Ir.Res.bind_ok] at e1
  cases e1
  obtain ⟨rfl, ds, r, h1, h2, h3⟩ := not_len (by decide) ev
  cases h3
  refine ⟨ρ, env, st, v, _, rs, re, e2, fun ρ1 H1 V1 x1 rs1 rv => ?_⟩
  have vd := VDs.derefs rs1 (.cons rv .nil) h1
  simp only [Ir.D.blt] at h2
  unfold Ir.D.bList at h2
  split at h2
  · cases h2
    cases vd with
    | cons vd t =>
      cases t
      obtain ⟨a, ys, rfl, t, z, r⟩ := RD.tup_inv vd
      exact ⟨a, ys, rfl, .inr t.sq, fun l hl => sn_fin x1 rs1 r z hl k⟩
  · cases h2
    cases vd with
    | cons vd t =>
      cases t
      obtain ⟨a, ys, rfl, t, z, r⟩ := vd
      exact ⟨a, ys, rfl, .inl (SqL.of t), fun l hl => sn_fin x1 rs1 r z hl k⟩
  · cases h2
theorem is_list {is : List Ir.Ex} : ∀ env st v st', Ir.eval C (.blt .list is) env st = .ok v st' → ∃ xs, v = .d (.lst xs) := fun env st v st' ev => by
  simp only [Ir.eval] at ev
  obtain ⟨vs, s1, e1, ev⟩ := bok ev
  obtain ⟨_, ds, r, _, h2, rfl⟩ := not_len (by decide) ev
  simp only [Ir.D.blt] at h2
  unfold Ir.D.bList at h2
  split at h2
  · cases h2; exact ⟨_, rfl⟩
  · cases h2; exact ⟨_, rfl⟩
  · cases h2
/-! ### isinstance -/
def dTy : Ir.D → String
  | .non => "NoneType" | .bool _ => "bool" | .int _ => "int" | .str _ => "str" | .tup _ => "tuple" | .lst _ => "list" | .ro _ => "list"
theorem VD.ty {ρ : Rho} {K : PySem.W.Frag} {H : Hp} {d : Ir.D} {x : V} (h : VD ρ K H d x) : TyX K H x (.type (dTy d)) := by
  cases d with
  | non => rw [RD.non_inv h]; exact .base .non
  | bool b => rw [RD.bool_inv h]; exact .base (.bl b)
  | int i => rw [RD.int_inv h]; exact .base (.int i)
  | str s => rw [RD.str_inv h]; exact .base (.str _)
  | tup xs =>
    obtain ⟨a, ys, rfl, t, z, r⟩ := RD.tup_inv h
    rcases t with ⟨t, _⟩ | ⟨o, its, n, h1, h2, _⟩
    · rcases t with t | ⟨o, t⟩
      · exact .base (.tup t)
      · exact .fTuple t
    · exact .kTuple h1 h2
  | lst xs =>
    obtain ⟨a, ys, rfl, t, z, r⟩ := h
    exact .base (.lst t)
  | ro xs =>
    obtain ⟨a, ys, rfl, t, z, r⟩ := RD.ro_inv h
    rcases t with ⟨⟨o, t⟩, _⟩ | ⟨o, its, n, h1, h2, _⟩
    · exact .base (.frz t)
    · exact .kList h1 h2
theorem kit_dTy (d : Ir.D) (c : Ir.Ty) : kitB (dTy d) c.name = some (d.tyOk c) := by
  cases d <;> cases c <;> simp only [dTy, Ir.Ty.name, Ir.D.tyOk] <;> decide +kernel
end Snd

namespace Snd
open PySem PySem.Spec PyProof.Rows L2
variable {X : Cx} {C : Ir.Calls}
/-! ### isinstance -/
abbrev STy (X : Cx) (es : List Expr) (ts : List Ir.Ty) : Prop := PA X es (fun _ H Q => Q (ts.map fun t => V.ty t.name) H)
theorem sty_nil : STy X [] [] := pa_nil
theorem sty_cons {es : List Expr} {ts : List Ir.Ty} {t : Ir.Ty} {p : Pos} (hs : STy X es ts) (hm : X.mg (Str.ofString t.name) = none) (hv : bootBuiltins (Str.ofString t.name) = some (.type t.name)) (hg : Gl X (Str.ofString t.name) := by rfl) (hn : Str.ofString t.name ≠ "__name__" := by decide) (hd : (Str.ofString t.name == ("__debug__" : Str)) = false := by decide)
    (hst : starEach (.Name (Str.ofString t.name) p :: es) X.env = (false, eval (.Name (Str.ofString t.name) p) X.env) :: starEach es X.env := by rfl) : STy X (.Name (Str.ofString t.name) p :: es) (t :: ts) :=
  pa_imp (pa_cons (pe_bltn (v := .ty t.name) hg hm hv rfl hn hd) hs hst) fun σ H Q q => q
theorem kitAny_ok {K : PySem.W.Frag} (d : Ir.D) : ∀ ts : List Ir.Ty, PySem.W.kitAny K (.type (dTy d)) (ts.map fun t => Value.type t.name) = some (ts.any fun t => d.tyOk t)
  | [] => rfl
  | t :: ts => by
    simp only [List.map_cons, List.any_cons]
    refine kitAny_cons (b := d.tyOk t) (kit_ty (kit_dTy d t)) (fun h => ?_) (fun h => ?_)
    · rw [h]; simpa using kitAny_ok d ts
    · rw [h]; rfl
theorem cls_all : ∀ ts : List Ir.Ty, Paired ClsV (ts.map fun t => V.ty t.name) (ts.map fun t => Value.type t.name)
  | [] => .nil
  | t :: ts => .cons (.ty _) (cls_all ts)
theorem se_isiT {e : Expr} {es : List Expr} {i : Ir.Ex} {ts : List Ir.Ty} {p pos p1 : Pos} {k1} (h : SE X C e i) (hs : STy X es ts) (hm : X.mg (Str.ofString "isinstance") = none) (hl : ts.length ≤ sizeLine := by decide) (hg : Gl X (Str.ofString "isinstance") := by rfl)
    (hv : bootBuiltins (Str.ofString "isinstance") = some (.builtin "isinstance") := by decide +kernel)
    (hst : starEach [e, .Tuple es k1 p1] X.env = (false, eval e X.env) :: starEach [.Tuple es k1 p1] X.env := by rfl) (hst2 : starEach [.Tuple es k1 p1] X.env = (false, eval (.Tuple es k1 p1) X.env) :: starEach [] X.env := by rfl) (hpl : (backTo pos (starEach [.Tuple es k1 p1] X.env)).any (·.1) = false := by rfl) :
    SE X C (.Call (.Name (Str.ofString "isinstance") p) [e, .Tuple es k1 p1] [] pos) (.isi i ts) := by
  refine pe_imp (pe_callB call_isiT hg hm hv (pa_cons h (pa_cons (pe_tup hs) pa_nil hst2) hst) (by decide) (by decide) hst hpl) fun σ H Q ⟨ρ, env, st, v, st', rs, re, ev, k⟩ => ?_
  simp only [Ir.eval] at ev
  obtain ⟨x, s1, e1, ev⟩ := bok ev
  obtain ⟨d, e2, ev⟩ := ook ev
  cases ev
  refine ⟨ρ, env, st, x, _, rs, re, e1, fun ρ1 H1 X1 x1 rs1 rx => ⟨by simpa using hl, fun tp hp => ?_⟩⟩
  have x2 : Ext ρ1 H1 ρ1 (upd H1 tp (.tup (ts.map fun t => V.ty t.name))) := .grow rs1 hp _
  have rs2 := rs1.grow hp (.tup (ts.map fun t => V.ty t.name))
  have vd : VD ρ1 X.K _ d X1 := VD.deref rs2 (rx.mono x2) e2
  exact ⟨X1, tp, _, _, _, _, rfl, upd_same, cls_all ts, vd.ty, kitAny_ok d ts, k ρ1 _ _ (x1.trans x2) rs2 (.bool _)⟩
theorem se_isi {e : Expr} {i : Ir.Ex} {t : Ir.Ty} {p pos p1 : Pos} (h : SE X C e i) (hs : STy X [.Name (Str.ofString t.name) p1] [t]) (hm : X.mg (Str.ofString "isinstance") = none) (hg : Gl X (Str.ofString "isinstance") := by rfl)
    (hv : bootBuiltins (Str.ofString "isinstance") = some (.builtin "isinstance") := by decide +kernel)
    (hst : starEach [e, .Name (Str.ofString t.name) p1] X.env = (false, eval e X.env) :: starEach [.Name (Str.ofString t.name) p1] X.env := by rfl) (hpl : (backTo pos (starEach [.Name (Str.ofString t.name) p1] X.env)).any (·.1) = false := by rfl) :
    SE X C (.Call (.Name (Str.ofString "isinstance") p) [e, .Name (Str.ofString t.name) p1] [] pos) (.isi i [t]) := by
  refine pe_imp (pe_callB call_isi hg hm hv (pa_cons h hs hst) (by decide) (by decide) hst hpl) fun σ H Q ⟨ρ, env, st, v, st', rs, re, ev, k⟩ => ?_
  simp only [Ir.eval] at ev
  obtain ⟨x, s1, e1, ev⟩ := bok ev
  obtain ⟨d, e2, ev⟩ := ook ev
  cases ev
  refine ⟨ρ, env, st, x, _, rs, re, e1, fun ρ1 H1 X1 x1 rs1 rx => ?_⟩
  have vd : VD ρ1 X.K _ d X1 := VD.deref rs1 rx e2
  have := k ρ1 _ _ x1 rs1 (.bool _)
  simp only [List.any_cons, List.any_nil, Bool.or_false] at this
  exact ⟨X1, _, _, _, _, rfl, .ty _, vd.ty, kit_ty (kit_dTy d t), this⟩
/-! ### methods -/
theorem mthOk_lst {m : Ir.Mt} {o : Ir.Val} {st : Ir.Store} (hm : m = .append ∨ m = .extend ∨ m = .pop) (h : Ir.mthOk m o st = true) : ∃ n xs, o = .ref n ∧ st[n]? = some (.lst xs) := by
  unfold Ir.mthOk at h
  split at h
  all_goals first
    | (cases h; done)
    | (split at h
       · rename_i n _ xs hx; exact ⟨_, xs, rfl, hx⟩
       · cases h)
    | (rcases hm with hm | hm | hm <;> cases hm)
theorem mthOk_dic {m : Ir.Mt} {o : Ir.Val} {st : Ir.Store} (hm : m = .setdefault ∨ m = .get) (h : Ir.mthOk m o st = true) : ∃ n kvs, o = .ref n ∧ st[n]? = some (.dic kvs) := by
  unfold Ir.mthOk at h
  split at h
  all_goals first
    | (cases h; done)
    | (split at h
       · rename_i n _ xs hx; exact ⟨_, xs, rfl, hx⟩
       · cases h)
    | (rcases hm with hm | hm <;> cases hm)
theorem tyV_lst {ρ : Rho} {K : PySem.W.Frag} {H : Hp} {st : Ir.Store} {n : Nat} {xs : List Ir.D} {x : V} (rs : RS ρ K st H) (r : RV ρ K H (.ref n) x) (h : st[n]? = some (.lst xs)) : tyV K "list" x H := by
  obtain ⟨a, rfl, h1, ys, h2, h3, h4⟩ := RV.cell rs r h (by simp)
  exact .inl ⟨rfl, ys, SqL.of h2⟩
theorem mth_ev {m : Ir.Mt} {io : Ir.Ex} {is : List Ir.Ex} {env : Ir.Env} {st st' : Ir.Store} {v : Ir.Val} (ev : Ir.eval C (.mth m io is) env st = .ok v st') : ∃ x s1 vs s2, Ir.eval C io env st = .ok x s1 ∧ Ir.mthOk m x s1 = true ∧ Ir.evals C is env s1 = .ok vs s2 ∧ Ir.mthV m x vs s2 = .ok v st' := by
  simp only [Ir.eval] at ev
  obtain ⟨x, s1, e1, ev⟩ := bok ev
  split at ev
  · rename_i hk
    obtain ⟨vs, s2, e2, ev⟩ := bok ev
    exact ⟨x, s1, vs, s2, e1, hk, e2, ev⟩
  · cases ev
section
variable {o e : Expr} {io ie : Ir.Ex} {apos cpos : Pos}
theorem se_append (ho : SE X C o io) (he : SE X C e ie) (hbase : attributeBase o (Str.ofString "append") X.env (eval o X.env) = eval o X.env := by rfl)
    (hfew : ((backTo cpos (starEach [e] X.env)).all (fun x => !x.1) && (backToKw cpos (keywordEach [] X.env)).all (fun x => x.1.isSome) && decide (([e] : List Expr).length + ([] : List Keyword).length + (if ([] : List Keyword).isEmpty then 0 else 1) < 30)) = true := by rfl)
    (hline : (apos.endLine == cpos.line) = true := by rfl) (hs : starEach [e] X.env = (false, eval e X.env) :: starEach [] X.env := by rfl) (hpl : (backTo cpos (starEach [] X.env)).any (·.1) = false := by rfl) :
    SE X C (.Call (.Attribute o (Str.ofString "append") apos) [e] [] cpos) (.mth .append io [ie]) := by
  refine pe_imp (pe_bm PySem.F.plainAttrs_list PySem.F.slot_list_append PySem.F.type_list_append mt_append ho (pa_cons he pa_nil hs) hbase hfew hline hs hpl) fun σ H Q ⟨ρ, env, st, v, st', rs, re, ev, k⟩ => ?_
  obtain ⟨x, s1, vs, s2, e1, hk, e2, ev⟩ := mth_ev ev
  obtain ⟨n, ys, rfl, hn⟩ := mthOk_lst (.inl rfl) hk
  simp only [Ir.evals] at e2
  obtain ⟨y, s3, e2, e3⟩ := bok e2
  simp only [Ir.Res.bind_ok] at e3
  cases e3
  refine ⟨ρ, env, st, _, s1, rs, re, e1, fun ρ1 H1 X1 x1 rs1 rx => ⟨tyV_lst rs1 rx hn, ρ1, env, s1, y, _, rs1, re.mono x1, e2, fun ρ2 H2 Y x2 rs2 ry => ?_⟩⟩
  have w0 : Ir.mAppend n s2 [y] = .ok v st' := ev
  clear ev
  unfold Ir.mAppend at w0
  split at w0
  · rename_i d hd
    cases hd
    split at w0
    · rename_i xs hx
      split at w0
      · rename_i hl
        cases w0
        obtain ⟨a, rfl, h1, zs, h2, h3, h4⟩ := RV.cell rs2 (rx.mono x2) hx (by simp)
        have hz : zs.length < sizeLine := by rw [← h4.length, ← lim_eq]; exact hl
        refine ⟨a, zs, Y, rfl, rfl, h2, hz, ?_⟩
        have w : Ext ρ2 H2 ρ2 (upd H2 a (.lst (zs ++ [Y]))) := .write rs2 h1 _
        exact k ρ2 _ _ ((x1.trans x2).trans w) (rs2.write h1 ⟨_, upd_same, by rw [List.length_append]; exact hz, (h4.mono w).append (.cons (ry.mono w) .nil)⟩) .non
      · cases w0
    · cases w0
  · cases w0
theorem se_extend (ho : SE X C o io) (he : SE X C e ie) (hbase : attributeBase o (Str.ofString "extend") X.env (eval o X.env) = eval o X.env := by rfl)
    (hfew : ((backTo cpos (starEach [e] X.env)).all (fun x => !x.1) && (backToKw cpos (keywordEach [] X.env)).all (fun x => x.1.isSome) && decide (([e] : List Expr).length + ([] : List Keyword).length + (if ([] : List Keyword).isEmpty then 0 else 1) < 30)) = true := by rfl)
    (hline : (apos.endLine == cpos.line) = true := by rfl) (hs : starEach [e] X.env = (false, eval e X.env) :: starEach [] X.env := by rfl) (hpl : (backTo cpos (starEach [] X.env)).any (·.1) = false := by rfl) :
    SE X C (.Call (.Attribute o (Str.ofString "extend") apos) [e] [] cpos) (.mth .extend io [ie]) := by
  refine pe_imp (pe_bm PySem.F.plainAttrs_list PySem.F.slot_list_extend PySem.F.type_list_extend mt_extend ho (pa_cons he pa_nil hs) hbase hfew hline hs hpl) fun σ H Q ⟨ρ, env, st, v, st', rs, re, ev, k⟩ => ?_
  obtain ⟨x, s1, vs, s2, e1, hk, e2, ev⟩ := mth_ev ev
  obtain ⟨n, ys, rfl, hn⟩ := mthOk_lst (.inr (.inl rfl)) hk
  simp only [Ir.evals] at e2
  obtain ⟨y, s3, e2, e3⟩ := bok e2
  simp only [Ir.Res.bind_ok] at e3
  cases e3
  refine ⟨ρ, env, st, _, s1, rs, re, e1, fun ρ1 H1 X1 x1 rs1 rx => ⟨tyV_lst rs1 rx hn, ρ1, env, s1, y, _, rs1, re.mono x1, e2, fun ρ2 H2 Y x2 rs2 ry => ?_⟩⟩
  have w0 : Ir.mExtend n s2 [y] = .ok v st' := ev
  clear ev
  unfold Ir.mExtend at w0
  split at w0
  · rename_i d hd
    cases hd
    split at w0
    · rename_i xs hx
      split at w0
      · rename_i hl
        cases w0
        obtain ⟨a, rfl, h1, zs, h2, h3, h4⟩ := RV.cell rs2 (rx.mono x2) hx (by simp)
        obtain ⟨b, ws, rfl, g1, g2, g3⟩ := VD.of ry
        have hz : zs.length + ws.length ≤ sizeLine := by rw [← h4.length, ← g3.length, ← lim_eq]; exact hl
        refine ⟨a, b, zs, ws, rfl, rfl, h2, g1, hz, ?_⟩
        have w : Ext ρ2 H2 ρ2 (upd H2 a (.lst (zs ++ ws))) := .write rs2 h1 _
        exact k ρ2 _ _ ((x1.trans x2).trans w) (rs2.write h1 ⟨_, upd_same, by rw [List.length_append]; exact hz, (h4.mono w).append (g3.mono w)⟩) .non
      · cases w0
    · cases w0
  · cases w0
theorem RDs.dropLast {ρ : Rho} {K : PySem.W.Frag} {H : Hp} {xs : List Ir.D} {ys : List V} (r : RDs ρ K H xs ys) : RDs ρ K H xs.dropLast ys.dropLast := by
  rw [List.dropLast_eq_take, List.dropLast_eq_take, r.length]
  exact r.take _
theorem se_pop (ho : SE X C o io) (hbase : attributeBase o (Str.ofString "pop") X.env (eval o X.env) = eval o X.env := by rfl) (hline : (apos.endLine == cpos.line) = true := by rfl) :
    SE X C (.Call (.Attribute o (Str.ofString "pop") apos) [] [] cpos) (.mth .pop io []) := by
  refine pe_imp (pe_bm0 PySem.F.plainAttrs_list PySem.F.slot_list_pop PySem.F.type_list_pop mt_pop ho hbase hline) fun σ H Q ⟨ρ, env, st, v, st', rs, re, ev, k⟩ => ?_
  obtain ⟨x, s1, vs, s2, e1, hk, e2, ev⟩ := mth_ev ev
  obtain ⟨n, ys, rfl, hn⟩ := mthOk_lst (.inr (.inr rfl)) hk
  simp only [Ir.evals] at e2
  cases e2
  refine ⟨ρ, env, st, _, _, rs, re, e1, fun ρ1 H1 X1 x1 rs1 rx => ⟨tyV_lst rs1 rx hn, ?_⟩⟩
  have w0 : Ir.mPop n s1 [] = .ok v st' := ev
  clear ev
  simp only [Ir.mPop] at w0
  split at w0
  · rename_i xs hx
    split at w0
    · rename_i y hy
      cases w0
      obtain ⟨a, rfl, h1, zs, h2, h3, h4⟩ := RV.cell rs1 rx hx (by simp)
      obtain ⟨w, hw1, hw2⟩ := h4.get hy
      rw [h4.length] at hw1
      refine ⟨a, zs, w, rfl, rfl, h2, hw1, ?_⟩
      have wr : Ext ρ1 H1 ρ1 (upd H1 a (.lst zs.dropLast)) := .write rs1 h1 _
      exact k ρ1 _ _ (x1.trans wr) (rs1.write h1 ⟨_, upd_same, by rw [List.length_dropLast]; omega, h4.dropLast.mono wr⟩) (hw2.mono wr)
    · cases w0
  · cases w0
theorem se_setdefault {f : Expr} {jf : Ir.Ex} (ho : SE X C o io) (he : SE X C e ie) (hf : SE X C f jf) (m : M2 X o (Str.ofString "setdefault") apos e f cpos := by exact ⟨rfl, rfl, rfl, rfl⟩) :
    SE X C (.Call (.Attribute o (Str.ofString "setdefault") apos) [e, f] [] cpos) (.mth .setdefault io [ie, jf]) := by
  refine pe_imp (pe_dsetd ho he hf m) fun σ H Q ⟨ρ, env, st, v, st', rs, re, ev, k⟩ => ?_
  obtain ⟨x, s1, vs, s2, e1, hk, e2, ev⟩ := mth_ev ev
  obtain ⟨n, ys, rfl, hn⟩ := mthOk_dic (.inl rfl) hk
  simp only [Ir.evals] at e2
  obtain ⟨y, s3, f2, e3⟩ := bok e2
  obtain ⟨zs, s4, e3, e4⟩ := bok e3
  obtain ⟨z, s5, f3, e5⟩ := bok e3
  simp only [Ir.Res.bind_ok] at e5
  cases e5
  cases e4
  refine ⟨ρ, env, st, _, s1, rs, re, e1, fun ρ1 H1 X1 x1 rs1 rx => ?_⟩
  obtain ⟨a, rfl, h1, ks, h2, h3, h4⟩ := RV.cell rs1 rx hn (by simp)
  refine ⟨a, rfl, .inl ⟨ks, .inl h2⟩, ρ1, env, s1, y, s3, rs1, re.mono x1, f2, fun ρ2 H2 Y x2 rs2 ry => ⟨ρ2, env, s3, z, _, rs2, re.mono (x1.trans x2), f3, fun ρ3 H3 Z x3 rs3 rz => ?_⟩⟩
  have w0 : Ir.mSetdefault n s2 [y, z] = .ok v st' := ev
  clear ev
  unfold Ir.mSetdefault at w0
  split at w0
  · rename_i kd vd hd
    cases hd
    split at w0
    · rename_i kvs hx
      split at w0
      · rename_i hc
        rw [Bool.and_eq_true] at hc
        obtain ⟨a', e', h1', ks', h2', h3', h4'⟩ := RV.cell rs3 (rx.mono (x2.trans x3)) hx (by simp)
        cases e'
        obtain ⟨k', hk1, rfl⟩ := RK.kv (ry.mono x3) hc.1
        have hlen : ks'.length < sizeLine := by rw [← h4'.length, ← lim_eq]; exact of_decide_eq_true hc.2
        refine ⟨ks', k', h2', rfl, hlen, fun w hw => ?_, fun hw => ?_⟩
        · rcases RKs.look hk1 h4' with ⟨z1, z2⟩ | ⟨u, q, z1, z2, z3⟩
          · rw [hw] at z2; cases z2
          · rw [hw] at z2; cases z2
            rw [z1] at w0
            cases w0
            exact k ρ3 H3 _ ((x1.trans x2).trans x3) rs3 z3
        · rcases RKs.look hk1 h4' with ⟨z1, z2⟩ | ⟨u, q, z1, z2, z3⟩
          · rw [z1] at w0
            cases w0
            have w : Ext ρ3 H3 ρ3 (upd H3 a (.dK (L2.putK ks' k' Z))) := .write rs3 h1' _
            refine k ρ3 _ _ (((x1.trans x2).trans x3).trans w) (rs3.write h1' ⟨_, upd_same, ?_, (h4'.mono w).put hk1 (rz.mono w)⟩) (rz.mono w)
            have := length_putK ks' k' Z
            omega
          · rw [hw] at z2; cases z2
      · cases w0
    · cases w0
  · cases w0
theorem se_get {f : Expr} {jf : Ir.Ex} {n0 : Nat} (hr : Room n0 X.A) (ho : SE X C o io) (he : SE X C e ie) (hf : SE X C f jf) (m : M2 X o (Str.ofString "get") apos e f cpos := by exact ⟨rfl, rfl, rfl, rfl⟩) :
    SE X C (.Call (.Attribute o (Str.ofString "get") apos) [e, f] [] cpos) (.mth .get io [ie, jf]) := by
  refine pe_imp (pe_dget2 (hu_of hr) ho he hf m) fun σ H Q ⟨ρ, env, st, v, st', rs, re, ev, k⟩ => ?_
  obtain ⟨x, s1, vs, s2, e1, hk, e2, ev⟩ := mth_ev ev
  obtain ⟨n, ys, rfl, hn⟩ := mthOk_dic (.inr rfl) hk
  simp only [Ir.evals] at e2
  obtain ⟨y, s3, f2, e3⟩ := bok e2
  obtain ⟨zs, s4, e3, e4⟩ := bok e3
  obtain ⟨z, s5, f3, e5⟩ := bok e3
  simp only [Ir.Res.bind_ok] at e5
  cases e5
  cases e4
  refine ⟨ρ, env, st, _, s1, rs, re, e1, fun ρ1 H1 X1 x1 rs1 rx => ?_⟩
  obtain ⟨a, rfl, h1, ks, h2, h3, h4⟩ := RV.cell rs1 rx hn (by simp)
  refine ⟨a, rfl, .inl ⟨ks, .inl h2⟩, ρ1, env, s1, y, s3, rs1, re.mono x1, f2, fun ρ2 H2 Y x2 rs2 ry => ⟨ρ2, env, s3, z, _, rs2, re.mono (x1.trans x2), f3, fun ρ3 H3 Z x3 rs3 rz => ?_⟩⟩
  have w0 : Ir.mGet n s2 [y, z] = .ok v st' := ev
  clear ev
  unfold Ir.mGet at w0
  split at w0
  · rename_i kd vd hd
    cases hd
    split at w0
    · rename_i kvs hx
      split at w0
      · rename_i hc
        cases w0
        obtain ⟨a', e', h1', ks', h2', h3', h4'⟩ := RV.cell rs3 (rx.mono (x2.trans x3)) hx (by simp)
        cases e'
        obtain ⟨k', hk1, rfl⟩ := RK.kv (ry.mono x3) hc
        refine ⟨_, .k h2', ?_⟩
        rcases RKs.look hk1 h4' with ⟨z1, z2⟩ | ⟨u, q, z1, z2, z3⟩
        · rw [z2]; rw [z1] at k
          exact k ρ3 H3 _ ((x1.trans x2).trans x3) rs3 rz
        · rw [z2]; rw [z1] at k
          exact k ρ3 H3 _ ((x1.trans x2).trans x3) rs3 z3
      · cases w0
    · cases w0
  · cases w0
theorem intBits_same (i : Int) : Ir.intBits i = Builtin.Int.intBits i := by
  unfold Ir.intBits Builtin.Int.intBits
  by_cases h : i = 0
  · subst h; rfl
  · have h1 : ¬ i.natAbs = 0 := by omega
    rw [if_neg h1, if_neg (by simpa using h)]
theorem se_bits (ho : SE X C o io) (hbase : attributeBase o (Str.ofString "bit_length") X.env (eval o X.env) = eval o X.env := by rfl) (hline : (apos.endLine == cpos.line) = true := by rfl) :
    SE X C (.Call (.Attribute o (Str.ofString "bit_length") apos) [] [] cpos) (.mth .bit_length io []) := by
  refine pe_imp (pe_bits ho hbase hline) fun σ H Q ⟨ρ, env, st, v, st', rs, re, ev, k⟩ => ?_
  obtain ⟨x, s1, vs, s2, e1, hk, e2, ev⟩ := mth_ev ev
  simp only [Ir.evals] at e2
  cases e2
  cases x with
  | ref n => cases ev
  | d y =>
    have ev : Ir.mBits s1 y [] = .ok v st' := ev
    cases y <;> simp only [Ir.mBits, reduceCtorEq] at ev
    cases ev
    refine ⟨ρ, env, st, _, _, rs, re, e1, fun ρ1 H1 X1 x1 rs1 rx => ⟨_, RD.int_inv rx, ?_⟩⟩
    rw [← intBits_same]
    exact k ρ1 H1 _ x1 rs1 (.int _)
end
end Snd

namespace Snd
open PySem PySem.Spec PyProof.Rows L2
/-! ### targets -/
section
variable {prog : Program} {w : World} {A : Around} {E : Value → Shared → Prop} {s : Shared}
theorem star_T {l : Addr} {items : Array Value} {n i : Nat} {Q : List Value → Shared → Prop} (hl : IsTup s.heap l items) (hh : A.handled = none) (hi : i < n) (hn : n ≤ items.size + 1) (hz : items.size ≤ sizeLine)
    (h : ∀ (h' : Heap) (tk : Nat), (∀ b o, s.heap.get? b = some o → h'.get? b = some o) → Q (items.toList.take i ++ [.ref h'.objs.size] ++ (items.toList.drop i).drop (items.size + 1 - n)) { s with heap := h'.push { cls := .type "list", data := .seq ((items.toList.drop i).take (items.size + 1 - n)).toArray }, toks := tk }) :
    wpAny (model prog w) A (unpackItems (.ref l) n (some i)) Q E s := by
  have hlt : l ≠ s.heap.objs.size := by obtain ⟨o, ho, _⟩ := hl; exact Nat.ne_of_lt (Heap.lt_size ho)
  unfold unpackItems
  refine wpAny_bind ?_
  unfold notIterableAtAll
  refine wpAny_bind (wpAny_specialOf hl.typeIs slot_tuple_iter.lookup ?_)
  refine wpAny_pure ?_
  simp only [Bool.false_eq_true, if_false]
  refine wpAny_bind (wpAny_holding (iter_tuple hl ?_))
  refine wpAny_bind (wpAny_holding (draw_tuple hlt i 0 _ _ ⟨_, Heap.get?_push_size _ rfl, rfl, rfl⟩ (hl.push _) (by omega) fun h₁ hit₁ hs₁ => ?_))
  have hl₁ : IsTup h₁ l items := (hl.push _).extBut hs₁.extBut hlt
  rw [Nat.zero_add] at hit₁
  have hit₁' := hit₁
  obtain ⟨oi, hoi, _⟩ := hit₁'
  have hl₁' := hl₁
  obtain ⟨ol, hol, _⟩ := hl₁'
  rw [List.drop_zero]
  have hfl : (items.toList.take i).length = i := by rw [List.length_take, Array.length_toList]; omega
  rw [if_neg (show ¬ ((items.toList.take i).length < i) by rw [hfl]; omega)]
  refine wpAny_bind (wpAny_holding (PySem.W.kun_collect (s := { s with heap := h₁ }) (T := "tuple_iterator") (.inr (.inr (.inr rfl))) (Walks.tuple (A := A.in1) hh s.heap.objs.size l hlt items) (fun j u st => st.1.typeIs) (k := i) (by omega) ⟨hit₁, hl₁⟩ (Heap.lt_size hoi) (Heap.lt_size hol) (fun h₂ tk hk => ?_) hz))
  have hrl : (items.toList.drop i).length = items.size - i := by rw [List.length_drop, Array.length_toList]
  have hmid : (items.toList.drop i).length - (n - 1 - i) = items.size + 1 - n := by rw [hrl]; omega
  show wpAny _ _ (if (items.toList.drop i).length < n - 1 - i then _ else _) _ _ _
  rw [if_neg (by rw [hrl]; omega)]
  show wpAny _ _ (newList ((items.toList.drop i).take ((items.toList.drop i).length - (n - 1 - i))) >>= fun d => pure (items.toList.take i ++ [d] ++ (items.toList.drop i).drop ((items.toList.drop i).length - (n - 1 - i)))) _ _ _
  rw [hmid]
  have he : ∀ b o, s.heap.get? b = some o → h₂.get? b = some o := fun b o e => hk b o (Nat.ne_of_lt (Heap.lt_size e)) (hs₁.extBut b o (Nat.ne_of_lt (Heap.lt_size e)) (Heap.get?_push_of_some _ e))
  refine wpAny_bind (wpAny_newObj_type (wpAny_pure (h h₂ tk he)) ?_)
  show (((items.toList.drop i).take (items.size + 1 - n)).toArray).size ≤ sizeLine
  rw [List.size_toArray, List.length_take, hrl]
  omega
theorem star_L {l : Addr} {items : Array Value} {n i : Nat} {Q : List Value → Shared → Prop} (hl : s.heap.IsList l items) (hh : A.handled = none) (hi : i < n) (hn : n ≤ items.size + 1) (hz : items.size ≤ sizeLine)
    (h : ∀ (h' : Heap) (tk : Nat), (∀ b o, s.heap.get? b = some o → h'.get? b = some o) → Q (items.toList.take i ++ [.ref h'.objs.size] ++ (items.toList.drop i).drop (items.size + 1 - n)) { s with heap := h'.push { cls := .type "list", data := .seq ((items.toList.drop i).take (items.size + 1 - n)).toArray }, toks := tk }) :
    wpAny (model prog w) A (unpackItems (.ref l) n (some i)) Q E s := by
  have hlt : l ≠ s.heap.objs.size := by obtain ⟨o, ho, _⟩ := hl; exact Nat.ne_of_lt (Heap.lt_size ho)
  unfold unpackItems
  refine wpAny_bind ?_
  unfold notIterableAtAll
  refine wpAny_bind (wpAny_specialOf hl.typeIs slot_list_iter.lookup ?_)
  refine wpAny_pure ?_
  simp only [Bool.false_eq_true, if_false]
  refine wpAny_bind (wpAny_holding (wpAny_pyIter_list hl ?_))
  refine wpAny_bind (wpAny_holding (PySem.W.kun_draw hlt i 0 _ _ ⟨_, Heap.get?_push_size _ rfl, rfl, rfl⟩ (hl.push _) (by omega) fun h₁ hit₁ hs₁ => ?_))
  have hl₁ : h₁.IsList l items := (hl.push _).extBut hs₁.extBut hlt
  rw [Nat.zero_add] at hit₁
  have hit₁' := hit₁
  obtain ⟨oi, hoi, _⟩ := hit₁'
  have hl₁' := hl₁
  obtain ⟨ol, hol, _⟩ := hl₁'
  rw [List.drop_zero]
  have hfl : (items.toList.take i).length = i := by rw [List.length_take, Array.length_toList]; omega
  rw [if_neg (show ¬ ((items.toList.take i).length < i) by rw [hfl]; omega)]
  refine wpAny_bind (wpAny_holding (PySem.W.kun_collect (s := { s with heap := h₁ }) (T := "list_iterator") (.inr (.inr (.inl rfl))) (Walks.list (A := A.in1) hh s.heap.objs.size l hlt items) (fun j u st => st.1.typeIs) (k := i) (by omega) ⟨hit₁, hl₁⟩ (Heap.lt_size hoi) (Heap.lt_size hol) (fun h₂ tk hk => ?_) hz))
  have hrl : (items.toList.drop i).length = items.size - i := by rw [List.length_drop, Array.length_toList]
  have hmid : (items.toList.drop i).length - (n - 1 - i) = items.size + 1 - n := by rw [hrl]; omega
  show wpAny _ _ (if (items.toList.drop i).length < n - 1 - i then _ else _) _ _ _
  rw [if_neg (by rw [hrl]; omega)]
  show wpAny _ _ (newList ((items.toList.drop i).take ((items.toList.drop i).length - (n - 1 - i))) >>= fun d => pure (items.toList.take i ++ [d] ++ (items.toList.drop i).drop ((items.toList.drop i).length - (n - 1 - i)))) _ _ _
  rw [hmid]
  have he : ∀ b o, s.heap.get? b = some o → h₂.get? b = some o := fun b o e => hk b o (Nat.ne_of_lt (Heap.lt_size e)) (hs₁.extBut b o (Nat.ne_of_lt (Heap.lt_size e)) (Heap.get?_push_of_some _ e))
  refine wpAny_bind (wpAny_newObj_type (wpAny_pure (h h₂ tk he)) ?_)
  show (((items.toList.drop i).take (items.size + 1 - n)).toArray).size ≤ sizeLine
  rw [List.size_toArray, List.length_take, hrl]
  omega
end
variable {X : Cx} {C : Ir.Calls}
/-- (a, .., *r, .., z) = a tuple or a list -/
def gStar (K : PySem.W.Frag) (n i : Nat) (t : TGs) : TG := fun v σ H Q => ∃ a xs, v = .ref a ∧ (SqT K H a xs ∨ SqL K H a xs) ∧ n ≤ xs.length + 1 ∧ ∀ p, H p = none → t (xs.take i ++ [.ref p] ++ (xs.drop i).drop (xs.length + 1 - n)) σ (upd H p (.lst ((xs.drop i).take (xs.length + 1 - n)))) Q
theorem pg_star {es : List Expr} {k : Nat} {t : TGs} {n i : Nat} {pos : Pos} (hc : X.calm = true) (h : PGs X es t) (hi : i < n) (hn : (assignEach es X.env).length = n := by rfl) (hst : (assignEach es X.env).findIdx? (·.1) = some i := by rfl) : PG X (.Tuple es k pos) (gStar X.K n i t) := by
  refine ⟨fun pins s σ H v u Q I r hw => ?_⟩
  obtain ⟨a, xs, e1, hq, hl, hw⟩ := hw
  subst e1
  cases r
  rw [assign_Tuple]
  refine wpAny_bind (wpAny_standAt ?_)
  unfold unpack
  rw [hn, hst]
  have core : ∀ its : List Value, Vals xs its → xs.length ≤ sizeLine → ∀ (h' : Heap) (tk : Nat), (∀ b o, s.heap.get? b = some o → h'.get? b = some o) →
      wpAny (model X.prog X.w) X.A (assignInOrder ((assignEach es X.env).map (·.2)) (its.toArray.toList.take i ++ [.ref h'.objs.size] ++ (its.toArray.toList.drop i).drop (its.toArray.size + 1 - n))) (fun _ s' => ∃ σ' H', Inv X pins σ' H' s' ∧ Q σ' H') X.xe
        { s with heap := h'.push { cls := .type "list", data := .seq ((its.toArray.toList.drop i).take (its.toArray.size + 1 - n)).toArray }, toks := tk } := fun its rv hz h' tk hk => by
    have I1 : Inv X pins σ H { s with heap := h', toks := tk } := I.kept (t' := tk) hk
    have hf : H h'.objs.size = none := I1.hok.fresh (Nat.le_refl _)
    have el : its.toArray.size = xs.length := by rw [List.size_toArray]; exact rv.length.symm
    have rm : Vals ((xs.drop i).take (xs.length + 1 - n)) ((its.toArray.toList.drop i).take (its.toArray.size + 1 - n)) := by
      rw [el]
      exact (Vals.drop i rv).take _
    have I2 : Inv X pins σ (upd H h'.objs.size (.lst ((xs.drop i).take (xs.length + 1 - n)))) { s with heap := h'.push { cls := .type "list", data := .seq ((its.toArray.toList.drop i).take (its.toArray.size + 1 - n)).toArray }, toks := tk } := by
      refine I1.laid (t' := tk) (fun b o e => Heap.get?_push_of_some _ e) (Nat.le_refl _) ⟨?_, _, 0, rm, Heap.get?_push_size _ rfl⟩
      rw [List.length_take, List.length_drop]
      omega
    refine h.run pins _ σ _ _ _ Q I2 ?_ (hw _ hf)
    refine Vals.append (Vals.append (Vals.take i rv) (.cons rfl .nil)) ?_
    rw [el]
    exact Vals.drop _ (Vals.drop i rv)
  rcases hq with hq | hq
  · obtain ⟨its, rv, ht, hz⟩ := I.tuple hq
    exact wpAny_bind (wpAny_holding (star_T ht (I.ok.hd hc) hi (by rw [List.size_toArray, ← rv.length]; omega) (by rw [List.size_toArray, ← rv.length]; exact hz) (core its rv hz)))
  · obtain ⟨its, rv, ht, hz⟩ := I.list hq
    exact wpAny_bind (wpAny_holding (star_L ht.isList (I.ok.hd hc) hi (by rw [List.size_toArray, ← rv.length]; omega) (by rw [List.size_toArray, ← rv.length]; exact hz) (core its rv hz)))
theorem pgs_star {e : Expr} {es : List Expr} {t : TG} {u : TGs} {p : Pos} (h1 : PG X e t) (h2 : PGs X es u)
    (hs : (assignEach (.Starred e p :: es) X.env).map (·.2) = assign e X.env :: (assignEach es X.env).map (·.2) := by rfl) : PGs X (.Starred e p :: es) (gCons t u) := by
  refine ⟨fun pins s σ H vs us Q I r h => ?_⟩
  obtain ⟨v, vr, e1, h⟩ := h
  subst e1
  cases r with
  | cons r rr =>
    rw [hs]
    refine assignInOrder_cons (thn (h1.run pins s σ H _ _ _ I r h) fun _ s1 ⟨σ1, H1, I1, q1⟩ => ?_)
    exact h2.run pins s1 σ1 H1 _ _ Q I1 rr q1
theorem pg_imp {e : Expr} {t t' : TG} (h : PG X e t) (w : ∀ v σ H Q, t' v σ H Q → t v σ H Q) : PG X e t' := ⟨fun pins s σ H v u Q I r q => h.run pins s σ H v u Q I r (w v σ H Q q)⟩
theorem pgs_imp {e : List Expr} {t t' : TGs} (h : PGs X e t) (w : ∀ v σ H Q, t' v σ H Q → t v σ H Q) : PGs X e t' := ⟨fun pins s σ H v u Q I r q => h.run pins s σ H v u Q I r (w v σ H Q q)⟩
theorem wipe_same {σ : L2.St} {i : Nat} {v : V} : ∀ {vs : List Nat}, i ∈ vs → L2.wipe (σ.set i (some v)) vs = L2.wipe σ vs
  | j :: vs, h => by
    simp only [L2.wipe]
    by_cases e : i ∈ vs
    · rw [wipe_same e]
    · have hj : i = j := by
        rcases List.mem_cons.mp h with q | q
        · exact q
        · exact absurd q e
      subst hj
      have : ∀ vs : List Nat, i ∉ vs → L2.wipe (σ.set i (some v)) vs = (L2.wipe σ vs).set i (some v) := by
        intro vs
        induction vs with
        | nil => intro _; rfl
        | cons j vs ih =>
          intro hn
          simp only [L2.wipe]
          rw [ih (fun q => hn (List.mem_cons_of_mem _ q)), List.set_comm _ _ (fun q => hn (by rw [q]; exact List.mem_cons_self))]
      rw [this vs e, List.set_set]
/-- nothing but these slots is changed -/
def OnlyS (is : List Nat) (σ σ' : L2.St) : Prop := ∀ vs : List Nat, (∀ i ∈ is, i ∈ vs) → L2.wipe σ' vs = L2.wipe σ vs
theorem OnlyS.one (i : Nat) (σ : L2.St) (v : V) : OnlyS [i] σ (σ.set i (some v)) := fun vs h => wipe_same (h i (by simp))
theorem OnlyS.trans {is js : List Nat} {σ σ1 σ2 : L2.St} (a : OnlyS is σ σ1) (b : OnlyS js σ1 σ2) : OnlyS (is ++ js) σ σ2 := fun vs h => (b vs fun i q => h i (List.mem_append_right _ q)).trans (a vs fun i q => h i (List.mem_append_left _ q))
theorem OnlyS.fold : ∀ (is : List Nat) (vs : List V) (σ : L2.St), OnlyS is σ ((is.zip vs).foldl (fun s p => s.set p.1 (some p.2)) σ)
  | [], _, σ => fun _ _ => rfl
  | _ :: _, [], σ => fun _ _ => rfl
  | i :: is, v :: vs, σ => OnlyS.trans (is := [i]) (OnlyS.one i σ v) (OnlyS.fold is vs _)
def tG (K : PySem.W.Frag) (t : Ir.Tg) : TG := fun v σ H Q => ∃ ρ env st x env', RS ρ K st H ∧ REnv ρ K H env σ ∧ RD ρ K H x v ∧ t.put x env = some env' ∧ ∀ ρ' H' σ', Ext ρ H ρ' H' → RS ρ' K st H' → REnv ρ' K H' env' σ' → OnlyS t.slots σ σ' → Q σ' H'
def tGs (K : PySem.W.Frag) (ts : List Ir.Tg) : TGs := fun vs σ H Q => ∃ ρ env st xs env', RS ρ K st H ∧ REnv ρ K H env σ ∧ RDs ρ K H xs vs ∧ Ir.Tg.puts ts xs env = some env' ∧ ∀ ρ' H' σ', Ext ρ H ρ' H' → RS ρ' K st H' → REnv ρ' K H' env' σ' → OnlyS (Ir.Tg.slotss ts) σ σ' → Q σ' H'
abbrev SG (X : Cx) (e : Expr) (t : Ir.Tg) : Prop := PG X e (tG X.K t)
abbrev SGs (X : Cx) (e : List Expr) (t : List Ir.Tg) : Prop := PGs X e (tGs X.K t)
theorem sg_name (i : Nat) {x : Str} {pos : Pos} (hN : X.N.Nodup) (hx : Loc X.env.scope x := by first | exact .inl rfl | exact .inr rfl) (hi : X.N[i]? = some x := by rfl) (hf : X.fn x = true ∨ X.env.scope.names.lookup x = some .local := by first | exact .inl rfl | exact .inr rfl | assumption) : SG X (.Name x pos) (.name i) :=
  pg_imp (pg_name hN hi hx hf) fun v σ H Q ⟨ρ, env, st, x, env', rs, re, rx, hp, k⟩ => by
    simp only [Ir.Tg.put, Option.some.injEq] at hp
    subst hp
    exact k ρ H _ (.refl _ _) rs (re.set (v := .d x) rx i) (by simp only [Ir.Tg.slots]; exact OnlyS.one i σ v)
theorem sgs_nil : SGs X [] [] := pgs_imp pgs_nil fun v σ H Q ⟨ρ, env, st, xs, env', rs, re, rx, hp, k⟩ => by
  cases rx with
  | nil =>
    simp only [Ir.Tg.puts, Option.some.injEq] at hp
    subst hp
    exact ⟨rfl, k ρ H _ (.refl _ _) rs re fun _ _ => rfl⟩
  | cons _ _ => simp [Ir.Tg.puts] at hp
theorem sgs_cons {e : Expr} {es : List Expr} {t : Ir.Tg} {ts : List Ir.Tg} (h1 : SG X e t) (h2 : SGs X es ts) (hs : (assignEach (e :: es) X.env).map (·.2) = assign e X.env :: (assignEach es X.env).map (·.2) := by rfl) : SGs X (e :: es) (t :: ts) :=
  pgs_imp (pgs_cons h1 h2 hs) fun v σ H Q ⟨ρ, env, st, xs, env', rs, re, rx, hp, k⟩ => by
    cases rx with
    | nil => simp [Ir.Tg.puts] at hp
    | cons rx rr =>
      simp only [Ir.Tg.puts, Option.bind_eq_some_iff] at hp
      obtain ⟨env1, hp1, hp2⟩ := hp
      exact ⟨_, _, rfl, ρ, env, st, _, env1, rs, re, rx, hp1, fun ρ1 H1 σ1 x1 rs1 re1 o1 => ⟨ρ1, env1, st, _, env', rs1, re1, rr.mono x1, hp2, fun ρ2 H2 σ2 x2 rs2 re2 o2 => k ρ2 H2 σ2 (x1.trans x2) rs2 re2 (by simp only [Ir.Tg.slotss]; exact o1.trans o2)⟩⟩
theorem sg_tup {es : List Expr} {ts : List Ir.Tg} {k : Nat} {pos : Pos} (hc : X.calm = true) (h : SGs X es ts) (hl : ∀ xs env env', Ir.Tg.puts ts xs env = some env' → xs.length = ts.length) (hn : (assignEach es X.env).length = ts.length := by rfl) (hst : (assignEach es X.env).findIdx? (·.1) = none := by rfl) : SG X (.Tuple es k pos) (.tup ts) :=
  pg_imp (pg_tup hc h hn hst) fun v σ H Q ⟨ρ, env, st, x, env', rs, re, rx, hp, k⟩ => by
    cases x <;> simp only [Ir.Tg.put, reduceCtorEq] at hp
    rename_i xs
    obtain ⟨a, ys, rfl, t, z, r⟩ := RD.tup_inv rx
    exact ⟨a, ys, rfl, t.sq, by rw [← r.length]; exact hl _ _ _ hp, ρ, env, st, xs, env', rs, re, r, hp, by simpa only [Ir.Tg.slots] using k⟩
theorem puts_len : ∀ (ts : List Ir.Tg) (xs : List Ir.D) (env env' : Ir.Env), Ir.Tg.puts ts xs env = some env' → xs.length = ts.length
  | [], [], _, _, _ => rfl
  | [], _ :: _, _, _, h => by simp [Ir.Tg.puts] at h
  | _ :: _, [], _, _, h => by simp [Ir.Tg.puts] at h
  | t :: ts, x :: xs, env, env', h => by
    simp only [Ir.Tg.puts, Option.bind_eq_some_iff] at h
    obtain ⟨e1, _, h2⟩ := h
    simp [puts_len ts xs e1 env' h2]
/-- names in a row -/
def gNames (is : List Nat) : TGs := fun vs σ H Q => vs.length = is.length ∧ Q ((is.zip vs).foldl (fun s p => s.set p.1 (some p.2)) σ) H
abbrev SNs (X : Cx) (es : List Expr) (is : List Nat) : Prop := PGs X es (gNames is)
theorem sns_nil : SNs X [] [] := pgs_imp pgs_nil fun v σ H Q ⟨h, q⟩ => by
  cases v with
  | nil => exact ⟨rfl, q⟩
  | cons _ _ => simp at h
theorem sns_cons (i : Nat) {x : Str} {pos : Pos} {es : List Expr} {is : List Nat} (hN : X.N.Nodup) (h : SNs X es is) (hx : Loc X.env.scope x := by first | exact .inl rfl | exact .inr rfl) (hi : X.N[i]? = some x := by rfl) (hf : X.fn x = true ∨ X.env.scope.names.lookup x = some .local := by first | exact .inl rfl | exact .inr rfl | assumption) (hs : (assignEach (.Name x pos :: es) X.env).map (·.2) = assign (.Name x pos) X.env :: (assignEach es X.env).map (·.2) := by rfl) : SNs X (.Name x pos :: es) (i :: is) :=
  pgs_imp (pgs_cons (pg_name hN hi hx hf) h hs) fun v σ H Q ⟨hl, q⟩ => by
    cases v with
    | nil => simp at hl
    | cons v vs => exact ⟨v, vs, rfl, by simpa using hl, q⟩
theorem sns_star (i : Nat) {x : Str} {pos p : Pos} {es : List Expr} {is : List Nat} (hN : X.N.Nodup) (h : SNs X es is) (hx : Loc X.env.scope x := by first | exact .inl rfl | exact .inr rfl) (hi : X.N[i]? = some x := by rfl) (hf : X.fn x = true ∨ X.env.scope.names.lookup x = some .local := by first | exact .inl rfl | exact .inr rfl | assumption) (hs : (assignEach (.Starred (.Name x pos) p :: es) X.env).map (·.2) = assign (.Name x pos) X.env :: (assignEach es X.env).map (·.2) := by rfl) : SNs X (.Starred (.Name x pos) p :: es) (i :: is) :=
  pgs_imp (pgs_star (pg_name hN hi hx hf) h hs) fun v σ H Q ⟨hl, q⟩ => by
    cases v with
    | nil => simp at hl
    | cons v vs => exact ⟨v, vs, rfl, by simpa using hl, q⟩
theorem setAll_ok {ρ : Rho} {K : PySem.W.Frag} {H : Hp} : ∀ {is : List Nat} {xs : List Ir.D} {vs : List V} {env env' : Ir.Env} {σ : L2.St}, RDs ρ K H xs vs → REnv ρ K H env σ → Ir.setAll is xs env = some env' → vs.length = is.length ∧ REnv ρ K H env' ((is.zip vs).foldl (fun s p => s.set p.1 (some p.2)) σ)
  | [], [], _, _, _, _, .nil, re, h => by simp only [Ir.setAll, Option.some.injEq] at h; subst h; exact ⟨rfl, re⟩
  | [], _ :: _, _, _, _, _, _, _, h => by simp [Ir.setAll] at h
  | _ :: _, [], _, _, _, _, _, _, h => by simp [Ir.setAll] at h
  | i :: is, x :: xs, _ :: vs, env, env', σ, .cons a r, re, h => by
    simp only [Ir.setAll] at h
    obtain ⟨h1, h2⟩ := setAll_ok r (re.set (v := .d x) a i) h
    exact ⟨by simp [h1], h2⟩
theorem foldl_zip_append (as bs : List Nat) (xs ys : List V) (σ : L2.St) (h : as.length = xs.length) : ((as ++ bs).zip (xs ++ ys)).foldl (fun (s : L2.St) p => s.set p.1 (some p.2)) σ = (bs.zip ys).foldl (fun s p => s.set p.1 (some p.2)) ((as.zip xs).foldl (fun s p => s.set p.1 (some p.2)) σ) := by
  rw [List.zip_append h, List.foldl_append]
theorem sg_star {es : List Expr} {pre post : List Nat} {j : Nat} {k : Nat} {pos : Pos} (hc : X.calm = true) (h : SNs X es (pre ++ j :: post)) (hn : (assignEach es X.env).length = pre.length + 1 + post.length := by rfl) (hst : (assignEach es X.env).findIdx? (·.1) = some pre.length := by rfl) : SG X (.Tuple es k pos) (.star pre j post) :=
  pg_imp (pg_star hc h (by omega) hn hst) fun v σ H Q ⟨ρ, env, st, x, env', rs, re, rx, hp, k⟩ => by
    simp only [Ir.Tg.put] at hp
    cases hx : x.seq with
    | none => rw [hx] at hp; cases hp
    | some xs =>
      rw [hx] at hp
      simp only at hp
      split at hp
      · cases hp
      · rename_i hlen
        cases hs : Ir.setAll pre (xs.take pre.length) env with
        | none => rw [hs] at hp; cases hp
        | some env1 =>
          rw [hs] at hp
          simp only at hp
          have main : ∀ a ys, v = .ref a → (SqT X.K H a ys ∨ SqL X.K H a ys) → ys.length ≤ sizeLine → RDs ρ X.K H xs ys → gStar X.K (pre.length + 1 + post.length) pre.length (gNames (pre ++ j :: post)) v σ H Q := fun a ys hv hq hz r => by
            have hl := r.length
            refine ⟨a, ys, hv, hq, by omega, fun p hp0 => ?_⟩
            have x1 : Ext ρ H ρ (upd H p (.lst ((ys.drop pre.length).take (ys.length + 1 - (pre.length + 1 + post.length))))) := .grow rs hp0 _
            have rs1 := rs.grow hp0 (.lst ((ys.drop pre.length).take (ys.length + 1 - (pre.length + 1 + post.length))))
            have c1 : ys.length + 1 - (pre.length + 1 + post.length) = xs.length - pre.length - post.length := by omega
            have rm : RDs ρ X.K H ((xs.drop pre.length).take (xs.length - pre.length - post.length)) ((ys.drop pre.length).take (ys.length + 1 - (pre.length + 1 + post.length))) := by
              rw [c1]; exact (r.drop _).take _
            have rD := grow_lst rs rm (by rw [List.length_take, List.length_drop]; omega) hp0
            obtain ⟨g1, g2⟩ := setAll_ok ((r.take pre.length).mono x1) (re.mono x1) hs
            have ed : xs.drop (xs.length - post.length) = (xs.drop pre.length).drop (xs.length - pre.length - post.length) := by
              rw [List.drop_drop]; congr 1; omega
            have rl : RDs ρ X.K H (xs.drop (xs.length - post.length)) ((ys.drop pre.length).drop (ys.length + 1 - (pre.length + 1 + post.length))) := by
              rw [ed, c1]; exact (r.drop _).drop _
            obtain ⟨g3, g4⟩ := setAll_ok (rl.mono x1) (g2.set (v := .d (.lst _)) rD j) hp
            refine ⟨?_, ?_⟩
            · simp only [List.length_append, List.length_cons, List.length_nil, g3, g1]; omega
            · have := k ρ _ _ x1 rs1 g4 (by
                simp only [Ir.Tg.slots]
                have q := OnlyS.fold (pre ++ j :: post) (ys.take pre.length ++ (V.ref p :: (ys.drop pre.length).drop (ys.length + 1 - (pre.length + 1 + post.length)))) σ
                rw [foldl_zip_append _ _ _ _ _ g1.symm] at q
                exact q)
              have e2 : ys.take pre.length ++ [V.ref p] ++ (ys.drop pre.length).drop (ys.length + 1 - (pre.length + 1 + post.length)) = ys.take pre.length ++ (V.ref p :: (ys.drop pre.length).drop (ys.length + 1 - (pre.length + 1 + post.length))) := by simp
              rw [e2, foldl_zip_append _ _ _ _ _ g1.symm]
              exact this
          cases x <;> simp only [Ir.D.seq, reduceCtorEq, Option.some.injEq] at hx
          · subst hx
            obtain ⟨a, ys, rfl, t, z, r⟩ := RD.tup_inv rx
            exact main a ys rfl (.inl t.sq) z r
          · subst hx
            obtain ⟨a, ys, rfl, t, z, r⟩ := VD.of rx
            exact main a ys rfl (.inr (SqL.of t)) z r
end Snd

set_option maxHeartbeats 1000000
namespace Snd
open PySem PySem.Spec PyProof.Rows L2
/-! zip of a list and a tuple: by what each of the two iterators does -/
/-- an iterator `it` over what stands at `l`: `P k h` tells that it is at place k -/
structure ItStep (prog : Program) (w : World) (it l : Addr) (P : Nat → Heap → Prop) (xs : Array Value) : Prop where
  next : ∀ {B : Around} {F : Value → Shared → Prop} {t : Shared} {k : Nat} {x : Value} {R : Value → Shared → Prop}, P k t.heap → xs[k]? = some x → (∀ g, P (k + 1) g → Heap.SameBut it t.heap g → R x { t with heap := g }) → wpAny (model prog w) B (Builtin.SmallTypes.nextOf (.ref it)) R F t
  over : ∀ {B : Around} {F : Value → Shared → Prop} {t : Shared} {k : Nat} {R : Value → Shared → Prop}, B.handled = none → P k t.heap → xs[k]? = none → (∀ g e, Heap.ExtBut it t.heap g → (∃ o, g.get? e = some o ∧ o.cls = .type "StopIteration") → F (.ref e) { t with heap := g }) → wpAny (model prog w) B (Builtin.SmallTypes.nextOf (.ref it)) R F t
  stay : ∀ {k : Nat} {g g' : Heap}, P k g → (∀ o, g.get? it = some o → g'.get? it = some o) → (∀ o, g.get? l = some o → g'.get? l = some o) → P k g'
theorem itr_list {prog : Program} {w : World} {it l : Addr} {xs : Array Value} (ne : l ≠ it) : ItStep prog w it l (fun k h => h.IsListIter it l k ∧ h.IsList l xs) xs where
  next := fun hp hx hR => wpAny_nextOf_list_item hp.1 hp.2 hx fun g h1 h2 => hR g ⟨h1, hp.2.extBut h2.extBut ne⟩ h2
  over := fun hh hp hx hF => wpAny_nextOf_list_end hh hp.1 hp.2 hx hF
  stay := fun hp h1 h2 => ⟨hp.1.at h1, hp.2.at h2⟩
theorem itr_tuple {prog : Program} {w : World} {it l : Addr} {xs : Array Value} (ne : l ≠ it) : ItStep prog w it l (fun k h => h.IsTupleIter it l k ∧ h.IsTuple l xs) xs where
  next := fun hp hx hR => RZ.nextOf_tuple_item hp.1 hp.2 hx fun g h1 h2 => hR g ⟨h1, hp.2.extBut h2.extBut ne⟩ h2
  over := fun hh hp hx hF => RZ.nextOf_tuple_end hh hp.1 hp.2 hx hF
  stay := fun hp h1 h2 => ⟨hp.1.at h1, hp.2.at h2⟩
section
variable {prog : Program} {w : World} {A : Around} {E : Value → Shared → Prop} {s : Shared}
variable {z TI TO i1 i2 l1 l2 : Addr} {P1 P2 : Nat → Heap → Prop} {xs ys : Array Value} {a b : Value}
/-- a zip at rest, its iterators at place k -/
structure ZpAt (h : Heap) (z TI TO i1 i2 : Addr) (P1 P2 : Nat → Heap → Prop) (a b : Value) (k : Nat) : Prop where
  zz : IsZip h z TI TO .none
  ti : IsPair h TI (.ref i1) (.ref i2)
  to : IsPair h TO a b
  p1 : P1 k h
  p2 : P2 k h
theorem zm_item (S1 : ItStep prog w i1 l1 P1 xs) (S2 : ItStep prog w i2 l2 P2 ys) (D : ZipApart z TI TO i1 i2 l1 l2) {k : Nat} {x y : Value} (Z : ZpAt s.heap z TI TO i1 i2 P1 P2 a b k) (hx : xs[k]? = some x) (hy : ys[k]? = some y) {R : Value → Shared → Prop}
    (hR : ∀ g, IsZip g z TI TO (rawInt s.heap.objs.size) → IsPair g TO x y → P1 (k + 1) g → P2 (k + 1) g → IsPair g s.heap.objs.size x y → g.objs.size = s.heap.objs.size + 1 → (∀ c o, c ≠ z → c ≠ TO → c ≠ i1 → c ≠ i2 → s.heap.get? c = some o → g.get? c = some o) → R (.ref s.heap.objs.size) { s with heap := g }) :
    wpAny (model prog w) A (Builtin.«zip.__next__» ⟨[.ref z], []⟩) (fun u t => ∃ v, u = .done (.ret v) ∧ R v t) E s := by
  have hz := Z.zz; have hi := Z.ti; have ho := Z.to
  show wpAny _ _ (field (.ref z) 2 >>= _) _ _ _; refine wpAny_bind (wpAny_field hz rfl (x := .bool false) rfl ?_)
  show wpAny _ _ (field (.ref z) 3 >>= _) _ _ _; refine wpAny_bind (wpAny_field hz rfl (x := .ref TI) rfl (wpAny_bind (wpAny_seqItems hi rfl ?_)))
  show wpAny _ _ (Builtin.SmallTypes.ownedTupleIsFree (.ref z) >>= _) _ _ _; refine wpAny_bind ?_
  unfold Builtin.SmallTypes.ownedTupleIsFree; refine wpAny_bind (wpAny_field hz rfl (x := .none) rfl (wpAny_pure ?_))
  simp only [if_true]; refine wpAny_bind (wpAny_rule (wpAny_bind (wpAny_field hz rfl (x := .ref TO) rfl ?_)))
  refine wpAny_bind (wpAny_setField_rec hz (by simp) fun g1 z1 w1 => ?_); replace z1 : IsZip g1 z TI TO .ellipsis := z1
  refine wpAny_bind ?_; simp only [List.zipIdx_cons, List.zipIdx_nil, List.forIn_cons, List.forIn_nil]
  refine wpAny_bind (wpAny_bind (wpAny_onRaise ?_)); show wpAny _ _ (Builtin.SmallTypes.nextOf (.ref i1) >>= _) _ _ _
  refine wpAny_bind (S1.next (S1.stay Z.p1 (fun o q => w1.extBut _ _ D.i1z q) (fun o q => w1.extBut _ _ D.l1z q)) hx fun g2 p12 w2 => wpAny_pure ?_)
  have o2 : IsPair g2 TO a b := w2.extBut _ _ D.TOi1 (w1.extBut _ _ D.TOz ho)
  refine wpAny_bind (wpAny_seqItems o2 rfl (wpAny_bind (wpAny_updateSeq_pair o2 fun g3 o3 w3 => ?_))); replace o3 : IsPair g3 TO x b := o3
  refine wpAny_bind (wpAny_letGo (wpAny_pure ?_)); refine wpAny_bind (wpAny_bind (wpAny_onRaise ?_))
  show wpAny _ _ (Builtin.SmallTypes.nextOf (.ref i2) >>= _) _ _ _; refine wpAny_bind (S2.next (S2.stay Z.p2 (fun o q => w3.extBut _ _ D.TOi2.symm (w2.extBut _ _ D.i12.symm (w1.extBut _ _ D.i2z q))) (fun o q => w3.extBut _ _ D.l2TO (w2.extBut _ _ D.l2i1 (w1.extBut _ _ D.l2z q)))) hy fun g4 p24 w4 => wpAny_pure ?_)
  have o4 : IsPair g4 TO x b := w4.extBut _ _ D.TOi2 o3
  refine wpAny_bind (wpAny_seqItems o4 rfl (wpAny_bind (wpAny_updateSeq_pair o4 fun g5 o5 w5 => ?_))); replace o5 : IsPair g5 TO x y := o5
  refine wpAny_bind (wpAny_letGo (wpAny_pure (wpAny_pure (wpAny_bind (wpAny_seqItems o5 rfl (wpAny_bind (wpAny_newTuple ?_)))))))
  have sz : g5.objs.size = s.heap.objs.size := by rw [w5.1, w4.1, w3.1, w2.1, w1.1]
  have z5 : IsZip g5 z TI TO .ellipsis := w5.extBut _ _ D.TOz.symm (w4.extBut _ _ D.i2z.symm (w3.extBut _ _ D.TOz.symm (w2.extBut _ _ D.i1z.symm z1)))
  have k5 : ∀ c o, c ≠ z → c ≠ TO → c ≠ i1 → c ≠ i2 → s.heap.get? c = some o → g5.get? c = some o := fun c o n1 n2 n3 n4 q => w5.extBut _ _ n2 (w4.extBut _ _ n4 (w3.extBut _ _ n2 (w2.extBut _ _ n3 (w1.extBut _ _ n1 q))))
  have p15 : P1 (k + 1) g5 := S1.stay p12 (fun o q => w5.extBut _ _ D.TOi1.symm (w4.extBut _ _ D.i12 (w3.extBut _ _ D.TOi1.symm q))) (fun o q => w5.extBut _ _ D.l1TO (w4.extBut _ _ D.l1i2 (w3.extBut _ _ D.l1TO q)))
  have p25 : P2 (k + 1) g5 := S2.stay p24 (fun o q => w5.extBut _ _ D.TOi2.symm q) (fun o q => w5.extBut _ _ D.l2TO q)
  have zl : z < g5.objs.size := Heap.lt_size z5
  show wpAny _ _ (Builtin.SmallTypes.ownedTupleHandOut (.ref z) (.ref g5.objs.size) >>= _) _ _ _; refine wpAny_bind ?_
  unfold Builtin.SmallTypes.ownedTupleHandOut
  have z6 : IsZip (g5.push { cls := .type "tuple", data := .seq #[x, y] }) z TI TO .ellipsis := Heap.get?_push_of_some _ z5
  refine wpAny_bind (wpAny_setField_rec z6 (by simp) fun g7 z7 w7 => ?_); replace z7 : IsZip g7 z TI TO (rawInt g5.objs.size) := z7
  refine wpAny_setField_rec z7 (by simp) fun g8 z8 w8 => ?_; replace z8 : IsZip g8 z TI TO (rawInt g5.objs.size) := z8
  have up : ∀ c o, c ≠ z → g5.get? c = some o → g8.get? c = some o := fun c o n q => w8.extBut _ _ n (w7.extBut _ _ n (Heap.get?_push_of_some _ q))
  have t8 : IsPair g8 g5.objs.size x y := w8.extBut _ _ (Nat.ne_of_gt zl) (w7.extBut _ _ (Nat.ne_of_gt zl) (Heap.get?_push_size _ rfl))
  have s8 : g8.objs.size = g5.objs.size + 1 := by rw [w8.1, w7.1, Heap.size_push]
  rw [sz] at z8 t8 s8; refine wpAny_pure ⟨_, rfl, ?_⟩
  show R (.ref g5.objs.size) _; rw [sz]
  exact hR g8 z8 (up _ _ D.TOz o5) (S1.stay p15 (fun o q => up _ o D.i1z q) (fun o q => up _ o D.l1z q)) (S2.stay p25 (fun o q => up _ o D.i2z q) (fun o q => up _ o D.l2z q)) t8 s8 fun c o n1 n2 n3 n4 q => up c o n1 (k5 c o n1 n2 n3 n4 q)
theorem zm_end (hh : A.handled = none) (S1 : ItStep prog w i1 l1 P1 xs) (S2 : ItStep prog w i2 l2 P2 ys) (D : ZipApart z TI TO i1 i2 l1 l2) {k : Nat} (Z : ZpAt s.heap z TI TO i1 i2 P1 P2 a b k) (hend : xs[k]? = none ∨ ys[k]? = none) {R : Fin → Shared → Prop}
    (hE : ∀ g e, (∀ c o, c ≠ z → c ≠ TO → c ≠ i1 → c ≠ i2 → s.heap.get? c = some o → g.get? c = some o) → (∃ o, g.get? e = some o ∧ o.cls = .type "StopIteration") → E (.ref e) { s with heap := g }) :
    wpAny (model prog w) A (Builtin.«zip.__next__» ⟨[.ref z], []⟩) R E s := by
  have hz := Z.zz; have hi := Z.ti; have ho := Z.to
  show wpAny _ _ (field (.ref z) 2 >>= _) _ _ _; refine wpAny_bind (wpAny_field hz rfl (x := .bool false) rfl ?_)
  show wpAny _ _ (field (.ref z) 3 >>= _) _ _ _; refine wpAny_bind (wpAny_field hz rfl (x := .ref TI) rfl (wpAny_bind (wpAny_seqItems hi rfl ?_)))
  show wpAny _ _ (Builtin.SmallTypes.ownedTupleIsFree (.ref z) >>= _) _ _ _; refine wpAny_bind ?_
  unfold Builtin.SmallTypes.ownedTupleIsFree; refine wpAny_bind (wpAny_field hz rfl (x := .none) rfl (wpAny_pure ?_))
  simp only [if_true]; refine wpAny_bind (wpAny_rule (wpAny_bind (wpAny_field hz rfl (x := .ref TO) rfl ?_)))
  refine wpAny_bind (wpAny_setField_rec hz (by simp) fun g1 z1 w1 => ?_); replace z1 : IsZip g1 z TI TO .ellipsis := z1
  refine wpAny_bind ?_; simp only [List.zipIdx_cons, List.zipIdx_nil, List.forIn_cons, List.forIn_nil]
  refine wpAny_bind (wpAny_bind (wpAny_onRaise ?_)); show wpAny _ _ (Builtin.SmallTypes.nextOf (.ref i1) >>= _) _ _ _
  cases hx : xs[k]? with
  | none =>
    refine wpAny_bind (S1.over hh (S1.stay Z.p1 (fun o q => w1.extBut _ _ D.i1z q) (fun o q => w1.extBut _ _ D.l1z q)) hx fun g2 e w2 he => ?_)
    obtain ⟨oe, q1, q2⟩ := he
    have z2 : IsZip g2 z TI TO .ellipsis := w2 _ _ D.i1z.symm z1
    have ez : e ≠ z := fun x => by subst x; rw [z2] at q1; cases q1; simp at q2
    refine wpAny_setField_rec z2 (by simp) fun g3 _ w3 => hE g3 e (fun c o n1 _ n3 _ q => w3.extBut _ _ n1 (w2 _ _ n3 (w1.extBut _ _ n1 q))) ⟨oe, w3.extBut _ _ ez q1, q2⟩
  | some x =>
    have hy : ys[k]? = none := hend.elim (fun q => by rw [hx] at q; cases q) id
    refine wpAny_bind (S1.next (S1.stay Z.p1 (fun o q => w1.extBut _ _ D.i1z q) (fun o q => w1.extBut _ _ D.l1z q)) hx fun g2 p12 w2 => wpAny_pure ?_)
    have o2 : IsPair g2 TO a b := w2.extBut _ _ D.TOi1 (w1.extBut _ _ D.TOz ho)
    refine wpAny_bind (wpAny_seqItems o2 rfl (wpAny_bind (wpAny_updateSeq_pair o2 fun g3 o3 w3 => ?_)))
    refine wpAny_bind (wpAny_letGo (wpAny_pure ?_)); refine wpAny_bind (wpAny_bind (wpAny_onRaise ?_))
    show wpAny _ _ (Builtin.SmallTypes.nextOf (.ref i2) >>= _) _ _ _; refine wpAny_bind (S2.over hh (S2.stay Z.p2 (fun o q => w3.extBut _ _ D.TOi2.symm (w2.extBut _ _ D.i12.symm (w1.extBut _ _ D.i2z q))) (fun o q => w3.extBut _ _ D.l2TO (w2.extBut _ _ D.l2i1 (w1.extBut _ _ D.l2z q)))) hy fun g4 e w4 he => ?_)
    obtain ⟨oe, q1, q2⟩ := he
    have z4 : IsZip g4 z TI TO .ellipsis := w4 _ _ D.i2z.symm (w3.extBut _ _ D.TOz.symm (w2.extBut _ _ D.i1z.symm z1))
    have ez : e ≠ z := fun x => by subst x; rw [z4] at q1; cases q1; simp at q2
    refine wpAny_setField_rec z4 (by simp) fun g5 _ w5 => hE g5 e (fun c o n1 n2 n3 n4 q => w5.extBut _ _ n1 (w4 _ _ n4 (w3.extBut _ _ n2 (w2.extBut _ _ n3 (w1.extBut _ _ n1 q))))) ⟨oe, w5.extBut _ _ ez q1, q2⟩
theorem zm_next (S1 : ItStep prog w i1 l1 P1 xs) (S2 : ItStep prog w i2 l2 P2 ys) (D : ZipApart z TI TO i1 i2 l1 l2) {k : Nat} {x y : Value} (Z : ZpAt s.heap z TI TO i1 i2 P1 P2 a b k) (hx : xs[k]? = some x) (hy : ys[k]? = some y) {R : Option Value → Shared → Prop}
    (hR : ∀ g, IsZip g z TI TO (rawInt s.heap.objs.size) → IsPair g TO x y → P1 (k + 1) g → P2 (k + 1) g → IsPair g s.heap.objs.size x y → g.objs.size = s.heap.objs.size + 1 → (∀ c o, c ≠ z → c ≠ TO → c ≠ i1 → c ≠ i2 → s.heap.get? c = some o → g.get? c = some o) → R (some (.ref s.heap.objs.size)) { s with heap := g }) :
    wpAny (model prog w) A (pyNext (.ref z)) R E s := by
  have hT : s.TypeIs (.ref z) "zip" := ⟨_, Z.zz, rfl⟩; unfold pyNext
  exact wpAny_bind (wpAny_attempt (wpAny_callSpecial?_slot (name := Str.ofString "__next__") hT F.slot_zip_next (wpAny_call_entry F.slot_zip_next hT F.entry_zip_next (zm_item S1 S2 D Z hx hy fun g b1 b2 b3 b4 b5 b6 b7 => wpAny_pure (hR g b1 b2 b3 b4 b5 b6 b7)) (F.args_zip_next_1 _))))
theorem zm_stop (hh : A.handled = none) (S1 : ItStep prog w i1 l1 P1 xs) (S2 : ItStep prog w i2 l2 P2 ys) (D : ZipApart z TI TO i1 i2 l1 l2) {k : Nat} (Z : ZpAt s.heap z TI TO i1 i2 P1 P2 a b k) (hend : xs[k]? = none ∨ ys[k]? = none) {R : Option Value → Shared → Prop}
    (hR : ∀ g, (∀ c o, c ≠ z → c ≠ TO → c ≠ i1 → c ≠ i2 → s.heap.get? c = some o → g.get? c = some o) → R none { s with heap := g }) : wpAny (model prog w) A (pyNext (.ref z)) R E s := by
  have hT : s.TypeIs (.ref z) "zip" := ⟨_, Z.zz, rfl⟩; unfold pyNext
  refine wpAny_bind (wpAny_attempt (wpAny_callSpecial?_slot (name := Str.ofString "__next__") hT F.slot_zip_next (wpAny_call_entry F.slot_zip_next hT F.entry_zip_next (zm_end (A := A.in1) (show A.in1.handled = none from hh) S1 S2 D Z hend fun g e hk he => ?_) (F.args_zip_next_1 _))))
  obtain ⟨o, ho, hc⟩ := he
  exact wpAny_bind (wpAny_isInstance (T := "StopIteration") (b := true) ⟨o, ho, hc⟩ isSubtype_stop (wpAny_pure (hR _ hk)))
end
end Snd

set_option maxHeartbeats 1000000
namespace Snd
open PySem PySem.Spec PyProof.Rows L2
/-- the five objects of a new zip over a list and a tuple -/
abbrev zmA (h : Heap) (l1 : Addr) : Heap := h.push { cls := .type "list_iterator", data := .fields #[.ref l1, .int 0 0] }
abbrev zmB (h : Heap) (l1 l2 : Addr) : Heap := (zmA h l1).push { cls := .type "tuple_iterator", data := .fields #[.ref l2, .int 0 0] }
abbrev zmC (h : Heap) (l1 l2 : Addr) : Heap := (zmB h l1 l2).push { cls := .type "tuple", data := .seq #[.ref h.objs.size, .ref (zmA h l1).objs.size] }
abbrev zmD (h : Heap) (l1 l2 : Addr) : Heap := (zmC h l1 l2).push { cls := .type "tuple", data := .seq #[.none, .none] }
abbrev zmE (h : Heap) (l1 l2 : Addr) : Heap := (zmD h l1 l2).push { cls := .type "zip", data := .fields #[.none, .bool false, .bool false, .ref (zmB h l1 l2).objs.size, .ref (zmC h l1 l2).objs.size] }
theorem zm_new (l1 l2 : Addr) (xs ys : Array Value) :
    Meets (Builtin.«zip.__new__» ⟨[.type "zip", .ref l1, .ref l2], []⟩) (fun _ R s => s.heap.IsList l1 xs ∧ s.heap.IsTuple l2 ys ∧ R (.ok (.ret (.ref (zmD s.heap l1 l2).objs.size))) { s with heap := zmE s.heap l1 l2 }) :=
  .of_wp fun prog w A R s h => by
    obtain ⟨hp, g, d, tk, os⟩ := s; obtain ⟨q1, q2, h⟩ := h; have hsub := sub_zip
    have hL1 : Heap.IsList (Shared.heap ⟨hp, g, d, tk, os⟩) l1 xs := q1
    have hL2 : Heap.IsTuple (Shared.heap ⟨zmA hp l1, g, d, tk, os⟩) l2 ys := Heap.IsTuple.push q2 _
    wp_walk using wpAny_pyIter_list hL1, wpAny_pyIter_tuple hL2
    exact ⟨_, rfl, h⟩
section
variable {prog : Program} {w : World} {A : Around} {E : Value → Shared → Prop} {s : Shared}
theorem zm_call {l1 l2 : Addr} {xs ys : Array Value} {R : Value → Shared → Prop} (q1 : s.heap.IsList l1 xs) (q2 : s.heap.IsTuple l2 ys)
    (h : ∀ g, ZpAt g (s.heap.objs.size + 4) (s.heap.objs.size + 2) (s.heap.objs.size + 3) s.heap.objs.size (s.heap.objs.size + 1) (fun k h => h.IsListIter s.heap.objs.size l1 k ∧ h.IsList l1 xs) (fun k h => h.IsTupleIter (s.heap.objs.size + 1) l2 k ∧ h.IsTuple l2 ys) .none .none 0 →
      (∀ c o, s.heap.get? c = some o → g.get? c = some o) → R (.ref (s.heap.objs.size + 4)) { s with heap := g }) :
    wpAny (model prog w) A (call (.type "zip") [.ref l1, .ref l2]) R E s := by
  refine callType_new F.called_zip (by decide) (F.typeCall_zip_2 _ _) (F.newCall_zip_2 _ _) (fun obj => F.args_object_init_3 obj _ _) F.entry_zip_new (zm_new l1 l2 xs ys) ⟨q1, q2, ?_⟩
  have n1 : (zmA s.heap l1).objs.size = s.heap.objs.size + 1 := Heap.size_push ..
  have n2 : (zmB s.heap l1 l2).objs.size = s.heap.objs.size + 2 := by rw [Heap.size_push, n1]
  have n3 : (zmC s.heap l1 l2).objs.size = s.heap.objs.size + 3 := by rw [Heap.size_push, n2]
  have n4 : (zmD s.heap l1 l2).objs.size = s.heap.objs.size + 4 := by rw [Heap.size_push, n3]
  have e5 : (zmE s.heap l1 l2).get? (zmD s.heap l1 l2).objs.size = some _ := Heap.get?_push_size _ rfl
  have e4 : (zmE s.heap l1 l2).get? (zmC s.heap l1 l2).objs.size = some _ := Heap.get?_push_of_some _ (Heap.get?_push_size _ rfl)
  have e3 : (zmE s.heap l1 l2).get? (zmB s.heap l1 l2).objs.size = some _ := Heap.get?_push_of_some _ (Heap.get?_push_of_some _ (Heap.get?_push_size _ rfl))
  have e2 : (zmE s.heap l1 l2).get? (zmA s.heap l1).objs.size = some _ := Heap.get?_push_of_some _ (Heap.get?_push_of_some _ (Heap.get?_push_of_some _ (Heap.get?_push_size _ rfl)))
  have e1 : (zmE s.heap l1 l2).get? s.heap.objs.size = some _ := Heap.get?_push_of_some _ (Heap.get?_push_of_some _ (Heap.get?_push_of_some _ (Heap.get?_push_of_some _ (Heap.get?_push_size _ rfl))))
  have kp : ∀ c o, s.heap.get? c = some o → (zmE s.heap l1 l2).get? c = some o := fun c o x => Heap.get?_push_of_some _ (Heap.get?_push_of_some _ (Heap.get?_push_of_some _ (Heap.get?_push_of_some _ (Heap.get?_push_of_some _ x))))
  show _ ∧ _
  rw [n2, n3, n4] at e5; rw [n1, n2] at e3; rw [n3] at e4; rw [n1] at e2; rw [n4]
  exact ⟨⟨_, e5, rfl⟩, h _ ⟨e5, e3, e4, ⟨⟨_, e1, rfl, rfl⟩, q1.at fun o x => kp _ o x⟩, ⟨⟨_, e2, rfl, rfl⟩, q2.at fun o x => kp _ o x⟩⟩ kp⟩
end
/-- the list at a and the tuple at b as they stand at each turn -/
def ItzM (K : PySem.W.Frag) (a b : Addr) : It where
  go i H := ∃ (xs ys : List V) (x y : V), SqL K H a xs ∧ SqT K H b ys ∧ xs[i]? = some x ∧ ys[i]? = some y
  yld i H v H' := ∃ T x y, v = .ref T ∧ H T = none ∧ H' = upd H T (.tup [x, y]) ∧ (∀ xs, SqL K H a xs → xs[i]? = some x) ∧ ∀ ys, SqT K H b ys → ys[i]? = some y
  stop i H := ∃ xs ys : List V, SqL K H a xs ∧ SqT K H b ys ∧ (xs.length ≤ i ∨ ys.length ≤ i)
theorem five {c z TI TO i1 i2 : Addr} (h : c ∈ [z, TI, TO, i1, i2]) : c = z ∨ c = TI ∨ c = TO ∨ c = i1 ∨ c = i2 := by simpa using h
theorem turn_zm {P : Program} {w : World} {K : PySem.W.Frag} {elts : List Expr} {kk : Nat} {tpos : Pos} {a b z TI TO i1 i2 : Addr} (D : ZipApart z TI TO i1 i2 a b) :
    Turn P w K (.Tuple elts kk tpos) (ItzM K a b) [z, TI, TO, i1, i2] z (fun i h => IsZip h z TI TO .none ∧ IsPair h TI (.ref i1) (.ref i2) ∧ (∃ x y, IsPair h TO x y) ∧ h.IsListIter i1 a i ∧ h.IsTupleIter i2 b i) where
  mem := by simp
  obj := fun i h st c hc => by
    obtain ⟨s1, s2, ⟨x, y, s3⟩, ⟨o1, e1, _, d1⟩, ⟨o2, e2, _, d2⟩⟩ := st
    rcases five hc with rfl | rfl | rfl | rfl | rfl
    · exact ⟨_, s1, fun v q => nomatch q⟩
    · exact ⟨_, s2, fun v q => nomatch q⟩
    · exact ⟨_, s3, fun v q => nomatch q⟩
    · exact ⟨o1, e1, fun v q => by rw [d1] at q; cases q⟩
    · exact ⟨o2, e2, fun v q => by rw [d2] at q; cases q⟩
  keep := fun i h h' st k => by
    obtain ⟨s1, s2, ⟨x, y, s3⟩, s4, s5⟩ := st
    exact ⟨k z (by simp) _ s1, k TI (by simp) _ s2, ⟨x, y, k TO (by simp) _ s3⟩, s4.at fun o q => k i1 (by simp) o q, s5.at fun o q => k i2 (by simp) o q⟩
  item := by
    intro X hP hw hK hc i pins s σ H E I hf st hg
    subst hP hw hK
    obtain ⟨s1, s2, ⟨x0, y0, s3⟩, s4, s5⟩ := st
    obtain ⟨xs, ys, x, y, qx, qy, hx, hy⟩ := hg
    obtain ⟨its, rv, p, _⟩ := I.list qx
    obtain ⟨its2, rv2, p2, _⟩ := I.tuple qy
    obtain ⟨u, hu, ru⟩ := rv.get hx
    obtain ⟨u2, hu2, ru2⟩ := rv2.get hy
    have zl : z < s.heap.objs.size := Heap.lt_size s1
    have Z : ZpAt s.heap z TI TO i1 i2 (fun k h => h.IsListIter i1 a k ∧ h.IsList a its.toArray) (fun k h => h.IsTupleIter i2 b k ∧ h.IsTuple b its2.toArray) x0 y0 i := ⟨s1, s2, s3, ⟨s4, p.isList⟩, ⟨s5, p2⟩⟩
    refine zm_next (itr_list D.l1i1) (itr_tuple D.l2i2) D Z (x := u) (y := u2) (by simpa using hu) (by simpa using hu2) fun g gz gO g1 g2 gT gs gk => ?_
    refine ⟨_, rfl, wpAny_letOwnedTupleGo_zip (s := { s with heap := g }) gz fun g' z' sb => ?_⟩
    have hT2 : g'.get? s.heap.objs.size = some { cls := .type "tuple", data := .seq #[u, u2] } := (sb.2 _ (Nat.ne_of_gt zl)).trans gT
    have new : ObjOk X.prog X.w (upd H s.heap.objs.size (.tup [x, y])) g' s.heap.objs.size (.tup [x, y]) := ⟨by show 2 ≤ sizeLine; decide, [u, u2], .cons ru (.cons ru2 .nil), ⟨_, hT2, rfl, _, rfl⟩⟩
    have I1 : Inv X pins σ (upd H s.heap.objs.size (.tup [x, y])) { s with heap := g' } := I.turnedNew (t' := s.toks) (ch := [z, TI, TO, i1, i2]) (fun c o hb q => (sb.2 c (fun e => hb (by simp [e]))).trans (gk c o (fun e => hb (by simp [e])) (fun e => hb (by simp [e])) (fun e => hb (by simp [e])) (fun e => hb (by simp [e])) q)) hf (Nat.le_refl _) new
    refine ⟨.ref s.heap.objs.size, _, I1, rfl, ⟨_, x, y, rfl, I.hok.fresh (Nat.le_refl _), rfl, fun l hl => by rw [I.list_inj hl qx]; exact hx, fun l hl => by rw [I.tuple_inj hl qy]; exact hy⟩, ⟨z', (sb.2 _ D.TIz).trans (gk _ _ D.TIz D.TITO D.TIi1 D.TIi2 s2), ⟨u, u2, (sb.2 _ D.TOz).trans gO⟩, g1.1.at fun o q => (sb.2 _ D.i1z).trans q, g2.1.at fun o q => (sb.2 _ D.i2z).trans q⟩, fun c hcm => ?_⟩
    have lt : c < s.heap.objs.size := by
      rcases five hcm with rfl | rfl | rfl | rfl | rfl
      · exact zl
      · exact Heap.lt_size s2
      · exact Heap.lt_size s3
      · obtain ⟨_, q, _⟩ := s4; exact Heap.lt_size q
      · obtain ⟨_, q, _⟩ := s5; exact Heap.lt_size q
    rw [upd_ne (Nat.ne_of_lt lt)]; exact (hf c hcm).1
  done := by
    intro X hP hw hK hc i pins s σ H E I hf st hg
    subst hP hw hK
    obtain ⟨s1, s2, ⟨x0, y0, s3⟩, s4, s5⟩ := st
    obtain ⟨xs, ys, qx, qy, hend⟩ := hg
    obtain ⟨its, rv, p, _⟩ := I.list qx
    obtain ⟨its2, rv2, p2, _⟩ := I.tuple qy
    have n1 := rv.length; have n2 := rv2.length
    have Z : ZpAt s.heap z TI TO i1 i2 (fun k h => h.IsListIter i1 a k ∧ h.IsList a its.toArray) (fun k h => h.IsTupleIter i2 b k ∧ h.IsTuple b its2.toArray) x0 y0 i := ⟨s1, s2, s3, ⟨s4, p.isList⟩, ⟨s5, p2⟩⟩
    have he : its.toArray[i]? = none ∨ its2.toArray[i]? = none := hend.imp (fun q => by simp; omega) (fun q => by simp; omega)
    exact zm_stop (I.ok.hd hc) (itr_list D.l1i1) (itr_tuple D.l2i2) D Z he fun g gk => ⟨rfl, I.turnedL (t' := s.toks) (ch := [z, TI, TO, i1, i2]) (fun c o hb q => gk c o (fun e => hb (by simp [e])) (fun e => hb (by simp [e])) (fun e => hb (by simp [e])) (fun e => hb (by simp [e])) q) hf⟩
  self := fun A i s Q E st h => wpAny_pyIter_zip st.1 h
def iZipM (K : PySem.W.Frag) (ta : TA) : TI := fun σ H R => ta σ H fun vs H1 => ∃ a b xs ys, vs = [.ref a, .ref b] ∧ SqL K H1 a xs ∧ SqT K H1 b ys ∧ R (ItzM K a b) H1
theorem pi_zipM {X : Cx} {e e2 : Expr} {ta : TA} {p pos tpos : Pos} {elts : List Expr} {kk : Nat} (hg : Gl X "zip") (hm : X.mg "zip" = none) (ha : PA X [e, e2] ta) (hs : starEach [e, e2] X.env = (false, eval e X.env) :: starEach [e2] X.env := by rfl) (hpl : (backTo pos (starEach [e2] X.env)).any (·.1) = false := by rfl) :
    PI X (.Tuple elts kk tpos) (.Call (.Name "zip" p) [e, e2] [] pos) (iZipM X.K ta) := by
  refine ⟨fun pins s σ H R I h => Call_ (ld_blt I hg hm PyProof.Rows.boot_zip (PyProof.Rows.callWith_type1 (thn (ha.run pos pins s σ H _ I h) fun us s1 ⟨vs, H1, I1, r1, q1⟩ => ?_) hs hpl))⟩
  obtain ⟨a, b, xs, ys, rfl, qx, qy, q⟩ := q1
  cases r1 with
  | cons r rr =>
    cases rr with
    | cons r' rr =>
      cases rr; cases r; cases r'
      have fr : ∀ c, c ∈ [s1.heap.objs.size + 4, s1.heap.objs.size + 2, s1.heap.objs.size + 3, s1.heap.objs.size, s1.heap.objs.size + 1] → FpOk X pins H1 c := fun c hcm => by
        have le : s1.heap.objs.size ≤ c := by rcases five hcm with rfl | rfl | rfl | rfl | rfl <;> omega
        exact I1.fpOk le (I1.hok.fresh le)
      obtain ⟨its, rv, p1, _⟩ := I1.list qx
      obtain ⟨its2, rv2, p2, _⟩ := I1.tuple qy
      obtain ⟨o2, ho2, _⟩ := id p2
      refine zm_call p1.isList (show s1.heap.IsTuple b its2.toArray from p2) fun g Z hk => wpAny_pyIter_zip Z.zz ?_
      have I2 : Inv X pins σ H1 { s1 with heap := g } := I1.kept (t' := s1.toks) hk
      exact ⟨s1.heap.objs.size + 4, _, _, _, H1, rfl, I2, turn_zm (PySem.W.ktu_apart s1.heap.objs.size a b p1.lt (Heap.lt_size ho2)), ⟨Z.zz, Z.ti, ⟨_, _, Z.to⟩, Z.p1.1, Z.p2.1⟩, fr, q⟩
end Snd

namespace Snd
open PySem PySem.Spec PyProof.Rows L2
variable {X : Cx} {C : Ir.Calls}
/-! ### what is walked -/
structure Wk (K : PySem.W.Frag) (ρ0 : Rho) (H0 : Hp) (J : It) (xs : List Ir.D) : Prop where
  go : ∀ (i : Nat) (x : Ir.D) (ρ : Rho) (H : Hp) (st : Ir.Store), Ext ρ0 H0 ρ H → RS ρ K st H → xs[i]? = some x → J.go i H ∧ ∀ v H', J.yld i H v H' → Ext ρ H ρ H' ∧ RS ρ K st H' ∧ RD ρ K H' x v
  len : xs.length ≤ sizeLine
  stop : ∀ (i : Nat) (ρ : Rho) (H : Hp) (st : Ir.Store), Ext ρ0 H0 ρ H → RS ρ K st H → xs.length ≤ i → J.stop i H
theorem Wk.mono {K : PySem.W.Frag} {ρ ρ' : Rho} {H H' : Hp} {J : It} {xs : List Ir.D} (w : Wk K ρ H J xs) (e : Ext ρ H ρ' H') : Wk K ρ' H' J xs :=
  ⟨fun i x ρ1 H1 st e1 rs h => w.go i x ρ1 H1 st (e.trans e1) rs h, w.len, fun i ρ1 H1 st e1 rs h => w.stop i ρ1 H1 st (e.trans e1) rs h⟩
/-- data whose items are walked -/
def tSrc (C : Ir.Calls) (K : PySem.W.Frag) (e : Ir.Ex) : TI := fun σ H R => ∃ ρ env st p xs st', RS ρ K st H ∧ REnv ρ K H env σ ∧ Ir.eval C e env st = .ok (.d p) st' ∧ p.seq = some xs ∧ ∀ ρ' H' J, Ext ρ H ρ' H' → RS ρ' K st' H' → Wk K ρ' H' J xs → R J H'
abbrev SI (X : Cx) (C : Ir.Calls) (tg e : Expr) (ir : Ir.Ex) : Prop := PI X tg e (tSrc C X.K ir)
theorem pi_imp {tg e : Expr} {t t' : TI} (h : PI X tg e t) (w : ∀ σ H R, t' σ H R → t σ H R) : PI X tg e t' := ⟨fun pins s σ H R I q => h.run pins s σ H R I (w σ H R q)⟩
theorem pi_or {tg e : Expr} {t t' : TI} (h : PI X tg e t) (h' : PI X tg e t') : PI X tg e (fun σ H R => t σ H R ∨ t' σ H R) := ⟨fun pins s σ H R I q => by
  rcases q with q | q
  · exact h.run pins s σ H R I q
  · exact h'.run pins s σ H R I q⟩
theorem wk_list {K : PySem.W.Frag} {ρ : Rho} {H : Hp} {a : Addr} {xs : List Ir.D} {ys : List V} (h : H a = some (.lst ys)) (n : ¬ ρ.own a) (z : ys.length ≤ sizeLine) (r : RDs ρ K H xs ys) : Wk K ρ H (Itl K a) xs where
  len := by rw [r.length]; exact z
  go := fun i x ρ1 H1 st e rs hx => by
    obtain ⟨v, h1, h2⟩ := r.get hx
    have q : SqL K H1 a ys := SqL.of (e.fr _ _ h (own_no n))
    refine ⟨⟨ys, v, q, h1⟩, fun w H' hy => ?_⟩
    obtain ⟨rfl, hw⟩ := hy
    have := hw ys q
    rw [h1] at this; cases this
    exact ⟨.refl _ _, rs, h2.mono e⟩
  stop := fun i ρ1 H1 st e rs hl => ⟨ys, SqL.of (e.fr _ _ h (own_no n)), by rw [← r.length]; exact hl⟩
theorem wk_tup {K : PySem.W.Frag} {ρ : Rho} {H : Hp} {a : Addr} {xs : List Ir.D} {ys : List V} (h : TpAt ρ K H a ys) (z : ys.length ≤ sizeLine) (r : RDs ρ K H xs ys) : Wk K ρ H (Itt K a) xs where
  len := by rw [r.length]; exact z
  go := fun i x ρ1 H1 st e rs hx => by
    obtain ⟨v, h1, h2⟩ := r.get hx
    have q : SqT K H1 a ys := (h.mono e).sq
    refine ⟨⟨ys, v, q, h1⟩, fun w H' hy => ?_⟩
    obtain ⟨rfl, hw⟩ := hy
    have := hw ys q
    rw [h1] at this; cases this
    exact ⟨.refl _ _, rs, h2.mono e⟩
  stop := fun i ρ1 H1 st e rs hl => ⟨ys, (h.mono e).sq, by rw [← r.length]; exact hl⟩
theorem si_seq {tg e : Expr} {ir : Ir.Ex} (h : SE X C e ir) : SI X C tg e ir := by
  refine pi_imp (pi_or (pi_list h) (pi_tup h)) fun σ H R ⟨ρ, env, st, p, xs, st', rs, re, ev, hs, k⟩ => ?_
  cases p <;> simp only [Ir.D.seq, reduceCtorEq, Option.some.injEq] at hs
  · subst hs
    refine .inr ⟨ρ, env, st, _, st', rs, re, ev, fun ρ1 H1 X1 x1 rs1 rx => ?_⟩
    obtain ⟨a, ys, rfl, t, z, r⟩ := RD.tup_inv rx
    exact ⟨a, rfl, ⟨ys, t.sq⟩, k ρ1 H1 _ x1 rs1 (wk_tup t z r)⟩
  · subst hs
    refine .inl ⟨ρ, env, st, _, st', rs, re, ev, fun ρ1 H1 X1 x1 rs1 rx => ?_⟩
    cases rx with
    | lst h n z r => exact ⟨_, rfl, ⟨_, SqL.of h⟩, k ρ1 H1 _ x1 rs1 (wk_list h n z r)⟩
theorem wk_range {K : PySem.W.Frag} {ρ : Rho} {H : Hp} (lo : Int) (n : Nat) (z : n ≤ sizeLine) : Wk K ρ H (Itr lo n) (Ir.rangeL lo n) where
  len := by simpa [Ir.rangeL] using z
  go := fun i x ρ1 H1 st e rs hx => by
    have hi : i < n := by
      have := (List.getElem?_eq_some_iff.mp hx).1
      simpa [Ir.rangeL] using this
    have ex : x = .int (lo + (i : Nat)) := by
      simp only [Ir.rangeL, List.getElem?_map, List.getElem?_range hi, Option.map_some, Option.some.injEq] at hx
      exact hx.symm
    subst ex
    refine ⟨hi, fun w H' hy => ?_⟩
    obtain ⟨rfl, rfl⟩ := hy
    exact ⟨.refl _ _, rs, .int _⟩
  stop := fun i ρ1 H1 st e rs hl => by
    have : n ≤ i := by simpa [Ir.rangeL] using hl
    exact this
theorem si_range1 {tg e : Expr} {i : Ir.Ex} {p pos : Pos} (h : SE X C e i) (hm : X.mg (Str.ofString "range") = none) (hg : Gl X (Str.ofString "range") := by rfl) (hs : starEach [e] X.env = [(false, eval e X.env)] := by rfl) : SI X C tg (.Call (.Name (Str.ofString "range") p) [e] [] pos) (.blt .range [i]) := by
  refine pi_imp (pi_range1 hg hm (pa_cons h pa_nil hs) hs) fun σ H R ⟨ρ, env, st, q, xs, st', rs, re, ev, hseq, k⟩ => ?_
  simp only [Ir.eval, Ir.evals] at ev
  obtain ⟨vs, s1, e1, ev⟩ := bok ev
  obtain ⟨v, s2, e2, e1⟩ := bok e1
  simp only [Ir.Res.bind_ok] at e1
  cases e1
  obtain ⟨rfl, ds, r, h1, h2, h3⟩ := not_len (by decide) ev
  cases h3
  refine ⟨ρ, env, st, v, _, rs, re, e2, fun ρ1 H1 V1 x1 rs1 rv => ?_⟩
  have vd := VDs.derefs rs1 (.cons rv .nil) h1
  simp only [Ir.D.blt] at h2
  unfold Ir.D.bRange at h2
  split at h2
  · rename_i n
    split at h2
    · rename_i hn
      cases h2
      simp only [Ir.D.seq, Option.some.injEq] at hseq
      subst hseq
      cases vd with
      | cons vd t =>
        cases t
        have e0 : (Ir.LIM : Int) = 16777216 := by decide
        have e1 : sizeLine = 16777216 := by decide
        exact ⟨n, by rw [RD.int_inv vd], by omega, by omega, k ρ1 H1 _ x1 rs1 (wk_range 0 n.toNat (by omega))⟩
    · cases h2
  · cases vd with
    | cons _ t => cases t
  · cases h2
theorem si_range2 {tg e f : Expr} {i j : Ir.Ex} {p pos : Pos} (h : SE X C e i) (h' : SE X C f j) (hm : X.mg (Str.ofString "range") = none) (hg : Gl X (Str.ofString "range") := by rfl) (hs : starEach [e, f] X.env = [(false, eval e X.env), (false, eval f X.env)] := by rfl) (hs2 : starEach [f] X.env = [(false, eval f X.env)] := by rfl) : SI X C tg (.Call (.Name (Str.ofString "range") p) [e, f] [] pos) (.blt .range [i, j]) := by
  refine pi_imp (pi_range2 hg hm (pa_cons h (pa_cons h' pa_nil hs2) (by rw [hs, hs2])) hs hs2) fun σ H R ⟨ρ, env, st, q, xs, st', rs, re, ev, hseq, k⟩ => ?_
  simp only [Ir.eval, Ir.evals] at ev
  obtain ⟨vs, s1, e1, ev⟩ := bok ev
  obtain ⟨v, s2, e2, e1⟩ := bok e1
  obtain ⟨ws, s3, e3, e1⟩ := bok e1
  obtain ⟨w, s4, e4, e3⟩ := bok e3
  simp only [Ir.Res.bind_ok] at e3
  cases e3
  cases e1
  obtain ⟨rfl, ds, r, h1, h2, h3⟩ := not_len (by decide) ev
  cases h3
  refine ⟨ρ, env, st, v, _, rs, re, e2, fun ρ1 H1 V1 x1 rs1 rv => ⟨ρ1, env, _, w, _, rs1, re.mono x1, e4, fun ρ2 H2 W1 x2 rs2 rw' => ?_⟩⟩
  have vd := VDs.derefs rs2 (.cons (rv.mono x2) (.cons rw' .nil)) h1
  simp only [Ir.D.blt] at h2
  unfold Ir.D.bRange at h2
  split at h2
  · cases vd with
    | cons _ t => cases t
  · rename_i a b
    split at h2
    · rename_i hn
      cases h2
      simp only [Ir.D.seq, Option.some.injEq] at hseq
      subst hseq
      cases vd with
      | cons vd t =>
        cases t with
        | cons vd2 t =>
          cases t
          have e0 : (Ir.LIM : Int) = 16777216 := by decide
          have e1 : sizeLine = 16777216 := by decide
          exact ⟨a, b, by rw [RD.int_inv vd, RD.int_inv vd2], ⟨by omega, by omega, by omega, by omega⟩, k ρ2 H2 _ (x1.trans x2) rs2 (wk_range a (b - a).toNat (by omega))⟩
    · cases h2
  · cases h2
theorem zip_get {xs ys : List Ir.D} {i : Nat} {d : Ir.D} (h : (Ir.zipL xs ys)[i]? = some d) : ∃ x y, xs[i]? = some x ∧ ys[i]? = some y ∧ d = .tup [x, y] := by
  simp only [Ir.zipL, List.getElem?_map, Option.map_eq_some_iff] at h
  obtain ⟨p, h1, rfl⟩ := h
  rw [List.getElem?_zip_eq_some] at h1
  exact ⟨p.1, p.2, h1.1, h1.2, rfl⟩
theorem zip_len (xs ys : List Ir.D) : (Ir.zipL xs ys).length = min xs.length ys.length := by simp [Ir.zipL]
theorem wk_zip {K : PySem.W.Frag} {ρ : Rho} {H : Hp} {a b : Addr} {xs zs : List Ir.D} {ys ws : List V} (h : H a = some (.lst ys)) (n : ¬ ρ.own a) (z : ys.length ≤ sizeLine) (r : RDs ρ K H xs ys) (h' : H b = some (.lst ws)) (n' : ¬ ρ.own b) (r' : RDs ρ K H zs ws) : Wk K ρ H (Itz K a b) (Ir.zipL xs zs) where
  len := by rw [zip_len, r.length]; omega
  go := fun i d ρ1 H1 st e rs hd => by
    obtain ⟨x, y, hx, hy, rfl⟩ := zip_get hd
    obtain ⟨v, h1, h2⟩ := r.get hx
    obtain ⟨u, h3, h4⟩ := r'.get hy
    have q : SqL K H1 a ys := SqL.of (e.fr _ _ h (own_no n))
    have q' : SqL K H1 b ws := SqL.of (e.fr _ _ h' (own_no n'))
    refine ⟨⟨ys, ws, v, u, q, q', h1, h3⟩, fun w H' hw => ?_⟩
    obtain ⟨T, x', y', rfl, nT, rfl, f1, f2⟩ := hw
    have e1 := f1 ys q
    have e2 := f2 ws q'
    rw [h1] at e1; cases e1
    rw [h3] at e2; cases e2
    exact ⟨.grow rs nT _, rs.grow nT _, grow_tup rs (.cons (h2.mono e) (.cons (h4.mono e) .nil)) (by show 2 ≤ sizeLine; decide) nT⟩
  stop := fun i ρ1 H1 st e rs hl => by
    refine ⟨ys, ws, SqL.of (e.fr _ _ h (own_no n)), SqL.of (e.fr _ _ h' (own_no n')), ?_⟩
    rw [zip_len, r.length, r'.length] at hl
    omega
theorem wk_zipM {K : PySem.W.Frag} {ρ : Rho} {H : Hp} {a b : Addr} {xs zs : List Ir.D} {ys ws : List V} (h : H a = some (.lst ys)) (n : ¬ ρ.own a) (z : ys.length ≤ sizeLine) (r : RDs ρ K H xs ys) (h' : TpAt ρ K H b ws) (r' : RDs ρ K H zs ws) : Wk K ρ H (ItzM K a b) (Ir.zipL xs zs) where
  len := by rw [zip_len, r.length]; omega
  go := fun i d ρ1 H1 st e rs hd => by
    obtain ⟨x, y, hx, hy, rfl⟩ := zip_get hd
    obtain ⟨v, h1, h2⟩ := r.get hx
    obtain ⟨u, h3, h4⟩ := r'.get hy
    have q : SqL K H1 a ys := SqL.of (e.fr _ _ h (own_no n))
    have q' : SqT K H1 b ws := (h'.mono e).sq
    refine ⟨⟨ys, ws, v, u, q, q', h1, h3⟩, fun w H' hw => ?_⟩
    obtain ⟨T, x', y', rfl, nT, rfl, f1, f2⟩ := hw
    have e1 := f1 ys q
    have e2 := f2 ws q'
    rw [h1] at e1; cases e1
    rw [h3] at e2; cases e2
    exact ⟨.grow rs nT _, rs.grow nT _, grow_tup rs (.cons (h2.mono e) (.cons (h4.mono e) .nil)) (by show 2 ≤ sizeLine; decide) nT⟩
  stop := fun i ρ1 H1 st e rs hl => by
    refine ⟨ys, ws, SqL.of (e.fr _ _ h (own_no n)), (h'.mono e).sq, ?_⟩
    rw [zip_len, r.length, r'.length] at hl
    omega
theorem wk_zipT {K : PySem.W.Frag} {ρ : Rho} {H : Hp} {a b : Addr} {xs zs : List Ir.D} {ys ws : List V} (h : TpAt ρ K H a ys) (z : ys.length ≤ sizeLine) (r : RDs ρ K H xs ys) (h' : TpAt ρ K H b ws) (r' : RDs ρ K H zs ws) : Wk K ρ H (RZ.ItzT K a b) (Ir.zipL xs zs) where
  len := by rw [zip_len, r.length]; omega
  go := fun i d ρ1 H1 st e rs hd => by
    obtain ⟨x, y, hx, hy, rfl⟩ := zip_get hd
    obtain ⟨v, h1, h2⟩ := r.get hx
    obtain ⟨u, h3, h4⟩ := r'.get hy
    have q : SqT K H1 a ys := (h.mono e).sq
    have q' : SqT K H1 b ws := (h'.mono e).sq
    refine ⟨⟨ys, ws, v, u, q, q', h1, h3⟩, fun w H' hw => ?_⟩
    obtain ⟨T, x', y', rfl, nT, rfl, f1, f2⟩ := hw
    have e1 := f1 ys q
    have e2 := f2 ws q'
    rw [h1] at e1; cases e1
    rw [h3] at e2; cases e2
    exact ⟨.grow rs nT _, rs.grow nT _, grow_tup rs (.cons (h2.mono e) (.cons (h4.mono e) .nil)) (by show 2 ≤ sizeLine; decide) nT⟩
  stop := fun i ρ1 H1 st e rs hl => by
    refine ⟨ys, ws, (h.mono e).sq, (h'.mono e).sq, ?_⟩
    rw [zip_len, r.length, r'.length] at hl
    omega
/-! ### comprehensions -/
theorem si_zip {e f : Expr} {i j : Ir.Ex} {p pos tpos : Pos} {elts : List Expr} {kk : Nat} (h : SE X C e i) (h' : SE X C f j) (hm : X.mg (Str.ofString "zip") = none) (hg : Gl X (Str.ofString "zip") := by rfl) (hs : starEach [e, f] X.env = (false, eval e X.env) :: starEach [f] X.env := by rfl) (hs2 : starEach [f] X.env = (false, eval f X.env) :: starEach [] X.env := by rfl) (hpl : (backTo pos (starEach [f] X.env)).any (·.1) = false := by rfl) :
    SI X C (.Tuple elts kk tpos) (.Call (.Name (Str.ofString "zip") p) [e, f] [] pos) (.blt .zip [i, j]) := by
  refine pi_imp (pi_or (RZ.pi_zipA hg hm (pa_cons h (pa_cons h' pa_nil hs2) hs) hs hpl) (pi_zipM hg hm (pa_cons h (pa_cons h' pa_nil hs2) hs) hs hpl)) fun σ H R ⟨ρ, env, st, q, xs, st', rs, re, ev, hseq, k⟩ => ?_
  simp only [Ir.eval, Ir.evals] at ev
  obtain ⟨vs, s1, e1, ev⟩ := bok ev
  obtain ⟨v, s2, e2, e1⟩ := bok e1
  obtain ⟨ws, s3, e3, e1⟩ := bok e1
  obtain ⟨w, s4, e4, e3⟩ := bok e3
  simp only [Ir.Res.bind_ok] at e3
  cases e3
  cases e1
  obtain ⟨rfl, ds, r, h1, h2, h3⟩ := zip_inv ev
  cases h3
  have vv : ∃ p q, v = .d p ∧ w = .d q ∧ ds = [p, q] := by
    cases v <;> cases w <;> simp [Ir.asDs] at h1
    exact ⟨_, _, rfl, rfl, h1.symm⟩
  obtain ⟨p1, q1, rfl, rfl, rfl⟩ := vv
  unfold Ir.D.bZip at h2
  split at h2
  · rename_i as bs hq
    simp only [List.cons.injEq, and_true] at hq
    obtain ⟨rfl, rfl⟩ := hq
    cases h2
    simp only [Ir.D.seq, Option.some.injEq] at hseq
    subst hseq
    refine .inl ⟨ρ, env, st, _, _, rs, re, e2, fun ρ1 H1 V1 x1 rs1 rv => ⟨ρ1, env, _, _, _, rs1, re.mono x1, e4, fun ρ2 H2 W1 x2 rs2 rw' => ?_⟩⟩
    have rv2 : RD ρ2 X.K H2 (.lst as) V1 := RD.mono x2 rv
    have rw2 : RD ρ2 X.K H2 (.lst bs) W1 := rw'
    cases rv2 with
    | lst g1 g2 g3 g4 =>
      cases rw2 with
      | lst f1 f2 f3 f4 => exact ⟨_, _, _, _, rfl, .inl ⟨SqL.of g1, SqL.of f1, k ρ2 H2 _ (x1.trans x2) rs2 (wk_zip g1 g2 g3 g4 f1 f2 f4)⟩⟩
  · rename_i as bs hq
    simp only [List.cons.injEq, and_true] at hq
    obtain ⟨rfl, rfl⟩ := hq
    cases h2
    simp only [Ir.D.seq, Option.some.injEq] at hseq
    subst hseq
    refine .inl ⟨ρ, env, st, _, _, rs, re, e2, fun ρ1 H1 V1 x1 rs1 rv => ⟨ρ1, env, _, _, _, rs1, re.mono x1, e4, fun ρ2 H2 W1 x2 rs2 rw' => ?_⟩⟩
    have rv2 : RD ρ2 X.K H2 (.tup as) V1 := RD.mono x2 rv
    have rw2 : RD ρ2 X.K H2 (.tup bs) W1 := rw'
    obtain ⟨a, ys, rfl, t, z, r⟩ := RD.tup_inv rv2
    obtain ⟨b, zs, rfl, t', z', r'⟩ := RD.tup_inv rw2
    exact ⟨_, _, _, _, rfl, .inr ⟨t.sq, t'.sq, k ρ2 H2 _ (x1.trans x2) rs2 (wk_zipT t z r t' r')⟩⟩
  · rename_i as bs hq
    simp only [List.cons.injEq, and_true] at hq
    obtain ⟨rfl, rfl⟩ := hq
    cases h2
    simp only [Ir.D.seq, Option.some.injEq] at hseq
    subst hseq
    refine .inr ⟨ρ, env, st, _, _, rs, re, e2, fun ρ1 H1 V1 x1 rs1 rv => ⟨ρ1, env, _, _, _, rs1, re.mono x1, e4, fun ρ2 H2 W1 x2 rs2 rw' => ?_⟩⟩
    have rv2 : RD ρ2 X.K H2 (.lst as) V1 := RD.mono x2 rv
    have rw2 : RD ρ2 X.K H2 (.tup bs) W1 := rw'
    obtain ⟨b, zs, rfl, t', z', r'⟩ := RD.tup_inv rw2
    cases rv2 with
    | lst g1 g2 g3 g4 => exact ⟨_, _, _, _, rfl, SqL.of g1, t'.sq, k ρ2 H2 _ (x1.trans x2) rs2 (wk_zipM g1 g2 g3 g4 t' r')⟩
  · cases h2
/-! ### comprehensions -/
theorem sc_nil : SCs X C [] [] := pts_imp pts_nil fun σ H Q ⟨ρ, env, st, b, st', rs, re, ev, k⟩ => by
  simp only [Ir.conds] at ev; cases ev; exact k ρ H (.refl _ _) rs
theorem sc_one {e : Expr} {i : Ir.Ex} (h : ST X C e i) : SCs X C [e] [i] := pts_imp (pts_one h) fun σ H Q ⟨ρ, env, st, b, st', rs, re, ev, k⟩ => by
  simp only [Ir.conds] at ev
  obtain ⟨x, s1, e1, ev⟩ := bok ev
  obtain ⟨c, e2, ev2⟩ := ook ev
  obtain rfl := asB_ok e2
  have : b = c ∧ st' = s1 := by
    split at ev2
    · rename_i hc
      cases ev2
      exact ⟨hc.symm, rfl⟩
    · rename_i hc
      cases ev2
      exact ⟨by simpa using hc, rfl⟩
  obtain ⟨rfl, rfl⟩ := this
  exact ⟨ρ, env, st, b, st', rs, re, e1, k⟩
theorem wipe_get (σ : L2.St) (i : Nat) : ∀ vs : List Nat, (L2.wipe σ vs)[i]? = if i ∈ vs then (σ[i]?).map (fun _ => none) else σ[i]?
  | [] => by simp [L2.wipe]
  | v :: vs => by
    simp only [L2.wipe]
    by_cases e : v = i
    · subst e
      rw [List.getElem?_set, L2.wipe_length]
      simp only [if_true, List.mem_cons, true_or]
      by_cases h : v < σ.length
      · rw [if_pos h, List.getElem?_eq_getElem h]; rfl
      · rw [if_neg h, List.getElem?_eq_none (by omega)]; rfl
    · rw [List.getElem?_set_ne e, wipe_get σ i vs]
      have : i ∈ v :: vs ↔ i ∈ vs := by simp [Ne.symm e]
      simp only [this]
theorem wipe_idem (σ : L2.St) (vs : List Nat) : L2.wipe (L2.wipe σ vs) vs = L2.wipe σ vs := by
  apply List.ext_getElem?
  intro i
  rw [wipe_get, wipe_get]
  split
  · cases σ[i]? <;> rfl
  · rfl
/-- the turns of a comprehension -/
theorem comp_core {K : PySem.W.Frag} {J : It} {xs : List Ir.D} {tg : Ir.Tg} {cs : List Ir.Ex} {elt : Ir.Ex} {σ : L2.St} {env : Ir.Env} {ρ1 : Rho} {H1 : Hp} {s3 s8 : Ir.Store} {ys : List Ir.D} {D : Addr} {Qd : Hp → Prop} (rs1 : RS ρ1 K s3 H1) (re1 : REnv ρ1 K H1 env σ) (wk : Wk K ρ1 H1 J xs) (hD : H1 D = none)
    (ev : Ir.compL (Ir.compStep (Ir.eval C elt) (Ir.conds C cs) tg (Ir.wipe env tg.slots)) xs s3 = .ok ys s8)
    (k : ∀ ρ' H' zs, Ext ρ1 H1 ρ' H' → RS ρ' K s8 H' → D ∈ ρ'.res → H' D = some (.lst zs) → zs.length ≤ sizeLine → RDs ρ' K H' ys zs → Qd H') :
    ∃ W : Nat → Nat → Hp → Prop, (∃ m, W 0 m (upd H1 D (.lst []))) ∧ ∀ i m H, W i m H →
      (J.stop i H ∧ Qd H) ∨ (J.go i H ∧ ∃ Nx : Hp → Prop, (∀ H', Nx H' → ∃ m', m' < m ∧ W (i + 1) m' H') ∧ ∀ x H', J.yld i H x H' → tG K tg x (L2.wipe σ tg.slots) H' fun σ2 H2 => L2.wipe σ2 tg.slots = L2.wipe σ tg.slots ∧ tICs C K cs σ2 H2 fun b H3 =>
        if b = true then tI C K elt σ2 H3 fun y H4 => ∃ acc, H4 D = some (.lst acc) ∧ acc.length < sizeLine ∧ Nx (upd H4 D (.lst (acc ++ [y]))) else Nx H3) := by
  -- between the turns: D holds what is made so far; the rest of the run is known
  refine ⟨fun i m H => ∃ ρ st acc done rest, Ext ρ1 H1 ρ H ∧ RS ρ K st H ∧ D ∈ ρ.res ∧ H D = some (.lst acc) ∧ RDs ρ K H done acc ∧ acc.length ≤ i ∧ i ≤ xs.length ∧ m = xs.length - i ∧ ys = done ++ rest ∧
      Ir.compL (Ir.compStep (Ir.eval C elt) (Ir.conds C cs) tg (Ir.wipe env tg.slots)) (xs.drop i) st = .ok rest s8,
    ⟨xs.length, ρ1.keep D, s3, [], [], ys, .keep rs1 hD _, rs1.keep hD _, List.mem_cons_self, upd_same, .nil, Nat.zero_le _, Nat.zero_le _, by omega, rfl, ev⟩, ?_⟩
  rintro i m H ⟨ρ, st, acc, done, rest, x1, rs, hres, hacc, rd, hl, hi, rfl, rfl, ec⟩
  by_cases hlt : i < xs.length
  · have hx : xs[i]? = some xs[i] := List.getElem?_eq_getElem hlt
    have hdrop : xs.drop i = xs[i] :: xs.drop (i + 1) := List.drop_eq_getElem_cons hlt
    rw [hdrop] at ec
    simp only [Ir.compL] at ec
    obtain ⟨oy, s1, e1, ec⟩ := bok ec
    obtain ⟨rest1, s2, e2, ec⟩ := bok ec
    unfold Ir.compStep at e1
    obtain ⟨env1, e3, e1⟩ := ook e1
    obtain ⟨b, s5, e4, e1⟩ := bok e1
    obtain ⟨go, yl⟩ := wk.go i _ ρ H st x1 rs hx
    refine .inr ⟨go, fun H' => ∃ m', m' < xs.length - i ∧ ∃ ρ st acc done rest, Ext ρ1 H1 ρ H' ∧ RS ρ K st H' ∧ D ∈ ρ.res ∧ H' D = some (.lst acc) ∧ RDs ρ K H' done acc ∧ acc.length ≤ i + 1 ∧ i + 1 ≤ xs.length ∧ m' = xs.length - (i + 1) ∧ _ = done ++ rest ∧ _, fun H' h => h, fun v H2 hy => ?_⟩
    obtain ⟨x2, rs2, rx⟩ := yl v H2 hy
    have hacc2 : H2 D = some (.lst acc) := x2.fr _ _ hacc (rs.disj D hres)
    refine ⟨ρ, _, st, _, env1, rs2, ((re1.mono (x1.trans x2)).wipe tg.slots), rx, e3, fun ρ3 H3 σ3 x3 rs3 re3 on => ⟨?_, ρ3, env1, st, b, s5, rs3, re3, e4, fun ρ4 H4 x4 rs4 => ?_⟩⟩
    · have := on tg.slots fun _ q => q
      rw [this, wipe_idem]
    have hres3 : D ∈ ρ3.res := x3.rs D hres
    have hacc3 : H3 D = some (.lst acc) := x3.fr _ _ hacc2 (rs2.disj D hres)
    have hres4 : D ∈ ρ4.res := x4.rs D hres3
    have hacc4 : H4 D = some (.lst acc) := x4.fr _ _ hacc3 (rs3.disj D hres3)
    have x14 : Ext ρ1 H1 ρ4 H4 := ((x1.trans x2).trans x3).trans x4
    cases b with
    | false =>
      simp only [Bool.false_eq_true, if_false] at e1 ⊢
      cases e1
      simp only at ec
      cases ec
      exact ⟨xs.length - (i + 1), by omega, ρ4, _, acc, done, _, x14, rs4, hres4, hacc4, ((rd.mono x2).mono x3).mono x4, by omega, hlt, rfl, rfl, e2⟩
    | true =>
      simp only [if_true] at e1 ⊢
      obtain ⟨z, s6, e5, e1⟩ := bok e1
      obtain ⟨d, e6, e1⟩ := ook e1
      obtain rfl := asD_ok e6
      cases e1
      simp only at ec
      cases ec
      refine ⟨ρ4, env1, s5, _, _, rs4, re3.mono x4, e5, fun ρ5 H5 Y x5 rs5 ry => ?_⟩
      have hres5 : D ∈ ρ5.res := x5.rs D hres4
      have hacc5 : H5 D = some (.lst acc) := x5.fr _ _ hacc4 (rs4.disj D hres4)
      have hlen := wk.len
      refine ⟨acc, hacc5, by omega, xs.length - (i + 1), by omega, ρ5, _, acc ++ [Y], done ++ [d], _, (x14.trans x5).aside hD, rs5.aside hres5, hres5, upd_same, ?_, ?_, hlt, rfl, by simp, e2⟩
      · exact RDs.aside hres5 (((((rd.mono x2).mono x3).mono x4).mono x5).append (.cons ry .nil))
      · rw [List.length_append]; simp; omega
  · have e : i = xs.length := by omega
    subst e
    rw [List.drop_length] at ec
    simp only [Ir.compL] at ec
    cases ec
    rw [List.append_nil] at k
    have hlen := wk.len
    exact .inl ⟨wk.stop _ ρ H _ x1 rs (Nat.le_refl _), k ρ H acc x1 rs hres hacc (by omega) rd⟩
end Snd

namespace Snd
open PySem PySem.Spec PyProof.Rows L2
variable {X : Cx} {C : Ir.Calls}
/-! ### comprehensions -/
theorem tLc_of {K : PySem.W.Frag} {elt it : Ir.Ex} {tg : Ir.Tg} {cs : List Ir.Ex} {vs : List Nat} (hvs : vs = tg.slots) : ∀ σ H Q, tN C K (.comp elt tg it cs) σ H Q → tLc (tSrc C K it) (tG K tg) (tICs C K cs) (tI C K elt) vs σ H Q := by
  intro σ H Q ⟨ρ, env, st, ys, st', rs, re, ev, k⟩
  subst hvs
  simp only [Ir.eval] at ev
  obtain ⟨x, s1, e1, ev⟩ := bok ev
  obtain ⟨p, e2, ev1⟩ := ook ev
  clear ev
  obtain ⟨xs, e3, ev2⟩ := ook ev1
  clear ev1
  obtain ⟨zs, s8, e4, ev3⟩ := bok ev2
  clear ev2
  obtain rfl := asD_ok e2
  cases ev3
  exact ⟨ρ, env, st, p, xs, s1, rs, re, e1, e3, fun ρ1 H1 J x1 rs1 wk D hD => comp_core rs1 (re.mono x1) wk hD e4 fun ρ' H' ws x2 rs2 hr hh z r => k ρ' H' D ws (x1.trans x2) rs2 (x1.al D hD) hr hh z r⟩
theorem is_comp {elt it : Ir.Ex} {tg : Ir.Tg} {cs : List Ir.Ex} : ∀ env st v st', Ir.eval C (.comp elt tg it cs) env st = .ok v st' → ∃ xs, v = .d (.lst xs) := fun env st v st' ev => by
  simp only [Ir.eval] at ev
  obtain ⟨x, s1, e1, ev⟩ := bok ev
  obtain ⟨p, e2, ev⟩ := ook ev
  obtain ⟨xs, e3, ev⟩ := ook ev
  obtain ⟨zs, s8, e4, ev⟩ := bok ev
  cases ev
  exact ⟨_, rfl⟩
theorem sn_comp {elt tg iter : Expr} {ifs : List Expr} {scope : Scope} (own : List (Str × Nat)) {pos : Pos} {ie it : Ir.Ex} {t : Ir.Tg} {cs : List Ir.Ex} (hc : X.calm = true) (hN : X.N.Nodup) (hi : SI X C tg iter it) (ok : BlkOk X.N X.env.scope scope own)
    (hg : ∀ (s : Shared) (H : Hp) (Cc : Addr) (cl : List (Str × Addr)) (fp : List Addr), SG (X.blk s H scope (compEnvC scope cl Cc X.env) fp) tg t) (ht : ∀ (s : Shared) (H : Hp) (Cc : Addr) (cl : List (Str × Addr)) (fp : List Addr), SCs (X.blk s H scope (compEnvC scope cl Cc X.env) fp) C ifs cs)
    (he : ∀ (s : Shared) (H : Hp) (Cc : Addr) (cl : List (Str × Addr)) (fp : List Addr), SE (X.blk s H scope (compEnvC scope cl Cc X.env) fp) C elt ie) (hvs : own.map (·.2) = t.slots := by rfl) (hs : ∀ x, foldedSetIterable iter X.env x = pure x := by intro _; rfl) :
    SN X C (.ListComp elt [⟨tg, iter, ifs, 0⟩] scope pos) (.comp ie t it cs) := pe_imp (pe_lc hc hN hi ok hg ht he hs) (tLc_of hvs)
/-! ### statements -/
def Post (K : PySem.W.Frag) (D : Ends) (ρ : Rho) (H : Hp) (st' : Ir.Store) : Ir.Out → Prop
  | .nx env' => ∀ ρ' H' σ', Ext ρ H ρ' H' → RS ρ' K st' H' → REnv ρ' K H' env' σ' → D.nx σ' H'
  | .ret v => ∀ ρ' H' x, Ext ρ H ρ' H' → RS ρ' K st' H' → RV ρ' K H' v x → D.rt x H'
  | .brk env' => ∀ ρ' H' σ', Ext ρ H ρ' H' → RS ρ' K st' H' → REnv ρ' K H' env' σ' → D.bk σ' H'
  | .cnt env' => ∀ ρ' H' σ', Ext ρ H ρ' H' → RS ρ' K st' H' → REnv ρ' K H' env' σ' → D.ct σ' H'
theorem Post.mono {K : PySem.W.Frag} {D : Ends} {ρ ρ1 : Rho} {H H1 : Hp} {st' : Ir.Store} {o : Ir.Out} (x : Ext ρ H ρ1 H1) (h : Post K D ρ H st' o) : Post K D ρ1 H1 st' o := by
  cases o with
  | nx e => exact fun ρ' H' σ' x1 rs re => h ρ' H' σ' (x.trans x1) rs re
  | ret v => exact fun ρ' H' σ' x1 rs re => h ρ' H' σ' (x.trans x1) rs re
  | brk e => exact fun ρ' H' σ' x1 rs re => h ρ' H' σ' (x.trans x1) rs re
  | cnt e => exact fun ρ' H' σ' x1 rs re => h ρ' H' σ' (x.trans x1) rs re
def tS1 (C : Ir.Calls) (K : PySem.W.Frag) (s : Ir.Stm) : TS := fun D σ H => ∃ ρ env st o st', RS ρ K st H ∧ REnv ρ K H env σ ∧ Ir.exec C s env st = .ok o st' ∧ Post K D ρ H st' o
def tS (C : Ir.Calls) (K : PySem.W.Frag) (s : List Ir.Stm) : TS := fun D σ H => ∃ ρ env st o st', RS ρ K st H ∧ REnv ρ K H env σ ∧ Ir.execs C s env st = .ok o st' ∧ Post K D ρ H st' o
abbrev SS (X : Cx) (C : Ir.Calls) (st : Stmt) (s : Ir.Stm) : Prop := PS X st (tS1 C X.K s)
abbrev SSs (X : Cx) (C : Ir.Calls) (st : List Stmt) (s : List Ir.Stm) : Prop := PSs X st (tS C X.K s)
theorem ps_imp {st : Stmt} {t t' : TS} (h : PS X st t) (w : ∀ D σ H, t' D σ H → t D σ H) : PS X st t' := ⟨fun pins s σ H D I q => h.run pins s σ H D I (w D σ H q)⟩
theorem pss_imp {st : List Stmt} {t t' : TS} (h : PSs X st t) (w : ∀ D σ H, t' D σ H → t D σ H) : PSs X st t' := ⟨fun pins s σ H D I q => h.run pins s σ H D I (w D σ H q)⟩
theorem ps_or {st : Stmt} {t t' : TS} (h : PS X st t) (h' : PS X st t') : PS X st (fun D σ H => t D σ H ∨ t' D σ H) := ⟨fun pins s σ H D I q => by
  rcases q with q | q
  · exact h.run pins s σ H D I q
  · exact h'.run pins s σ H D I q⟩
theorem ss_nil : SSs X C [] [] := pss_imp pss_nil fun D σ H ⟨ρ, env, st, o, st', rs, re, ev, k⟩ => by
  simp only [Ir.execs] at ev
  cases ev
  exact k ρ H σ (.refl _ _) rs re
theorem ss_cons {st : Stmt} {rest : List Stmt} {s : Ir.Stm} {ss : List Ir.Stm} (h1 : SS X C st s) (h2 : SSs X C rest ss) : SSs X C (st :: rest) (s :: ss) := by
  refine pss_imp (pss_cons h1 h2) fun D σ H ⟨ρ, env, st, o, st', rs, re, ev, k⟩ => ?_
  simp only [Ir.execs] at ev
  obtain ⟨o1, s1, e1, ev⟩ := bok ev
  refine ⟨ρ, env, st, o1, s1, rs, re, e1, ?_⟩
  cases o1 with
  | nx env1 => exact fun ρ' H' σ' x1 rs1 re1 => ⟨ρ', env1, s1, o, st', rs1, re1, ev, k.mono x1⟩
  | ret v => simp only at ev; cases ev; exact k
  | brk v => simp only at ev; cases ev; exact k
  | cnt v => simp only at ev; cases ev; exact k
theorem ss_pass {pos : Pos} : SS X C (.Pass pos) .pass := ps_imp ps_pass fun D σ H ⟨ρ, env, st, o, st', rs, re, ev, k⟩ => by
  simp only [Ir.exec] at ev; cases ev; exact k ρ H σ (.refl _ _) rs re
theorem ss_brk {pos : Pos} : SS X C (.Break pos) .brk := ps_imp ps_break fun D σ H ⟨ρ, env, st, o, st', rs, re, ev, k⟩ => by
  simp only [Ir.exec] at ev; cases ev; exact k ρ H σ (.refl _ _) rs re
theorem ss_cnt {pos : Pos} : SS X C (.Continue pos) .cnt := ps_imp ps_continue fun D σ H ⟨ρ, env, st, o, st', rs, re, ev, k⟩ => by
  simp only [Ir.exec] at ev; cases ev; exact k ρ H σ (.refl _ _) rs re
theorem ss_never {st : Stmt} : SS X C st .never := ps_imp ps_never fun D σ H ⟨ρ, env, st, o, st', rs, re, ev, k⟩ => by
  simp only [Ir.exec] at ev; cases ev
theorem ss_ex {e : Expr} {i : Ir.Ex} {pos : Pos} (h : SE X C e i) (hs : swapsWith e none pos.line X.env = pure false := by rfl) : SS X C (.Expr e pos) (.ex i) := ps_imp (ps_expr h hs) fun D σ H ⟨ρ, env, st, o, st', rs, re, ev, k⟩ => by
  simp only [Ir.exec] at ev
  obtain ⟨v, s1, e1, ev⟩ := bok ev
  cases ev
  exact ⟨ρ, env, st, v, _, rs, re, e1, fun ρ1 H1 x x1 rs1 rx => k ρ1 H1 σ x1 rs1 (re.mono x1)⟩
theorem ss_ret {e : Expr} {i : Ir.Ex} {pos : Pos} (h : SE X C e i) : SS X C (.Return (some e) pos) (.ret i) := ps_imp (ps_ret h) fun D σ H ⟨ρ, env, st, o, st', rs, re, ev, k⟩ => by
  simp only [Ir.exec] at ev
  obtain ⟨v, s1, e1, ev⟩ := bok ev
  cases ev
  exact ⟨ρ, env, st, v, _, rs, re, e1, fun ρ1 H1 x x1 rs1 rx => k ρ1 H1 x x1 rs1 rx⟩
theorem ss_if {c : Expr} {a b : List Stmt} {ic : Ir.Ex} {ia ib : List Ir.Stm} {pos : Pos} (hc : ST X C c ic) (ha : SSs X C a ia) (hb : SSs X C b ib) : SS X C (.If c a b pos) (.ite ic ia ib) := by
  refine ps_imp (ps_if hc ha hb) fun D σ H ⟨ρ, env, st, o, st', rs, re, ev, k⟩ => ?_
  simp only [Ir.exec] at ev
  obtain ⟨x, s1, e1, ev⟩ := bok ev
  obtain ⟨c, e2, ev2⟩ := ook ev
  obtain rfl := asB_ok e2
  refine ⟨ρ, env, st, c, s1, rs, re, e1, fun ρ1 H1 x1 rs1 => ?_⟩
  cases c with
  | true =>
    simp only [if_true] at ev2 ⊢
    exact ⟨ρ1, env, s1, o, st', rs1, re.mono x1, ev2, k.mono x1⟩
  | false =>
    simp only [Bool.false_eq_true, if_false] at ev2 ⊢
    exact ⟨ρ1, env, s1, o, st', rs1, re.mono x1, ev2, k.mono x1⟩
theorem ss_set (i : Nat) {x : Str} {e : Expr} {ie : Ir.Ex} {pos pos' : Pos} (hN : X.N.Nodup) (he : SE X C e ie) (hx : Loc X.env.scope x := by first | exact .inl rfl | exact .inr rfl) (hi : X.N[i]? = some x := by rfl) (hs : swapsWith e (some (.Name x pos')) pos.line X.env = pure false := by rfl) (hf : X.fn x = true ∨ X.env.scope.names.lookup x = some .local := by first | exact .inl rfl | exact .inr rfl | assumption) :
    SS X C (.Assign [.Name x pos'] e pos) (.asg (.name i) ie) := by
  refine ps_imp (ps_set hN hi hx he hs hf) fun D σ H ⟨ρ, env, st, o, st', rs, re, ev, k⟩ => ?_
  simp only [Ir.exec] at ev
  obtain ⟨v, s1, e1, ev⟩ := bok ev
  obtain ⟨env1, e2, ev⟩ := ook ev
  cases ev
  simp only [Ir.Tg.putV, Option.some.injEq] at e2
  subst e2
  exact ⟨ρ, env, st, v, _, rs, re, e1, fun ρ1 H1 x x1 rs1 rx => k ρ1 H1 _ x1 rs1 ((re.mono x1).set rx i)⟩
theorem ss_setLc (i : Nat) {y : Str} {py : Pos} {elt tg iter : Expr} {ifs : List Expr} {scope : Scope} (own : List (Str × Nat)) {pos spos : Pos} {ie it ir : Ir.Ex} {t : Ir.Tg} {cs : List Ir.Ex} (hw : ∀ σ H Q, tI C X.K ir σ H Q → tN C X.K (.comp ie t it cs) σ H Q) (hc : X.calm = true) (hN : X.N.Nodup) (hi : SI X C tg iter it) (ok : BlkOk X.N X.env.scope scope own)
    (hg : ∀ (s : Shared) (H : Hp) (Cc : Addr) (cl : List (Str × Addr)) (fp : List Addr), SG (X.blk s H scope (compEnvC scope cl Cc X.env) fp) tg t) (ht : ∀ (s : Shared) (H : Hp) (Cc : Addr) (cl : List (Str × Addr)) (fp : List Addr), SCs (X.blk s H scope (compEnvC scope cl Cc X.env) fp) C ifs cs)
    (he : ∀ (s : Shared) (H : Hp) (Cc : Addr) (cl : List (Str × Addr)) (fp : List Addr), SE (X.blk s H scope (compEnvC scope cl Cc X.env) fp) C elt ie)
    (hsw : swapsWith (.ListComp elt [⟨tg, iter, ifs, 0⟩] scope pos) (some (.Name y py)) spos.line X.env = pure true) (hyl : X.env.scope.names.lookup y = some .local := by rfl) (hy : X.N[i]? = some y := by rfl) (hvs : own.map (·.2) = t.slots := by rfl) (hs : ∀ x, foldedSetIterable iter X.env x = pure x := by intro _; rfl) :
    SS X C (.Assign [.Name y py] (.ListComp elt [⟨tg, iter, ifs, 0⟩] scope pos) spos) (.asg (.name i) ir) := by
  refine ps_imp (ps_setLc (g := tG X.K t) (tt := tICs C X.K cs) (te := tI C X.K ie) hc hN hy hyl hsw hi ok hg ht he hs) fun D σ H ⟨ρ, env, st, o, st', rs, re, ev, k⟩ => ?_
  simp only [Ir.exec] at ev
  obtain ⟨v, s1, e1, ev⟩ := bok ev
  obtain ⟨env1, e2, ev⟩ := ook ev
  cases ev
  simp only [Ir.Tg.putV, Option.some.injEq] at e2
  subst e2
  refine tLc_of hvs σ H _ (hw σ H _ ⟨ρ, env, st, v, _, rs, re, e1, fun ρ1 H1 x x1 rs1 rx => ?_⟩)
  exact k ρ1 H1 _ x1 rs1 ((re.mono x1).set rx i)
theorem ss_asg {tg e : Expr} {t : Ir.Tg} {ie : Ir.Ex} {pos : Pos} (he : SE X C e ie) (hg : SG X tg t) (hn : ∀ i, t ≠ .name i := by intro i h; cases h) (hs : swapsWithSole [tg] e pos.line X.env = pure false := by rfl) (hw : swappedStores [tg] e X.env = pure none := by rfl) (h1 : (assignEach [tg] X.env).map (·.2) = [assign tg X.env] := by rfl) :
    SS X C (.Assign [tg] e pos) (.asg t ie) := by
  refine ps_imp (ps_asg he hg hs hw h1) fun D σ H ⟨ρ, env, st, o, st', rs, re, ev, k⟩ => ?_
  simp only [Ir.exec] at ev
  obtain ⟨v, s1, e1, ev⟩ := bok ev
  obtain ⟨env1, e2, ev⟩ := ook ev
  cases ev
  refine ⟨ρ, env, st, v, _, rs, re, e1, fun ρ1 H1 x x1 rs1 rx => ?_⟩
  cases v with
  | ref n => cases t <;> simp [Ir.Tg.putV] at e2; exact absurd rfl (hn _)
  | d y =>
    have e3 : t.put y env = some env1 := by
      cases t with
      | name i => exact absurd rfl (hn i)
      | tup ts => exact e2
      | star a b c => exact e2
    exact ⟨ρ1, env, _, y, env1, rs1, re.mono x1, rx, e3, fun ρ2 H2 σ2 x2 rs2 re2 _ => k ρ2 H2 σ2 (x1.trans x2) rs2 re2⟩
theorem ss_par (i j : Nat) {x y : Str} {a b : Expr} {ia ib : Ir.Ex} {px py pt pos : Pos} {kt k2 pt2} (hc : X.calm = true) (hN : X.N.Nodup) (ha : SE X C a ia) (hb : SE X C b ib)
    (hw : swappedStores [.Tuple [.Name x px, .Name y py] kt pt] (.Tuple [a, b] k2 pt2) X.env = pure (some [x, y]) := by rfl) (hij : i ≠ j := by decide) (hi : X.N[i]? = some x := by rfl) (hj : X.N[j]? = some y := by rfl)
    (hx : X.env.scope.names.lookup x = some .local := by rfl) (hy : X.env.scope.names.lookup y = some .local := by rfl)
    (hst : starEach [a, b] X.env = (false, eval a X.env) :: starEach [b] X.env := by rfl) (hst2 : starEach [b] X.env = (false, eval b X.env) :: starEach [] X.env := by rfl)
    (hs : swapsWithSole [.Tuple [.Name x px, .Name y py] kt pt] (.Tuple [a, b] k2 pt2) pos.line X.env = pure false := by rfl) :
    SS X C (.Assign [.Tuple [.Name x px, .Name y py] kt pt] (.Tuple [a, b] k2 pt2) pos) (.par i j ia ib) := by
  refine ps_imp (ps_par hc hN hi hj hij hx hy (pa_cons ha (pa_cons hb pa_nil hst2) hst) hw hs) fun D σ H ⟨ρ, env, st, o, st', rs, re, ev, k⟩ => ?_
  simp only [Ir.exec] at ev
  obtain ⟨v, s1, e1, ev⟩ := bok ev
  obtain ⟨u, s2, e2, ev⟩ := bok ev
  cases ev
  exact tI_two rs re e1 e2 fun ρ1 H1 X Y x1 rs1 rx ry => ⟨X, Y, rfl, k ρ1 H1 _ x1 rs1 (((re.mono x1).set rx i).set ry j)⟩
theorem ip_addI : PIp X .Add (ipI fun i j => i + j) := ip_add
theorem ss_aug (i : Nat) {x : Str} {e : Expr} {ie : Ir.Ex} {op : Operator} {o : Ir.Op} {g : Int → Int → Int} {pos pos' : Pos} (hN : X.N.Nodup) (ho : PIp X op (ipI g)) (hg : ∀ p q r, Ir.augI o p q = some r → r = g p q) (he : SE X C e ie) (hx : Loc X.env.scope x := by first | exact .inl rfl | exact .inr rfl) (hi : X.N[i]? = some x := by rfl) (hf : X.fn x = true ∨ X.env.scope.names.lookup x = some .local := by first | exact .inl rfl | exact .inr rfl | assumption) :
    SS X C (.AugAssign (.Name x pos') op e pos) (.aug i o ie) := by
  refine ps_imp (ps_aug hN hi hx he ho hf) fun D σ H ⟨ρ, env, st, ou, st', rs, re, ev, k⟩ => ?_
  simp only [Ir.exec] at ev
  split at ev
  · rename_i w hw
    obtain ⟨y, s1, e1, ev1⟩ := bok ev
    clear ev
    obtain ⟨p, e2, ev2⟩ := ook ev1
    clear ev1
    obtain ⟨q, e3, ev3⟩ := ook ev2
    clear ev2
    obtain ⟨r, e4, ev4⟩ := ook ev3
    clear ev3
    obtain rfl := asI_ok e2
    obtain rfl := asI_ok e3
    cases ev4
    obtain rfl := hg _ _ _ e4
    obtain ⟨z, h1, h2⟩ := re.2 i _ hw
    refine ⟨z, h1, ρ, env, st, _, _, rs, re, e1, fun ρ1 H1 Y x1 rs1 ry => ⟨p, q, RD.int_inv h2, RD.int_inv ry, k ρ1 H1 _ x1 rs1 ((re.mono x1).set (v := .d (.int _)) (.int _) i)⟩⟩
  · cases ev
theorem aug_add : ∀ p q r, Ir.augI .add p q = some r → r = p + q := fun p q r h => by simp [Ir.augI] at h; exact h.symm
theorem aug_sub : ∀ p q r, Ir.augI .sub p q = some r → r = p - q := fun p q r h => by simp [Ir.augI] at h; exact h.symm
/-- o[i] = e, a list or a dict -/
theorem ss_sub {o i e : Expr} {io ii ie : Ir.Ex} {pos pos' : Pos} {n : Nat} (hr : Room n X.A) (he : SE X C e ie) (ho : SE X C o io) (hi : SE X C i ii) (hs : swapsWithSole [.Subscript o i pos'] e pos.line X.env = pure false := by rfl) (hs2 : swapsWith e (some (.Subscript o i pos')) pos.line X.env = pure false := by rfl) (hw : swappedStores [.Subscript o i pos'] e X.env = pure none := by rfl) (h1 : (assignEach [.Subscript o i pos'] X.env).map (·.2) = [assign (.Subscript o i pos') X.env] := by rfl)
    (hasg : ∀ v, assign (.Subscript o i pos') X.env v = (do
      let ov ← holding [v] (eval o X.env)
      let iv ← holding [v, ov] (eval i X.env)
      standAt pos'
      holding [v, ov, iv] (setItem ov iv v)
      release [v, ov, iv] []) := by intro _; rfl) :
    SS X C (.Assign [.Subscript o i pos'] e pos) (.set io ii ie) := by
  refine ps_imp (ps_or (ps_asg he (pg_sub ho hi set_list hasg) hs hw h1) (ps_dput (hu_of hr) ho hi he hs2)) fun D σ H ⟨ρ, env, st, ou, st', rs, re, ev, k⟩ => ?_
  simp only [Ir.exec] at ev
  obtain ⟨v, s1, e1, ev⟩ := bok ev
  obtain ⟨x, s2, e2, ev⟩ := bok ev
  obtain ⟨y, s3, e3, ev⟩ := bok ev
  obtain ⟨d, e4, ev4⟩ := ook ev
  clear ev
  obtain ⟨s5, e5, ev5⟩ := ook ev4
  clear ev4
  obtain rfl := asD_ok e4
  cases ev5
  cases x with
  | d _ => simp [Ir.setV] at e5
  | ref m =>
    by_cases hd : ∃ kvs, s3[m]? = some (.dic kvs)
    · obtain ⟨kvs, hk⟩ := hd
      refine .inr ⟨ρ, env, st, _, s1, rs, re, e1, fun ρ1 H1 V1 x1 rs1 rv => ⟨ρ1, env, s1, _, s2, rs1, re.mono x1, e2, fun ρ2 H2 O x2 rs2 ro => ⟨ρ2, env, s2, y, s3, rs2, re.mono (x1.trans x2), e3, fun ρ3 H3 Y x3 rs3 ry => ?_⟩⟩⟩
      obtain ⟨a, rfl, h1, ks, h2, h3, h4⟩ := RV.cell rs3 (ro.mono x3) hk (by simp)
      cases y with
      | ref _ => simp [Ir.setV] at e5
      | d key =>
        have hkey : key.key = true ∧ kvs.length < Ir.LIM ∧ st' = s3.set m (.dic (Ir.putK kvs key d)) := by
          cases key <;> simp [Ir.setV, hk] at e5
          · exact ⟨rfl, e5.1, e5.2.symm⟩
          · exact ⟨rfl, e5.1, e5.2.symm⟩
        obtain ⟨hk1, hk2, rfl⟩ := hkey
        obtain ⟨k', hk3, rfl⟩ := RK.kv ry hk1
        have hlen : ks.length < sizeLine := by rw [← h4.length, ← lim_eq]; exact hk2
        have w : Ext ρ3 H3 ρ3 (upd H3 a (.dK (L2.putK ks k' V1))) := .write rs3 h1 _
        refine ⟨a, _, rfl, .k h2 hlen, ?_⟩
        refine k ρ3 _ _ (((x1.trans x2).trans x3).trans w) (rs3.write h1 ⟨_, upd_same, ?_, (h4.mono w).put hk3 (((rv.mono x2).mono x3).mono w)⟩) ((re.mono ((x1.trans x2).trans x3)).mono w)
        have := length_putK ks k' V1
        omega
    · refine .inl ⟨ρ, env, st, _, s1, rs, re, e1, fun ρ1 H1 V1 x1 rs1 rv => ⟨ρ1, env, s1, _, s2, rs1, re.mono x1, e2, fun ρ2 H2 O x2 rs2 ro => ⟨ρ2, env, s2, y, s3, rs2, re.mono (x1.trans x2), e3, fun ρ3 H3 Y x3 rs3 ry => ?_⟩⟩⟩
      cases y with
      | ref _ => simp [Ir.setV] at e5
      | d key =>
        cases key <;> simp only [Ir.setV, reduceCtorEq] at e5
        · rename_i z
          split at e5
          · rename_i xs hx
            simp only [Option.map_eq_some_iff] at e5
            obtain ⟨q, hq, rfl⟩ := e5
            obtain ⟨a, rfl, h1, ys, h2, h3, h4⟩ := RV.cell rs3 (ro.mono x3) hx (by simp)
            have w : Ext ρ3 H3 ρ3 (upd H3 a (.lst (ys.set q V1))) := .write rs3 h1 _
            refine ⟨a, ys, z, q, rfl, RD.int_inv ry, h2, by rw [← h4.length]; exact hq, ?_⟩
            exact k ρ3 _ _ (((x1.trans x2).trans x3).trans w) (rs3.write h1 ⟨_, upd_same, by rw [List.length_set]; exact h3, (h4.mono w).set (((rv.mono x2).mono x3).mono w) q⟩) ((re.mono ((x1.trans x2).trans x3)).mono w)
          · rename_i kvs hk
            exact absurd ⟨kvs, hk⟩ hd
          · cases e5
        · split at e5
          · rename_i kvs hk
            exact absurd ⟨kvs, hk⟩ hd
          · cases e5
end Snd

namespace Snd
open PySem PySem.Spec PyProof.Rows L2
variable {X : Cx} {C : Ir.Calls}
/-! ### loops -/
theorem ss_for {tg iter : Expr} {body : List Stmt} {t : Ir.Tg} {it : Ir.Ex} {ib : List Ir.Stm} {pos : Pos} (hp : PassesOwn (model X.prog X.w) X.A X.env X.xe) (hc : X.calm = true) (hi : SI X C tg iter it) (hg : SG X tg t) (hb : SSs X C body ib)
    (hs : ∀ x, foldedSetIterable iter X.env x = pure x := by intro _; rfl) : SS X C (.For tg iter body [] pos) (.loop t it ib) := by
  refine ps_imp (ps_for hp hc hi hg hb hs) fun D σ H ⟨ρ, env, st, o, st', rs, re, ev, k⟩ => ?_
  simp only [Ir.exec] at ev
  obtain ⟨x, s1, e1, ev1⟩ := bok ev
  clear ev
  obtain ⟨p, e2, ev2⟩ := ook ev1
  clear ev1
  obtain ⟨xs, e3, ev3⟩ := ook ev2
  clear ev2
  obtain rfl := asD_ok e2
  refine ⟨ρ, env, st, p, xs, s1, rs, re, e1, e3, fun ρ1 H1 J x1 rs1 wk => ?_⟩
  refine ⟨fun i m σ H' => ∃ ρ' env' st2, Ext ρ1 H1 ρ' H' ∧ RS ρ' X.K st2 H' ∧ REnv ρ' X.K H' env' σ ∧ i ≤ xs.length ∧ m = xs.length - i ∧ Ir.loopL t.putF (Ir.execs C ib) (xs.drop i) env' st2 = .ok o st',
    ⟨xs.length, ρ1, env, s1, .refl _ _, rs1, re.mono x1, Nat.zero_le _, by omega, ev3⟩, ?_⟩
  rintro i m σ2 H2 ⟨ρ2, env2, st2, x2, rs2, re2, hi2, rfl, el⟩
  by_cases hlt : i < xs.length
  · have hx : xs[i]? = some xs[i] := List.getElem?_eq_getElem hlt
    rw [List.drop_eq_getElem_cons hlt] at el
    simp only [Ir.loopL, Ir.Tg.putF_eq] at el
    obtain ⟨env3, e4, el1⟩ := ook el
    clear el
    obtain ⟨o1, s3, e5, el2⟩ := bok el1
    clear el1
    obtain ⟨go, yl⟩ := wk.go i _ ρ2 H2 st2 x2 rs2 hx
    refine .inr ⟨go, fun σ' H' => ∃ m', m' < xs.length - i ∧ ∃ ρ' env' st2, Ext ρ1 H1 ρ' H' ∧ RS ρ' X.K st2 H' ∧ REnv ρ' X.K H' env' σ' ∧ i + 1 ≤ xs.length ∧ m' = xs.length - (i + 1) ∧ Ir.loopL t.putF (Ir.execs C ib) (xs.drop (i + 1)) env' st2 = .ok o st', fun σ' H' h => h, fun v H3 hy => ?_⟩
    obtain ⟨x3, rs3, rx⟩ := yl v H3 hy
    refine ⟨ρ2, env2, st2, _, env3, rs3, re2.mono x3, rx, e4, fun ρ4 H4 σ4 x4 rs4 re4 _ => ⟨ρ4, env3, st2, o1, s3, rs4, re4, e5, ?_⟩⟩
    have x14 : Ext ρ1 H1 ρ4 H4 := (x2.trans x3).trans x4
    cases o1 with
    | nx env5 => exact fun ρ5 H5 σ5 x5 rs5 re5 => ⟨xs.length - (i + 1), by omega, ρ5, env5, s3, x14.trans x5, rs5, re5, hlt, rfl, el2⟩
    | cnt env5 => exact fun ρ5 H5 σ5 x5 rs5 re5 => ⟨xs.length - (i + 1), by omega, ρ5, env5, s3, x14.trans x5, rs5, re5, hlt, rfl, el2⟩
    | brk env5 =>
      simp only at el2
      cases el2
      exact fun ρ5 H5 σ5 x5 rs5 re5 => k ρ5 H5 σ5 ((x1.trans x14).trans x5) rs5 re5
    | ret w =>
      simp only at el2
      cases el2
      exact fun ρ5 H5 σ5 x5 rs5 re5 => k ρ5 H5 σ5 ((x1.trans x14).trans x5) rs5 re5
  · have e : i = xs.length := by omega
    subst e
    rw [List.drop_length] at el
    simp only [Ir.loopL] at el
    cases el
    exact .inl ⟨wk.stop _ ρ2 H2 _ x2 rs2 (Nat.le_refl _), k ρ2 H2 σ2 (x1.trans x2) rs2 re2⟩
theorem ss_while {c : Expr} {body : List Stmt} {ic : Ir.Ex} {ib : List Ir.Stm} {pos : Pos} (hp : PassesOwn (model X.prog X.w) X.A X.env X.xe) (hc : ST X C c ic) (hb : SSs X C body ib) : SS X C (.While c body [] pos) (.while ic ib) := by
  refine ps_imp (ps_while hp hc hb) fun D σ H ⟨ρ, env, st, o, st', rs, re, ev, k⟩ => ?_
  simp only [Ir.exec] at ev
  obtain ⟨nW, ev⟩ := Ir.whileU_ok ev
  refine ⟨fun m σ H' => ∃ ρ' env' st2, Ext ρ H ρ' H' ∧ RS ρ' X.K st2 H' ∧ REnv ρ' X.K H' env' σ ∧ Ir.whileL (Ir.condB (Ir.eval C ic)) (Ir.execs C ib) m env' st2 = .ok o st',
    ⟨nW, ρ, env, st, .refl _ _, rs, re, ev⟩, ?_⟩
  rintro m σ2 H2 ⟨ρ2, env2, st2, x2, rs2, re2, el⟩
  cases m with
  | zero => simp only [Ir.whileL] at el; cases el
  | succ m =>
    simp only [Ir.whileL] at el
    obtain ⟨b, s1, e1, el1⟩ := bok el
    clear el
    unfold Ir.condB at e1
    obtain ⟨x, s1', e2, e3⟩ := bok e1
    obtain ⟨e4, rfl⟩ := Ir.optR_ok e3
    obtain rfl := asB_ok e4
    refine ⟨ρ2, env2, st2, b, s1, rs2, re2, e2, fun ρ3 H3 x3 rs3 => ?_⟩
    cases b with
    | false =>
      simp only [Bool.false_eq_true, if_false] at el1 ⊢
      cases el1
      exact k ρ3 H3 σ2 (x2.trans x3) rs3 (re2.mono x3)
    | true =>
      simp only [if_true] at el1 ⊢
      obtain ⟨o1, s3, e5, el2⟩ := bok el1
      clear el1
      refine ⟨fun σ' H' => ∃ m', m' < m + 1 ∧ ∃ ρ' env' st2, Ext ρ H ρ' H' ∧ RS ρ' X.K st2 H' ∧ REnv ρ' X.K H' env' σ' ∧ Ir.whileL (Ir.condB (Ir.eval C ic)) (Ir.execs C ib) m' env' st2 = .ok o st', fun σ' H' h => h, ρ3, env2, s1, o1, s3, rs3, re2.mono x3, e5, ?_⟩
      have x13 := x2.trans x3
      cases o1 with
      | nx env5 => exact fun ρ5 H5 σ5 x5 rs5 re5 => ⟨m, Nat.lt_succ_self m, ρ5, env5, s3, x13.trans x5, rs5, re5, el2⟩
      | cnt env5 => exact fun ρ5 H5 σ5 x5 rs5 re5 => ⟨m, Nat.lt_succ_self m, ρ5, env5, s3, x13.trans x5, rs5, re5, el2⟩
      | brk env5 =>
        simp only at el2
        cases el2
        exact fun ρ5 H5 σ5 x5 rs5 re5 => k ρ5 H5 σ5 (x13.trans x5) rs5 re5
      | ret w =>
        simp only at el2
        cases el2
        exact fun ρ5 H5 σ5 x5 rs5 re5 => k ρ5 H5 σ5 (x13.trans x5) rs5 re5
/-! ### a def -/
theorem take_rs {ρ ρ1 : Rho} {K : PySem.W.Frag} {st1 : Ir.Store} {H H1 : Hp} (x : Ext ρ H ρ1 H1) (rs1 : RS ρ1 K st1 H1) : RS ⟨ρ1.ix.take ρ.ix.length, ρ.res⟩ K (st1.take ρ.ix.length) H1 ∧ Ext ρ H ⟨ρ1.ix.take ρ.ix.length, ρ.res⟩ H1 ∧ ∀ b, Rho.own ⟨ρ1.ix.take ρ.ix.length, ρ.res⟩ b → ρ1.own b := by
  have sub : ∀ b, Rho.own ⟨ρ1.ix.take ρ.ix.length, ρ.res⟩ b → ρ1.own b := fun b q => by
    rcases q with q | q
    · exact .inl (List.mem_of_mem_take q)
    · exact .inr (x.rs b q)
  have key : ∀ (n : Nat) (o : Option Addr), (ρ1.ix.take ρ.ix.length)[n]? = some o → n < ρ.ix.length ∧ ρ1.ix[n]? = some o := fun n o h => by
    rw [List.getElem?_take] at h
    split at h
    · exact ⟨by assumption, h⟩
    · cases h
  refine ⟨⟨?_, fun i j a hi hj => rs1.inj i j a (key i _ hi).2 (key j _ hj).2, fun n a hn => ?_, fun n hn => ?_, fun a ha => rs1.kept a (x.rs a ha), fun a ha q => rs1.disj a (x.rs a ha) (List.mem_of_mem_take q)⟩, ⟨x.fr, fun b q => ?_, ?_, fun n a q hl => x.ix n a (key n _ q).2 hl, fun _ q => q, fun a ha hn q => x.rn a ha hn (List.mem_of_mem_take q), x.al⟩, sub⟩
  · simp [rs1.len]
  · obtain ⟨h1, h2⟩ := key n _ hn
    obtain ⟨c, h3, h4⟩ := rs1.cell n a h2
    exact ⟨c, by rw [List.getElem?_take_of_lt h1]; exact h3, h4.sub sub⟩
  · obtain ⟨h1, h2⟩ := key n _ hn
    rw [List.getElem?_take_of_lt h1]
    exact rs1.dd n h2
  · rcases q with q | q
    · exact x.nw b (.inl (List.mem_of_mem_take q))
    · exact .inl (.inr q)
  · have := x.len
    simp
    omega
/-- the first m, and one more behind them -/
theorem pick_rs {ρ ρ1 : Rho} {K : PySem.W.Frag} {st1 : Ir.Store} {H H1 : Hp} {n : Nat} {oa : Option Addr} {c : Ir.Cell} (x : Ext ρ H ρ1 H1) (rs1 : RS ρ1 K st1 H1) (hn : ρ.ix.length ≤ n) (ho : ρ1.ix[n]? = some oa) (hc : st1[n]? = some c) :
    RS ⟨ρ1.ix.take ρ.ix.length ++ [oa], ρ.res⟩ K (st1.take ρ.ix.length ++ [c]) H1 ∧ Ext ρ H ⟨ρ1.ix.take ρ.ix.length ++ [oa], ρ.res⟩ H1 := by
  have hx := x.len
  have hlt : (ρ1.ix.take ρ.ix.length).length = ρ.ix.length := by simp; omega
  have hls : (st1.take ρ.ix.length).length = ρ.ix.length := by rw [List.length_take, rs1.len]; omega
  have mem : ∀ b : Addr, some b ∈ ρ1.ix.take ρ.ix.length ++ [oa] → some b ∈ ρ1.ix := fun b q => by
    rcases List.mem_append.mp q with q | q
    · exact List.mem_of_mem_take q
    · simp at q; rw [← q] at ho; exact List.mem_of_getElem? ho
  have sub : ∀ b, Rho.own ⟨ρ1.ix.take ρ.ix.length ++ [oa], ρ.res⟩ b → ρ1.own b := fun b q => by
    rcases q with q | q
    · exact .inl (mem b q)
    · exact .inr (x.rs b q)
  have key : ∀ (i : Nat) (o : Option Addr), (ρ1.ix.take ρ.ix.length ++ [oa])[i]? = some o → (i < ρ.ix.length ∧ ρ1.ix[i]? = some o) ∨ (i = ρ.ix.length ∧ o = oa) := fun i o hi => by
    by_cases hl : i < ρ.ix.length
    · rw [List.getElem?_append_left (by omega), List.getElem?_take_of_lt hl] at hi
      exact .inl ⟨hl, hi⟩
    · rw [List.getElem?_append_right (by omega), hlt] at hi
      cases z : i - ρ.ix.length with
      | zero => rw [z] at hi; simp at hi; exact .inr ⟨by omega, hi.symm⟩
      | succ k => rw [z] at hi; simp at hi
  have at1 : ∀ i : Nat, i < ρ.ix.length → (st1.take ρ.ix.length ++ [c])[i]? = st1[i]? := fun i hi => by
    rw [List.getElem?_append_left (by omega), List.getElem?_take_of_lt hi]
  have at2 : (st1.take ρ.ix.length ++ [c])[ρ.ix.length]? = some c := by
    rw [List.getElem?_append_right (by omega), hls]; simp
  refine ⟨⟨by simp [rs1.len], fun i j a hi hj => ?_, fun m a hm => ?_, fun m hm => ?_, fun a ha => rs1.kept a (x.rs a ha), fun a ha q => rs1.disj a (x.rs a ha) (mem a q)⟩, ⟨x.fr, fun b q => ?_, by simp; omega, fun m a q hl => ?_, fun _ q => q, fun a ha hn2 q => x.rn a ha hn2 (mem a q), x.al⟩⟩
  · rcases key i _ hi with ⟨h1, h2⟩ | ⟨h1, h2⟩ <;> rcases key j _ hj with ⟨h3, h4⟩ | ⟨h3, h4⟩
    · exact rs1.inj i j a h2 h4
    · rw [← h4] at ho
      have := rs1.inj i n a h2 ho
      omega
    · rw [← h2] at ho
      have := rs1.inj n j a ho h4
      omega
    · omega
  · rcases key m _ hm with ⟨h1, h2⟩ | ⟨h1, h2⟩
    · obtain ⟨c', h3, h4⟩ := rs1.cell m a h2
      exact ⟨c', (at1 m h1).trans h3, h4.sub sub⟩
    · rw [← h2] at ho
      obtain ⟨c', h3, h4⟩ := rs1.cell n a ho
      rw [hc] at h3; cases h3
      subst h1
      exact ⟨c, at2, h4.sub sub⟩
  · rcases key m _ hm with ⟨h1, h2⟩ | ⟨h1, h2⟩
    · exact (at1 m h1).trans (rs1.dd m h2)
    · rw [← h2] at ho
      have := rs1.dd n ho
      rw [hc] at this; cases this
      subst h1
      exact at2
  · rcases q with q | q
    · exact x.nw b (.inl (mem b q))
    · exact .inl (.inr q)
  · rcases key m _ q with ⟨h1, h2⟩ | ⟨h1, h2⟩
    · exact x.ix m a h2 hl
    · omega
theorem leave_ok {ρ ρ1 : Rho} {K : PySem.W.Frag} {st1 st' : Ir.Store} {H H1 : Hp} {v v' : Ir.Val} {y : V} (x : Ext ρ H ρ1 H1) (rs1 : RS ρ1 K st1 H1) (rv : RV ρ1 K H1 v y) (h : Ir.leave ρ.ix.length v st1 = .ok v' st') : ∃ ρ', Ext ρ H ρ' H1 ∧ RS ρ' K st' H1 ∧ RV ρ' K H1 v' y := by
  obtain ⟨t1, t2, sub⟩ := take_rs x rs1
  cases v with
  | d z =>
    simp only [Ir.leave] at h
    cases h
    exact ⟨_, t2, t1, RD.sub sub rv⟩
  | ref n =>
    simp only [Ir.leave] at h
    obtain ⟨h1, a, h2, h3⟩ := rv
    have hx := x.len
    split at h
    · rename_i hn
      cases h
      refine ⟨_, t2, t1, ?_, a, h2, fun b hb => h3 b ?_⟩
      · simp; omega
      · have hb : (ρ1.ix.take ρ.ix.length)[n]? = some (some b) := hb
        rw [List.getElem?_take_of_lt hn] at hb
        exact hb
    · rename_i hn
      split at h
      · rename_i c hc
        cases h
        have ho : ρ1.ix[n]? = some ρ1.ix[n] := List.getElem?_eq_getElem h1
        obtain ⟨q1, q2⟩ := pick_rs x rs1 (by omega) ho hc
        have hlt : (ρ1.ix.take ρ.ix.length).length = ρ.ix.length := by simp; omega
        refine ⟨_, q2, q1, by simp; omega, a, h2, fun b hb => h3 b ?_⟩
        have hb : (ρ1.ix.take ρ.ix.length ++ [ρ1.ix[n]])[ρ.ix.length]? = some (some b) := hb
        rw [List.getElem?_append_right (by omega), hlt] at hb
        simp at hb
        rw [ho, hb]
      · cases h
theorem start_ok {ρ : Rho} {K : PySem.W.Frag} {H : Hp} {N : List Str} {args : List Ir.Val} {vs : List V} (h : RVs ρ K H args vs) (m : Nat) (hm : m = N.length) : REnv ρ K H (args.map some ++ List.replicate (m - args.length) none) (L2.start N vs) := by
  subst hm
  have hl := h.length
  refine ⟨by simp [L2.start, hl], fun i v q => ?_⟩
  have gen : ∀ {args : List Ir.Val} {vs : List V}, RVs ρ K H args vs → ∀ (i : Nat) (v : Ir.Val), (args.map some)[i]? = some (some v) → ∃ x, (vs.map some)[i]? = some (some x) ∧ RV ρ K H v x := by
    intro args vs h
    induction h with
    | nil => intro i v q; simp at q
    | cons a r ih =>
      intro i v q
      cases i with
      | zero => simp at q; subst q; exact ⟨_, rfl, a⟩
      | succ i => simpa using ih i v (by simpa using q)
  by_cases hi : i < args.length
  · rw [List.getElem?_append_left (by simpa using hi)] at q
    obtain ⟨x, h1, h2⟩ := gen h i v q
    refine ⟨x, ?_, h2⟩
    unfold L2.start
    rw [List.getElem?_append_left (by simp; omega)]
    exact h1
  · rw [List.getElem?_append_right (by simp; omega)] at q
    rw [List.getElem?_replicate] at q
    split at q <;> simp at q
theorem fn_ok {P : Program} {w : World} {K : PySem.W.Frag} {mg : Str → Option Value} {base : Heap} {x qual : Str} {st : Stmt} {f : Addr} {fd : FuncData} {N ps : List Str} {T : Ir.Tab} {n : Nat} {name : String} {fn : Ir.Fn}
    (F : Fun K x qual st f fd) (S : FnScope N ps (defScope st)) (hT : T name = some fn) (hp : fn.pars = ps.length) (hN : fn.many = N.length)
    (hb : ∀ (cdv : Value) (A : Around) (outer : List Env) (s : Shared) (H : Hp) (E : XK), Room n (A.deeper (envOfC qual (defScope st) s.heap.objs.size f cdv)) → SSs (cxOf CX0 P w K mg base N qual (defScope st) f cdv A outer s H E).nox (Ir.callN T n) (defBody st) fn.body) :
    FnOk P w K mg base CX0 (n + 1) f fd ps (spI T (n + 1) K name) := by
  refine F.ok S (fun vs H Q E h => ?_) (fun cdv A outer s H vs Q E hr h => ?_)
  · obtain ⟨ρ, st, args, v, st', rs, ra, ev, k⟩ := h
    simp only [Ir.callN, hT, Ir.runFn] at ev
    split at ev
    · rename_i hc
      rw [← ra.length, hc.1, hp]
    · cases ev
  · obtain ⟨ρ, st, args, v, st', rs, ra, ev, k⟩ := h
    refine ⟨_, hb cdv A outer s H E hr, ?_⟩
    simp only [Ir.callN, hT, Ir.runFn] at ev
    split at ev
    · rename_i hc
      obtain ⟨o, s1, e1, ev1⟩ := bok ev
      have re := start_ok (N := N) ra fn.many hN
      rw [hc.1] at re
      refine ⟨ρ, _, st, o, s1, rs, re, e1, ?_⟩
      have hlen : st.length = ρ.ix.length := rs.len
      cases o with
      | nx env' =>
        intro ρ1 H1 σ1 x1 rs1 _
        rw [hlen] at ev1
        obtain ⟨ρ', x2, rs2, rv2⟩ := leave_ok (v := .d .non) (y := V.non) x1 rs1 RD.non ev1
        exact k ρ' H1 _ x2 rs2 rv2
      | ret u =>
        intro ρ1 H1 y x1 rs1 ry
        rw [hlen] at ev1
        obtain ⟨ρ', x2, rs2, rv2⟩ := leave_ok x1 rs1 ry ev1
        exact k ρ' H1 _ x2 rs2 rv2
      | brk _ => simp only at ev1; cases ev1
      | cnt _ => simp only at ev1; cases ev1
    · cases ev
theorem ft_zero {T : Ir.Tab} {KW : List Kw} {P : Program} {w : World} {K : PySem.W.Frag} {mg : Str → Option Value} {base : Heap} (h : ∀ f fn, T f = some fn → ∃ a fd ps, mg (Str.ofString f) = some (.ref a) ∧ PySem.W.keepIn K (.ref a) = true ∧ Binds K fd ps [] ∧ ∀ q ∈ KW, q.1 = f → KwOk K fd ps q) : FT T KW 0 P w K mg base := ⟨fun f fn hT => by
  obtain ⟨a, fd, ps, h1, h2, h3⟩ := h f fn hT
  have no : ∀ vs H Q E, ¬ spI T 0 K f vs H Q E := fun vs H Q E ⟨ρ, st, args, v, st', rs, ra, ev, k⟩ => by simp only [Ir.callN] at ev; cases ev
  exact ⟨a, fd, ps, ⟨fun vs H Q E h => absurd h (no vs H Q E), fun A outer s H args us vs Q E _ _ _ _ h => absurd h (no vs H Q E)⟩, h1, h2, h3⟩⟩
/-! ### the law's own call -/
theorem law_sp {T : Ir.Tab} {n : Nat} {K : PySem.W.Frag} {H : Hp} {a : Addr} {ns : List Int} (hO : Only H) (hS : SqL K H a (ns.map V.int)) (hl : ns.length ≤ 63) {st' : Ir.Store} (ev : Ir.callN T n "law" [.d (.ro (ns.map Ir.D.int))] [] = .ok (.d (.bool true)) st') :
    spI T n K "law" [.ref a] H (fun v _ => v = .bl true) fun _ _ _ => False := by
  have r : RDs ⟨[], []⟩ K H (ns.map Ir.D.int) (ns.map V.int) := by
    clear hl ev hS
    induction ns with
    | nil => exact .nil
    | cons i r ih => exact .cons (.int i) ih
  have hla : LrAt ⟨[], []⟩ K H a (ns.map V.int) := by
    rcases hS with h | h
    · rcases h with h | ⟨o, h⟩
      · rcases hO a with q | ⟨o, xs, q⟩
        · rw [q] at h; cases h
        · rw [q] at h; cases h
      · exact .inl ⟨⟨o, h⟩, by rintro (q | q) <;> simp at q⟩
    · exact .inr h
  have hz : (ns.map V.int).length ≤ sizeLine := by
    rw [List.length_map]
    exact Nat.le_trans hl (by decide)
  refine ⟨⟨[], []⟩, [], [.d (.ro (ns.map Ir.D.int))], _, st', ⟨rfl, fun i j b h => by simp at h, fun m b h => by simp at h, fun m h => by simp at h, fun b h => by simp at h, fun b h => by simp at h⟩, .cons (show RV _ K H (.d (.ro (ns.map Ir.D.int))) (.ref a) from RD.ro hla hz r) .nil, ev, fun ρ' H' x _ _ rx => RD.bool_inv rx⟩
end Snd

namespace Snd
open PySem PySem.Spec PyProof.Rows L2
/-! ### the built-in names -/
theorem bv_len : bootBuiltins (Str.ofString "len") = some (.builtin "len") := by decide +kernel
theorem bv_abs : bootBuiltins (Str.ofString "abs") = some (.builtin "abs") := by decide +kernel
theorem bv_all : bootBuiltins (Str.ofString "all") = some (.builtin "all") := by decide +kernel
theorem bv_any : bootBuiltins (Str.ofString "any") = some (.builtin "any") := by decide +kernel
theorem bv_sum : bootBuiltins (Str.ofString "sum") = some (.builtin "sum") := by decide +kernel
theorem bv_min : bootBuiltins (Str.ofString "min") = some (.builtin "min") := by decide +kernel
theorem bv_max : bootBuiltins (Str.ofString "max") = some (.builtin "max") := by decide +kernel
theorem bv_tuple : bootBuiltins (Str.ofString "tuple") = some (.type "tuple") := by decide +kernel
theorem bv_list : bootBuiltins (Str.ofString "list") = some (.type "list") := by decide +kernel
theorem bv_int : bootBuiltins (Str.ofString "int") = some (.type "int") := by decide +kernel
theorem bv_bool : bootBuiltins (Str.ofString "bool") = some (.type "bool") := by decide +kernel
theorem bv_str : bootBuiltins (Str.ofString "str") = some (.type "str") := by decide +kernel
theorem fun_kw {K : PySem.W.Frag} {x qual : Str} {st : Stmt} {f : Addr} {fd : FuncData} {ps : List Str} (F : Fun K x qual st f fd) (q : Kw)
    (h : ∀ (kV doc pm : Value) (an : Option Addr) (cdv ct : Value) (us ws : List Value), us.length = q.2.1 → ws.length = q.2.2.1.length → bindArgs (PySem.W.fnOf x qual (defArgs st) (defBody st) (defScope st) .none kV doc pm an cdv ct) ⟨us, q.2.2.1.zip ws⟩ = pure (ps.zip (permV q.2.2.2 (us ++ ws)))) : KwOk K fd ps q := by
  obtain ⟨oc, od, kV, doc, pm, an, cdv, ct, osl, rfl, lk, hcd⟩ := F.ex
  exact fun s us ws _ h1 h2 => .of_eq (h kV doc pm an cdv ct us ws h1 h2)
end Snd

namespace Snd
open PySem PySem.Spec PyProof.Rows L2
variable {X : Cx} {C : Ir.Calls}
/-! ### dict(pairs) -/
theorem merge_pairs {ρ : Rho} {K : PySem.W.Frag} {H : Hp} : ∀ {xs : List Ir.D} {ys : List V} {acc kvs : List (Ir.D × Ir.D)} {ks : List (Key × V)}, RDs ρ K H xs ys → Ir.mergeP acc xs = some kvs → RKs ρ K H acc ks →
    ∃ (ps : List Addr) (prs : List (Key × V)), ys = ps.map V.ref ∧ Paired (fun p kv => SqT K H p [kV kv.1, kv.2]) ps prs ∧ RKs ρ K H kvs (mergeK ks prs) ∧ prs.length = ys.length
  | [], _, acc, kvs, ks, .nil, e, r => by
    simp only [Ir.mergeP] at e
    cases e
    exact ⟨[], [], rfl, .nil, r, rfl⟩
  | x :: xs, _, acc, kvs, ks, .cons h t, e, r => by
    unfold Ir.mergeP at e
    split at e
    · rename_i hh; cases hh
    · rename_i k v q hh
      cases hh
      split at e
      · rename_i hk
        obtain ⟨a, ys, rfl, tp, z, rr⟩ := RD.tup_inv h
        cases rr with
        | cons rk rr =>
          cases rr with
          | cons rv rr =>
            cases rr
            obtain ⟨k', h1, rfl⟩ := RK.kv rk hk
            obtain ⟨ps, prs, rfl, h2, h3, h4⟩ := merge_pairs t e (r.put h1 rv)
            exact ⟨a :: ps, (k', _) :: prs, rfl, .cons tp.sq h2, h3, by simp [h4]⟩
      · cases e
    · cases e
theorem se_dictP {e : Expr} {i : Ir.Ex} {p pos : Pos} (hcalm : X.calm = true) (h : SE X C e i) (hm : X.mg (Str.ofString "dict") = none) (hv : bootBuiltins (Str.ofString "dict") = some (.type "dict")) (hg : Gl X (Str.ofString "dict") := by rfl)
    (he : starEach [e] X.env = (false, eval e X.env) :: starEach [] X.env := by rfl) (hpl : (backTo pos (starEach [] X.env)).any (·.1) = false := by rfl) :
    SE X C (.Call (.Name (Str.ofString "dict") p) [e] [] pos) (.newDP i) := by
  refine pe_imp (pe_callTy (call_dictP hcalm) hg hm hv (pa_cons h pa_nil he) (by decide) (by decide) he hpl) fun σ H Q ⟨ρ, env, st, v, st', rs, re, ev, k⟩ => ?_
  simp only [Ir.eval] at ev
  obtain ⟨w, s1, e1, ev⟩ := bok ev
  split at ev
  · rename_i xs
    split at ev
    · rename_i kvs hk
      cases ev
      refine ⟨ρ, env, st, _, s1, rs, re, e1, fun ρ1 H1 V1 x1 rs1 rv => ?_⟩
      obtain ⟨a, ys, rfl, t, z, r⟩ : ∃ a ys, V1 = .ref a ∧ H1 a = some (.lst ys) ∧ ys.length ≤ sizeLine ∧ RDs ρ1 X.K H1 xs ys := by
        cases rv with
        | lst h1 h2 h3 h4 => exact ⟨_, _, rfl, h1, h3, h4⟩
      obtain ⟨ps, prs, rfl, h2, h3, h4⟩ := merge_pairs r hk .nil
      refine ⟨a, ps, prs, rfl, SqL.of t, h2, fun p hp => ?_⟩
      have hz : (mergeK [] prs).length ≤ sizeLine := by
        refine Nat.le_trans (length_mergeK prs []) ?_
        rw [List.length_nil, Nat.zero_add, h4]
        exact z
      have w : Ext ρ1 H1 (ρ1.push p) (upd H1 p (.dK (mergeK [] prs))) := .push rs1 hp _
      refine k (ρ1.push p) _ _ (x1.trans w) (rs1.push hp ⟨_, upd_same, hz, h3.mono w⟩) ⟨by simp [Rho.push, rs1.len], p, rfl, fun b hb => ?_⟩
      simp only [Rho.push] at hb
      rw [rs1.len, List.getElem?_append_right (Nat.le_refl _)] at hb
      simp at hb
      exact hb.symm
    · cases ev
  · cases ev
theorem bv_dict : bootBuiltins (Str.ofString "dict") = some (.type "dict") := by decide +kernel
end Snd

set_option maxHeartbeats 2000000
namespace Snd
open PySem PySem.Spec PyProof.Rows L2
/-! list(zip(a, b)) of two tuples -/
theorem ad_ne {a b c : Addr} (h : a ≤ b) (k : b < c) : c ≠ a := Nat.ne_of_gt (Nat.lt_of_le_of_lt h k)
theorem ad_ne2 {a b c : Addr} (h : a < b) (k : b < c) : c ≠ a := Nat.ne_of_gt (Nat.lt_trans h k)
section
variable {prog : Program} {w : World} {A : Around} {E : Value → Shared → Prop} {s : Shared}
variable {z TI TO i1 i2 l1 l2 : Addr} {P1 P2 : Nat → Heap → Prop} {xs ys : Array Value}
/-- the zip while a pair T that it gave out is still held -/
structure ZhAt (h : Heap) (z TI TO i1 i2 T : Addr) (f : Bool) (P1 P2 : Nat → Heap → Prop) (k : Nat) : Prop where
  zz : IsZipHeld h z TI TO T f
  tt : ∃ oT, h.get? T = some oT
  ti : IsPair h TI (.ref i1) (.ref i2)
  p1 : P1 k h
  p2 : P2 k h
theorem zh_item (S1 : ItStep prog w i1 l1 P1 xs) (S2 : ItStep prog w i2 l2 P2 ys) (D : ZipApart z TI TO i1 i2 l1 l2) {k : Nat} {T : Addr} {f : Bool} {x y : Value} (Z : ZhAt s.heap z TI TO i1 i2 T f P1 P2 k) (hx : xs[k]? = some x) (hy : ys[k]? = some y) {Q : Value → Shared → Prop}
    (hQ : ∀ h', IsZipHeld h' z TI TO T true → P1 (k + 1) h' → P2 (k + 1) h' → IsPair h' s.heap.objs.size x y → h'.objs.size = s.heap.objs.size + 1 →
      (∀ c o, c ≠ z → c ≠ i1 → c ≠ i2 → s.heap.get? c = some o → h'.get? c = some o) → Q (.ref s.heap.objs.size) { s with heap := h' }) :
    wpAny (model prog w) A (Builtin.«zip.__next__» ⟨[.ref z], []⟩) (fun fin s' => ∃ v, fin = .done (.ret v) ∧ Q v s') E s := by
  have hz := Z.zz; obtain ⟨oT, hT⟩ := Z.tt; have hTI := Z.ti
  show wpAny _ _ (field (.ref z) 2 >>= _) _ _ _
  refine wpAny_bind (wpAny_field hz rfl (x := .bool false) rfl ?_)
  show wpAny _ _ (field (.ref z) 3 >>= _) _ _ _
  refine wpAny_bind (wpAny_field hz rfl (x := .ref TI) rfl ?_)
  refine wpAny_bind (wpAny_seqItems hTI rfl ?_)
  show wpAny _ _ (Builtin.SmallTypes.ownedTupleIsFree (.ref z) >>= _) _ _ _
  refine wpAny_bind (wpAny_tupleHeld_zip hz hT fun h₁ hz₁ hs₁ => ?_)
  simp only [Bool.false_eq_true, if_false]
  refine wpAny_bind ?_
  rw [← Array.forIn_toList]
  simp only [List.forIn_cons, List.forIn_nil]
  refine wpAny_bind (wpAny_bind (wpAny_holding ?_))
  show wpAny _ _ (Builtin.SmallTypes.nextOf (.ref i1) >>= _) _ _ _
  refine wpAny_bind (S1.next (t := { s with heap := h₁ }) (S1.stay Z.p1 (fun o q => hs₁.extBut _ _ D.i1z q) (fun o q => hs₁.extBut _ _ D.l1z q)) hx fun h₂ p12 hs₂ => wpAny_pure ?_)
  refine wpAny_pure ?_
  refine wpAny_bind (wpAny_bind (wpAny_holding ?_))
  show wpAny _ _ (Builtin.SmallTypes.nextOf (.ref i2) >>= _) _ _ _
  refine wpAny_bind (S2.next (t := { s with heap := h₂ }) (S2.stay Z.p2 (fun o q => hs₂.extBut _ _ D.i12.symm (hs₁.extBut _ _ D.i2z q)) (fun o q => hs₂.extBut _ _ D.l2i1 (hs₁.extBut _ _ D.l2z q))) hy fun h₃ p23 hs₃ => wpAny_pure ?_)
  refine wpAny_pure (wpAny_pure ?_)
  show wpAny _ _ (newTuple [x, y] >>= _) _ _ _
  refine wpAny_bind (wpAny_newTuple ?_)
  have hsz : h₃.objs.size = s.heap.objs.size := by rw [hs₃.1, hs₂.1, hs₁.1]
  have hz₃ : IsZipHeld h₃ z TI TO T true := hs₃.extBut _ _ D.i2z.symm (hs₂.extBut _ _ D.i1z.symm hz₁)
  have hk : ∀ c o, c ≠ z → c ≠ i1 → c ≠ i2 → s.heap.get? c = some o → h₃.get? c = some o := fun c o c1 c2 c3 e => hs₃.extBut _ _ c3 (hs₂.extBut _ _ c2 (hs₁.extBut _ _ c1 e))
  have p13 : P1 (k + 1) h₃ := S1.stay p12 (fun o q => hs₃.extBut _ _ D.i12 q) (fun o q => hs₃.extBut _ _ D.l1i2 q)
  refine wpAny_pure ⟨_, rfl, ?_⟩
  show Q (.ref h₃.objs.size) _
  have hp : IsPair (h₃.push { cls := .type "tuple", data := .seq #[x, y] }) h₃.objs.size x y := Heap.get?_push_size _ rfl
  have hz4 : (h₃.push { cls := .type "tuple", data := .seq #[x, y] }).objs.size = h₃.objs.size + 1 := Heap.size_push ..
  rw [hsz] at hp hz4 ⊢
  exact hQ _ (Heap.get?_push_of_some _ hz₃) (S1.stay p13 (fun o q => Heap.get?_push_of_some _ q) (fun o q => Heap.get?_push_of_some _ q)) (S2.stay p23 (fun o q => Heap.get?_push_of_some _ q) (fun o q => Heap.get?_push_of_some _ q)) hp hz4 fun c o c1 c2 c3 e => Heap.get?_push_of_some _ (hk c o c1 c2 c3 e)
theorem zh_end (hh : A.handled = none) (S1 : ItStep prog w i1 l1 P1 xs) (S2 : ItStep prog w i2 l2 P2 ys) (D : ZipApart z TI TO i1 i2 l1 l2) {k : Nat} {T : Addr} {f : Bool} (Z : ZhAt s.heap z TI TO i1 i2 T f P1 P2 k) (hend : xs[k]? = none ∨ ys[k]? = none) {Q : Fin → Shared → Prop}
    (hE : ∀ h' e, (∀ c o, c ≠ z → c ≠ i1 → c ≠ i2 → s.heap.get? c = some o → h'.get? c = some o) → (∃ o, h'.get? e = some o ∧ o.cls = .type "StopIteration") → E (.ref e) { s with heap := h' }) :
    wpAny (model prog w) A (Builtin.«zip.__next__» ⟨[.ref z], []⟩) Q E s := by
  have hz := Z.zz; obtain ⟨oT, hT⟩ := Z.tt; have hTI := Z.ti
  show wpAny _ _ (field (.ref z) 2 >>= _) _ _ _
  refine wpAny_bind (wpAny_field hz rfl (x := .bool false) rfl ?_)
  show wpAny _ _ (field (.ref z) 3 >>= _) _ _ _
  refine wpAny_bind (wpAny_field hz rfl (x := .ref TI) rfl ?_)
  refine wpAny_bind (wpAny_seqItems hTI rfl ?_)
  show wpAny _ _ (Builtin.SmallTypes.ownedTupleIsFree (.ref z) >>= _) _ _ _
  refine wpAny_bind (wpAny_tupleHeld_zip hz hT fun h₁ hz₁ hs₁ => ?_)
  simp only [Bool.false_eq_true, if_false]
  refine wpAny_bind ?_
  rw [← Array.forIn_toList]
  simp only [List.forIn_cons, List.forIn_nil]
  refine wpAny_bind (wpAny_bind (wpAny_holding ?_))
  show wpAny _ _ (Builtin.SmallTypes.nextOf (.ref i1) >>= _) _ _ _
  cases hx : xs[k]? with
  | none =>
    refine wpAny_bind (S1.over (t := { s with heap := h₁ }) hh (S1.stay Z.p1 (fun o q => hs₁.extBut _ _ D.i1z q) (fun o q => hs₁.extBut _ _ D.l1z q)) hx fun h₂ e hs₂ he => ?_)
    exact hE h₂ e (fun c o c1 c2 _ x => hs₂ _ _ c2 (hs₁.extBut _ _ c1 x)) he
  | some x =>
    have hy : ys[k]? = none := by rcases hend with h | h; rw [hx] at h; cases h; exact h
    refine wpAny_bind (S1.next (t := { s with heap := h₁ }) (S1.stay Z.p1 (fun o q => hs₁.extBut _ _ D.i1z q) (fun o q => hs₁.extBut _ _ D.l1z q)) hx fun h₂ p12 hs₂ => wpAny_pure ?_)
    refine wpAny_pure ?_
    refine wpAny_bind (wpAny_bind (wpAny_holding ?_))
    show wpAny _ _ (Builtin.SmallTypes.nextOf (.ref i2) >>= _) _ _ _
    refine wpAny_bind (S2.over (t := { s with heap := h₂ }) hh (S2.stay Z.p2 (fun o q => hs₂.extBut _ _ D.i12.symm (hs₁.extBut _ _ D.i2z q)) (fun o q => hs₂.extBut _ _ D.l2i1 (hs₁.extBut _ _ D.l2z q))) hy fun h₃ e hs₃ he => ?_)
    exact hE h₃ e (fun c o c1 c2 c3 x => hs₃ _ _ c3 (hs₂.extBut _ _ c2 (hs₁.extBut _ _ c1 x))) he
theorem zh_next (S1 : ItStep prog w i1 l1 P1 xs) (S2 : ItStep prog w i2 l2 P2 ys) (D : ZipApart z TI TO i1 i2 l1 l2) {k : Nat} {T : Addr} {f : Bool} {x y : Value} (Z : ZhAt s.heap z TI TO i1 i2 T f P1 P2 k) (hx : xs[k]? = some x) (hy : ys[k]? = some y) {Q : Option Value → Shared → Prop}
    (hQ : ∀ h', IsZipHeld h' z TI TO T true → P1 (k + 1) h' → P2 (k + 1) h' → IsPair h' s.heap.objs.size x y → h'.objs.size = s.heap.objs.size + 1 →
      (∀ c o, c ≠ z → c ≠ i1 → c ≠ i2 → s.heap.get? c = some o → h'.get? c = some o) → Q (some (.ref s.heap.objs.size)) { s with heap := h' }) :
    wpAny (model prog w) A (pyNext (.ref z)) Q E s := by
  have hTy : s.TypeIs (.ref z) "zip" := ⟨_, Z.zz, rfl⟩
  unfold pyNext
  exact wpAny_bind (wpAny_attempt (wpAny_callSpecial?_slot (name := Str.ofString "__next__") hTy F.slot_zip_next
    (wpAny_call_entry F.slot_zip_next hTy F.entry_zip_next
      (zh_item S1 S2 D Z hx hy fun h' a1 a3 a4 a5 a6 a7 => wpAny_pure (hQ h' a1 a3 a4 a5 a6 a7)) (F.args_zip_next_1 _))))
theorem zh_stop (hh : A.handled = none) (S1 : ItStep prog w i1 l1 P1 xs) (S2 : ItStep prog w i2 l2 P2 ys) (D : ZipApart z TI TO i1 i2 l1 l2) {k : Nat} {T : Addr} {f : Bool} (Z : ZhAt s.heap z TI TO i1 i2 T f P1 P2 k) (hend : xs[k]? = none ∨ ys[k]? = none) {Q : Option Value → Shared → Prop}
    (hQ : ∀ h', (∀ c o, c ≠ z → c ≠ i1 → c ≠ i2 → s.heap.get? c = some o → h'.get? c = some o) → Q none { s with heap := h' }) : wpAny (model prog w) A (pyNext (.ref z)) Q E s := by
  have hTy : s.TypeIs (.ref z) "zip" := ⟨_, Z.zz, rfl⟩
  unfold pyNext
  refine wpAny_bind (wpAny_attempt (wpAny_callSpecial?_slot (name := Str.ofString "__next__") hTy F.slot_zip_next
    (wpAny_call_entry F.slot_zip_next hTy F.entry_zip_next (zh_end (A := A.in1) (show A.in1.handled = none from hh) S1 S2 D Z hend fun h' e hk he => ?_) (F.args_zip_next_1 _))))
  obtain ⟨o, ho, hc⟩ := he
  refine wpAny_bind (wpAny_isInstance (T := "StopIteration") (b := true) ⟨o, ho, hc⟩ isSubtype_stop ?_)
  exact wpAny_pure (hQ _ hk)
/-- at any turn of the filling of S -/
def LzAt (h : Heap) (S z TI TO i1 i2 : Addr) (P1 P2 : Nat → Heap → Prop) (k : Nat) : Prop :=
  (k = 0 ∧ ZpAt h z TI TO i1 i2 P1 P2 .none .none k) ∨ ∃ T f, ZhAt h z TI TO i1 i2 T f P1 P2 k ∧ T ≠ S ∧ T ≠ z ∧ T ≠ i1 ∧ T ≠ i2
/-- what is laid: the pairs at their addresses -/
structure LzG (xs ys : Array Value) (lo : Addr) (h : Heap) (as : List Addr) : Prop where
  rise : as.Pairwise (· < ·)
  above : ∀ a ∈ as, lo < a
  pairs : ∀ (j : Nat) (a : Addr), as[j]? = some a → ∃ x y, xs[j]? = some x ∧ ys[j]? = some y ∧ h.get? a = some { cls := .type "tuple", data := .seq #[x, y] }
theorem LzG.there {lo : Addr} {h : Heap} {as : List Addr} (g : LzG xs ys lo h as) {a : Addr} (ha : a ∈ as) : a < h.objs.size := by
  obtain ⟨j, hj⟩ := List.mem_iff_getElem?.mp ha
  obtain ⟨_, _, _, _, e⟩ := g.pairs j a hj
  exact Heap.lt_size e
/-- the cells of the zip and of what it walks -/
structure LzOff (S z TI TO i1 i2 l1 l2 : Addr) : Prop where
  sz : S ≠ z
  sTI : S ≠ TI
  sTO : S ≠ TO
  si1 : S ≠ i1
  si2 : S ≠ i2
  sl1 : S ≠ l1
  sl2 : S ≠ l2
  b1 : i1 < z
  b2 : i2 < z
theorem lz_next (S1 : ItStep prog w i1 l1 P1 xs) (S2 : ItStep prog w i2 l2 P2 ys) (D : ZipApart z TI TO i1 i2 l1 l2) {S : Addr} (O : LzOff S z TI TO i1 i2 l1 l2) {k : Nat} {x y : Value} (Z : LzAt s.heap S z TI TO i1 i2 P1 P2 k) (hSl : S < s.heap.objs.size) (hx : xs[k]? = some x) (hy : ys[k]? = some y) {Q : Option Value → Shared → Prop}
    (hQ : ∀ h', LzAt h' S z TI TO i1 i2 P1 P2 (k + 1) → IsPair h' s.heap.objs.size x y → h'.objs.size = s.heap.objs.size + 1 →
      (∀ c o, c ≠ z → c ≠ TO → c ≠ i1 → c ≠ i2 → s.heap.get? c = some o → h'.get? c = some o) → Q (some (.ref s.heap.objs.size)) { s with heap := h' }) :
    wpAny (model prog w) A (pyNext (.ref z)) Q E s := by
  rcases Z with ⟨rfl, Z⟩ | ⟨T, f, Z, hTS, e1, e2, e3⟩
  · have hz := Heap.lt_size Z.zz
    have := O.b1
    have := O.b2
    refine zm_next S1 S2 D Z hx hy fun g z1 t1 p1 p2 pr sz kp => hQ g (.inr ⟨_, false, ⟨z1, ⟨_, pr⟩, kp _ _ D.TIz D.TITO D.TIi1 D.TIi2 Z.ti, p1, p2⟩, Nat.ne_of_gt hSl, Nat.ne_of_gt hz, ad_ne2 O.b1 hz, ad_ne2 O.b2 hz⟩) pr sz kp
  · obtain ⟨oT, hT⟩ := Z.tt
    exact zh_next S1 S2 D Z hx hy fun h' z1 p1 p2 pr sz kp => hQ h' (.inr ⟨T, true, ⟨z1, ⟨oT, kp T oT e1 e2 e3 hT⟩, kp _ _ D.TIz D.TIi1 D.TIi2 Z.ti, p1, p2⟩, hTS, e1, e2, e3⟩) pr sz fun c o c1 _ c3 c4 e => kp c o c1 c3 c4 e
theorem lz_stop (hh : A.handled = none) (S1 : ItStep prog w i1 l1 P1 xs) (S2 : ItStep prog w i2 l2 P2 ys) (D : ZipApart z TI TO i1 i2 l1 l2) {S : Addr} {k : Nat} (Z : LzAt s.heap S z TI TO i1 i2 P1 P2 k) (hend : xs[k]? = none ∨ ys[k]? = none) {Q : Option Value → Shared → Prop}
    (hQ : ∀ h', (∀ c o, c ≠ z → c ≠ TO → c ≠ i1 → c ≠ i2 → s.heap.get? c = some o → h'.get? c = some o) → Q none { s with heap := h' }) : wpAny (model prog w) A (pyNext (.ref z)) Q E s := by
  rcases Z with ⟨rfl, Z⟩ | ⟨T, f, Z, _⟩
  · exact zm_stop hh S1 S2 D Z hend hQ
  · exact zh_stop hh S1 S2 D Z hend fun h' kp => hQ h' fun c o c1 _ c3 c4 e => kp c o c1 c3 c4 e
theorem LzAt.keep (S1 : ItStep prog w i1 l1 P1 xs) (S2 : ItStep prog w i2 l2 P2 ys) {S : Addr} (O : LzOff S z TI TO i1 i2 l1 l2) {h h' : Heap} {k : Nat} (Z : LzAt h S z TI TO i1 i2 P1 P2 k) (hk : ∀ b o, b ≠ S → h.get? b = some o → h'.get? b = some o) : LzAt h' S z TI TO i1 i2 P1 P2 k := by
  rcases Z with ⟨e, Z⟩ | ⟨T, f, Z, hTS, e⟩
  · exact .inl ⟨e, hk _ _ O.sz.symm Z.zz, hk _ _ O.sTI.symm Z.ti, hk _ _ O.sTO.symm Z.to, S1.stay Z.p1 (fun o q => hk _ _ O.si1.symm q) (fun o q => hk _ _ O.sl1.symm q), S2.stay Z.p2 (fun o q => hk _ _ O.si2.symm q) (fun o q => hk _ _ O.sl2.symm q)⟩
  · obtain ⟨oT, hT⟩ := Z.tt
    exact .inr ⟨T, f, ⟨hk _ _ O.sz.symm Z.zz, ⟨oT, hk _ _ hTS hT⟩, hk _ _ O.sTI.symm Z.ti, S1.stay Z.p1 (fun o q => hk _ _ O.si1.symm q) (fun o q => hk _ _ O.sl1.symm q), S2.stay Z.p2 (fun o q => hk _ _ O.si2.symm q) (fun o q => hk _ _ O.sl2.symm q)⟩, hTS, e⟩
theorem LzAt.zip {S : Addr} {h : Heap} {k : Nat} (Z : LzAt h S z TI TO i1 i2 P1 P2 k) : ∃ o, h.get? z = some o ∧ o.cls = .type "zip" := by
  rcases Z with ⟨e, Z⟩ | ⟨T, f, Z, hTS, e⟩
  · exact ⟨_, Z.zz, rfl⟩
  · exact ⟨_, Z.zz, rfl⟩
end
section
variable {prog : Program} {w : World} {A : Around} {s : Shared} {R : Result → Shared → Prop}
variable {z TI TO i1 i2 l1 l2 : Addr} {P1 P2 : Nat → Heap → Prop} {xs ys : Array Value}
theorem lz_loop (S1 : ItStep prog w i1 l1 P1 xs) (S2 : ItStep prog w i2 l2 P2 ys) (D : ZipApart z TI TO i1 i2 l1 l2) {S lo : Addr} (O : LzOff S z TI TO i1 i2 l1 l2) (hlo : ∀ c, c = z ∨ c = TO ∨ c = i1 ∨ c = i2 ∨ c = S → c ≤ lo) (hh : A.handled = none) {n : Nat} (hn : n ≤ sizeLine) (hxs : n = min xs.size ys.size) (res : Value) {h₁ : Heap}
    (hR : ∀ h' tk acc c as, (∀ b o, b ≠ S → b ≠ z → b ≠ TO → b ≠ i1 → b ≠ i2 → h₁.get? b = some o → h'.get? b = some o) → h'.get? S = some { cls := .type "list", dict := none, data := .seq acc c, slots := #[] } → as.length = n → LzG xs ys lo h' as →
      acc.toList = as.map Value.ref → R (.ok (.ret res)) { s with heap := h', toks := tk }) :
    ∀ (k i : Nat) (h : Heap) (tk c : Nat) (acc : Array Value) (as : List Addr), n - i = k → i ≤ n → LzAt h S z TI TO i1 i2 P1 P2 i → (∀ b o, b ≠ S → b ≠ z → b ≠ TO → b ≠ i1 → b ≠ i2 → h₁.get? b = some o → h.get? b = some o) →
      h.get? S = some { cls := .type "list", dict := none, data := .seq acc c, slots := #[] } → acc.toList = as.map Value.ref → as.length = i → LzG xs ys lo h as → lo < h.objs.size →
      codeAny (model prog w) A (.builtin "list.extend.loop" ⟨[.ref S, .ref z, res], []⟩) R { s with heap := h, toks := tk } := by
  intro k
  induction k with
  | zero =>
    intro i h tk c acc as hk hi hst hkeep hS hacc hal hG hIs
    have hin : i = n := by omega
    refine codeAny_builtin PySem.F.entry_extend_loop ?_
    rw [Around.under_plainId PySem.F.plain_extend_loop _]
    show wpAny _ A.in1 (pyNext (.ref z) >>= _) _ _ _
    refine wpAny_bind (lz_stop (s := { s with heap := h, toks := tk }) (A := A.in1) hh S1 S2 D hst ?_ fun h' he => ?_)
    · by_cases c : xs.size ≤ i
      · exact .inl (Array.getElem?_eq_none c)
      · exact .inr (Array.getElem?_eq_none (by omega))
    refine wpAny_pure (hR h' tk acc c as (fun b o h1 h2 h3 h4 h5 e => he b o h2 h3 h4 h5 (hkeep b o h1 h2 h3 h4 h5 e)) (he S _ O.sz O.sTO O.si1 O.si2 hS) (by omega) ⟨hG.rise, hG.above, fun j a hj => ?_⟩ hacc)
    obtain ⟨x, y, e1, e2, e3⟩ := hG.pairs j a hj
    have ha := hG.above a (List.mem_of_getElem? hj)
    exact ⟨x, y, e1, e2, he a _ (ad_ne (hlo z (by simp)) ha) (ad_ne (hlo TO (by simp)) ha) (ad_ne (hlo i1 (by simp)) ha) (ad_ne (hlo i2 (by simp)) ha) e3⟩
  | succ k ih =>
    intro i h tk c acc as hk hi hst hkeep hS hacc hal hG hIs
    have hlt : i < n := by omega
    obtain ⟨x, hx⟩ : ∃ p, xs[i]? = some p := ⟨xs[i]'(by omega), Array.getElem?_eq_getElem (by omega)⟩
    obtain ⟨y, hy⟩ : ∃ p, ys[i]? = some p := ⟨ys[i]'(by omega), Array.getElem?_eq_getElem (by omega)⟩
    have hsz : acc.size = i := by rw [← Array.length_toList, hacc, List.length_map, hal]
    refine codeAny_builtin PySem.F.entry_extend_loop ?_
    rw [Around.under_plainId PySem.F.plain_extend_loop _]
    show wpAny _ A.in1 (pyNext (.ref z) >>= _) _ _ _
    refine wpAny_bind (lz_next (s := { s with heap := h, toks := tk }) (S := S) S1 S2 D O hst (Heap.lt_size hS) hx hy fun h' hst' ht hz hkp => ?_)
    dsimp only at ht hz hkp ⊢
    have hS' := hkp S _ O.sz O.sTO O.si1 O.si2 hS
    have up : ∀ b o, b ≠ S → h'.get? b = some o → (h'.update S (Obj.mapSeq (·.push (Value.ref h.objs.size)))).get? b = some o := fun b o hb e => (Heap.get?_update_other _ _ (Ne.symm hb)).trans e
    have hSl : S < h.objs.size := Heap.lt_size hS
    show wpAny _ A.in1 (updateSeq S (·.push (Value.ref h.objs.size)) >>= _) _ _ _
    refine wpAny_bind ?_
    have hne : h.objs.size ≠ S := Nat.ne_of_gt hSl
    have hg : ∀ a, lo < a → a ≠ z ∧ a ≠ TO ∧ a ≠ i1 ∧ a ≠ i2 ∧ a ≠ S := fun a ha => ⟨ad_ne (hlo z (by simp)) ha, ad_ne (hlo TO (by simp)) ha, ad_ne (hlo i1 (by simp)) ha, ad_ne (hlo i2 (by simp)) ha, ad_ne (hlo S (by simp)) ha⟩
    refine wpAny_updateSeq hS' rfl (wpAny_pure ⟨plainId_quiet PySem.F.plain_extend_loop _, ih (i + 1) _ tk _ (acc.push (Value.ref h.objs.size)) (as ++ [h.objs.size]) (by omega) hlt (hst'.keep S1 S2 O up)
      (fun b o h1 h2 h3 h4 h5 e => up b o h1 (hkp b o h2 h3 h4 h5 (hkeep b o h1 h2 h3 h4 h5 e))) (Heap.get?_update_self _ hS' rfl) (by rw [Array.toList_push, hacc, List.map_append]; rfl) (by rw [List.length_append, hal]; rfl) ⟨?_, ?_, ?_⟩ ?_⟩) (by rw [hsz]; omega) (by show (acc.push (Value.ref h.objs.size)).size ≤ sizeLine + 1; rw [Array.size_push, hsz]; omega)
    · refine List.pairwise_append.mpr ⟨hG.rise, List.pairwise_singleton _ _, fun a ha b hb => ?_⟩
      rw [List.mem_singleton.mp hb]
      exact hG.there ha
    · intro a ha
      rcases List.mem_append.mp ha with ha | ha
      · exact hG.above a ha
      · rw [List.mem_singleton.mp ha]; exact hIs
    · intro j b hj
      rcases Nat.lt_trichotomy j as.length with h1 | h1 | h1
      · rw [List.getElem?_append_left h1] at hj
        obtain ⟨x', y', e1, e2, e3⟩ := hG.pairs j b hj
        obtain ⟨g1, g2, g3, g4, g5⟩ := hg b (hG.above b (List.mem_of_getElem? hj))
        exact ⟨x', y', e1, e2, up b _ g5 (hkp b _ g1 g2 g3 g4 e3)⟩
      · subst h1
        have hb : h.objs.size = b := by simpa using hj
        subst hb
        exact ⟨x, y, by rw [hal]; exact hx, by rw [hal]; exact hy, up _ _ hne ht⟩
      · have hnone : (as ++ [h.objs.size])[j]? = none := List.getElem?_eq_none (by rw [List.length_append, List.length_singleton]; omega)
        rw [hnone] at hj; cases hj
    · have e : (h'.update S (Obj.mapSeq (·.push (Value.ref h.objs.size)))).get? h.objs.size = _ := up _ _ hne ht
      exact Nat.lt_trans hIs (Heap.lt_size e)
end
end Snd

set_option maxHeartbeats 2000000
namespace Snd
open PySem PySem.Spec PyProof.Rows L2
theorem zip_no_len : typeLookup (.type "zip") "__len__" = pure none := am_miss_of_fast (by decide +kernel)
theorem zip_no_hint : typeLookup (.type "zip") "__length_hint__" = pure none := am_miss_of_fast (by decide +kernel)
section
variable {prog : Program} {w : World} {A : Around} {E : Value → Shared → Prop} {s : Shared}
theorem lz_hint {r : Addr} (hT : s.TypeIs (.ref r) "zip") {Q : Bool → Shared → Prop} (h : Q true s) : wpAny (model prog w) A (Builtin.List.listLengthHint (.ref r)) Q E s := by
  unfold Builtin.List.listLengthHint
  refine wpAny_bind (wpAny_specialOf hT zip_no_len ?_)
  wp_delta
  refine wpAny_bind (wpAny_specialOf hT zip_no_hint ?_)
  exact wpAny_pure h
end
section
variable {prog : Program} {w : World} {A : Around} {s : Shared} {R : Result → Shared → Prop}
variable {z TI TO i1 i2 l1 l2 : Addr} {P1 P2 : Nat → Heap → Prop} {xs ys : Array Value}
theorem lz_extend (S1 : ItStep prog w i1 l1 P1 xs) (S2 : ItStep prog w i2 l2 P2 ys) (D : ZipApart z TI TO i1 i2 l1 l2) (hh : A.handled = none) {n : Nat} (hn : n ≤ sizeLine) (hxs : n = min xs.size ys.size) (S : Addr) (O : LzOff S z TI TO i1 i2 l1 l2) (hlo : ∀ c, c = z ∨ c = TO ∨ c = i1 ∨ c = i2 ∨ c = S → c ≤ S) (res : Value) (c₀ : Nat)
    (hS : s.heap.get? S = some { cls := .type "list", data := .seq #[] c₀ }) (hZ : ZpAt s.heap z TI TO i1 i2 P1 P2 .none .none 0)
    (hR : ∀ h' tk acc c as, (∀ b o, b ≠ S → b ≠ z → b ≠ TO → b ≠ i1 → b ≠ i2 → s.heap.get? b = some o → h'.get? b = some o) → h'.get? S = some { cls := .type "list", dict := none, data := .seq acc c, slots := #[] } → as.length = n → LzG xs ys S h' as →
      acc.toList = as.map Value.ref → R (.ok (.ret res)) { s with heap := h', toks := tk }) :
    wpAny (model prog w) A.in1 (Builtin.List.listExtendWith (.ref S) (.ref z) res)
      (fun fin s' => match fin with | .done f => R (.ok f) s' | .again c' => c'.quiet = true ∧ codeAny (model prog w) A c' R s') (fun e s' => R (.error e) s') s := by
  have hSl : S < s.heap.objs.size := Heap.lt_size hS
  have key : ∀ (h : Heap) (c₁ tk : Nat), (∀ b o, b ≠ S → s.heap.get? b = some o → h.get? b = some o) →
      h.get? S = some { cls := .type "list", data := .seq #[] c₁ } → codeAny (model prog w) A (.builtin "list.extend.loop" ⟨[.ref S, .ref z, res], []⟩) R { s with heap := h, toks := tk } := by
    intro h c₁ tk hk hS₁
    have hst : LzAt s.heap S z TI TO i1 i2 P1 P2 0 := .inl ⟨rfl, hZ⟩
    exact lz_loop S1 S2 D O hlo hh hn hxs res hR n 0 h tk c₁ #[] [] (Nat.sub_zero _) (Nat.zero_le _) (hst.keep S1 S2 O hk) (fun b o hb _ _ _ _ e => hk b o hb e) hS₁ rfl rfl
      ⟨List.Pairwise.nil, (fun _ ha => nomatch ha), (fun j a hj => by simp at hj)⟩ (Heap.lt_size hS₁)
  have hT : s.TypeIs (.ref z) "zip" := ⟨_, hZ.zz, rfl⟩
  unfold Builtin.List.listExtendWith
  refine wpAny_bind (wpAny_typeOf (T := "zip") hT ?_)
  have h1 : Builtin.List.listSameRef (.ref S) (.ref z) = false := by simp [Builtin.List.listSameRef, O.sz]
  have h2 : (Value.type "zip" == Value.type "list") = false := by decide
  have h3 : (Value.type "zip" == Value.type "tuple") = false := by decide
  simp only [h1, h2, h3, Bool.or_false, Bool.false_eq_true, if_false]
  refine wpAny_bind (wpAny_pyIter_zip hZ.zz ?_)
  refine wpAny_bind (wpAny_holding (lz_hint hT ?_))
  refine wpAny_ite_split (fun _ => ?_) (fun _ => wpAny_pure ⟨plainId_quiet PySem.F.plain_extend_loop _, key _ c₀ _ (fun b o _ e => e) hS⟩)
  refine wpAny_bind (wpAny_rule ?_)
  refine wpAny_bind ?_
  show wpAny _ _ (updateSeq S (·.push .none) >>= fun _ => updateSeq S (·.pop)) _ _ _
  refine wpAny_bind (wpAny_updateSeq hS rfl ?_)
  have hS₂ := Heap.get?_update_self (Obj.mapSeq (·.push Value.none)) hS rfl
  refine wpAny_updateSeq (hz := by seq_fits) hS₂ rfl ?_
  have hS₃ := Heap.get?_update_self (Obj.mapSeq (·.pop)) hS₂ rfl
  refine wpAny_pure ⟨plainId_quiet PySem.F.plain_extend_loop _, key _ _ _ (fun b o hb e => ?_) hS₃⟩
  exact (Heap.get?_update_other _ _ (Ne.symm hb)).trans ((Heap.get?_update_other _ _ (Ne.symm hb)).trans e)
theorem lz_init (S1 : ItStep prog w i1 l1 P1 xs) (S2 : ItStep prog w i2 l2 P2 ys) (D : ZipApart z TI TO i1 i2 l1 l2) (hh : A.handled = none) {n : Nat} (hn : n ≤ sizeLine) (hxs : n = min xs.size ys.size) (S : Addr) (O : LzOff S z TI TO i1 i2 l1 l2) (hlo : ∀ c, c = z ∨ c = TO ∨ c = i1 ∨ c = i2 ∨ c = S → c ≤ S)
    (hS : s.heap.get? S = some { cls := .type "list", data := .seq #[] }) (hZ : ZpAt s.heap z TI TO i1 i2 P1 P2 .none .none 0)
    (hR : ∀ h' tk acc c as, (∀ b o, b ≠ S → b ≠ z → b ≠ TO → b ≠ i1 → b ≠ i2 → s.heap.get? b = some o → h'.get? b = some o) → h'.get? S = some { cls := .type "list", dict := none, data := .seq acc c, slots := #[] } → as.length = n → LzG xs ys S h' as →
      acc.toList = as.map Value.ref → R (.ok (.ret .none)) { s with heap := h', toks := tk }) :
    wpAny (model prog w) A.in1 (Builtin.«list.__init__» ⟨[.ref S, .ref z], []⟩)
      (fun fin s' => match fin with | .done f => R (.ok f) s' | .again c' => c'.quiet = true ∧ codeAny (model prog w) A c' R s') (fun e s' => R (.error e) s') s := by
  show wpAny _ _ (do let old ← Builtin.List.listItems (.ref S); Builtin.List.listUpdate (.ref S) (fun _ => #[]); letGo old.toList.reverse; Builtin.List.listExtendWith (.ref S) (.ref z) .none) _ _ s
  refine wpAny_bind ?_
  unfold Builtin.List.listItems
  refine wpAny_bind (wpAny_seqItems hS rfl (wpAny_pure ?_))
  show wpAny _ _ (updateSeq S (fun _ => #[]) >>= fun _ => letGo (#[] : Array Value).toList.reverse >>= fun _ => Builtin.List.listExtendWith (.ref S) (.ref z) .none) _ _ s
  refine wpAny_bind (wpAny_updateSeq hS rfl ?_)
  have hS₂ := Heap.get?_update_self (Obj.mapSeq (fun _ => (#[] : Array Value))) hS rfl
  have oth : ∀ b o, b ≠ S → s.heap.get? b = some o → (s.heap.update S (Obj.mapSeq (fun _ => (#[] : Array Value)))).get? b = some o :=
    fun b o hb e => (Heap.get?_update_other _ _ (Ne.symm hb)).trans e
  refine wpAny_bind (wpAny_letGo ?_)
  have hZ2 : ZpAt (s.heap.update S (Obj.mapSeq (fun _ => (#[] : Array Value)))) z TI TO i1 i2 P1 P2 .none .none 0 :=
    ⟨oth _ _ O.sz.symm hZ.zz, oth _ _ O.sTI.symm hZ.ti, oth _ _ O.sTO.symm hZ.to, S1.stay hZ.p1 (fun o q => oth _ _ O.si1.symm q) (fun o q => oth _ _ O.sl1.symm q), S2.stay hZ.p2 (fun o q => oth _ _ O.si2.symm q) (fun o q => oth _ _ O.sl2.symm q)⟩
  refine lz_extend S1 S2 D hh hn hxs S O hlo .none _ hS₂ hZ2 fun h' tk acc c as hk hS' hl hG hacc => ?_
  exact hR h' tk acc c as (fun b o hb h2 h3 h4 h5 e => hk b o hb h2 h3 h4 h5 (oth b o hb e)) hS' hl hG hacc
theorem lz_call {E : Value → Shared → Prop} {Q : Value → Shared → Prop} (S1 : ItStep prog w i1 l1 P1 xs) (S2 : ItStep prog w i2 l2 P2 ys) (D : ZipApart z TI TO i1 i2 l1 l2) (hh : A.handled = none) {n : Nat} (hn : n ≤ sizeLine) (hxs : n = min xs.size ys.size)
    (hZ : ZpAt s.heap z TI TO i1 i2 P1 P2 .none .none 0) (b1 : i1 < z) (b2 : i2 < z) (c1 : l1 < s.heap.objs.size) (c2 : l2 < s.heap.objs.size)
    (hQ : ∀ h' tk acc c as, (∀ b o, b ≠ z → b ≠ TO → b ≠ i1 → b ≠ i2 → s.heap.get? b = some o → h'.get? b = some o) → h'.get? s.heap.objs.size = some { cls := .type "list", dict := none, data := .seq acc c, slots := #[] } → as.length = n → LzG xs ys s.heap.objs.size h' as →
      acc.toList = as.map Value.ref → Q (.ref s.heap.objs.size) { s with heap := h', toks := tk }) :
    wpAny (model prog w) A (call (.type "list") [.ref z]) Q E s := by
  refine callType_codes (Q₁ := fun obj s₁ => obj = .ref s.heap.objs.size ∧ s₁ = { s with heap := s.heap.push { cls := .type "list", data := .seq #[] } }) PySem.F.called_list (PySem.F.typeCall_list_1 _) PySem.F.entry_list_init
    (code_list_new _ ⟨rfl, rfl⟩) fun obj s₁ h₁ => ?_
  obtain ⟨rfl, rfl⟩ := h₁
  have hS : (s.heap.push { cls := .type "list", data := .seq #[] }).get? s.heap.objs.size = some { cls := .type "list", data := .seq #[] } := Heap.get?_push_size _ rfl
  have hz : z < s.heap.objs.size := Heap.lt_size hZ.zz
  have hTI : TI < s.heap.objs.size := Heap.lt_size hZ.ti
  have hTO : TO < s.heap.objs.size := Heap.lt_size hZ.to
  have h1 : i1 < s.heap.objs.size := Nat.lt_trans b1 hz
  have h2 : i2 < s.heap.objs.size := Nat.lt_trans b2 hz
  have pu : ∀ b o, s.heap.get? b = some o → (s.heap.push { cls := .type "list", data := .seq #[] }).get? b = some o := fun b o e => Heap.get?_push_of_some _ e
  have hZ2 : ZpAt (s.heap.push { cls := .type "list", data := .seq #[] }) z TI TO i1 i2 P1 P2 .none .none 0 :=
    ⟨pu _ _ hZ.zz, pu _ _ hZ.ti, pu _ _ hZ.to, S1.stay hZ.p1 (fun o q => pu _ _ q) (fun o q => pu _ _ q), S2.stay hZ.p2 (fun o q => pu _ _ q) (fun o q => pu _ _ q)⟩
  refine ⟨⟨_, hS, rfl⟩, PySem.F.args_list_init_2 _ _, lz_init (A := A.in1) S1 S2 D hh hn hxs _ ⟨Nat.ne_of_gt hz, Nat.ne_of_gt hTI, Nat.ne_of_gt hTO, Nat.ne_of_gt h1, Nat.ne_of_gt h2, Nat.ne_of_gt c1, Nat.ne_of_gt c2, b1, b2⟩ (fun c hc => ?_) hS hZ2 (fun h' tk acc c as hk hS' hl hG hacc => ?_)⟩
  · rcases hc with rfl | rfl | rfl | rfl | rfl
    · exact Nat.le_of_lt hz
    · exact Nat.le_of_lt hTO
    · exact Nat.le_of_lt h1
    · exact Nat.le_of_lt h2
    · exact Nat.le_refl _
  · exact ⟨rfl, hQ h' tk acc c as (fun b o h1 h2 h3 h4 e => hk b o (Nat.ne_of_lt (Heap.lt_size e)) h1 h2 h3 h4 (pu b o e)) hS' hl hG hacc⟩
end
/-! ### the rule -/
def putP : Hp → List Addr → List (V × V) → Hp
  | H, a :: as, p :: ps => putP (upd H a (.tup [p.1, p.2])) as ps
  | H, _, _ => H
theorem putP_off {b : Addr} : ∀ (as : List Addr) (ps : List (V × V)) (H : Hp), b ∉ as → putP H as ps b = H b
  | [], _, _, _ => rfl
  | _ :: _, [], _, _ => rfl
  | a :: as, p :: ps, H, h => by
    show putP (upd H a (.tup [p.1, p.2])) as ps b = H b
    rw [putP_off as ps _ (fun z => h (List.mem_cons_of_mem _ z)), upd_ne (fun z => h (by rw [z]; exact List.mem_cons_self))]
theorem putP_at : ∀ (as : List Addr) (ps : List (V × V)) (H : Hp), as.length = ps.length → as.Nodup → Paired (fun (t : Addr) (p : V × V) => putP H as ps t = some (.tup [p.1, p.2])) as ps
  | [], [], _, _, _ => .nil
  | [], _ :: _, _, h, _ => by cases h
  | _ :: _, [], _, h, _ => by cases h
  | a :: as, p :: ps, H, h, hn => by
    have hn' := List.nodup_cons.mp hn
    have ih := putP_at as ps (upd H a (.tup [p.1, p.2])) (Nat.succ.inj h) hn'.2
    refine .cons ?_ ih
    show putP (upd H a (.tup [p.1, p.2])) as ps a = some (.tup [p.1, p.2])
    rw [putP_off as ps _ hn'.1, upd_same]
end Snd

set_option maxHeartbeats 2000000
namespace Snd
open PySem PySem.Spec PyProof.Rows L2
def rLzip (K : PySem.W.Frag) : List V → Hp → VK → Prop := fun vs H Q => ∃ (a b : Addr) (xs ys : List V), vs = [.ref a, .ref b] ∧ SqT K H a xs ∧ SqT K H b ys ∧
  ∀ (H' : Hp) (p : Addr) (ts : List Addr), (∀ c o, H c = some o → H' c = some o) → H p = none → (∀ t ∈ ts, H t = none) → p ∉ ts → H' p = some (.lst (ts.map V.ref)) → Paired (fun (t : Addr) (q : V × V) => H' t = some (.tup [q.1, q.2])) ts (xs.zip ys) → (xs.zip ys).length ≤ sizeLine → (∀ c o, H' c = some o → (∀ o', H c ≠ some o') → c = p ∨ c ∈ ts) → Q (.ref p) H'
def tLzip (K : PySem.W.Frag) (ta : TA) : TE := fun σ H Q => ta σ H fun vs H1 => rLzip K vs H1 Q
section
variable {X : Cx} {e e2 : Expr} {ta : TA} {p p2 pos pos2 : Pos}
theorem lz_laid {pins : List (Addr × Obj)} {σ : L2.St} {H : Hp} {s : Shared} {h' : Heap} {tk : Nat} {ps : List (V × V)} {xs ys : Array Value} {acc : Array Value} {c : Nat} {as : List Addr} {S : Addr} (I : Inv X pins σ H s) (hz : ps.length ≤ sizeLine)
    (hp : ∀ (j : Nat) (q : V × V) (x y : Value), ps[j]? = some q → xs[j]? = some x → ys[j]? = some y → RelV q.1 x ∧ RelV q.2 y)
    (hS0 : s.heap.objs.size ≤ S) (hk : ∀ b o, s.heap.get? b = some o → h'.get? b = some o) (hS : h'.get? S = some { cls := .type "list", dict := none, data := .seq acc c, slots := #[] }) (hl : as.length = ps.length) (hG : LzG xs ys S h' as) (hacc : acc.toList = as.map Value.ref) :
    ∃ H' : Hp, (∀ b o, H b = some o → H' b = some o) ∧ H S = none ∧ (∀ t ∈ as, H t = none) ∧ S ∉ as ∧ H' S = some (.lst (as.map V.ref)) ∧ Paired (fun (t : Addr) (q : V × V) => H' t = some (.tup [q.1, q.2])) as ps ∧ (∀ c o, H' c = some o → (∀ o', H c ≠ some o') → c = S ∨ c ∈ as) ∧ Inv X pins σ H' { s with heap := h', toks := tk } := by
  have hSn : S ∉ as := fun z => Nat.lt_irrefl _ (hG.above _ z)
  have nd : as.Nodup := List.Pairwise.imp (fun {a b} (h : a < b) => Nat.ne_of_lt h) hG.rise
  have new : ∀ t ∈ as, H t = none := fun t ht => I.hok.fresh (Nat.le_trans hS0 (Nat.le_of_lt (hG.above t ht)))
  have newS : H S = none := I.hok.fresh hS0
  have atP := putP_at as ps (upd H S (.lst (as.map V.ref))) hl nd
  have off : ∀ b, b ∉ as → b ≠ S → putP (upd H S (.lst (as.map V.ref))) as ps b = H b := fun b h1 h2 => by rw [putP_off as ps _ h1, upd_ne h2]
  have low : ∀ b o, s.heap.get? b = some o → b ∉ as ∧ b ≠ S := fun b o e => ⟨fun z => absurd (Heap.lt_size e) (Nat.not_lt.mpr (Nat.le_trans hS0 (Nat.le_of_lt (hG.above b z)))), Nat.ne_of_lt (Nat.lt_of_lt_of_le (Heap.lt_size e) hS0)⟩
  have kp : ∀ b u, H b = some u → (putP (upd H S (.lst (as.map V.ref))) as ps) b = some u := fun b u e => by
    rw [off b (fun z => by rw [new b z] at e; cases e) (fun z => by rw [z, newS] at e; cases e)]
    exact e
  have eS : putP (upd H S (.lst (as.map V.ref))) as ps S = some (.lst (as.map V.ref)) := by rw [putP_off as ps _ hSn, upd_same]
  refine ⟨putP (upd H S (.lst (as.map V.ref))) as ps, kp, newS, new, hSn, eS, atP, fun b o e n => ?_, ?_⟩
  · by_cases h1 : b ∈ as
    · exact .inr h1
    · by_cases h2 : b = S
      · exact .inl h2
      · rw [off b h1 h2] at e; exact absurd e (n o)
  refine I.call' (ch := []) rfl ⟨fun b o q _ _ _ => hk b o q, fun b o q _ _ _ => ⟨o.slots, hk b o q⟩, fun b o q n _ => ?_, fun b o q _ => ⟨o, hk b o q⟩, fun b xs q => kp b _ q, fun b o u q => kp b _ q, fun b ps q => ⟨#[], by rw [kp b _ q]; simp⟩⟩ (fun b u q => ?_) I.bare fun b z => by simp at z
  · obtain ⟨z1, z2⟩ := low b o q
    rw [off b z1 z2]
    exact n
  · by_cases hb : b ∈ as
    · obtain ⟨j, pk, e1, e2, e3⟩ := LiI.paired_ix atP hb
      rw [e3] at q
      cases q
      obtain ⟨x, y, f1, f2, f3⟩ := hG.pairs j b e1
      obtain ⟨r1, r2⟩ := hp j pk x y e2 f1 f2
      exact ⟨by show 2 ≤ sizeLine; decide, [x, y], .cons r1 (.cons r2 .nil), ⟨_, f3, rfl, _, rfl⟩⟩
    · by_cases hb2 : b = S
      · rw [hb2] at q ⊢
        rw [eS] at q
        cases q
        refine ⟨by rw [List.length_map]; omega, acc.toList, c, by rw [hacc]; exact LiI.vals_refs as, ?_⟩
        rw [Array.toArray_toList]
        exact hS
      · rw [off b hb hb2] at q
        exact (I.hok b u q).stay (fun d v _ y => hk d v y) (fun d y => kp d _ y) fun d xs y => kp d _ y
/-- list(zip(e, e2)) -/
theorem pe_lzip (hc : X.calm = true) (ha : PA X [e, e2] ta) (hg : Gl X "list") (hm : X.mg "list" = none) (hv : bootBuiltins "list" = some (.type "list")) (hgz : Gl X "zip") (hmz : X.mg "zip" = none)
    (hs : starEach [.Call (.Name "zip" p2) [e, e2] [] pos2] X.env = (false, eval (.Call (.Name "zip" p2) [e, e2] [] pos2) X.env) :: starEach [] X.env := by rfl)
    (hs2 : starEach [e, e2] X.env = (false, eval e X.env) :: starEach [e2] X.env := by rfl) (hpl : (backTo pos2 (starEach [e2] X.env)).any (·.1) = false := by rfl) :
    PE X (.Call (.Name "list" p) [.Call (.Name "zip" p2) [e, e2] [] pos2] [] pos) (tLzip X.K ta) := by
  refine ⟨fun pins s σ H Q I hq => ?_⟩
  refine wpAny_Call_Name_kw (ld_blt I hg hm hv ?_)
  refine PyProof.Rows.callWith_type1 ?_ hs rfl
  rw [hs]
  show wpAny _ _ (spliced ((false, eval (.Call (.Name "zip" p2) [e, e2] [] pos2) X.env) :: backTo pos (starEach [] X.env))) _ _ s
  refine Calls.spliced_cons ?_
  refine Call_ (ld_blt I hgz hmz PyProof.Rows.boot_zip (PyProof.Rows.callWith_type1 (thn (ha.run pos2 pins s σ H _ I hq) fun us s1 ⟨vs, H1, I1, r1, q1⟩ => ?_) hs2 hpl))
  obtain ⟨a, b, xs, ys, rfl, qx, qy, q⟩ := q1
  cases r1 with
  | cons r rr =>
    cases rr with
    | cons r' rr =>
      cases rr; cases r; cases r'
      obtain ⟨its, rv, p1, hz1⟩ := I1.tuple qx
      obtain ⟨its2, rv2, p2', _⟩ := I1.tuple qy
      have t1 : s1.heap.IsTuple a its.toArray := p1
      have t2 : s1.heap.IsTuple b its2.toArray := p2'
      obtain ⟨o1, ho1, _⟩ := id t1
      obtain ⟨o2, ho2, _⟩ := id t2
      have la := Heap.lt_size ho1
      have lb := Heap.lt_size ho2
      refine RZ.call_zipT t1 t2 fun g zz ti to h1 h2 hsz hk => ?_
      refine Calls.spliced_nil ?_
      have hZ : ZpAt g (s1.heap.objs.size + 4) (s1.heap.objs.size + 2) (s1.heap.objs.size + 3) s1.heap.objs.size (s1.heap.objs.size + 1) (fun k h => h.IsTupleIter s1.heap.objs.size a k ∧ h.IsTuple a its.toArray) (fun k h => h.IsTupleIter (s1.heap.objs.size + 1) b k ∧ h.IsTuple b its2.toArray) .none .none 0 :=
        ⟨zz, ti, to, ⟨h1, t1.at fun o e => hk _ o e⟩, ⟨h2, t2.at fun o e => hk _ o e⟩⟩
      have hxs : (xs.zip ys).length = min its.toArray.size its2.toArray.size := by
        rw [List.length_zip, rv.length, rv2.length]; simp
      have hzl : (xs.zip ys).length ≤ sizeLine := by rw [List.length_zip]; exact Nat.le_trans (Nat.min_le_left _ _) hz1
      have la' : a < s1.heap.objs.size := la
      have lb' : b < s1.heap.objs.size := lb
      refine lz_call (s := { s1 with heap := g }) (itr_tuple (Nat.ne_of_lt la)) (itr_tuple (Nat.ne_of_lt (Nat.lt_succ_of_lt lb))) (PySem.W.ktu_apart s1.heap.objs.size a b la lb) (I1.ok.hd hc) hzl hxs hZ (Nat.lt_add_of_pos_right (by decide)) (Nat.add_lt_add_left (by decide) _) (Heap.lt_size (hk _ _ ho1)) (Heap.lt_size (hk _ _ ho2)) fun h' tk acc c as hk2 hS hl hG hacc => ?_
      have nz : ∀ c o, s1.heap.get? c = some o → c < s1.heap.objs.size := fun c o e => Heap.lt_size e
      have hkk : ∀ c o, s1.heap.get? c = some o → h'.get? c = some o := fun c o e => by
        have hc := nz c o e
        exact hk2 c o (Nat.ne_of_lt (Nat.lt_of_lt_of_le hc (Nat.le_add_right _ _))) (Nat.ne_of_lt (Nat.lt_of_lt_of_le hc (Nat.le_add_right _ _))) (Nat.ne_of_lt hc) (Nat.ne_of_lt (Nat.lt_succ_of_lt hc)) (hk c o e)
      obtain ⟨H', k1, k2, k3, k4, k5, k6, k7, J⟩ := lz_laid (tk := tk) (S := g.objs.size) (ps := xs.zip ys) I1 hzl (fun j q x y hq hx hy => by
        rw [List.getElem?_zip_eq_some] at hq
        obtain ⟨u, e1, r1⟩ := rv.get hq.1
        obtain ⟨v, e2, r2⟩ := rv2.get hq.2
        have hx' : its[j]? = some x := by simpa using hx
        have hy' : its2[j]? = some y := by simpa using hy
        rw [hx'] at e1; rw [hy'] at e2
        cases e1; cases e2
        exact ⟨r1, r2⟩) (by rw [hsz]; exact Nat.le_add_right _ _) hkk hS hl hG hacc
      exact ⟨.ref _, H', J, rfl, q H' _ as k1 k2 k3 k4 k5 k6 hzl k7⟩
end
end Snd

namespace Snd
open PySem PySem.Spec PyProof.Rows L2
variable {X : Cx} {C : Ir.Calls}
/-! ### list(zip(a, b)) -/
theorem zip_rds {ρ : Rho} {K : PySem.W.Frag} {H' : Hp} : ∀ {xs ys : List Ir.D} {vs ws : List V} {ts : List Addr}, RDs ρ K H' xs vs → RDs ρ K H' ys ws → Paired (fun (t : Addr) (q : V × V) => H' t = some (.tup [q.1, q.2])) ts (vs.zip ws) → (∀ t ∈ ts, ¬ ρ.own t) → RDs ρ K H' (Ir.zipL xs ys) (ts.map V.ref)
  | [], _, _, _, _, .nil, _, .nil, _ => .nil
  | _ :: _, [], _, _, _, .cons _ _, .nil, .nil, _ => .nil
  | x :: xs, y :: ys, _, _, _, .cons h r, .cons h' r', .cons hp rp, no => by
    show RDs ρ K H' (.tup [x, y] :: Ir.zipL xs ys) _
    refine .cons (.tup (.inl ⟨.inl hp, no _ List.mem_cons_self⟩) (by show 2 ≤ sizeLine; decide) (.cons h (.cons h' .nil))) (zip_rds r r' rp fun t ht => no t (List.mem_cons_of_mem _ ht))
theorem sn_lzip {e f : Expr} {i j : Ir.Ex} {p p2 pos pos2 : Pos} (hcalm : X.calm = true) (h : SE X C e i) (h' : SE X C f j) (hm : X.mg (Str.ofString "list") = none) (hv : bootBuiltins (Str.ofString "list") = some (.type "list")) (hmz : X.mg (Str.ofString "zip") = none) (hg : Gl X (Str.ofString "list") := by rfl) (hgz : Gl X (Str.ofString "zip") := by rfl)
    (hs : starEach [.Call (.Name (Str.ofString "zip") p2) [e, f] [] pos2] X.env = (false, eval (.Call (.Name (Str.ofString "zip") p2) [e, f] [] pos2) X.env) :: starEach [] X.env := by rfl)
    (hs2 : starEach [e, f] X.env = (false, eval e X.env) :: starEach [f] X.env := by rfl) (hs3 : starEach [f] X.env = (false, eval f X.env) :: starEach [] X.env := by rfl) (hpl : (backTo pos2 (starEach [f] X.env)).any (·.1) = false := by rfl) :
    SN X C (.Call (.Name (Str.ofString "list") p) [.Call (.Name (Str.ofString "zip") p2) [e, f] [] pos2] [] pos) (.blt .lzip [i, j]) := by
  refine pe_imp (pe_lzip hcalm (pa_cons h (pa_cons h' pa_nil hs3) hs2) hg hm hv hgz hmz hs hs2 hpl) fun σ H Q ⟨ρ, env, st, xs, st', rs, re, ev, k⟩ => ?_
  simp only [Ir.eval, Ir.evals] at ev
  obtain ⟨vs, s1, e1, ev⟩ := bok ev
  obtain ⟨v, s2, e2, e1⟩ := bok e1
  obtain ⟨us, s3, e3, e1⟩ := bok e1
  cases e1
  obtain ⟨v', s4, e4, e3⟩ := bok e3
  simp only [Ir.Res.bind_ok] at e3
  cases e3
  obtain ⟨rfl, ds, r, h1, h2, h3⟩ := not_len (by decide) ev
  cases h3
  refine ⟨ρ, env, st, v, _, rs, re, e2, fun ρ1 H1 V1 x1 rs1 rv => ?_⟩
  refine ⟨ρ1, env, _, v', _, rs1, re.mono x1, e4, fun ρ2 H2 V2 x2 rs2 rv' => ?_⟩
  have vd := VDs.derefs rs2 (.cons (rv.mono x2) (.cons rv' .nil)) h1
  simp only [Ir.D.blt] at h2
  unfold Ir.D.bLzip at h2
  split at h2
  · rename_i as bs
    cases h2
    cases vd with
    | cons vd1 t =>
      cases t with
      | cons vd2 t =>
        cases t
        obtain ⟨a, ys, rfl, ta, za, ra⟩ := RD.tup_inv vd1
        obtain ⟨b, ws, rfl, tb, zb, rb⟩ := RD.tup_inv vd2
        refine ⟨a, b, ys, ws, rfl, ta.sq, tb.sq, fun H' q ts k1 k2 k3 k4 k5 k6 hz k7 => ?_⟩
        have w1 : Ext ρ2 H2 (ρ2.keep q) (upd H2 q (.lst (ts.map V.ref))) := .keep rs2 k2 _
        have r1 := rs2.keep k2 (.lst (ts.map V.ref))
        have up : ∀ c o, upd H2 q (.lst (ts.map V.ref)) c = some o → H' c = some o := fun c o hc => by
          by_cases e : c = q
          · subst e; rw [upd_same] at hc; rw [k5]; exact hc
          · rw [upd_ne e] at hc; exact k1 c o hc
        have w2 : Ext (ρ2.keep q) (upd H2 q (.lst (ts.map V.ref))) (ρ2.keep q) H' := ⟨fun c o hc _ => up c o hc, fun _ z => .inl z, Nat.le_refl _, fun _ _ z _ => z, fun _ z => z, fun _ _ z => z, fun c hc => by
          cases hh : upd H2 q (.lst (ts.map V.ref)) c with
          | none => rfl
          | some o => rw [up c o hh] at hc; cases hc⟩
        have r2 : RS (ρ2.keep q) X.K st' H' := r1.ext w2 fun c hc => by
          obtain ⟨n, cc, _, _, hrc⟩ := r1.mem hc
          obtain ⟨o, ho, _⟩ := hrc.some
          rw [up c o ho, ho]
        have w := w1.trans w2
        have hlen : (ts.map V.ref).length ≤ sizeLine := by rw [List.length_map, Paired.length k6]; exact hz
        refine k (ρ2.keep q) H' q (ts.map V.ref) (x1.trans (x2.trans w)) r2 (x1.al q (x2.al q k2)) List.mem_cons_self k5 hlen (zip_rds (ra.mono w) (rb.mono w) k6 fun t ht z => ?_)
        have ht0 := k3 t ht
        rcases z with z | z
        · exact rs2.fresh ht0 (.inl z)
        · rcases List.mem_cons.mp z with z | z
          · exact k4 (by rw [← z]; exact ht)
          · exact rs2.fresh ht0 (.inr z)
  · cases h2
theorem is_lzip {is : List Ir.Ex} : ∀ env st v st', Ir.eval C (.blt .lzip is) env st = .ok v st' → ∃ xs, v = .d (.lst xs) := fun env st v st' ev => by
  simp only [Ir.eval] at ev
  obtain ⟨vs, s1, e1, ev⟩ := bok ev
  obtain ⟨_, ds, r, _, h2, rfl⟩ := not_len (by decide) ev
  simp only [Ir.D.blt] at h2
  unfold Ir.D.bLzip at h2
  split at h2
  · cases h2; exact ⟨_, rfl⟩
  · cases h2
end Snd

namespace Snd
open PySem PySem.Spec PyProof.Rows L2
variable {X : Cx} {C : Ir.Calls}
/-! ### a dict display -/
def flatP : List (V × V) → List V
  | [] => []
  | p :: ps => p.1 :: p.2 :: flatP ps
structure SPs (X : Cx) (C : Ir.Calls) (pos : Pos) (keys : List (Option Expr)) (values : List Expr) (is : List Ir.Ex) : Prop where
  ex : ∃ trs, PPs X pos keys values trs ∧ keys.all (·.isSome) = true ∧ keys.length = values.length ∧
    ∀ σ H ρ env st vs st' (Q : List (V × V) → Hp → Prop), RS ρ X.K st H → REnv ρ X.K H env σ → Ir.evals C is env st = .ok vs st' →
      (∀ ρ' H' ps, Ext ρ H ρ' H' → RS ρ' X.K st' H' → RVs ρ' X.K H' vs (flatP ps) → ps.length = keys.length → Q ps H') → tPairs trs σ H Q
theorem sps_nil {pos : Pos} : SPs X C pos [] [] [] := ⟨[], pps_nil, rfl, rfl, fun σ H ρ env st vs st' Q rs re ev k => by
  simp only [Ir.evals] at ev
  cases ev
  exact k ρ H [] (.refl _ _) rs .nil rfl⟩
theorem sps_cons {pos : Pos} {k v : Expr} {ks : List (Option Expr)} {vs : List Expr} {ik iv : Ir.Ex} {is : List Ir.Ex} (hk : SE X C k ik) (hv : SE X C v iv) (hr : SPs X C pos ks vs is) : SPs X C pos (some k :: ks) (v :: vs) (ik :: iv :: is) := by
  obtain ⟨trs, h1, h2, h3, h4⟩ := hr
  refine ⟨_, pps_cons hk hv h1, by simpa using h2, by simp [h3], fun σ H ρ env st ws st' Q rs re ev kk => ?_⟩
  simp only [Ir.evals] at ev
  obtain ⟨x, s1, e1, ev⟩ := bok ev
  obtain ⟨xs, s2, e2, ev⟩ := bok ev
  cases ev
  obtain ⟨y, s3, e3, e2⟩ := bok e2
  obtain ⟨ys, s4, e4, e2⟩ := bok e2
  cases e2
  refine ⟨ρ, env, st, x, s1, rs, re, e1, fun ρ1 H1 X1 x1 rs1 rx => ⟨ρ1, env, s1, y, s3, rs1, re.mono x1, e3, fun ρ2 H2 Y1 x2 rs2 ry => ?_⟩⟩
  refine h4 σ H2 ρ2 env s3 ys _ _ rs2 ((re.mono x1).mono x2) e4 fun ρ3 H3 ps x3 rs3 rr hl => ?_
  exact kk ρ3 H3 ((X1, Y1) :: ps) (x1.trans (x2.trans x3)) rs3 (.cons (rx.mono (x2.trans x3)) (.cons (ry.mono x3) rr)) (by simp [hl])
theorem merge_flat {ρ : Rho} {K : PySem.W.Frag} {H : Hp} : ∀ {ps : List (V × V)} {xs : List Ir.D} {acc kvs : List (Ir.D × Ir.D)} {ks : List (Key × V)}, RDs ρ K H xs (flatP ps) → Ir.mergeF acc xs = some kvs → RKs ρ K H acc ks →
    ∃ prs : List (Key × V), ps = prs.map (fun kv => (kV kv.1, kv.2)) ∧ RKs ρ K H kvs (mergeK ks prs)
  | [], _, acc, kvs, ks, .nil, e, r => by
    simp only [Ir.mergeF] at e
    cases e
    exact ⟨[], rfl, r⟩
  | p :: ps, _, acc, kvs, ks, .cons h (.cons h' t), e, r => by
    simp only [Ir.mergeF] at e
    split at e
    · rename_i hk
      obtain ⟨k', h1, h2⟩ := RK.kv h hk
      obtain ⟨prs, rfl, h3⟩ := merge_flat t e (r.put h1 h')
      refine ⟨(k', p.2) :: prs, ?_, h3⟩
      simp only [List.map_cons]
      rw [← h2]
    · cases e
theorem se_disp {pos : Pos} {keys : List (Option Expr)} {values : List Expr} {is : List Ir.Ex} (h : SPs X C pos keys values is) (h0 : keys ≠ [] := by simp) (h15 : keys.length ≤ 15 := by decide) : SE X C (.Dict keys values pos) (.newDd is) := by
  obtain ⟨trs, h1, h2, h3, h4⟩ := h
  refine pe_imp (pe_disp h1 h2 h3 h0 h15) fun σ H Q ⟨ρ, env, st, v, st', rs, re, ev, k⟩ p hp => ?_
  simp only [Ir.eval] at ev
  obtain ⟨us, s1, e1, ev⟩ := bok ev
  obtain ⟨ds, e2, ev⟩ := ook ev
  split at ev
  · rename_i kvs hm
    cases ev
    have w1 : Ext ρ H (ρ.keep p) (upd H p (.dK [])) := .keep rs hp _
    refine h4 σ _ (ρ.keep p) env st us s1 _ (rs.keep hp _) (re.mono w1) e1 fun ρ2 H2 ps x2 rs2 rv hl => ?_
    have hres : p ∈ ρ2.res := x2.rs p List.mem_cons_self
    have hp2 : H2 p = some (.dK []) := x2.fr p _ upd_same (fun z => rs.fresh hp (.inl z))
    obtain ⟨prs, rfl, hk⟩ := merge_flat (rv.ds e2) hm .nil
    have hpl : prs.length ≤ 15 := by rw [List.length_map] at hl; omega
    have hz : (mergeK [] prs).length ≤ sizeLine := by
      refine Nat.le_trans (length_mergeK prs []) ?_
      simp only [List.length_nil, Nat.zero_add]
      exact Nat.le_trans hpl (by decide)
    refine ⟨hp2, prs, rfl, hpl, ?_⟩
    have x : Ext ρ H ρ2 H2 := w1.trans x2
    have hn : p ∉ ρ.res := fun q => rs.fresh hp (.inr q)
    have sub : ∀ b, Rho.own ⟨ρ2.ix ++ [some p], ρ.res⟩ b → ρ2.own b := fun b q => by
      rcases q with q | q
      · rcases List.mem_append.mp q with q | q
        · exact .inl q
        · simp at q; subst q; exact .inr hres
      · exact .inr (x.rs b q)
    have xa : Ext ρ H ρ2 (upd H2 p (.dK (mergeK [] prs))) := x.aside hp
    have ra : RS ρ2 X.K s1 (upd H2 p (.dK (mergeK [] prs))) := rs2.aside hres
    refine k ⟨ρ2.ix ++ [some p], ρ.res⟩ _ _ (xa.cellOf hp hn) (ra.cellOf x.rs hres hn ⟨_, upd_same, hz, (hk.aside hres).sub sub⟩) ⟨by simp [rs2.len], p, rfl, fun b hb => ?_⟩
    have hb : (ρ2.ix ++ [some p])[s1.length]? = some (some b) := hb
    rw [rs2.len, List.getElem?_append_right (Nat.le_refl _)] at hb
    simp at hb
    exact hb.symm
  · cases ev
/-! ### a list and a list -/
theorem sn_add {a b : Expr} {ia ib : Ir.Ex} {pos : Pos} (ha : SE X C a ia) (hb : SE X C b ib) : SN X C (.BinOp a .Add b pos) (.bin .add ia ib) := by
  refine pe_imp (pe_op op_cat ha hb) fun σ H Q ⟨ρ, env, st, xs, st', rs, re, ev, k⟩ => ?_
  simp only [Ir.eval] at ev
  obtain ⟨x, s1, e1, ev⟩ := bok ev
  obtain ⟨y, s2, e2, ev⟩ := bok ev
  obtain ⟨p, e3, ev⟩ := ook ev
  obtain ⟨q, e4, ev⟩ := ook ev
  obtain ⟨d, e5, ev⟩ := ook ev
  cases ev
  refine ⟨ρ, env, st, x, s1, rs, re, e1, fun ρ1 H1 X1 x1 rs1 rx => ⟨ρ1, env, s1, y, st', rs1, re.mono x1, e2, fun ρ2 H2 Y x2 rs2 ry => ?_⟩⟩
  have vp := VD.deref rs2 (rx.mono x2) e3
  have vq := VD.deref rs2 ry e4
  cases p <;> cases q <;> simp only [Ir.D.bin, reduceCtorEq] at e5
  · cases e5
  · split at e5
    · cases e5
    · cases e5
  · split at e5
    · cases e5
    · cases e5
  · rename_i xs1 ys1
    split at e5
    · rename_i hl
      cases e5
      obtain ⟨a, as, rfl, h1, za, ra⟩ := vp
      obtain ⟨b, bs, rfl, h2, zb, rb⟩ := vq
      have hl2 : as.length + bs.length ≤ sizeLine := by rw [← ra.length, ← rb.length, ← lim_eq]; exact hl
      exact ⟨a, b, as, bs, rfl, rfl, h1, h2, hl2, fun p hp => sn_fin (x1.trans x2) rs2 (ra.append rb) (by rw [List.length_append]; exact hl2) hp k⟩
    · cases e5
/-! ### pop(0) -/
theorem mthOk_pop0 {o : Ir.Val} {st : Ir.Store} (h : Ir.mthOk .pop0 o st = true) : ∃ n xs, o = .ref n ∧ st[n]? = some (.lst xs) := by
  cases o with
  | d x => simp [Ir.mthOk] at h
  | ref n =>
    cases hc : st[n]? with
    | none => simp [Ir.mthOk, hc] at h
    | some c =>
      cases c with
      | lst xs => exact ⟨n, xs, rfl, hc⟩
      | dic kvs => simp [Ir.mthOk, hc] at h
      | dead => simp [Ir.mthOk, hc] at h
theorem se_pop0 {o : Expr} {io : Ir.Ex} {j : Nat} {apos cpos p0 : Pos} {kk} (ho : SE X C o io) (hbase : attributeBase o (Str.ofString "pop") X.env (eval o X.env) = eval o X.env := by rfl)
    (hfew : ((backTo cpos (starEach [.Constant (.int 0) kk p0] X.env)).all (fun x => !x.1) && (backToKw cpos (keywordEach [] X.env)).all (fun x => x.1.isSome) && decide (([.Constant (.int 0) kk p0] : List Expr).length + ([] : List Keyword).length + (if ([] : List Keyword).isEmpty then 0 else 1) < 30)) = true := by rfl)
    (hline : (apos.endLine == cpos.line) = true := by rfl) (hs : starEach [.Constant (.int 0) kk p0] X.env = (false, eval (.Constant (.int 0) kk p0) X.env) :: starEach [] X.env := by rfl) (hpl : (backTo cpos (starEach [] X.env)).any (·.1) = false := by rfl) :
    SE X C (.Call (.Attribute o (Str.ofString "pop") apos) [.Constant (.int 0) kk p0] [] cpos) (.mth .pop0 io []) := by
  refine pe_imp (pe_bm PySem.F.plainAttrs_list PySem.F.slot_list_pop PySem.F.type_list_pop mt_popAt ho (pa_cons pe_int pa_nil hs) hbase hfew hline hs hpl) fun σ H Q ⟨ρ, env, st, v, st', rs, re, ev, k⟩ => ?_
  obtain ⟨x, s1, vs, s2, e1, hk, e2, ev⟩ := mth_ev ev
  obtain ⟨n, ys, rfl, hn⟩ := mthOk_pop0 hk
  simp only [Ir.evals] at e2
  cases e2
  refine ⟨ρ, env, st, _, _, rs, re, e1, fun ρ1 H1 X1 x1 rs1 rx => ⟨tyV_lst rs1 rx hn, ?_⟩⟩
  have w0 : Ir.mPop0 n s1 [] = .ok v st' := ev
  clear ev
  simp only [Ir.mPop0] at w0
  split at w0
  · rename_i y ys hx
    cases w0
    obtain ⟨a, rfl, h1, zs, h2, h3, h4⟩ := RV.cell rs1 rx hx (by simp)
    cases h4 with
    | cons r0 rr =>
      rename_i w ws
      refine ⟨a, w :: ws, 0, 0, w, rfl, rfl, h2, by decide, by decide, by simp [seqIndex?], rfl, ?_⟩
      have wr : Ext ρ1 H1 ρ1 (upd H1 a (.lst ws)) := .write rs1 h1 _
      have hwz : ws.length ≤ sizeLine := by simp at h3; omega
      exact k ρ1 _ _ (x1.trans wr) (rs1.write h1 ⟨ws, upd_same, hwz, rr.mono wr⟩) (r0.mono wr)
  · cases w0
end Snd

namespace Prog
abbrev f_renamed_c0 : Ir.Ex := .call "renamed" [.var 4, .var 1]
def f_renamed : Ir.Fn := ⟨5, 2, [.asg (.star [2] 3 []) (.var 0),
    .ite (.cmp .eq (.var 2) (.con (.str "free"))) [.ret (.tup [.con (.str "free"), .mth .setdefault (.var 1) [.idx (.var 3) (.con (.int 0)), .blt .len [.var 1]]])] [],
    .ret (.bin .add (.tup [.var 2]) (.blt .tuple [.comp (f_renamed_c0) (.name 4) (.var 3) []]))]⟩
abbrev f_named_c0 : Ir.Ex := .call "renamed" [.var 2, .var 1]
def f_named : Ir.Fn := ⟨3, 1, [.asg (.name 1) (.newD),
    .ret (.comp (f_named_c0) (.name 2) (.var 0) [])]⟩
abbrev f_seen_b0 : List Ir.Stm := [.asg (.name 0) (.idx (.var 1) (.idx (.var 0) (.con (.int 1))))]
abbrev f_seen_w0 : Ir.Ex := .and (.cmp .eq (.idx (.var 0) (.con (.int 0))) (.con (.str "free"))) (.cmp .isin (.idx (.var 0) (.con (.int 1))) (.var 1))
def f_seen : Ir.Fn := ⟨2, 2, [.while (f_seen_w0) f_seen_b0,
    .ret (.var 0)]⟩
abbrev f_stands_in_c0 : Ir.Ex := .call "stands_in" [.var 0, .var 5, .var 2]
def f_stands_in : Ir.Fn := ⟨6, 3, [.asg (.star [3] 4 []) (.call "seen" [.var 1, .var 2]),
    .ite (.cmp .eq (.var 3) (.con (.str "free"))) [.ret (.cmp .eq (.idx (.var 4) (.con (.int 0))) (.var 0))] [],
    .ret (.blt .any [.comp (f_stands_in_c0) (.name 5) (.var 4) []])]⟩
abbrev f_made_alike_b0 : List Ir.Stm := [.asg (.tup [.name 4, .name 5]) (.mth .pop (.var 3) []),
    .par 4 5 (.call "seen" [.var 4, .var 2]) (.call "seen" [.var 5, .var 2]),
    .ite (.cmp .eq (.var 4) (.var 5)) [.cnt] [],
    .ite (.cmp .eq (.idx (.var 5) (.con (.int 0))) (.con (.str "free"))) [.par 4 5 (.var 5) (.var 4)] [],
    .ite (.cmp .eq (.idx (.var 4) (.con (.int 0))) (.con (.str "free"))) [.ite (.call "stands_in" [.idx (.var 4) (.con (.int 1)), .var 5, .var 2]) [.ret (.con (.bool false))] [],
    .set (.var 2) (.idx (.var 4) (.con (.int 1))) (.var 5)] [.ite (.cmp .ne (.idx (.var 4) (.con (.int 0))) (.idx (.var 5) (.con (.int 0)))) [.ret (.con (.bool false))] [.ex (.mth .extend (.var 3) [.blt .lzip [.sli (.var 4) (some (.con (.int 1))) none, .sli (.var 5) (some (.con (.int 1))) none]])]]]
abbrev f_made_alike_w0 : Ir.Ex := .cmp .ne (.var 3) (.lst [])
def f_made_alike : Ir.Fn := ⟨6, 3, [.asg (.name 3) (.newL (.lst [.tup [.var 0, .var 1]])),
    .while (f_made_alike_w0) f_made_alike_b0,
    .ret (.con (.bool true))]⟩
abbrev f_filled_c0 : Ir.Ex := .call "filled" [.var 4, .var 1]
def f_filled : Ir.Fn := ⟨5, 2, [.asg (.star [2] 3 []) (.call "seen" [.var 0, .var 1]),
    .ite (.cmp .eq (.var 2) (.con (.str "free"))) [.ret (.tup [.var 2, .idx (.var 3) (.con (.int 0))])] [],
    .ret (.bin .add (.tup [.var 2]) (.blt .tuple [.comp (f_filled_c0) (.name 4) (.var 3) []]))]⟩
def f_alike : Ir.Fn := ⟨3, 2, [.asg (.name 2) (.newD),
    .ite (.not (.call "made_alike" [.var 0, .var 1, .var 2])) [.ret (.con .non)] [],
    .ret (.idx (.call "named" [.lst [.call "filled" [.var 0, .var 2]]]) (.con (.int 0)))]⟩
abbrev f_law_bag_b0 : List Ir.Stm := [.asg (.name 1) (.bin .mod (.bin .add (.bin .add (.bin .mul (.var 1) (.con (.int 48271))) (.bin .mod (.var 2) (.con (.int 2147483629)))) (.con (.int 1))) (.con (.int 2147483647)))]
abbrev f_law_bag_c0 : Ir.Ex := .bin .mod (.blt .abs [.var 2]) (.bin .pow (.bin .pow (.con (.int 10)) (.con (.int 60))) (.con (.int 10)))
def f_law_bag : Ir.Fn := ⟨3, 1, [.asg (.name 1) (.con (.int 19)),
    .loop (.name 2) (.sli (.var 0) none (some (.con (.int 63)))) f_law_bag_b0,
    .ret (.newL (.lst [.comp (f_law_bag_c0) (.name 2) (.sli (.var 0) none (some (.con (.int 63)))) [], .con (.int 0), .con (.int 0), .var 1, .con (.int 0)]))]⟩
abbrev f_law_stirred_b0 : List Ir.Stm := [.set (.var 0) (.con (.int 4)) (.bin .add (.idx (.var 0) (.con (.int 4))) (.con (.int 1))),
    .set (.var 0) (.con (.int 3)) (.bin .mod (.bin .add (.bin .add (.bin .add (.bin .pow (.idx (.var 0) (.con (.int 3))) (.con (.int 3))) (.bin .mul (.con (.int 69621)) (.idx (.var 0) (.con (.int 3))))) (.bin .mul (.con (.int 1031)) (.idx (.var 0) (.con (.int 4))))) (.con (.int 1))) (.con (.int 2147483647))),
    .asg (.name 2) (.bin .add (.bin .mul (.var 2) (.con (.int 134217728))) (.bin .fdiv (.idx (.var 0) (.con (.int 3))) (.con (.int 16))))]
def f_law_stirred : Ir.Fn := ⟨4, 2, [.asg (.name 2) (.con (.int 0)),
    .loop (.name 3) (.blt .range [.bin .add (.con (.int 1)) (.bin .fdiv (.mth .bit_length (.var 1) []) (.con (.int 27)))]) f_law_stirred_b0,
    .ret (.bin .mod (.var 2) (.var 1))]⟩
def f_law_draw : Ir.Fn := ⟨3, 2, [.ite (.and (.cmp .eq (.idx (.var 0) (.con (.int 2))) (.con (.int 0))) (.cmp .lt (.idx (.var 0) (.con (.int 1))) (.blt .len [.idx (.var 0) (.con (.int 0))]))) [.set (.var 0) (.con (.int 2)) (.idx (.idx (.var 0) (.con (.int 0))) (.idx (.var 0) (.con (.int 1)))),
    .set (.var 0) (.con (.int 1)) (.bin .add (.idx (.var 0) (.con (.int 1))) (.con (.int 1)))] [.ite (.cmp .eq (.idx (.var 0) (.con (.int 2))) (.con (.int 0))) [.ret (.call "_law_stirred" [.var 0, .var 1])] []],
    .asg (.name 2) (.bin .mod (.idx (.var 0) (.con (.int 2))) (.var 1)),
    .set (.var 0) (.con (.int 2)) (.bin .fdiv (.idx (.var 0) (.con (.int 2))) (.var 1)),
    .ret (.var 2)]⟩
abbrev f_law_alike_c0 : Ir.Ex := .call "_law_alike" [.idx (.var 0) (.var 2), .idx (.var 1) (.var 2)]
def f_law_alike : Ir.Fn := ⟨3, 2, [.ite (.isi (.var 1) [.list, .tuple]) [.ite (.or (.not (.isi (.var 0) [.list, .tuple])) (.cmp .ne (.isi (.var 0) [.list]) (.isi (.var 1) [.list]))) [.ret (.con (.bool false))] [],
    .ite (.cmp .ne (.blt .len [.var 0]) (.blt .len [.var 1])) [.ret (.con (.bool false))] [],
    .ret (.blt .all [.comp (f_law_alike_c0) (.name 2) (.blt .range [.blt .len [.var 1]]) []])] [],
    .ite (.or (.cmp .ne (.isi (.var 0) [.bool]) (.isi (.var 1) [.bool])) (.cmp .ne (.isi (.var 0) [.int]) (.isi (.var 1) [.int]))) [.ret (.con (.bool false))] [],
    .ret (.and (.cmp .eq (.isi (.var 0) [.str]) (.isi (.var 1) [.str])) (.cmp .eq (.var 0) (.var 1)))]⟩
def f_law_any_kind : Ir.Fn := ⟨6, 3, [.asg (.name 3) (.call "_law_draw" [.var 0, .con (.int 8)]),
    .ite (.or (.cmp .lt (.var 2) (.con (.int 2))) (.cmp .lt (.var 3) (.con (.int 2)))) [.ite (.and (.cmp .ne (.var 1) (.lst [])) (.cmp .gt (.call "_law_draw" [.var 0, .con (.int 4)]) (.con (.int 0)))) [.ret (.tup [.con (.str "free"), .idx (.var 1) (.call "_law_draw" [.var 0, .blt .len [.var 1]])])] [],
    .ret (.idx (.lst [.tup [.con (.str "int")], .tup [.con (.str "bool")]]) (.call "_law_draw" [.var 0, .con (.int 2)]))] [],
    .ite (.or (.cmp .lt (.var 2) (.con (.int 3))) (.cmp .eq (.var 3) (.con (.int 2)))) [.ret (.tup [.con (.str "list"), .call "_law_any_kind" [.var 0, .var 1, .bin .sub (.var 2) (.con (.int 1))]])] [],
    .asg (.name 4) (.bin .add (.con (.int 1)) (.call "_law_draw" [.var 0, .bin .sub (.var 2) (.con (.int 2))])),
    .asg (.name 5) (.call "_law_any_kind" [.var 0, .var 1, .var 4]),
    .ret (.tup [.idx (.lst [.con (.str "fn"), .con (.str "pair")]) (.bin .mod (.var 3) (.con (.int 2))), .var 5, .call "_law_any_kind" [.var 0, .var 1, .bin .sub (.bin .sub (.var 2) (.con (.int 1))) (.var 4)]])]⟩
abbrev f_law_numbers_c0 : Ir.Ex := .bin .add (.var 1) (.bin .mul (.var 2) (.bin .add (.con (.int 1)) (.call "_law_draw" [.var 0, .con (.int 3)])))
def f_law_numbers : Ir.Fn := ⟨3, 1, [.asg (.name 1) (.call "_law_draw" [.var 0, .idx (.lst [.con (.int 1), .con (.int 1), .con (.int 10), .bin .pow (.con (.int 10)) (.con (.int 50))]) (.call "_law_draw" [.var 0, .con (.int 4)])]),
    .ret (.comp (f_law_numbers_c0) (.name 2) (.blt .range [.bin .add (.con (.int 1)) (.call "_law_draw" [.var 0, .con (.int 5)])]) [])]⟩
abbrev f_law_put_in_c0 : Ir.Ex := .call "_law_put_in" [.var 2, .var 1]
def f_law_put_in : Ir.Fn := ⟨3, 2, [.ite (.cmp .eq (.idx (.var 0) (.con (.int 0))) (.con (.str "free"))) [.ret (.mth .get (.var 1) [.idx (.var 0) (.con (.int 1)), .var 0])] [],
    .ret (.bin .add (.sli (.var 0) none (some (.con (.int 1)))) (.blt .tuple [.comp (f_law_put_in_c0) (.name 2) (.sli (.var 0) (some (.con (.int 1))) none) []]))]⟩
abbrev f_law_frees_c0 : Ir.Ex := .var 3
abbrev f_law_frees_k0 : List Ir.Ex := [.cmp .notin (.var 3) (.var 1)]
abbrev f_law_frees_b0 : List Ir.Stm := [.asg (.name 1) (.bin .add (.var 1) (.comp (f_law_frees_c0) (.name 3) (.call "_law_frees" [.var 2]) f_law_frees_k0))]
def f_law_frees : Ir.Fn := ⟨4, 1, [.ite (.cmp .eq (.idx (.var 0) (.con (.int 0))) (.con (.str "free"))) [.ret (.lst [.idx (.var 0) (.con (.int 1))])] [],
    .asg (.name 1) (.lst []),
    .loop (.name 2) (.sli (.var 0) (some (.con (.int 1))) none) f_law_frees_b0,
    .ret (.var 1)]⟩
abbrev f_law_parts_c0 : Ir.Ex := .call "_law_parts" [.var 1]
abbrev f_law_parts_k0 : List Ir.Ex := [.isi (.var 1) [.tuple]]
def f_law_parts : Ir.Fn := ⟨2, 1, [.ret (.bin .add (.con (.int 1)) (.blt .sum [.comp (f_law_parts_c0) (.name 1) (.sli (.var 0) (some (.con (.int 1))) none) f_law_parts_k0]))]⟩
def f_law_bent_kind : Ir.Fn := ⟨4, 3, [.ite (.and (.cmp .gt (.blt .len [.var 1]) (.con (.int 1))) (.and (.cmp .ne (.idx (.var 1) (.con (.int 0))) (.con (.str "free"))) (.cmp .gt (.call "_law_draw" [.var 0, .con (.int 3)]) (.con (.int 0))))) [.asg (.name 3) (.bin .add (.con (.int 1)) (.call "_law_draw" [.var 0, .bin .sub (.blt .len [.var 1]) (.con (.int 1))])),
    .ret (.bin .add (.bin .add (.sli (.var 1) none (some (.var 3))) (.tup [.call "_law_bent_kind" [.var 0, .idx (.var 1) (.var 3), .var 2]])) (.sli (.var 1) (some (.bin .add (.var 3) (.con (.int 1)))) none))] [],
    .ret (.call "_law_any_kind" [.var 0, .var 2, .bin .add (.con (.int 1)) (.call "_law_draw" [.var 0, .con (.int 3)])])]⟩
abbrev f_law_named_b0 : List Ir.Stm := [.ite (.cmp .notin (.var 3) (.var 1)) [.set (.var 1) (.var 3) (.tup [.con (.str "free"), .blt .len [.var 1]])] []]
abbrev f_law_named_b1 : List Ir.Stm := [.loop (.name 3) (.call "_law_frees" [.var 2]) f_law_named_b0]
abbrev f_law_named_c0 : Ir.Ex := .call "_law_put_in" [.var 2, .var 1]
def f_law_named : Ir.Fn := ⟨4, 1, [.asg (.name 1) (.newD),
    .loop (.name 2) (.var 0) f_law_named_b1,
    .ret (.comp (f_law_named_c0) (.name 2) (.var 0) [])]⟩
abbrev f_law_joined_c0 : Ir.Ex := .tup [.idx (.var 4) (.var 10), .idx (.var 5) (.var 10)]
abbrev f_law_joined_c1 : Ir.Ex := .tup [.call "_law_put_in" [.var 8, .newDd [.var 6, .var 7]], .call "_law_put_in" [.var 9, .newDd [.var 6, .var 7]]]
abbrev f_law_joined_b0 : List Ir.Stm := [.asg (.tup [.name 4, .name 5]) (.mth .pop0 (.var 2) []),
    .ite (.cmp .ne (.var 4) (.var 5)) [.ite (.and (.cmp .ne (.idx (.var 4) (.con (.int 0))) (.con (.str "free"))) (.cmp .ne (.idx (.var 5) (.con (.int 0))) (.con (.str "free")))) [.ite (.cmp .ne (.idx (.var 4) (.con (.int 0))) (.idx (.var 5) (.con (.int 0)))) [.ret (.con .non)] [],
    .asg (.name 2) (.newL (.bin .add (.comp (f_law_joined_c0) (.name 10) (.blt .range [.con (.int 1), .blt .len [.var 4]]) []) (.var 2)))] [.asg (.tup [.name 6, .name 7]) (.ite (.cmp .eq (.idx (.var 4) (.con (.int 0))) (.con (.str "free"))) (.tup [.idx (.var 4) (.con (.int 1)), .var 5]) (.tup [.idx (.var 5) (.con (.int 1)), .var 4])),
    .ite (.cmp .isin (.var 6) (.call "_law_frees" [.var 7])) [.ret (.con .non)] [],
    .asg (.name 2) (.newL (.comp (f_law_joined_c1) (.tup [.name 8, .name 9]) (.frz (.var 2)) [])),
    .asg (.name 3) (.call "_law_put_in" [.var 3, .newDd [.var 6, .var 7]])]] []]
abbrev f_law_joined_w0 : Ir.Ex := .cmp .ne (.var 2) (.lst [])
def f_law_joined : Ir.Fn := ⟨11, 2, [.asg (.name 2) (.newL (.lst [.tup [.var 0, .var 1]])),
    .asg (.name 3) (.var 0),
    .while (f_law_joined_w0) f_law_joined_b0,
    .ret (.var 3)]⟩
abbrev f_law_loosened_c0 : Ir.Ex := .call "_law_loosened" [.var 0, .var 3, .var 2]
def f_law_loosened : Ir.Fn := ⟨4, 3, [.ite (.cmp .eq (.call "_law_draw" [.var 0, .con (.int 5)]) (.con (.int 0))) [.ret (.tup [.con (.str "free"), .idx (.var 2) (.call "_law_draw" [.var 0, .blt .len [.var 2]])])] [],
    .ite (.or (.cmp .eq (.idx (.var 1) (.con (.int 0))) (.con (.str "free"))) (.cmp .lt (.blt .len [.var 1]) (.con (.int 2)))) [.ret (.var 1)] [],
    .ret (.bin .add (.sli (.var 1) none (some (.con (.int 1)))) (.blt .tuple [.comp (f_law_loosened_c0) (.name 3) (.sli (.var 1) (some (.con (.int 1))) none) []]))]⟩
abbrev f_law_pair_c0 : Ir.Ex := .bin .add (.var 7) (.con (.int 1000))
abbrev f_law_pair_c1 : Ir.Ex := .tup [.var 7, .call "_law_any_kind" [.var 0, .var 3, .con (.int 3)]]
def f_law_pair : Ir.Fn := ⟨8, 1, [.asg (.name 1) (.call "_law_draw" [.var 0, .con (.int 6)]),
    .asg (.name 2) (.call "_law_numbers" [.var 0]),
    .asg (.name 3) (.ite (.cmp .eq (.call "_law_draw" [.var 0, .con (.int 2)]) (.con (.int 0))) (.var 2) (.comp (f_law_pair_c0) (.name 7) (.var 2) [])),
    .asg (.name 4) (.call "_law_any_kind" [.var 0, .var 2, .bin .add (.con (.int 1)) (.call "_law_draw" [.var 0, .con (.int 16)])]),
    .ite (.cmp .eq (.var 1) (.con (.int 0))) [.ret (.tup [.var 4, .call "_law_any_kind" [.var 0, .var 3, .bin .add (.con (.int 1)) (.call "_law_draw" [.var 0, .con (.int 16)])]])] [],
    .ite (.cmp .eq (.var 1) (.con (.int 1))) [.asg (.name 5) (.newDP (.comp (f_law_pair_c1) (.name 7) (.call "_law_frees" [.var 4]) [])),
    .asg (.name 6) (.call "_law_put_in" [.var 4, .var 5])] [.ite (.cmp .eq (.var 1) (.con (.int 2))) [.asg (.name 6) (.call "_law_bent_kind" [.var 0, .var 4, .var 3])] [.asg (.name 6) (.call "_law_loosened" [.var 0, .var 4, .var 3]),
    .asg (.name 4) (.ite (.cmp .gt (.var 1) (.con (.int 3))) (.call "_law_loosened" [.var 0, .var 4, .var 2]) (.var 4))]],
    .ret (.ite (.cmp .le (.call "_law_parts" [.var 6]) (.con (.int 16))) (.tup [.var 4, .var 6]) (.tup [.var 4, .var 4]))]⟩
abbrev f_law_b0 : List Ir.Stm := [.asg (.tup [.name 3, .name 4]) (.call "_law_pair" [.var 1]),
    .asg (.name 5) (.call "_law_joined" [.var 3, .var 4]),
    .asg (.name 6) (.lst [.call "alike" [.var 3, .var 4], .callP "alike" [.var 4, .var 3] [1, 0], .call "alike" [.var 3, .var 3]]),
    .asg (.name 7) (.call "alike" [.var 4, .var 3]),
    .ite (.cmp .is (.var 5) (.con .non)) [.ite (.or (.cmp .ne (.sli (.var 6) none (some (.con (.int 2)))) (.lst [.con .non, .con .non])) (.or (.cmp .isnot (.var 7) (.con .non)) (.not (.call "_law_alike" [.idx (.var 6) (.con (.int 2)), .idx (.call "_law_named" [.lst [.var 3]]) (.con (.int 0))])))) [.ret (.con (.bool false))] []] [.asg (.name 5) (.idx (.call "_law_named" [.lst [.var 5]]) (.con (.int 0))),
    .ite (.or (.not (.call "_law_alike" [.var 6, .lst [.var 5, .var 5, .idx (.call "_law_named" [.lst [.var 3]]) (.con (.int 0))]])) (.not (.call "_law_alike" [.var 7, .var 5]))) [.ret (.con (.bool false))] []]]
def f_law : Ir.Fn := ⟨8, 1, [.asg (.name 1) (.call "_law_bag" [.var 0]),
    .loop (.name 2) (.blt .range [.bin .add (.con (.int 2)) (.blt .min [.con (.int 3), .bin .fdiv (.blt .len [.var 0]) (.con (.int 8))])]) f_law_b0,
    .ret (.con (.bool true))]⟩
def tab : List (String × Ir.Fn) := [("renamed", f_renamed), ("named", f_named), ("seen", f_seen), ("stands_in", f_stands_in), ("made_alike", f_made_alike), ("filled", f_filled), ("alike", f_alike), ("_law_bag", f_law_bag), ("_law_stirred", f_law_stirred), ("_law_draw", f_law_draw), ("_law_alike", f_law_alike), ("_law_any_kind", f_law_any_kind), ("_law_numbers", f_law_numbers), ("_law_put_in", f_law_put_in), ("_law_frees", f_law_frees), ("_law_parts", f_law_parts), ("_law_bent_kind", f_law_bent_kind), ("_law_named", f_law_named), ("_law_joined", f_law_joined), ("_law_loosened", f_law_loosened), ("_law_pair", f_law_pair), ("law", f_law)]
def T : Ir.Tab := Ir.tabOf tab
theorem T_f_renamed : T "renamed" = some f_renamed := by simp [T, Ir.tabOf, tab, List.lookup]
theorem T_f_named : T "named" = some f_named := by simp [T, Ir.tabOf, tab, List.lookup]
theorem T_f_seen : T "seen" = some f_seen := by simp [T, Ir.tabOf, tab, List.lookup]
theorem T_f_stands_in : T "stands_in" = some f_stands_in := by simp [T, Ir.tabOf, tab, List.lookup]
theorem T_f_made_alike : T "made_alike" = some f_made_alike := by simp [T, Ir.tabOf, tab, List.lookup]
theorem T_f_filled : T "filled" = some f_filled := by simp [T, Ir.tabOf, tab, List.lookup]
theorem T_f_alike : T "alike" = some f_alike := by simp [T, Ir.tabOf, tab, List.lookup]
theorem T_f_law_bag : T "_law_bag" = some f_law_bag := by simp [T, Ir.tabOf, tab, List.lookup]
theorem T_f_law_stirred : T "_law_stirred" = some f_law_stirred := by simp [T, Ir.tabOf, tab, List.lookup]
theorem T_f_law_draw : T "_law_draw" = some f_law_draw := by simp [T, Ir.tabOf, tab, List.lookup]
theorem T_f_law_alike : T "_law_alike" = some f_law_alike := by simp [T, Ir.tabOf, tab, List.lookup]
theorem T_f_law_any_kind : T "_law_any_kind" = some f_law_any_kind := by simp [T, Ir.tabOf, tab, List.lookup]
theorem T_f_law_numbers : T "_law_numbers" = some f_law_numbers := by simp [T, Ir.tabOf, tab, List.lookup]
theorem T_f_law_put_in : T "_law_put_in" = some f_law_put_in := by simp [T, Ir.tabOf, tab, List.lookup]
theorem T_f_law_frees : T "_law_frees" = some f_law_frees := by simp [T, Ir.tabOf, tab, List.lookup]
theorem T_f_law_parts : T "_law_parts" = some f_law_parts := by simp [T, Ir.tabOf, tab, List.lookup]
theorem T_f_law_bent_kind : T "_law_bent_kind" = some f_law_bent_kind := by simp [T, Ir.tabOf, tab, List.lookup]
theorem T_f_law_named : T "_law_named" = some f_law_named := by simp [T, Ir.tabOf, tab, List.lookup]
theorem T_f_law_joined : T "_law_joined" = some f_law_joined := by simp [T, Ir.tabOf, tab, List.lookup]
theorem T_f_law_loosened : T "_law_loosened" = some f_law_loosened := by simp [T, Ir.tabOf, tab, List.lookup]
theorem T_f_law_pair : T "_law_pair" = some f_law_pair := by simp [T, Ir.tabOf, tab, List.lookup]
theorem T_f_law : T "law" = some f_law := by simp [T, Ir.tabOf, tab, List.lookup]
end Prog

namespace Prog
open PySem PySem.Spec PyProof.Rows L2 Snd
/-! ### the text by places -/
def topS (i : Nat) : Stmt := PySem.Challenge.pw_leastmends_k12_made_alike.main.body.getD i (.Pass ⟨0, 0, 0, 0⟩)
abbrev sf_renamed : Stmt := topS 1
abbrev sf_named : Stmt := topS 2
abbrev sf_seen : Stmt := topS 3
abbrev sf_stands_in : Stmt := topS 4
abbrev sf_made_alike : Stmt := topS 5
abbrev sf_filled : Stmt := topS 6
abbrev sf_alike : Stmt := topS 7
abbrev sf_law_bag : Stmt := topS 9
abbrev sf_law_stirred : Stmt := topS 10
abbrev sf_law_draw : Stmt := topS 11
abbrev sf_law_alike : Stmt := topS 12
abbrev sf_law_any_kind : Stmt := topS 13
abbrev sf_law_numbers : Stmt := topS 14
abbrev sf_law_put_in : Stmt := topS 15
abbrev sf_law_frees : Stmt := topS 16
abbrev sf_law_parts : Stmt := topS 17
abbrev sf_law_bent_kind : Stmt := topS 18
abbrev sf_law_named : Stmt := topS 19
abbrev sf_law_joined : Stmt := topS 20
abbrev sf_law_loosened : Stmt := topS 21
abbrev sf_law_pair : Stmt := topS 22
abbrev sf_law : Stmt := topS 23
def bn : List String := ["abs", "all", "any", "bool", "dict", "int", "isinstance", "len", "list", "min", "range", "str", "sum", "tuple", "zip"]
def KW : List Kw := [("alike", 0, ["two", "one"], [1, 0])]
end Prog

namespace Prog
open PySem PySem.Spec PyProof.Rows L2 Snd
section
variable {P : Program} {w : World} {K : PySem.W.Frag} {mg : Str → Option Value} {base : Heap}
theorem scf_renamed : FnScope ["one", "numbers", "head", "parts", "part"] ["one", "numbers"] (defScope sf_renamed) := ⟨rfl, rfl, rfl, by decide +kernel, rfl, by decide +kernel, by decide +kernel⟩
theorem okf_renamed {n : Nat} {a : Addr} {fd : FuncData} (F : Fun K "renamed" "renamed" sf_renamed a fd) (ft : FT T KW n P w K mg base) (mb : ∀ s ∈ bn, mg (Str.ofString s) = none) : FnOk P w K mg base CX0 (n + 1) a fd ["one", "numbers"] (spI T (n + 1) K "renamed") :=
  have nd := (scf_renamed).nd
  fn_ok F scf_renamed T_f_renamed rfl rfl fun cdv A outer s H E hr =>
    (ss_cons (ss_asg (se_var 0) (sg_star (pre := [2]) (post := []) rfl (sns_cons 2 nd (sns_star 3 nd sns_nil))))
      (ss_cons (ss_if (st_cmp (cmp_eq hr) (se_var 2) se_str) (ss_cons (ss_ret (se_tup (ses_cons se_str (ses_cons (se_setdefault (se_var 1) (se_idx hr (se_var 3) se_int) (se_blt blt_len (ses_cons (se_var 1) ses_nil) (mb "len" (by decide)) bv_len)) ses_nil))))
      ss_nil) ss_nil)
      (ss_cons (ss_ret (se_bin bin_add (se_tup (ses_cons (se_var 2) ses_nil)) (se_bltT blt_tuple (ses_cons (se_list is_comp (sn_comp [("part", 4)] rfl nd (si_seq (se_var 3)) (blkOk_by (N := ["one", "numbers", "head", "parts", "part"]) (sc := defScope sf_renamed) (by decide +kernel)) (fun _ _ _ _ _ => (sg_name 4 nd)) (fun _ _ _ _ _ => sc_nil) (fun _ _ _ _ _ => (se_call ft T_f_renamed hr (ses_cons (se_var 4) (ses_cons (se_var 1) ses_nil)))))) ses_nil) (mb "tuple" (by decide)) bv_tuple)))
      ss_nil)))
end
end Prog

namespace Prog
open PySem PySem.Spec PyProof.Rows L2 Snd
section
variable {P : Program} {w : World} {K : PySem.W.Frag} {mg : Str → Option Value} {base : Heap}
theorem scf_named : FnScope ["types", "numbers", "one"] ["types"] (defScope sf_named) := ⟨rfl, rfl, rfl, by decide +kernel, rfl, by decide +kernel, by decide +kernel⟩
theorem okf_named {n : Nat} {a : Addr} {fd : FuncData} (F : Fun K "named" "named" sf_named a fd) (ft : FT T KW n P w K mg base) (mb : ∀ s ∈ bn, mg (Str.ofString s) = none) : FnOk P w K mg base CX0 (n + 1) a fd ["types"] (spI T (n + 1) K "named") :=
  have nd := (scf_named).nd
  fn_ok F scf_named T_f_named rfl rfl fun cdv A outer s H E hr =>
    (ss_cons (ss_set 1 nd se_newD)
      (ss_cons (ss_ret (se_list is_comp (sn_comp [("one", 2)] rfl nd (si_seq (se_var 0)) (blkOk_by (N := ["types", "numbers", "one"]) (sc := defScope sf_named) (by decide +kernel)) (fun _ _ _ _ _ => (sg_name 2 nd)) (fun _ _ _ _ _ => sc_nil) (fun _ _ _ _ _ => (se_call ft T_f_renamed hr (ses_cons (se_var 2) (ses_cons (se_var 1) ses_nil)))))))
      ss_nil))
end
end Prog

namespace Prog
open PySem PySem.Spec PyProof.Rows L2 Snd
section
variable {P : Program} {w : World} {K : PySem.W.Frag} {mg : Str → Option Value} {base : Heap}
theorem scf_seen : FnScope ["one", "filling"] ["one", "filling"] (defScope sf_seen) := ⟨rfl, rfl, rfl, by decide +kernel, rfl, by decide +kernel, by decide +kernel⟩
theorem okf_seen {n : Nat} {a : Addr} {fd : FuncData} (F : Fun K "seen" "seen" sf_seen a fd) (ft : FT T KW n P w K mg base) (mb : ∀ s ∈ bn, mg (Str.ofString s) = none) : FnOk P w K mg base CX0 (n + 1) a fd ["one", "filling"] (spI T (n + 1) K "seen") :=
  have nd := (scf_seen).nd
  fn_ok F scf_seen T_f_seen rfl rfl fun cdv A outer s H E hr =>
    (ss_cons (ss_while PassesOwn.never (st_w (sw_and (st_cmp (cmp_eq hr) (se_idx hr (se_var 0) se_int) se_str) (sw_and1 (st_in hr (se_idx hr (se_var 0) se_int) (se_var 1))))) (ss_cons (ss_set 0 nd (se_idx hr (se_var 1) (se_idx hr (se_var 0) se_int)))
      ss_nil))
      (ss_cons (ss_ret (se_var 0))
      ss_nil))
end
end Prog

namespace Prog
open PySem PySem.Spec PyProof.Rows L2 Snd
section
variable {P : Program} {w : World} {K : PySem.W.Frag} {mg : Str → Option Value} {base : Heap}
theorem scf_stands_in : FnScope ["number", "one", "filling", "head", "parts", "part"] ["number", "one", "filling"] (defScope sf_stands_in) := ⟨rfl, rfl, rfl, by decide +kernel, rfl, by decide +kernel, by decide +kernel⟩
theorem okf_stands_in {n : Nat} {a : Addr} {fd : FuncData} (F : Fun K "stands_in" "stands_in" sf_stands_in a fd) (ft : FT T KW n P w K mg base) (mb : ∀ s ∈ bn, mg (Str.ofString s) = none) : FnOk P w K mg base CX0 (n + 1) a fd ["number", "one", "filling"] (spI T (n + 1) K "stands_in") :=
  have nd := (scf_stands_in).nd
  fn_ok F scf_stands_in T_f_stands_in rfl rfl fun cdv A outer s H E hr =>
    (ss_cons (ss_asg (se_call ft T_f_seen hr (ses_cons (se_var 1) (ses_cons (se_var 2) ses_nil))) (sg_star (pre := [3]) (post := []) rfl (sns_cons 3 nd (sns_star 4 nd sns_nil))))
      (ss_cons (ss_if (st_cmp (cmp_eq hr) (se_var 3) se_str) (ss_cons (ss_ret (se_cmp (cmp_eq hr) (se_idx hr (se_var 4) se_int) (se_var 0)))
      ss_nil) ss_nil)
      (ss_cons (ss_ret (se_blt (blt_any rfl) (ses_cons (se_list is_comp (sn_comp [("part", 5)] rfl nd (si_seq (se_var 4)) (blkOk_by (N := ["number", "one", "filling", "head", "parts", "part"]) (sc := defScope sf_stands_in) (by decide +kernel)) (fun _ _ _ _ _ => (sg_name 5 nd)) (fun _ _ _ _ _ => sc_nil) (fun _ _ _ _ _ => (se_call ft T_f_stands_in hr (ses_cons (se_var 0) (ses_cons (se_var 5) (ses_cons (se_var 2) ses_nil))))))) ses_nil) (mb "any" (by decide)) bv_any))
      ss_nil)))
end
end Prog

namespace Prog
open PySem PySem.Spec PyProof.Rows L2 Snd
section
variable {P : Program} {w : World} {K : PySem.W.Frag} {mg : Str → Option Value} {base : Heap}
theorem scf_made_alike : FnScope ["one", "two", "filling", "waiting", "left", "right"] ["one", "two", "filling"] (defScope sf_made_alike) := ⟨rfl, rfl, rfl, by decide +kernel, rfl, by decide +kernel, by decide +kernel⟩
theorem okf_made_alike {n : Nat} {a : Addr} {fd : FuncData} (F : Fun K "made_alike" "made_alike" sf_made_alike a fd) (ft : FT T KW n P w K mg base) (mb : ∀ s ∈ bn, mg (Str.ofString s) = none) : FnOk P w K mg base CX0 (n + 1) a fd ["one", "two", "filling"] (spI T (n + 1) K "made_alike") :=
  have nd := (scf_made_alike).nd
  fn_ok F scf_made_alike T_f_made_alike rfl rfl fun cdv A outer s H E hr =>
    (ss_cons (ss_set 3 nd (se_newL (sn_lst (ses_cons (se_tup (ses_cons (se_var 0) (ses_cons (se_var 1) ses_nil))) ses_nil))))
      (ss_cons (ss_while PassesOwn.never (st_cmp (cmp_ne hr) (se_var 3) (se_list is_lst (sn_lst ses_nil))) (ss_cons (ss_asg (se_pop (se_var 3)) (sg_tup rfl (sgs_cons (sg_name 4 nd) (sgs_cons (sg_name 5 nd) sgs_nil)) (puts_len _)))
      (ss_cons (ss_par 4 5 rfl nd (se_call ft T_f_seen hr (ses_cons (se_var 4) (ses_cons (se_var 2) ses_nil))) (se_call ft T_f_seen hr (ses_cons (se_var 5) (ses_cons (se_var 2) ses_nil))))
      (ss_cons (ss_if (st_cmp (cmp_eq hr) (se_var 4) (se_var 5)) (ss_cons ss_cnt
      ss_nil) ss_nil)
      (ss_cons (ss_if (st_cmp (cmp_eq hr) (se_idx hr (se_var 5) se_int) se_str) (ss_cons (ss_par 4 5 rfl nd (se_var 5) (se_var 4))
      ss_nil) ss_nil)
      (ss_cons (ss_if (st_cmp (cmp_eq hr) (se_idx hr (se_var 4) se_int) se_str) (ss_cons (ss_if (st_val (se_call ft T_f_stands_in hr (ses_cons (se_idx hr (se_var 4) se_int) (ses_cons (se_var 5) (ses_cons (se_var 2) ses_nil))))) (ss_cons (ss_ret se_bool)
      ss_nil) ss_nil)
      (ss_cons (ss_sub hr (se_var 5) (se_var 2) (se_idx hr (se_var 4) se_int))
      ss_nil)) (ss_cons (ss_if (st_cmp (cmp_ne hr) (se_idx hr (se_var 4) se_int) (se_idx hr (se_var 5) se_int)) (ss_cons (ss_ret se_bool)
      ss_nil) (ss_cons (ss_ex (se_extend (se_var 3) (se_list is_lzip (sn_lzip rfl (se_sli (se_var 4) (so_some se_int) so_none) (se_sli (se_var 5) (so_some se_int) so_none) (mb "list" (by decide)) bv_list (mb "zip" (by decide))))))
      ss_nil))
      ss_nil))
      ss_nil))))))
      (ss_cons (ss_ret se_bool)
      ss_nil)))
end
end Prog

namespace Prog
open PySem PySem.Spec PyProof.Rows L2 Snd
section
variable {P : Program} {w : World} {K : PySem.W.Frag} {mg : Str → Option Value} {base : Heap}
theorem scf_filled : FnScope ["one", "filling", "head", "parts", "part"] ["one", "filling"] (defScope sf_filled) := ⟨rfl, rfl, rfl, by decide +kernel, rfl, by decide +kernel, by decide +kernel⟩
theorem okf_filled {n : Nat} {a : Addr} {fd : FuncData} (F : Fun K "filled" "filled" sf_filled a fd) (ft : FT T KW n P w K mg base) (mb : ∀ s ∈ bn, mg (Str.ofString s) = none) : FnOk P w K mg base CX0 (n + 1) a fd ["one", "filling"] (spI T (n + 1) K "filled") :=
  have nd := (scf_filled).nd
  fn_ok F scf_filled T_f_filled rfl rfl fun cdv A outer s H E hr =>
    (ss_cons (ss_asg (se_call ft T_f_seen hr (ses_cons (se_var 0) (ses_cons (se_var 1) ses_nil))) (sg_star (pre := [2]) (post := []) rfl (sns_cons 2 nd (sns_star 3 nd sns_nil))))
      (ss_cons (ss_if (st_cmp (cmp_eq hr) (se_var 2) se_str) (ss_cons (ss_ret (se_tup (ses_cons (se_var 2) (ses_cons (se_idx hr (se_var 3) se_int) ses_nil))))
      ss_nil) ss_nil)
      (ss_cons (ss_ret (se_bin bin_add (se_tup (ses_cons (se_var 2) ses_nil)) (se_bltT blt_tuple (ses_cons (se_list is_comp (sn_comp [("part", 4)] rfl nd (si_seq (se_var 3)) (blkOk_by (N := ["one", "filling", "head", "parts", "part"]) (sc := defScope sf_filled) (by decide +kernel)) (fun _ _ _ _ _ => (sg_name 4 nd)) (fun _ _ _ _ _ => sc_nil) (fun _ _ _ _ _ => (se_call ft T_f_filled hr (ses_cons (se_var 4) (ses_cons (se_var 1) ses_nil)))))) ses_nil) (mb "tuple" (by decide)) bv_tuple)))
      ss_nil)))
end
end Prog

namespace Prog
open PySem PySem.Spec PyProof.Rows L2 Snd
section
variable {P : Program} {w : World} {K : PySem.W.Frag} {mg : Str → Option Value} {base : Heap}
theorem scf_alike : FnScope ["one", "two", "filling"] ["one", "two"] (defScope sf_alike) := ⟨rfl, rfl, rfl, by decide +kernel, rfl, by decide +kernel, by decide +kernel⟩
theorem okf_alike {n : Nat} {a : Addr} {fd : FuncData} (F : Fun K "alike" "alike" sf_alike a fd) (ft : FT T KW n P w K mg base) (mb : ∀ s ∈ bn, mg (Str.ofString s) = none) : FnOk P w K mg base CX0 (n + 1) a fd ["one", "two"] (spI T (n + 1) K "alike") :=
  have nd := (scf_alike).nd
  fn_ok F scf_alike T_f_alike rfl rfl fun cdv A outer s H E hr =>
    (ss_cons (ss_set 2 nd se_newD)
      (ss_cons (ss_if (st_not (st_val (se_call ft T_f_made_alike hr (ses_cons (se_var 0) (ses_cons (se_var 1) (ses_cons (se_var 2) ses_nil)))))) (ss_cons (ss_ret se_non)
      ss_nil) ss_nil)
      (ss_cons (ss_ret (se_idx hr (se_call ft T_f_named hr (ses_cons (se_list is_lst (sn_lst (ses_cons (se_call ft T_f_filled hr (ses_cons (se_var 0) (ses_cons (se_var 2) ses_nil))) ses_nil))) ses_nil)) se_int))
      ss_nil)))
end
end Prog

namespace Prog
open PySem PySem.Spec PyProof.Rows L2 Snd
section
variable {P : Program} {w : World} {K : PySem.W.Frag} {mg : Str → Option Value} {base : Heap}
theorem scf_law_bag : FnScope ["_law_script", "_law_stir", "_law_cell"] ["_law_script"] (defScope sf_law_bag) := ⟨rfl, rfl, rfl, by decide +kernel, rfl, by decide +kernel, by decide +kernel⟩
theorem okf_law_bag {n : Nat} {a : Addr} {fd : FuncData} (F : Fun K "_law_bag" "_law_bag" sf_law_bag a fd) (ft : FT T KW n P w K mg base) (mb : ∀ s ∈ bn, mg (Str.ofString s) = none) : FnOk P w K mg base CX0 (n + 1) a fd ["_law_script"] (spI T (n + 1) K "_law_bag") :=
  have nd := (scf_law_bag).nd
  fn_ok F scf_law_bag T_f_law_bag rfl rfl fun cdv A outer s H E hr =>
    (ss_cons (ss_set 1 nd se_int)
      (ss_cons (ss_for PassesOwn.never rfl (si_seq (se_sli (se_var 0) so_none (so_some se_int))) (sg_name 2 nd) (ss_cons (ss_set 1 nd (se_bin bin_mod (se_bin bin_add (se_bin bin_add (se_bin bin_mul (se_var 1) se_int) (se_bin bin_mod (se_var 2) se_int)) se_int) se_int))
      ss_nil))
      (ss_cons (ss_ret (se_newL (sn_lst (ses_cons (se_list is_comp (sn_comp [("_law_cell", 2)] rfl nd (si_seq (se_sli (se_var 0) so_none (so_some se_int))) (blkOk_by (N := ["_law_script", "_law_stir", "_law_cell"]) (sc := defScope sf_law_bag) (by decide +kernel)) (fun _ _ _ _ _ => (sg_name 2 nd)) (fun _ _ _ _ _ => sc_nil) (fun _ _ _ _ _ => (se_bin bin_mod (se_blt blt_abs (ses_cons (se_var 2) ses_nil) (mb "abs" (by decide)) bv_abs) (se_bin bin_pow (se_bin bin_pow se_int se_int) se_int))))) (ses_cons se_int (ses_cons se_int (ses_cons (se_var 1) (ses_cons se_int ses_nil))))))))
      ss_nil)))
end
end Prog

namespace Prog
open PySem PySem.Spec PyProof.Rows L2 Snd
section
variable {P : Program} {w : World} {K : PySem.W.Frag} {mg : Str → Option Value} {base : Heap}
theorem scf_law_stirred : FnScope ["_law_bag_here", "_law_many", "_law_found", "_law_k"] ["_law_bag_here", "_law_many"] (defScope sf_law_stirred) := ⟨rfl, rfl, rfl, by decide +kernel, rfl, by decide +kernel, by decide +kernel⟩
theorem okf_law_stirred {n : Nat} {a : Addr} {fd : FuncData} (F : Fun K "_law_stirred" "_law_stirred" sf_law_stirred a fd) (ft : FT T KW n P w K mg base) (mb : ∀ s ∈ bn, mg (Str.ofString s) = none) : FnOk P w K mg base CX0 (n + 1) a fd ["_law_bag_here", "_law_many"] (spI T (n + 1) K "_law_stirred") :=
  have nd := (scf_law_stirred).nd
  fn_ok F scf_law_stirred T_f_law_stirred rfl rfl fun cdv A outer s H E hr =>
    (ss_cons (ss_set 2 nd se_int)
      (ss_cons (ss_for PassesOwn.never rfl (si_range1 (se_bin bin_add se_int (se_bin bin_fdiv (se_bits (se_var 1)) se_int)) (mb "range" (by decide))) (sg_name 3 nd) (ss_cons (ss_sub hr (se_bin bin_add (se_idx hr (se_var 0) se_int) se_int) (se_var 0) se_int)
      (ss_cons (ss_sub hr (se_bin bin_mod (se_bin bin_add (se_bin bin_add (se_bin bin_add (se_bin bin_pow (se_idx hr (se_var 0) se_int) se_int) (se_bin bin_mul se_int (se_idx hr (se_var 0) se_int))) (se_bin bin_mul se_int (se_idx hr (se_var 0) se_int))) se_int) se_int) (se_var 0) se_int)
      (ss_cons (ss_set 2 nd (se_bin bin_add (se_bin bin_mul (se_var 2) se_int) (se_bin bin_fdiv (se_idx hr (se_var 0) se_int) se_int)))
      ss_nil))))
      (ss_cons (ss_ret (se_bin bin_mod (se_var 2) (se_var 1)))
      ss_nil)))
end
end Prog

namespace Prog
open PySem PySem.Spec PyProof.Rows L2 Snd
section
variable {P : Program} {w : World} {K : PySem.W.Frag} {mg : Str → Option Value} {base : Heap}
theorem scf_law_draw : FnScope ["_law_bag_here", "_law_many", "_law_found"] ["_law_bag_here", "_law_many"] (defScope sf_law_draw) := ⟨rfl, rfl, rfl, by decide +kernel, rfl, by decide +kernel, by decide +kernel⟩
theorem okf_law_draw {n : Nat} {a : Addr} {fd : FuncData} (F : Fun K "_law_draw" "_law_draw" sf_law_draw a fd) (ft : FT T KW n P w K mg base) (mb : ∀ s ∈ bn, mg (Str.ofString s) = none) : FnOk P w K mg base CX0 (n + 1) a fd ["_law_bag_here", "_law_many"] (spI T (n + 1) K "_law_draw") :=
  have nd := (scf_law_draw).nd
  fn_ok F scf_law_draw T_f_law_draw rfl rfl fun cdv A outer s H E hr =>
    (ss_cons (ss_if (st_w (sw_and (st_cmp (cmp_eq hr) (se_idx hr (se_var 0) se_int) se_int) (sw_and1 (st_cmp cmp_lt (se_idx hr (se_var 0) se_int) (se_blt blt_len (ses_cons (se_idx hr (se_var 0) se_int) ses_nil) (mb "len" (by decide)) bv_len))))) (ss_cons (ss_sub hr (se_idx hr (se_idx hr (se_var 0) se_int) (se_idx hr (se_var 0) se_int)) (se_var 0) se_int)
      (ss_cons (ss_sub hr (se_bin bin_add (se_idx hr (se_var 0) se_int) se_int) (se_var 0) se_int)
      ss_nil)) (ss_cons (ss_if (st_cmp (cmp_eq hr) (se_idx hr (se_var 0) se_int) se_int) (ss_cons (ss_ret (se_call ft T_f_law_stirred hr (ses_cons (se_var 0) (ses_cons (se_var 1) ses_nil))))
      ss_nil) ss_nil)
      ss_nil))
      (ss_cons (ss_set 2 nd (se_bin bin_mod (se_idx hr (se_var 0) se_int) (se_var 1)))
      (ss_cons (ss_sub hr (se_bin bin_fdiv (se_idx hr (se_var 0) se_int) (se_var 1)) (se_var 0) se_int)
      (ss_cons (ss_ret (se_var 2))
      ss_nil))))
end
end Prog

namespace Prog
open PySem PySem.Spec PyProof.Rows L2 Snd
section
variable {P : Program} {w : World} {K : PySem.W.Frag} {mg : Str → Option Value} {base : Heap}
theorem scf_law_alike : FnScope ["_law_found", "_law_due", "_law_k"] ["_law_found", "_law_due"] (defScope sf_law_alike) := ⟨rfl, rfl, rfl, by decide +kernel, rfl, by decide +kernel, by decide +kernel⟩
theorem okf_law_alike {n : Nat} {a : Addr} {fd : FuncData} (F : Fun K "_law_alike" "_law_alike" sf_law_alike a fd) (ft : FT T KW n P w K mg base) (mb : ∀ s ∈ bn, mg (Str.ofString s) = none) : FnOk P w K mg base CX0 (n + 1) a fd ["_law_found", "_law_due"] (spI T (n + 1) K "_law_alike") :=
  have nd := (scf_law_alike).nd
  fn_ok F scf_law_alike T_f_law_alike rfl rfl fun cdv A outer s H E hr =>
    (ss_cons (ss_if (st_val (se_isiT (se_var 1) (sty_cons (t := .list) (sty_cons (t := .tuple) sty_nil (mb "tuple" (by decide)) bv_tuple) (mb "list" (by decide)) bv_list) (mb "isinstance" (by decide)))) (ss_cons (ss_if (st_w (sw_or (st_not (st_val (se_isiT (se_var 0) (sty_cons (t := .list) (sty_cons (t := .tuple) sty_nil (mb "tuple" (by decide)) bv_tuple) (mb "list" (by decide)) bv_list) (mb "isinstance" (by decide))))) (sw_or1 (st_cmp (cmp_ne hr) (se_isi (t := .list) (se_var 0) (sty_cons (t := .list) sty_nil (mb "list" (by decide)) bv_list) (mb "isinstance" (by decide))) (se_isi (t := .list) (se_var 1) (sty_cons (t := .list) sty_nil (mb "list" (by decide)) bv_list) (mb "isinstance" (by decide))))))) (ss_cons (ss_ret se_bool)
      ss_nil) ss_nil)
      (ss_cons (ss_if (st_cmp (cmp_ne hr) (se_blt blt_len (ses_cons (se_var 0) ses_nil) (mb "len" (by decide)) bv_len) (se_blt blt_len (ses_cons (se_var 1) ses_nil) (mb "len" (by decide)) bv_len)) (ss_cons (ss_ret se_bool)
      ss_nil) ss_nil)
      (ss_cons (ss_ret (se_blt (blt_all rfl) (ses_cons (se_list is_comp (sn_comp [("_law_k", 2)] rfl nd (si_range1 (se_blt blt_len (ses_cons (se_var 1) ses_nil) (mb "len" (by decide)) bv_len) (mb "range" (by decide))) (blkOk_by (N := ["_law_found", "_law_due", "_law_k"]) (sc := defScope sf_law_alike) (by decide +kernel)) (fun _ _ _ _ _ => (sg_name 2 nd)) (fun _ _ _ _ _ => sc_nil) (fun _ _ _ _ _ => (se_call ft T_f_law_alike hr (ses_cons (se_idx hr (se_var 0) (se_var 2)) (ses_cons (se_idx hr (se_var 1) (se_var 2)) ses_nil)))))) ses_nil) (mb "all" (by decide)) bv_all))
      ss_nil))) ss_nil)
      (ss_cons (ss_if (st_w (sw_or (st_cmp (cmp_ne hr) (se_isi (t := .bool) (se_var 0) (sty_cons (t := .bool) sty_nil (mb "bool" (by decide)) bv_bool) (mb "isinstance" (by decide))) (se_isi (t := .bool) (se_var 1) (sty_cons (t := .bool) sty_nil (mb "bool" (by decide)) bv_bool) (mb "isinstance" (by decide)))) (sw_or1 (st_cmp (cmp_ne hr) (se_isi (t := .int) (se_var 0) (sty_cons (t := .int) sty_nil (mb "int" (by decide)) bv_int) (mb "isinstance" (by decide))) (se_isi (t := .int) (se_var 1) (sty_cons (t := .int) sty_nil (mb "int" (by decide)) bv_int) (mb "isinstance" (by decide))))))) (ss_cons (ss_ret se_bool)
      ss_nil) ss_nil)
      (ss_cons (ss_ret (se_and (se_cmp (cmp_eq hr) (se_isi (t := .str) (se_var 0) (sty_cons (t := .str) sty_nil (mb "str" (by decide)) bv_str) (mb "isinstance" (by decide))) (se_isi (t := .str) (se_var 1) (sty_cons (t := .str) sty_nil (mb "str" (by decide)) bv_str) (mb "isinstance" (by decide)))) (se_one (se_cmp (cmp_eq hr) (se_var 0) (se_var 1)))))
      ss_nil)))
end
end Prog

namespace Prog
open PySem PySem.Spec PyProof.Rows L2 Snd
section
variable {P : Program} {w : World} {K : PySem.W.Frag} {mg : Str → Option Value} {base : Heap}
theorem scf_law_any_kind : FnScope ["_law_bag_here", "_law_frees_here", "_law_many", "_law_way", "_law_left", "_law_lhs"] ["_law_bag_here", "_law_frees_here", "_law_many"] (defScope sf_law_any_kind) := ⟨rfl, rfl, rfl, by decide +kernel, rfl, by decide +kernel, by decide +kernel⟩
theorem okf_law_any_kind {n : Nat} {a : Addr} {fd : FuncData} (F : Fun K "_law_any_kind" "_law_any_kind" sf_law_any_kind a fd) (ft : FT T KW n P w K mg base) (mb : ∀ s ∈ bn, mg (Str.ofString s) = none) : FnOk P w K mg base CX0 (n + 1) a fd ["_law_bag_here", "_law_frees_here", "_law_many"] (spI T (n + 1) K "_law_any_kind") :=
  have nd := (scf_law_any_kind).nd
  fn_ok F scf_law_any_kind T_f_law_any_kind rfl rfl fun cdv A outer s H E hr =>
    (ss_cons (ss_set 3 nd (se_call ft T_f_law_draw hr (ses_cons (se_var 0) (ses_cons se_int ses_nil))))
      (ss_cons (ss_if (st_w (sw_or (st_cmp cmp_lt (se_var 2) se_int) (sw_or1 (st_cmp cmp_lt (se_var 3) se_int)))) (ss_cons (ss_if (st_w (sw_and (st_cmp (cmp_ne hr) (se_var 1) (se_list is_lst (sn_lst ses_nil))) (sw_and1 (st_cmp cmp_gt (se_call ft T_f_law_draw hr (ses_cons (se_var 0) (ses_cons se_int ses_nil))) se_int)))) (ss_cons (ss_ret (se_tup (ses_cons se_str (ses_cons (se_idx hr (se_var 1) (se_call ft T_f_law_draw hr (ses_cons (se_var 0) (ses_cons (se_blt blt_len (ses_cons (se_var 1) ses_nil) (mb "len" (by decide)) bv_len) ses_nil)))) ses_nil))))
      ss_nil) ss_nil)
      (ss_cons (ss_ret (se_idx hr (se_list is_lst (sn_lst (ses_cons (se_tup (ses_cons se_str ses_nil)) (ses_cons (se_tup (ses_cons se_str ses_nil)) ses_nil)))) (se_call ft T_f_law_draw hr (ses_cons (se_var 0) (ses_cons se_int ses_nil)))))
      ss_nil)) ss_nil)
      (ss_cons (ss_if (st_w (sw_or (st_cmp cmp_lt (se_var 2) se_int) (sw_or1 (st_cmp (cmp_eq hr) (se_var 3) se_int)))) (ss_cons (ss_ret (se_tup (ses_cons se_str (ses_cons (se_call ft T_f_law_any_kind hr (ses_cons (se_var 0) (ses_cons (se_var 1) (ses_cons (se_bin bin_sub (se_var 2) se_int) ses_nil)))) ses_nil))))
      ss_nil) ss_nil)
      (ss_cons (ss_set 4 nd (se_bin bin_add se_int (se_call ft T_f_law_draw hr (ses_cons (se_var 0) (ses_cons (se_bin bin_sub (se_var 2) se_int) ses_nil)))))
      (ss_cons (ss_set 5 nd (se_call ft T_f_law_any_kind hr (ses_cons (se_var 0) (ses_cons (se_var 1) (ses_cons (se_var 4) ses_nil)))))
      (ss_cons (ss_ret (se_tup (ses_cons (se_idx hr (se_list is_lst (sn_lst (ses_cons se_str (ses_cons se_str ses_nil)))) (se_bin bin_mod (se_var 3) se_int)) (ses_cons (se_var 5) (ses_cons (se_call ft T_f_law_any_kind hr (ses_cons (se_var 0) (ses_cons (se_var 1) (ses_cons (se_bin bin_sub (se_bin bin_sub (se_var 2) se_int) (se_var 4)) ses_nil)))) ses_nil)))))
      ss_nil))))))
end
end Prog

namespace Prog
open PySem PySem.Spec PyProof.Rows L2 Snd
section
variable {P : Program} {w : World} {K : PySem.W.Frag} {mg : Str → Option Value} {base : Heap}
theorem scf_law_numbers : FnScope ["_law_bag_here", "_law_base", "_law_k"] ["_law_bag_here"] (defScope sf_law_numbers) := ⟨rfl, rfl, rfl, by decide +kernel, rfl, by decide +kernel, by decide +kernel⟩
theorem okf_law_numbers {n : Nat} {a : Addr} {fd : FuncData} (F : Fun K "_law_numbers" "_law_numbers" sf_law_numbers a fd) (ft : FT T KW n P w K mg base) (mb : ∀ s ∈ bn, mg (Str.ofString s) = none) : FnOk P w K mg base CX0 (n + 1) a fd ["_law_bag_here"] (spI T (n + 1) K "_law_numbers") :=
  have nd := (scf_law_numbers).nd
  fn_ok F scf_law_numbers T_f_law_numbers rfl rfl fun cdv A outer s H E hr =>
    (ss_cons (ss_set 1 nd (se_call ft T_f_law_draw hr (ses_cons (se_var 0) (ses_cons (se_idx hr (se_list is_lst (sn_lst (ses_cons se_int (ses_cons se_int (ses_cons se_int (ses_cons (se_bin bin_pow se_int se_int) ses_nil)))))) (se_call ft T_f_law_draw hr (ses_cons (se_var 0) (ses_cons se_int ses_nil)))) ses_nil))))
      (ss_cons (ss_ret (se_list is_comp (sn_comp [("_law_k", 2)] rfl nd (si_range1 (se_bin bin_add se_int (se_call ft T_f_law_draw hr (ses_cons (se_var 0) (ses_cons se_int ses_nil)))) (mb "range" (by decide))) (blkOk_by (N := ["_law_bag_here", "_law_base", "_law_k"]) (sc := defScope sf_law_numbers) (by decide +kernel)) (fun _ _ _ _ _ => (sg_name 2 nd)) (fun _ _ _ _ _ => sc_nil) (fun _ _ _ _ _ => (se_bin bin_add (se_var 1) (se_bin bin_mul (se_var 2) (se_bin bin_add se_int (se_call ft T_f_law_draw hr (ses_cons (se_var 0) (ses_cons se_int ses_nil))))))))))
      ss_nil))
end
end Prog

namespace Prog
open PySem PySem.Spec PyProof.Rows L2 Snd
section
variable {P : Program} {w : World} {K : PySem.W.Frag} {mg : Str → Option Value} {base : Heap}
theorem scf_law_put_in : FnScope ["_law_kind", "_law_filling", "_law_part"] ["_law_kind", "_law_filling"] (defScope sf_law_put_in) := ⟨rfl, rfl, rfl, by decide +kernel, rfl, by decide +kernel, by decide +kernel⟩
theorem okf_law_put_in {n : Nat} {a : Addr} {fd : FuncData} (F : Fun K "_law_put_in" "_law_put_in" sf_law_put_in a fd) (ft : FT T KW n P w K mg base) (mb : ∀ s ∈ bn, mg (Str.ofString s) = none) : FnOk P w K mg base CX0 (n + 1) a fd ["_law_kind", "_law_filling"] (spI T (n + 1) K "_law_put_in") :=
  have nd := (scf_law_put_in).nd
  fn_ok F scf_law_put_in T_f_law_put_in rfl rfl fun cdv A outer s H E hr =>
    (ss_cons (ss_if (st_cmp (cmp_eq hr) (se_idx hr (se_var 0) se_int) se_str) (ss_cons (ss_ret (se_get hr (se_var 1) (se_idx hr (se_var 0) se_int) (se_var 0)))
      ss_nil) ss_nil)
      (ss_cons (ss_ret (se_bin bin_add (se_sli (se_var 0) so_none (so_some se_int)) (se_bltT blt_tuple (ses_cons (se_list is_comp (sn_comp [("_law_part", 2)] rfl nd (si_seq (se_sli (se_var 0) (so_some se_int) so_none)) (blkOk_by (N := ["_law_kind", "_law_filling", "_law_part"]) (sc := defScope sf_law_put_in) (by decide +kernel)) (fun _ _ _ _ _ => (sg_name 2 nd)) (fun _ _ _ _ _ => sc_nil) (fun _ _ _ _ _ => (se_call ft T_f_law_put_in hr (ses_cons (se_var 2) (ses_cons (se_var 1) ses_nil)))))) ses_nil) (mb "tuple" (by decide)) bv_tuple)))
      ss_nil))
end
end Prog

namespace Prog
open PySem PySem.Spec PyProof.Rows L2 Snd
section
variable {P : Program} {w : World} {K : PySem.W.Frag} {mg : Str → Option Value} {base : Heap}
theorem scf_law_frees : FnScope ["_law_kind", "_law_found", "_law_part", "_law_number"] ["_law_kind"] (defScope sf_law_frees) := ⟨rfl, rfl, rfl, by decide +kernel, rfl, by decide +kernel, by decide +kernel⟩
theorem okf_law_frees {n : Nat} {a : Addr} {fd : FuncData} (F : Fun K "_law_frees" "_law_frees" sf_law_frees a fd) (ft : FT T KW n P w K mg base) (mb : ∀ s ∈ bn, mg (Str.ofString s) = none) : FnOk P w K mg base CX0 (n + 1) a fd ["_law_kind"] (spI T (n + 1) K "_law_frees") :=
  have nd := (scf_law_frees).nd
  fn_ok F scf_law_frees T_f_law_frees rfl rfl fun cdv A outer s H E hr =>
    (ss_cons (ss_if (st_cmp (cmp_eq hr) (se_idx hr (se_var 0) se_int) se_str) (ss_cons (ss_ret (se_list is_lst (sn_lst (ses_cons (se_idx hr (se_var 0) se_int) ses_nil))))
      ss_nil) ss_nil)
      (ss_cons (ss_set 1 nd (se_list is_lst (sn_lst ses_nil)))
      (ss_cons (ss_for PassesOwn.never rfl (si_seq (se_sli (se_var 0) (so_some se_int) so_none)) (sg_name 2 nd) (ss_cons (ss_set 1 nd (se_bin bin_add (se_var 1) (se_list is_comp (sn_comp [("_law_number", 3)] rfl nd (si_seq (se_call ft T_f_law_frees hr (ses_cons (se_var 2) ses_nil))) (blkOk_by (N := ["_law_kind", "_law_found", "_law_part", "_law_number"]) (sc := defScope sf_law_frees) (by decide +kernel)) (fun _ _ _ _ _ => (sg_name 3 nd)) (fun _ _ _ _ _ => (sc_one (st_notin hr (se_var 3) (se_var 1)))) (fun _ _ _ _ _ => (se_var 3))))))
      ss_nil))
      (ss_cons (ss_ret (se_var 1))
      ss_nil))))
end
end Prog

namespace Prog
open PySem PySem.Spec PyProof.Rows L2 Snd
section
variable {P : Program} {w : World} {K : PySem.W.Frag} {mg : Str → Option Value} {base : Heap}
theorem scf_law_parts : FnScope ["_law_kind", "_law_part"] ["_law_kind"] (defScope sf_law_parts) := ⟨rfl, rfl, rfl, by decide +kernel, rfl, by decide +kernel, by decide +kernel⟩
theorem okf_law_parts {n : Nat} {a : Addr} {fd : FuncData} (F : Fun K "_law_parts" "_law_parts" sf_law_parts a fd) (ft : FT T KW n P w K mg base) (mb : ∀ s ∈ bn, mg (Str.ofString s) = none) : FnOk P w K mg base CX0 (n + 1) a fd ["_law_kind"] (spI T (n + 1) K "_law_parts") :=
  have nd := (scf_law_parts).nd
  fn_ok F scf_law_parts T_f_law_parts rfl rfl fun cdv A outer s H E hr =>
    (ss_cons (ss_ret (se_bin bin_add se_int (se_blt (blt_sum rfl) (ses_cons (se_list is_comp (sn_comp [("_law_part", 1)] rfl nd (si_seq (se_sli (se_var 0) (so_some se_int) so_none)) (blkOk_by (N := ["_law_kind", "_law_part"]) (sc := defScope sf_law_parts) (by decide +kernel)) (fun _ _ _ _ _ => (sg_name 1 nd)) (fun _ _ _ _ _ => (sc_one (st_val (se_isi (t := .tuple) (se_var 1) (sty_cons (t := .tuple) sty_nil (mb "tuple" (by decide)) bv_tuple) (mb "isinstance" (by decide)))))) (fun _ _ _ _ _ => (se_call ft T_f_law_parts hr (ses_cons (se_var 1) ses_nil))))) ses_nil) (mb "sum" (by decide)) bv_sum)))
      ss_nil)
end
end Prog

namespace Prog
open PySem PySem.Spec PyProof.Rows L2 Snd
section
variable {P : Program} {w : World} {K : PySem.W.Frag} {mg : Str → Option Value} {base : Heap}
theorem scf_law_bent_kind : FnScope ["_law_bag_here", "_law_kind", "_law_frees_here", "_law_at"] ["_law_bag_here", "_law_kind", "_law_frees_here"] (defScope sf_law_bent_kind) := ⟨rfl, rfl, rfl, by decide +kernel, rfl, by decide +kernel, by decide +kernel⟩
theorem okf_law_bent_kind {n : Nat} {a : Addr} {fd : FuncData} (F : Fun K "_law_bent_kind" "_law_bent_kind" sf_law_bent_kind a fd) (ft : FT T KW n P w K mg base) (mb : ∀ s ∈ bn, mg (Str.ofString s) = none) : FnOk P w K mg base CX0 (n + 1) a fd ["_law_bag_here", "_law_kind", "_law_frees_here"] (spI T (n + 1) K "_law_bent_kind") :=
  have nd := (scf_law_bent_kind).nd
  fn_ok F scf_law_bent_kind T_f_law_bent_kind rfl rfl fun cdv A outer s H E hr =>
    (ss_cons (ss_if (st_w (sw_and (st_cmp cmp_gt (se_blt blt_len (ses_cons (se_var 1) ses_nil) (mb "len" (by decide)) bv_len) se_int) (sw_and (st_cmp (cmp_ne hr) (se_idx hr (se_var 1) se_int) se_str) (sw_and1 (st_cmp cmp_gt (se_call ft T_f_law_draw hr (ses_cons (se_var 0) (ses_cons se_int ses_nil))) se_int))))) (ss_cons (ss_set 3 nd (se_bin bin_add se_int (se_call ft T_f_law_draw hr (ses_cons (se_var 0) (ses_cons (se_bin bin_sub (se_blt blt_len (ses_cons (se_var 1) ses_nil) (mb "len" (by decide)) bv_len) se_int) ses_nil)))))
      (ss_cons (ss_ret (se_bin bin_add (se_bin bin_add (se_sli (se_var 1) so_none (so_some (se_var 3))) (se_tup (ses_cons (se_call ft T_f_law_bent_kind hr (ses_cons (se_var 0) (ses_cons (se_idx hr (se_var 1) (se_var 3)) (ses_cons (se_var 2) ses_nil)))) ses_nil))) (se_sli (se_var 1) (so_some (se_bin bin_add (se_var 3) se_int)) so_none)))
      ss_nil)) ss_nil)
      (ss_cons (ss_ret (se_call ft T_f_law_any_kind hr (ses_cons (se_var 0) (ses_cons (se_var 2) (ses_cons (se_bin bin_add se_int (se_call ft T_f_law_draw hr (ses_cons (se_var 0) (ses_cons se_int ses_nil)))) ses_nil)))))
      ss_nil))
end
end Prog

namespace Prog
open PySem PySem.Spec PyProof.Rows L2 Snd
section
variable {P : Program} {w : World} {K : PySem.W.Frag} {mg : Str → Option Value} {base : Heap}
theorem scf_law_named : FnScope ["_law_some", "_law_numbers_here", "_law_kind", "_law_number"] ["_law_some"] (defScope sf_law_named) := ⟨rfl, rfl, rfl, by decide +kernel, rfl, by decide +kernel, by decide +kernel⟩
theorem okf_law_named {n : Nat} {a : Addr} {fd : FuncData} (F : Fun K "_law_named" "_law_named" sf_law_named a fd) (ft : FT T KW n P w K mg base) (mb : ∀ s ∈ bn, mg (Str.ofString s) = none) : FnOk P w K mg base CX0 (n + 1) a fd ["_law_some"] (spI T (n + 1) K "_law_named") :=
  have nd := (scf_law_named).nd
  fn_ok F scf_law_named T_f_law_named rfl rfl fun cdv A outer s H E hr =>
    (ss_cons (ss_set 1 nd se_newD)
      (ss_cons (ss_for PassesOwn.never rfl (si_seq (se_var 0)) (sg_name 2 nd) (ss_cons (ss_for PassesOwn.never rfl (si_seq (se_call ft T_f_law_frees hr (ses_cons (se_var 2) ses_nil))) (sg_name 3 nd) (ss_cons (ss_if (st_notin hr (se_var 3) (se_var 1)) (ss_cons (ss_sub hr (se_tup (ses_cons se_str (ses_cons (se_blt blt_len (ses_cons (se_var 1) ses_nil) (mb "len" (by decide)) bv_len) ses_nil))) (se_var 1) (se_var 3))
      ss_nil) ss_nil)
      ss_nil))
      ss_nil))
      (ss_cons (ss_ret (se_list is_comp (sn_comp [("_law_kind", 2)] rfl nd (si_seq (se_var 0)) (blkOk_by (N := ["_law_some", "_law_numbers_here", "_law_kind", "_law_number"]) (sc := defScope sf_law_named) (by decide +kernel)) (fun _ _ _ _ _ => (sg_name 2 nd)) (fun _ _ _ _ _ => sc_nil) (fun _ _ _ _ _ => (se_call ft T_f_law_put_in hr (ses_cons (se_var 2) (ses_cons (se_var 1) ses_nil)))))))
      ss_nil)))
end
end Prog

namespace Prog
open PySem PySem.Spec PyProof.Rows L2 Snd
section
variable {P : Program} {w : World} {K : PySem.W.Frag} {mg : Str → Option Value} {base : Heap}
theorem scf_law_joined : FnScope ["_law_lhs", "_law_rhs", "_law_pairs", "_law_found", "_law_left", "_law_right", "_law_number", "_law_other", "_law_a", "_law_b", "_law_k"] ["_law_lhs", "_law_rhs"] (defScope sf_law_joined) := ⟨rfl, rfl, rfl, by decide +kernel, rfl, by decide +kernel, by decide +kernel⟩
theorem okf_law_joined {n : Nat} {a : Addr} {fd : FuncData} (F : Fun K "_law_joined" "_law_joined" sf_law_joined a fd) (ft : FT T KW n P w K mg base) (mb : ∀ s ∈ bn, mg (Str.ofString s) = none) : FnOk P w K mg base CX0 (n + 1) a fd ["_law_lhs", "_law_rhs"] (spI T (n + 1) K "_law_joined") :=
  have nd := (scf_law_joined).nd
  fn_ok F scf_law_joined T_f_law_joined rfl rfl fun cdv A outer s H E hr =>
    (ss_cons (ss_set 2 nd (se_newL (sn_lst (ses_cons (se_tup (ses_cons (se_var 0) (ses_cons (se_var 1) ses_nil))) ses_nil))))
      (ss_cons (ss_set 3 nd (se_var 0))
      (ss_cons (ss_while PassesOwn.never (st_cmp (cmp_ne hr) (se_var 2) (se_list is_lst (sn_lst ses_nil))) (ss_cons (ss_asg (se_pop0 (j := 0) (se_var 2)) (sg_tup rfl (sgs_cons (sg_name 4 nd) (sgs_cons (sg_name 5 nd) sgs_nil)) (puts_len _)))
      (ss_cons (ss_if (st_cmp (cmp_ne hr) (se_var 4) (se_var 5)) (ss_cons (ss_if (st_w (sw_and (st_cmp (cmp_ne hr) (se_idx hr (se_var 4) se_int) se_str) (sw_and1 (st_cmp (cmp_ne hr) (se_idx hr (se_var 5) se_int) se_str)))) (ss_cons (ss_if (st_cmp (cmp_ne hr) (se_idx hr (se_var 4) se_int) (se_idx hr (se_var 5) se_int)) (ss_cons (ss_ret se_non)
      ss_nil) ss_nil)
      (ss_cons (ss_set 2 nd (se_newL (sn_add (se_list is_comp (sn_comp [("_law_k", 10)] rfl nd (si_range2 se_int (se_blt blt_len (ses_cons (se_var 4) ses_nil) (mb "len" (by decide)) bv_len) (mb "range" (by decide))) (blkOk_by (N := ["_law_lhs", "_law_rhs", "_law_pairs", "_law_found", "_law_left", "_law_right", "_law_number", "_law_other", "_law_a", "_law_b", "_law_k"]) (sc := defScope sf_law_joined) (by decide +kernel)) (fun _ _ _ _ _ => (sg_name 10 nd)) (fun _ _ _ _ _ => sc_nil) (fun _ _ _ _ _ => (se_tup (ses_cons (se_idx hr (se_var 4) (se_var 10)) (ses_cons (se_idx hr (se_var 5) (se_var 10)) ses_nil)))))) (se_var 2))))
      ss_nil)) (ss_cons (ss_asg (se_ite (st_cmp (cmp_eq hr) (se_idx hr (se_var 4) se_int) se_str) (se_tup (ses_cons (se_idx hr (se_var 4) se_int) (ses_cons (se_var 5) ses_nil))) (se_tup (ses_cons (se_idx hr (se_var 5) se_int) (ses_cons (se_var 4) ses_nil)))) (sg_tup rfl (sgs_cons (sg_name 6 nd) (sgs_cons (sg_name 7 nd) sgs_nil)) (puts_len _)))
      (ss_cons (ss_if (st_in hr (se_var 6) (se_call ft T_f_law_frees hr (ses_cons (se_var 7) ses_nil))) (ss_cons (ss_ret se_non)
      ss_nil) ss_nil)
      (ss_cons (ss_setLc 2 [("_law_a", 8), ("_law_b", 9)] tI_newL rfl nd (si_seq (se_frz (se_var 2))) (blkOk_by (N := ["_law_lhs", "_law_rhs", "_law_pairs", "_law_found", "_law_left", "_law_right", "_law_number", "_law_other", "_law_a", "_law_b", "_law_k"]) (sc := defScope sf_law_joined) (by decide +kernel)) (fun _ _ _ _ _ => (sg_tup rfl (sgs_cons (sg_name 8 nd) (sgs_cons (sg_name 9 nd) sgs_nil)) (puts_len _))) (fun _ _ _ _ _ => sc_nil) (fun _ _ _ _ _ => (se_tup (ses_cons (se_call ft T_f_law_put_in hr (ses_cons (se_var 8) (ses_cons (se_disp (sps_cons (se_var 6) (se_var 7) sps_nil)) ses_nil))) (ses_cons (se_call ft T_f_law_put_in hr (ses_cons (se_var 9) (ses_cons (se_disp (sps_cons (se_var 6) (se_var 7) sps_nil)) ses_nil))) ses_nil)))) (sw_true rfl rfl rfl (by decide +kernel)))
      (ss_cons (ss_set 3 nd (se_call ft T_f_law_put_in hr (ses_cons (se_var 3) (ses_cons (se_disp (sps_cons (se_var 6) (se_var 7) sps_nil)) ses_nil))))
      ss_nil)))))
      ss_nil) ss_nil)
      ss_nil)))
      (ss_cons (ss_ret (se_var 3))
      ss_nil))))
end
end Prog

namespace Prog
open PySem PySem.Spec PyProof.Rows L2 Snd
section
variable {P : Program} {w : World} {K : PySem.W.Frag} {mg : Str → Option Value} {base : Heap}
theorem scf_law_loosened : FnScope ["_law_bag_here", "_law_kind", "_law_frees_here", "_law_part"] ["_law_bag_here", "_law_kind", "_law_frees_here"] (defScope sf_law_loosened) := ⟨rfl, rfl, rfl, by decide +kernel, rfl, by decide +kernel, by decide +kernel⟩
theorem okf_law_loosened {n : Nat} {a : Addr} {fd : FuncData} (F : Fun K "_law_loosened" "_law_loosened" sf_law_loosened a fd) (ft : FT T KW n P w K mg base) (mb : ∀ s ∈ bn, mg (Str.ofString s) = none) : FnOk P w K mg base CX0 (n + 1) a fd ["_law_bag_here", "_law_kind", "_law_frees_here"] (spI T (n + 1) K "_law_loosened") :=
  have nd := (scf_law_loosened).nd
  fn_ok F scf_law_loosened T_f_law_loosened rfl rfl fun cdv A outer s H E hr =>
    (ss_cons (ss_if (st_cmp (cmp_eq hr) (se_call ft T_f_law_draw hr (ses_cons (se_var 0) (ses_cons se_int ses_nil))) se_int) (ss_cons (ss_ret (se_tup (ses_cons se_str (ses_cons (se_idx hr (se_var 2) (se_call ft T_f_law_draw hr (ses_cons (se_var 0) (ses_cons (se_blt blt_len (ses_cons (se_var 2) ses_nil) (mb "len" (by decide)) bv_len) ses_nil)))) ses_nil))))
      ss_nil) ss_nil)
      (ss_cons (ss_if (st_w (sw_or (st_cmp (cmp_eq hr) (se_idx hr (se_var 1) se_int) se_str) (sw_or1 (st_cmp cmp_lt (se_blt blt_len (ses_cons (se_var 1) ses_nil) (mb "len" (by decide)) bv_len) se_int)))) (ss_cons (ss_ret (se_var 1))
      ss_nil) ss_nil)
      (ss_cons (ss_ret (se_bin bin_add (se_sli (se_var 1) so_none (so_some se_int)) (se_bltT blt_tuple (ses_cons (se_list is_comp (sn_comp [("_law_part", 3)] rfl nd (si_seq (se_sli (se_var 1) (so_some se_int) so_none)) (blkOk_by (N := ["_law_bag_here", "_law_kind", "_law_frees_here", "_law_part"]) (sc := defScope sf_law_loosened) (by decide +kernel)) (fun _ _ _ _ _ => (sg_name 3 nd)) (fun _ _ _ _ _ => sc_nil) (fun _ _ _ _ _ => (se_call ft T_f_law_loosened hr (ses_cons (se_var 0) (ses_cons (se_var 3) (ses_cons (se_var 2) ses_nil))))))) ses_nil) (mb "tuple" (by decide)) bv_tuple)))
      ss_nil)))
end
end Prog

namespace Prog
open PySem PySem.Spec PyProof.Rows L2 Snd
section
variable {P : Program} {w : World} {K : PySem.W.Frag} {mg : Str → Option Value} {base : Heap}
theorem scf_law_pair : FnScope ["_law_bag_here", "_law_way", "_law_frees_here", "_law_others", "_law_lhs", "_law_filling", "_law_rhs", "_law_number"] ["_law_bag_here"] (defScope sf_law_pair) := ⟨rfl, rfl, rfl, by decide +kernel, rfl, by decide +kernel, by decide +kernel⟩
theorem okf_law_pair {n : Nat} {a : Addr} {fd : FuncData} (F : Fun K "_law_pair" "_law_pair" sf_law_pair a fd) (ft : FT T KW n P w K mg base) (mb : ∀ s ∈ bn, mg (Str.ofString s) = none) : FnOk P w K mg base CX0 (n + 1) a fd ["_law_bag_here"] (spI T (n + 1) K "_law_pair") :=
  have nd := (scf_law_pair).nd
  fn_ok F scf_law_pair T_f_law_pair rfl rfl fun cdv A outer s H E hr =>
    (ss_cons (ss_set 1 nd (se_call ft T_f_law_draw hr (ses_cons (se_var 0) (ses_cons se_int ses_nil))))
      (ss_cons (ss_set 2 nd (se_call ft T_f_law_numbers hr (ses_cons (se_var 0) ses_nil)))
      (ss_cons (ss_set 3 nd (se_ite (st_cmp (cmp_eq hr) (se_call ft T_f_law_draw hr (ses_cons (se_var 0) (ses_cons se_int ses_nil))) se_int) (se_var 2) (se_list is_comp (sn_comp [("_law_number", 7)] rfl nd (si_seq (se_var 2)) (blkOk_by (N := ["_law_bag_here", "_law_way", "_law_frees_here", "_law_others", "_law_lhs", "_law_filling", "_law_rhs", "_law_number"]) (sc := defScope sf_law_pair) (by decide +kernel)) (fun _ _ _ _ _ => (sg_name 7 nd)) (fun _ _ _ _ _ => sc_nil) (fun _ _ _ _ _ => (se_bin bin_add (se_var 7) se_int))))))
      (ss_cons (ss_set 4 nd (se_call ft T_f_law_any_kind hr (ses_cons (se_var 0) (ses_cons (se_var 2) (ses_cons (se_bin bin_add se_int (se_call ft T_f_law_draw hr (ses_cons (se_var 0) (ses_cons se_int ses_nil)))) ses_nil)))))
      (ss_cons (ss_if (st_cmp (cmp_eq hr) (se_var 1) se_int) (ss_cons (ss_ret (se_tup (ses_cons (se_var 4) (ses_cons (se_call ft T_f_law_any_kind hr (ses_cons (se_var 0) (ses_cons (se_var 3) (ses_cons (se_bin bin_add se_int (se_call ft T_f_law_draw hr (ses_cons (se_var 0) (ses_cons se_int ses_nil)))) ses_nil)))) ses_nil))))
      ss_nil) ss_nil)
      (ss_cons (ss_if (st_cmp (cmp_eq hr) (se_var 1) se_int) (ss_cons (ss_set 5 nd (se_dictP rfl (se_list is_comp (sn_comp [("_law_number", 7)] rfl nd (si_seq (se_call ft T_f_law_frees hr (ses_cons (se_var 4) ses_nil))) (blkOk_by (N := ["_law_bag_here", "_law_way", "_law_frees_here", "_law_others", "_law_lhs", "_law_filling", "_law_rhs", "_law_number"]) (sc := defScope sf_law_pair) (by decide +kernel)) (fun _ _ _ _ _ => (sg_name 7 nd)) (fun _ _ _ _ _ => sc_nil) (fun _ _ _ _ _ => (se_tup (ses_cons (se_var 7) (ses_cons (se_call ft T_f_law_any_kind hr (ses_cons (se_var 0) (ses_cons (se_var 3) (ses_cons se_int ses_nil)))) ses_nil)))))) (mb "dict" (by decide)) bv_dict))
      (ss_cons (ss_set 6 nd (se_call ft T_f_law_put_in hr (ses_cons (se_var 4) (ses_cons (se_var 5) ses_nil))))
      ss_nil)) (ss_cons (ss_if (st_cmp (cmp_eq hr) (se_var 1) se_int) (ss_cons (ss_set 6 nd (se_call ft T_f_law_bent_kind hr (ses_cons (se_var 0) (ses_cons (se_var 4) (ses_cons (se_var 3) ses_nil)))))
      ss_nil) (ss_cons (ss_set 6 nd (se_call ft T_f_law_loosened hr (ses_cons (se_var 0) (ses_cons (se_var 4) (ses_cons (se_var 3) ses_nil)))))
      (ss_cons (ss_set 4 nd (se_ite (st_cmp cmp_gt (se_var 1) se_int) (se_call ft T_f_law_loosened hr (ses_cons (se_var 0) (ses_cons (se_var 4) (ses_cons (se_var 2) ses_nil)))) (se_var 4)))
      ss_nil)))
      ss_nil))
      (ss_cons (ss_ret (se_ite (st_cmp cmp_le (se_call ft T_f_law_parts hr (ses_cons (se_var 6) ses_nil)) se_int) (se_tup (ses_cons (se_var 4) (ses_cons (se_var 6) ses_nil))) (se_tup (ses_cons (se_var 4) (ses_cons (se_var 4) ses_nil)))))
      ss_nil)))))))
end
end Prog

namespace Prog
open PySem PySem.Spec PyProof.Rows L2 Snd
section
variable {P : Program} {w : World} {K : PySem.W.Frag} {mg : Str → Option Value} {base : Heap}
theorem scf_law : FnScope ["_law_script", "_law_bag_here", "_law_again", "_law_left", "_law_right", "_law_due", "_law_found", "_law_back"] ["_law_script"] (defScope sf_law) := ⟨rfl, rfl, rfl, by decide +kernel, rfl, by decide +kernel, by decide +kernel⟩
theorem okf_law {n : Nat} {a : Addr} {fd : FuncData} (F : Fun K "law" "law" sf_law a fd) (ft : FT T KW n P w K mg base) (mb : ∀ s ∈ bn, mg (Str.ofString s) = none) : FnOk P w K mg base CX0 (n + 1) a fd ["_law_script"] (spI T (n + 1) K "law") :=
  have nd := (scf_law).nd
  fn_ok F scf_law T_f_law rfl rfl fun cdv A outer s H E hr =>
    (ss_cons (ss_set 1 nd (se_call ft T_f_law_bag hr (ses_cons (se_var 0) ses_nil)))
      (ss_cons (ss_for PassesOwn.never rfl (si_range1 (se_bin bin_add se_int (se_blt (blt_min rfl) (ses_cons se_int (ses_cons (se_bin bin_fdiv (se_blt blt_len (ses_cons (se_var 0) ses_nil) (mb "len" (by decide)) bv_len) se_int) ses_nil)) (mb "min" (by decide)) bv_min)) (mb "range" (by decide))) (sg_name 2 nd) (ss_cons (ss_asg (se_call ft T_f_law_pair hr (ses_cons (se_var 1) ses_nil)) (sg_tup rfl (sgs_cons (sg_name 3 nd) (sgs_cons (sg_name 4 nd) sgs_nil)) (puts_len _)))
      (ss_cons (ss_set 5 nd (se_call ft T_f_law_joined hr (ses_cons (se_var 3) (ses_cons (se_var 4) ses_nil))))
      (ss_cons (ss_set 6 nd (se_list is_lst (sn_lst (ses_cons (se_call ft T_f_alike hr (ses_cons (se_var 3) (ses_cons (se_var 4) ses_nil))) (ses_cons (se_callK0 (ks := ["two", "one"]) (perm := [1, 0]) ft T_f_alike (by decide) hr (sks_cons (se_var 4) (sks_cons (se_var 3) sks_nil))) (ses_cons (se_call ft T_f_alike hr (ses_cons (se_var 3) (ses_cons (se_var 3) ses_nil))) ses_nil))))))
      (ss_cons (ss_set 7 nd (se_call ft T_f_alike hr (ses_cons (se_var 4) (ses_cons (se_var 3) ses_nil))))
      (ss_cons (ss_if (st_cmp cmp_is (se_var 5) se_non) (ss_cons (ss_if (st_w (sw_or (st_cmp (cmp_ne hr) (se_sli (se_var 6) so_none (so_some se_int)) (se_list is_lst (sn_lst (ses_cons se_non (ses_cons se_non ses_nil))))) (sw_or (st_cmp cmp_isnot (se_var 7) se_non) (sw_or1 (st_not (st_val (se_call ft T_f_law_alike hr (ses_cons (se_idx hr (se_var 6) se_int) (ses_cons (se_idx hr (se_call ft T_f_law_named hr (ses_cons (se_list is_lst (sn_lst (ses_cons (se_var 3) ses_nil))) ses_nil)) se_int) ses_nil))))))))) (ss_cons (ss_ret se_bool)
      ss_nil) ss_nil)
      ss_nil) (ss_cons (ss_set 5 nd (se_idx hr (se_call ft T_f_law_named hr (ses_cons (se_list is_lst (sn_lst (ses_cons (se_var 5) ses_nil))) ses_nil)) se_int))
      (ss_cons (ss_if (st_w (sw_or (st_not (st_val (se_call ft T_f_law_alike hr (ses_cons (se_var 6) (ses_cons (se_list is_lst (sn_lst (ses_cons (se_var 5) (ses_cons (se_var 5) (ses_cons (se_idx hr (se_call ft T_f_law_named hr (ses_cons (se_list is_lst (sn_lst (ses_cons (se_var 3) ses_nil))) ses_nil)) se_int) ses_nil))))) ses_nil))))) (sw_or1 (st_not (st_val (se_call ft T_f_law_alike hr (ses_cons (se_var 7) (ses_cons (se_var 5) ses_nil)))))))) (ss_cons (ss_ret se_bool)
      ss_nil) ss_nil)
      ss_nil)))
      ss_nil))))))
      (ss_cons (ss_ret se_bool)
      ss_nil)))
end
end Prog

namespace Prog
open PySem PySem.Spec PyProof.Rows L2 Snd
theorem ft_all {P : Program} {w : World} {K : PySem.W.Frag} {mg : Str → Option Value} {base : Heap} {a0 : Addr} {fd0 : FuncData} {a1 : Addr} {fd1 : FuncData} {a2 : Addr} {fd2 : FuncData} {a3 : Addr} {fd3 : FuncData} {a4 : Addr} {fd4 : FuncData} {a5 : Addr} {fd5 : FuncData} {a6 : Addr} {fd6 : FuncData} {a7 : Addr} {fd7 : FuncData} {a8 : Addr} {fd8 : FuncData} {a9 : Addr} {fd9 : FuncData} {a10 : Addr} {fd10 : FuncData} {a11 : Addr} {fd11 : FuncData} {a12 : Addr} {fd12 : FuncData} {a13 : Addr} {fd13 : FuncData} {a14 : Addr} {fd14 : FuncData} {a15 : Addr} {fd15 : FuncData} {a16 : Addr} {fd16 : FuncData} {a17 : Addr} {fd17 : FuncData} {a18 : Addr} {fd18 : FuncData} {a19 : Addr} {fd19 : FuncData} {a20 : Addr} {fd20 : FuncData} {a21 : Addr} {fd21 : FuncData}
    (F0 : Fun K "renamed" "renamed" sf_renamed a0 fd0) (m0 : mg (Str.ofString "renamed") = some (.ref a0)) (b0 : Binds K fd0 ["one", "numbers"] [])
    (F1 : Fun K "named" "named" sf_named a1 fd1) (m1 : mg (Str.ofString "named") = some (.ref a1)) (b1 : Binds K fd1 ["types"] [])
    (F2 : Fun K "seen" "seen" sf_seen a2 fd2) (m2 : mg (Str.ofString "seen") = some (.ref a2)) (b2 : Binds K fd2 ["one", "filling"] [])
    (F3 : Fun K "stands_in" "stands_in" sf_stands_in a3 fd3) (m3 : mg (Str.ofString "stands_in") = some (.ref a3)) (b3 : Binds K fd3 ["number", "one", "filling"] [])
    (F4 : Fun K "made_alike" "made_alike" sf_made_alike a4 fd4) (m4 : mg (Str.ofString "made_alike") = some (.ref a4)) (b4 : Binds K fd4 ["one", "two", "filling"] [])
    (F5 : Fun K "filled" "filled" sf_filled a5 fd5) (m5 : mg (Str.ofString "filled") = some (.ref a5)) (b5 : Binds K fd5 ["one", "filling"] [])
    (F6 : Fun K "alike" "alike" sf_alike a6 fd6) (m6 : mg (Str.ofString "alike") = some (.ref a6)) (b6 : Binds K fd6 ["one", "two"] [])
    (F7 : Fun K "_law_bag" "_law_bag" sf_law_bag a7 fd7) (m7 : mg (Str.ofString "_law_bag") = some (.ref a7)) (b7 : Binds K fd7 ["_law_script"] [])
    (F8 : Fun K "_law_stirred" "_law_stirred" sf_law_stirred a8 fd8) (m8 : mg (Str.ofString "_law_stirred") = some (.ref a8)) (b8 : Binds K fd8 ["_law_bag_here", "_law_many"] [])
    (F9 : Fun K "_law_draw" "_law_draw" sf_law_draw a9 fd9) (m9 : mg (Str.ofString "_law_draw") = some (.ref a9)) (b9 : Binds K fd9 ["_law_bag_here", "_law_many"] [])
    (F10 : Fun K "_law_alike" "_law_alike" sf_law_alike a10 fd10) (m10 : mg (Str.ofString "_law_alike") = some (.ref a10)) (b10 : Binds K fd10 ["_law_found", "_law_due"] [])
    (F11 : Fun K "_law_any_kind" "_law_any_kind" sf_law_any_kind a11 fd11) (m11 : mg (Str.ofString "_law_any_kind") = some (.ref a11)) (b11 : Binds K fd11 ["_law_bag_here", "_law_frees_here", "_law_many"] [])
    (F12 : Fun K "_law_numbers" "_law_numbers" sf_law_numbers a12 fd12) (m12 : mg (Str.ofString "_law_numbers") = some (.ref a12)) (b12 : Binds K fd12 ["_law_bag_here"] [])
    (F13 : Fun K "_law_put_in" "_law_put_in" sf_law_put_in a13 fd13) (m13 : mg (Str.ofString "_law_put_in") = some (.ref a13)) (b13 : Binds K fd13 ["_law_kind", "_law_filling"] [])
    (F14 : Fun K "_law_frees" "_law_frees" sf_law_frees a14 fd14) (m14 : mg (Str.ofString "_law_frees") = some (.ref a14)) (b14 : Binds K fd14 ["_law_kind"] [])
    (F15 : Fun K "_law_parts" "_law_parts" sf_law_parts a15 fd15) (m15 : mg (Str.ofString "_law_parts") = some (.ref a15)) (b15 : Binds K fd15 ["_law_kind"] [])
    (F16 : Fun K "_law_bent_kind" "_law_bent_kind" sf_law_bent_kind a16 fd16) (m16 : mg (Str.ofString "_law_bent_kind") = some (.ref a16)) (b16 : Binds K fd16 ["_law_bag_here", "_law_kind", "_law_frees_here"] [])
    (F17 : Fun K "_law_named" "_law_named" sf_law_named a17 fd17) (m17 : mg (Str.ofString "_law_named") = some (.ref a17)) (b17 : Binds K fd17 ["_law_some"] [])
    (F18 : Fun K "_law_joined" "_law_joined" sf_law_joined a18 fd18) (m18 : mg (Str.ofString "_law_joined") = some (.ref a18)) (b18 : Binds K fd18 ["_law_lhs", "_law_rhs"] [])
    (F19 : Fun K "_law_loosened" "_law_loosened" sf_law_loosened a19 fd19) (m19 : mg (Str.ofString "_law_loosened") = some (.ref a19)) (b19 : Binds K fd19 ["_law_bag_here", "_law_kind", "_law_frees_here"] [])
    (F20 : Fun K "_law_pair" "_law_pair" sf_law_pair a20 fd20) (m20 : mg (Str.ofString "_law_pair") = some (.ref a20)) (b20 : Binds K fd20 ["_law_bag_here"] [])
    (F21 : Fun K "law" "law" sf_law a21 fd21) (m21 : mg (Str.ofString "law") = some (.ref a21)) (b21 : Binds K fd21 ["_law_script"] [])
    (kw0 : KwOk K fd6 ["one", "two"] ("alike", 0, ["two", "one"], [1, 0]))
    (mb : ∀ s ∈ bn, mg (Str.ofString s) = none) : ∀ n : Nat, FT T KW n P w K mg base
  | 0 => ft_zero fun f fn hT => by
    have hm := Ir.tab_mem hT
    simp only [tab, List.mem_cons, List.not_mem_nil, or_false] at hm
    rcases hm with hm | hm | hm | hm | hm | hm | hm | hm | hm | hm | hm | hm | hm | hm | hm | hm | hm | hm | hm | hm | hm | hm
    · simp only [Prod.mk.injEq] at hm
      obtain ⟨rfl, rfl⟩ := hm
      exact ⟨a0, fd0, _, m0, F0.kp, b0, (fun q hq e => by
        simp only [KW, List.mem_cons, List.not_mem_nil, or_false] at hq
        rcases hq with rfl
        · exact absurd e (by decide))⟩
    · simp only [Prod.mk.injEq] at hm
      obtain ⟨rfl, rfl⟩ := hm
      exact ⟨a1, fd1, _, m1, F1.kp, b1, (fun q hq e => by
        simp only [KW, List.mem_cons, List.not_mem_nil, or_false] at hq
        rcases hq with rfl
        · exact absurd e (by decide))⟩
    · simp only [Prod.mk.injEq] at hm
      obtain ⟨rfl, rfl⟩ := hm
      exact ⟨a2, fd2, _, m2, F2.kp, b2, (fun q hq e => by
        simp only [KW, List.mem_cons, List.not_mem_nil, or_false] at hq
        rcases hq with rfl
        · exact absurd e (by decide))⟩
    · simp only [Prod.mk.injEq] at hm
      obtain ⟨rfl, rfl⟩ := hm
      exact ⟨a3, fd3, _, m3, F3.kp, b3, (fun q hq e => by
        simp only [KW, List.mem_cons, List.not_mem_nil, or_false] at hq
        rcases hq with rfl
        · exact absurd e (by decide))⟩
    · simp only [Prod.mk.injEq] at hm
      obtain ⟨rfl, rfl⟩ := hm
      exact ⟨a4, fd4, _, m4, F4.kp, b4, (fun q hq e => by
        simp only [KW, List.mem_cons, List.not_mem_nil, or_false] at hq
        rcases hq with rfl
        · exact absurd e (by decide))⟩
    · simp only [Prod.mk.injEq] at hm
      obtain ⟨rfl, rfl⟩ := hm
      exact ⟨a5, fd5, _, m5, F5.kp, b5, (fun q hq e => by
        simp only [KW, List.mem_cons, List.not_mem_nil, or_false] at hq
        rcases hq with rfl
        · exact absurd e (by decide))⟩
    · simp only [Prod.mk.injEq] at hm
      obtain ⟨rfl, rfl⟩ := hm
      exact ⟨a6, fd6, _, m6, F6.kp, b6, (fun q hq e => by
        simp only [KW, List.mem_cons, List.not_mem_nil, or_false] at hq
        rcases hq with rfl
        · exact kw0)⟩
    · simp only [Prod.mk.injEq] at hm
      obtain ⟨rfl, rfl⟩ := hm
      exact ⟨a7, fd7, _, m7, F7.kp, b7, (fun q hq e => by
        simp only [KW, List.mem_cons, List.not_mem_nil, or_false] at hq
        rcases hq with rfl
        · exact absurd e (by decide))⟩
    · simp only [Prod.mk.injEq] at hm
      obtain ⟨rfl, rfl⟩ := hm
      exact ⟨a8, fd8, _, m8, F8.kp, b8, (fun q hq e => by
        simp only [KW, List.mem_cons, List.not_mem_nil, or_false] at hq
        rcases hq with rfl
        · exact absurd e (by decide))⟩
    · simp only [Prod.mk.injEq] at hm
      obtain ⟨rfl, rfl⟩ := hm
      exact ⟨a9, fd9, _, m9, F9.kp, b9, (fun q hq e => by
        simp only [KW, List.mem_cons, List.not_mem_nil, or_false] at hq
        rcases hq with rfl
        · exact absurd e (by decide))⟩
    · simp only [Prod.mk.injEq] at hm
      obtain ⟨rfl, rfl⟩ := hm
      exact ⟨a10, fd10, _, m10, F10.kp, b10, (fun q hq e => by
        simp only [KW, List.mem_cons, List.not_mem_nil, or_false] at hq
        rcases hq with rfl
        · exact absurd e (by decide))⟩
    · simp only [Prod.mk.injEq] at hm
      obtain ⟨rfl, rfl⟩ := hm
      exact ⟨a11, fd11, _, m11, F11.kp, b11, (fun q hq e => by
        simp only [KW, List.mem_cons, List.not_mem_nil, or_false] at hq
        rcases hq with rfl
        · exact absurd e (by decide))⟩
    · simp only [Prod.mk.injEq] at hm
      obtain ⟨rfl, rfl⟩ := hm
      exact ⟨a12, fd12, _, m12, F12.kp, b12, (fun q hq e => by
        simp only [KW, List.mem_cons, List.not_mem_nil, or_false] at hq
        rcases hq with rfl
        · exact absurd e (by decide))⟩
    · simp only [Prod.mk.injEq] at hm
      obtain ⟨rfl, rfl⟩ := hm
      exact ⟨a13, fd13, _, m13, F13.kp, b13, (fun q hq e => by
        simp only [KW, List.mem_cons, List.not_mem_nil, or_false] at hq
        rcases hq with rfl
        · exact absurd e (by decide))⟩
    · simp only [Prod.mk.injEq] at hm
      obtain ⟨rfl, rfl⟩ := hm
      exact ⟨a14, fd14, _, m14, F14.kp, b14, (fun q hq e => by
        simp only [KW, List.mem_cons, List.not_mem_nil, or_false] at hq
        rcases hq with rfl
        · exact absurd e (by decide))⟩
    · simp only [Prod.mk.injEq] at hm
      obtain ⟨rfl, rfl⟩ := hm
      exact ⟨a15, fd15, _, m15, F15.kp, b15, (fun q hq e => by
        simp only [KW, List.mem_cons, List.not_mem_nil, or_false] at hq
        rcases hq with rfl
        · exact absurd e (by decide))⟩
    · simp only [Prod.mk.injEq] at hm
      obtain ⟨rfl, rfl⟩ := hm
      exact ⟨a16, fd16, _, m16, F16.kp, b16, (fun q hq e => by
        simp only [KW, List.mem_cons, List.not_mem_nil, or_false] at hq
        rcases hq with rfl
        · exact absurd e (by decide))⟩
    · simp only [Prod.mk.injEq] at hm
      obtain ⟨rfl, rfl⟩ := hm
      exact ⟨a17, fd17, _, m17, F17.kp, b17, (fun q hq e => by
        simp only [KW, List.mem_cons, List.not_mem_nil, or_false] at hq
        rcases hq with rfl
        · exact absurd e (by decide))⟩
    · simp only [Prod.mk.injEq] at hm
      obtain ⟨rfl, rfl⟩ := hm
      exact ⟨a18, fd18, _, m18, F18.kp, b18, (fun q hq e => by
        simp only [KW, List.mem_cons, List.not_mem_nil, or_false] at hq
        rcases hq with rfl
        · exact absurd e (by decide))⟩
    · simp only [Prod.mk.injEq] at hm
      obtain ⟨rfl, rfl⟩ := hm
      exact ⟨a19, fd19, _, m19, F19.kp, b19, (fun q hq e => by
        simp only [KW, List.mem_cons, List.not_mem_nil, or_false] at hq
        rcases hq with rfl
        · exact absurd e (by decide))⟩
    · simp only [Prod.mk.injEq] at hm
      obtain ⟨rfl, rfl⟩ := hm
      exact ⟨a20, fd20, _, m20, F20.kp, b20, (fun q hq e => by
        simp only [KW, List.mem_cons, List.not_mem_nil, or_false] at hq
        rcases hq with rfl
        · exact absurd e (by decide))⟩
    · simp only [Prod.mk.injEq] at hm
      obtain ⟨rfl, rfl⟩ := hm
      exact ⟨a21, fd21, _, m21, F21.kp, b21, (fun q hq e => by
        simp only [KW, List.mem_cons, List.not_mem_nil, or_false] at hq
        rcases hq with rfl
        · exact absurd e (by decide))⟩
  | n + 1 => ⟨fun f fn hT => by
    have ih := ft_all (P := P) (w := w) (base := base) F0 m0 b0 F1 m1 b1 F2 m2 b2 F3 m3 b3 F4 m4 b4 F5 m5 b5 F6 m6 b6 F7 m7 b7 F8 m8 b8 F9 m9 b9 F10 m10 b10 F11 m11 b11 F12 m12 b12 F13 m13 b13 F14 m14 b14 F15 m15 b15 F16 m16 b16 F17 m17 b17 F18 m18 b18 F19 m19 b19 F20 m20 b20 F21 m21 b21 kw0 mb n
    have hm := Ir.tab_mem hT
    simp only [tab, List.mem_cons, List.not_mem_nil, or_false] at hm
    rcases hm with hm | hm | hm | hm | hm | hm | hm | hm | hm | hm | hm | hm | hm | hm | hm | hm | hm | hm | hm | hm | hm | hm
    · simp only [Prod.mk.injEq] at hm
      obtain ⟨rfl, rfl⟩ := hm
      exact ⟨a0, fd0, _, okf_renamed F0 ih mb, m0, F0.kp, b0, (fun q hq e => by
        simp only [KW, List.mem_cons, List.not_mem_nil, or_false] at hq
        rcases hq with rfl
        · exact absurd e (by decide))⟩
    · simp only [Prod.mk.injEq] at hm
      obtain ⟨rfl, rfl⟩ := hm
      exact ⟨a1, fd1, _, okf_named F1 ih mb, m1, F1.kp, b1, (fun q hq e => by
        simp only [KW, List.mem_cons, List.not_mem_nil, or_false] at hq
        rcases hq with rfl
        · exact absurd e (by decide))⟩
    · simp only [Prod.mk.injEq] at hm
      obtain ⟨rfl, rfl⟩ := hm
      exact ⟨a2, fd2, _, okf_seen F2 ih mb, m2, F2.kp, b2, (fun q hq e => by
        simp only [KW, List.mem_cons, List.not_mem_nil, or_false] at hq
        rcases hq with rfl
        · exact absurd e (by decide))⟩
    · simp only [Prod.mk.injEq] at hm
      obtain ⟨rfl, rfl⟩ := hm
      exact ⟨a3, fd3, _, okf_stands_in F3 ih mb, m3, F3.kp, b3, (fun q hq e => by
        simp only [KW, List.mem_cons, List.not_mem_nil, or_false] at hq
        rcases hq with rfl
        · exact absurd e (by decide))⟩
    · simp only [Prod.mk.injEq] at hm
      obtain ⟨rfl, rfl⟩ := hm
      exact ⟨a4, fd4, _, okf_made_alike F4 ih mb, m4, F4.kp, b4, (fun q hq e => by
        simp only [KW, List.mem_cons, List.not_mem_nil, or_false] at hq
        rcases hq with rfl
        · exact absurd e (by decide))⟩
    · simp only [Prod.mk.injEq] at hm
      obtain ⟨rfl, rfl⟩ := hm
      exact ⟨a5, fd5, _, okf_filled F5 ih mb, m5, F5.kp, b5, (fun q hq e => by
        simp only [KW, List.mem_cons, List.not_mem_nil, or_false] at hq
        rcases hq with rfl
        · exact absurd e (by decide))⟩
    · simp only [Prod.mk.injEq] at hm
      obtain ⟨rfl, rfl⟩ := hm
      exact ⟨a6, fd6, _, okf_alike F6 ih mb, m6, F6.kp, b6, (fun q hq e => by
        simp only [KW, List.mem_cons, List.not_mem_nil, or_false] at hq
        rcases hq with rfl
        · exact kw0)⟩
    · simp only [Prod.mk.injEq] at hm
      obtain ⟨rfl, rfl⟩ := hm
      exact ⟨a7, fd7, _, okf_law_bag F7 ih mb, m7, F7.kp, b7, (fun q hq e => by
        simp only [KW, List.mem_cons, List.not_mem_nil, or_false] at hq
        rcases hq with rfl
        · exact absurd e (by decide))⟩
    · simp only [Prod.mk.injEq] at hm
      obtain ⟨rfl, rfl⟩ := hm
      exact ⟨a8, fd8, _, okf_law_stirred F8 ih mb, m8, F8.kp, b8, (fun q hq e => by
        simp only [KW, List.mem_cons, List.not_mem_nil, or_false] at hq
        rcases hq with rfl
        · exact absurd e (by decide))⟩
    · simp only [Prod.mk.injEq] at hm
      obtain ⟨rfl, rfl⟩ := hm
      exact ⟨a9, fd9, _, okf_law_draw F9 ih mb, m9, F9.kp, b9, (fun q hq e => by
        simp only [KW, List.mem_cons, List.not_mem_nil, or_false] at hq
        rcases hq with rfl
        · exact absurd e (by decide))⟩
    · simp only [Prod.mk.injEq] at hm
      obtain ⟨rfl, rfl⟩ := hm
      exact ⟨a10, fd10, _, okf_law_alike F10 ih mb, m10, F10.kp, b10, (fun q hq e => by
        simp only [KW, List.mem_cons, List.not_mem_nil, or_false] at hq
        rcases hq with rfl
        · exact absurd e (by decide))⟩
    · simp only [Prod.mk.injEq] at hm
      obtain ⟨rfl, rfl⟩ := hm
      exact ⟨a11, fd11, _, okf_law_any_kind F11 ih mb, m11, F11.kp, b11, (fun q hq e => by
        simp only [KW, List.mem_cons, List.not_mem_nil, or_false] at hq
        rcases hq with rfl
        · exact absurd e (by decide))⟩
    · simp only [Prod.mk.injEq] at hm
      obtain ⟨rfl, rfl⟩ := hm
      exact ⟨a12, fd12, _, okf_law_numbers F12 ih mb, m12, F12.kp, b12, (fun q hq e => by
        simp only [KW, List.mem_cons, List.not_mem_nil, or_false] at hq
        rcases hq with rfl
        · exact absurd e (by decide))⟩
    · simp only [Prod.mk.injEq] at hm
      obtain ⟨rfl, rfl⟩ := hm
      exact ⟨a13, fd13, _, okf_law_put_in F13 ih mb, m13, F13.kp, b13, (fun q hq e => by
        simp only [KW, List.mem_cons, List.not_mem_nil, or_false] at hq
        rcases hq with rfl
        · exact absurd e (by decide))⟩
    · simp only [Prod.mk.injEq] at hm
      obtain ⟨rfl, rfl⟩ := hm
      exact ⟨a14, fd14, _, okf_law_frees F14 ih mb, m14, F14.kp, b14, (fun q hq e => by
        simp only [KW, List.mem_cons, List.not_mem_nil, or_false] at hq
        rcases hq with rfl
        · exact absurd e (by decide))⟩
    · simp only [Prod.mk.injEq] at hm
      obtain ⟨rfl, rfl⟩ := hm
      exact ⟨a15, fd15, _, okf_law_parts F15 ih mb, m15, F15.kp, b15, (fun q hq e => by
        simp only [KW, List.mem_cons, List.not_mem_nil, or_false] at hq
        rcases hq with rfl
        · exact absurd e (by decide))⟩
    · simp only [Prod.mk.injEq] at hm
      obtain ⟨rfl, rfl⟩ := hm
      exact ⟨a16, fd16, _, okf_law_bent_kind F16 ih mb, m16, F16.kp, b16, (fun q hq e => by
        simp only [KW, List.mem_cons, List.not_mem_nil, or_false] at hq
        rcases hq with rfl
        · exact absurd e (by decide))⟩
    · simp only [Prod.mk.injEq] at hm
      obtain ⟨rfl, rfl⟩ := hm
      exact ⟨a17, fd17, _, okf_law_named F17 ih mb, m17, F17.kp, b17, (fun q hq e => by
        simp only [KW, List.mem_cons, List.not_mem_nil, or_false] at hq
        rcases hq with rfl
        · exact absurd e (by decide))⟩
    · simp only [Prod.mk.injEq] at hm
      obtain ⟨rfl, rfl⟩ := hm
      exact ⟨a18, fd18, _, okf_law_joined F18 ih mb, m18, F18.kp, b18, (fun q hq e => by
        simp only [KW, List.mem_cons, List.not_mem_nil, or_false] at hq
        rcases hq with rfl
        · exact absurd e (by decide))⟩
    · simp only [Prod.mk.injEq] at hm
      obtain ⟨rfl, rfl⟩ := hm
      exact ⟨a19, fd19, _, okf_law_loosened F19 ih mb, m19, F19.kp, b19, (fun q hq e => by
        simp only [KW, List.mem_cons, List.not_mem_nil, or_false] at hq
        rcases hq with rfl
        · exact absurd e (by decide))⟩
    · simp only [Prod.mk.injEq] at hm
      obtain ⟨rfl, rfl⟩ := hm
      exact ⟨a20, fd20, _, okf_law_pair F20 ih mb, m20, F20.kp, b20, (fun q hq e => by
        simp only [KW, List.mem_cons, List.not_mem_nil, or_false] at hq
        rcases hq with rfl
        · exact absurd e (by decide))⟩
    · simp only [Prod.mk.injEq] at hm
      obtain ⟨rfl, rfl⟩ := hm
      exact ⟨a21, fd21, _, okf_law F21 ih mb, m21, F21.kp, b21, (fun q hq e => by
        simp only [KW, List.mem_cons, List.not_mem_nil, or_false] at hq
        rcases hq with rfl
        · exact absurd e (by decide))⟩⟩
def spLaw (n : Nat) (K : PySem.W.Frag) : Sp := spI T n K "law"
theorem all_mk {l : PySem.W.OpenLaw} {w : World} {K : PySem.W.Frag} {h : Heap} {mg : Str → Option Value} {fa f0 f1 f2 f3 f4 f5 f6 f7 f8 f9 f10 f11 f12 f13 f14 f15 f16 f17 f18 f19 f20 f21 : Addr} (X : K.In h) (G : h.Ns mainGlobals mg) (hfa : mg "law" = some (.ref fa))
    {od0 an0 od1 an1 od2 an2 od3 an3 od4 an4 od5 an5 od6 an6 od7 an7 od8 an8 od9 an9 od10 an10 od11 an11 od12 an12 od13 an13 od14 an14 od15 an15 od16 an16 od17 an17 od18 an18 od19 an19 od20 an20 od21 an21 : Option Addr} {sl0 sl1 sl2 sl3 sl4 sl5 sl6 sl7 sl8 sl9 sl10 sl11 sl12 sl13 sl14 sl15 sl16 sl17 sl18 sl19 sl20 sl21 : Array (Option Value)} {oc0 kV0 dc0 pm0 cd0 ct0 oc1 kV1 dc1 pm1 cd1 ct1 oc2 kV2 dc2 pm2 cd2 ct2 oc3 kV3 dc3 pm3 cd3 ct3 oc4 kV4 dc4 pm4 cd4 ct4 oc5 kV5 dc5 pm5 cd5 ct5 oc6 kV6 dc6 pm6 cd6 ct6 oc7 kV7 dc7 pm7 cd7 ct7 oc8 kV8 dc8 pm8 cd8 ct8 oc9 kV9 dc9 pm9 cd9 ct9 oc10 kV10 dc10 pm10 cd10 ct10 oc11 kV11 dc11 pm11 cd11 ct11 oc12 kV12 dc12 pm12 cd12 ct12 oc13 kV13 dc13 pm13 cd13 ct13 oc14 kV14 dc14 pm14 cd14 ct14 oc15 kV15 dc15 pm15 cd15 ct15 oc16 kV16 dc16 pm16 cd16 ct16 oc17 kV17 dc17 pm17 cd17 ct17 oc18 kV18 dc18 pm18 cd18 ct18 oc19 kV19 dc19 pm19 cd19 ct19 oc20 kV20 dc20 pm20 cd20 ct20 oc21 kV21 dc21 pm21 cd21 ct21 : Value}
    (x0 : PySem.W.nsIn K mainGlobals "renamed" = some (some (.ref f0))) (l0 : K.lookup f0 = some ⟨oc0, od0, .func (PySem.W.fnOf "renamed" "renamed" (defArgs sf_renamed) (defBody sf_renamed) (defScope sf_renamed) .none kV0 dc0 pm0 an0 cd0 ct0), sl0⟩) (c0 : PySem.W.codeIn K cd0 "renamed" = true) (k0 : PySem.W.keepIn K (.ref f0) = true)
    (x1 : PySem.W.nsIn K mainGlobals "named" = some (some (.ref f1))) (l1 : K.lookup f1 = some ⟨oc1, od1, .func (PySem.W.fnOf "named" "named" (defArgs sf_named) (defBody sf_named) (defScope sf_named) .none kV1 dc1 pm1 an1 cd1 ct1), sl1⟩) (c1 : PySem.W.codeIn K cd1 "named" = true) (k1 : PySem.W.keepIn K (.ref f1) = true)
    (x2 : PySem.W.nsIn K mainGlobals "seen" = some (some (.ref f2))) (l2 : K.lookup f2 = some ⟨oc2, od2, .func (PySem.W.fnOf "seen" "seen" (defArgs sf_seen) (defBody sf_seen) (defScope sf_seen) .none kV2 dc2 pm2 an2 cd2 ct2), sl2⟩) (c2 : PySem.W.codeIn K cd2 "seen" = true) (k2 : PySem.W.keepIn K (.ref f2) = true)
    (x3 : PySem.W.nsIn K mainGlobals "stands_in" = some (some (.ref f3))) (l3 : K.lookup f3 = some ⟨oc3, od3, .func (PySem.W.fnOf "stands_in" "stands_in" (defArgs sf_stands_in) (defBody sf_stands_in) (defScope sf_stands_in) .none kV3 dc3 pm3 an3 cd3 ct3), sl3⟩) (c3 : PySem.W.codeIn K cd3 "stands_in" = true) (k3 : PySem.W.keepIn K (.ref f3) = true)
    (x4 : PySem.W.nsIn K mainGlobals "made_alike" = some (some (.ref f4))) (l4 : K.lookup f4 = some ⟨oc4, od4, .func (PySem.W.fnOf "made_alike" "made_alike" (defArgs sf_made_alike) (defBody sf_made_alike) (defScope sf_made_alike) .none kV4 dc4 pm4 an4 cd4 ct4), sl4⟩) (c4 : PySem.W.codeIn K cd4 "made_alike" = true) (k4 : PySem.W.keepIn K (.ref f4) = true)
    (x5 : PySem.W.nsIn K mainGlobals "filled" = some (some (.ref f5))) (l5 : K.lookup f5 = some ⟨oc5, od5, .func (PySem.W.fnOf "filled" "filled" (defArgs sf_filled) (defBody sf_filled) (defScope sf_filled) .none kV5 dc5 pm5 an5 cd5 ct5), sl5⟩) (c5 : PySem.W.codeIn K cd5 "filled" = true) (k5 : PySem.W.keepIn K (.ref f5) = true)
    (x6 : PySem.W.nsIn K mainGlobals "alike" = some (some (.ref f6))) (l6 : K.lookup f6 = some ⟨oc6, od6, .func (PySem.W.fnOf "alike" "alike" (defArgs sf_alike) (defBody sf_alike) (defScope sf_alike) .none kV6 dc6 pm6 an6 cd6 ct6), sl6⟩) (c6 : PySem.W.codeIn K cd6 "alike" = true) (k6 : PySem.W.keepIn K (.ref f6) = true)
    (x7 : PySem.W.nsIn K mainGlobals "_law_bag" = some (some (.ref f7))) (l7 : K.lookup f7 = some ⟨oc7, od7, .func (PySem.W.fnOf "_law_bag" "_law_bag" (defArgs sf_law_bag) (defBody sf_law_bag) (defScope sf_law_bag) .none kV7 dc7 pm7 an7 cd7 ct7), sl7⟩) (c7 : PySem.W.codeIn K cd7 "_law_bag" = true) (k7 : PySem.W.keepIn K (.ref f7) = true)
    (x8 : PySem.W.nsIn K mainGlobals "_law_stirred" = some (some (.ref f8))) (l8 : K.lookup f8 = some ⟨oc8, od8, .func (PySem.W.fnOf "_law_stirred" "_law_stirred" (defArgs sf_law_stirred) (defBody sf_law_stirred) (defScope sf_law_stirred) .none kV8 dc8 pm8 an8 cd8 ct8), sl8⟩) (c8 : PySem.W.codeIn K cd8 "_law_stirred" = true) (k8 : PySem.W.keepIn K (.ref f8) = true)
    (x9 : PySem.W.nsIn K mainGlobals "_law_draw" = some (some (.ref f9))) (l9 : K.lookup f9 = some ⟨oc9, od9, .func (PySem.W.fnOf "_law_draw" "_law_draw" (defArgs sf_law_draw) (defBody sf_law_draw) (defScope sf_law_draw) .none kV9 dc9 pm9 an9 cd9 ct9), sl9⟩) (c9 : PySem.W.codeIn K cd9 "_law_draw" = true) (k9 : PySem.W.keepIn K (.ref f9) = true)
    (x10 : PySem.W.nsIn K mainGlobals "_law_alike" = some (some (.ref f10))) (l10 : K.lookup f10 = some ⟨oc10, od10, .func (PySem.W.fnOf "_law_alike" "_law_alike" (defArgs sf_law_alike) (defBody sf_law_alike) (defScope sf_law_alike) .none kV10 dc10 pm10 an10 cd10 ct10), sl10⟩) (c10 : PySem.W.codeIn K cd10 "_law_alike" = true) (k10 : PySem.W.keepIn K (.ref f10) = true)
    (x11 : PySem.W.nsIn K mainGlobals "_law_any_kind" = some (some (.ref f11))) (l11 : K.lookup f11 = some ⟨oc11, od11, .func (PySem.W.fnOf "_law_any_kind" "_law_any_kind" (defArgs sf_law_any_kind) (defBody sf_law_any_kind) (defScope sf_law_any_kind) .none kV11 dc11 pm11 an11 cd11 ct11), sl11⟩) (c11 : PySem.W.codeIn K cd11 "_law_any_kind" = true) (k11 : PySem.W.keepIn K (.ref f11) = true)
    (x12 : PySem.W.nsIn K mainGlobals "_law_numbers" = some (some (.ref f12))) (l12 : K.lookup f12 = some ⟨oc12, od12, .func (PySem.W.fnOf "_law_numbers" "_law_numbers" (defArgs sf_law_numbers) (defBody sf_law_numbers) (defScope sf_law_numbers) .none kV12 dc12 pm12 an12 cd12 ct12), sl12⟩) (c12 : PySem.W.codeIn K cd12 "_law_numbers" = true) (k12 : PySem.W.keepIn K (.ref f12) = true)
    (x13 : PySem.W.nsIn K mainGlobals "_law_put_in" = some (some (.ref f13))) (l13 : K.lookup f13 = some ⟨oc13, od13, .func (PySem.W.fnOf "_law_put_in" "_law_put_in" (defArgs sf_law_put_in) (defBody sf_law_put_in) (defScope sf_law_put_in) .none kV13 dc13 pm13 an13 cd13 ct13), sl13⟩) (c13 : PySem.W.codeIn K cd13 "_law_put_in" = true) (k13 : PySem.W.keepIn K (.ref f13) = true)
    (x14 : PySem.W.nsIn K mainGlobals "_law_frees" = some (some (.ref f14))) (l14 : K.lookup f14 = some ⟨oc14, od14, .func (PySem.W.fnOf "_law_frees" "_law_frees" (defArgs sf_law_frees) (defBody sf_law_frees) (defScope sf_law_frees) .none kV14 dc14 pm14 an14 cd14 ct14), sl14⟩) (c14 : PySem.W.codeIn K cd14 "_law_frees" = true) (k14 : PySem.W.keepIn K (.ref f14) = true)
    (x15 : PySem.W.nsIn K mainGlobals "_law_parts" = some (some (.ref f15))) (l15 : K.lookup f15 = some ⟨oc15, od15, .func (PySem.W.fnOf "_law_parts" "_law_parts" (defArgs sf_law_parts) (defBody sf_law_parts) (defScope sf_law_parts) .none kV15 dc15 pm15 an15 cd15 ct15), sl15⟩) (c15 : PySem.W.codeIn K cd15 "_law_parts" = true) (k15 : PySem.W.keepIn K (.ref f15) = true)
    (x16 : PySem.W.nsIn K mainGlobals "_law_bent_kind" = some (some (.ref f16))) (l16 : K.lookup f16 = some ⟨oc16, od16, .func (PySem.W.fnOf "_law_bent_kind" "_law_bent_kind" (defArgs sf_law_bent_kind) (defBody sf_law_bent_kind) (defScope sf_law_bent_kind) .none kV16 dc16 pm16 an16 cd16 ct16), sl16⟩) (c16 : PySem.W.codeIn K cd16 "_law_bent_kind" = true) (k16 : PySem.W.keepIn K (.ref f16) = true)
    (x17 : PySem.W.nsIn K mainGlobals "_law_named" = some (some (.ref f17))) (l17 : K.lookup f17 = some ⟨oc17, od17, .func (PySem.W.fnOf "_law_named" "_law_named" (defArgs sf_law_named) (defBody sf_law_named) (defScope sf_law_named) .none kV17 dc17 pm17 an17 cd17 ct17), sl17⟩) (c17 : PySem.W.codeIn K cd17 "_law_named" = true) (k17 : PySem.W.keepIn K (.ref f17) = true)
    (x18 : PySem.W.nsIn K mainGlobals "_law_joined" = some (some (.ref f18))) (l18 : K.lookup f18 = some ⟨oc18, od18, .func (PySem.W.fnOf "_law_joined" "_law_joined" (defArgs sf_law_joined) (defBody sf_law_joined) (defScope sf_law_joined) .none kV18 dc18 pm18 an18 cd18 ct18), sl18⟩) (c18 : PySem.W.codeIn K cd18 "_law_joined" = true) (k18 : PySem.W.keepIn K (.ref f18) = true)
    (x19 : PySem.W.nsIn K mainGlobals "_law_loosened" = some (some (.ref f19))) (l19 : K.lookup f19 = some ⟨oc19, od19, .func (PySem.W.fnOf "_law_loosened" "_law_loosened" (defArgs sf_law_loosened) (defBody sf_law_loosened) (defScope sf_law_loosened) .none kV19 dc19 pm19 an19 cd19 ct19), sl19⟩) (c19 : PySem.W.codeIn K cd19 "_law_loosened" = true) (k19 : PySem.W.keepIn K (.ref f19) = true)
    (x20 : PySem.W.nsIn K mainGlobals "_law_pair" = some (some (.ref f20))) (l20 : K.lookup f20 = some ⟨oc20, od20, .func (PySem.W.fnOf "_law_pair" "_law_pair" (defArgs sf_law_pair) (defBody sf_law_pair) (defScope sf_law_pair) .none kV20 dc20 pm20 an20 cd20 ct20), sl20⟩) (c20 : PySem.W.codeIn K cd20 "_law_pair" = true) (k20 : PySem.W.keepIn K (.ref f20) = true)
    (x21 : PySem.W.nsIn K mainGlobals "law" = some (some (.ref f21))) (l21 : K.lookup f21 = some ⟨oc21, od21, .func (PySem.W.fnOf "law" "law" (defArgs sf_law) (defBody sf_law) (defScope sf_law) .none kV21 dc21 pm21 an21 cd21 ct21), sl21⟩) (c21 : PySem.W.codeIn K cd21 "law" = true) (k21 : PySem.W.keepIn K (.ref f21) = true)
    (z0 : PySem.W.nsIn K mainGlobals "abs" = some none) (z1 : PySem.W.nsIn K mainGlobals "all" = some none) (z2 : PySem.W.nsIn K mainGlobals "any" = some none) (z3 : PySem.W.nsIn K mainGlobals "bool" = some none) (z4 : PySem.W.nsIn K mainGlobals "dict" = some none) (z5 : PySem.W.nsIn K mainGlobals "int" = some none) (z6 : PySem.W.nsIn K mainGlobals "isinstance" = some none) (z7 : PySem.W.nsIn K mainGlobals "len" = some none) (z8 : PySem.W.nsIn K mainGlobals "list" = some none) (z9 : PySem.W.nsIn K mainGlobals "min" = some none) (z10 : PySem.W.nsIn K mainGlobals "range" = some none) (z11 : PySem.W.nsIn K mainGlobals "str" = some none) (z12 : PySem.W.nsIn K mainGlobals "sum" = some none) (z13 : PySem.W.nsIn K mainGlobals "tuple" = some none) (z14 : PySem.W.nsIn K mainGlobals "zip" = some none) :
    ∃ fd : FuncData, (∀ (s : Shared) (v : Value), BindsTo s fd ⟨[v], []⟩ [("_law_script", v)]) ∧ ∀ base : Heap, K.In base → base.Ns mainGlobals mg → FnOk l.prog w K mg base CX0 60 fa fd ["_law_script"] (spLaw 60 K) := by
  have e := hfa.symm.trans (PySem.W.mg_of X G x21)
  cases e
  have F0 := fun_mk (st := sf_renamed) l0 c0 k0
  have b0 := F0.binds (ps := ["one", "numbers"]) fun _ _ _ _ _ _ us hl => match us, hl with | [_, _], _ => rfl
  have F1 := fun_mk (st := sf_named) l1 c1 k1
  have b1 := F1.binds (ps := ["types"]) fun _ _ _ _ _ _ us hl => match us, hl with | [_], _ => rfl
  have F2 := fun_mk (st := sf_seen) l2 c2 k2
  have b2 := F2.binds (ps := ["one", "filling"]) fun _ _ _ _ _ _ us hl => match us, hl with | [_, _], _ => rfl
  have F3 := fun_mk (st := sf_stands_in) l3 c3 k3
  have b3 := F3.binds (ps := ["number", "one", "filling"]) fun _ _ _ _ _ _ us hl => match us, hl with | [_, _, _], _ => rfl
  have F4 := fun_mk (st := sf_made_alike) l4 c4 k4
  have b4 := F4.binds (ps := ["one", "two", "filling"]) fun _ _ _ _ _ _ us hl => match us, hl with | [_, _, _], _ => rfl
  have F5 := fun_mk (st := sf_filled) l5 c5 k5
  have b5 := F5.binds (ps := ["one", "filling"]) fun _ _ _ _ _ _ us hl => match us, hl with | [_, _], _ => rfl
  have F6 := fun_mk (st := sf_alike) l6 c6 k6
  have b6 := F6.binds (ps := ["one", "two"]) fun _ _ _ _ _ _ us hl => match us, hl with | [_, _], _ => rfl
  have F7 := fun_mk (st := sf_law_bag) l7 c7 k7
  have b7 := F7.binds (ps := ["_law_script"]) fun _ _ _ _ _ _ us hl => match us, hl with | [_], _ => rfl
  have F8 := fun_mk (st := sf_law_stirred) l8 c8 k8
  have b8 := F8.binds (ps := ["_law_bag_here", "_law_many"]) fun _ _ _ _ _ _ us hl => match us, hl with | [_, _], _ => rfl
  have F9 := fun_mk (st := sf_law_draw) l9 c9 k9
  have b9 := F9.binds (ps := ["_law_bag_here", "_law_many"]) fun _ _ _ _ _ _ us hl => match us, hl with | [_, _], _ => rfl
  have F10 := fun_mk (st := sf_law_alike) l10 c10 k10
  have b10 := F10.binds (ps := ["_law_found", "_law_due"]) fun _ _ _ _ _ _ us hl => match us, hl with | [_, _], _ => rfl
  have F11 := fun_mk (st := sf_law_any_kind) l11 c11 k11
  have b11 := F11.binds (ps := ["_law_bag_here", "_law_frees_here", "_law_many"]) fun _ _ _ _ _ _ us hl => match us, hl with | [_, _, _], _ => rfl
  have F12 := fun_mk (st := sf_law_numbers) l12 c12 k12
  have b12 := F12.binds (ps := ["_law_bag_here"]) fun _ _ _ _ _ _ us hl => match us, hl with | [_], _ => rfl
  have F13 := fun_mk (st := sf_law_put_in) l13 c13 k13
  have b13 := F13.binds (ps := ["_law_kind", "_law_filling"]) fun _ _ _ _ _ _ us hl => match us, hl with | [_, _], _ => rfl
  have F14 := fun_mk (st := sf_law_frees) l14 c14 k14
  have b14 := F14.binds (ps := ["_law_kind"]) fun _ _ _ _ _ _ us hl => match us, hl with | [_], _ => rfl
  have F15 := fun_mk (st := sf_law_parts) l15 c15 k15
  have b15 := F15.binds (ps := ["_law_kind"]) fun _ _ _ _ _ _ us hl => match us, hl with | [_], _ => rfl
  have F16 := fun_mk (st := sf_law_bent_kind) l16 c16 k16
  have b16 := F16.binds (ps := ["_law_bag_here", "_law_kind", "_law_frees_here"]) fun _ _ _ _ _ _ us hl => match us, hl with | [_, _, _], _ => rfl
  have F17 := fun_mk (st := sf_law_named) l17 c17 k17
  have b17 := F17.binds (ps := ["_law_some"]) fun _ _ _ _ _ _ us hl => match us, hl with | [_], _ => rfl
  have F18 := fun_mk (st := sf_law_joined) l18 c18 k18
  have b18 := F18.binds (ps := ["_law_lhs", "_law_rhs"]) fun _ _ _ _ _ _ us hl => match us, hl with | [_, _], _ => rfl
  have F19 := fun_mk (st := sf_law_loosened) l19 c19 k19
  have b19 := F19.binds (ps := ["_law_bag_here", "_law_kind", "_law_frees_here"]) fun _ _ _ _ _ _ us hl => match us, hl with | [_, _, _], _ => rfl
  have F20 := fun_mk (st := sf_law_pair) l20 c20 k20
  have b20 := F20.binds (ps := ["_law_bag_here"]) fun _ _ _ _ _ _ us hl => match us, hl with | [_], _ => rfl
  have F21 := fun_mk (st := sf_law) l21 c21 k21
  have b21 := F21.binds (ps := ["_law_script"]) fun _ _ _ _ _ _ us hl => match us, hl with | [_], _ => rfl
  have kw0 := fun_kw (ps := ["one", "two"]) F6 ("alike", 0, ["two", "one"], [1, 0]) fun _ _ _ _ _ _ us ws h1 h2 => match us, ws, h1, h2 with | [], [_, _], _, _ => rfl
  have mb : ∀ s ∈ bn, mg (Str.ofString s) = none := by
    intro s hs
    simp only [bn, List.mem_cons, List.not_mem_nil, or_false] at hs
    rcases hs with rfl | rfl | rfl | rfl | rfl | rfl | rfl | rfl | rfl | rfl | rfl | rfl | rfl | rfl | rfl
    · exact PySem.W.mg_none_of X G z0
    · exact PySem.W.mg_none_of X G z1
    · exact PySem.W.mg_none_of X G z2
    · exact PySem.W.mg_none_of X G z3
    · exact PySem.W.mg_none_of X G z4
    · exact PySem.W.mg_none_of X G z5
    · exact PySem.W.mg_none_of X G z6
    · exact PySem.W.mg_none_of X G z7
    · exact PySem.W.mg_none_of X G z8
    · exact PySem.W.mg_none_of X G z9
    · exact PySem.W.mg_none_of X G z10
    · exact PySem.W.mg_none_of X G z11
    · exact PySem.W.mg_none_of X G z12
    · exact PySem.W.mg_none_of X G z13
    · exact PySem.W.mg_none_of X G z14
  refine ⟨PySem.W.fnOf "law" "law" (defArgs sf_law) (defBody sf_law) (defScope sf_law) .none kV21 dc21 pm21 an21 cd21 ct21, fun s v => .of_eq rfl, fun base _ _ => ?_⟩
  have B := ft_all (P := l.prog) (w := w) (base := base) F0 (PySem.W.mg_of X G x0) b0 F1 (PySem.W.mg_of X G x1) b1 F2 (PySem.W.mg_of X G x2) b2 F3 (PySem.W.mg_of X G x3) b3 F4 (PySem.W.mg_of X G x4) b4 F5 (PySem.W.mg_of X G x5) b5 F6 (PySem.W.mg_of X G x6) b6 F7 (PySem.W.mg_of X G x7) b7 F8 (PySem.W.mg_of X G x8) b8 F9 (PySem.W.mg_of X G x9) b9 F10 (PySem.W.mg_of X G x10) b10 F11 (PySem.W.mg_of X G x11) b11 F12 (PySem.W.mg_of X G x12) b12 F13 (PySem.W.mg_of X G x13) b13 F14 (PySem.W.mg_of X G x14) b14 F15 (PySem.W.mg_of X G x15) b15 F16 (PySem.W.mg_of X G x16) b16 F17 (PySem.W.mg_of X G x17) b17 F18 (PySem.W.mg_of X G x18) b18 F19 (PySem.W.mg_of X G x19) b19 F20 (PySem.W.mg_of X G x20) b20 F21 (PySem.W.mg_of X G x21) b21 kw0 mb 59
  exact okf_law F21 B mb
end Prog

namespace Prog
open Ir
theorem set_at {st : Store} {B : Nat} {c : Cell} (h : st[B]? = some c) (c' : Cell) : (st.set B c')[B]? = some c' := List.getElem?_set_self (List.getElem?_eq_some_iff.mp h).1
theorem take_set (st : Store) (B : Nat) (c : Cell) : (st.set B c).take st.length = st.set B c := List.take_of_length_le (by simp)
theorem take_all (st : Store) : st.take st.length = st := List.take_of_length_le (Nat.le_refl _)
theorem set_same {st : Store} {B : Nat} {c : Cell} (h : st[B]? = some c) : st.set B c = st := by
  apply List.ext_getElem?
  intro i
  by_cases e : B = i
  · subst e; rw [set_at h, h]
  · rw [List.getElem?_set_ne e]
theorem set_push (st : Store) (c c' : Cell) : (st ++ [c]).set st.length c' = st ++ [c'] := by simp
theorem get_push (st : Store) (c : Cell) : (st ++ [c])[st.length]? = some c := by simp
theorem push_get {st : Store} {B : Nat} {b : Cell} (h : st[B]? = some b) (c : Cell) : (st ++ [c])[B]? = some b := by
  rw [List.getElem?_append_left (List.getElem?_eq_some_iff.mp h).1]; exact h
theorem comp_const {α : Type} {f : D → Store → Res (Option D)} {st : Store} (p q : α → D) : ∀ l : List α, (∀ a ∈ l, f (p a) st = .ok (some (q a)) st) → compL f (l.map p) st = .ok (l.map q) st
  | [], _ => by simp [compL]
  | a :: l, h => by
    have e := comp_const (f := f) (st := st) p q l fun a' h' => h a' (List.mem_cons_of_mem _ h')
    simp [compL, h a (by simp), e]
/-! ### alike -/
theorem range_nat (n : Nat) : rangeL 0 n = (List.range n).map fun i => D.int (i : Nat) := by simp [rangeL]
theorem bools_true {α : Type} : ∀ l : List α, D.bools (l.map fun _ => D.bool true) = some (l.map fun _ => true)
  | [] => rfl
  | a :: l => by simp [D.bools, bools_true l]
theorem all_true {α : Type} (l : List α) : D.bAll [.lst (l.map fun _ => D.bool true)] = some (.bool true) := by
  simp [D.bAll, bools_true]
theorem atI_of {xs : List D} {i : Nat} (h : i < xs.length) : atI xs (i : Int) = some xs[i] := by
  simp [atI, ixN, h]
theorem atI_nat {α : Type} {xs : List α} {d : Int} (h0 : 0 ≤ d) (h1 : d < xs.length) : ∃ x, xs[d.toNat]? = some x ∧ atI xs d = some x := by
  have hd : d.toNat < xs.length := by omega
  refine ⟨xs[d.toNat], List.getElem?_eq_getElem hd, ?_⟩
  simp [atI, ixN, h0, h1, hd]
theorem bRange_nat {n : Nat} (h : n ≤ LIM) : D.bRange [.int (n : Int)] = some (.lst (rangeL 0 n)) := by
  simp only [D.bRange]
  rw [if_pos ⟨by omega, by omega⟩]
  simp
/-! ### the free numbers -/
theorem pick4 {a b c d i : Int} (h0 : 0 ≤ i) (h1 : i < 4) : ∃ x, (x = a ∨ x = b ∨ x = c ∨ x = d) ∧ atI [D.int a, .int b, .int c, .int d] i = some (.int x) := by
  have : i = 0 ∨ i = 1 ∨ i = 2 ∨ i = 3 := by omega
  rcases this with rfl | rfl | rfl | rfl
  · exact ⟨a, by simp, by simp [atI, ixN]⟩
  · exact ⟨b, by simp, by simp [atI, ixN]⟩
  · exact ⟨c, by simp, by simp [atI, ixN]⟩
  · exact ⟨d, by simp, by simp [atI, ixN]⟩
theorem pick8 {a b i : Int} (h0 : 0 ≤ i) (h1 : i < 8) : ∃ x, (x = a ∨ x = b) ∧ atI [D.int a, .int a, .int a, .int a, .int a, .int a, .int a, .int b] i = some (.int x) := by
  have : i = 0 ∨ i = 1 ∨ i = 2 ∨ i = 3 ∨ i = 4 ∨ i = 5 ∨ i = 6 ∨ i = 7 := by omega
  rcases this with rfl | rfl | rfl | rfl | rfl | rfl | rfl | rfl
  iterate 7 exact ⟨a, by simp, by simp [atI, ixN]⟩
  exact ⟨b, by simp, by simp [atI, ixN]⟩
theorem big_of_small {i : Int} (h0 : 0 ≤ i) (h : i < 2147483647) : bigOk i = true := by
  unfold bigOk
  have h1 : i.natAbs < 2147483647 := by omega
  have h2 : (2147483647 : Nat) < 2 ^ 4000 := by decide +kernel
  exact decide_eq_true (Nat.lt_trans h1 h2)
theorem big_le {i : Int} (h0 : 0 ≤ i) (h : i < 2147483647) : bigOk i = true := big_of_small h0 h
theorem bigOk_lit : bigOk 16 = true ∧ bigOk 27 = true := by constructor <;> decide +kernel
theorem smallOk_lit : smallOk 69621 = true ∧ smallOk 1031 = true ∧ smallOk 134217728 = true ∧ smallOk 48271 = true := by decide
theorem big_50 : bigOk (10 ^ 50) = true := by decide +kernel
theorem pow_lits : bigOk 10 = true ∧ bigOk (10 ^ 60) = true ∧ (0 : Int) < (10 ^ 60) ^ 10 := by
  refine ⟨by decide +kernel, by decide +kernel, by decide +kernel⟩
theorem bigOk_60 : bigOk 1000000000000000000000000000000000000000000000000000000000000 = true := by decide +kernel
theorem smallOk_of {i : Int} (h0 : 0 ≤ i) (h : i < 2147483647) : smallOk i = true := by
  unfold smallOk
  exact decide_eq_true ⟨by omega, by omega⟩
mutual
theorem eqv_refl : ∀ x : D, x.dep ≤ 64 → x.eqv x = true
  | .non, _ => by simp [D.eqv]
  | .bool b, _ => by simp [D.eqv]
  | .int i, _ => by simp [D.eqv]
  | .str s, _ => by simp [D.eqv]
  | .tup xs, h => by
    simp only [D.dep] at h
    simp only [D.eqv]
    exact eqvAll_refl xs (by omega)
  | .lst xs, h => by
    simp only [D.dep] at h
    simp only [D.eqv]
    exact eqvAll_refl xs (by omega)
  | .ro xs, h => by simp [D.dep] at h
theorem eqvAll_refl : ∀ xs : List D, D.depAll xs ≤ 64 → D.eqvAll xs xs = true
  | [], _ => by simp [D.eqvAll]
  | x :: xs, h => by
    simp only [D.depAll] at h
    simp [D.eqvAll, eqv_refl x (by omega), eqvAll_refl xs (by omega)]
end
theorem depAll_int (fs : List Int) : D.depAll (fs.map .int) = 0 := by
  induction fs with
  | nil => rfl
  | cons i r ih => simp [D.depAll, D.dep, ih]
theorem fine_intlist (l : List Int) : fine (.lst (l.map .int)) = true := by simp [fine, D.dep, depAll_int]
theorem any_ints (l : List Int) (i : Int) : ((l.map D.int).any fun y => y.eqv (.int i)) = decide (i ∈ l) := by
  induction l with
  | nil => rfl
  | cons j l ih =>
    simp only [List.map_cons, List.any_cons, D.eqv, ih]
    by_cases e : j = i
    · subst e; simp
    · have : (j == i) = false := by simpa using e
      simp [this, Ne.symm e]
theorem len_dic {st : Store} {d : Nat} {kvs : List (D × D)} (h : st[d]? = some (.dic kvs)) : bltV .len [.ref d] st = .ok (.d (.int kvs.length)) st := by
  simp [bltV, lenDic, h]
theorem setdefault_new {st : Store} {d : Nat} {kvs : List (D × D)} {i : Int} {v : D} (h : st[d]? = some (.dic kvs)) (hl : kvs.length < LIM) (hn : lookK kvs (.int i) = none) : mSetdefault d st [.d (.int i), .d v] = .ok (.d v) (st.set d (.dic (putK kvs (.int i) v))) := by
  simp [mSetdefault, h, hl, hn, D.key]
theorem setdefault_old {st : Store} {d : Nat} {kvs : List (D × D)} {i : Int} {v w : D} (h : st[d]? = some (.dic kvs)) (hl : kvs.length < LIM) (hn : lookK kvs (.int i) = some w) : mSetdefault d st [.d (.int i), .d v] = .ok (.d w) st := by
  simp [mSetdefault, h, hl, hn, D.key]
end Prog

namespace Prog
open Ir
/-! ### kinds -/
inductive Kd where
  | int | bool | list (a : Kd) | fn (a b : Kd) | pair (a b : Kd) | free (i : Int)
deriving DecidableEq
def Kd.d : Kd → D
  | .int => .tup [.str "int"]
  | .bool => .tup [.str "bool"]
  | .list a => .tup [.str "list", a.d]
  | .fn a b => .tup [.str "fn", a.d, b.d]
  | .pair a b => .tup [.str "pair", a.d, b.d]
  | .free i => .tup [.str "free", .int i]
def Kd.parts : Kd → Nat
  | .int => 1
  | .bool => 1
  | .list a => a.parts + 1
  | .fn a b => a.parts + b.parts + 1
  | .pair a b => a.parts + b.parts + 1
  | .free _ => 1
def Kd.h : Kd → Nat
  | .int => 0
  | .bool => 0
  | .list a => a.h + 1
  | .fn a b => max a.h b.h + 1
  | .pair a b => max a.h b.h + 1
  | .free _ => 0
theorem Kd.h_parts (k : Kd) : k.h < k.parts := by
  induction k <;> simp only [Kd.h, Kd.parts] <;> omega
theorem Kd.dep (k : Kd) : k.d.dep = k.h + 1 := by
  induction k <;> simp_all [Kd.d, Kd.h, D.dep, D.depAll]
/-! ### the mathematics of numbering free ones -/
def addI (s : List Int) (i : Int) : List Int := if i ∈ s then s else s ++ [i]
def Kd.seen : Kd → List Int → List Int
  | .int, s => s
  | .bool, s => s
  | .list a, s => a.seen s
  | .fn a b, s => b.seen (a.seen s)
  | .pair a b, s => b.seen (a.seen s)
  | .free i, s => addI s i
def ix (s : List Int) (i : Int) : Int := (s.idxOf i : Nat)
def Kd.map (f : Int → Int) : Kd → Kd
  | .int => .int
  | .bool => .bool
  | .list a => .list (a.map f)
  | .fn a b => .fn (a.map f) (b.map f)
  | .pair a b => .pair (a.map f) (b.map f)
  | .free i => .free (f i)
def Kd.has (i : Int) : Kd → Prop
  | .int => False
  | .bool => False
  | .list a => a.has i
  | .fn a b => a.has i ∨ b.has i
  | .pair a b => a.has i ∨ b.has i
  | .free j => j = i
def Kd.ren : Kd → List Int → Kd
  | .int, _ => .int
  | .bool, _ => .bool
  | .list a, s => .list (a.ren s)
  | .fn a b, s => .fn (a.ren s) (b.ren (a.seen s))
  | .pair a b, s => .pair (a.ren s) (b.ren (a.seen s))
  | .free i, s => .free (ix (addI s i) i)
theorem addI_ext (s : List Int) (i : Int) : ∃ t, addI s i = s ++ t := by
  unfold addI; split
  · exact ⟨[], by simp⟩
  · exact ⟨[i], rfl⟩
theorem Kd.seen_ext : ∀ (k : Kd) (s : List Int), ∃ t, k.seen s = s ++ t
  | .int, s => ⟨[], by simp [Kd.seen]⟩
  | .bool, s => ⟨[], by simp [Kd.seen]⟩
  | .list a, s => a.seen_ext s
  | .fn a b, s => by
    obtain ⟨t, h⟩ := a.seen_ext s
    obtain ⟨u, g⟩ := b.seen_ext (a.seen s)
    exact ⟨t ++ u, by simp only [Kd.seen]; rw [g, h, List.append_assoc]⟩
  | .pair a b, s => by
    obtain ⟨t, h⟩ := a.seen_ext s
    obtain ⟨u, g⟩ := b.seen_ext (a.seen s)
    exact ⟨t ++ u, by simp only [Kd.seen]; rw [g, h, List.append_assoc]⟩
  | .free i, s => addI_ext s i
theorem mem_addI (s : List Int) (i : Int) : i ∈ addI s i := by
  unfold addI; split
  · assumption
  · simp
theorem Kd.seen_has : ∀ (k : Kd) (s : List Int) (i : Int), k.has i → i ∈ k.seen s
  | .list a, s, i, h => a.seen_has s i h
  | .fn a b, s, i, h => by
    rcases h with h | h
    · obtain ⟨u, g⟩ := b.seen_ext (a.seen s)
      simp only [Kd.seen]; rw [g]
      exact List.mem_append_left _ (a.seen_has s i h)
    · exact b.seen_has _ i h
  | .pair a b, s, i, h => by
    rcases h with h | h
    · obtain ⟨u, g⟩ := b.seen_ext (a.seen s)
      simp only [Kd.seen]; rw [g]
      exact List.mem_append_left _ (a.seen_has s i h)
    · exact b.seen_has _ i h
  | .free j, s, i, h => by
    have : j = i := h
    subst this
    exact mem_addI s j
theorem ix_ext {s t : List Int} {i : Int} (h : i ∈ s) : ix (s ++ t) i = ix s i := by
  unfold ix
  rw [List.idxOf_append, if_pos h]
theorem Kd.map_congr {f g : Int → Int} : ∀ (k : Kd), (∀ i, k.has i → f i = g i) → k.map f = k.map g
  | .int, _ => rfl
  | .bool, _ => rfl
  | .list a, h => by simp only [Kd.map]; rw [a.map_congr h]
  | .fn a b, h => by simp only [Kd.map]; rw [a.map_congr fun i q => h i (.inl q), b.map_congr fun i q => h i (.inr q)]
  | .pair a b, h => by simp only [Kd.map]; rw [a.map_congr fun i q => h i (.inl q), b.map_congr fun i q => h i (.inr q)]
  | .free i, h => by simp only [Kd.map]; rw [h i rfl]
theorem Kd.map_ext (k : Kd) {s t : List Int} (h : ∀ i, k.has i → i ∈ s) : k.map (ix (s ++ t)) = k.map (ix s) := k.map_congr fun i q => ix_ext (h i q)
theorem Kd.ren_eq : ∀ (k : Kd) (s : List Int), k.ren s = k.map (ix (k.seen s))
  | .int, _ => rfl
  | .bool, _ => rfl
  | .list a, s => by simp only [Kd.ren, Kd.map, Kd.seen]; rw [a.ren_eq s]
  | .fn a b, s => by
    simp only [Kd.ren, Kd.map, Kd.seen]
    obtain ⟨u, g⟩ := b.seen_ext (a.seen s)
    rw [a.ren_eq s, b.ren_eq, g, a.map_ext fun i q => a.seen_has s i q]
  | .pair a b, s => by
    simp only [Kd.ren, Kd.map, Kd.seen]
    obtain ⟨u, g⟩ := b.seen_ext (a.seen s)
    rw [a.ren_eq s, b.ren_eq, g, a.map_ext fun i q => a.seen_has s i q]
  | .free i, s => rfl
def seenAll (ks : List Kd) (s : List Int) : List Int := ks.foldl (fun s k => k.seen s) s
def renAll : List Kd → List Int → List Kd
  | [], _ => []
  | k :: ks, s => k.ren s :: renAll ks (k.seen s)
theorem seenAll_ext : ∀ (ks : List Kd) (s : List Int), ∃ t, seenAll ks s = s ++ t
  | [], s => ⟨[], by simp [seenAll]⟩
  | k :: ks, s => by
    obtain ⟨t, h⟩ := k.seen_ext s
    obtain ⟨u, g⟩ := seenAll_ext ks (k.seen s)
    refine ⟨t ++ u, ?_⟩
    show seenAll ks (k.seen s) = _
    rw [g, h, List.append_assoc]
theorem renAll_eq : ∀ (ks : List Kd) (s : List Int), renAll ks s = ks.map (Kd.map (ix (seenAll ks s)))
  | [], _ => rfl
  | k :: ks, s => by
    simp only [renAll, List.map_cons]
    have e : seenAll (k :: ks) s = seenAll ks (k.seen s) := rfl
    obtain ⟨u, g⟩ := seenAll_ext ks (k.seen s)
    rw [e, renAll_eq ks, k.ren_eq]
    congr 1
    rw [g, k.map_ext fun i q => k.seen_has s i q]
theorem seenAll_has : ∀ (ks : List Kd) (s : List Int) (k : Kd) (i : Int), k ∈ ks → k.has i → i ∈ seenAll ks s
  | k :: ks, s, k', i, hm, h => by
    have e : seenAll (k :: ks) s = seenAll ks (k.seen s) := rfl
    rw [e]
    rcases List.mem_cons.mp hm with q | q
    · subst q
      obtain ⟨u, g⟩ := seenAll_ext ks (k'.seen s)
      rw [g]
      exact List.mem_append_left _ (k'.seen_has s i h)
    · exact seenAll_has ks _ k' i q h
theorem addI_nodup {s : List Int} {i : Int} (h : s.Nodup) : (addI s i).Nodup := by
  unfold addI; split
  · exact h
  · rename_i hi
    rw [List.nodup_append]
    refine ⟨h, by simp, fun a ha b hb e => ?_⟩
    simp at hb
    subst hb
    subst e
    exact hi ha
theorem Kd.seen_nodup : ∀ (k : Kd) {s : List Int}, s.Nodup → (k.seen s).Nodup
  | .int, _, h => h
  | .bool, _, h => h
  | .list a, _, h => a.seen_nodup h
  | .fn a b, _, h => b.seen_nodup (a.seen_nodup h)
  | .pair a b, _, h => b.seen_nodup (a.seen_nodup h)
  | .free _, _, h => addI_nodup h
theorem seenAll_nodup : ∀ (ks : List Kd) {s : List Int}, s.Nodup → (seenAll ks s).Nodup
  | [], _, h => h
  | k :: ks, s, h => seenAll_nodup ks (s := k.seen s) (k.seen_nodup h)
/-- numbering goes with a renaming that keeps them apart -/
theorem addI_map {f : Int → Int} {s : List Int} {i : Int} (h : ∀ j ∈ s, f i = f j → i = j) : addI (s.map f) (f i) = (addI s i).map f := by
  unfold addI
  by_cases q : i ∈ s
  · rw [if_pos q, if_pos (List.mem_map_of_mem q)]
  · rw [if_neg q, if_neg (fun z => by
      obtain ⟨j, hj, e⟩ := List.mem_map.mp z
      exact q (by rw [h j hj e.symm]; exact hj))]
    simp
theorem Kd.seen_map {f : Int → Int} {A : List Int} (inj : ∀ i ∈ A, ∀ j ∈ A, f i = f j → i = j) : ∀ (k : Kd) (s : List Int), (∀ i, k.has i → i ∈ A) → (∀ i ∈ s, i ∈ A) → (k.map f).seen (s.map f) = (k.seen s).map f
  | .int, _, _, _ => rfl
  | .bool, _, _, _ => rfl
  | .list a, s, h, g => a.seen_map inj s h g
  | .fn a b, s, h, g => by
    simp only [Kd.map, Kd.seen]
    rw [a.seen_map inj s (fun i q => h i (.inl q)) g]
    refine b.seen_map inj _ (fun i q => h i (.inr q)) fun i q => ?_
    exact Kd.seen_map.Kd.seen_sub A a s (fun i q => h i (.inl q)) g i q
  | .pair a b, s, h, g => by
    simp only [Kd.map, Kd.seen]
    rw [a.seen_map inj s (fun i q => h i (.inl q)) g]
    refine b.seen_map inj _ (fun i q => h i (.inr q)) fun i q => ?_
    exact Kd.seen_map.Kd.seen_sub A a s (fun i q => h i (.inl q)) g i q
  | .free i, s, h, g => addI_map fun j hj e => inj i (h i rfl) j (g j hj) e
where Kd.seen_sub (A : List Int) : ∀ (k : Kd) (s : List Int), (∀ i, k.has i → i ∈ A) → (∀ i ∈ s, i ∈ A) → ∀ i ∈ k.seen s, i ∈ A
  | .int, _, _, g => g
  | .bool, _, _, g => g
  | .list a, s, h, g => Kd.seen_sub A a s h g
  | .fn a b, s, h, g => Kd.seen_sub A b _ (fun i q => h i (.inr q)) (Kd.seen_sub A a s (fun i q => h i (.inl q)) g)
  | .pair a b, s, h, g => Kd.seen_sub A b _ (fun i q => h i (.inr q)) (Kd.seen_sub A a s (fun i q => h i (.inl q)) g)
  | .free j, s, h, g => fun i q => by
    simp only [Kd.seen] at q
    unfold addI at q
    split at q
    · exact g i q
    · rcases List.mem_append.mp q with q | q
      · exact g i q
      · simp at q; subst q; exact h i rfl
theorem seenAll_map {f : Int → Int} {A : List Int} (inj : ∀ i ∈ A, ∀ j ∈ A, f i = f j → i = j) : ∀ (ks : List Kd) (s : List Int), (∀ k ∈ ks, ∀ i, k.has i → i ∈ A) → (∀ i ∈ s, i ∈ A) → seenAll (ks.map (Kd.map f)) (s.map f) = (seenAll ks s).map f
  | [], _, _, _ => rfl
  | k :: ks, s, h, g => by
    show seenAll (ks.map (Kd.map f)) ((k.map f).seen (s.map f)) = _
    rw [k.seen_map inj s (h k (by simp)) g]
    exact seenAll_map inj ks (k.seen s) (fun k' hk => h k' (List.mem_cons_of_mem _ hk)) (Kd.seen_map.Kd.seen_sub A k s (h k (by simp)) g)
theorem Kd.map_map (f g : Int → Int) : ∀ k : Kd, (k.map f).map g = k.map fun i => g (f i)
  | .int => rfl
  | .bool => rfl
  | .list a => by simp only [Kd.map]; rw [a.map_map]
  | .fn a b => by simp only [Kd.map]; rw [a.map_map, b.map_map]
  | .pair a b => by simp only [Kd.map]; rw [a.map_map, b.map_map]
  | .free _ => rfl
theorem idx_nodup : ∀ (s : List Int) (n : Nat) (h : n < s.length), s.Nodup → s.idxOf s[n] = n
  | i :: s, 0, _, _ => by simp
  | i :: s, n + 1, h, hd => by
    rw [List.nodup_cons] at hd
    have hn : n < s.length := by simpa using h
    have : i ≠ s[n] := fun e => hd.1 (by rw [e]; exact List.getElem_mem hn)
    simp only [List.getElem_cons_succ]
    rw [List.idxOf_cons]
    have hb : (i == s[n]) = false := by simpa using this
    rw [hb]
    simp [idx_nodup s n hn hd.2]
theorem nodup_map_on {f : Int → Int} : ∀ (s : List Int), s.Nodup → (∀ i ∈ s, ∀ j ∈ s, f i = f j → i = j) → (s.map f).Nodup
  | [], _, _ => by simp
  | i :: s, hd, h => by
    rw [List.nodup_cons] at hd
    simp only [List.map_cons, List.nodup_cons]
    refine ⟨fun z => ?_, nodup_map_on s hd.2 fun a ha b hb => h a (List.mem_cons_of_mem _ ha) b (List.mem_cons_of_mem _ hb)⟩
    obtain ⟨j, hj, e⟩ := List.mem_map.mp z
    exact hd.1 (by rw [h i (by simp) j (List.mem_cons_of_mem _ hj) e.symm]; exact hj)
/-- named twice is named once -/
theorem named_idem (ks : List Kd) : renAll (renAll ks []) [] = renAll ks [] := by
  have hd := seenAll_nodup ks (s := []) List.nodup_nil
  generalize hs : seenAll ks [] = s at hd
  have hhas : ∀ k ∈ ks, ∀ i, k.has i → i ∈ s := fun k hk i hi => by rw [← hs]; exact seenAll_has ks [] k i hk hi
  have e1 : renAll ks [] = ks.map (Kd.map (ix s)) := by rw [renAll_eq, hs]
  have inj : ∀ i ∈ s, ∀ j ∈ s, ix s i = ix s j → i = j := fun i hi j hj e => by
    unfold ix at e
    have e' : s.idxOf i = s.idxOf j := by omega
    have h1 := List.getElem_idxOf (List.idxOf_lt_length_of_mem hi)
    have h2 := List.getElem_idxOf (List.idxOf_lt_length_of_mem hj)
    rw [← h1, ← h2]
    simp only [e']
  rw [e1, renAll_eq]
  have e2 : seenAll (ks.map (Kd.map (ix s))) [] = s.map (ix s) := by
    have := seenAll_map inj ks [] hhas (by simp)
    rw [hs] at this
    simpa using this
  rw [e2, List.map_map]
  apply List.map_congr_left
  intro k hk
  show (k.map (ix s)).map (ix (s.map (ix s))) = k.map (ix s)
  rw [Kd.map_map]
  refine k.map_congr fun i hi => ?_
  have him := hhas k hk i hi
  have hlt := List.idxOf_lt_length_of_mem him
  have hnd : (s.map (ix s)).Nodup := nodup_map_on s hd inj
  have hl2 : s.idxOf i < (s.map (ix s)).length := by simpa using hlt
  have hg : (s.map (ix s))[s.idxOf i] = ix s i := by
    rw [List.getElem_map, List.getElem_idxOf hlt]
  have := idx_nodup (s.map (ix s)) (s.idxOf i) hl2 hnd
  rw [hg] at this
  show (((s.map (ix s)).idxOf (ix s i) : Nat) : Int) = ((s.idxOf i : Nat) : Int)
  rw [this]
/-! ### the law's own numbering -/
def Kd.fr : Kd → List Int
  | .int => []
  | .bool => []
  | .list a => a.fr
  | .fn a b => a.fr ++ b.fr.filter fun i => decide (i ∉ a.fr)
  | .pair a b => a.fr ++ b.fr.filter fun i => decide (i ∉ a.fr)
  | .free i => [i]
theorem foldl_addI_mem : ∀ (l s : List Int) (i : Int), i ∈ l.foldl addI s ↔ i ∈ s ∨ i ∈ l
  | [], s, i => by simp
  | j :: l, s, i => by
    simp only [List.foldl_cons]
    rw [foldl_addI_mem l]
    unfold addI
    split
    · rename_i h
      simp only [List.mem_cons]
      constructor
      · rintro (q | q) <;> simp [q]
      · rintro (q | rfl | q) <;> simp_all
    · simp only [List.mem_append, List.mem_cons, List.not_mem_nil, or_false]
      constructor
      · rintro ((q | q) | q) <;> simp [q]
      · rintro (q | q | q) <;> simp [q]
theorem foldl_skip : ∀ (l s : List Int) (p : Int → Bool), (∀ i, p i = false → i ∈ s) → (l.filter p).foldl addI s = l.foldl addI s
  | [], _, _, _ => rfl
  | j :: l, s, p, h => by
    by_cases q : p j = true
    · rw [List.filter_cons_of_pos q]
      simp only [List.foldl_cons]
      refine foldl_skip l _ p fun i hi => ?_
      have := h i hi
      unfold addI; split
      · exact this
      · exact List.mem_append_left _ this
    · rw [List.filter_cons_of_neg q]
      simp only [List.foldl_cons]
      have : addI s j = s := by unfold addI; rw [if_pos (h j (by simpa using q))]
      rw [this]
      exact foldl_skip l s p h
theorem Kd.fr_seen : ∀ (k : Kd) (s : List Int), k.fr.foldl addI s = k.seen s
  | .int, _ => rfl
  | .bool, _ => rfl
  | .list a, s => a.fr_seen s
  | .fn a b, s => by
    simp only [Kd.fr, Kd.seen, List.foldl_append]
    rw [foldl_skip _ _ _ fun i hi => ?_, a.fr_seen, b.fr_seen]
    rw [foldl_addI_mem]
    exact .inr (by simpa using hi)
  | .pair a b, s => by
    simp only [Kd.fr, Kd.seen, List.foldl_append]
    rw [foldl_skip _ _ _ fun i hi => ?_, a.fr_seen, b.fr_seen]
    rw [foldl_addI_mem]
    exact .inr (by simpa using hi)
  | .free i, s => rfl
theorem Kd.fr_len (k : Kd) : k.fr.length ≤ k.parts := by
  induction k with
  | int => simp [Kd.fr]
  | bool => simp [Kd.fr]
  | list a ih => simp only [Kd.fr, Kd.parts]; omega
  | fn a b iha ihb =>
    simp only [Kd.fr, Kd.parts, List.length_append]
    have := List.length_filter_le (fun i => decide (i ∉ a.fr)) b.fr
    omega
  | pair a b iha ihb =>
    simp only [Kd.fr, Kd.parts, List.length_append]
    have := List.length_filter_le (fun i => decide (i ∉ a.fr)) b.fr
    omega
  | free i => simp [Kd.fr, Kd.parts]
/-! ### dicts by ints -/
def dG (g : Int → D) (s : List Int) : List (D × D) := s.map fun i => (.int i, g i)
theorem lookK_dG (g : Int → D) (j : Int) : ∀ s : List Int, lookK (dG g s) (.int j) = if j ∈ s then some (g j) else none
  | [] => rfl
  | i :: s => by
    have ih := lookK_dG g j s
    unfold lookK dG at ih ⊢
    simp only [List.map_cons, List.find?_cons, D.eqv]
    by_cases e : i = j
    · subst e; simp
    · have : (i == j) = false := by simpa using e
      rw [this]
      simp only [List.mem_cons, Ne.symm e, false_or]
      exact ih
theorem any_dG (g : Int → D) (j : Int) : ∀ s : List Int, ((dG g s).any fun p => p.1.eqv (.int j)) = decide (j ∈ s)
  | [] => rfl
  | i :: s => by
    have ih := any_dG g j s
    unfold dG at ih ⊢
    simp only [List.map_cons, List.any_cons, D.eqv, ih]
    by_cases e : i = j
    · subst e; simp
    · have : (i == j) = false := by simpa using e
      simp [this, Ne.symm e]
theorem putK_dG (g : Int → D) {j : Int} {s : List Int} (h : j ∉ s) (v : D) : putK (dG g s) (.int j) v = dG g s ++ [(.int j, v)] := by
  unfold putK
  rw [any_dG]
  simp [h]
def dP (s : List Int) : List (D × D) := dG (fun i => .int (ix s i)) s
theorem ix_new {s : List Int} {i : Int} (h : i ∉ s) : ix (s ++ [i]) i = s.length := by
  unfold ix
  rw [List.idxOf_append, if_neg h]
  simp
theorem dG_ext {s : List Int} {i : Int} (h : i ∉ s) (c : Int → D) : dG (fun j => c (ix (s ++ [i]) j)) (s ++ [i]) = dG (fun j => c (ix s j)) s ++ [(.int i, c s.length)] := by
  unfold dG
  rw [List.map_append]
  congr 1
  · apply List.map_congr_left
    intro j hj
    show (D.int j, c (ix (s ++ [i]) j)) = (D.int j, c (ix s j))
    rw [ix_ext hj]
  · simp [ix_new h]
theorem dG_len (g : Int → D) (s : List Int) : (dG g s).length = s.length := by simp [dG]
theorem addI_len (s : List Int) (i : Int) : (addI s i).length ≤ s.length + 1 := by
  unfold addI; split <;> simp
theorem Kd.seen_len : ∀ (k : Kd) (s : List Int), (k.seen s).length ≤ s.length + k.parts
  | .int, s => by simp [Kd.seen]
  | .bool, s => by simp [Kd.seen]
  | .list a, s => by have := a.seen_len s; simp only [Kd.seen, Kd.parts]; omega
  | .fn a b, s => by
    have h1 := a.seen_len s
    have h2 := b.seen_len (a.seen s)
    simp only [Kd.seen, Kd.parts]; omega
  | .pair a b, s => by
    have h1 := a.seen_len s
    have h2 := b.seen_len (a.seen s)
    simp only [Kd.seen, Kd.parts]; omega
  | .free i, s => by have := addI_len s i; simp only [Kd.seen, Kd.parts]; omega
def tot (ks : List Kd) : Nat := (ks.map Kd.parts).sum
/-! ### put_in -/
def dL (s : List Int) : List (D × D) := dG (fun i => .tup [.str "free", .int (ix s i)]) s
theorem depAll_kd : ∀ ks : List Kd, (∀ k ∈ ks, k.parts ≤ 16) → D.depAll (ks.map Kd.d) ≤ 17
  | [], _ => by simp [D.depAll]
  | k :: ks, h => by
    have := depAll_kd ks fun k' h' => h k' (List.mem_cons_of_mem _ h')
    have h1 := h k (by simp)
    have h2 := k.h_parts
    simp only [List.map_cons, D.depAll, Kd.dep]
    omega
theorem tot_le : ∀ ks : List Kd, (∀ k ∈ ks, k.parts ≤ 16) → tot ks ≤ 16 * ks.length
  | [], _ => by simp [tot]
  | k :: ks, h => by
    have := tot_le ks fun k' h' => h k' (List.mem_cons_of_mem _ h')
    have h1 := h k (by simp)
    have hk : tot (k :: ks) = k.parts + tot ks := by simp [tot]
    simp only [List.length_cons]
    omega
theorem Kd.map_parts (f : Int → Int) (k : Kd) : (k.map f).parts = k.parts := by
  induction k <;> simp_all [Kd.map, Kd.parts]
end Prog

namespace Prog
open Ir
/-! ### fillings -/
def Kd.sub (f : Int → Kd) : Kd → Kd
  | .int => .int
  | .bool => .bool
  | .list a => .list (a.sub f)
  | .fn a b => .fn (a.sub f) (b.sub f)
  | .pair a b => .pair (a.sub f) (b.sub f)
  | .free i => f i
theorem Kd.sub_free (k : Kd) : k.sub .free = k := by induction k <;> simp_all [Kd.sub]
theorem Kd.sub_map (g : Int → Int) (k : Kd) : k.sub (fun i => .free (g i)) = k.map g := by induction k <;> simp_all [Kd.sub, Kd.map]
theorem eqv_str (x y : String) : D.eqv (.str x) (.str y) = decide (x = y) := by rw [D.eqv]
theorem eqv_int (x y : Int) : D.eqv (.int x) (.int y) = decide (x = y) := by rw [D.eqv]; rfl
theorem eqv_tup (x y : List D) : D.eqv (.tup x) (.tup y) = D.eqvAll x y := by rw [D.eqv]
theorem eqvAll_cons (x y : D) (xs ys : List D) : D.eqvAll (x :: xs) (y :: ys) = (x.eqv y && D.eqvAll xs ys) := by rw [D.eqvAll]
theorem eqvAll_nil : D.eqvAll [] [] = true := by rw [D.eqvAll]
theorem eqvAll_cn (x : D) (xs : List D) : D.eqvAll (x :: xs) [] = false := by rw [D.eqvAll]
theorem eqvAll_nc (x : D) (xs : List D) : D.eqvAll [] (x :: xs) = false := by rw [D.eqvAll]
theorem eqv_kd : ∀ a b : Kd, a.d.eqv b.d = decide (a = b) := by
  intro a
  induction a with
  | int => intro b; cases b <;> simp [Kd.d, eqv_str, eqv_tup, eqvAll_cons, eqvAll_nil, eqvAll_cn, eqvAll_nc]
  | bool => intro b; cases b <;> simp [Kd.d, eqv_str, eqv_tup, eqvAll_cons, eqvAll_nil, eqvAll_cn, eqvAll_nc]
  | list a ih => intro b; cases b <;> simp [Kd.d, eqv_str, eqv_tup, eqvAll_cons, eqvAll_nil, eqvAll_cn, eqvAll_nc, ih]
  | fn a c ih1 ih2 => intro b; cases b <;> simp [Kd.d, eqv_str, eqv_tup, eqvAll_cons, eqvAll_nil, eqvAll_cn, eqvAll_nc, ih1, ih2]
  | pair a c ih1 ih2 => intro b; cases b <;> simp [Kd.d, eqv_str, eqv_tup, eqvAll_cons, eqvAll_nil, eqvAll_cn, eqvAll_nc, ih1, ih2]
  | free i => intro b; cases b <;> simp [Kd.d, eqv_str, eqv_int, eqv_tup, eqvAll_cons, eqvAll_nil, eqvAll_cn, eqvAll_nc]
theorem fine_kd {k : Kd} (h : k.h < 64) : fine k.d = true := by simp only [fine, Kd.dep]; exact decide_eq_true (by omega)
theorem cmp_eq_kd {a b : Kd} (ha : a.h < 64) (hb : b.h < 64) : D.cmp .eq a.d b.d = some (decide (a = b)) := by simp [D.cmp, fine_kd ha, fine_kd hb, eqv_kd]
theorem cmp_ne_kd {a b : Kd} (ha : a.h < 64) (hb : b.h < 64) : D.cmp .ne a.d b.d = some (!decide (a = b)) := by simp [D.cmp, fine_kd ha, fine_kd hb, eqv_kd]
/-! ### dicts of kinds -/
abbrev G := List (Int × Kd)
def dF (g : G) : List (D × D) := g.map fun p => (.int p.1, p.2.d)
theorem dF_len (g : G) : (dF g).length = g.length := by simp [dF]
theorem lookK_dF (i : Int) : ∀ g : G, lookK (dF g) (.int i) = (g.lookup i).map Kd.d
  | [] => rfl
  | (j, k) :: g => by
    have ih := lookK_dF i g
    unfold lookK at ih ⊢
    simp only [dF, List.map_cons, List.find?_cons, D.eqv, List.lookup_cons] at ih ⊢
    by_cases e : i = j
    · subst e; simp
    · have h1 : (j == i) = false := by simpa using Ne.symm e
      have h2 : (i == j) = false := by simpa using e
      simp only [h1, h2]
      exact ih
def putG (g : G) (i : Int) (k : Kd) : G := if (g.lookup i).isSome then g.map fun p => if p.1 = i then (p.1, k) else p else g ++ [(i, k)]
theorem any_dF (i : Int) : ∀ g : G, ((dF g).any fun p => p.1.eqv (.int i)) = (g.lookup i).isSome
  | [] => rfl
  | (j, k) :: g => by
    have ih := any_dF i g
    simp only [dF, List.map_cons, List.any_cons, D.eqv, List.lookup_cons] at ih ⊢
    by_cases e : i = j
    · subst e; simp
    · have h1 : (j == i) = false := by simpa using Ne.symm e
      have h2 : (i == j) = false := by simpa using e
      simp only [h1, h2, Bool.false_or]
      exact ih
theorem putK_dF (g : G) (i : Int) (k : Kd) : putK (dF g) (.int i) k.d = dF (putG g i k) := by
  unfold putK putG
  rw [any_dF]
  split
  · simp only [dF, List.map_map]
    apply List.map_congr_left
    intro p _
    simp only [Function.comp, D.eqv]
    by_cases e : p.1 = i <;> simp [e]
  · simp [dF]
theorem lookup_map_put (i j : Int) (k : Kd) : ∀ g : G, (g.map fun p => if p.1 = i then (p.1, k) else p).lookup j = if j = i then (g.lookup j).map fun _ => k else g.lookup j
  | [] => by simp
  | (m, w) :: g => by
    have ih := lookup_map_put i j k g
    simp only [List.map_cons]
    by_cases e : m = i
    · subst e
      simp only [if_true, List.lookup_cons]
      by_cases e2 : j = m
      · subst e2; simp
      · have h2 : (j == m) = false := by simpa using e2
        simp only [h2, ih]
    · simp only [if_neg e, List.lookup_cons]
      by_cases e2 : j = m
      · subst e2; simp [e]
      · have h2 : (j == m) = false := by simpa using e2
        simp only [h2, ih]
theorem lookup_append1 (i j : Int) (k : Kd) : ∀ g : G, (g ++ [(i, k)]).lookup j = (g.lookup j).or (if j = i then some k else none)
  | [] => by
    by_cases e : j = i
    · subst e; simp
    · have h2 : (j == i) = false := by simpa using e
      simp [List.lookup_cons, h2, e]
  | (m, w) :: g => by
    have ih := lookup_append1 i j k g
    simp only [List.cons_append, List.lookup_cons]
    by_cases e2 : j = m
    · subst e2; simp
    · have h2 : (j == m) = false := by simpa using e2
      simp only [h2, ih]
theorem lookup_putG (g : G) (i j : Int) (k : Kd) : (putG g i k).lookup j = if j = i then some k else g.lookup j := by
  unfold putG
  split
  · rename_i h
    rw [lookup_map_put]
    by_cases e : j = i
    · subst e
      obtain ⟨w, hw⟩ := Option.isSome_iff_exists.mp h
      simp [hw]
    · simp [e]
  · rename_i h
    rw [lookup_append1]
    by_cases e : j = i
    · subst e
      have : g.lookup j = none := Option.not_isSome_iff_eq_none.mp h
      simp [this]
    · simp [e]
/-- the filling that a dict is -/
def fillG (g : G) (i : Int) : Kd := (g.lookup i).getD (.free i)
def Agr (f : Int → Kd) (g : G) : Prop := ∀ i w, g.lookup i = some w → f i = w
theorem agr_fill (g : G) : Agr (fillG g) g := fun i w h => by simp [fillG, h]
theorem agr_put {f : Int → Kd} {g : G} {i : Int} {k : Kd} (h : g.lookup i = none ∨ g.lookup i = some k) : Agr f (putG g i k) ↔ Agr f g ∧ f i = k := by
  constructor
  · intro q
    have e := q i k (by rw [lookup_putG, if_pos rfl])
    refine ⟨fun j w hj => ?_, e⟩
    by_cases ej : j = i
    · subst ej
      rcases h with h | h
      · rw [h] at hj; cases hj
      · rw [h] at hj; cases hj; exact e
    · exact q j w (by rw [lookup_putG, if_neg ej]; exact hj)
  · rintro ⟨q, e⟩ j w hj
    rw [lookup_putG] at hj
    by_cases ej : j = i
    · rw [if_pos ej] at hj; cases hj; rw [ej]; exact e
    · rw [if_neg ej] at hj; exact q j w hj
end Prog

namespace Prog
open Ir
/-! ### the mathematics of making alike -/
theorem Kd.sub_sub (f g : Int → Kd) (k : Kd) : (k.sub f).sub g = k.sub (fun i => (f i).sub g) := by induction k <;> simp_all [Kd.sub]
theorem Kd.sub_congr {f g : Int → Kd} : ∀ (k : Kd), (∀ i, k.has i → f i = g i) → k.sub f = k.sub g
  | .int, _ => rfl
  | .bool, _ => rfl
  | .list a, h => by simp only [Kd.sub]; rw [a.sub_congr h]
  | .fn a b, h => by simp only [Kd.sub]; rw [a.sub_congr fun i q => h i (.inl q), b.sub_congr fun i q => h i (.inr q)]
  | .pair a b, h => by simp only [Kd.sub]; rw [a.sub_congr fun i q => h i (.inl q), b.sub_congr fun i q => h i (.inr q)]
  | .free i, h => h i rfl
theorem Kd.has_sub {f : Int → Kd} {j : Int} : ∀ k : Kd, (k.sub f).has j ↔ ∃ i, k.has i ∧ (f i).has j
  | .int => by simp [Kd.sub, Kd.has]
  | .bool => by simp [Kd.sub, Kd.has]
  | .list a => a.has_sub
  | .fn a b => by
    simp only [Kd.sub, Kd.has, a.has_sub, b.has_sub]
    constructor
    · rintro (⟨i, h1, h2⟩ | ⟨i, h1, h2⟩)
      · exact ⟨i, .inl h1, h2⟩
      · exact ⟨i, .inr h1, h2⟩
    · rintro ⟨i, h1 | h1, h2⟩
      · exact .inl ⟨i, h1, h2⟩
      · exact .inr ⟨i, h1, h2⟩
  | .pair a b => by
    simp only [Kd.sub, Kd.has, a.has_sub, b.has_sub]
    constructor
    · rintro (⟨i, h1, h2⟩ | ⟨i, h1, h2⟩)
      · exact ⟨i, .inl h1, h2⟩
      · exact ⟨i, .inr h1, h2⟩
    · rintro ⟨i, h1 | h1, h2⟩
      · exact .inl ⟨i, h1, h2⟩
      · exact .inr ⟨i, h1, h2⟩
  | .free i => by simp only [Kd.sub, Kd.has]; exact ⟨fun h => ⟨i, rfl, h⟩, fun ⟨j, e, h⟩ => by subst e; exact h⟩
theorem Kd.fix_has {S : Int → Kd} {j : Int} : ∀ k : Kd, k.sub S = k → k.has j → S j = .free j
  | .list a, e, h => a.fix_has (by simpa [Kd.sub] using e) h
  | .fn a b, e, h => by
    simp only [Kd.sub, Kd.fn.injEq] at e
    rcases h with h | h
    · exact a.fix_has e.1 h
    · exact b.fix_has e.2 h
  | .pair a b, e, h => by
    simp only [Kd.sub, Kd.pair.injEq] at e
    rcases h with h | h
    · exact a.fix_has e.1 h
    · exact b.fix_has e.2 h
  | .free i, e, h => by
    have : i = j := h
    subst this
    exact e
theorem Kd.has_parts {f : Int → Kd} {i : Int} : ∀ k : Kd, k.has i → (f i).parts ≤ (k.sub f).parts
  | .list a, h => by have := a.has_parts (f := f) h; simp only [Kd.sub, Kd.parts]; omega
  | .fn a b, h => by
    rcases h with h | h
    · have := a.has_parts (f := f) h; simp only [Kd.sub, Kd.parts]; omega
    · have := b.has_parts (f := f) h; simp only [Kd.sub, Kd.parts]; omega
  | .pair a b, h => by
    rcases h with h | h
    · have := a.has_parts (f := f) h; simp only [Kd.sub, Kd.parts]; omega
    · have := b.has_parts (f := f) h; simp only [Kd.sub, Kd.parts]; omega
  | .free j, h => by
    have : j = i := h
    subst this
    exact Nat.le_refl _
/-- a free one within a greater kind is never that kind, however filled -/
theorem Kd.occurs {f : Int → Kd} {i : Int} {t : Kd} (h : t.has i) (n : t ≠ .free i) : f i ≠ t.sub f := by
  intro e
  cases t with
  | int => exact h
  | bool => exact h
  | free j => exact n (by rw [show j = i from h])
  | list a => have := a.has_parts (f := f) (i := i) h; rw [e] at this; simp only [Kd.sub, Kd.parts] at this; omega
  | fn a b =>
    rcases h with h | h
    · have := a.has_parts (f := f) (i := i) h; rw [e] at this; simp only [Kd.sub, Kd.parts] at this; omega
    · have := b.has_parts (f := f) (i := i) h; rw [e] at this; simp only [Kd.sub, Kd.parts] at this; omega
  | pair a b =>
    rcases h with h | h
    · have := a.has_parts (f := f) (i := i) h; rw [e] at this; simp only [Kd.sub, Kd.parts] at this; omega
    · have := b.has_parts (f := f) (i := i) h; rw [e] at this; simp only [Kd.sub, Kd.parts] at this; omega
def sg (i : Int) (t : Kd) (j : Int) : Kd := if j = i then t else .free j
theorem sg_same (i : Int) (t : Kd) : sg i t i = t := by simp [sg]
theorem sg_ne {i j : Int} (t : Kd) (h : j ≠ i) : sg i t j = .free j := by simp [sg, h]
theorem Kd.sub_sg {i : Int} {t : Kd} (k : Kd) (h : ¬ k.has i) : k.sub (sg i t) = k := by
  have := k.sub_congr (f := sg i t) (g := .free) fun j q => sg_ne t fun e => h (by rw [← e]; exact q)
  rw [this, k.sub_free]
def Kd.nv : Kd → Prop
  | .free _ => False
  | _ => True
def Kd.kids : Kd → List Kd
  | .list a => [a]
  | .fn a b => [a, b]
  | .pair a b => [a, b]
  | _ => []
def Cl (L : List Kd) : Prop := ∀ u ∈ L, ∀ c ∈ u.kids, c ∈ L
structure US (L : List Kd) (S : Int → Kd) : Prop where
  idem : ∀ i, (S i).sub S = S i
  clos : ∀ i, (∃ j, S i = .free j) ∨ ∃ u ∈ L, u.nv ∧ S i = u.sub S
  vars : ∀ x j, .free x ∈ L → (S x).has j → .free j ∈ L
theorem US.start (L : List Kd) : US L .free := ⟨fun _ => rfl, fun i => .inl ⟨i, rfl⟩, fun x j h e => by
  have : x = j := e
  subst this
  exact h⟩
section
variable {L : List Kd} {S : Int → Kd}
theorem US.idemK (us : US L S) (k : Kd) : (k.sub S).sub S = k.sub S := by
  rw [Kd.sub_sub]
  exact k.sub_congr fun i _ => us.idem i
theorem US.fix (us : US L S) {k : Kd} {j : Int} (h : (k.sub S).has j) : S j = .free j := Kd.fix_has _ (us.idemK k) h
theorem Cl.free (cl : Cl L) : ∀ (u : Kd), u ∈ L → ∀ i, u.has i → .free i ∈ L
  | .list a, hu, i, h => cl.free a (cl _ hu a (by simp [Kd.kids])) i h
  | .fn a b, hu, i, h => by
    rcases h with h | h
    · exact cl.free a (cl _ hu a (by simp [Kd.kids])) i h
    · exact cl.free b (cl _ hu b (by simp [Kd.kids])) i h
  | .pair a b, hu, i, h => by
    rcases h with h | h
    · exact cl.free a (cl _ hu a (by simp [Kd.kids])) i h
    · exact cl.free b (cl _ hu b (by simp [Kd.kids])) i h
  | .free j, hu, i, h => by
    have : j = i := h
    subst this
    exact hu
theorem US.varsK (us : US L S) (cl : Cl L) {u : Kd} (hu : u ∈ L) {j : Int} (h : (u.sub S).has j) : .free j ∈ L := by
  obtain ⟨i, h1, h2⟩ := (Kd.has_sub u).mp h
  exact us.vars i j (cl.free u hu i h1) h2
def comp1 (S : Int → Kd) (i : Int) (t : Kd) : Int → Kd := fun x => (S x).sub (sg i t)
theorem comp1_sub (i : Int) (t k : Kd) : k.sub (comp1 S i t) = (k.sub S).sub (sg i t) := by rw [Kd.sub_sub]; rfl
theorem US.bind (us : US L S) (cl : Cl L) {i : Int} {u : Kd} (hu : u ∈ L) (hi : S i = .free i) (hn : ¬ (u.sub S).has i) : US L (comp1 S i (u.sub S)) := by
  have hT : (u.sub S).sub (sg i (u.sub S)) = u.sub S := Kd.sub_sg _ hn
  refine ⟨fun x => ?_, fun x => ?_, fun x j hx hj => ?_⟩
  · show ((S x).sub (sg i (u.sub S))).sub (comp1 S i (u.sub S)) = (S x).sub (sg i (u.sub S))
    rw [Kd.sub_sub]
    refine Kd.sub_congr _ fun j hj => ?_
    by_cases e : j = i
    · subst e
      rw [sg_same, comp1_sub, us.idemK, hT]
    · rw [sg_ne _ e]
      have : S j = .free j := Kd.fix_has _ (us.idem x) hj
      simp only [Kd.sub, comp1, this, sg_ne _ e]
  · rcases us.clos x with ⟨j, e⟩ | ⟨w, hw, nw, e⟩
    · by_cases ej : j = i
      · subst ej
        have e2 : comp1 S j (u.sub S) x = u.sub S := by simp only [comp1, e, Kd.sub, sg_same]
        have key : ∀ v ∈ L, v.nv → u.sub S = v.sub S → (∃ u' ∈ L, u'.nv ∧ u.sub S = u'.sub (comp1 S j (u.sub S))) := fun v hv nv ev => ⟨v, hv, nv, by rw [comp1_sub, ← ev, hT]⟩
        rw [e2]
        cases hu' : u with
        | free y =>
          rw [hu'] at key
          rcases us.clos y with ⟨j2, e3⟩ | ⟨w, hw, nw, e3⟩
          · exact .inl ⟨j2, e3⟩
          · exact .inr (key w hw nw e3)
        | _ => rw [← hu']; exact .inr (key u hu (by rw [hu']; exact trivial) rfl)
      · exact .inl ⟨j, by simp only [comp1, e, Kd.sub, sg_ne _ ej]⟩
    · exact .inr ⟨w, hw, nw, by rw [comp1_sub, ← e]; rfl⟩
  · obtain ⟨y, h1, h2⟩ := (Kd.has_sub (S x)).mp hj
    by_cases e : y = i
    · subst e
      rw [sg_same] at h2
      exact us.varsK cl hu h2
    · rw [sg_ne _ e] at h2
      have : y = j := h2
      subst this
      exact us.vars x y hx h1
/-! ### heights -/
theorem pigeon (g : Kd → Nat) : ∀ (n : Nat) (L : List Kd), (∀ m, 1 ≤ m → m ≤ n → ∃ w ∈ L, g w = m) → n ≤ L.length
  | 0, _, _ => Nat.zero_le _
  | n + 1, L, h => by
    obtain ⟨w, hw, e⟩ := h (n + 1) (by omega) (Nat.le_refl _)
    have := pigeon g n (L.erase w) fun m h1 h2 => by
      obtain ⟨v, hv, ev⟩ := h m h1 (by omega)
      exact ⟨v, (List.mem_erase_of_ne fun q => by subst q; omega).mpr hv, ev⟩
    rw [List.length_erase_of_mem hw] at this
    have : 0 < L.length := List.length_pos_of_mem hw
    omega
theorem kid_h {u : Kd} (h : u.nv) (hp : 1 ≤ (u.sub S).h) : ∃ c ∈ u.kids, (c.sub S).h + 1 = (u.sub S).h := by
  cases u with
  | int => simp [Kd.sub, Kd.h] at hp
  | bool => simp [Kd.sub, Kd.h] at hp
  | free i => exact h.elim
  | list a => exact ⟨a, by simp [Kd.kids], rfl⟩
  | fn a b =>
    simp only [Kd.sub, Kd.h, Kd.kids]
    by_cases c : (a.sub S).h ≤ (b.sub S).h
    · exact ⟨b, by simp, by omega⟩
    · exact ⟨a, by simp, by omega⟩
  | pair a b =>
    simp only [Kd.sub, Kd.h, Kd.kids]
    by_cases c : (a.sub S).h ≤ (b.sub S).h
    · exact ⟨b, by simp, by omega⟩
    · exact ⟨a, by simp, by omega⟩
theorem US.heights (us : US L S) (cl : Cl L) : ∀ (n : Nat) (u : Kd), u ∈ L → (u.sub S).h = n → ∀ m, 1 ≤ m → m ≤ n → ∃ w ∈ L, (w.sub S).h = m := by
  intro n
  induction n with
  | zero => intro u hu hn m h1 h2; omega
  | succ n ih =>
    intro u hu hn m h1 h2
    by_cases e : m = n + 1
    · exact ⟨u, hu, by omega⟩
    · have key : ∀ v ∈ L, v.nv → (v.sub S).h = n + 1 → ∃ w ∈ L, (w.sub S).h = m := fun v hv nv hh => by
        obtain ⟨c, hc, ec⟩ := kid_h (S := S) nv (by omega)
        exact ih c (cl v hv c hc) (by omega) m h1 (by omega)
      cases hu' : u with
      | free i =>
        rw [hu'] at hn
        rcases us.clos i with ⟨j, e3⟩ | ⟨w, hw, nw, e3⟩
        · simp [Kd.sub, e3, Kd.h] at hn
        · exact key w hw nw (by rw [← e3]; exact hn)
      | _ => exact key u hu (by rw [hu']; exact trivial) hn
theorem US.h_le (us : US L S) (cl : Cl L) {u : Kd} (hu : u ∈ L) : (u.sub S).h ≤ L.length :=
  pigeon (fun w => (w.sub S).h) _ L fun m h1 h2 => us.heights cl _ u hu rfl m h1 h2
/-! ### solutions -/
def Sols (f S : Int → Kd) : Prop := ∀ x, (S x).sub f = f x
theorem Sols.k {f S : Int → Kd} (h : Sols f S) (k : Kd) : (k.sub S).sub f = k.sub f := by
  rw [Kd.sub_sub]; exact k.sub_congr fun i _ => h i
theorem sols_bind {f : Int → Kd} {i : Int} {t : Kd} (hi : S i = .free i) : Sols f (comp1 S i t) ↔ Sols f S ∧ f i = t.sub f := by
  have sgf : f i = t.sub f → ∀ j, (sg i t j).sub f = f j := fun e j => by
    by_cases c : j = i
    · subst c; rw [sg_same, e]
    · rw [sg_ne _ c]; rfl
  constructor
  · intro h
    have e : f i = t.sub f := by
      have := h i
      simp only [comp1, hi, Kd.sub, sg_same] at this
      exact this.symm
    refine ⟨fun x => ?_, e⟩
    have := h x
    simp only [comp1] at this
    rw [Kd.sub_sub] at this
    rw [← this]
    exact Kd.sub_congr _ fun j _ => (sgf e j).symm
  · rintro ⟨h, e⟩ x
    simp only [comp1]
    rw [Kd.sub_sub, ← h x]
    exact Kd.sub_congr _ fun j _ => sgf e j
/-! ### how many free ones are left -/
def isF (S : Int → Kd) : Kd → Bool
  | .free i => decide (S i = .free i)
  | _ => false
def cnt (S : Int → Kd) (L : List Kd) : Nat := (L.filter (isF S)).length
theorem filter_lt {α : Type} {p q : α → Bool} : ∀ (l : List α), (∀ x ∈ l, p x = true → q x = true) → (∃ x ∈ l, q x = true ∧ p x = false) → (l.filter p).length < (l.filter q).length
  | [], _, ⟨x, hx, _⟩ => by cases hx
  | y :: l, h, ⟨x, hx, h1, h2⟩ => by
    have hle : ∀ l : List α, (∀ x ∈ l, p x = true → q x = true) → (l.filter p).length ≤ (l.filter q).length := by
      intro l
      induction l with
      | nil => intro _; simp
      | cons z l ih =>
        intro h
        have := ih fun x hx => h x (List.mem_cons_of_mem _ hx)
        simp only [List.filter_cons]
        by_cases c : p z = true
        · rw [if_pos c, if_pos (h z (by simp) c)]; simp; omega
        · rw [if_neg c]
          split
          · simp; omega
          · exact this
    simp only [List.filter_cons]
    rcases List.mem_cons.mp hx with e | hx
    · subst e
      rw [h1, h2]
      have := hle l fun x hx => h x (List.mem_cons_of_mem _ hx)
      simp; omega
    · have := filter_lt l (fun x hx => h x (List.mem_cons_of_mem _ hx)) ⟨x, hx, h1, h2⟩
      by_cases c : p y = true
      · rw [if_pos c, if_pos (h y (by simp) c)]; simp; omega
      · rw [if_neg c]
        split
        · simp; omega
        · exact this
theorem free_bind (us : US L S) {i x : Int} {u : Kd} (hn : ¬ (u.sub S).has i) (h : comp1 S i (u.sub S) x = .free x) : S x = .free x := by
  simp only [comp1] at h
  cases hx : S x with
  | free y =>
    rw [hx] at h
    simp only [Kd.sub] at h
    by_cases e : y = i
    · subst e
      rw [sg_same] at h
      have h3 : (u.sub S).has x := by rw [h]; rfl
      have := us.fix h3
      rw [hx] at this
      exact this
    · rw [sg_ne _ e] at h; exact h
  | _ => rw [hx] at h; simp [Kd.sub] at h
theorem cnt_bind (us : US L S) {i : Int} {u : Kd} (hi : S i = .free i) (hiL : .free i ∈ L) (hn : ¬ (u.sub S).has i) : cnt (comp1 S i (u.sub S)) L < cnt S L := by
  refine filter_lt L (fun x _ hp => ?_) ⟨.free i, hiL, ?_, ?_⟩
  · cases x with
    | free j => exact decide_eq_true (free_bind us hn (of_decide_eq_true hp))
    | _ => cases hp
  · exact decide_eq_true hi
  · refine decide_eq_false fun h => ?_
    simp only [comp1, hi, Kd.sub, sg_same] at h
    exact hn (by rw [h]; rfl)
/-! ### the most general one -/
structure MG (a b r : Kd) : Prop where
  ex : ∃ f, a.sub f = r ∧ b.sub f = r
  least : ∀ f, a.sub f = b.sub f → ∃ h, r.sub h = a.sub f
theorem MG.both {a b r r' : Kd} (h : MG a b r) (h' : MG a b r') : ∃ f, r.sub f = r' := by
  obtain ⟨f, e1, e2⟩ := h'.ex
  obtain ⟨g, e⟩ := h.least f (e1.trans e2.symm)
  exact ⟨g, e.trans e1⟩
/-- fillings that only exchange free ones -/
theorem Kd.sub_grow (f : Int → Kd) (k : Kd) : k.parts ≤ (k.sub f).parts := by
  induction k with
  | free i => have := (f i).h_parts; simp only [Kd.sub, Kd.parts]; omega
  | _ => simp only [Kd.sub, Kd.parts] at *; omega
theorem Kd.sub_same_parts {f : Int → Kd} : ∀ k : Kd, (k.sub f).parts ≤ k.parts → ∀ i, k.has i → ∃ j, f i = .free j ∨ f i = .int ∨ f i = .bool
  | .list a, e, i, h => a.sub_same_parts (by simp only [Kd.sub, Kd.parts] at e; omega) i h
  | .fn a b, e, i, h => by
    have h1 := a.sub_grow f
    have h2 := b.sub_grow f
    simp only [Kd.sub, Kd.parts] at e
    rcases h with h | h
    · exact a.sub_same_parts (by omega) i h
    · exact b.sub_same_parts (by omega) i h
  | .pair a b, e, i, h => by
    have h1 := a.sub_grow f
    have h2 := b.sub_grow f
    simp only [Kd.sub, Kd.parts] at e
    rcases h with h | h
    · exact a.sub_same_parts (by omega) i h
    · exact b.sub_same_parts (by omega) i h
  | .free j, e, i, h => by
    have : j = i := h
    subst this
    simp only [Kd.sub, Kd.parts] at e
    cases hf : f j with
    | free y => exact ⟨y, .inl rfl⟩
    | int => exact ⟨0, .inr (.inl rfl)⟩
    | bool => exact ⟨0, .inr (.inr rfl)⟩
    | list a => rw [hf] at e; have := a.h_parts; simp only [Kd.parts] at e; omega
    | fn a b => rw [hf] at e; have := a.h_parts; have := b.h_parts; simp only [Kd.parts] at e; omega
    | pair a b => rw [hf] at e; have := a.h_parts; have := b.h_parts; simp only [Kd.parts] at e; omega
/-- what fills back leaves the free ones free -/
theorem back_id {f g : Int → Kd} {r r' : Kd} (h1 : r.sub f = r') (h2 : r'.sub g = r) : ∀ i, r.has i → (f i).sub g = .free i := by
  intro i hi
  have e : r.sub (fun i => (f i).sub g) = r := by rw [← Kd.sub_sub, h1, h2]
  exact Kd.fix_has r e hi
theorem back_free {f g : Int → Kd} {r r' : Kd} (h1 : r.sub f = r') (h2 : r'.sub g = r) : ∀ i, r.has i → ∃ j, f i = .free j := by
  intro i hi
  have hb := back_id h1 h2 i hi
  cases hf : f i with
  | free j => exact ⟨j, rfl⟩
  | _ => rw [hf] at hb; simp [Kd.sub] at hb
def Kd.num : Kd → Int
  | .free j => j
  | _ => 0
theorem back_map {f g : Int → Kd} {r r' : Kd} (h1 : r.sub f = r') (h2 : r'.sub g = r) : r' = r.map (fun i => (f i).num) ∧ ∀ i j, r.has i → r.has j → (f i).num = (f j).num → i = j := by
  refine ⟨?_, fun i j hi hj e => ?_⟩
  · rw [← Kd.sub_map, ← h1]
    exact r.sub_congr fun i hi => by obtain ⟨j, e⟩ := back_free h1 h2 i hi; rw [e]; rfl
  · obtain ⟨x, ex⟩ := back_free h1 h2 i hi
    obtain ⟨y, ey⟩ := back_free h1 h2 j hj
    rw [ex, ey] at e
    have e : x = y := e
    have b1 := back_id h1 h2 i hi
    have b2 := back_id h1 h2 j hj
    rw [ex] at b1; rw [ey] at b2
    rw [e, b2] at b1
    cases b1; rfl
theorem mem_map_inj {φ : Int → Int} {s : List Int} {i : Int} (inj : ∀ x ∈ s, φ x = φ i → x = i) : φ i ∈ s.map φ ↔ i ∈ s := by
  constructor
  · intro h
    obtain ⟨x, hx, e⟩ := List.mem_map.mp h
    rw [← inj x hx e]; exact hx
  · intro h; exact List.mem_map_of_mem h
theorem ix_map {φ : Int → Int} : ∀ (s : List Int) (i : Int), (∀ x ∈ s, φ x = φ i → x = i) → ix (s.map φ) (φ i) = ix s i
  | [], i, _ => rfl
  | x :: s, i, inj => by
    have ih := ix_map s i fun y hy => inj y (List.mem_cons_of_mem _ hy)
    unfold ix at ih ⊢
    simp only [List.map_cons, List.idxOf_cons]
    by_cases e : x = i
    · subst e; simp
    · have e2 : φ x ≠ φ i := fun q => e (inj x (by simp) q)
      have h1 : (x == i) = false := by simpa using e
      have h2 : (φ x == φ i) = false := by simpa using e2
      simp only [h1, h2, cond_false]
      have : s.idxOf i = (s.map φ).idxOf (φ i) := by omega
      omega
theorem addI_map2 {φ : Int → Int} {s : List Int} {i : Int} (inj : ∀ x ∈ s, φ x = φ i → x = i) : addI (s.map φ) (φ i) = (addI s i).map φ := by
  unfold addI
  by_cases c : i ∈ s
  · rw [if_pos c, if_pos ((mem_map_inj inj).mpr c)]
  · rw [if_neg c, if_neg fun h => c ((mem_map_inj inj).mp h)]; simp
theorem Kd.seen_map2 {φ : Int → Int} : ∀ (k : Kd) (s : List Int), (∀ x y, (x ∈ s ∨ k.has x) → (y ∈ s ∨ k.has y) → φ x = φ y → x = y) → (k.map φ).seen (s.map φ) = (k.seen s).map φ ∧ (k.map φ).ren (s.map φ) = k.ren s ∧ ∀ x ∈ k.seen s, x ∈ s ∨ k.has x
  | .int, s, _ => ⟨rfl, rfl, fun x h => .inl h⟩
  | .bool, s, _ => ⟨rfl, rfl, fun x h => .inl h⟩
  | .list a, s, inj => by
    obtain ⟨h1, h2, h3⟩ := a.seen_map2 (φ := φ) s inj
    exact ⟨h1, by simp only [Kd.map, Kd.ren, h2], h3⟩
  | .fn a b, s, inj => by
    obtain ⟨h1, h2, h3⟩ := a.seen_map2 (φ := φ) s fun x y hx hy => inj x y (hx.imp id .inl) (hy.imp id .inl)
    have up : ∀ x, (x ∈ a.seen s ∨ b.has x) → (x ∈ s ∨ (Kd.fn a b).has x) := fun x hx => by
      rcases hx with hx | hx
      · exact (h3 x hx).imp id .inl
      · exact .inr (.inr hx)
    obtain ⟨g1, g2, g3⟩ := b.seen_map2 (φ := φ) (a.seen s) fun x y hx hy => inj x y (up x hx) (up y hy)
    refine ⟨?_, ?_, fun x hx => up x (g3 x hx)⟩
    · simp only [Kd.map, Kd.seen, h1, g1]
    · simp only [Kd.map, Kd.ren, h1, h2, g2]
  | .pair a b, s, inj => by
    obtain ⟨h1, h2, h3⟩ := a.seen_map2 (φ := φ) s fun x y hx hy => inj x y (hx.imp id .inl) (hy.imp id .inl)
    have up : ∀ x, (x ∈ a.seen s ∨ b.has x) → (x ∈ s ∨ (Kd.pair a b).has x) := fun x hx => by
      rcases hx with hx | hx
      · exact (h3 x hx).imp id .inl
      · exact .inr (.inr hx)
    obtain ⟨g1, g2, g3⟩ := b.seen_map2 (φ := φ) (a.seen s) fun x y hx hy => inj x y (up x hx) (up y hy)
    refine ⟨?_, ?_, fun x hx => up x (g3 x hx)⟩
    · simp only [Kd.map, Kd.seen, h1, g1]
    · simp only [Kd.map, Kd.ren, h1, h2, g2]
  | .free i, s, inj => by
    have hinj : ∀ x ∈ s, φ x = φ i → x = i := fun x hx e => inj x i (.inl hx) (.inr rfl) e
    have ha := addI_map2 hinj
    refine ⟨by simp only [Kd.map, Kd.seen, ha], ?_, fun x hx => ?_⟩
    · simp only [Kd.map, Kd.ren, ha]
      rw [ix_map]
      intro x hx e
      unfold addI at hx
      split at hx
      · exact hinj x hx e
      · rcases List.mem_append.mp hx with hx | hx
        · exact hinj x hx e
        · simpa using hx
    · simp only [Kd.seen, addI] at hx
      split at hx
      · exact .inl hx
      · rcases List.mem_append.mp hx with hx | hx
        · exact .inl hx
        · simp at hx; exact .inr hx.symm
theorem Kd.ren_inj {φ : Int → Int} {k : Kd} (inj : ∀ x y, k.has x → k.has y → φ x = φ y → x = y) : (k.map φ).ren [] = k.ren [] := by
  have := (k.seen_map2 (φ := φ) [] fun x y hx hy => inj x y (hx.elim (fun h => by cases h) id) (hy.elim (fun h => by cases h) id)).2.1
  simpa using this
/-- two kinds that are fillings of each other are named alike -/
theorem back_ren {f g : Int → Kd} {r r' : Kd} (h1 : r.sub f = r') (h2 : r'.sub g = r) : r'.ren [] = r.ren [] := by
  obtain ⟨e, inj⟩ := back_map h1 h2
  rw [e]
  exact Kd.ren_inj inj
theorem MG.named {a b r r' : Kd} (h : MG a b r) (h' : MG a b r') : r'.ren [] = r.ren [] := by
  obtain ⟨f, e1⟩ := h.both h'
  obtain ⟨g, e2⟩ := h'.both h
  exact back_ren e1 e2
end
end Prog

namespace Prog
open Ir
/-- what `matched` does: the word and the dict after it -/
def mt : Kd → Kd → G → Bool × G
  | .free i, t, g => match g.lookup i with
    | some w => (decide (w = t), g)
    | none => (true, putG g i t)
  | .int, .int, g => (true, g)
  | .bool, .bool, g => (true, g)
  | .list a, .list b, g => mt a b g
  | .fn a b, .fn c d, g => ((mt a c g).1 && (mt b d (mt a c g).2).1, (mt b d (mt a c g).2).2)
  | .pair a b, .pair c d, g => ((mt a c g).1 && (mt b d (mt a c g).2).1, (mt b d (mt a c g).2).2)
  | _, _, g => (false, g)
theorem putG_len (g : G) (i : Int) (k : Kd) : (putG g i k).length ≤ g.length + 1 := by
  unfold putG; split <;> simp
theorem mt_len : ∀ (k t : Kd) (g : G), (mt k t g).2.length ≤ g.length + k.parts := by
  intro k
  induction k with
  | free i =>
    intro t g
    unfold mt
    have := putG_len g i t
    split <;> simp [Kd.parts] <;> omega
  | int => intro t g; cases t <;> simp [mt]
  | bool => intro t g; cases t <;> simp [mt]
  | list a ih => intro t g; cases t <;> simp [mt, Kd.parts]; rename_i b; have := ih b g; omega
  | fn a b iha ihb => intro t g; cases t <;> simp [mt, Kd.parts]; rename_i c d; have := iha c g; have := ihb d (mt a c g).2; omega
  | pair a b iha ihb => intro t g; cases t <;> simp [mt, Kd.parts]; rename_i c d; have := iha c g; have := ihb d (mt a c g).2; omega
/-- if it tells True, every filling that the dict is makes the one the other; the dict only grows -/
theorem mt_sound : ∀ (k t : Kd) (g : G) (f : Int → Kd), Agr f (mt k t g).2 → Agr f g ∧ ((mt k t g).1 = true → k.sub f = t) := by
  intro k
  induction k with
  | free i =>
    intro t g f
    unfold mt
    split
    · rename_i w hw
      intro h
      refine ⟨h, fun e => ?_⟩
      have e := of_decide_eq_true e
      subst e
      exact h i w hw
    · rename_i hn
      intro h
      obtain ⟨h1, h2⟩ := (agr_put (.inl hn)).mp h
      exact ⟨h1, fun _ => h2⟩
  | int => intro t g f; cases t <;> simp [mt, Kd.sub]
  | bool => intro t g f; cases t <;> simp [mt, Kd.sub]
  | list a ih => intro t g f; cases t <;> simp [mt, Kd.sub]; exact ih _ g f
  | fn a b iha ihb =>
    intro t g f; cases t <;> simp [mt, Kd.sub]
    rename_i c d
    intro h
    obtain ⟨h1, h2⟩ := ihb d _ f h
    obtain ⟨h3, h4⟩ := iha c g f h1
    exact ⟨h3, fun x y => ⟨h4 x, h2 y⟩⟩
  | pair a b iha ihb =>
    intro t g f; cases t <;> simp [mt, Kd.sub]
    rename_i c d
    intro h
    obtain ⟨h1, h2⟩ := ihb d _ f h
    obtain ⟨h3, h4⟩ := iha c g f h1
    exact ⟨h3, fun x y => ⟨h4 x, h2 y⟩⟩
theorem mt_full : ∀ (k t : Kd) (g : G) (f : Int → Kd), k.sub f = t → Agr f g → (mt k t g).1 = true ∧ Agr f (mt k t g).2 := by
  intro k
  induction k with
  | free i =>
    intro t g f e h
    simp only [Kd.sub] at e
    unfold mt
    split
    · rename_i w hw
      exact ⟨decide_eq_true ((h i w hw).symm.trans e), h⟩
    · rename_i hn
      exact ⟨rfl, (agr_put (.inl hn)).mpr ⟨h, e⟩⟩
  | int => intro t g f e h; subst e; exact ⟨rfl, h⟩
  | bool => intro t g f e h; subst e; exact ⟨rfl, h⟩
  | list a ih => intro t g f e h; subst e; exact ih _ g f rfl h
  | fn a b iha ihb =>
    intro t g f e h; subst e
    obtain ⟨h1, h2⟩ := iha _ g f rfl h
    obtain ⟨h3, h4⟩ := ihb _ _ f rfl h2
    simp only [Kd.sub, mt]
    exact ⟨by rw [h1, h3]; rfl, h4⟩
  | pair a b iha ihb =>
    intro t g f e h; subst e
    obtain ⟨h1, h2⟩ := iha _ g f rfl h
    obtain ⟨h3, h4⟩ := ihb _ _ f rfl h2
    simp only [Kd.sub, mt]
    exact ⟨by rw [h1, h3]; rfl, h4⟩
theorem mt_iff (k t : Kd) : (mt k t []).1 = true ↔ ∃ f, k.sub f = t := by
  constructor
  · intro h
    exact ⟨_, (mt_sound k t [] _ (agr_fill _)).2 h⟩
  · rintro ⟨f, e⟩
    exact (mt_full k t [] f e (fun _ _ h => by cases h)).1
end Prog

namespace Prog
open Ir
def Kd.head : Kd → String
  | .int => "int"
  | .bool => "bool"
  | .list _ => "list"
  | .fn _ _ => "fn"
  | .pair _ _ => "pair"
  | .free _ => "free"
def Kd.tail : Kd → List D
  | .int => []
  | .bool => []
  | .list a => [a.d]
  | .fn a b => [a.d, b.d]
  | .pair a b => [a.d, b.d]
  | .free i => [.int i]
theorem Kd.d_eq (k : Kd) : k.d = .tup (.str k.head :: k.tail) := by cases k <;> rfl
theorem cmp_str_eq (x y : String) : D.cmp .eq (.str x) (.str y) = some (decide (x = y)) := by simp [D.cmp, fine, D.dep, eqv_str]
theorem cmp_str_ne (x y : String) : D.cmp .ne (.str x) (.str y) = some (!decide (x = y)) := by simp [D.cmp, fine, D.dep, eqv_str]
theorem all2 (x y : Bool) : D.bAll [.lst [.bool x, .bool y]] = some (.bool (x && y)) := by cases x <;> cases y <;> rfl
theorem all1 (x : Bool) : D.bAll [.lst [.bool x]] = some (.bool x) := by cases x <;> rfl
theorem all0 : D.bAll [.lst []] = some (.bool true) := rfl
end Prog

namespace Ir
/-- what is wanted behind a run; as an instance, so that it is left as it is until the run is there -/
class Post (α : Type) where
  q : α → Store → Prop
@[simp] theorem post_mk {α : Type} (f : α → Store → Prop) : (Post.mk f).q = f := rfl
/-- a run ends well, and so -/
def Wp {α : Type} (r : Res α) [p : Post α] : Prop := match r with | .ok a st => p.q a st | _ => False
@[simp] theorem wp_ok {α : Type} (a : α) (st : Store) {p : Post α} : @Wp _ (.ok a st) p = p.q a st := rfl
@[simp] theorem wp_bad {α : Type} {p : Post α} : @Wp _ .bad p = False := rfl
@[simp ↓] theorem wp_bind {α β : Type} (r : Res α) (f : α → Store → Res β) {p : Post β} : @Wp _ (r.bind f) p = @Wp _ r ⟨fun a s => @Wp _ (f a s) p⟩ := by
  cases r <;> rfl
@[simp ↓ high] theorem wp_if_t {α : Type} {c : Prop} [Decidable c] (a b : Res α) {p : Post α} (h : c) : @Wp _ (if c then a else b) p = @Wp _ a p := by rw [if_pos h]
@[simp ↓ high] theorem wp_if_f {α : Type} {c : Prop} [Decidable c] (a b : Res α) {p : Post α} (h : ¬ c) : @Wp _ (if c then a else b) p = @Wp _ b p := by rw [if_neg h]
@[simp ↓ low] theorem wp_if {α : Type} {c : Prop} [Decidable c] (a b : Res α) {p : Post α} : @Wp _ (if c then a else b) p = ((c → @Wp _ a p) ∧ (¬ c → @Wp _ b p)) := by
  by_cases h : c <;> simp [h]
@[simp] theorem wp_oif {α : Type} {c : Prop} [Decidable c] (a b : Option α) (s : Store) {p : Post α} : @Wp _ (optR (if c then a else b) s) p = ((c → @Wp _ (optR a s) p) ∧ (¬ c → @Wp _ (optR b s) p)) := by
  by_cases h : c <;> simp [h]
theorem wp_iff {α : Type} {r : Res α} {p : Post α} : @Wp _ r p ↔ ∃ a s, r = .ok a s ∧ p.q a s := by
  cases r with
  | ok a s => exact ⟨fun h => ⟨a, s, rfl, h⟩, fun ⟨a', s', e, h⟩ => by cases e; exact h⟩
  | exc c as s => exact ⟨fun h => h.elim, fun ⟨_, _, e, _⟩ => by cases e⟩
  | bad => exact ⟨fun h => h.elim, fun ⟨_, _, e, _⟩ => by cases e⟩
theorem Wp.mono {α : Type} {r : Res α} {p p' : Post α} (h : @Wp _ r p) (k : ∀ a s, p.q a s → p'.q a s) : @Wp _ r p' := by
  cases r with
  | ok a s => exact k a s h
  | exc c as s => exact h
  | bad => exact h
theorem Wp.of {α : Type} {r : Res α} {a : α} {s : Store} {p : Post α} (e : r = .ok a s) (h : p.q a s) : @Wp _ r p := by rw [e]; exact h
theorem wpb {α β : Type} {r : Res α} {f : α → Store → Res β} {pp : Post β} {q : α → Store → Prop} (h : ∀ a s, @Wp _ (f a s) pp = q a s) : @Wp _ (r.bind f) pp = @Wp _ r ⟨q⟩ := by
  rw [wp_bind]
  exact congrArg (fun z => @Wp _ r ⟨z⟩) (funext fun a => funext fun s => h a s)
/-! ### the equations -/
set_option autoImplicit true in
@[simp ↓] theorem w_eval_var {C : Calls} {σ : Env} {st : Store} {pp : Post Val} : @Wp _ (eval C (Ex.var i) σ st) pp = (@Wp _ (match σ[i]? with
    | some (some v) => .ok v st
    | _ => .bad) pp) := by
  rw [eval_var]
  repeat (refine wpb fun _ _ => ?_)
  try rfl
set_option autoImplicit true in
@[simp ↓] theorem w_eval_con {C : Calls} {σ : Env} {st : Store} {pp : Post Val} : @Wp _ (eval C (Ex.con d) σ st) pp = (@Wp _ (.ok (.d d) st) pp) := by
  rw [eval_con]
  repeat (refine wpb fun _ _ => ?_)
  try rfl
set_option autoImplicit true in
@[simp ↓] theorem w_eval_tup {C : Calls} {σ : Env} {st : Store} {pp : Post Val} : @Wp _ (eval C (Ex.tup es) σ st) pp = (@Wp _ (evals C es σ st) ⟨fun vs s1 => @Wp _ (optR (asDs vs) s1) ⟨fun ds s2 => @Wp _ (.ok (.d (.tup ds)) s2) pp⟩⟩) := by
  rw [eval_tup]
  repeat (refine wpb fun _ _ => ?_)
  try rfl
set_option autoImplicit true in
@[simp ↓] theorem w_eval_lst {C : Calls} {σ : Env} {st : Store} {pp : Post Val} : @Wp _ (eval C (Ex.lst es) σ st) pp = (@Wp _ (evals C es σ st) ⟨fun vs s1 => @Wp _ (optR (asDs vs) s1) ⟨fun ds s2 => @Wp _ (.ok (.d (.lst ds)) s2) pp⟩⟩) := by
  rw [eval_lst]
  repeat (refine wpb fun _ _ => ?_)
  try rfl
set_option autoImplicit true in
@[simp ↓] theorem w_eval_newL {C : Calls} {σ : Env} {st : Store} {pp : Post Val} : @Wp _ (eval C (Ex.newL e) σ st) pp = (@Wp _ (eval C e σ st) ⟨fun v s1 => @Wp _ (match v with
    | .d (.lst xs) => .ok (.ref s1.length) (s1 ++ [.lst xs])
    | _ => .bad) pp⟩) := by
  rw [eval_newL]
  repeat (refine wpb fun _ _ => ?_)
  try rfl
set_option autoImplicit true in
@[simp ↓] theorem w_eval_newD {C : Calls} {σ : Env} {st : Store} {pp : Post Val} : @Wp _ (eval C (Ex.newD) σ st) pp = (@Wp _ (.ok (.ref st.length) (st ++ [.dic []])) pp) := by
  rw [eval_newD]
  repeat (refine wpb fun _ _ => ?_)
  try rfl
set_option autoImplicit true in
@[simp ↓] theorem w_eval_newDP {C : Calls} {σ : Env} {st : Store} {pp : Post Val} : @Wp _ (eval C (Ex.newDP e) σ st) pp = (@Wp _ (eval C e σ st) ⟨fun v s1 => @Wp _ (match v with
    | .d (.lst xs) => match mergeP [] xs with
      | some kvs => .ok (.ref s1.length) (s1 ++ [.dic kvs])
      | none => .bad
    | _ => .bad) pp⟩) := by
  rw [eval_newDP]
  repeat (refine wpb fun _ _ => ?_)
  try rfl
set_option autoImplicit true in
@[simp ↓] theorem w_eval_newDd {C : Calls} {σ : Env} {st : Store} {pp : Post Val} : @Wp _ (eval C (Ex.newDd es) σ st) pp = (@Wp _ (evals C es σ st) ⟨fun us s1 => @Wp _ (optR (asDs us) s1) ⟨fun ds s2 => @Wp _ (match mergeF [] ds with
    | some kvs => .ok (.ref s2.length) (s2 ++ [.dic kvs])
    | none => .bad) pp⟩⟩) := by
  rw [eval_newDd]
  repeat (refine wpb fun _ _ => ?_)
  try rfl
set_option autoImplicit true in
@[simp ↓] theorem w_eval_frz {C : Calls} {σ : Env} {st : Store} {pp : Post Val} : @Wp _ (eval C (Ex.frz e) σ st) pp = (@Wp _ (eval C e σ st) ⟨fun v s1 => @Wp _ (match v with
    | .ref n => match s1[n]? with
      | some (.lst xs) => .ok (.d (.lst xs)) (s1.set n .dead)
      | _ => .bad
    | _ => .bad) pp⟩) := by
  rw [eval_frz]
  repeat (refine wpb fun _ _ => ?_)
  try rfl
set_option autoImplicit true in
@[simp ↓] theorem w_eval_bin {C : Calls} {σ : Env} {st : Store} {pp : Post Val} : @Wp _ (eval C (Ex.bin o a b) σ st) pp = (@Wp _ (eval C a σ st) ⟨fun x s1 => @Wp _ (eval C b σ s1) ⟨fun y s2 => @Wp _ (optR (deref s2 x) s2) ⟨fun p s3 => @Wp _ (optR (deref s2 y) s3) ⟨fun q s4 => @Wp _ (optR (D.bin o p q) s4) ⟨fun r s5 => @Wp _ (.ok (.d r) s5) pp⟩⟩⟩⟩⟩) := by
  rw [eval_bin]
  repeat (refine wpb fun _ _ => ?_)
  try rfl
set_option autoImplicit true in
@[simp ↓] theorem w_eval_neg {C : Calls} {σ : Env} {st : Store} {pp : Post Val} : @Wp _ (eval C (Ex.neg a) σ st) pp = (@Wp _ (eval C a σ st) ⟨fun x s1 => @Wp _ (optR (asI x) s1) ⟨fun i s2 => @Wp _ (.ok (.d (.int (-i))) s2) pp⟩⟩) := by
  rw [eval_neg]
  repeat (refine wpb fun _ _ => ?_)
  try rfl
set_option autoImplicit true in
@[simp ↓] theorem w_eval_cmp {C : Calls} {σ : Env} {st : Store} {pp : Post Val} : @Wp _ (eval C (Ex.cmp o a b) σ st) pp = (@Wp _ (eval C a σ st) ⟨fun x s1 => @Wp _ (eval C b σ s1) ⟨fun y s2 => @Wp _ (optR (cmpV o s2 x y) s2) ⟨fun r s3 => @Wp _ (.ok (.d (.bool r)) s3) pp⟩⟩⟩) := by
  rw [eval_cmp]
  repeat (refine wpb fun _ _ => ?_)
  try rfl
set_option autoImplicit true in
@[simp ↓] theorem w_eval_chain {C : Calls} {σ : Env} {st : Store} {pp : Post Val} : @Wp _ (eval C (Ex.chain o o' a b c) σ st) pp = (@Wp _ (eval C a σ st) ⟨fun x s1 => @Wp _ (eval C b σ s1) ⟨fun y s2 => @Wp _ (optR (cmpV o s2 x y) s2) ⟨fun r s3 => @Wp _ (if r then (eval C c σ s3).bind fun z s4 => (optR (cmpV o' s4 y z) s4).bind fun q s5 => .ok (.d (.bool q)) s5 else .ok (.d (.bool false)) s3) pp⟩⟩⟩) := by
  rw [eval_chain]
  repeat (refine wpb fun _ _ => ?_)
  try rfl
set_option autoImplicit true in
@[simp ↓] theorem w_eval_and {C : Calls} {σ : Env} {st : Store} {pp : Post Val} : @Wp _ (eval C (Ex.and a b) σ st) pp = (@Wp _ (eval C a σ st) ⟨fun x s1 => @Wp _ (optR (asB x) s1) ⟨fun c s2 => @Wp _ (if c then eval C b σ s2 else .ok (.d (.bool false)) s2) pp⟩⟩) := by
  rw [eval_and]
  repeat (refine wpb fun _ _ => ?_)
  try rfl
set_option autoImplicit true in
@[simp ↓] theorem w_eval_or {C : Calls} {σ : Env} {st : Store} {pp : Post Val} : @Wp _ (eval C (Ex.or a b) σ st) pp = (@Wp _ (eval C a σ st) ⟨fun x s1 => @Wp _ (optR (asB x) s1) ⟨fun c s2 => @Wp _ (if c then .ok (.d (.bool true)) s2 else eval C b σ s2) pp⟩⟩) := by
  rw [eval_or]
  repeat (refine wpb fun _ _ => ?_)
  try rfl
set_option autoImplicit true in
@[simp ↓] theorem w_eval_not {C : Calls} {σ : Env} {st : Store} {pp : Post Val} : @Wp _ (eval C (Ex.not a) σ st) pp = (@Wp _ (eval C a σ st) ⟨fun x s1 => @Wp _ (optR (asB x) s1) ⟨fun c s2 => @Wp _ (.ok (.d (.bool (!c))) s2) pp⟩⟩) := by
  rw [eval_not]
  repeat (refine wpb fun _ _ => ?_)
  try rfl
set_option autoImplicit true in
@[simp ↓] theorem w_eval_ite {C : Calls} {σ : Env} {st : Store} {pp : Post Val} : @Wp _ (eval C (Ex.ite c a b) σ st) pp = (@Wp _ (eval C c σ st) ⟨fun x s1 => @Wp _ (optR (asB x) s1) ⟨fun c s2 => @Wp _ (if c then eval C a σ s2 else eval C b σ s2) pp⟩⟩) := by
  rw [eval_ite]
  repeat (refine wpb fun _ _ => ?_)
  try rfl
set_option autoImplicit true in
@[simp ↓] theorem w_eval_idx {C : Calls} {σ : Env} {st : Store} {pp : Post Val} : @Wp _ (eval C (Ex.idx a b) σ st) pp = (@Wp _ (eval C a σ st) ⟨fun x s1 => @Wp _ (eval C b σ s1) ⟨fun y s2 => @Wp _ (optR (indexV s2 x y) s2) ⟨fun r s3 => @Wp _ (.ok (.d r) s3) pp⟩⟩⟩) := by
  rw [eval_idx]
  repeat (refine wpb fun _ _ => ?_)
  try rfl
set_option autoImplicit true in
@[simp ↓] theorem w_eval_sli {C : Calls} {σ : Env} {st : Store} {pp : Post Val} : @Wp _ (eval C (Ex.sli a lo hi) σ st) pp = (@Wp _ (eval C a σ st) ⟨fun x s1 => @Wp _ (evalO C lo σ s1) ⟨fun l s2 => @Wp _ (evalO C hi σ s2) ⟨fun h s3 => @Wp _ (optR (deref s3 x) s3) ⟨fun p s4 => @Wp _ (optR (p.slice l h) s4) ⟨fun r s5 => @Wp _ (.ok (.d r) s5) pp⟩⟩⟩⟩⟩) := by
  rw [eval_sli]
  repeat (refine wpb fun _ _ => ?_)
  try rfl
set_option autoImplicit true in
@[simp ↓] theorem w_eval_call {C : Calls} {σ : Env} {st : Store} {pp : Post Val} : @Wp _ (eval C (Ex.call f es) σ st) pp = (@Wp _ (evals C es σ st) ⟨fun vs s1 => @Wp _ (C f vs s1) pp⟩) := by
  rw [eval_call]
  repeat (refine wpb fun _ _ => ?_)
  try rfl
set_option autoImplicit true in
@[simp ↓] theorem w_eval_callP {C : Calls} {σ : Env} {st : Store} {pp : Post Val} : @Wp _ (eval C (Ex.callP f es perm) σ st) pp = (@Wp _ (evals C es σ st) ⟨fun vs s1 => @Wp _ (C f (perm.filterMap fun i => vs[i]?) s1) pp⟩) := by
  rw [eval_callP]
  repeat (refine wpb fun _ _ => ?_)
  try rfl
set_option autoImplicit true in
@[simp ↓] theorem w_eval_blt {C : Calls} {σ : Env} {st : Store} {pp : Post Val} : @Wp _ (eval C (Ex.blt f es) σ st) pp = (@Wp _ (evals C es σ st) ⟨fun vs s1 => @Wp _ (bltV f vs s1) pp⟩) := by
  rw [eval_blt]
  repeat (refine wpb fun _ _ => ?_)
  try rfl
set_option autoImplicit true in
@[simp ↓] theorem w_eval_mth {C : Calls} {σ : Env} {st : Store} {pp : Post Val} : @Wp _ (eval C (Ex.mth m o es) σ st) pp = (@Wp _ (eval C o σ st) ⟨fun x s1 => @Wp _ (if mthOk m x s1 then (evals C es σ s1).bind fun vs s2 => mthV m x vs s2 else .bad) pp⟩) := by
  rw [eval_mth]
  repeat (refine wpb fun _ _ => ?_)
  try rfl
set_option autoImplicit true in
@[simp ↓] theorem w_eval_isi {C : Calls} {σ : Env} {st : Store} {pp : Post Val} : @Wp _ (eval C (Ex.isi e ts) σ st) pp = (@Wp _ (eval C e σ st) ⟨fun x s1 => @Wp _ (optR (deref s1 x) s1) ⟨fun p s2 => @Wp _ (.ok (.d (.bool (ts.any fun t => p.tyOk t))) s2) pp⟩⟩) := by
  rw [eval_isi]
  repeat (refine wpb fun _ _ => ?_)
  try rfl
set_option autoImplicit true in
@[simp ↓] theorem w_eval_comp {C : Calls} {σ : Env} {st : Store} {pp : Post Val} : @Wp _ (eval C (Ex.comp elt tg it cs) σ st) pp = (@Wp _ (eval C it σ st) ⟨fun x s1 => @Wp _ (optR (asD x) s1) ⟨fun p s2 => @Wp _ (optR p.seq s2) ⟨fun xs s3 => @Wp _ (compL (compStep (eval C elt) (conds C cs) tg (wipe σ tg.slots)) xs s3) ⟨fun ys s8 => @Wp _ (.ok (.d (.lst ys)) s8) pp⟩⟩⟩⟩) := by
  rw [eval_comp]
  repeat (refine wpb fun _ _ => ?_)
  try rfl
set_option autoImplicit true in
@[simp ↓] theorem w_evals_nil {C : Calls} {σ : Env} {st : Store} {pp : Post (List Val)} : @Wp _ (evals C ([]) σ st) pp = (@Wp _ (.ok [] st) pp) := by
  rw [evals_nil]
  repeat (refine wpb fun _ _ => ?_)
  try rfl
set_option autoImplicit true in
@[simp ↓] theorem w_evals_cons {C : Calls} {σ : Env} {st : Store} {pp : Post (List Val)} : @Wp _ (evals C (e :: es) σ st) pp = (@Wp _ (eval C e σ st) ⟨fun v s1 => @Wp _ (evals C es σ s1) ⟨fun vs s2 => @Wp _ (.ok (v :: vs) s2) pp⟩⟩) := by
  rw [evals_cons]
  repeat (refine wpb fun _ _ => ?_)
  try rfl
set_option autoImplicit true in
@[simp ↓] theorem w_evalO_none {C : Calls} {σ : Env} {st : Store} {pp : Post (Option Int)} : @Wp _ (evalO C (none) σ st) pp = (@Wp _ (.ok none st) pp) := by
  rw [evalO_none]
  repeat (refine wpb fun _ _ => ?_)
  try rfl
set_option autoImplicit true in
@[simp ↓] theorem w_evalO_some {C : Calls} {σ : Env} {st : Store} {pp : Post (Option Int)} : @Wp _ (evalO C (some e) σ st) pp = (@Wp _ (eval C e σ st) ⟨fun v s1 => @Wp _ (optR (asI v) s1) ⟨fun i s2 => @Wp _ (.ok (some i) s2) pp⟩⟩) := by
  rw [evalO_some]
  repeat (refine wpb fun _ _ => ?_)
  try rfl
set_option autoImplicit true in
@[simp ↓] theorem w_conds_nil {C : Calls} {σ : Env} {st : Store} {pp : Post Bool} : @Wp _ (conds C ([]) σ st) pp = (@Wp _ (.ok true st) pp) := by
  rw [conds_nil]
  repeat (refine wpb fun _ _ => ?_)
  try rfl
set_option autoImplicit true in
@[simp ↓] theorem w_conds_cons {C : Calls} {σ : Env} {st : Store} {pp : Post Bool} : @Wp _ (conds C (e :: es) σ st) pp = (@Wp _ (eval C e σ st) ⟨fun v s1 => @Wp _ (optR (asB v) s1) ⟨fun c s2 => @Wp _ (if c then conds C es σ s2 else .ok false s2) pp⟩⟩) := by
  rw [conds_cons]
  repeat (refine wpb fun _ _ => ?_)
  try rfl
set_option autoImplicit true in
@[simp ↓] theorem w_exec_asg {C : Calls} {σ : Env} {st : Store} {pp : Post Out} : @Wp _ (exec C (Stm.asg t e) σ st) pp = (@Wp _ (eval C e σ st) ⟨fun v s1 => @Wp _ (optR (t.putV v σ) s1) ⟨fun σ1 s2 => @Wp _ (.ok (.nx σ1) s2) pp⟩⟩) := by
  rw [exec_asg]
  repeat (refine wpb fun _ _ => ?_)
  try rfl
set_option autoImplicit true in
@[simp ↓] theorem w_exec_par {C : Calls} {σ : Env} {st : Store} {pp : Post Out} : @Wp _ (exec C (Stm.par i j a b) σ st) pp = (@Wp _ (eval C a σ st) ⟨fun x s1 => @Wp _ (eval C b σ s1) ⟨fun y s2 => @Wp _ (.ok (.nx ((σ.set i (some x)).set j (some y))) s2) pp⟩⟩) := by
  rw [exec_par]
  repeat (refine wpb fun _ _ => ?_)
  try rfl
set_option autoImplicit true in
@[simp ↓] theorem w_exec_set {C : Calls} {σ : Env} {st : Store} {pp : Post Out} : @Wp _ (exec C (Stm.set o i e) σ st) pp = (@Wp _ (eval C e σ st) ⟨fun v s1 => @Wp _ (eval C o σ s1) ⟨fun x s2 => @Wp _ (eval C i σ s2) ⟨fun k s3 => @Wp _ (optR (asD v) s3) ⟨fun d s4 => @Wp _ (optR (setV x k d s4) s4) ⟨fun s5 _ => @Wp _ (.ok (.nx σ) s5) pp⟩⟩⟩⟩⟩) := by
  rw [exec_set]
  repeat (refine wpb fun _ _ => ?_)
  try rfl
set_option autoImplicit true in
@[simp ↓] theorem w_exec_ex {C : Calls} {σ : Env} {st : Store} {pp : Post Out} : @Wp _ (exec C (Stm.ex e) σ st) pp = (@Wp _ (eval C e σ st) ⟨fun _ s1 => @Wp _ (.ok (.nx σ) s1) pp⟩) := by
  rw [exec_ex]
  repeat (refine wpb fun _ _ => ?_)
  try rfl
set_option autoImplicit true in
@[simp ↓] theorem w_exec_ret {C : Calls} {σ : Env} {st : Store} {pp : Post Out} : @Wp _ (exec C (Stm.ret e) σ st) pp = (@Wp _ (eval C e σ st) ⟨fun v s1 => @Wp _ (.ok (.ret v) s1) pp⟩) := by
  rw [exec_ret]
  repeat (refine wpb fun _ _ => ?_)
  try rfl
set_option autoImplicit true in
@[simp ↓] theorem w_exec_ite {C : Calls} {σ : Env} {st : Store} {pp : Post Out} : @Wp _ (exec C (Stm.ite c a b) σ st) pp = (@Wp _ (eval C c σ st) ⟨fun x s1 => @Wp _ (optR (asB x) s1) ⟨fun c s2 => @Wp _ (if c then execs C a σ s2 else execs C b σ s2) pp⟩⟩) := by
  rw [exec_ite]
  repeat (refine wpb fun _ _ => ?_)
  try rfl
set_option autoImplicit true in
@[simp ↓] theorem w_exec_loop {C : Calls} {σ : Env} {st : Store} {pp : Post Out} : @Wp _ (exec C (Stm.loop t it body) σ st) pp = (@Wp _ (eval C it σ st) ⟨fun x s1 => @Wp _ (optR (asD x) s1) ⟨fun p s2 => @Wp _ (optR p.seq s2) ⟨fun xs s3 => @Wp _ (loopL t.putF (execs C body) xs σ s3) pp⟩⟩⟩) := by
  rw [exec_loop]
  repeat (refine wpb fun _ _ => ?_)
  try rfl
set_option autoImplicit true in
@[simp ↓] theorem w_exec_while {C : Calls} {σ : Env} {st : Store} {pp : Post Out} : @Wp _ (exec C (Stm.while c body) σ st) pp = (@Wp _ (whileU (condB (eval C c)) (execs C body) σ st) pp) := by
  rw [exec_while]
  repeat (refine wpb fun _ _ => ?_)
  try rfl
set_option autoImplicit true in
@[simp ↓] theorem w_exec_aug {C : Calls} {σ : Env} {st : Store} {pp : Post Out} : @Wp _ (exec C (Stm.aug i o e) σ st) pp = (@Wp _ (match σ[i]? with
    | some (some x) => (eval C e σ st).bind fun y s1 => (optR (asI x) s1).bind fun p s2 => (optR (asI y) s2).bind fun q s3 => (optR (augI o p q) s3).bind fun r s4 => .ok (.nx (σ.set i (some (.d (.int r))))) s4
    | _ => .bad) pp) := by
  rw [exec_aug]
  repeat (refine wpb fun _ _ => ?_)
  try rfl
set_option autoImplicit true in
@[simp ↓] theorem w_exec_pass {C : Calls} {σ : Env} {st : Store} {pp : Post Out} : @Wp _ (exec C (Stm.pass) σ st) pp = (@Wp _ (.ok (.nx σ) st) pp) := by
  rw [exec_pass]
  repeat (refine wpb fun _ _ => ?_)
  try rfl
set_option autoImplicit true in
@[simp ↓] theorem w_exec_brk {C : Calls} {σ : Env} {st : Store} {pp : Post Out} : @Wp _ (exec C (Stm.brk) σ st) pp = (@Wp _ (.ok (.brk σ) st) pp) := by
  rw [exec_brk]
  repeat (refine wpb fun _ _ => ?_)
  try rfl
set_option autoImplicit true in
@[simp ↓] theorem w_exec_cnt {C : Calls} {σ : Env} {st : Store} {pp : Post Out} : @Wp _ (exec C (Stm.cnt) σ st) pp = (@Wp _ (.ok (.cnt σ) st) pp) := by
  rw [exec_cnt]
  repeat (refine wpb fun _ _ => ?_)
  try rfl
set_option autoImplicit true in
@[simp ↓] theorem w_exec_never {C : Calls} {σ : Env} {st : Store} {pp : Post Out} : @Wp _ (exec C (Stm.never) σ st) pp = (@Wp _ (.bad) pp) := by
  rw [exec_never]
  repeat (refine wpb fun _ _ => ?_)
  try rfl
set_option autoImplicit true in
@[simp ↓] theorem w_execs_nil {C : Calls} {σ : Env} {st : Store} {pp : Post Out} : @Wp _ (execs C ([]) σ st) pp = (@Wp _ (.ok (.nx σ) st) pp) := by
  rw [execs_nil]
  repeat (refine wpb fun _ _ => ?_)
  try rfl
set_option autoImplicit true in
@[simp ↓] theorem w_execs_cons {C : Calls} {σ : Env} {st : Store} {pp : Post Out} : @Wp _ (execs C (s :: r) σ st) pp = (@Wp _ (exec C s σ st) ⟨fun o s1 => @Wp _ (match o with
    | .nx σ1 => execs C r σ1 s1
    | o => .ok o s1) pp⟩) := by
  rw [execs_cons]
  repeat (refine wpb fun _ _ => ?_)
  try rfl
@[simp ↓] theorem w_compL_nil {f : D → Store → Res (Option D)} {st : Store} {p : Post (List D)} : @Wp _ (compL f [] st) p = p.q [] st := rfl
@[simp ↓] theorem w_compL_cons {f : D → Store → Res (Option D)} {x : D} {r : List D} {st : Store} {p : Post (List D)} : @Wp _ (compL f (x :: r) st) p = @Wp _ (f x st) ⟨fun y s1 => @Wp _ (compL f r s1) ⟨fun ys s2 => p.q (match y with | some y => y :: ys | none => ys) s2⟩⟩ := by
  rw [compL]; repeat (refine wpb fun _ _ => ?_)
  rfl
@[simp ↓] theorem w_compStep {f : Env → Store → Res Val} {g : Env → Store → Res Bool} {tg : Tg} {σ : Env} {y : D} {s : Store} {p : Post (Option D)} : @Wp _ (compStep f g tg σ y s) p =
    @Wp _ (optR (tg.put y σ) s) ⟨fun σ1 s4 => @Wp _ (g σ1 s4) ⟨fun b s5 => @Wp _ (if b then (f σ1 s5).bind fun z s6 => (optR (asD z) s6).bind fun d s7 => .ok (some d) s7 else .ok none s5) p⟩⟩ := by
  rw [compStep]; repeat (refine wpb fun _ _ => ?_)
  rfl
@[simp ↓] theorem w_condB {f : Env → Store → Res Val} {σ : Env} {s : Store} {p : Post Bool} : @Wp _ (condB f σ s) p = @Wp _ (f σ s) ⟨fun x s1 => @Wp _ (optR (asB x) s1) p⟩ := by
  rw [condB]; repeat (refine wpb fun _ _ => ?_)
  rfl
@[simp ↓] theorem w_loopL_nil {g : D → Env → Option Env} {f : Env → Store → Res Out} {σ : Env} {st : Store} {p : Post Out} : @Wp _ (loopL g f [] σ st) p = p.q (.nx σ) st := rfl
@[simp ↓] theorem w_loopL_cons {g : D → Env → Option Env} {f : Env → Store → Res Out} {x : D} {r : List D} {σ : Env} {st : Store} {p : Post Out} : @Wp _ (loopL g f (x :: r) σ st) p =
    @Wp _ (optR (g x σ) st) ⟨fun σ1 s1 => @Wp _ (f σ1 s1) ⟨fun o s2 => @Wp _ (match o with
    | .nx σ2 => loopL g f r σ2 s2
    | .cnt σ2 => loopL g f r σ2 s2
    | .brk σ2 => .ok (.nx σ2) s2
    | .ret v => .ok (.ret v) s2) p⟩⟩ := by
  rw [loopL]; repeat (refine wpb fun _ _ => ?_)
  rfl
@[simp ↓] theorem w_runFn {C : Calls} {f : Fn} {vs : List Val} {st : Store} {p : Post Val} : @Wp _ (runFn C f vs st) p = ((vs.length = f.pars ∧ f.pars ≤ f.many) ∧
    @Wp _ (execs C f.body (vs.map some ++ List.replicate (f.many - f.pars) none) st) ⟨fun o s1 => @Wp _ (match o with
      | .nx _ => leave st.length (.d .non) s1
      | .ret v => leave st.length v s1
      | _ => .bad) p⟩) := by
  unfold runFn
  by_cases h : vs.length = f.pars ∧ f.pars ≤ f.many
  · rw [if_pos h, wp_bind]
    simp only [h, true_and]
  · rw [if_neg h]
    simp [h]
/-! ### loops -/
theorem wp_loop {g : D → Env → Option Env} {f : Env → Store → Res Out} {pp : Post Out} (I : List D → Env → Store → Prop)
    (hs : ∀ x xs σ st, I (x :: xs) σ st → ∃ σ1, g x σ = some σ1 ∧ @Wp _ (f σ1 st) ⟨fun o s => match o with
      | .nx σ2 => I xs σ2 s | .cnt σ2 => I xs σ2 s | .brk σ2 => pp.q (.nx σ2) s | .ret v => pp.q (.ret v) s⟩)
    (hz : ∀ σ st, I [] σ st → pp.q (.nx σ) st) : ∀ (xs : List D) (σ : Env) (st : Store), I xs σ st → @Wp _ (loopL g f xs σ st) pp
  | [], σ, st, h => by rw [w_loopL_nil]; exact hz σ st h
  | x :: xs, σ, st, h => by
    obtain ⟨σ1, e, w⟩ := hs x xs σ st h
    rw [w_loopL_cons, e]
    simp only [optR_some, wp_ok]
    refine w.mono fun o s q => ?_
    cases o with
    | nx σ2 => exact wp_loop I hs hz xs σ2 s q
    | cnt σ2 => exact wp_loop I hs hz xs σ2 s q
    | brk σ2 => exact q
    | ret v => exact q
theorem wp_whileW {α : Type} {lt : α → α → Prop} (wf : WellFounded lt) {c : Env → Store → Res Bool} {f : Env → Store → Res Out} {pp : Post Out} (I : α → Env → Store → Prop)
    (hs : ∀ m σ st, I m σ st → @Wp _ (c σ st) ⟨fun b s1 => (b = true → @Wp _ (f σ s1) ⟨fun o s => match o with
      | .nx σ2 => ∃ m', lt m' m ∧ I m' σ2 s | .cnt σ2 => ∃ m', lt m' m ∧ I m' σ2 s | .brk σ2 => pp.q (.nx σ2) s | .ret v => pp.q (.ret v) s⟩) ∧ (b = false → pp.q (.nx σ) s1)⟩)
    (m : α) (σ : Env) (st : Store) (i : I m σ st) : @Wp _ (whileU c f σ st) pp := by
  have key : ∀ m σ st, I m σ st → ∃ n, @Wp _ (whileL c f n σ st) pp := by
    intro m
    induction m using wf.induction with
    | _ m ih =>
      intro σ st i
      obtain ⟨b, s1, e1, q⟩ := wp_iff.mp (hs m σ st i)
      cases b with
      | false => exact ⟨1, by rw [whileL, e1]; exact q.2 rfl⟩
      | true =>
        obtain ⟨o, s2, e2, q2⟩ := wp_iff.mp (q.1 rfl)
        cases o with
        | nx σ2 => obtain ⟨m', hm, i'⟩ := q2; obtain ⟨n, w⟩ := ih m' hm σ2 s2 i'; exact ⟨n + 1, by rw [whileL, e1]; simp only [Res.bind_ok, if_true, e2]; exact w⟩
        | cnt σ2 => obtain ⟨m', hm, i'⟩ := q2; obtain ⟨n, w⟩ := ih m' hm σ2 s2 i'; exact ⟨n + 1, by rw [whileL, e1]; simp only [Res.bind_ok, if_true, e2]; exact w⟩
        | brk σ2 => exact ⟨1, by rw [whileL, e1]; simp only [Res.bind_ok, if_true, e2]; exact q2⟩
        | ret v => exact ⟨1, by rw [whileL, e1]; simp only [Res.bind_ok, if_true, e2]; exact q2⟩
  obtain ⟨n, w⟩ := key m σ st i
  obtain ⟨r, s, e, q⟩ := wp_iff.mp w
  rw [whileU_of e]
  exact q
theorem wp_while {c : Env → Store → Res Bool} {f : Env → Store → Res Out} {pp : Post Out} (I : Nat → Env → Store → Prop)
    (hs : ∀ m σ st, I m σ st → @Wp _ (c σ st) ⟨fun b s1 => (b = true → @Wp _ (f σ s1) ⟨fun o s => match o with
      | .nx σ2 => ∃ m', m' < m ∧ I m' σ2 s | .cnt σ2 => ∃ m', m' < m ∧ I m' σ2 s | .brk σ2 => pp.q (.nx σ2) s | .ret v => pp.q (.ret v) s⟩) ∧ (b = false → pp.q (.nx σ) s1)⟩)
    (m : Nat) (σ : Env) (st : Store) (i : I m σ st) : @Wp _ (whileU c f σ st) pp := wp_whileW Nat.lt_wfRel.wf I hs m σ st i
/-- a comprehension's turns: what is left, what is made so far -/
theorem wp_comp' {f : D → Store → Res (Option D)} {pp : Post (List D)} (I : List D → List D → Store → Prop)
    (hs : ∀ x xs ys st, I (x :: xs) ys st → @Wp _ (f x st) ⟨fun o s => match o with | some y => I xs (ys ++ [y]) s | none => I xs ys s⟩)
    (hz : ∀ ys st, I [] ys st → pp.q ys st) : ∀ (xs ys : List D) (st : Store), I xs ys st → @Wp _ (compL f xs st) ⟨fun zs s => pp.q (ys ++ zs) s⟩
  | [], ys, st, h => by rw [w_compL_nil]; simpa using hz ys st h
  | x :: xs, ys, st, h => by
    have w := hs x xs ys st h
    rw [w_compL_cons]
    refine w.mono fun o s q => ?_
    cases o with
    | none => exact (wp_comp' I hs hz xs ys s q).mono fun zs s' q' => q'
    | some y => exact (wp_comp' I hs hz xs (ys ++ [y]) s q).mono fun zs s' q' => by simpa using q'
theorem wp_comp {f : D → Store → Res (Option D)} {pp : Post (List D)} (I : List D → List D → Store → Prop) {xs : List D} {st : Store} (h0 : I xs [] st)
    (hs : ∀ x xs ys st, I (x :: xs) ys st → @Wp _ (f x st) ⟨fun o s => match o with | some y => I xs (ys ++ [y]) s | none => I xs ys s⟩)
    (hz : ∀ ys st, I [] ys st → pp.q ys st) : @Wp _ (compL f xs st) pp := (wp_comp' I hs hz xs [] st h0).mono fun zs s q => by simpa using q
/-! ### comparisons -/
theorem ci_eq (a b : Int) : D.cmp .eq (.int a) (.int b) = some (decide (a = b)) := by simp [D.cmp, fine, D.dep, D.eqv]; rfl
theorem ci_ne (a b : Int) : D.cmp .ne (.int a) (.int b) = some (!decide (a = b)) := by simp [D.cmp, fine, D.dep, D.eqv]; rfl
theorem ci_lt (a b : Int) : D.cmp .lt (.int a) (.int b) = some (decide (a < b)) := rfl
theorem ci_le (a b : Int) : D.cmp .le (.int a) (.int b) = some (decide (a ≤ b)) := rfl
theorem ci_gt (a b : Int) : D.cmp .gt (.int a) (.int b) = some (decide (a > b)) := rfl
theorem ci_ge (a b : Int) : D.cmp .ge (.int a) (.int b) = some (decide (a ≥ b)) := rfl
theorem cs_eq (a b : String) : D.cmp .eq (.str a) (.str b) = some (decide (a = b)) := by simp [D.cmp, fine, D.dep, D.eqv]
theorem cs_ne (a b : String) : D.cmp .ne (.str a) (.str b) = some (!decide (a = b)) := by simp [D.cmp, fine, D.dep, D.eqv]
theorem cb_eq (a b : Bool) : D.cmp .eq (.bool a) (.bool b) = some (decide (a = b)) := by cases a <;> cases b <;> simp [D.cmp, fine, D.dep, D.eqv]
theorem cb_ne (a b : Bool) : D.cmp .ne (.bool a) (.bool b) = some (!decide (a = b)) := by cases a <;> cases b <;> simp [D.cmp, fine, D.dep, D.eqv]
/-! ### stores -/
/-- all cells of the one stand in the other, but for one -/
def Keep (B : Nat) (st s : Store) : Prop := st.length ≤ s.length ∧ ∀ i, i < st.length → i ≠ B → s[i]? = st[i]?
theorem Keep.refl (B : Nat) (st : Store) : Keep B st st := ⟨Nat.le_refl _, fun _ _ _ => rfl⟩
theorem Keep.trans {B : Nat} {a b c : Store} (h : Keep B a b) (k : Keep B b c) : Keep B a c :=
  ⟨Nat.le_trans h.1 k.1, fun i hi hn => (k.2 i (by have := h.1; omega) hn).trans (h.2 i hi hn)⟩
theorem Keep.take {B : Nat} {a b : Store} (h : Keep B a b) : Keep B a (b.take a.length) :=
  ⟨by have := h.1; simp; omega, fun i hi hn => by rw [List.getElem?_take, if_pos hi]; exact h.2 i hi hn⟩
theorem Keep.set {B : Nat} {a b : Store} (h : Keep B a b) (c : Cell) : Keep B a (b.set B c) :=
  ⟨by simpa using h.1, fun i hi hn => by rw [List.getElem?_set_ne (Ne.symm hn)]; exact h.2 i hi hn⟩
theorem Keep.push {B : Nat} {a b : Store} (h : Keep B a b) (c : Cell) : Keep B a (b ++ [c]) :=
  ⟨by have := h.1; simp; omega, fun i hi hn => by rw [List.getElem?_append_left (by have := h.1; omega)]; exact h.2 i hi hn⟩
theorem Keep.get {B : Nat} {a b : Store} (h : Keep B a b) {i : Nat} {c : Cell} (hc : a[i]? = some c) (hn : i ≠ B) : b[i]? = some c := by
  rw [h.2 i (List.getElem?_eq_some_iff.mp hc).1 hn]; exact hc
theorem Keep.len {B : Nat} {a b : Store} (h : Keep B a b) : (b.take a.length).length = a.length := by have := h.1; simp; omega
/-- what is handed back as data -/
@[simp] theorem leave_d (m : Nat) (x : D) (st : Store) : leave m (.d x) st = .ok (.d x) (st.take m) := rfl
end Ir

namespace Prog
open Ir
def pd (p : Kd × Kd) : D := .tup [p.1.d, p.2.d]
theorem pd_dep : ∀ ps : List (Kd × Kd), (∀ p ∈ ps, p.1.h ≤ 50 ∧ p.2.h ≤ 50) → D.depAll (ps.map pd) ≤ 52
  | [], _ => by simp [D.depAll]
  | p :: ps, h => by
    have := pd_dep ps fun q hq => h q (List.mem_cons_of_mem _ hq)
    have h1 := h p (by simp)
    simp only [List.map_cons, D.depAll, pd, D.dep, Kd.dep]
    omega
theorem ne_nil {ps : List (Kd × Kd)} (h : ∀ p ∈ ps, p.1.h ≤ 50 ∧ p.2.h ≤ 50) : D.cmp .ne (.lst (ps.map pd)) (.lst []) = some (!ps.isEmpty) := by
  have hd := pd_dep ps h
  have hf : fine (.lst (ps.map pd)) = true := by simp only [fine, D.dep]; exact decide_eq_true (by omega)
  have hf2 : fine (.lst []) = true := by simp [fine, D.dep, D.depAll]
  simp only [D.cmp, hf, hf2]
  cases ps with
  | nil => simp [D.eqv, D.eqvAll]
  | cons p ps => simp [D.eqv, D.eqvAll]
theorem st2_0 (st : Store) (c d : Cell) : (st ++ [c, d])[st.length]? = some c := by simp
theorem st2_1 (st : Store) (c d : Cell) : (st ++ [c, d])[st.length + 1]? = some d := by simp
theorem set2_0 (st : Store) (c d e : Cell) : (st ++ [c, d]).set st.length e = st ++ [e, d] := by simp
theorem set2_1 (st : Store) (c d e : Cell) : (st ++ [c, d]).set (st.length + 1) e = st ++ [c, e] := by simp
theorem range12 : D.bRange [.int 1, .int 2] = some (.lst [.int 1]) := by simp [D.bRange, LIM, rangeL, List.range_succ]
theorem range13 : D.bRange [.int 1, .int 3] = some (.lst [.int 1, .int 2]) := by simp [D.bRange, LIM, rangeL, List.range_succ]
theorem range11 : D.bRange [.int 1, .int 1] = some (.lst []) := by simp [D.bRange, LIM, rangeL]
end Prog

namespace Prog
open Ir
def Kd.hasB (i : Int) : Kd → Bool
  | .int => false
  | .bool => false
  | .list a => a.hasB i
  | .fn a b => a.hasB i || b.hasB i
  | .pair a b => a.hasB i || b.hasB i
  | .free j => decide (j = i)
theorem Kd.hasB_iff {i : Int} : ∀ k : Kd, k.hasB i = true ↔ k.has i
  | .int => by simp [Kd.hasB, Kd.has]
  | .bool => by simp [Kd.hasB, Kd.has]
  | .list a => a.hasB_iff
  | .fn a b => by simp [Kd.hasB, Kd.has, a.hasB_iff, b.hasB_iff]
  | .pair a b => by simp [Kd.hasB, Kd.has, a.hasB_iff, b.hasB_iff]
  | .free j => by simp [Kd.hasB, Kd.has]
structure FS (L : List Kd) (g : G) (S : Int → Kd) (rk : Int → Nat) : Prop where
  us : US L S
  bound : ∀ i t, g.lookup i = some t → t ∈ L ∧ S i = t.sub S
  free : ∀ i, g.lookup i = none ↔ S i = .free i
  rank : ∀ i j, g.lookup i = some (.free j) → rk j < rk i
def rkOf (rk : Int → Nat) : Kd → Nat
  | .free i => rk i + 1
  | _ => 0
section
variable {L : List Kd} {g : G} {S : Int → Kd} {rk : Int → Nat} {st : Store} {d : Nat}
theorem seen_wp (fs : FS L g S rk) (hd : st[d]? = some (.dic (dF g))) {one : Kd} (ho : one ∈ L) {n : Nat} (hn : 1 ≤ n) {pp : Post Val}
    (k : ∀ u, u ∈ L → u.sub S = one.sub S → (u.nv ∨ ∃ i, u = .free i ∧ S i = .free i) → pp.q (.d u.d) st) : @Wp _ (callN T n "seen" [.d one.d, .ref d] st) pp := by
  obtain ⟨n, rfl⟩ : ∃ n', n = n' + 1 := ⟨n - 1, by omega⟩
  rw [callN_run T_f_seen]
  simp [Tg.putV, Tg.put, Tg.puts, Tg.putF_eq, setAll, Tg.slots, Tg.slotss, wipe, indexV, D.index, atI, ixN, cmpV, deref, asB, asD, asDs, asI, bltV, lenDic, bltD, derefs, D.blt, D.bLen, D.bTuple, D.bList, D.seq, mthV, mthOk, setV, ci_eq, ci_ne, ci_lt, ci_le, ci_gt, ci_ge, cs_eq, cs_ne, cb_eq, cb_ne, D.bin, D.slice, cut, sIx, isNon, f_seen]
  refine wp_while (fun m σ s => s = st ∧ ∃ u ∈ L, u.sub S = one.sub S ∧ σ = [some (.d u.d), some (.ref d)] ∧ m = rkOf rk u) ?_ (rkOf rk one) _ _ ⟨rfl, one, ho, rfl, rfl, rfl⟩
  rintro m σ s ⟨rfl, u, hu, eu, rfl, rfl⟩
  cases hu' : u with
  | free i =>
    have hk := lookK_dF i g
    cases hl : g.lookup i with
    | none =>
      have : S i = .free i := (fs.free i).mp hl
      rw [hl] at hk
      have := k u hu eu (.inr ⟨i, hu', this⟩)
      rw [hu'] at this
      simp [Tg.putV, Tg.put, Tg.puts, Tg.putF_eq, setAll, Tg.slots, Tg.slotss, wipe, indexV, D.index, atI, ixN, cmpV, deref, asB, asD, asDs, asI, bltV, lenDic, bltD, derefs, D.blt, D.bLen, D.bTuple, D.bList, D.seq, mthV, mthOk, setV, ci_eq, ci_ne, ci_lt, ci_le, ci_gt, ci_ge, cs_eq, cs_ne, cb_eq, cb_ne, D.bin, D.slice, cut, sIx, isNon, Kd.d, inB, hd, D.key, hk, take_all]
      exact this
    | some t =>
      obtain ⟨ht, et⟩ := fs.bound i t hl
      rw [hl] at hk
      simp [Tg.putV, Tg.put, Tg.puts, Tg.putF_eq, setAll, Tg.slots, Tg.slotss, wipe, indexV, D.index, atI, ixN, cmpV, deref, asB, asD, asDs, asI, bltV, lenDic, bltD, derefs, D.blt, D.bLen, D.bTuple, D.bList, D.seq, mthV, mthOk, setV, ci_eq, ci_ne, ci_lt, ci_le, ci_gt, ci_ge, cs_eq, cs_ne, cb_eq, cb_ne, D.bin, D.slice, cut, sIx, isNon, Kd.d, inB, hd, D.key, hk]
      refine ⟨rkOf rk t, ?_, t, ht, ?_, rfl, rfl⟩
      · cases ht' : t with
        | free j => rw [ht'] at hl; have := fs.rank i j hl; simp only [rkOf]; omega
        | _ => simp [rkOf]
      · rw [← et, ← eu, hu']; rfl
  | _ =>
    have := k u hu eu (.inl (by rw [hu']; exact trivial))
    rw [hu'] at this
    simp [Tg.putV, Tg.put, Tg.puts, Tg.putF_eq, setAll, Tg.slots, Tg.slotss, wipe, indexV, D.index, atI, ixN, cmpV, deref, asB, asD, asDs, asI, bltV, lenDic, bltD, derefs, D.blt, D.bLen, D.bTuple, D.bList, D.seq, mthV, mthOk, setV, ci_eq, ci_ne, ci_lt, ci_le, ci_gt, ci_ge, cs_eq, cs_ne, cb_eq, cb_ne, D.bin, D.slice, cut, sIx, isNon, Kd.d, take_all]
    exact this
theorem seen_ex (fs : FS L g S rk) (hd : st[d]? = some (.dic (dF g))) {one : Kd} (ho : one ∈ L) {n : Nat} (hn : 1 ≤ n) :
    ∃ u, u ∈ L ∧ u.sub S = one.sub S ∧ (u.nv ∨ ∃ i, u = .free i ∧ S i = .free i) ∧ callN T n "seen" [.d one.d, .ref d] st = .ok (.d u.d) st := by
  have w := seen_wp fs hd ho hn (pp := ⟨fun v s => ∃ u, u ∈ L ∧ u.sub S = one.sub S ∧ (u.nv ∨ ∃ i, u = .free i ∧ S i = .free i) ∧ v = .d u.d ∧ s = st⟩) (fun u h1 h2 h3 => ⟨u, h1, h2, h3, rfl, rfl⟩)
  obtain ⟨v, s, e, u, h1, h2, h3, rfl, rfl⟩ := wp_iff.mp w
  exact ⟨u, h1, h2, h3, e⟩
theorem bools_app (xs : List Bool) : D.bools (xs.map .bool) = some xs := by
  induction xs with
  | nil => rfl
  | cons x xs ih => simp [D.bools, ih]
theorem any2 (x y : Bool) : D.bAny [.lst [.bool x, .bool y]] = some (.bool (x || y)) := by cases x <;> cases y <;> rfl
theorem any1 (x : Bool) : D.bAny [.lst [.bool x]] = some (.bool x) := by cases x <;> rfl
theorem any0 : D.bAny [.lst []] = some (.bool false) := rfl
set_option maxHeartbeats 8000000 in
theorem stands_ok (fs : FS L g S rk) (cl : Cl L) (hd : st[d]? = some (.dic (dF g))) {num : Int} : ∀ (n : Nat) (one : Kd), one ∈ L → (one.sub S).h + 2 ≤ n →
    callN T n "stands_in" [.d (.int num), .d one.d, .ref d] st = .ok (.d (.bool ((one.sub S).hasB num))) st := by
  intro n
  induction n with
  | zero => intro one _ h; omega
  | succ n ih =>
    intro one ho hh
    obtain ⟨u, hu, eu, hv, e⟩ := seen_ex fs hd ho (n := n) (by omega)
    rw [← eu] at hh ⊢
    rw [callN_run T_f_stands_in]
    cases u with
    | free i =>
      have hi : S i = .free i := by
        rcases hv with h | ⟨j, e1, e2⟩
        · exact h.elim
        · cases e1; exact e2
      simp [runFn, Tg.putV, Tg.put, Tg.puts, Tg.putF_eq, setAll, Tg.slots, Tg.slotss, wipe, indexV, D.index, atI, ixN, cmpV, deref, asB, asD, asDs, asI, bltV, lenDic, bltD, derefs, D.blt, D.bLen, D.bTuple, D.bList, D.seq, mthV, mthOk, setV, ci_eq, ci_ne, ci_lt, ci_le, ci_gt, ci_ge, cs_eq, cs_ne, cb_eq, cb_ne, D.bin, D.slice, cut, sIx, isNon, f_stands_in, e, Kd.d, leave, take_all, Kd.sub, hi, Kd.hasB]
    | int => simp [runFn, Tg.putV, Tg.put, Tg.puts, Tg.putF_eq, setAll, Tg.slots, Tg.slotss, wipe, indexV, D.index, atI, ixN, cmpV, deref, asB, asD, asDs, asI, bltV, lenDic, bltD, derefs, D.blt, D.bLen, D.bTuple, D.bList, D.seq, mthV, mthOk, setV, ci_eq, ci_ne, ci_lt, ci_le, ci_gt, ci_ge, cs_eq, cs_ne, cb_eq, cb_ne, D.bin, D.slice, cut, sIx, isNon, f_stands_in, e, Kd.d, compL, any0, leave, take_all, Kd.sub, Kd.hasB]
    | bool => simp [runFn, Tg.putV, Tg.put, Tg.puts, Tg.putF_eq, setAll, Tg.slots, Tg.slotss, wipe, indexV, D.index, atI, ixN, cmpV, deref, asB, asD, asDs, asI, bltV, lenDic, bltD, derefs, D.blt, D.bLen, D.bTuple, D.bList, D.seq, mthV, mthOk, setV, ci_eq, ci_ne, ci_lt, ci_le, ci_gt, ci_ge, cs_eq, cs_ne, cb_eq, cb_ne, D.bin, D.slice, cut, sIx, isNon, f_stands_in, e, Kd.d, compL, any0, leave, take_all, Kd.sub, Kd.hasB]
    | list a =>
      have e1 := ih a (cl _ hu a (by simp [Kd.kids])) (by simp only [Kd.sub, Kd.h] at hh; omega)
      simp [runFn, Tg.putV, Tg.put, Tg.puts, Tg.putF_eq, setAll, Tg.slots, Tg.slotss, wipe, indexV, D.index, atI, ixN, cmpV, deref, asB, asD, asDs, asI, bltV, lenDic, bltD, derefs, D.blt, D.bLen, D.bTuple, D.bList, D.seq, mthV, mthOk, setV, ci_eq, ci_ne, ci_lt, ci_le, ci_gt, ci_ge, cs_eq, cs_ne, cb_eq, cb_ne, D.bin, D.slice, cut, sIx, isNon, f_stands_in, e, e1, Kd.d, compL, compStep, any1, leave, take_all, Kd.sub, Kd.hasB]
    | fn a b =>
      have e1 := ih a (cl _ hu a (by simp [Kd.kids])) (by simp only [Kd.sub, Kd.h] at hh; omega)
      have e2 := ih b (cl _ hu b (by simp [Kd.kids])) (by simp only [Kd.sub, Kd.h] at hh; omega)
      simp [runFn, Tg.putV, Tg.put, Tg.puts, Tg.putF_eq, setAll, Tg.slots, Tg.slotss, wipe, indexV, D.index, atI, ixN, cmpV, deref, asB, asD, asDs, asI, bltV, lenDic, bltD, derefs, D.blt, D.bLen, D.bTuple, D.bList, D.seq, mthV, mthOk, setV, ci_eq, ci_ne, ci_lt, ci_le, ci_gt, ci_ge, cs_eq, cs_ne, cb_eq, cb_ne, D.bin, D.slice, cut, sIx, isNon, f_stands_in, e, e1, e2, Kd.d, compL, compStep, any2, leave, take_all, Kd.sub, Kd.hasB]
    | pair a b =>
      have e1 := ih a (cl _ hu a (by simp [Kd.kids])) (by simp only [Kd.sub, Kd.h] at hh; omega)
      have e2 := ih b (cl _ hu b (by simp [Kd.kids])) (by simp only [Kd.sub, Kd.h] at hh; omega)
      simp [runFn, Tg.putV, Tg.put, Tg.puts, Tg.putF_eq, setAll, Tg.slots, Tg.slotss, wipe, indexV, D.index, atI, ixN, cmpV, deref, asB, asD, asDs, asI, bltV, lenDic, bltD, derefs, D.blt, D.bLen, D.bTuple, D.bList, D.seq, mthV, mthOk, setV, ci_eq, ci_ne, ci_lt, ci_le, ci_gt, ci_ge, cs_eq, cs_ne, cb_eq, cb_ne, D.bin, D.slice, cut, sIx, isNon, f_stands_in, e, e1, e2, Kd.d, compL, compStep, any2, leave, take_all, Kd.sub, Kd.hasB]
set_option maxHeartbeats 8000000 in
theorem filled_ok (fs : FS L g S rk) (cl : Cl L) (hd : st[d]? = some (.dic (dF g))) : ∀ (n : Nat) (one : Kd), one ∈ L → (one.sub S).h + 2 ≤ n →
    callN T n "filled" [.d one.d, .ref d] st = .ok (.d (one.sub S).d) st := by
  intro n
  induction n with
  | zero => intro one _ h; omega
  | succ n ih =>
    intro one ho hh
    obtain ⟨u, hu, eu, hv, e⟩ := seen_ex fs hd ho (n := n) (by omega)
    rw [← eu] at hh ⊢
    rw [callN_run T_f_filled]
    cases u with
    | free i =>
      have hi : S i = .free i := by
        rcases hv with h | ⟨j, e1, e2⟩
        · exact h.elim
        · cases e1; exact e2
      simp [runFn, Tg.putV, Tg.put, Tg.puts, Tg.putF_eq, setAll, Tg.slots, Tg.slotss, wipe, indexV, D.index, atI, ixN, cmpV, deref, asB, asD, asDs, asI, bltV, lenDic, bltD, derefs, D.blt, D.bLen, D.bTuple, D.bList, D.seq, mthV, mthOk, setV, ci_eq, ci_ne, ci_lt, ci_le, ci_gt, ci_ge, cs_eq, cs_ne, cb_eq, cb_ne, D.bin, D.slice, cut, sIx, isNon, f_filled, e, Kd.d, leave, take_all, Kd.sub, hi]
    | int => simp [runFn, Tg.putV, Tg.put, Tg.puts, Tg.putF_eq, setAll, Tg.slots, Tg.slotss, wipe, indexV, D.index, atI, ixN, cmpV, deref, asB, asD, asDs, asI, bltV, lenDic, bltD, derefs, D.blt, D.bLen, D.bTuple, D.bList, D.seq, mthV, mthOk, setV, ci_eq, ci_ne, ci_lt, ci_le, ci_gt, ci_ge, cs_eq, cs_ne, cb_eq, cb_ne, D.bin, D.slice, cut, sIx, isNon, f_filled, e, Kd.d, compL, leave, take_all, Kd.sub, LIM]
    | bool => simp [runFn, Tg.putV, Tg.put, Tg.puts, Tg.putF_eq, setAll, Tg.slots, Tg.slotss, wipe, indexV, D.index, atI, ixN, cmpV, deref, asB, asD, asDs, asI, bltV, lenDic, bltD, derefs, D.blt, D.bLen, D.bTuple, D.bList, D.seq, mthV, mthOk, setV, ci_eq, ci_ne, ci_lt, ci_le, ci_gt, ci_ge, cs_eq, cs_ne, cb_eq, cb_ne, D.bin, D.slice, cut, sIx, isNon, f_filled, e, Kd.d, compL, leave, take_all, Kd.sub, LIM]
    | list a =>
      have e1 := ih a (cl _ hu a (by simp [Kd.kids])) (by simp only [Kd.sub, Kd.h] at hh; omega)
      simp [runFn, Tg.putV, Tg.put, Tg.puts, Tg.putF_eq, setAll, Tg.slots, Tg.slotss, wipe, indexV, D.index, atI, ixN, cmpV, deref, asB, asD, asDs, asI, bltV, lenDic, bltD, derefs, D.blt, D.bLen, D.bTuple, D.bList, D.seq, mthV, mthOk, setV, ci_eq, ci_ne, ci_lt, ci_le, ci_gt, ci_ge, cs_eq, cs_ne, cb_eq, cb_ne, D.bin, D.slice, cut, sIx, isNon, f_filled, e, e1, Kd.d, compL, compStep, leave, take_all, Kd.sub, LIM]
    | fn a b =>
      have e1 := ih a (cl _ hu a (by simp [Kd.kids])) (by simp only [Kd.sub, Kd.h] at hh; omega)
      have e2 := ih b (cl _ hu b (by simp [Kd.kids])) (by simp only [Kd.sub, Kd.h] at hh; omega)
      simp [runFn, Tg.putV, Tg.put, Tg.puts, Tg.putF_eq, setAll, Tg.slots, Tg.slotss, wipe, indexV, D.index, atI, ixN, cmpV, deref, asB, asD, asDs, asI, bltV, lenDic, bltD, derefs, D.blt, D.bLen, D.bTuple, D.bList, D.seq, mthV, mthOk, setV, ci_eq, ci_ne, ci_lt, ci_le, ci_gt, ci_ge, cs_eq, cs_ne, cb_eq, cb_ne, D.bin, D.slice, cut, sIx, isNon, f_filled, e, e1, e2, Kd.d, compL, compStep, leave, take_all, Kd.sub, LIM]
    | pair a b =>
      have e1 := ih a (cl _ hu a (by simp [Kd.kids])) (by simp only [Kd.sub, Kd.h] at hh; omega)
      have e2 := ih b (cl _ hu b (by simp [Kd.kids])) (by simp only [Kd.sub, Kd.h] at hh; omega)
      simp [runFn, Tg.putV, Tg.put, Tg.puts, Tg.putF_eq, setAll, Tg.slots, Tg.slotss, wipe, indexV, D.index, atI, ixN, cmpV, deref, asB, asD, asDs, asI, bltV, lenDic, bltD, derefs, D.blt, D.bLen, D.bTuple, D.bList, D.seq, mthV, mthOk, setV, ci_eq, ci_ne, ci_lt, ci_le, ci_gt, ci_ge, cs_eq, cs_ne, cb_eq, cb_ne, D.bin, D.slice, cut, sIx, isNon, f_filled, e, e1, e2, Kd.d, compL, compStep, leave, take_all, Kd.sub, LIM]
/-- a free one is filled -/
theorem FS.bind (fs : FS L g S rk) (cl : Cl L) {i : Int} {u : Kd} (hu : u ∈ L) (hv : u.nv ∨ ∃ j, u = .free j ∧ S j = .free j) (hi : S i = .free i) (hn : ¬ (u.sub S).has i) : ∃ rk', FS L (putG g i u) (comp1 S i (u.sub S)) rk' := by
  have hli : g.lookup i = none := (fs.free i).mpr hi
  have us' := fs.us.bind cl hu hi hn
  have hT : u.sub (comp1 S i (u.sub S)) = u.sub S := by rw [comp1_sub, Kd.sub_sg _ hn]
  have hSi : comp1 S i (u.sub S) i = u.sub S := by simp only [comp1, hi, Kd.sub, sg_same]
  refine ⟨fun x => if S x = .free i then rk x + rkOf rk u else rk x, us', fun x t hx => ?_, fun x => ?_, fun x y hx => ?_⟩
  · rw [lookup_putG] at hx
    by_cases e : x = i
    · rw [if_pos e] at hx; cases hx
      exact ⟨hu, by rw [e, hSi, hT]⟩
    · rw [if_neg e] at hx
      obtain ⟨h1, h2⟩ := fs.bound x t hx
      exact ⟨h1, by rw [comp1_sub, ← h2]; rfl⟩
  · rw [lookup_putG]
    by_cases e : x = i
    · rw [if_pos e]
      constructor
      · intro h; cases h
      · intro h
        rw [e, hSi] at h
        exact absurd (by rw [h]; rfl) hn
    · rw [if_neg e]
      constructor
      · intro h
        have := (fs.free x).mp h
        simp only [comp1, this, Kd.sub, sg_ne _ e]
      · intro h
        exact (fs.free x).mpr (free_bind fs.us hn h)
  · rw [lookup_putG] at hx
    by_cases e : x = i
    · rw [if_pos e] at hx
      cases hx
      have hj : S y = .free y := by
        rcases hv with h | ⟨j, e1, e2⟩
        · exact h.elim
        · cases e1; exact e2
      have hyi : S y ≠ .free i := by
        rw [hj]
        intro q
        cases q
        exact hn (by simp only [Kd.sub, hj]; rfl)
      simp only [e, hi, if_true, if_neg hyi, rkOf]
      omega
    · rw [if_neg e] at hx
      have hr := fs.rank x y hx
      have hb := (fs.bound x _ hx).2
      simp only [Kd.sub] at hb
      rw [hb]
      split <;> omega
end
end Prog

namespace Prog
open Ir
def Kd.subs : Kd → List Kd
  | .int => [.int]
  | .bool => [.bool]
  | .list a => .list a :: a.subs
  | .fn a b => .fn a b :: (a.subs ++ b.subs)
  | .pair a b => .pair a b :: (a.subs ++ b.subs)
  | .free i => [.free i]
theorem Kd.subs_len (k : Kd) : k.subs.length = k.parts := by induction k <;> simp_all [Kd.subs, Kd.parts]
theorem Kd.subs_self (k : Kd) : k ∈ k.subs := by cases k <;> simp [Kd.subs]
theorem Kd.subs_cl : ∀ k : Kd, Cl k.subs
  | .int => by intro u hu c hc; simp [Kd.subs] at hu; subst hu; simp [Kd.kids] at hc
  | .bool => by intro u hu c hc; simp [Kd.subs] at hu; subst hu; simp [Kd.kids] at hc
  | .free i => by intro u hu c hc; simp [Kd.subs] at hu; subst hu; simp [Kd.kids] at hc
  | .list a => by
    intro u hu c hc
    simp only [Kd.subs, List.mem_cons] at hu ⊢
    rcases hu with rfl | hu
    · simp [Kd.kids] at hc; subst hc; exact .inr c.subs_self
    · exact .inr (a.subs_cl u hu c hc)
  | .fn a b => by
    intro u hu c hc
    simp only [Kd.subs, List.mem_cons, List.mem_append] at hu ⊢
    rcases hu with rfl | hu | hu
    · simp [Kd.kids] at hc
      rcases hc with rfl | rfl
      · exact .inr (.inl c.subs_self)
      · exact .inr (.inr c.subs_self)
    · exact .inr (.inl (a.subs_cl u hu c hc))
    · exact .inr (.inr (b.subs_cl u hu c hc))
  | .pair a b => by
    intro u hu c hc
    simp only [Kd.subs, List.mem_cons, List.mem_append] at hu ⊢
    rcases hu with rfl | hu | hu
    · simp [Kd.kids] at hc
      rcases hc with rfl | rfl
      · exact .inr (.inl c.subs_self)
      · exact .inr (.inr c.subs_self)
    · exact .inr (.inl (a.subs_cl u hu c hc))
    · exact .inr (.inr (b.subs_cl u hu c hc))
theorem Kd.subs_h : ∀ (k u : Kd), u ∈ k.subs → u.h ≤ k.h
  | .int, u, h => by simp [Kd.subs] at h; subst h; exact Nat.le_refl _
  | .bool, u, h => by simp [Kd.subs] at h; subst h; exact Nat.le_refl _
  | .free i, u, h => by simp [Kd.subs] at h; subst h; exact Nat.le_refl _
  | .list a, u, h => by
    simp only [Kd.subs, List.mem_cons] at h
    rcases h with rfl | h
    · exact Nat.le_refl _
    · have := a.subs_h u h; simp only [Kd.h]; omega
  | .fn a b, u, h => by
    simp only [Kd.subs, List.mem_cons, List.mem_append] at h
    rcases h with rfl | h | h
    · exact Nat.le_refl _
    · have := a.subs_h u h; simp only [Kd.h]; omega
    · have := b.subs_h u h; simp only [Kd.h]; omega
  | .pair a b, u, h => by
    simp only [Kd.subs, List.mem_cons, List.mem_append] at h
    rcases h with rfl | h | h
    · exact Nat.le_refl _
    · have := a.subs_h u h; simp only [Kd.h]; omega
    · have := b.subs_h u h; simp only [Kd.h]; omega
theorem Cl.app {A B : List Kd} (h : Cl A) (k : Cl B) : Cl (A ++ B) := fun u hu c hc => by
  rcases List.mem_append.mp hu with hu | hu
  · exact List.mem_append_left _ (h u hu c hc)
  · exact List.mem_append_right _ (k u hu c hc)
/-- the sum of the left sides as they are filled -/
def szs (S : Int → Kd) : List (Kd × Kd) → Nat
  | [] => 0
  | p :: ps => (p.1.sub S).parts + szs S ps
theorem szs_app (S : Int → Kd) (a b : List (Kd × Kd)) : szs S (a ++ b) = szs S a + szs S b := by
  induction a with
  | nil => simp [szs]
  | cons p a ih => simp [szs, ih]; omega
/-- a kind stands within another one, so deep -/
def Dp (t : Kd) : Nat → Kd → Prop
  | 0, A => t = A
  | n + 1, A => ∃ c ∈ A.kids, Dp t n c
theorem kid_lt {A c : Kd} (h : c ∈ A.kids) : c.h + 1 ≤ A.h := by
  cases A <;> simp [Kd.kids] at h
  · subst h; simp [Kd.h]
  · rcases h with rfl | rfl <;> simp only [Kd.h] <;> omega
  · rcases h with rfl | rfl <;> simp only [Kd.h] <;> omega
theorem kid_sub {A c : Kd} (f : Int → Kd) (h : c ∈ A.kids) : c.sub f ∈ (A.sub f).kids := by
  cases A <;> simp [Kd.kids] at h
  · subst h; simp [Kd.sub, Kd.kids]
  · rcases h with rfl | rfl <;> simp [Kd.sub, Kd.kids]
  · rcases h with rfl | rfl <;> simp [Kd.sub, Kd.kids]
theorem Dp.h {t : Kd} : ∀ {n : Nat} {A : Kd}, Dp t n A → t.h + n ≤ A.h
  | 0, A, e => by rw [show t = A from e]; exact Nat.le_refl _
  | n + 1, A, ⟨c, hc, h⟩ => by have := h.h; have := kid_lt hc; omega
theorem Dp.sub {t : Kd} (f : Int → Kd) : ∀ {n : Nat} {A : Kd}, Dp t n A → Dp (t.sub f) n (A.sub f)
  | 0, A, e => by rw [show t = A from e]; exact rfl
  | n + 1, A, ⟨c, hc, h⟩ => ⟨c.sub f, kid_sub f hc, h.sub f⟩
theorem Dp.kid {t c : Kd} (hc : c ∈ t.kids) : ∀ {n : Nat} {A : Kd}, Dp t n A → Dp c (n + 1) A
  | 0, A, e => by rw [← show t = A from e]; exact ⟨c, hc, rfl⟩
  | n + 1, A, ⟨b, hb, h⟩ => ⟨b, hb, h.kid hc⟩
def DpL (S : Int → Kd) (A : Kd) (ps : List (Kd × Kd)) : Prop := ∀ i p, ps[i]? = some p → ∃ j, i ≤ j ∧ Dp (p.1.sub S) j (A.sub S)
theorem DpL.len {S : Int → Kd} {A : Kd} {ps : List (Kd × Kd)} (h : DpL S A ps) : ps.length ≤ (A.sub S).h + 1 := by
  cases hl : ps.length with
  | zero => omega
  | succ n =>
    obtain ⟨j, h1, h2⟩ := h n (ps[n]'(by omega)) (List.getElem?_eq_getElem (by omega))
    have := h2.h
    omega
theorem DpL.bind {S : Int → Kd} {A : Kd} {ps : List (Kd × Kd)} {i : Int} {t : Kd} (h : DpL S A ps) : DpL (comp1 S i t) A ps := fun k p hp => by
  obtain ⟨j, h1, h2⟩ := h k p hp
  exact ⟨j, h1, by rw [comp1_sub, comp1_sub]; exact h2.sub _⟩
theorem DpL.pop {S : Int → Kd} {A : Kd} {qs : List (Kd × Kd)} {p : Kd × Kd} (h : DpL S A (qs ++ [p])) : DpL S A qs := fun k q hq => h k q (by rw [List.getElem?_append_left (List.getElem?_eq_some_iff.mp hq).1]; exact hq)
theorem DpL.push {S : Int → Kd} {A u : Kd} {qs rs : List (Kd × Kd)} {p : Kd × Kd} (h : DpL S A (qs ++ [p])) (eu : u.sub S = p.1.sub S) (hr : ∀ q ∈ rs, q.1 ∈ u.kids) (hl : rs.length ≤ 2) : DpL S A (qs ++ rs) := fun k q hq => by
  by_cases c : k < qs.length
  · rw [List.getElem?_append_left c] at hq
    exact h k q (by rw [List.getElem?_append_left c]; exact hq)
  · obtain ⟨j, h1, h2⟩ := h qs.length p (by simp)
    have hm := (List.getElem?_eq_some_iff.mp hq).1
    rw [List.getElem?_append_right (by omega)] at hq
    have hk := hr q (List.mem_of_getElem? hq)
    rw [← eu] at h2
    refine ⟨j + 1, ?_, h2.kid (kid_sub S hk)⟩
    rw [List.length_append] at hm
    omega
/-- the loop's word -/
structure MdI (L : List Kd) (a b : Kd) (st : Store) (d : Nat) (m : Nat × Nat) (σ : Env) (s : Store) : Prop where
  ex : ∃ (g : G) (S : Int → Kd) (rk : Int → Nat) (ps : List (Kd × Kd)) (x4 x5 : Option Val), σ = [some (.d a.d), some (.d b.d), some (.ref d), some (.ref st.length), x4, x5] ∧
    s = (st.set d (.dic (dF g))) ++ [.lst (ps.map pd)] ∧ m = (cnt S L, szs S ps) ∧ FS L g S rk ∧ (∀ p ∈ ps, p.1 ∈ L ∧ p.2 ∈ L) ∧ g.length + cnt S L ≤ L.length ∧ DpL S a ps ∧
    ∀ f, a.sub f = b.sub f ↔ (Sols f S ∧ ∀ p ∈ ps, p.1.sub f = p.2.sub f)
theorem mem_app1 {α : Type} {P : α → Prop} {qs : List α} {p : α} : (∀ x ∈ qs ++ [p], P x) ↔ (∀ x ∈ qs, P x) ∧ P p := by
  constructor
  · intro h; exact ⟨fun x hx => h x (List.mem_append_left _ hx), h p (by simp)⟩
  · rintro ⟨h1, h2⟩ x hx
    rcases List.mem_append.mp hx with hx | hx
    · exact h1 x hx
    · simp at hx; rw [hx]; exact h2
theorem mem_app2 {α : Type} {P : α → Prop} {qs rs : List α} : (∀ x ∈ qs ++ rs, P x) ↔ (∀ x ∈ qs, P x) ∧ ∀ x ∈ rs, P x := by
  constructor
  · intro h; exact ⟨fun x hx => h x (List.mem_append_left _ hx), fun x hx => h x (List.mem_append_right _ hx)⟩
  · rintro ⟨h1, h2⟩ x hx
    rcases List.mem_append.mp hx with hx | hx
    · exact h1 x hx
    · exact h2 x hx
abbrev LexN : Nat × Nat → Nat × Nat → Prop := Prod.Lex (· < ·) (· < ·)
theorem lexN_wf : WellFounded LexN := (Prod.lex Nat.lt_wfRel Nat.lt_wfRel).wf
section
variable {L : List Kd} {a b : Kd} {st : Store} {d : Nat}
/-- behind a free one filled -/
theorem md_bind {g : G} {S : Int → Kd} {rk : Int → Nat} {qs : List (Kd × Kd)} {l r u : Kd} {i : Int} (cl : Cl L) (fs : FS L g S rk) (hq : ∀ p ∈ qs ++ [(l, r)], p.1 ∈ L ∧ p.2 ∈ L) (hg : g.length + cnt S L ≤ L.length) (dp : DpL S a (qs ++ [(l, r)]))
    (hf : ∀ f, a.sub f = b.sub f ↔ (Sols f S ∧ ∀ p ∈ qs ++ [(l, r)], p.1.sub f = p.2.sub f)) (hu : u ∈ L) (hv : u.nv ∨ ∃ j, u = .free j ∧ S j = .free j) (hi : S i = .free i) (hiL : .free i ∈ L) (hn : ¬ (u.sub S).has i)
    (hlr : ∀ f, Sols f S → (l.sub f = r.sub f ↔ f i = u.sub f)) (x4 x5 : Option Val) :
    ∃ m', LexN m' (cnt S L, szs S (qs ++ [(l, r)])) ∧ MdI L a b st d m' [some (.d a.d), some (.d b.d), some (.ref d), some (.ref st.length), x4, x5] ((st.set d (.dic (dF (putG g i u)))) ++ [.lst (qs.map pd)]) := by
  obtain ⟨rk', fs'⟩ := fs.bind cl hu hv hi hn
  have hc := cnt_bind fs.us hi hiL hn
  have hp := putG_len g i u
  refine ⟨(cnt (comp1 S i (u.sub S)) L, szs (comp1 S i (u.sub S)) qs), .left _ _ hc, ⟨putG g i u, comp1 S i (u.sub S), rk', qs, x4, x5, rfl, rfl, rfl, fs', (mem_app1.mp hq).1, by omega, dp.pop.bind, fun f => ?_⟩⟩
  rw [hf f, sols_bind hi, mem_app1]
  constructor
  · rintro ⟨h1, h2, h3⟩
    refine ⟨⟨h1, ?_⟩, h2⟩
    rw [h1.k]
    exact (hlr f h1).mp h3
  · rintro ⟨⟨h1, h3⟩, h2⟩
    rw [h1.k] at h3
    exact ⟨h1, h2, (hlr f h1).mpr h3⟩
/-- behind a pair of the same word -/
theorem md_kids {g : G} {S : Int → Kd} {rk : Int → Nat} {qs rs : List (Kd × Kd)} {l r u v : Kd} (cl : Cl L) (fs : FS L g S rk) (hq : ∀ p ∈ qs ++ [(l, r)], p.1 ∈ L ∧ p.2 ∈ L) (hg : g.length + cnt S L ≤ L.length) (dp : DpL S a (qs ++ [(l, r)]))
    (hf : ∀ f, a.sub f = b.sub f ↔ (Sols f S ∧ ∀ p ∈ qs ++ [(l, r)], p.1.sub f = p.2.sub f)) (hu : u ∈ L) (hv : v ∈ L) (eu : u.sub S = l.sub S) (ev : v.sub S = r.sub S)
    (hr : ∀ q ∈ rs, q.1 ∈ u.kids ∧ q.2 ∈ v.kids) (hl : rs.length ≤ 2) (hs : szs S rs < (u.sub S).parts) (hlr : ∀ f, u.sub f = v.sub f ↔ ∀ p ∈ rs, p.1.sub f = p.2.sub f) (x4 x5 : Option Val) :
    ∃ m', LexN m' (cnt S L, szs S (qs ++ [(l, r)])) ∧ MdI L a b st d m' [some (.d a.d), some (.d b.d), some (.ref d), some (.ref st.length), x4, x5] ((st.set d (.dic (dF g))) ++ [.lst ((qs ++ rs).map pd)]) := by
  refine ⟨(cnt S L, szs S (qs ++ rs)), .right _ (by simp only [szs_app, szs]; rw [← eu]; omega), ⟨g, S, rk, qs ++ rs, x4, x5, rfl, rfl, rfl, fs, fun p hp => ?_, hg, dp.push eu (fun q hq => (hr q hq).1) hl, fun f => ?_⟩⟩
  · rcases List.mem_append.mp hp with hp | hp
    · exact (mem_app1.mp hq).1 p hp
    · exact ⟨cl u hu _ (hr p hp).1, cl v hv _ (hr p hp).2⟩
  · rw [hf f, mem_app1, mem_app2]
    have key : Sols f S → (l.sub f = r.sub f ↔ ∀ p ∈ rs, p.1.sub f = p.2.sub f) := fun h => by
      rw [← hlr f, ← h.k l, ← h.k r, ← eu, ← ev, h.k, h.k]
    constructor
    · rintro ⟨h1, h2, h3⟩; exact ⟨h1, h2, (key h1).mp h3⟩
    · rintro ⟨h1, h2, h3⟩; exact ⟨h1, h2, (key h1).mpr h3⟩
end
end Prog

namespace Prog
open Ir
theorem Kd.nv_head {k : Kd} (h : k.nv) : k.head ≠ "free" := by
  cases k <;> simp [Kd.head]
  exact h
theorem Kd.nv_tail {k : Kd} (h : k.nv) : k.tail = k.kids.map Kd.d := by
  cases k <;> simp [Kd.tail, Kd.kids]
  exact h
theorem zip_kids (a b : List Kd) : zipL (a.map Kd.d) (b.map Kd.d) = (a.zip b).map pd := by
  simp only [zipL, List.zip_map, List.map_map]
  rfl
theorem kids_len (k : Kd) : k.kids.length ≤ 2 := by cases k <;> simp [Kd.kids]
theorem mem_zip {a b : List Kd} {p : Kd × Kd} (h : p ∈ a.zip b) : p.1 ∈ a ∧ p.2 ∈ b := by
  obtain ⟨x, y⟩ := p
  exact ⟨(List.of_mem_zip h).1, (List.of_mem_zip h).2⟩
theorem same_head {u v : Kd} (hu : u.nv) (hv : v.nv) (h : u.head = v.head) (f : Int → Kd) : u.sub f = v.sub f ↔ ∀ p ∈ u.kids.zip v.kids, p.1.sub f = p.2.sub f := by
  cases u <;> cases v <;> simp [Kd.head] at h <;> first | exact hu.elim | exact hv.elim | simp [Kd.sub, Kd.kids]
theorem other_head {u v : Kd} (hu : u.nv) (hv : v.nv) (h : u.head ≠ v.head) (f : Int → Kd) : u.sub f ≠ v.sub f := by
  cases u <;> cases v <;> simp [Kd.head] at h <;> first | exact hu.elim | exact hv.elim | simp [Kd.sub]
theorem kids_sz {u v : Kd} (S : Int → Kd) : szs S (u.kids.zip v.kids) < (u.sub S).parts := by
  have := (u.sub S).h_parts
  cases u <;> cases v <;> simp [Kd.kids, szs, Kd.sub, Kd.parts] at this ⊢ <;> omega
section
variable {L : List Kd} {a b : Kd} {st : Store} {d : Nat}
theorem gs0 {st : Store} {d : Nat} (hd : d < st.length) (x c : Cell) : ((st.set d x) ++ [c])[d]? = some x := by
  rw [List.getElem?_append_left (by simpa using hd), List.getElem?_set_self hd]
theorem gs1 {st : Store} {d : Nat} (x c : Cell) : ((st.set d x) ++ [c])[st.length]? = some c := by
  rw [List.getElem?_append_right (by simp)]; simp
theorem ss1 {st : Store} {d : Nat} (x c c' : Cell) : ((st.set d x) ++ [c]).set st.length c' = st.set d x ++ [c'] := by
  rw [List.set_append_right _ _ (by simp)]; simp
theorem ss0 {st : Store} {d : Nat} (hd : d < st.length) (x y c : Cell) : ((st.set d x) ++ [c]).set d y = st.set d y ++ [c] := by
  rw [List.set_append_left _ _ (by simpa using hd), List.set_set]
set_option maxHeartbeats 16000000 in
theorem md_turn {n : Nat} {m : Nat × Nat} {σ : Env} {s : Store} {pp : Post Out} (cl : Cl L) (hL : ∀ u ∈ L, u.h ≤ 50) (hLl : L.length ≤ 40) (ha : a ∈ L) (hd : d < st.length) (hn : 44 ≤ n) (i : MdI L a b st d m σ s)
    (h0 : ∀ g S rk σ s, FS L g S rk → (∀ f, a.sub f = b.sub f ↔ Sols f S) → s = (st.set d (.dic (dF g))) ++ [.lst []] → pp.q (.nx σ) s)
    (h1 : (∀ f, a.sub f ≠ b.sub f) → ∀ g s c, s = (st.set d (.dic (dF g))) ++ [c] → pp.q (.ret (.d (.bool false))) s) :
    @Wp _ (condB (eval (callN T n) f_made_alike_w0) σ s) ⟨fun b' s1 => (b' = true → @Wp _ (execs (callN T n) f_made_alike_b0 σ s1) ⟨fun o s => match o with
      | .nx σ2 => ∃ m', LexN m' m ∧ MdI L a b st d m' σ2 s | .cnt σ2 => ∃ m', LexN m' m ∧ MdI L a b st d m' σ2 s | .brk σ2 => pp.q (.nx σ2) s | .ret v => pp.q (.ret v) s⟩) ∧ (b' = false → pp.q (.nx σ) s1)⟩ := by
  obtain ⟨g, S, rk, ps, x4, x5, rfl, rfl, rfl, fs, hps, hg, dp, hf⟩ := i
  have hh : ∀ p ∈ ps, p.1.h ≤ 50 ∧ p.2.h ≤ 50 := fun p hp => ⟨hL _ (hps p hp).1, hL _ (hps p hp).2⟩
  have hAh := fs.us.h_le cl ha
  simp [Tg.putV, Tg.put, Tg.puts, Tg.putF_eq, setAll, Tg.slots, Tg.slotss, wipe, indexV, D.index, atI, ixN, cmpV, deref, asB, asD, asDs, asI, bltV, lenDic, bltD, derefs, D.blt, D.bLen, D.bTuple, D.bList, D.seq, mthV, mthOk, setV, ci_eq, ci_ne, ci_lt, ci_le, ci_gt, ci_ge, cs_eq, cs_ne, cb_eq, cb_ne, D.bin, D.slice, cut, sIx, isNon, gs1, ne_nil hh]
  refine ⟨fun hne => ?_, fun he => ?_⟩
  · obtain ⟨qs, ⟨l, r⟩, rfl⟩ : ∃ qs p, ps = qs ++ [p] := ⟨ps.dropLast, ps.getLast hne, (List.dropLast_concat_getLast hne).symm⟩
    have hlr := hps (l, r) (by simp)
    have hdl := dp.pop.len
    obtain ⟨u, hu, eu, hu2, e1⟩ := seen_ex fs (gs0 hd (.dic (dF g)) (.lst (qs.map pd))) hlr.1 (n := n) (by omega)
    obtain ⟨v, hv, ev, hv2, e2⟩ := seen_ex fs (gs0 hd (.dic (dF g)) (.lst (qs.map pd))) hlr.2 (n := n) (by omega)
    have huh := hL u hu
    have hvh := hL v hv
    have hc := cmp_eq_kd (a := u) (b := v) (by omega) (by omega)
    have lrf : ∀ f, Sols f S → (l.sub f = r.sub f ↔ u.sub f = v.sub f) := fun f h => by rw [← h.k l, ← h.k r, ← eu, ← ev, h.k, h.k]
    have fin1 := fun (x4 x5 : Option Val) (e : u = v) => md_kids (st := st) (d := d) (rs := []) cl fs hps hg dp hf hu hv eu ev (by simp) (by simp) (by have := (u.sub S).h_parts; simp only [szs]; omega) (fun f => by simp [e]) x4 x5
    have no : ∀ {i : Int} {w : Kd}, w ∈ L → (w.nv ∨ ∃ j, w = .free j ∧ S j = .free j) → S i = .free i → w ≠ .free i → (w.sub S).has i → (∀ f, Sols f S → (l.sub f = r.sub f → f i = w.sub f)) → ∀ f, a.sub f ≠ b.sub f := fun {i w} hw hw2 hi hne hhas hsol f e => by
      obtain ⟨h1, h2⟩ := (hf f).mp e
      have h3 := hsol f h1 (h2 (l, r) (by simp))
      rw [← h1.k w] at h3
      refine Kd.occurs hhas (fun q => ?_) h3
      rcases hw2 with hw2 | ⟨j, rfl, hj⟩
      · cases w <;> simp [Kd.sub] at q
        exact hw2.elim
      · simp only [Kd.sub, hj] at q; exact hne q
    have hgl : (dF g).length < LIM := by rw [dF_len]; simp only [LIM]; omega
    by_cases huv : u = v
    · subst huv
      simp only [decide_true] at hc
      have := fin1 (some (.d u.d)) (some (.d u.d)) rfl
      simp [Tg.putV, Tg.put, Tg.puts, Tg.putF_eq, setAll, Tg.slots, Tg.slotss, wipe, indexV, D.index, atI, ixN, cmpV, deref, asB, asD, asDs, asI, bltV, lenDic, bltD, derefs, D.blt, D.bLen, D.bTuple, D.bList, D.seq, mthV, mthOk, setV, ci_eq, ci_ne, ci_lt, ci_le, ci_gt, ci_ge, cs_eq, cs_ne, cb_eq, cb_ne, D.bin, D.slice, cut, sIx, isNon, gs1, mPop, pd, ss1, e1, e2, hc]
      simpa using this
    · simp only [huv, decide_false] at hc
      rcases hv2 with hvn | ⟨j, rfl, hj⟩
      · have hvd := v.d_eq
        rcases hu2 with hun | ⟨i, rfl, hi⟩
        · have hud := u.d_eq
          rw [hud] at e1 hc
          rw [hvd] at e2 hc
          have hz : zipL u.tail v.tail = (u.kids.zip v.kids).map pd := by rw [Kd.nv_tail hun, Kd.nv_tail hvn, zip_kids]
          have hkl : (u.kids.zip v.kids).length ≤ 2 := by have := kids_len u; rw [List.length_zip]; omega
          by_cases c : u.head = v.head
          · have := md_kids (st := st) (d := d) (rs := u.kids.zip v.kids) cl fs hps hg dp hf hu hv eu ev (fun q hq => mem_zip hq) hkl (kids_sz S) (fun f => same_head hun hvn c f) (some (.d (.tup (.str v.head :: u.tail)))) (some (.d (.tup (.str v.head :: v.tail))))
            rw [c] at e1 hc
            simp [Tg.putV, Tg.put, Tg.puts, Tg.putF_eq, setAll, Tg.slots, Tg.slotss, wipe, indexV, D.index, atI, ixN, cmpV, deref, asB, asD, asDs, asI, bltV, lenDic, bltD, derefs, D.blt, D.bLen, D.bTuple, D.bList, D.seq, mthV, mthOk, setV, ci_eq, ci_ne, ci_lt, ci_le, ci_gt, ci_ge, cs_eq, cs_ne, cb_eq, cb_ne, D.bin, D.slice, cut, sIx, isNon, gs1, mPop, pd, ss1, e1, e2, hc, Kd.nv_head hvn, D.bLzip, hz, mExtend]
            have hk2 := kids_len v
            have hk1 := kids_len u
            refine ⟨fun _ => by simpa using this, ?_⟩
            simp only [LIM]
            omega
          · simp [Tg.putV, Tg.put, Tg.puts, Tg.putF_eq, setAll, Tg.slots, Tg.slotss, wipe, indexV, D.index, atI, ixN, cmpV, deref, asB, asD, asDs, asI, bltV, lenDic, bltD, derefs, D.blt, D.bLen, D.bTuple, D.bList, D.seq, mthV, mthOk, setV, ci_eq, ci_ne, ci_lt, ci_le, ci_gt, ci_ge, cs_eq, cs_ne, cb_eq, cb_ne, D.bin, D.slice, cut, sIx, isNon, gs1, mPop, pd, ss1, e1, e2, hc, Kd.nv_head hun, Kd.nv_head hvn, c]
            exact h1 (fun f e => other_head hun hvn c f ((lrf f ((hf f).mp e).1).mp (((hf f).mp e).2 (l, r) (by simp)))) g _ _ rfl
        · have e3 := stands_ok fs cl (gs0 hd (.dic (dF g)) (.lst (qs.map pd))) (num := i) n v hv (by have := fs.us.h_le cl hv; omega)
          have hput := putK_dF g i v
          rw [hvd] at e2 hc e3 hput
          simp only [Kd.d] at e1 hc
          have ufr : ∀ f, Sols f S → (l.sub f = r.sub f ↔ f i = v.sub f) := fun f h => by rw [lrf f h]; rfl
          simp [Tg.putV, Tg.put, Tg.puts, Tg.putF_eq, setAll, Tg.slots, Tg.slotss, wipe, indexV, D.index, atI, ixN, cmpV, deref, asB, asD, asDs, asI, bltV, lenDic, bltD, derefs, D.blt, D.bLen, D.bTuple, D.bList, D.seq, mthV, mthOk, setV, ci_eq, ci_ne, ci_lt, ci_le, ci_gt, ci_ge, cs_eq, cs_ne, cb_eq, cb_ne, D.bin, D.slice, cut, sIx, isNon, gs1, mPop, pd, ss1, e1, e2, hc, Kd.nv_head hvn, e3, gs0 hd, hgl, hput, ss0 hd]
          refine ⟨fun c => ?_, fun c => ?_⟩
          · exact h1 (no hv (.inl hvn) hi (fun q => huv q.symm) ((Kd.hasB_iff _).mp c) fun f h => (ufr f h).mp) g _ _ rfl
          · have hnh : ¬ (v.sub S).has i := fun q => by rw [(Kd.hasB_iff _).mpr q] at c; cases c
            obtain ⟨⟨m1, m2⟩, hm⟩ := md_bind (st := st) (d := d) cl fs hps hg dp hf hv (.inl hvn) hi hu hnh ufr (some (.d (D.tup [D.str "free", D.int i]))) (some (.d (D.tup (D.str v.head :: v.tail))))
            exact ⟨m1, m2, hm⟩
      · have e3 := stands_ok fs cl (gs0 hd (.dic (dF g)) (.lst (qs.map pd))) (num := j) n u hu (by have := fs.us.h_le cl hu; omega)
        have hput := putK_dF g j u
        simp only [Kd.d] at e2 hc
        have ufr : ∀ f, Sols f S → (l.sub f = r.sub f ↔ f j = u.sub f) := fun f h => by rw [lrf f h]; exact eq_comm
        simp [Tg.putV, Tg.put, Tg.puts, Tg.putF_eq, setAll, Tg.slots, Tg.slotss, wipe, indexV, D.index, atI, ixN, cmpV, deref, asB, asD, asDs, asI, bltV, lenDic, bltD, derefs, D.blt, D.bLen, D.bTuple, D.bList, D.seq, mthV, mthOk, setV, ci_eq, ci_ne, ci_lt, ci_le, ci_gt, ci_ge, cs_eq, cs_ne, cb_eq, cb_ne, D.bin, D.slice, cut, sIx, isNon, gs1, mPop, pd, ss1, e1, e2, hc, e3, gs0 hd, hgl, hput, ss0 hd]
        refine ⟨fun c => ?_, fun c => ?_⟩
        · exact h1 (no hu hu2 hj huv ((Kd.hasB_iff _).mp c) fun f h => (ufr f h).mp) g _ _ rfl
        · have hnh : ¬ (u.sub S).has j := fun q => by rw [(Kd.hasB_iff _).mpr q] at c; cases c
          obtain ⟨⟨m1, m2⟩, hm⟩ := md_bind (st := st) (d := d) cl fs hps hg dp hf hu hu2 hj hv hnh ufr (some (.d (D.tup [D.str "free", D.int j]))) (some (.d u.d))
          exact ⟨m1, m2, hm⟩
  · subst he
    exact h0 g S rk _ _ fs (fun f => by rw [hf f]; simp) rfl
theorem cnt_le (S : Int → Kd) (L : List Kd) : cnt S L ≤ L.length := List.length_filter_le _ _
/-- made_alike, begun with the dict of none -/
theorem made_wp {n : Nat} {pp : Post Val} (ha : a.parts ≤ 20) (hb : b.parts ≤ 20) (hd : st[d]? = some (.dic [])) (hn : 45 ≤ n)
    (h0 : ∀ g S rk, FS (a.subs ++ b.subs) g S rk → (∀ f, a.sub f = b.sub f ↔ Sols f S) → pp.q (.d (.bool true)) (st.set d (.dic (dF g))))
    (h1 : (∀ f, a.sub f ≠ b.sub f) → ∀ g, pp.q (.d (.bool false)) (st.set d (.dic (dF g)))) : @Wp _ (callN T n "made_alike" [.d a.d, .d b.d, .ref d] st) pp := by
  obtain ⟨n, rfl⟩ : ∃ n', n = n' + 1 := ⟨n - 1, by omega⟩
  have hdl : d < st.length := (List.getElem?_eq_some_iff.mp hd).1
  have hst : st = st.set d (.dic (dF [])) := (set_same hd).symm
  have cl : Cl (a.subs ++ b.subs) := a.subs_cl.app b.subs_cl
  have hah := a.h_parts
  have hbh := b.h_parts
  have hcn := cnt_le .free (a.subs ++ b.subs)
  rw [callN_run T_f_made_alike]
  simp [Tg.putV, Tg.put, Tg.puts, Tg.putF_eq, setAll, Tg.slots, Tg.slotss, wipe, indexV, D.index, atI, ixN, cmpV, deref, asB, asD, asDs, asI, bltV, lenDic, bltD, derefs, D.blt, D.bLen, D.bTuple, D.bList, D.seq, mthV, mthOk, setV, ci_eq, ci_ne, ci_lt, ci_le, ci_gt, ci_ge, cs_eq, cs_ne, cb_eq, cb_ne, D.bin, D.slice, cut, sIx, isNon, f_made_alike]
  refine wp_whileW lexN_wf (MdI (a.subs ++ b.subs) a b st d) (fun m σ s i => md_turn cl ?_ ?_ ?_ hdl (by omega) i ?_ ?_) (cnt .free (a.subs ++ b.subs), szs .free [(a, b)]) _ _ ⟨[], .free, fun _ => 0, [(a, b)], none, none, rfl, by rw [← hst]; rfl, rfl, ⟨US.start _, fun _ _ h => (by cases h), fun _ => ⟨fun _ => rfl, fun _ => rfl⟩, fun _ _ h => (by cases h)⟩, fun p hp => ?_, by simpa using hcn, fun i p hp => ?_, fun f => ?_⟩
  · intro u hu
    rcases List.mem_append.mp hu with hu | hu
    · have := a.subs_h u hu; omega
    · have := b.subs_h u hu; omega
  · rw [List.length_append, a.subs_len, b.subs_len]; omega
  · exact List.mem_append_left _ a.subs_self
  · rintro g S rk σ s fs hf rfl
    simp [Tg.putV, Tg.put, Tg.puts, Tg.putF_eq, setAll, Tg.slots, Tg.slotss, wipe, indexV, D.index, atI, ixN, cmpV, deref, asB, asD, asDs, asI, bltV, lenDic, bltD, derefs, D.blt, D.bLen, D.bTuple, D.bList, D.seq, mthV, mthOk, setV, ci_eq, ci_ne, ci_lt, ci_le, ci_gt, ci_ge, cs_eq, cs_ne, cb_eq, cb_ne, D.bin, D.slice, cut, sIx, isNon]
    have := h0 g S rk fs hf
    exact this
  · rintro hf g s c rfl
    simp [Tg.putV, Tg.put, Tg.puts, Tg.putF_eq, setAll, Tg.slots, Tg.slotss, wipe, indexV, D.index, atI, ixN, cmpV, deref, asB, asD, asDs, asI, bltV, lenDic, bltD, derefs, D.blt, D.bLen, D.bTuple, D.bList, D.seq, mthV, mthOk, setV, ci_eq, ci_ne, ci_lt, ci_le, ci_gt, ci_ge, cs_eq, cs_ne, cb_eq, cb_ne, D.bin, D.slice, cut, sIx, isNon]
    exact h1 hf g
  · simp at hp; subst hp
    exact ⟨List.mem_append_left _ a.subs_self, List.mem_append_right _ b.subs_self⟩
  · cases i with
    | zero => simp at hp; subst hp; exact ⟨0, Nat.le_refl _, rfl⟩
    | succ i => simp at hp
  · constructor
    · intro h; exact ⟨fun x => rfl, fun p hp => by simp at hp; subst hp; exact h⟩
    · rintro ⟨_, h⟩; exact h (a, b) (by simp)
end
end Prog

namespace Prog
open Ir
set_option maxHeartbeats 4000000 in
theorem renamed_ok2 {T : Tab} (hT : T "renamed" = some f_renamed) {d : Nat} : ∀ (k : Kd) (n : Nat) (st : Store) (s : List Int), k.h + 1 ≤ n → (k.seen s).length < LIM → st[d]? = some (.dic (dP s)) →
    callN T n "renamed" [.d k.d, .ref d] st = .ok (.d (k.ren s).d) (st.set d (.dic (dP (k.seen s)))) := by
  intro k
  induction k with
  | int =>
    intro n st s hn hl hd
    obtain ⟨n, rfl⟩ : ∃ n', n = n' + 1 := ⟨n - 1, by omega⟩
    rw [callN_run hT]
    simp [runFn, f_renamed, Kd.d, Tg.putV, Tg.put, D.seq, setAll, cmpV, deref, D.cmp, fine, D.dep, D.eqv, asB, asDs, asD, compL, bltV, bltD, derefs, D.blt, D.bTuple, D.bin, LIM, leave, take_all, Kd.ren, Kd.seen, set_same hd]
  | bool =>
    intro n st s hn hl hd
    obtain ⟨n, rfl⟩ : ∃ n', n = n' + 1 := ⟨n - 1, by omega⟩
    rw [callN_run hT]
    simp [runFn, f_renamed, Kd.d, Tg.putV, Tg.put, D.seq, setAll, cmpV, deref, D.cmp, fine, D.dep, D.eqv, asB, asDs, asD, compL, bltV, bltD, derefs, D.blt, D.bTuple, D.bin, LIM, leave, take_all, Kd.ren, Kd.seen, set_same hd]
  | list a ih =>
    intro n st s hn hl hd
    obtain ⟨n, rfl⟩ : ∃ n', n = n' + 1 := ⟨n - 1, by omega⟩
    simp only [Kd.h, Kd.seen] at hn hl
    have e1 := ih n st s (by omega) (by omega) hd
    rw [callN_run hT]
    simp [runFn, f_renamed, Kd.d, Tg.putV, Tg.put, D.seq, setAll, cmpV, deref, D.cmp, fine, D.dep, D.eqv, asB, asDs, asD, compL, compStep, Tg.slots, wipe, e1, bltV, bltD, derefs, D.blt, D.bTuple, D.bin, LIM, leave, take_set, Kd.ren, Kd.seen]
  | fn a b iha ihb =>
    intro n st s hn hl hd
    obtain ⟨n, rfl⟩ : ∃ n', n = n' + 1 := ⟨n - 1, by omega⟩
    simp only [Kd.h, Kd.seen] at hn hl
    have hsl : (a.seen s).length ≤ (b.seen (a.seen s)).length := by obtain ⟨t, e⟩ := b.seen_ext (a.seen s); rw [e]; simp
    have e1 := iha n st s (by omega) (by omega) hd
    have e2 := ihb n _ (a.seen s) (by omega) (by omega) (set_at hd _)
    simp only [List.set_set] at e2
    rw [callN_run hT]
    simp [runFn, f_renamed, Kd.d, Tg.putV, Tg.put, D.seq, setAll, cmpV, deref, D.cmp, fine, D.dep, D.eqv, asB, asDs, asD, compL, compStep, Tg.slots, wipe, e1, e2, bltV, bltD, derefs, D.blt, D.bTuple, D.bin, LIM, leave, take_set, Kd.ren, Kd.seen]
  | pair a b iha ihb =>
    intro n st s hn hl hd
    obtain ⟨n, rfl⟩ : ∃ n', n = n' + 1 := ⟨n - 1, by omega⟩
    simp only [Kd.h, Kd.seen] at hn hl
    have hsl : (a.seen s).length ≤ (b.seen (a.seen s)).length := by obtain ⟨t, e⟩ := b.seen_ext (a.seen s); rw [e]; simp
    have e1 := iha n st s (by omega) (by omega) hd
    have e2 := ihb n _ (a.seen s) (by omega) (by omega) (set_at hd _)
    simp only [List.set_set] at e2
    rw [callN_run hT]
    simp [runFn, f_renamed, Kd.d, Tg.putV, Tg.put, D.seq, setAll, cmpV, deref, D.cmp, fine, D.dep, D.eqv, asB, asDs, asD, compL, compStep, Tg.slots, wipe, e1, e2, bltV, bltD, derefs, D.blt, D.bTuple, D.bin, LIM, leave, take_set, Kd.ren, Kd.seen]
  | free i =>
    intro n st s hn hl hd
    obtain ⟨n, rfl⟩ : ∃ n', n = n' + 1 := ⟨n - 1, by omega⟩
    simp only [Kd.seen] at hl
    have hal : s.length ≤ (addI s i).length := by obtain ⟨t, e⟩ := addI_ext s i; rw [e]; simp
    have hlen : (dP s).length < LIM := by simp only [dP, dG_len]; omega
    have hk := lookK_dG (fun i => .int (ix s i)) i s
    have hlb := len_dic hd
    rw [callN_run hT]
    by_cases hi : i ∈ s
    · rw [if_pos hi] at hk
      have e := setdefault_old (v := .int ((dP s).length : Nat)) hd hlen hk
      simp [runFn, f_renamed, Kd.d, Tg.putV, Tg.put, D.seq, setAll, cmpV, deref, D.cmp, fine, D.dep, D.eqv, asB, asDs, mthOk, hd, indexV, D.index, atI, ixN, hlb, mthV, e, leave, take_all, Kd.ren, Kd.seen, addI, hi, set_same hd]
    · rw [if_neg hi] at hk
      have e := setdefault_new (v := .int ((dP s).length : Nat)) hd hlen hk
      have e3 : putK (dP s) (.int i) (.int ((dP s).length : Nat)) = dP (s ++ [i]) := by
        unfold dP
        rw [putK_dG _ hi, dG_ext hi fun x => .int x, dG_len]
      rw [e3] at e
      have hlen2 : ((dP s).length : Int) = s.length := by simp [dP, dG_len]
      rw [hlen2] at e hlb
      simp [runFn, f_renamed, Kd.d, Tg.putV, Tg.put, D.seq, setAll, cmpV, deref, D.cmp, fine, D.dep, D.eqv, asB, asDs, mthOk, hd, indexV, D.index, atI, ixN, hlb, mthV, e, leave, take_set, Kd.ren, Kd.seen, addI, hi, ix_new hi]
/-! ### how many free ones there are -/
theorem Kd.seen_mem : ∀ (k : Kd) (s : List Int) (x : Int), x ∈ k.seen s → x ∈ s ∨ k.has x
  | .int, s, x, h => .inl h
  | .bool, s, x, h => .inl h
  | .list a, s, x, h => a.seen_mem s x h
  | .fn a b, s, x, h => by
    rcases b.seen_mem _ x h with h | h
    · exact (a.seen_mem s x h).imp id .inl
    · exact .inr (.inr h)
  | .pair a b, s, x, h => by
    rcases b.seen_mem _ x h with h | h
    · exact (a.seen_mem s x h).imp id .inl
    · exact .inr (.inr h)
  | .free i, s, x, h => by
    simp only [Kd.seen, addI] at h
    split at h
    · exact .inl h
    · rcases List.mem_append.mp h with h | h
      · exact .inl h
      · simp at h; exact .inr h.symm
theorem nodup_len : ∀ {l V : List Int}, l.Nodup → (∀ x ∈ l, x ∈ V) → l.length ≤ V.length
  | [], V, _, _ => Nat.zero_le _
  | x :: l, V, h, hs => by
    have hx := hs x (by simp)
    have h' := List.nodup_cons.mp h
    have := nodup_len (V := V.erase x) h'.2 fun y hy => (List.mem_erase_of_ne fun e => h'.1 (by rw [← e]; exact hy)).mpr (hs y (List.mem_cons_of_mem _ hy))
    rw [List.length_erase_of_mem hx] at this
    have : 0 < V.length := List.length_pos_of_mem hx
    simp; omega
theorem Kd.seen_few {k : Kd} {V : List Int} (h : ∀ x, k.has x → x ∈ V) : (k.seen []).length ≤ V.length :=
  nodup_len (k.seen_nodup List.nodup_nil) fun x hx => h x ((k.seen_mem [] x hx).elim (fun h => by cases h) id)
theorem named1_ok {T : Tab} (hT : T "renamed" = some f_renamed) (hN : T "named" = some f_named) {n : Nat} {st : Store} (k : Kd) (hn : k.h + 1 ≤ n) (hl : (k.seen []).length < LIM) :
    callN T (n + 1) "named" [.d (.lst [k.d])] st = .ok (.d (.lst [(k.ren []).d])) st := by
  have e := renamed_ok2 hT (d := st.length) k n (st ++ [.dic (dP [])]) [] hn hl (get_push st _)
  rw [set_push] at e
  have e0 : dP [] = [] := rfl
  rw [e0] at e
  rw [callN_run hN]
  simp [runFn, f_named, Tg.putV, Tg.put, Tg.slots, wipe, asD, D.seq, compL, compStep, e, leave]
end Prog

namespace Prog
open Ir
/-- the numbers of the free ones in a list -/
def frsL : List Kd → List Int
  | [] => []
  | .free i :: L => i :: frsL L
  | _ :: L => frsL L
theorem frsL_mem {i : Int} : ∀ L : List Kd, i ∈ frsL L ↔ .free i ∈ L
  | [] => by simp [frsL]
  | k :: L => by
    have := frsL_mem (i := i) L
    cases k <;> simp [frsL, this]
theorem frsL_len : ∀ L : List Kd, (frsL L).length ≤ L.length
  | [] => by simp [frsL]
  | k :: L => by
    have := frsL_len L
    cases k <;> simp [frsL] <;> omega
set_option maxHeartbeats 4000000 in
theorem alikeP_wp {a b : Kd} {st : Store} {n : Nat} {pp : Post Val} (ha : a.parts ≤ 20) (hb : b.parts ≤ 20) (hn : 46 ≤ n)
    (h0 : ∀ r, MG a b r → r.h ≤ 40 → (r.seen []).length ≤ 40 → pp.q (.d (r.ren []).d) st)
    (h1 : (∀ f, a.sub f ≠ b.sub f) → pp.q (.d .non) st) : @Wp _ (callN T n "alike" [.d a.d, .d b.d] st) pp := by
  obtain ⟨n, rfl⟩ : ∃ n', n = n' + 1 := ⟨n - 1, by omega⟩
  rw [callN_run T_f_alike]
  simp [Tg.putV, Tg.put, Tg.puts, Tg.putF_eq, setAll, Tg.slots, Tg.slotss, wipe, indexV, D.index, atI, ixN, cmpV, deref, asB, asD, asDs, asI, bltV, lenDic, bltD, derefs, D.blt, D.bLen, D.bTuple, D.bList, D.seq, mthV, mthOk, setV, ci_eq, ci_ne, ci_lt, ci_le, ci_gt, ci_ge, cs_eq, cs_ne, cb_eq, cb_ne, D.bin, D.slice, cut, sIx, isNon, f_alike]
  refine made_wp ha hb (get_push st _) (by omega) (fun g S rk fs hf => ?_) (fun hf g => ?_)
  · rw [set_push]
    have cl : Cl (a.subs ++ b.subs) := a.subs_cl.app b.subs_cl
    have hL : (a.subs ++ b.subs).length ≤ 40 := by rw [List.length_append, a.subs_len, b.subs_len]; omega
    have haL : a ∈ a.subs ++ b.subs := List.mem_append_left _ a.subs_self
    have hh := fs.us.h_le cl haL
    have e1 := filled_ok fs cl (get_push st (.dic (dF g))) n a haL (by omega)
    have hfew : ((a.sub S).seen []).length ≤ 40 := by
      have := Kd.seen_few (k := a.sub S) (V := frsL (a.subs ++ b.subs)) fun x hx => (frsL_mem _).mpr (fs.us.varsK cl haL hx)
      have := frsL_len (a.subs ++ b.subs)
      omega
    obtain ⟨n, rfl⟩ : ∃ n', n = n' + 1 := ⟨n - 1, by omega⟩
    have e2 := named1_ok T_f_renamed T_f_named (n := n) (st := st ++ [.dic (dF g)]) (a.sub S) (by omega) (by simp only [LIM]; omega)
    have hS : Sols S S := fs.us.idem
    have mg : MG a b (a.sub S) := ⟨⟨S, rfl, ((hf S).mpr hS).symm⟩, fun f e => ⟨f, ((hf f).mp e).k a⟩⟩
    simp [Tg.putV, Tg.put, Tg.puts, Tg.putF_eq, setAll, Tg.slots, Tg.slotss, wipe, indexV, D.index, atI, ixN, cmpV, deref, asB, asD, asDs, asI, bltV, lenDic, bltD, derefs, D.blt, D.bLen, D.bTuple, D.bList, D.seq, mthV, mthOk, setV, ci_eq, ci_ne, ci_lt, ci_le, ci_gt, ci_ge, cs_eq, cs_ne, cb_eq, cb_ne, D.bin, D.slice, cut, sIx, isNon, e1, e2]
    exact h0 _ mg (by omega) hfew
  · rw [set_push]
    simp [Tg.putV, Tg.put, Tg.puts, Tg.putF_eq, setAll, Tg.slots, Tg.slotss, wipe, indexV, D.index, atI, ixN, cmpV, deref, asB, asD, asDs, asI, bltV, lenDic, bltD, derefs, D.blt, D.bLen, D.bTuple, D.bList, D.seq, mthV, mthOk, setV, ci_eq, ci_ne, ci_lt, ci_le, ci_gt, ci_ge, cs_eq, cs_ne, cb_eq, cb_ne, D.bin, D.slice, cut, sIx, isNon]
    exact h1 hf
end Prog

namespace Prog
open Ir
theorem Kd.map_sub (φ : Int → Int) (f : Int → Kd) (k : Kd) : (k.map φ).sub f = k.sub (fun i => f (φ i)) := by
  rw [← Kd.sub_map, Kd.sub_sub]; rfl
theorem Kd.sub_map2 (φ : Int → Int) (f : Int → Kd) (k : Kd) : (k.sub f).map φ = k.sub (fun i => (f i).map φ) := by
  rw [← Kd.sub_map, Kd.sub_sub]
  exact k.sub_congr fun i _ => Kd.sub_map φ (f i)
theorem MG.renum {a b r : Kd} {φ ψ : Int → Int} (inv : ∀ i, ψ (φ i) = i) (h : MG a b r) : MG (a.map φ) (b.map φ) (r.map φ) := by
  obtain ⟨f, e1, e2⟩ := h.ex
  refine ⟨⟨fun j => (f (ψ j)).map φ, ?_, ?_⟩, fun f' e => ?_⟩
  · rw [Kd.map_sub, ← e1, Kd.sub_map2]; simp only [inv]
  · rw [Kd.map_sub, ← e2, Kd.sub_map2]; simp only [inv]
  · rw [Kd.map_sub, Kd.map_sub] at e
    obtain ⟨g, eg⟩ := h.least _ e
    refine ⟨fun j => g (ψ j), ?_⟩
    rw [Kd.map_sub, Kd.map_sub, ← eg]
    simp only [inv]
theorem unif_renum {a b : Kd} {φ ψ : Int → Int} (inv : ∀ i, ψ (φ i) = i) : (∀ f, a.sub f ≠ b.sub f) ↔ ∀ f, (a.map φ).sub f ≠ (b.map φ).sub f := by
  constructor
  · intro h f e
    rw [Kd.map_sub, Kd.map_sub] at e
    exact h _ e
  · intro h f e
    refine h (fun j => f (ψ j)) ?_
    rw [Kd.map_sub, Kd.map_sub]
    simpa only [inv] using e
theorem Kd.ren_sub (k : Kd) : ∃ f, k.sub f = k.ren [] := ⟨fun i => .free (ix (k.seen []) i), by rw [Kd.sub_map, k.ren_eq]⟩
theorem ix_get : ∀ {s : List Int} {i : Int}, i ∈ s → s[(ix s i).toNat]? = some i
  | [], i, h => by cases h
  | x :: s, i, h => by
    unfold ix
    simp only [List.idxOf_cons]
    by_cases e : x = i
    · subst e; simp
    · have h1 : (x == i) = false := by simpa using e
      have hm : i ∈ s := by
        rcases List.mem_cons.mp h with q | q
        · exact absurd q.symm e
        · exact q
      have := ix_get hm
      unfold ix at this
      simp only [h1, cond_false]
      rw [show ((s.idxOf i + 1 : Nat) : Int).toNat = s.idxOf i + 1 by omega]
      rw [Int.toNat_natCast] at this
      simpa using this
theorem Kd.ren_back (k : Kd) : ∃ f, (k.ren []).sub f = k := by
  refine ⟨fun j => .free ((k.seen [])[j.toNat]?.getD 0), ?_⟩
  rw [k.ren_eq, Kd.map_sub]
  have := k.sub_congr (f := fun i => .free ((k.seen [])[(ix (k.seen []) i).toNat]?.getD 0)) (g := .free) fun i hi => by rw [ix_get (k.seen_has [] i hi)]; rfl
  rw [this, k.sub_free]
theorem Kd.ren_ren (k : Kd) : (k.ren []).ren [] = k.ren [] := by
  obtain ⟨f, e1⟩ := k.ren_sub
  obtain ⟨g, e2⟩ := k.ren_back
  exact back_ren e1 e2
theorem MG.self (a : Kd) : MG a a a := ⟨⟨.free, a.sub_free, a.sub_free⟩, fun f _ => ⟨f, rfl⟩⟩
theorem Kd.map_h (φ : Int → Int) (k : Kd) : (k.map φ).h = k.h := by induction k <;> simp_all [Kd.map, Kd.h]
theorem Kd.ren_h (k : Kd) : (k.ren []).h = k.h := by rw [k.ren_eq, Kd.map_h]
theorem Kd.ren_has {k : Kd} {j : Int} (h : (k.ren []).has j) : ∃ m : Nat, m < (k.seen []).length ∧ j = m := by
  rw [k.ren_eq, ← Kd.sub_map, Kd.has_sub] at h
  obtain ⟨i, h1, h2⟩ := h
  have h2 : ix (k.seen []) i = j := h2
  have := k.seen_has [] i h1
  refine ⟨(k.seen []).idxOf i, List.idxOf_lt_length_of_mem this, ?_⟩
  rw [← h2]; rfl
/-- the numbers below a bound -/
def lowI (m : Nat) : List Int := (List.range m).map fun i : Nat => (i : Int)
theorem lowI_len (m : Nat) : (lowI m).length = m := by simp [lowI]
theorem Kd.ren_low {k : Kd} {j : Int} (h : (k.ren []).has j) : j ∈ lowI (k.seen []).length := by
  obtain ⟨m, hm, rfl⟩ := k.ren_has h
  exact List.mem_map.mpr ⟨m, List.mem_range.mpr hm, rfl⟩
end Prog

namespace Prog
open Ir
set_option maxHeartbeats 2000000 in
theorem alike_tup {T : Tab} (hT : T "_law_alike" = some f_law_alike) {n : Nat} {st : Store} {xs : List D} (hl : xs.length ≤ LIM) (h : ∀ x ∈ xs, callN T n "_law_alike" [.d x, .d x] st = .ok (.d (.bool true)) st) :
    callN T (n + 1) "_law_alike" [.d (.tup xs), .d (.tup xs)] st = .ok (.d (.bool true)) st := by
  have ec := comp_const (f := compStep (eval (callN T n) (.call "_law_alike" [.idx (.var 0) (.var 2), .idx (.var 1) (.var 2)])) (conds (callN T n) []) (.name 2) [some (.d (.tup xs)), some (.d (.tup xs)), none]) (st := st) (fun i : Nat => D.int i) (fun _ => D.bool true) (List.range xs.length) (fun i hi => by
    have hi := List.mem_range.mp hi
    simp [compStep, Tg.put, indexV, D.index, atI_of hi, h _ (List.getElem_mem hi), asD])
  rw [callN_run hT]
  simp [runFn, f_law_alike, deref, D.tyOk, asB, cmpV, D.cmp, fine, D.dep, D.eqv, bltV, lenDic, bltD, derefs, D.blt, D.bLen, bRange_nat hl, asD, D.seq, Tg.slots, wipe, range_nat, ec, all_true, leave, take_all]
set_option maxHeartbeats 2000000 in
theorem alike_ref {T : Tab} (hT : T "_law_alike" = some f_law_alike) {n : Nat} {st : Store} {B : Nat} {xs : List D} (hB : st[B]? = some (.lst xs)) (hl : xs.length ≤ LIM) (h : ∀ x ∈ xs, callN T n "_law_alike" [.d x, .d x] st = .ok (.d (.bool true)) st) :
    callN T (n + 1) "_law_alike" [.ref B, .d (.lst xs)] st = .ok (.d (.bool true)) st := by
  have ec := comp_const (f := compStep (eval (callN T n) (.call "_law_alike" [.idx (.var 0) (.var 2), .idx (.var 1) (.var 2)])) (conds (callN T n) []) (.name 2) [some (.ref B), some (.d (.lst xs)), none]) (st := st) (fun i : Nat => D.int i) (fun _ => D.bool true) (List.range xs.length) (fun i hi => by
    have hi := List.mem_range.mp hi
    simp [compStep, Tg.put, indexV, hB, D.index, atI_of hi, h _ (List.getElem_mem hi), asD])
  rw [callN_run hT]
  simp [runFn, f_law_alike, deref, hB, D.tyOk, asB, cmpV, D.cmp, fine, D.dep, D.eqv, bltV, lenDic, bltD, derefs, D.blt, D.bLen, bRange_nat hl, asD, D.seq, Tg.slots, wipe, range_nat, ec, all_true, leave, take_all]
theorem alike_str {T : Tab} (hT : T "_law_alike" = some f_law_alike) {n : Nat} {st : Store} {x : String} : callN T (n + 1) "_law_alike" [.d (.str x), .d (.str x)] st = .ok (.d (.bool true)) st := by
  rw [callN_run hT]
  simp [runFn, f_law_alike, deref, D.tyOk, asB, cmpV, D.cmp, fine, D.dep, D.eqv, leave, take_all]
theorem alike_int {T : Tab} (hT : T "_law_alike" = some f_law_alike) {n : Nat} {st : Store} {x : Int} : callN T (n + 1) "_law_alike" [.d (.int x), .d (.int x)] st = .ok (.d (.bool true)) st := by
  rw [callN_run hT]
  simp [runFn, f_law_alike, deref, D.tyOk, asB, cmpV, D.cmp, fine, D.dep, D.eqv, leave, take_all]
theorem alike_kd {T : Tab} (hT : T "_law_alike" = some f_law_alike) {st : Store} : ∀ (k : Kd) (n : Nat), k.h + 2 ≤ n → callN T n "_law_alike" [.d k.d, .d k.d] st = .ok (.d (.bool true)) st := by
  intro k
  induction k with
  | int =>
    intro n hn
    obtain ⟨n, rfl⟩ : ∃ n', n = n' + 2 := ⟨n - 2, by omega⟩
    exact alike_tup hT (by simp [LIM]) (by intro x hx; simp at hx; subst hx; exact alike_str hT)
  | bool =>
    intro n hn
    obtain ⟨n, rfl⟩ : ∃ n', n = n' + 2 := ⟨n - 2, by omega⟩
    exact alike_tup hT (by simp [LIM]) (by intro x hx; simp at hx; subst hx; exact alike_str hT)
  | free i =>
    intro n hn
    obtain ⟨n, rfl⟩ : ∃ n', n = n' + 2 := ⟨n - 2, by omega⟩
    exact alike_tup hT (by simp [LIM]) (by intro x hx; simp at hx; rcases hx with rfl | rfl; exact alike_str hT; exact alike_int hT)
  | list a ih =>
    intro n hn
    simp only [Kd.h] at hn
    obtain ⟨n, rfl⟩ : ∃ n', n = n' + 2 := ⟨n - 2, by omega⟩
    exact alike_tup hT (by simp [LIM]) (by intro x hx; simp at hx; rcases hx with rfl | rfl; exact alike_str hT; exact ih _ (by omega))
  | fn a b iha ihb =>
    intro n hn
    simp only [Kd.h] at hn
    obtain ⟨n, rfl⟩ : ∃ n', n = n' + 2 := ⟨n - 2, by omega⟩
    exact alike_tup hT (by simp [LIM]) (by intro x hx; simp at hx; rcases hx with rfl | rfl | rfl; exact alike_str hT; exact iha _ (by omega); exact ihb _ (by omega))
  | pair a b iha ihb =>
    intro n hn
    simp only [Kd.h] at hn
    obtain ⟨n, rfl⟩ : ∃ n', n = n' + 2 := ⟨n - 2, by omega⟩
    exact alike_tup hT (by simp [LIM]) (by intro x hx; simp at hx; rcases hx with rfl | rfl | rfl; exact alike_str hT; exact iha _ (by omega); exact ihb _ (by omega))
end Prog

namespace Prog
open Ir
mutual
/-- data that may be asked for likeness -/
def okA : D → Prop
  | .non => True
  | .bool _ => True
  | .int _ => True
  | .str _ => True
  | .tup xs => xs.length ≤ LIM ∧ okAs xs
  | .lst xs => xs.length ≤ LIM ∧ okAs xs
  | .ro _ => False
def okAs : List D → Prop
  | [] => True
  | x :: xs => okA x ∧ okAs xs
end
theorem okAs_iff : ∀ xs : List D, okAs xs ↔ ∀ x ∈ xs, okA x
  | [] => by simp [okAs]
  | x :: xs => by simp [okAs, okAs_iff xs]
set_option maxHeartbeats 2000000 in
theorem alike_lst {n : Nat} {st : Store} {xs : List D} (hl : xs.length ≤ LIM) (h : ∀ x ∈ xs, callN T n "_law_alike" [.d x, .d x] st = .ok (.d (.bool true)) st) :
    callN T (n + 1) "_law_alike" [.d (.lst xs), .d (.lst xs)] st = .ok (.d (.bool true)) st := by
  have ec := comp_const (f := compStep (eval (callN T n) (.call "_law_alike" [.idx (.var 0) (.var 2), .idx (.var 1) (.var 2)])) (conds (callN T n) []) (.name 2) [some (.d (.lst xs)), some (.d (.lst xs)), none]) (st := st) (fun i : Nat => D.int i) (fun _ => D.bool true) (List.range xs.length) (fun i hi => by
    have hi := List.mem_range.mp hi
    simp [compStep, Tg.put, indexV, D.index, atI_of hi, h _ (List.getElem_mem hi), asD])
  rw [callN_run T_f_law_alike]
  simp [runFn, f_law_alike, deref, D.tyOk, asB, cmpV, D.cmp, fine, D.dep, D.eqv, bltV, lenDic, bltD, derefs, D.blt, D.bLen, bRange_nat hl, asD, D.seq, Tg.slots, wipe, range_nat, ec, all_true, leave, take_all]
theorem alike_bool {n : Nat} {st : Store} {x : Bool} : callN T (n + 1) "_law_alike" [.d (.bool x), .d (.bool x)] st = .ok (.d (.bool true)) st := by
  rw [callN_run T_f_law_alike]
  simp [runFn, f_law_alike, deref, D.tyOk, asB, cmpV, D.cmp, fine, D.dep, D.eqv, leave, take_all]
theorem alike_non {n : Nat} {st : Store} : callN T (n + 1) "_law_alike" [.d .non, .d .non] st = .ok (.d (.bool true)) st := by
  rw [callN_run T_f_law_alike]
  simp [runFn, f_law_alike, deref, D.tyOk, asB, cmpV, D.cmp, fine, D.dep, D.eqv, leave, take_all]
mutual
theorem alike_same {st : Store} : ∀ (x : D), okA x → ∀ n, x.dep + 1 ≤ n → callN T n "_law_alike" [.d x, .d x] st = .ok (.d (.bool true)) st
  | .non, _, n, hn => by
    obtain ⟨n, rfl⟩ : ∃ n', n = n' + 1 := ⟨n - 1, by omega⟩
    exact alike_non
  | .bool b, _, n, hn => by
    obtain ⟨n, rfl⟩ : ∃ n', n = n' + 1 := ⟨n - 1, by omega⟩
    exact alike_bool
  | .int i, _, n, hn => by
    obtain ⟨n, rfl⟩ : ∃ n', n = n' + 1 := ⟨n - 1, by omega⟩
    exact alike_int T_f_law_alike
  | .str s, _, n, hn => by
    obtain ⟨n, rfl⟩ : ∃ n', n = n' + 1 := ⟨n - 1, by omega⟩
    exact alike_str T_f_law_alike
  | .tup xs, h, n, hn => by
    obtain ⟨n, rfl⟩ : ∃ n', n = n' + 1 := ⟨n - 1, by omega⟩
    simp only [D.dep] at hn
    simp only [okA] at h
    exact alike_tup T_f_law_alike h.1 (alike_sames xs h.2 n (by omega))
  | .lst xs, h, n, hn => by
    obtain ⟨n, rfl⟩ : ∃ n', n = n' + 1 := ⟨n - 1, by omega⟩
    simp only [D.dep] at hn
    simp only [okA] at h
    exact alike_lst h.1 (alike_sames xs h.2 n (by omega))
  | .ro xs, h, n, hn => by simp [okA] at h
theorem alike_sames {st : Store} : ∀ (xs : List D), okAs xs → ∀ n, D.depAll xs + 1 ≤ n → ∀ x ∈ xs, callN T n "_law_alike" [.d x, .d x] st = .ok (.d (.bool true)) st
  | [], _, n, hn, x, hx => by cases hx
  | y :: ys, h, n, hn, x, hx => by
    simp only [D.depAll] at hn
    simp only [okAs] at h
    rcases List.mem_cons.mp hx with e | hx
    · rw [e]; exact alike_same y h.1 n (by omega)
    · exact alike_sames ys h.2 n (by omega) x hx
end
theorem okA_kd (k : Kd) : okA k.d := by induction k <;> simp_all [Kd.d, okA, okAs, LIM]
end Prog

namespace Prog
open Ir
/-- what alike tells: a kind, named, or None -/
structure Told (a b : Kd) (v : D) : Prop where
  ex : (∃ r, v = (Kd.ren r []).d ∧ MG a b r ∧ r.h ≤ 40 ∧ (r.seen []).length ≤ 40) ∨ (v = .non ∧ ∀ f, a.sub f ≠ b.sub f)
theorem alike_told {a b : Kd} {st : Store} {n : Nat} {pp : Post Val} (ha : a.parts ≤ 20) (hb : b.parts ≤ 20) (hn : 46 ≤ n) (k : ∀ v, Told a b v → pp.q (.d v) st) : @Wp _ (callN T n "alike" [.d a.d, .d b.d] st) pp :=
  alikeP_wp ha hb hn (fun r h1 h2 h3 => k _ ⟨.inl ⟨r, rfl, h1, h2, h3⟩⟩) fun h => k _ ⟨.inr ⟨rfl, h⟩⟩
theorem MG.unif {a b r : Kd} (h : MG a b r) : ∃ f, a.sub f = b.sub f := by
  obtain ⟨f, e1, e2⟩ := h.ex
  exact ⟨f, e1.trans e2.symm⟩
theorem MG.symm {a b r : Kd} (h : MG a b r) : MG b a r := by
  obtain ⟨f, e1, e2⟩ := h.ex
  exact ⟨⟨f, e2, e1⟩, fun f e => by obtain ⟨g, q⟩ := h.least f e.symm; exact ⟨g, q.trans e.symm⟩⟩
theorem Told.symm {a b : Kd} {v : D} (h : Told a b v) : Told b a v := by
  rcases h.ex with ⟨r, e, mg, h1, h2⟩ | ⟨e, no⟩
  · exact ⟨.inl ⟨r, e, mg.symm, h1, h2⟩⟩
  · exact ⟨.inr ⟨e, fun f q => no f q.symm⟩⟩
theorem Told.of {a b r : Kd} {v : D} (h : Told a b v) (mg : MG a b r) : v = (r.ren []).d := by
  rcases h.ex with ⟨r', e, mg', h1, h2⟩ | ⟨e, no⟩
  · rw [e, mg.named mg']
  · obtain ⟨f, e⟩ := mg.unif
    exact absurd e (no f)
theorem Told.none {a b : Kd} {v : D} (h : Told a b v) (no : ∀ f, a.sub f ≠ b.sub f) : v = .non := by
  rcases h.ex with ⟨r', e, mg', h1, h2⟩ | ⟨e, _⟩
  · obtain ⟨f, e⟩ := mg'.unif
    exact absurd e (no f)
  · exact e
end Prog

namespace Prog
open Ir
theorem comp_filter {C : Calls} {σ : Env} {found : List Int} {st : Store} (h3 : ∀ x : D, (σ.set 3 (some (.d x)))[3]? = some (some (.d x))) (h1 : σ[1]? = some (some (.d (.lst (found.map .int))))) : ∀ l : List Int,
    compL (compStep (eval C (.var 3)) (conds C [.cmp .notin (.var 3) (.var 1)]) (.name 3) σ) (l.map .int) st = .ok ((l.filter fun i => decide (i ∉ found)).map .int) st
  | [] => by simp [compL]
  | i :: l => by
    have ih := comp_filter (C := C) (st := st) h3 h1 l
    have h31 : ∀ x : D, (σ.set 3 (some (.d x)))[1]? = some (some (.d (.lst (found.map .int)))) := fun x => by rw [List.getElem?_set_ne (by decide)]; exact h1
    have hm : D.mem (.int i) (.lst (found.map .int)) = some (decide (i ∈ found)) := by
      simp only [D.mem, fine_intlist]
      have ha := any_ints found i
      simpa [fine, D.dep] using ha
    by_cases c : i ∈ found
    · simp [compL, compStep, Tg.put, h3, h31, cmpV, inB, hm, c, asB, asD, ih]
    · simp [compL, compStep, Tg.put, h3, h31, cmpV, inB, hm, c, asB, asD, ih]
set_option maxHeartbeats 4000000 in
theorem frees_ok {T : Tab} (hT : T "_law_frees" = some f_law_frees) {st : Store} : ∀ (k : Kd) (n : Nat), k.h + 1 ≤ n → k.parts < LIM → callN T n "_law_frees" [.d k.d] st = .ok (.d (.lst (k.fr.map .int))) st := by
  intro k
  induction k with
  | int =>
    intro n hn hl
    obtain ⟨n, rfl⟩ : ∃ n', n = n' + 1 := ⟨n - 1, by omega⟩
    rw [callN_run hT]
    simp [runFn, f_law_frees, Kd.d, indexV, D.index, atI, ixN, cmpV, deref, D.cmp, fine, D.dep, D.eqv, asB, asDs, asI, Tg.putV, D.slice, cut, sIx, asD, D.seq, loopL, leave, take_all, Kd.fr]
  | bool =>
    intro n hn hl
    obtain ⟨n, rfl⟩ : ∃ n', n = n' + 1 := ⟨n - 1, by omega⟩
    rw [callN_run hT]
    simp [runFn, f_law_frees, Kd.d, indexV, D.index, atI, ixN, cmpV, deref, D.cmp, fine, D.dep, D.eqv, asB, asDs, asI, Tg.putV, D.slice, cut, sIx, asD, D.seq, loopL, leave, take_all, Kd.fr]
  | free i =>
    intro n hn hl
    obtain ⟨n, rfl⟩ : ∃ n', n = n' + 1 := ⟨n - 1, by omega⟩
    rw [callN_run hT]
    simp [runFn, f_law_frees, Kd.d, indexV, D.index, atI, ixN, cmpV, deref, D.cmp, fine, D.dep, D.eqv, asB, asDs, asI, leave, take_all, Kd.fr]
  | list a ih =>
    intro n hn hl
    obtain ⟨n, rfl⟩ : ∃ n', n = n' + 1 := ⟨n - 1, by omega⟩
    simp only [Kd.h, Kd.parts] at hn hl
    have e1 := ih n (by omega) (by omega)
    have f1 := comp_filter (C := callN T n) (st := st) (found := []) (σ := [some (.d (.tup [.str "list", a.d])), some (.d (.lst [])), some (.d a.d), none]) (fun x => rfl) rfl a.fr
    have hfl := a.fr_len
    have hlim : a.fr.length ≤ LIM := by omega
    have hnil : (a.fr.filter fun i => decide (i ∉ ([] : List Int))) = a.fr := by simp
    rw [hnil] at f1
    rw [callN_run hT]
    simp [runFn, f_law_frees, Kd.d, indexV, D.index, atI, ixN, cmpV, deref, D.cmp, fine, D.dep, D.eqv, asB, asDs, asI, Tg.putV, D.slice, cut, sIx, asD, D.seq, loopL, Tg.putF_eq, Tg.put, e1, Tg.slots, wipe, f1, D.bin, hlim, leave, take_all, Kd.fr]
  | fn a b iha ihb =>
    intro n hn hl
    obtain ⟨n, rfl⟩ : ∃ n', n = n' + 1 := ⟨n - 1, by omega⟩
    simp only [Kd.h, Kd.parts] at hn hl
    have e1 := iha n (by omega) (by omega)
    have e2 := ihb n (by omega) (by omega)
    have f1 := comp_filter (C := callN T n) (st := st) (found := []) (σ := [some (.d (.tup [.str "fn", a.d, b.d])), some (.d (.lst [])), some (.d a.d), none]) (fun x => rfl) rfl a.fr
    have f2 := comp_filter (C := callN T n) (st := st) (found := a.fr) (σ := [some (.d (.tup [.str "fn", a.d, b.d])), some (.d (.lst (a.fr.map .int))), some (.d b.d), none]) (fun x => rfl) rfl b.fr
    have hfl := a.fr_len
    have hfl2 := b.fr_len
    have hff := List.length_filter_le (fun i => decide (i ∉ a.fr)) b.fr
    have hlim : a.fr.length ≤ LIM := by omega
    have hlim2 : a.fr.length + (b.fr.filter fun i => decide (i ∉ a.fr)).length ≤ LIM := by omega
    have hnil : (a.fr.filter fun i => decide (i ∉ ([] : List Int))) = a.fr := by simp
    rw [hnil] at f1
    generalize hF : (b.fr.filter fun i => decide (i ∉ a.fr)) = F at f2 hlim2
    rw [callN_run hT]
    simp [runFn, f_law_frees, Kd.d, indexV, D.index, atI, ixN, cmpV, deref, D.cmp, fine, D.dep, D.eqv, asB, asDs, asI, Tg.putV, D.slice, cut, sIx, asD, D.seq, loopL, Tg.putF_eq, Tg.put, e1, e2, Tg.slots, wipe, f1, f2, D.bin, hlim, hlim2, leave, take_all, Kd.fr]
    rw [← hF]; simp
  | pair a b iha ihb =>
    intro n hn hl
    obtain ⟨n, rfl⟩ : ∃ n', n = n' + 1 := ⟨n - 1, by omega⟩
    simp only [Kd.h, Kd.parts] at hn hl
    have e1 := iha n (by omega) (by omega)
    have e2 := ihb n (by omega) (by omega)
    have f1 := comp_filter (C := callN T n) (st := st) (found := []) (σ := [some (.d (.tup [.str "pair", a.d, b.d])), some (.d (.lst [])), some (.d a.d), none]) (fun x => rfl) rfl a.fr
    have f2 := comp_filter (C := callN T n) (st := st) (found := a.fr) (σ := [some (.d (.tup [.str "pair", a.d, b.d])), some (.d (.lst (a.fr.map .int))), some (.d b.d), none]) (fun x => rfl) rfl b.fr
    have hfl := a.fr_len
    have hfl2 := b.fr_len
    have hff := List.length_filter_le (fun i => decide (i ∉ a.fr)) b.fr
    have hlim : a.fr.length ≤ LIM := by omega
    have hlim2 : a.fr.length + (b.fr.filter fun i => decide (i ∉ a.fr)).length ≤ LIM := by omega
    have hnil : (a.fr.filter fun i => decide (i ∉ ([] : List Int))) = a.fr := by simp
    rw [hnil] at f1
    generalize hF : (b.fr.filter fun i => decide (i ∉ a.fr)) = F at f2 hlim2
    rw [callN_run hT]
    simp [runFn, f_law_frees, Kd.d, indexV, D.index, atI, ixN, cmpV, deref, D.cmp, fine, D.dep, D.eqv, asB, asDs, asI, Tg.putV, D.slice, cut, sIx, asD, D.seq, loopL, Tg.putF_eq, Tg.put, e1, e2, Tg.slots, wipe, f1, f2, D.bin, hlim, hlim2, leave, take_all, Kd.fr]
    rw [← hF]; simp
end Prog

namespace Prog
open Ir
theorem Kd.fr_mem {i : Int} : ∀ k : Kd, i ∈ k.fr ↔ k.has i
  | .int => by simp [Kd.fr, Kd.has]
  | .bool => by simp [Kd.fr, Kd.has]
  | .list a => a.fr_mem
  | .fn a b => by
    simp only [Kd.fr, Kd.has, List.mem_append, List.mem_filter, decide_eq_true_eq, a.fr_mem, b.fr_mem]
    by_cases c : a.has i <;> simp [c]
  | .pair a b => by
    simp only [Kd.fr, Kd.has, List.mem_append, List.mem_filter, decide_eq_true_eq, a.fr_mem, b.fr_mem]
    by_cases c : a.has i <;> simp [c]
  | .free j => by simp [Kd.fr, Kd.has, eq_comm]
theorem Kd.fr_nodup : ∀ k : Kd, k.fr.Nodup
  | .int => by simp [Kd.fr]
  | .bool => by simp [Kd.fr]
  | .list a => a.fr_nodup
  | .fn a b => by
    simp only [Kd.fr]
    refine List.nodup_append.mpr ⟨a.fr_nodup, b.fr_nodup.filter _, fun x hx y hy e => ?_⟩
    subst e
    have := (List.mem_filter.mp hy).2
    simp at this
    exact this hx
  | .pair a b => by
    simp only [Kd.fr]
    refine List.nodup_append.mpr ⟨a.fr_nodup, b.fr_nodup.filter _, fun x hx y hy e => ?_⟩
    subst e
    have := (List.mem_filter.mp hy).2
    simp at this
    exact this hx
  | .free j => by simp [Kd.fr]
set_option maxHeartbeats 4000000 in
theorem frees_ok2 {T : Tab} (hT : T "_law_frees" = some f_law_frees) {st : Store} : ∀ (k : Kd) (n : Nat), k.h + 1 ≤ n → k.fr.length ≤ 1000 → callN T n "_law_frees" [.d k.d] st = .ok (.d (.lst (k.fr.map .int))) st := by
  intro k
  induction k with
  | int =>
    intro n hn hl
    obtain ⟨n, rfl⟩ : ∃ n', n = n' + 1 := ⟨n - 1, by omega⟩
    rw [callN_run hT]
    simp [runFn, f_law_frees, Kd.d, indexV, D.index, atI, ixN, cmpV, deref, D.cmp, fine, D.dep, D.eqv, asB, asDs, asI, Tg.putV, D.slice, cut, sIx, asD, D.seq, loopL, leave, take_all, Kd.fr]
  | bool =>
    intro n hn hl
    obtain ⟨n, rfl⟩ : ∃ n', n = n' + 1 := ⟨n - 1, by omega⟩
    rw [callN_run hT]
    simp [runFn, f_law_frees, Kd.d, indexV, D.index, atI, ixN, cmpV, deref, D.cmp, fine, D.dep, D.eqv, asB, asDs, asI, Tg.putV, D.slice, cut, sIx, asD, D.seq, loopL, leave, take_all, Kd.fr]
  | free i =>
    intro n hn hl
    obtain ⟨n, rfl⟩ : ∃ n', n = n' + 1 := ⟨n - 1, by omega⟩
    rw [callN_run hT]
    simp [runFn, f_law_frees, Kd.d, indexV, D.index, atI, ixN, cmpV, deref, D.cmp, fine, D.dep, D.eqv, asB, asDs, asI, leave, take_all, Kd.fr]
  | list a ih =>
    intro n hn hl
    have hla : a.fr.length ≤ 1000 := hl
    obtain ⟨n, rfl⟩ : ∃ n', n = n' + 1 := ⟨n - 1, by omega⟩
    simp only [Kd.h] at hn
    have hL : 1000 + 1000 ≤ LIM := by decide
    have e1 := ih n (by omega) (by omega)
    have f1 := comp_filter (C := callN T n) (st := st) (found := []) (σ := [some (.d (.tup [.str "list", a.d])), some (.d (.lst [])), some (.d a.d), none]) (fun x => rfl) rfl a.fr
    have hlim : a.fr.length ≤ LIM := by omega
    have hnil : (a.fr.filter fun i => decide (i ∉ ([] : List Int))) = a.fr := by simp
    rw [hnil] at f1
    rw [callN_run hT]
    simp [runFn, f_law_frees, Kd.d, indexV, D.index, atI, ixN, cmpV, deref, D.cmp, fine, D.dep, D.eqv, asB, asDs, asI, Tg.putV, D.slice, cut, sIx, asD, D.seq, loopL, Tg.putF_eq, Tg.put, e1, Tg.slots, wipe, f1, D.bin, hlim, leave, take_all, Kd.fr]
  | fn a b iha ihb =>
    intro n hn hl
    have hla : a.fr.length ≤ 1000 := Nat.le_trans (nodup_len a.fr_nodup fun x hx => (Kd.fr_mem (.fn a b)).mpr (.inl ((Kd.fr_mem a).mp hx))) hl
    have hlb : b.fr.length ≤ 1000 := Nat.le_trans (nodup_len b.fr_nodup fun x hx => (Kd.fr_mem (.fn a b)).mpr (.inr ((Kd.fr_mem b).mp hx))) hl
    obtain ⟨n, rfl⟩ : ∃ n', n = n' + 1 := ⟨n - 1, by omega⟩
    simp only [Kd.h] at hn
    have hL : 1000 + 1000 ≤ LIM := by decide
    have e1 := iha n (by omega) (by omega)
    have e2 := ihb n (by omega) (by omega)
    have f1 := comp_filter (C := callN T n) (st := st) (found := []) (σ := [some (.d (.tup [.str "fn", a.d, b.d])), some (.d (.lst [])), some (.d a.d), none]) (fun x => rfl) rfl a.fr
    have f2 := comp_filter (C := callN T n) (st := st) (found := a.fr) (σ := [some (.d (.tup [.str "fn", a.d, b.d])), some (.d (.lst (a.fr.map .int))), some (.d b.d), none]) (fun x => rfl) rfl b.fr
    have hff := List.length_filter_le (fun i => decide (i ∉ a.fr)) b.fr
    have hlim : a.fr.length ≤ LIM := by omega
    have hlim2 : a.fr.length + (b.fr.filter fun i => decide (i ∉ a.fr)).length ≤ LIM := by omega
    have hnil : (a.fr.filter fun i => decide (i ∉ ([] : List Int))) = a.fr := by simp
    rw [hnil] at f1
    generalize hF : (b.fr.filter fun i => decide (i ∉ a.fr)) = F at f2 hlim2
    rw [callN_run hT]
    simp [runFn, f_law_frees, Kd.d, indexV, D.index, atI, ixN, cmpV, deref, D.cmp, fine, D.dep, D.eqv, asB, asDs, asI, Tg.putV, D.slice, cut, sIx, asD, D.seq, loopL, Tg.putF_eq, Tg.put, e1, e2, Tg.slots, wipe, f1, f2, D.bin, hlim, hlim2, leave, take_all, Kd.fr]
    rw [← hF]; simp
  | pair a b iha ihb =>
    intro n hn hl
    have hla : a.fr.length ≤ 1000 := Nat.le_trans (nodup_len a.fr_nodup fun x hx => (Kd.fr_mem (.pair a b)).mpr (.inl ((Kd.fr_mem a).mp hx))) hl
    have hlb : b.fr.length ≤ 1000 := Nat.le_trans (nodup_len b.fr_nodup fun x hx => (Kd.fr_mem (.pair a b)).mpr (.inr ((Kd.fr_mem b).mp hx))) hl
    obtain ⟨n, rfl⟩ : ∃ n', n = n' + 1 := ⟨n - 1, by omega⟩
    simp only [Kd.h] at hn
    have hL : 1000 + 1000 ≤ LIM := by decide
    have e1 := iha n (by omega) (by omega)
    have e2 := ihb n (by omega) (by omega)
    have f1 := comp_filter (C := callN T n) (st := st) (found := []) (σ := [some (.d (.tup [.str "pair", a.d, b.d])), some (.d (.lst [])), some (.d a.d), none]) (fun x => rfl) rfl a.fr
    have f2 := comp_filter (C := callN T n) (st := st) (found := a.fr) (σ := [some (.d (.tup [.str "pair", a.d, b.d])), some (.d (.lst (a.fr.map .int))), some (.d b.d), none]) (fun x => rfl) rfl b.fr
    have hff := List.length_filter_le (fun i => decide (i ∉ a.fr)) b.fr
    have hlim : a.fr.length ≤ LIM := by omega
    have hlim2 : a.fr.length + (b.fr.filter fun i => decide (i ∉ a.fr)).length ≤ LIM := by omega
    have hnil : (a.fr.filter fun i => decide (i ∉ ([] : List Int))) = a.fr := by simp
    rw [hnil] at f1
    generalize hF : (b.fr.filter fun i => decide (i ∉ a.fr)) = F at f2 hlim2
    rw [callN_run hT]
    simp [runFn, f_law_frees, Kd.d, indexV, D.index, atI, ixN, cmpV, deref, D.cmp, fine, D.dep, D.eqv, asB, asDs, asI, Tg.putV, D.slice, cut, sIx, asD, D.seq, loopL, Tg.putF_eq, Tg.put, e1, e2, Tg.slots, wipe, f1, f2, D.bin, hlim, hlim2, leave, take_all, Kd.fr]
    rw [← hF]; simp
end Prog

namespace Prog
open Ir
set_option maxHeartbeats 4000000 in
theorem put_g_ok {T : Tab} (hT : T "_law_put_in" = some f_law_put_in) {st : Store} {d : Nat} {g : G} (hd : st[d]? = some (.dic (dF g))) : ∀ (k : Kd) (n : Nat), k.h + 1 ≤ n → callN T n "_law_put_in" [.d k.d, .ref d] st = .ok (.d (k.sub (fillG g)).d) st := by
  intro k
  induction k with
  | int =>
    intro n hn
    obtain ⟨n, rfl⟩ : ∃ n', n = n' + 1 := ⟨n - 1, by omega⟩
    rw [callN_run hT]
    simp [runFn, f_law_put_in, Kd.d, indexV, D.index, atI, ixN, cmpV, deref, D.cmp, fine, D.dep, D.eqv, asB, asDs, asI, Tg.putV, D.slice, cut, sIx, asD, D.seq, compL, bltV, bltD, derefs, D.blt, D.bTuple, D.bin, LIM, leave, take_all, Kd.sub]
  | bool =>
    intro n hn
    obtain ⟨n, rfl⟩ : ∃ n', n = n' + 1 := ⟨n - 1, by omega⟩
    rw [callN_run hT]
    simp [runFn, f_law_put_in, Kd.d, indexV, D.index, atI, ixN, cmpV, deref, D.cmp, fine, D.dep, D.eqv, asB, asDs, asI, Tg.putV, D.slice, cut, sIx, asD, D.seq, compL, bltV, bltD, derefs, D.blt, D.bTuple, D.bin, LIM, leave, take_all, Kd.sub]
  | list a ih =>
    intro n hn
    obtain ⟨n, rfl⟩ : ∃ n', n = n' + 1 := ⟨n - 1, by omega⟩
    simp only [Kd.h] at hn
    have e1 := ih n (by omega)
    rw [callN_run hT]
    simp [runFn, f_law_put_in, Kd.d, indexV, D.index, atI, ixN, cmpV, deref, D.cmp, fine, D.dep, D.eqv, asB, asDs, asI, Tg.putV, D.slice, cut, sIx, asD, D.seq, compL, compStep, Tg.put, Tg.slots, wipe, e1, bltV, bltD, derefs, D.blt, D.bTuple, D.bin, LIM, leave, take_all, Kd.sub]
  | fn a b iha ihb =>
    intro n hn
    obtain ⟨n, rfl⟩ : ∃ n', n = n' + 1 := ⟨n - 1, by omega⟩
    simp only [Kd.h] at hn
    have e1 := iha n (by omega)
    have e2 := ihb n (by omega)
    rw [callN_run hT]
    simp [runFn, f_law_put_in, Kd.d, indexV, D.index, atI, ixN, cmpV, deref, D.cmp, fine, D.dep, D.eqv, asB, asDs, asI, Tg.putV, D.slice, cut, sIx, asD, D.seq, compL, compStep, Tg.put, Tg.slots, wipe, e1, e2, bltV, bltD, derefs, D.blt, D.bTuple, D.bin, LIM, leave, take_all, Kd.sub]
  | pair a b iha ihb =>
    intro n hn
    obtain ⟨n, rfl⟩ : ∃ n', n = n' + 1 := ⟨n - 1, by omega⟩
    simp only [Kd.h] at hn
    have e1 := iha n (by omega)
    have e2 := ihb n (by omega)
    rw [callN_run hT]
    simp [runFn, f_law_put_in, Kd.d, indexV, D.index, atI, ixN, cmpV, deref, D.cmp, fine, D.dep, D.eqv, asB, asDs, asI, Tg.putV, D.slice, cut, sIx, asD, D.seq, compL, compStep, Tg.put, Tg.slots, wipe, e1, e2, bltV, bltD, derefs, D.blt, D.bTuple, D.bin, LIM, leave, take_all, Kd.sub]
  | free i =>
    intro n hn
    obtain ⟨n, rfl⟩ : ∃ n', n = n' + 1 := ⟨n - 1, by omega⟩
    have hk : (lookK (dF g) (.int i)).getD (.tup [.str "free", .int i]) = (fillG g i).d := by
      rw [lookK_dF]; unfold fillG; cases g.lookup i <;> rfl
    rw [callN_run hT]
    simp [runFn, f_law_put_in, Kd.d, indexV, D.index, atI, ixN, cmpV, deref, D.cmp, fine, D.dep, D.eqv, asB, asDs, asI, mthOk, hd, mthV, mGet, D.key, hk, leave, take_all, Kd.sub]
end Prog

namespace Prog
open Ir
def pS (S : Int → Kd) (p : Kd × Kd) : Kd × Kd := (p.1.sub S, p.2.sub S)
theorem fill_sg (i : Int) (t : Kd) : fillG [(i, t)] = sg i t := by
  funext j
  simp only [fillG, sg, List.lookup_cons, List.lookup_nil]
  by_cases e : j = i
  · subst e; simp
  · have h2 : (j == i) = false := by simpa using e
    simp [h2, e]
theorem US.nvOf {L : List Kd} {S : Int → Kd} (us : US L S) {l : Kd} (hl : l ∈ L) (h : (l.sub S).nv) : ∃ u ∈ L, u.nv ∧ u.sub S = l.sub S := by
  cases l with
  | free x =>
    rcases us.clos x with ⟨j, e⟩ | ⟨u, hu, nu, e⟩
    · simp only [Kd.sub, e] at h; exact h.elim
    · exact ⟨u, hu, nu, e.symm⟩
  | _ => exact ⟨_, hl, trivial, rfl⟩
theorem Kd.nv_or (k : Kd) : k.nv ∨ ∃ i, k = .free i := by cases k <;> simp [Kd.nv]
theorem Kd.nv_sub {u : Kd} (S : Int → Kd) (h : u.nv) : (u.sub S).nv ∧ (u.sub S).head = u.head ∧ (u.sub S).kids = u.kids.map (Kd.sub S) := by
  cases u <;> first | exact h.elim | simp [Kd.sub, Kd.nv, Kd.head, Kd.kids]
theorem zip_pS (S : Int → Kd) (u v : List Kd) : (u.map (Kd.sub S)).zip (v.map (Kd.sub S)) = (u.zip v).map (pS S) := by
  rw [List.zip_map]; rfl
/-- the loop's word -/
structure JnI (L : List Kd) (a b : Kd) (st : Store) (m : Nat × Nat) (σ : Env) (s : Store) : Prop where
  ex : ∃ (S : Int → Kd) (ps : List (Kd × Kd)) (c : Nat) (x4 x5 x6 x7 x8 x9 x10 : Option Val), σ = [some (.d a.d), some (.d b.d), some (.ref c), some (.d (a.sub S).d), x4, x5, x6, x7, x8, x9, x10] ∧
    st.length ≤ c ∧ s[c]? = some (.lst (ps.map fun p => pd (pS S p))) ∧ Keep s.length st s ∧ m = (cnt S L, szs S ps) ∧ US L S ∧ (∀ p ∈ ps, p.1 ∈ L ∧ p.2 ∈ L) ∧ DpL S a ps.reverse ∧
    ∀ f, a.sub f = b.sub f ↔ (Sols f S ∧ ∀ p ∈ ps, p.1.sub f = p.2.sub f)
theorem pdS_dep {S : Int → Kd} (ps : List (Kd × Kd)) (h : ∀ p ∈ ps, (p.1.sub S).h ≤ 50 ∧ (p.2.sub S).h ≤ 50) : D.cmp .ne (.lst (ps.map fun p => pd (pS S p))) (.lst []) = some (!ps.isEmpty) := by
  have := ne_nil (ps := ps.map (pS S)) (fun p hp => by
    obtain ⟨q, hq, rfl⟩ := List.mem_map.mp hp
    exact h q hq)
  rw [List.map_map] at this
  have e : (ps.map fun p => pd (pS S p)) = ps.map (pd ∘ pS S) := rfl
  rw [e, this]; simp
theorem mem_kd {k : Kd} {i : Int} : D.mem (.int i) (.lst (k.fr.map .int)) = some (k.hasB i) := by
  have ha := any_ints k.fr i
  have hb : decide (i ∈ k.fr) = k.hasB i := by
    rw [Bool.eq_iff_iff]
    simp only [decide_eq_true_eq, k.fr_mem, k.hasB_iff]
  simp only [D.mem, fine_intlist]
  rw [ha, hb]
  simp [fine, D.dep]
section
variable {L : List Kd} {a b : Kd} {st : Store}
/-- the pairs with one free one filled -/
theorem jn_comp {n : Nat} {i : Int} {t : Kd} {σ : Env} {pp : Post (List D)} {s : Store} (h6 : ∀ x y, ((σ.set 8 x).set 9 y)[6]? = some (some (.d (.int i)))) (h7 : ∀ x y, ((σ.set 8 x).set 9 y)[7]? = some (some (.d t.d))) (h8 : 9 < σ.length)
    (ps : List (Kd × Kd)) (hp : ∀ p ∈ ps, p.1.h + 1 ≤ n ∧ p.2.h + 1 ≤ n) (k : ∀ s', Keep s'.length s s' → pp.q (ps.map fun p => pd (pS (sg i t) p)) s') :
    @Wp _ (compL (compStep (eval (callN T n) f_law_joined_c1) (conds (callN T n) []) (.tup [.name 8, .name 9]) σ) (ps.map pd) s) pp := by
  refine wp_comp (fun xs ys s' => ∃ qs rs : List (Kd × Kd), ps = qs ++ rs ∧ xs = rs.map pd ∧ ys = (qs.map fun p => pd (pS (sg i t) p)) ∧ Keep s'.length s s') ⟨[], ps, rfl, rfl, rfl, .refl _ _⟩ ?_ ?_
  · rintro x xs ys s' ⟨qs, rs, e, h1, rfl, kp⟩
    cases rs with
    | nil => cases h1
    | cons p rs =>
      simp only [List.map_cons, List.cons.injEq] at h1
      obtain ⟨rfl, rfl⟩ := h1
      have hpp := hp p (by rw [e]; simp)
      have g8 : ∀ x y, ((σ.set 8 x).set 9 y)[8]? = some x := fun x y => by rw [List.getElem?_set_ne (by decide)]; exact List.getElem?_set_self (by omega)
      have g9 : ∀ x y, ((σ.set 8 x).set 9 y)[9]? = some y := fun x y => List.getElem?_set_self (by simpa using h8)
      have e0 : [(D.int i, t.d)] = dF [(i, t)] := rfl
      have e1 := put_g_ok T_f_law_put_in (st := s' ++ [.dic (dF [(i, t)])]) (d := s'.length) (g := [(i, t)]) (get_push _ _) p.1 n hpp.1
      have e2 := put_g_ok T_f_law_put_in (st := s' ++ [.dic (dF [(i, t)])] ++ [.dic (dF [(i, t)])]) (d := (s' ++ [Cell.dic (dF [(i, t)])]).length) (g := [(i, t)]) (get_push _ _) p.2 n hpp.2
      rw [fill_sg] at e1 e2
      rw [← e0] at e1 e2
      simp at e2
      simp [Tg.putV, Tg.put, Tg.puts, Tg.putF_eq, setAll, Tg.slots, Tg.slotss, wipe, indexV, D.index, atI, ixN, cmpV, deref, asB, asD, asDs, asI, bltV, lenDic, bltD, derefs, D.blt, D.bLen, D.bTuple, D.bList, D.seq, mthV, mthOk, setV, ci_eq, ci_ne, ci_lt, ci_le, ci_gt, ci_ge, cs_eq, cs_ne, cb_eq, cb_ne, D.bin, D.slice, cut, sIx, isNon, pd, g8, g9, h6, h7, mergeF, D.key, putK, e1, e2]
      refine ⟨qs ++ [p], rs, by simp [e], rfl, by simp [pd, pS], ?_⟩
      have k2 := (kp.push (.dic [(D.int i, t.d)])).push (.dic [(D.int i, t.d)])
      refine ⟨by have := kp.1; simp; omega, fun j hj hn => ?_⟩
      rw [List.getElem?_append_left (by have := kp.1; omega)]
      exact kp.2 j hj (by have := kp.1; omega)
  · rintro ys s' ⟨qs, rs, e, h1, rfl, kp⟩
    cases rs with
    | nil => simp at e; subst e; exact k s' kp
    | cons p rs => cases h1
theorem jn_len {S : Int → Kd} {ps : List (Kd × Kd)} (dp : DpL S a ps.reverse) : ps.length ≤ (a.sub S).h + 1 := by
  have := dp.len
  simpa using this
theorem range1 {x : D} {k : Kd} (hk : k.nv) : D.bRange [.int 1, .int (((D.str k.head :: k.tail).length : Nat) : Int)] = some (.lst ((List.range k.kids.length).map fun i : Nat => D.int (1 + (i : Int)))) := by
  rw [Kd.nv_tail hk]
  have := kids_len k
  simp only [D.bRange]
  rw [if_pos (by simp [LIM]; omega)]
  simp [rangeL]
/-- one free one filled everywhere: what stands behind -/
theorem jn_fill {S : Int → Kd} {qs : List (Kd × Kd)} {l r w : Kd} {i : Int} {c : Nat} {s s' : Store} {x4 x5 x6 x7 x8 x9 x10 : Option Val} {pl : List D} {dc : Cell} (cl : Cl L) (us : US L S) (hw : w ∈ L) (hqs : ∀ p ∈ qs, p.1 ∈ L ∧ p.2 ∈ L)
    (hi : S i = .free i) (hiL : .free i ∈ L) (hc : st.length ≤ c) (kp : Keep s.length st s) (dp : DpL S a (qs.reverse ++ [(l, r)]))
    (hf : ∀ f, a.sub f = b.sub f ↔ (Sols f S ∧ ∀ p ∈ (l, r) :: qs, p.1.sub f = p.2.sub f)) (hlr : ∀ f, Sols f S → (l.sub f = r.sub f ↔ f i = w.sub f)) (hnh : ¬ (w.sub S).has i)
    (kk : Keep s'.length (s.set c .dead) s') (hpl : pl = (qs.map (pS S)).map fun p => pd (pS (sg i (w.sub S)) p)) :
    ∃ a_1 b_1, LexN (a_1, b_1) (cnt S L, szs S ((l, r) :: qs)) ∧ JnI L a b st (a_1, b_1) [some (.d a.d), some (.d b.d), some (.ref s'.length), some (.d (a.sub (comp1 S i (w.sub S))).d), x4, x5, x6, x7, x8, x9, x10] (s' ++ [.lst pl, dc]) := by
  have us' := us.bind cl hw hi hnh
  have hcn := cnt_bind us hi hiL hnh
  have hkl : s.length ≤ s'.length := by have := kk.1; simpa using this
  have hst : st.length ≤ s.length := kp.1
  refine ⟨cnt (comp1 S i (w.sub S)) L, szs (comp1 S i (w.sub S)) qs, .left _ _ hcn, ⟨comp1 S i (w.sub S), qs, s'.length, _, _, _, _, _, _, _, rfl, by omega, ?_, ⟨by simp; omega, fun j hj hn => ?_⟩, rfl, us', hqs, dp.pop.bind, fun f => ?_⟩⟩
  · rw [List.getElem?_append_right (Nat.le_refl _), hpl]
    simp [pd, pS, comp1_sub, Function.comp]
  · rw [List.getElem?_append_left (by omega), kk.2 j (by simpa using (by omega : j < s.length)) (by omega), List.getElem?_set_ne (by omega)]
    exact kp.2 j hj (by omega)
  · rw [hf f, sols_bind hi]
    constructor
    · rintro ⟨q1, q2⟩
      refine ⟨⟨q1, ?_⟩, fun p hp => q2 p (List.mem_cons_of_mem _ hp)⟩
      rw [q1.k]
      exact (hlr f q1).mp (q2 (l, r) (by simp))
    · rintro ⟨⟨q1, q3⟩, q2⟩
      rw [q1.k] at q3
      refine ⟨q1, fun p hp => ?_⟩
      rcases List.mem_cons.mp hp with rfl | hp
      · exact (hlr f q1).mpr q3
      · exact q2 p hp
set_option maxHeartbeats 16000000 in
theorem jn_turn {n : Nat} {m : Nat × Nat} {σ : Env} {s : Store} {pp : Post Out} (cl : Cl L) (hLl : L.length ≤ 40) (ha : a ∈ L) (hn : 44 ≤ n) (i : JnI L a b st m σ s)
    (h0 : ∀ S σ s, US L S → (∀ f, a.sub f = b.sub f ↔ Sols f S) → σ[3]? = some (some (.d (a.sub S).d)) → Keep s.length st s → pp.q (.nx σ) s)
    (h1 : (∀ f, a.sub f ≠ b.sub f) → ∀ s, Keep s.length st s → pp.q (.ret (.d .non)) s) :
    @Wp _ (condB (eval (callN T n) f_law_joined_w0) σ s) ⟨fun b' s1 => (b' = true → @Wp _ (execs (callN T n) f_law_joined_b0 σ s1) ⟨fun o s => match o with
      | .nx σ2 => ∃ m', LexN m' m ∧ JnI L a b st m' σ2 s | .cnt σ2 => ∃ m', LexN m' m ∧ JnI L a b st m' σ2 s | .brk σ2 => pp.q (.nx σ2) s | .ret v => pp.q (.ret v) s⟩) ∧ (b' = false → pp.q (.nx σ) s1)⟩ := by
  obtain ⟨S, ps, c, x4, x5, x6, x7, x8, x9, x10, rfl, hc, hs, kp, rfl, us, hps, dp, hf⟩ := i
  have hh : ∀ u ∈ L, (u.sub S).h ≤ 40 := fun u hu => by have := us.h_le cl hu; omega
  have hne := pdS_dep (S := S) ps (fun p hp => ⟨by have := hh _ (hps p hp).1; omega, by have := hh _ (hps p hp).2; omega⟩)
  have hAh := hh a ha
  simp [Tg.putV, Tg.put, Tg.puts, Tg.putF_eq, setAll, Tg.slots, Tg.slotss, wipe, indexV, D.index, atI, ixN, cmpV, deref, asB, asD, asDs, asI, bltV, lenDic, bltD, derefs, D.blt, D.bLen, D.bTuple, D.bList, D.seq, mthV, mthOk, setV, ci_eq, ci_ne, ci_lt, ci_le, ci_gt, ci_ge, cs_eq, cs_ne, cb_eq, cb_ne, D.bin, D.slice, cut, sIx, isNon, hs, hne]
  refine ⟨fun hq => ?_, fun he => ?_⟩
  · obtain ⟨⟨l, r⟩, qs, rfl⟩ : ∃ p qs, ps = p :: qs := by cases ps with | nil => exact absurd rfl hq | cons p qs => exact ⟨p, qs, rfl⟩
    have hlr := hps (l, r) (by simp)
    have hqs : ∀ p ∈ qs, p.1 ∈ L ∧ p.2 ∈ L := fun p hp => hps p (List.mem_cons_of_mem _ hp)
    have hlh := hh l hlr.1
    have hrh := hh r hlr.2
    have hcm := cmp_ne_kd (a := l.sub S) (b := r.sub S) (by omega) (by omega)
    have dpl := jn_len dp
    simp only [List.length_cons] at dpl
    have hcl : c < s.length := (List.getElem?_eq_some_iff.mp hs).1
    have hset : ∀ x : Cell, (s.set c x)[c]? = some x := fun x => List.getElem?_set_self hcl
    have dp' : DpL S a (qs.reverse ++ [(l, r)]) := by simpa using dp
    have hs' := set_at hs (.lst (qs.map fun p => pd (pS S p)))
    have kp' : Keep (s.set c (.lst (qs.map fun p => pd (pS S p)))).length st (s.set c (.lst (qs.map fun p => pd (pS S p)))) := ⟨by simpa using kp.1, fun j hj hn => by rw [List.getElem?_set_ne (by omega)]; exact kp.2 j hj (by have := kp.1; omega)⟩
    have tail : ∀ f, (∀ p ∈ (l, r) :: qs, p.1.sub f = p.2.sub f) ↔ (l.sub f = r.sub f ∧ ∀ p ∈ qs, p.1.sub f = p.2.sub f) := fun f => by simp
    by_cases c0 : l.sub S = r.sub S
    · simp only [c0, decide_true] at hcm
      rw [← c0] at hcm
      have hcm2 := hcm
      simp [Tg.putV, Tg.put, Tg.puts, Tg.putF_eq, setAll, Tg.slots, Tg.slotss, wipe, indexV, D.index, atI, ixN, cmpV, deref, asB, asD, asDs, asI, bltV, lenDic, bltD, derefs, D.blt, D.bLen, D.bTuple, D.bList, D.seq, mthV, mthOk, setV, ci_eq, ci_ne, ci_lt, ci_le, ci_gt, ci_ge, cs_eq, cs_ne, cb_eq, cb_ne, D.bin, D.slice, cut, sIx, isNon, hs, mPop0, pd, pS, ← c0, hcm]
      refine ⟨cnt S L, szs S qs, .right _ (by have := (l.sub S).h_parts; simp only [szs]; omega), ⟨S, qs, c, _, _, _, _, _, _, _, rfl, hc, hs', kp', rfl, us, hqs, by have := dp'.pop; simpa using this, fun f => ?_⟩⟩
      rw [hf f, tail f]
      constructor
      · rintro ⟨q1, q2, q3⟩; exact ⟨q1, q3⟩
      · rintro ⟨q1, q3⟩; exact ⟨q1, by rw [← q1.k l, c0, q1.k], q3⟩
    · simp only [c0, decide_false] at hcm
      have keep1 : ∀ (x : List D), Keep (s.set c (.lst (qs.map fun p => pd (pS S p))) ++ [Cell.lst x]).length st (s.set c (.lst (qs.map fun p => pd (pS S p))) ++ [.lst x]) := fun x => ⟨by have := kp.1; simp; omega, fun j hj hn => by rw [List.getElem?_append_left (by have := kp.1; simp; omega), List.getElem?_set_ne (by omega)]; exact kp.2 j hj (by have := kp.1; omega)⟩
      by_cases hA : (l.sub S).nv
      · by_cases hBn : (r.sub S).nv
        · obtain ⟨u, hu, nv1, eu⟩ := us.nvOf hlr.1 hA
          obtain ⟨v, hv, nv2, ev⟩ := us.nvOf hlr.2 hBn
          have lrf : ∀ f, Sols f S → (l.sub f = r.sub f ↔ u.sub f = v.sub f) := fun f h => by rw [← h.k l, ← h.k r, ← eu, ← ev, h.k, h.k]
          have kids : ∀ (rs : List (Kd × Kd)), (∀ q ∈ rs, q.1 ∈ u.kids ∧ q.2 ∈ v.kids) → rs.length ≤ 2 → szs S rs < (u.sub S).parts → (∀ f, u.sub f = v.sub f ↔ ∀ p ∈ rs, p.1.sub f = p.2.sub f) → ∀ (y4 y5 y6 y7 y8 y9 y10 : Option Val) {x : List D}, x = (rs ++ qs).map (fun p => pd (pS S p)) →
              ∃ a_1 b_1, LexN (a_1, b_1) (cnt S L, szs S ((l, r) :: qs)) ∧ JnI L a b st (a_1, b_1) [some (.d a.d), some (.d b.d), some (.ref s.length), some (.d (a.sub S).d), y4, y5, y6, y7, y8, y9, y10] (s.set c (.lst (qs.map fun p => pd (pS S p))) ++ [.lst x]) := by
            intro rs hr hl2 hsz hlr2 y4 y5 y6 y7 y8 y9 y10 x hx
            refine ⟨cnt S L, szs S (rs ++ qs), .right _ (by simp only [szs_app, szs]; rw [← eu]; omega), ⟨S, rs ++ qs, s.length, y4, y5, y6, y7, y8, y9, y10, rfl, by have := kp.1; omega, ?_, keep1 x, rfl, us, fun p hp => ?_, ?_, fun f => ?_⟩⟩
            · rw [hx]; have := get_push (s.set c (.lst (qs.map fun p => pd (pS S p)))) (.lst ((rs ++ qs).map fun p => pd (pS S p))); simpa using this
            · rcases List.mem_append.mp hp with hp | hp
              · exact ⟨cl u hu _ (hr p hp).1, cl v hv _ (hr p hp).2⟩
              · exact hqs p hp
            · rw [List.reverse_append]
              exact dp'.push eu (fun q hq => (hr q (List.mem_reverse.mp hq)).1) (by simpa using hl2)
            · rw [hf f, tail f, mem_app2]
              constructor
              · rintro ⟨q1, q2, q3⟩; exact ⟨q1, (hlr2 f).mp ((lrf f q1).mp q2), q3⟩
              · rintro ⟨q1, q2, q3⟩; exact ⟨q1, (lrf f q1).mpr ((hlr2 f).mpr q2), q3⟩
          cases u with
          | free j => exact nv1.elim
          | int  => cases v with
            | free j => exact nv2.elim
            | int  =>
              simp only [Kd.sub] at eu ev
              rw [← eu, ← ev] at hcm
              simp only [Kd.d] at hcm
              simp [Tg.putV, Tg.put, Tg.puts, Tg.putF_eq, setAll, Tg.slots, Tg.slotss, wipe, indexV, D.index, atI, ixN, cmpV, deref, asB, asD, asDs, asI, bltV, lenDic, bltD, derefs, D.blt, D.bLen, D.bTuple, D.bList, D.seq, mthV, mthOk, setV, ci_eq, ci_ne, ci_lt, ci_le, ci_gt, ci_ge, cs_eq, cs_ne, cb_eq, cb_ne, D.bin, D.slice, cut, sIx, isNon, hs, mPop0, pd, pS, ← eu, ← ev, hcm, Kd.d, hset, range11]
              refine ⟨fun _ => ?_, by simp only [LIM]; omega⟩
              exact kids [] (by simp [Kd.kids]) (by simp) (by simp [szs, Kd.sub, Kd.parts]) (fun f => by simp [Kd.sub]) _ _ _ _ _ _ _ (by simp [pd, pS, Kd.d, Kd.sub])
            | _ =>
              simp only [Kd.sub] at eu ev
              rw [← eu, ← ev] at hcm
              simp only [Kd.d] at hcm
              simp [Tg.putV, Tg.put, Tg.puts, Tg.putF_eq, setAll, Tg.slots, Tg.slotss, wipe, indexV, D.index, atI, ixN, cmpV, deref, asB, asD, asDs, asI, bltV, lenDic, bltD, derefs, D.blt, D.bLen, D.bTuple, D.bList, D.seq, mthV, mthOk, setV, ci_eq, ci_ne, ci_lt, ci_le, ci_gt, ci_ge, cs_eq, cs_ne, cb_eq, cb_ne, D.bin, D.slice, cut, sIx, isNon, hs, mPop0, pd, pS, ← eu, ← ev, hcm, Kd.d]
              exact h1 (fun f e => other_head nv1 nv2 (by simp [Kd.head]) f (lrf f ((hf f).mp e).1 |>.mp (((hf f).mp e).2 (l, r) (by simp)))) _ kp'
          | bool  => cases v with
            | free j => exact nv2.elim
            | bool  =>
              simp only [Kd.sub] at eu ev
              rw [← eu, ← ev] at hcm
              simp only [Kd.d] at hcm
              simp [Tg.putV, Tg.put, Tg.puts, Tg.putF_eq, setAll, Tg.slots, Tg.slotss, wipe, indexV, D.index, atI, ixN, cmpV, deref, asB, asD, asDs, asI, bltV, lenDic, bltD, derefs, D.blt, D.bLen, D.bTuple, D.bList, D.seq, mthV, mthOk, setV, ci_eq, ci_ne, ci_lt, ci_le, ci_gt, ci_ge, cs_eq, cs_ne, cb_eq, cb_ne, D.bin, D.slice, cut, sIx, isNon, hs, mPop0, pd, pS, ← eu, ← ev, hcm, Kd.d, hset, range11]
              refine ⟨fun _ => ?_, by simp only [LIM]; omega⟩
              exact kids [] (by simp [Kd.kids]) (by simp) (by simp [szs, Kd.sub, Kd.parts]) (fun f => by simp [Kd.sub]) _ _ _ _ _ _ _ (by simp [pd, pS, Kd.d, Kd.sub])
            | _ =>
              simp only [Kd.sub] at eu ev
              rw [← eu, ← ev] at hcm
              simp only [Kd.d] at hcm
              simp [Tg.putV, Tg.put, Tg.puts, Tg.putF_eq, setAll, Tg.slots, Tg.slotss, wipe, indexV, D.index, atI, ixN, cmpV, deref, asB, asD, asDs, asI, bltV, lenDic, bltD, derefs, D.blt, D.bLen, D.bTuple, D.bList, D.seq, mthV, mthOk, setV, ci_eq, ci_ne, ci_lt, ci_le, ci_gt, ci_ge, cs_eq, cs_ne, cb_eq, cb_ne, D.bin, D.slice, cut, sIx, isNon, hs, mPop0, pd, pS, ← eu, ← ev, hcm, Kd.d]
              exact h1 (fun f e => other_head nv1 nv2 (by simp [Kd.head]) f (lrf f ((hf f).mp e).1 |>.mp (((hf f).mp e).2 (l, r) (by simp)))) _ kp'
          | list u1 => cases v with
            | free j => exact nv2.elim
            | list v1 =>
              simp only [Kd.sub] at eu ev
              rw [← eu, ← ev] at hcm
              simp only [Kd.d] at hcm
              simp [Tg.putV, Tg.put, Tg.puts, Tg.putF_eq, setAll, Tg.slots, Tg.slotss, wipe, indexV, D.index, atI, ixN, cmpV, deref, asB, asD, asDs, asI, bltV, lenDic, bltD, derefs, D.blt, D.bLen, D.bTuple, D.bList, D.seq, mthV, mthOk, setV, ci_eq, ci_ne, ci_lt, ci_le, ci_gt, ci_ge, cs_eq, cs_ne, cb_eq, cb_ne, D.bin, D.slice, cut, sIx, isNon, hs, mPop0, pd, pS, ← eu, ← ev, hcm, Kd.d, hset, range12]
              refine ⟨fun _ => ?_, by simp only [LIM]; omega⟩
              exact kids [(u1, v1)] (by simp [Kd.kids]) (by simp) (by simp [szs, Kd.sub, Kd.parts]) (fun f => by simp [Kd.sub]) _ _ _ _ _ _ _ (by simp [pd, pS, Kd.d, Kd.sub])
            | _ =>
              simp only [Kd.sub] at eu ev
              rw [← eu, ← ev] at hcm
              simp only [Kd.d] at hcm
              simp [Tg.putV, Tg.put, Tg.puts, Tg.putF_eq, setAll, Tg.slots, Tg.slotss, wipe, indexV, D.index, atI, ixN, cmpV, deref, asB, asD, asDs, asI, bltV, lenDic, bltD, derefs, D.blt, D.bLen, D.bTuple, D.bList, D.seq, mthV, mthOk, setV, ci_eq, ci_ne, ci_lt, ci_le, ci_gt, ci_ge, cs_eq, cs_ne, cb_eq, cb_ne, D.bin, D.slice, cut, sIx, isNon, hs, mPop0, pd, pS, ← eu, ← ev, hcm, Kd.d]
              exact h1 (fun f e => other_head nv1 nv2 (by simp [Kd.head]) f (lrf f ((hf f).mp e).1 |>.mp (((hf f).mp e).2 (l, r) (by simp)))) _ kp'
          | fn u1 u2 => cases v with
            | free j => exact nv2.elim
            | fn v1 v2 =>
              simp only [Kd.sub] at eu ev
              rw [← eu, ← ev] at hcm
              simp only [Kd.d] at hcm
              simp [Tg.putV, Tg.put, Tg.puts, Tg.putF_eq, setAll, Tg.slots, Tg.slotss, wipe, indexV, D.index, atI, ixN, cmpV, deref, asB, asD, asDs, asI, bltV, lenDic, bltD, derefs, D.blt, D.bLen, D.bTuple, D.bList, D.seq, mthV, mthOk, setV, ci_eq, ci_ne, ci_lt, ci_le, ci_gt, ci_ge, cs_eq, cs_ne, cb_eq, cb_ne, D.bin, D.slice, cut, sIx, isNon, hs, mPop0, pd, pS, ← eu, ← ev, hcm, Kd.d, hset, range13]
              refine ⟨fun _ => ?_, by simp only [LIM]; omega⟩
              exact kids [(u1, v1), (u2, v2)] (by simp [Kd.kids]) (by simp) (by simp [szs, Kd.sub, Kd.parts]) (fun f => by simp [Kd.sub]) _ _ _ _ _ _ _ (by simp [pd, pS, Kd.d, Kd.sub])
            | _ =>
              simp only [Kd.sub] at eu ev
              rw [← eu, ← ev] at hcm
              simp only [Kd.d] at hcm
              simp [Tg.putV, Tg.put, Tg.puts, Tg.putF_eq, setAll, Tg.slots, Tg.slotss, wipe, indexV, D.index, atI, ixN, cmpV, deref, asB, asD, asDs, asI, bltV, lenDic, bltD, derefs, D.blt, D.bLen, D.bTuple, D.bList, D.seq, mthV, mthOk, setV, ci_eq, ci_ne, ci_lt, ci_le, ci_gt, ci_ge, cs_eq, cs_ne, cb_eq, cb_ne, D.bin, D.slice, cut, sIx, isNon, hs, mPop0, pd, pS, ← eu, ← ev, hcm, Kd.d]
              exact h1 (fun f e => other_head nv1 nv2 (by simp [Kd.head]) f (lrf f ((hf f).mp e).1 |>.mp (((hf f).mp e).2 (l, r) (by simp)))) _ kp'
          | pair u1 u2 => cases v with
            | free j => exact nv2.elim
            | pair v1 v2 =>
              simp only [Kd.sub] at eu ev
              rw [← eu, ← ev] at hcm
              simp only [Kd.d] at hcm
              simp [Tg.putV, Tg.put, Tg.puts, Tg.putF_eq, setAll, Tg.slots, Tg.slotss, wipe, indexV, D.index, atI, ixN, cmpV, deref, asB, asD, asDs, asI, bltV, lenDic, bltD, derefs, D.blt, D.bLen, D.bTuple, D.bList, D.seq, mthV, mthOk, setV, ci_eq, ci_ne, ci_lt, ci_le, ci_gt, ci_ge, cs_eq, cs_ne, cb_eq, cb_ne, D.bin, D.slice, cut, sIx, isNon, hs, mPop0, pd, pS, ← eu, ← ev, hcm, Kd.d, hset, range13]
              refine ⟨fun _ => ?_, by simp only [LIM]; omega⟩
              exact kids [(u1, v1), (u2, v2)] (by simp [Kd.kids]) (by simp) (by simp [szs, Kd.sub, Kd.parts]) (fun f => by simp [Kd.sub]) _ _ _ _ _ _ _ (by simp [pd, pS, Kd.d, Kd.sub])
            | _ =>
              simp only [Kd.sub] at eu ev
              rw [← eu, ← ev] at hcm
              simp only [Kd.d] at hcm
              simp [Tg.putV, Tg.put, Tg.puts, Tg.putF_eq, setAll, Tg.slots, Tg.slotss, wipe, indexV, D.index, atI, ixN, cmpV, deref, asB, asD, asDs, asI, bltV, lenDic, bltD, derefs, D.blt, D.bLen, D.bTuple, D.bList, D.seq, mthV, mthOk, setV, ci_eq, ci_ne, ci_lt, ci_le, ci_gt, ci_ge, cs_eq, cs_ne, cb_eq, cb_ne, D.bin, D.slice, cut, sIx, isNon, hs, mPop0, pd, pS, ← eu, ← ev, hcm, Kd.d]
              exact h1 (fun f e => other_head nv1 nv2 (by simp [Kd.head]) f (lrf f ((hf f).mp e).1 |>.mp (((hf f).mp e).2 (l, r) (by simp)))) _ kp'
        · obtain ⟨j, ej⟩ : ∃ j, r.sub S = .free j := by rcases (r.sub S).nv_or with h | h; exact absurd h hBn; exact h
          have hj : S j = .free j := us.fix (k := r) (by rw [ej]; rfl)
          have hjL : Kd.free j ∈ L := us.varsK cl hlr.2 (by rw [ej]; rfl)
          have hAd := (l.sub S).d_eq
          have hah := Kd.nv_head hA
          have hfew : (l.sub S).fr.length ≤ 1000 := by
            have := nodup_len (l.sub S).fr_nodup (V := frsL L) fun x hx => (frsL_mem _).mpr (us.varsK cl hlr.1 ((Kd.fr_mem _).mp hx))
            have := frsL_len L
            omega
          have e1 := fun st => frees_ok2 T_f_law_frees (st := st) (l.sub S) n (by have := hh l hlr.1; omega) hfew
          have hpop : mPop0 c s [] = .ok (.d (.tup [(l.sub S).d, (r.sub S).d])) (s.set c (.lst (qs.map fun p => pd (pS S p)))) := by simp [mPop0, hs, pd, pS]
          generalize hs1 : s.set c (.lst (qs.map fun p => pd (pS S p))) = s1 at hs' kp' hpop
          have hw1 : ∀ f, Sols f S → (l.sub f = r.sub f ↔ f j = l.sub f) := fun f h => by rw [← h.k r, ej]; exact ⟨fun e => e.symm, fun e => e.symm⟩
          rw [hAd, ej] at hpop hcm
          simp only [Kd.d] at hpop hcm
          simp only [hAd] at e1
          simp [Tg.putV, Tg.put, Tg.puts, Tg.putF_eq, setAll, Tg.slots, Tg.slotss, wipe, indexV, D.index, atI, ixN, cmpV, deref, asB, asD, asDs, asI, bltV, lenDic, bltD, derefs, D.blt, D.bLen, D.bTuple, D.bList, D.seq, mthV, mthOk, setV, ci_eq, ci_ne, ci_lt, ci_le, ci_gt, ci_ge, cs_eq, cs_ne, cb_eq, cb_ne, D.bin, D.slice, cut, sIx, isNon, hs, hpop, hcm, e1, inB, mem_kd, hah]
          refine ⟨fun hb => ?_, fun hb => ?_⟩
          · have hb' := (Kd.hasB_iff _).mp hb
            refine h1 (fun f e => ?_) _ kp'
            obtain ⟨q1, q2⟩ := (hf f).mp e
            have q3 := (hw1 f q1).mp (q2 (l, r) (by simp))
            rw [← q1.k l] at q3
            exact Kd.occurs hb' (fun e => c0 (e.trans ej.symm)) q3
          · have hnh : ¬ (l.sub S).has j := fun q => by rw [(Kd.hasB_iff _).mpr q] at hb; cases hb
            have em : (qs.map fun p => pd (pS S p)) = (qs.map (pS S)).map pd := by rw [List.map_map]; rfl
            simp [Tg.putV, Tg.put, Tg.puts, Tg.putF_eq, setAll, Tg.slots, Tg.slotss, wipe, indexV, D.index, atI, ixN, cmpV, deref, asB, asD, asDs, asI, bltV, lenDic, bltD, derefs, D.blt, D.bLen, D.bTuple, D.bList, D.seq, mthV, mthOk, setV, ci_eq, ci_ne, ci_lt, ci_le, ci_gt, ci_ge, cs_eq, cs_ne, cb_eq, cb_ne, D.bin, D.slice, cut, sIx, isNon, hs']
            rw [em]
            refine jn_comp (i := j) (t := l.sub S) (fun x y => rfl) (fun x y => by rw [hAd]; rfl) (by simp) (qs.map (pS S)) (fun p hp => ?_) fun s' kk => ?_
            · obtain ⟨q, hq, rfl⟩ := List.mem_map.mp hp
              have g1 := hh _ (hqs q hq).1
              have g2 := hh _ (hqs q hq).2
              exact ⟨by simp only [pS]; omega, by simp only [pS]; omega⟩
            · generalize hpl : ((qs.map (pS S)).map fun p => pd (pS (sg j (l.sub S)) p)) = pl
              have e3 := put_g_ok T_f_law_put_in (st := s' ++ [.lst pl] ++ [.dic (dF [(j, l.sub S)])]) (d := (s' ++ [Cell.lst pl]).length) (g := [(j, l.sub S)]) (get_push _ _) (a.sub S) n (by omega)
              rw [fill_sg, ← comp1_sub] at e3
              have e0 : [(D.int j, (l.sub S).d)] = dF [(j, l.sub S)] := rfl
              rw [← e0] at e3
              simp at e3
              simp only [hAd] at e3
              simp [Tg.putV, Tg.put, Tg.puts, Tg.putF_eq, setAll, Tg.slots, Tg.slotss, wipe, indexV, D.index, atI, ixN, cmpV, deref, asB, asD, asDs, asI, bltV, lenDic, bltD, derefs, D.blt, D.bLen, D.bTuple, D.bList, D.seq, mthV, mthOk, setV, ci_eq, ci_ne, ci_lt, ci_le, ci_gt, ci_ge, cs_eq, cs_ne, cb_eq, cb_ne, D.bin, D.slice, cut, sIx, isNon, mergeF, D.key, putK, e3]
              exact jn_fill (w := l) (i := j) cl us hlr.1 hqs hj hjL hc (by rw [← hs1] at kp' ⊢; exact kp') dp' hf hw1 hnh kk hpl.symm
      · obtain ⟨i, ei⟩ : ∃ i, l.sub S = .free i := by rcases (l.sub S).nv_or with h | h; exact absurd h hA; exact h
        have hi : S i = .free i := us.fix (k := l) (by rw [ei]; rfl)
        have hiL : Kd.free i ∈ L := us.varsK cl hlr.1 (by rw [ei]; rfl)
        have hAd := (r.sub S).d_eq
        have hfew : (r.sub S).fr.length ≤ 1000 := by
          have := nodup_len (r.sub S).fr_nodup (V := frsL L) fun x hx => (frsL_mem _).mpr (us.varsK cl hlr.2 ((Kd.fr_mem _).mp hx))
          have := frsL_len L
          omega
        have e1 := fun st => frees_ok2 T_f_law_frees (st := st) (r.sub S) n (by have := hh r hlr.2; omega) hfew
        have hpop : mPop0 c s [] = .ok (.d (.tup [(l.sub S).d, (r.sub S).d])) (s.set c (.lst (qs.map fun p => pd (pS S p)))) := by simp [mPop0, hs, pd, pS]
        generalize hs1 : s.set c (.lst (qs.map fun p => pd (pS S p))) = s1 at hs' kp' hpop
        have hw1 : ∀ f, Sols f S → (l.sub f = r.sub f ↔ f i = r.sub f) := fun f h => by rw [← h.k l, ei]; rfl
        rw [hAd, ei] at hpop hcm
        simp only [Kd.d] at hpop hcm
        simp only [hAd] at e1
        simp [Tg.putV, Tg.put, Tg.puts, Tg.putF_eq, setAll, Tg.slots, Tg.slotss, wipe, indexV, D.index, atI, ixN, cmpV, deref, asB, asD, asDs, asI, bltV, lenDic, bltD, derefs, D.blt, D.bLen, D.bTuple, D.bList, D.seq, mthV, mthOk, setV, ci_eq, ci_ne, ci_lt, ci_le, ci_gt, ci_ge, cs_eq, cs_ne, cb_eq, cb_ne, D.bin, D.slice, cut, sIx, isNon, hs, hpop, hcm, e1, inB, mem_kd]
        refine ⟨fun hb => ?_, fun hb => ?_⟩
        · have hb' := (Kd.hasB_iff _).mp hb
          refine h1 (fun f e => ?_) _ kp'
          obtain ⟨q1, q2⟩ := (hf f).mp e
          have q3 := (hw1 f q1).mp (q2 (l, r) (by simp))
          rw [← q1.k r] at q3
          exact Kd.occurs hb' (fun e => c0 (ei.trans e.symm)) q3
        · have hnh : ¬ (r.sub S).has i := fun q => by rw [(Kd.hasB_iff _).mpr q] at hb; cases hb
          have em : (qs.map fun p => pd (pS S p)) = (qs.map (pS S)).map pd := by rw [List.map_map]; rfl
          simp [Tg.putV, Tg.put, Tg.puts, Tg.putF_eq, setAll, Tg.slots, Tg.slotss, wipe, indexV, D.index, atI, ixN, cmpV, deref, asB, asD, asDs, asI, bltV, lenDic, bltD, derefs, D.blt, D.bLen, D.bTuple, D.bList, D.seq, mthV, mthOk, setV, ci_eq, ci_ne, ci_lt, ci_le, ci_gt, ci_ge, cs_eq, cs_ne, cb_eq, cb_ne, D.bin, D.slice, cut, sIx, isNon, hs']
          rw [em]
          refine jn_comp (i := i) (t := r.sub S) (fun x y => rfl) (fun x y => by rw [hAd]; rfl) (by simp) (qs.map (pS S)) (fun p hp => ?_) fun s' kk => ?_
          · obtain ⟨q, hq, rfl⟩ := List.mem_map.mp hp
            have g1 := hh _ (hqs q hq).1
            have g2 := hh _ (hqs q hq).2
            exact ⟨by simp only [pS]; omega, by simp only [pS]; omega⟩
          · generalize hpl : ((qs.map (pS S)).map fun p => pd (pS (sg i (r.sub S)) p)) = pl
            have e3 := put_g_ok T_f_law_put_in (st := s' ++ [.lst pl] ++ [.dic (dF [(i, r.sub S)])]) (d := (s' ++ [Cell.lst pl]).length) (g := [(i, r.sub S)]) (get_push _ _) (a.sub S) n (by omega)
            rw [fill_sg, ← comp1_sub] at e3
            have e0 : [(D.int i, (r.sub S).d)] = dF [(i, r.sub S)] := rfl
            rw [← e0] at e3
            simp at e3
            simp only [hAd] at e3
            simp [Tg.putV, Tg.put, Tg.puts, Tg.putF_eq, setAll, Tg.slots, Tg.slotss, wipe, indexV, D.index, atI, ixN, cmpV, deref, asB, asD, asDs, asI, bltV, lenDic, bltD, derefs, D.blt, D.bLen, D.bTuple, D.bList, D.seq, mthV, mthOk, setV, ci_eq, ci_ne, ci_lt, ci_le, ci_gt, ci_ge, cs_eq, cs_ne, cb_eq, cb_ne, D.bin, D.slice, cut, sIx, isNon, mergeF, D.key, putK, e3]
            exact jn_fill (w := r) (i := i) cl us hlr.2 hqs hi hiL hc (by rw [← hs1] at kp' ⊢; exact kp') dp' hf hw1 hnh kk hpl.symm
  · subst he
    exact h0 S _ _ us (fun f => by rw [hf f]; simp) rfl kp
/-- joined: the most general one, or None -/
theorem joined_wp {n : Nat} {pp : Post Val} (ha : a.parts ≤ 20) (hb : b.parts ≤ 20) (hn : 45 ≤ n)
    (h0 : ∀ r, MG a b r → r.h ≤ 40 → r.fr.length ≤ 40 → pp.q (.d r.d) st)
    (h1 : (∀ f, a.sub f ≠ b.sub f) → pp.q (.d .non) st) : @Wp _ (callN T n "_law_joined" [.d a.d, .d b.d] st) pp := by
  obtain ⟨n, rfl⟩ : ∃ n', n = n' + 1 := ⟨n - 1, by omega⟩
  have cl : Cl (a.subs ++ b.subs) := a.subs_cl.app b.subs_cl
  have hL : (a.subs ++ b.subs).length ≤ 40 := by rw [List.length_append, a.subs_len, b.subs_len]; omega
  have haL : a ∈ a.subs ++ b.subs := List.mem_append_left _ a.subs_self
  have tk : ∀ s : Store, Keep s.length st s → s.take st.length = st := fun s k => by
    apply List.ext_getElem?
    intro i
    rw [List.getElem?_take]
    by_cases c : i < st.length
    · rw [if_pos c]; exact k.2 i c (by have := k.1; omega)
    · rw [if_neg c, List.getElem?_eq_none (by omega)]
  rw [callN_run T_f_law_joined]
  simp [Tg.putV, Tg.put, Tg.puts, Tg.putF_eq, setAll, Tg.slots, Tg.slotss, wipe, indexV, D.index, atI, ixN, cmpV, deref, asB, asD, asDs, asI, bltV, lenDic, bltD, derefs, D.blt, D.bLen, D.bTuple, D.bList, D.seq, mthV, mthOk, setV, ci_eq, ci_ne, ci_lt, ci_le, ci_gt, ci_ge, cs_eq, cs_ne, cb_eq, cb_ne, D.bin, D.slice, cut, sIx, isNon, f_law_joined]
  refine wp_whileW lexN_wf (JnI (a.subs ++ b.subs) a b st) (fun m σ s i => jn_turn cl hL haL (by omega) i ?_ ?_) (cnt .free (a.subs ++ b.subs), szs .free [(a, b)]) _ _ ⟨.free, [(a, b)], st.length, none, none, none, none, none, none, none, by rw [Kd.sub_free], Nat.le_refl _, by simp [pd, pS, Kd.sub_free], ⟨by simp, fun j hj _ => by rw [List.getElem?_append_left hj]⟩, rfl, US.start _, fun p hp => ?_, fun i p hp => ?_, fun f => ?_⟩
  · intro S σ s us hf h3 kp
    have hfew : (a.sub S).fr.length ≤ 40 := by
      have := nodup_len (a.sub S).fr_nodup (V := frsL (a.subs ++ b.subs)) fun x hx => (frsL_mem _).mpr (us.varsK cl haL ((Kd.fr_mem _).mp hx))
      have := frsL_len (a.subs ++ b.subs)
      omega
    have hh := us.h_le cl haL
    have hS : Sols S S := us.idem
    have mg : MG a b (a.sub S) := ⟨⟨S, rfl, ((hf S).mpr hS).symm⟩, fun f e => ⟨f, ((hf f).mp e).k a⟩⟩
    simp [Tg.putV, Tg.put, Tg.puts, Tg.putF_eq, setAll, Tg.slots, Tg.slotss, wipe, indexV, D.index, atI, ixN, cmpV, deref, asB, asD, asDs, asI, bltV, lenDic, bltD, derefs, D.blt, D.bLen, D.bTuple, D.bList, D.seq, mthV, mthOk, setV, ci_eq, ci_ne, ci_lt, ci_le, ci_gt, ci_ge, cs_eq, cs_ne, cb_eq, cb_ne, D.bin, D.slice, cut, sIx, isNon, h3, tk s kp]
    exact h0 _ mg (by omega) hfew
  · intro hf s kp
    simp [Tg.putV, Tg.put, Tg.puts, Tg.putF_eq, setAll, Tg.slots, Tg.slotss, wipe, indexV, D.index, atI, ixN, cmpV, deref, asB, asD, asDs, asI, bltV, lenDic, bltD, derefs, D.blt, D.bLen, D.bTuple, D.bList, D.seq, mthV, mthOk, setV, ci_eq, ci_ne, ci_lt, ci_le, ci_gt, ci_ge, cs_eq, cs_ne, cb_eq, cb_ne, D.bin, D.slice, cut, sIx, isNon, tk s kp]
    exact h1 hf
  · simp at hp; subst hp
    exact ⟨List.mem_append_left _ a.subs_self, List.mem_append_right _ b.subs_self⟩
  · cases i with
    | zero => simp at hp; subst hp; exact ⟨0, Nat.le_refl _, rfl⟩
    | succ i => simp at hp
  · constructor
    · intro h; exact ⟨fun x => rfl, fun p hp => by simp at hp; subst hp; exact h⟩
    · rintro ⟨_, h⟩; exact h (a, b) (by simp)
end
end Prog

namespace Prog
open Ir
set_option maxHeartbeats 4000000 in
theorem put_in_ok {T : Tab} (hT : T "_law_put_in" = some f_law_put_in) {st : Store} {d : Nat} {s : List Int} (hd : st[d]? = some (.dic (dL s))) : ∀ (k : Kd) (n : Nat), k.h + 1 ≤ n → (∀ i, k.has i → i ∈ s) → callN T n "_law_put_in" [.d k.d, .ref d] st = .ok (.d (k.map (ix s)).d) st := by
  intro k
  induction k with
  | int =>
    intro n hn hh
    obtain ⟨n, rfl⟩ : ∃ n', n = n' + 1 := ⟨n - 1, by omega⟩
    rw [callN_run hT]
    simp [runFn, f_law_put_in, Kd.d, indexV, D.index, atI, ixN, cmpV, deref, D.cmp, fine, D.dep, D.eqv, asB, asDs, asI, Tg.putV, D.slice, cut, sIx, asD, D.seq, compL, bltV, bltD, derefs, D.blt, D.bTuple, D.bin, LIM, leave, take_all, Kd.map]
  | bool =>
    intro n hn hh
    obtain ⟨n, rfl⟩ : ∃ n', n = n' + 1 := ⟨n - 1, by omega⟩
    rw [callN_run hT]
    simp [runFn, f_law_put_in, Kd.d, indexV, D.index, atI, ixN, cmpV, deref, D.cmp, fine, D.dep, D.eqv, asB, asDs, asI, Tg.putV, D.slice, cut, sIx, asD, D.seq, compL, bltV, bltD, derefs, D.blt, D.bTuple, D.bin, LIM, leave, take_all, Kd.map]
  | list a ih =>
    intro n hn hh
    obtain ⟨n, rfl⟩ : ∃ n', n = n' + 1 := ⟨n - 1, by omega⟩
    simp only [Kd.h] at hn
    have e1 := ih n (by omega) hh
    rw [callN_run hT]
    simp [runFn, f_law_put_in, Kd.d, indexV, D.index, atI, ixN, cmpV, deref, D.cmp, fine, D.dep, D.eqv, asB, asDs, asI, Tg.putV, D.slice, cut, sIx, asD, D.seq, compL, compStep, Tg.put, Tg.slots, wipe, e1, bltV, bltD, derefs, D.blt, D.bTuple, D.bin, LIM, leave, take_all, Kd.map]
  | fn a b iha ihb =>
    intro n hn hh
    obtain ⟨n, rfl⟩ : ∃ n', n = n' + 1 := ⟨n - 1, by omega⟩
    simp only [Kd.h] at hn
    have e1 := iha n (by omega) fun i q => hh i (.inl q)
    have e2 := ihb n (by omega) fun i q => hh i (.inr q)
    rw [callN_run hT]
    simp [runFn, f_law_put_in, Kd.d, indexV, D.index, atI, ixN, cmpV, deref, D.cmp, fine, D.dep, D.eqv, asB, asDs, asI, Tg.putV, D.slice, cut, sIx, asD, D.seq, compL, compStep, Tg.put, Tg.slots, wipe, e1, e2, bltV, bltD, derefs, D.blt, D.bTuple, D.bin, LIM, leave, take_all, Kd.map]
  | pair a b iha ihb =>
    intro n hn hh
    obtain ⟨n, rfl⟩ : ∃ n', n = n' + 1 := ⟨n - 1, by omega⟩
    simp only [Kd.h] at hn
    have e1 := iha n (by omega) fun i q => hh i (.inl q)
    have e2 := ihb n (by omega) fun i q => hh i (.inr q)
    rw [callN_run hT]
    simp [runFn, f_law_put_in, Kd.d, indexV, D.index, atI, ixN, cmpV, deref, D.cmp, fine, D.dep, D.eqv, asB, asDs, asI, Tg.putV, D.slice, cut, sIx, asD, D.seq, compL, compStep, Tg.put, Tg.slots, wipe, e1, e2, bltV, bltD, derefs, D.blt, D.bTuple, D.bin, LIM, leave, take_all, Kd.map]
  | free i =>
    intro n hn hh
    obtain ⟨n, rfl⟩ : ∃ n', n = n' + 1 := ⟨n - 1, by omega⟩
    have hk : lookK (dL s) (.int i) = some (.tup [.str "free", .int (ix s i)]) := by
      unfold dL; rw [lookK_dG, if_pos (hh i rfl)]
    rw [callN_run hT]
    simp [runFn, f_law_put_in, Kd.d, indexV, D.index, atI, ixN, cmpV, deref, D.cmp, fine, D.dep, D.eqv, asB, asDs, asI, mthOk, hd, mthV, mGet, D.key, hk, leave, take_all, Kd.map]
end Prog

namespace Prog
open Ir
def nmIn : List Stm := [.ite (.cmp .notin (.var 3) (.var 1)) [.set (.var 1) (.var 3) (.tup [.con (.str "free"), .blt .len [.var 1]])] []]
def nmOut : List Stm := [.loop (.name 3) (.call "_law_frees" [.var 2]) nmIn]
set_option maxHeartbeats 2000000 in
theorem nm_turn {C : Calls} {st : Store} {d : Nat} {s : List Int} {i : Int} {x0 x2 : Option Val} (hd : st[d]? = some (.dic (dL s))) (hl : s.length < LIM) :
    execs C nmIn [x0, some (.ref d), x2, some (.d (.int i))] st = .ok (.nx [x0, some (.ref d), x2, some (.d (.int i))]) (st.set d (.dic (dL (addI s i)))) := by
  have hk : lookK (dL s) (.int i) = if i ∈ s then some (.tup [.str "free", .int (ix s i)]) else none := by unfold dL; rw [lookK_dG]
  by_cases c : i ∈ s
  · simp [nmIn, cmpV, inB, hd, D.key, hk, c, asB, addI, set_same hd]
  · have hp : putK (dL s) (.int i) (.tup [.str "free", .int s.length]) = dL (s ++ [i]) := by
      unfold dL; rw [putK_dG _ c, dG_ext c (fun j => .tup [.str "free", .int j])]
    have hdl : (dL s).length = s.length := by unfold dL; rw [dG_len]
    simp [nmIn, cmpV, inB, hd, D.key, hk, c, asB, asDs, bltV, lenDic, setV, asD, hl, hdl, hp, addI]
theorem nm_loop {C : Calls} {d : Nat} {x0 x2 : Option Val} : ∀ (l : List Int) (st : Store) (s : List Int) (x3 : Option Val), st[d]? = some (.dic (dL s)) → s.length + l.length < LIM →
    ∃ x3', loopL (Tg.name 3).putF (execs C nmIn) (l.map .int) [x0, some (.ref d), x2, x3] st = .ok (.nx [x0, some (.ref d), x2, x3']) (st.set d (.dic (dL (l.foldl addI s))))
  | [], st, s, x3, hd, hl => ⟨x3, by simp [loopL, set_same hd]⟩
  | i :: l, st, s, x3, hd, hl => by
    have e := nm_turn (C := C) (i := i) (x0 := x0) (x2 := x2) hd (by simp at hl; omega)
    have ha := addI_len s i
    obtain ⟨x3', e2⟩ := nm_loop (C := C) (x0 := x0) (x2 := x2) l _ (addI s i) (some (.d (.int i))) (set_at hd _) (by simp at hl; omega)
    refine ⟨x3', ?_⟩
    simp only [List.set_set] at e2
    simp [loopL, Tg.putF_eq, Tg.put, e, e2]
theorem nm_outer {T : Tab} (hT : T "_law_frees" = some f_law_frees) {n d : Nat} {x0 : Option Val} : ∀ (ks : List Kd) (st : Store) (s : List Int) (x2 x3 : Option Val), (∀ k ∈ ks, k.h + 1 ≤ n) → st[d]? = some (.dic (dL s)) → s.length + tot ks < LIM →
    ∃ x2' x3', loopL (Tg.name 2).putF (execs (callN T n) nmOut) (ks.map Kd.d) [x0, some (.ref d), x2, x3] st = .ok (.nx [x0, some (.ref d), x2', x3']) (st.set d (.dic (dL (seenAll ks s))))
  | [], st, s, x2, x3, _, hd, hl => ⟨x2, x3, by simp [loopL, seenAll, set_same hd]⟩
  | k :: ks, st, s, x2, x3, hn, hd, hl => by
    have hk : tot (k :: ks) = k.parts + tot ks := by simp [tot]
    have e := frees_ok hT (st := st) k n (hn k (by simp)) (by omega)
    have hfl := k.fr_len
    obtain ⟨x3', e1⟩ := nm_loop (C := callN T n) (x0 := x0) (x2 := some (.d k.d)) k.fr st s x3 hd (by omega)
    rw [k.fr_seen] at e1
    have hsl := k.seen_len s
    obtain ⟨x2', x3'', e2⟩ := nm_outer hT (n := n) (x0 := x0) ks _ (k.seen s) (some (.d k.d)) x3' (fun k' h => hn k' (List.mem_cons_of_mem _ h)) (set_at hd _) (by omega)
    simp only [List.set_set] at e2
    refine ⟨x2', x3'', ?_⟩
    simp [loopL, Tg.putF_eq, Tg.put, nmOut, e, asD, D.seq, e1]
    simpa [nmOut, seenAll] using e2
set_option maxHeartbeats 2000000 in
theorem law_named_ok {T : Tab} (h1 : T "_law_frees" = some f_law_frees) (h2 : T "_law_put_in" = some f_law_put_in) (h3 : T "_law_named" = some f_law_named) {n : Nat} {st : Store} (ks : List Kd) (hn : ∀ k ∈ ks, k.h + 1 ≤ n) (hl : tot ks < LIM) :
    callN T (n + 1) "_law_named" [.d (.lst (ks.map Kd.d))] st = .ok (.d (.lst ((renAll ks []).map Kd.d))) st := by
  obtain ⟨x2, x3, e⟩ := nm_outer h1 (n := n) (d := st.length) (x0 := some (.d (.lst (ks.map Kd.d)))) ks (st ++ [.dic (dL [])]) [] none none hn (get_push st _) (by simpa using hl)
  rw [set_push] at e
  have e0 : dL [] = [] := rfl
  rw [e0] at e
  have ep := fun k hk => put_in_ok h2 (st := st ++ [.dic (dL (seenAll ks []))]) (d := st.length) (s := seenAll ks []) (get_push st _) k n (hn k hk) (fun i q => seenAll_has ks [] k i hk q)
  have ec := comp_const (f := compStep (eval (callN T n) (.call "_law_put_in" [.var 2, .var 1])) (conds (callN T n) []) (.name 2) [some (.d (.lst (ks.map Kd.d))), some (.ref st.length), none, x3]) (st := st ++ [.dic (dL (seenAll ks []))]) Kd.d (fun k => (k.map (ix (seenAll ks []))).d) ks (fun k hk => by
    simp [compStep, Tg.put, ep k hk, asD])
  rw [callN_run h3]
  unfold nmOut nmIn at e
  have hm : (renAll ks []).map Kd.d = ks.map fun k => (k.map (ix (seenAll ks []))).d := by rw [renAll_eq]; simp
  rw [hm]
  simp [runFn, f_law_named, Tg.putV, asD, D.seq, e, Tg.slots, wipe, ec, leave]
end Prog

namespace Prog
open Ir
theorem law_named1_ok {T : Tab} (h1 : T "_law_frees" = some f_law_frees) (h2 : T "_law_put_in" = some f_law_put_in) (h3 : T "_law_named" = some f_law_named) {n : Nat} {st : Store} (k : Kd) (hn : k.h + 1 ≤ n) (hl : k.fr.length ≤ 1000) :
    callN T (n + 1) "_law_named" [.d (.lst [k.d])] st = .ok (.d (.lst [(k.ren []).d])) st := by
  have e := frees_ok2 h1 (st := st ++ [.dic (dL [])]) k n hn hl
  obtain ⟨x3, e1⟩ := nm_loop (C := callN T n) (d := st.length) (x0 := some (.d (.lst [k.d]))) (x2 := some (.d k.d)) k.fr (st ++ [.dic (dL [])]) [] none (get_push st _) (by simp only [LIM]; simp; omega)
  rw [k.fr_seen, set_push] at e1
  have e0 : dL [] = [] := rfl
  rw [e0] at e e1
  have ep := put_in_ok h2 (st := st ++ [.dic (dL (k.seen []))]) (d := st.length) (s := k.seen []) (get_push st _) k n hn (fun i q => k.seen_has [] i q)
  rw [← k.ren_eq] at ep
  rw [callN_run h3]
  unfold nmIn at e1
  simp [runFn, f_law_named, Tg.putV, Tg.put, Tg.putF_eq, asD, D.seq, loopL, e, e1, Tg.slots, wipe, compL, compStep, ep, leave]
end Prog

namespace Prog
open Ir
/-! ### the bag of draws -/
def bagC (ns : List Int) (p r s c : Int) : Cell := .lst [.lst (ns.map .int), .int p, .int r, .int s, .int c]
def isBag (b : Cell) : Prop := ∃ (ns : List Int) (p : Nat) (r s c : Int), b = bagC ns p r s c ∧ (∀ x ∈ ns, 0 ≤ x) ∧ 0 ≤ r ∧ 0 ≤ s ∧ s < 2147483647
set_option maxHeartbeats 1000000 in
theorem draw_mid {T : Tab} (hT : T "_law_draw" = some f_law_draw) {n : Nat} {st : Store} {B : Nat} {ns : List Int} {p r s c many : Int} (hB : st[B]? = some (bagC ns p r s c)) (hr : r ≠ 0) (hm : 0 < many) (hb : bigOk many = true) :
    callN T (n + 1) "_law_draw" [.ref B, .d (.int many)] st = .ok (.d (.int (r % many))) (st.set B (bagC ns p (r / many) s c)) := by
  have hs := set_at hB
  unfold bagC at hB ⊢
  simp [callN, hT, runFn, f_law_draw, indexV, hB, hs, D.index, atI, ixN, cmpV, deref, D.cmp, fine, D.dep, D.eqv, asB, hr, hm, hb, D.bin, Tg.putV, setV, asD, leave, take_set]
set_option maxHeartbeats 1000000 in
theorem draw_next {T : Tab} (hT : T "_law_draw" = some f_law_draw) {n : Nat} {st : Store} {B : Nat} {ns : List Int} {s c many : Int} {p : Nat} (hB : st[B]? = some (bagC ns p 0 s c)) (hp : p < ns.length) (hm : 0 < many) (hb : bigOk many = true) :
    callN T (n + 1) "_law_draw" [.ref B, .d (.int many)] st = .ok (.d (.int (ns[p] % many))) (st.set B (bagC ns (p + 1) (ns[p] / many) s c)) := by
  have hs := set_at hB
  unfold bagC at hB ⊢
  simp [callN, hT, runFn, f_law_draw, indexV, hB, hs, D.index, atI, ixN, cmpV, deref, D.cmp, fine, D.dep, D.eqv, asB, hp, hm, hb, D.bin, Tg.putV, setV, asD, leave, take_set, bltV, lenDic, bltD, derefs, D.blt, D.bLen]
def stirBody : List Stm := [.set (.var 0) (.con (.int 4)) (.bin .add (.idx (.var 0) (.con (.int 4))) (.con (.int 1))),
    .set (.var 0) (.con (.int 3)) (.bin .mod (.bin .add (.bin .add (.bin .add (.bin .pow (.idx (.var 0) (.con (.int 3))) (.con (.int 3))) (.bin .mul (.con (.int 69621)) (.idx (.var 0) (.con (.int 3))))) (.bin .mul (.con (.int 1031)) (.idx (.var 0) (.con (.int 4))))) (.con (.int 1))) (.con (.int 2147483647))),
    .asg (.name 2) (.bin .add (.bin .mul (.var 2) (.con (.int 134217728))) (.bin .fdiv (.idx (.var 0) (.con (.int 3))) (.con (.int 16))))]
set_option maxHeartbeats 2000000 in
theorem stir_turn {C : Calls} {st : Store} {B : Nat} {ns : List Int} {p r s c many found : Int} {x : D} (hB : st[B]? = some (bagC ns p r s c)) (h0 : 0 ≤ s) (h1 : s < 2147483647) :
    ∃ s', (0 ≤ s' ∧ s' < 2147483647) ∧ execs C stirBody [some (.ref B), some (.d (.int many)), some (.d (.int found)), some (.d x)] st = .ok (.nx [some (.ref B), some (.d (.int many)), some (.d (.int (found * 134217728 + s' / 16))), some (.d x)]) (st.set B (bagC ns p r s' (c + 1))) := by
  refine ⟨(s ^ 3 + 69621 * s + 1031 * (c + 1) + 1) % 2147483647, ⟨Int.emod_nonneg _ (by decide), Int.emod_lt_of_pos _ (by decide)⟩, ?_⟩
  have hs := set_at hB
  have hbs := big_of_small h0 h1
  unfold bagC at hB ⊢
  simp [stirBody, indexV, hB, hs, D.index, atI, ixN, deref, D.bin, Tg.putV, setV, asD, smallOk_lit, bigOk_lit, hbs]
theorem stir_loop {C : Calls} {B : Nat} {ns : List Int} {p r many : Int} : ∀ (xs : List D) (st : Store) (s c found : Int) (k : Option Val), st[B]? = some (bagC ns p r s c) → 0 ≤ s → s < 2147483647 →
    ∃ s' c' found' k', (0 ≤ s' ∧ s' < 2147483647) ∧ loopL (Tg.name 3).putF (execs C stirBody) xs [some (.ref B), some (.d (.int many)), some (.d (.int found)), k] st = .ok (.nx [some (.ref B), some (.d (.int many)), some (.d (.int found')), k']) (st.set B (bagC ns p r s' c'))
  | [], st, s, c, found, k, hB, h0, h1 => by
    refine ⟨s, c, found, k, ⟨h0, h1⟩, ?_⟩
    have : st.set B (bagC ns p r s c) = st := by
      apply List.ext_getElem?
      intro i
      by_cases e : B = i
      · subst e; rw [set_at hB, hB]
      · rw [List.getElem?_set_ne e]
    simp [loopL, this]
  | x :: xs, st, s, c, found, k, hB, h0, h1 => by
    obtain ⟨s1, ⟨g0, g1⟩, e⟩ := stir_turn (C := C) (many := many) (found := found) (x := x) hB h0 h1
    obtain ⟨s', c', f', k', hs', e2⟩ := stir_loop (C := C) (many := many) xs (st.set B (bagC ns p r s1 (c + 1))) s1 (c + 1) (found * 134217728 + s1 / 16) (some (.d x)) (set_at hB _) g0 g1
    refine ⟨s', c', f', k', hs', ?_⟩
    simp [loopL, Tg.putF_eq, Tg.put, e, e2]
theorem bits_le {i : Int} (h : bigOk i = true) : intBits i ≤ 4000 := by
  unfold bigOk at h
  have h1 := of_decide_eq_true h
  unfold intBits
  split
  · omega
  · rename_i h0
    exact (Nat.log2_lt h0).mpr h1
theorem range_ok {a : Nat} (h : a ≤ 4000) : D.bRange [.int (1 + (a : Int) / 27)] = some (.lst (rangeL 0 (1 + (a : Int) / 27).toNat)) := by
  have hL : (LIM : Int) = 16777216 := by decide
  simp only [D.bRange]
  rw [if_pos (by omega)]
set_option maxHeartbeats 2000000 in
theorem stirred_ok {T : Tab} (hT : T "_law_stirred" = some f_law_stirred) {n : Nat} {st : Store} {B : Nat} {ns : List Int} {p r s c many : Int} (hB : st[B]? = some (bagC ns p r s c)) (h0 : 0 ≤ s) (h1 : s < 2147483647) (hm : 0 < many) (hb : bigOk many = true) :
    ∃ s' c' d, (0 ≤ s' ∧ s' < 2147483647) ∧ (0 ≤ d ∧ d < many) ∧ callN T (n + 1) "_law_stirred" [.ref B, .d (.int many)] st = .ok (.d (.int d)) (st.set B (bagC ns p r s' c')) := by
  have hbits := bits_le hb
  obtain ⟨s', c', f', k', hs', e⟩ := stir_loop (C := callN T n) (many := many) (rangeL 0 (1 + ((intBits many : Nat) : Int) / 27).toNat) st s c 0 none hB h0 h1
  refine ⟨s', c', f' % many, hs', ⟨Int.emod_nonneg _ (by omega), Int.emod_lt_of_pos _ hm⟩, ?_⟩
  unfold stirBody at e
  simp [callN, hT, runFn, f_law_stirred, mthOk, mthV, mBits, deref, D.bin, Tg.putV, bltV, bltD, derefs, D.blt, range_ok hbits, asD, D.seq, bigOk_lit, e, hm, leave, take_set]
theorem draw_ok {T : Tab} (hT : T "_law_draw" = some f_law_draw) (hT2 : T "_law_stirred" = some f_law_stirred) {n : Nat} {st : Store} {B : Nat} {b : Cell} {many : Int} (hB : st[B]? = some b) (ib : isBag b) (hm : 0 < many) (hb : bigOk many = true) :
    ∃ d b', (0 ≤ d ∧ d < many) ∧ isBag b' ∧ callN T (n + 2) "_law_draw" [.ref B, .d (.int many)] st = .ok (.d (.int d)) (st.set B b') := by
  obtain ⟨ns, p, r, s, c, rfl, hns, hr, h0, h1⟩ := ib
  by_cases hr0 : r = 0
  · subst hr0
    by_cases hp : p < ns.length
    · refine ⟨_, _, ⟨Int.emod_nonneg _ (by omega), Int.emod_lt_of_pos _ hm⟩, ⟨ns, p + 1, ns[p] / many, s, c, by simp, hns, Int.ediv_nonneg (hns _ (List.getElem_mem hp)) (by omega), h0, h1⟩, draw_next hT hB hp hm hb⟩
    · obtain ⟨s', c', d, hs', hd, e⟩ := stirred_ok hT2 (n := n) hB h0 h1 hm hb
      refine ⟨d, _, hd, ⟨ns, p, 0, s', c', rfl, hns, by omega, hs'⟩, ?_⟩
      have hs := set_at hB
      unfold bagC at hB e ⊢
      have hp' : ¬ ((p : Int) < (ns.length : Int)) := by omega
      rw [show n + 2 = (n + 1) + 1 from rfl, callN]
      simp [hT, runFn, f_law_draw, indexV, hB, hs, D.index, atI, ixN, cmpV, deref, D.cmp, fine, D.dep, D.eqv, asB, hp, hp', hm, hb, D.bin, Tg.putV, setV, asD, leave, take_set, bltV, lenDic, bltD, derefs, D.blt, D.bLen, e]
  · exact ⟨_, _, ⟨Int.emod_nonneg _ (by omega), Int.emod_lt_of_pos _ hm⟩, ⟨ns, p, r / many, s, c, rfl, hns, Int.ediv_nonneg hr (by omega), h0, h1⟩, draw_mid hT hB hr0 hm hb⟩
/-! ### the bag at its start -/
def bagBody : List Stm := [.asg (.name 1) (.bin .mod (.bin .add (.bin .add (.bin .mul (.var 1) (.con (.int 48271))) (.bin .mod (.var 2) (.con (.int 2147483629)))) (.con (.int 1))) (.con (.int 2147483647)))]
theorem bag_loop {C : Calls} {st : Store} {x0 : Option Val} : ∀ (l : List Int) (s : Int) (x2 : Option Val), 0 ≤ s → s < 2147483647 →
    ∃ s' x2', (0 ≤ s' ∧ s' < 2147483647) ∧ loopL (Tg.name 2).putF (execs C bagBody) (l.map .int) [x0, some (.d (.int s)), x2] st = .ok (.nx [x0, some (.d (.int s')), x2']) st
  | [], s, x2, h0, h1 => ⟨s, x2, ⟨h0, h1⟩, by simp [loopL]⟩
  | i :: l, s, x2, h0, h1 => by
    obtain ⟨s', x2', hs, e⟩ := bag_loop (C := C) (st := st) (x0 := x0) l ((s * 48271 + i % 2147483629 + 1) % 2147483647) (some (.d (.int i))) (Int.emod_nonneg _ (by decide)) (Int.emod_lt_of_pos _ (by decide))
    refine ⟨s', x2', hs, ?_⟩
    simp [loopL, Tg.putF_eq, Tg.put, bagBody, deref, D.bin, smallOk_lit, Tg.putV]
    simpa [bagBody] using e
set_option maxHeartbeats 2000000 in
theorem bag_ok {T : Tab} (hT : T "_law_bag" = some f_law_bag) {n : Nat} {st : Store} (ns : List Int) :
    ∃ b, isBag b ∧ callN T (n + 1) "_law_bag" [.d (.ro (ns.map .int))] st = .ok (.ref st.length) (st ++ [b]) := by
  obtain ⟨ms, hms⟩ : ∃ ms, ms = ns.take 63 := ⟨_, rfl⟩
  obtain ⟨s, x2, ⟨h0, h1⟩, e⟩ := bag_loop (C := callN T n) (st := st) (x0 := some (.d (.ro (ns.map .int)))) ms 19 none (by decide) (by decide)
  have hcut : cut (ns.map D.int) none (some 63) = ms.map .int := by
    rw [hms]
    simp [cut, sIx, List.map_take]
  have hpow : (0 : Int) < (10 ^ 60) ^ 10 := pow_lits.2.2
  have ec := comp_const (f := compStep (eval (callN T n) (.bin .mod (.blt .abs [.var 2]) (.bin .pow (.bin .pow (.con (.int 10)) (.con (.int 60))) (.con (.int 10))))) (conds (callN T n) []) (.name 2) [some (.d (.ro (ns.map .int))), some (.d (.int s)), none]) (st := st) D.int (fun i => D.int ((if i < 0 then -i else i) % (10 ^ 60) ^ 10)) ms (fun i hi => by
    simp [compStep, Tg.put, bltV, bltD, derefs, deref, D.blt, D.bAbs, D.bin, pow_lits.1, bigOk_60, asD])
  refine ⟨bagC (ms.map fun i => (if i < 0 then -i else i) % (10 ^ 60) ^ 10) (0 : Nat) 0 s 0, ⟨_, 0, 0, s, 0, rfl, ?_, by omega, h0, h1⟩, ?_⟩
  · intro x hx
    obtain ⟨i, _, rfl⟩ := List.mem_map.mp hx
    exact Int.emod_nonneg _ (by omega)
  · rw [callN_run hT]
    unfold bagBody at e
    simp [runFn, f_law_bag, Tg.putV, asI, deref, D.slice, hcut, asD, D.seq, e, Tg.slots, wipe, ec, asDs, leave, bagC]
end Prog

namespace Prog
open Ir
def AnyKind (T : Tab) (B : Nat) (fs : List Int) (m : Nat) : Prop := ∀ (n : Nat) (st : Store) (b : Cell), m + 3 ≤ n → st[B]? = some b → isBag b →
    ∃ k b', k.parts ≤ m ∧ isBag b' ∧ callN T n "_law_any_kind" [.ref B, .d (.lst (fs.map .int)), .d (.int m)] st = .ok (.d (Kd.d k)) (st.set B b')
set_option maxHeartbeats 4000000 in
theorem any_kind_ok {T : Tab} (h1 : T "_law_draw" = some f_law_draw) (h2 : T "_law_stirred" = some f_law_stirred) (h3 : T "_law_any_kind" = some f_law_any_kind) {B : Nat} {fs : List Int} (hf : fs.length < 1000) :
    ∀ m : Nat, 1 ≤ m → m ≤ 1000 → AnyKind T B fs m := by
  intro m
  induction m using Nat.strongRecOn with
  | ind m ih =>
    intro hm1 hm2 n st b hn hB ib
    obtain ⟨n, rfl⟩ : ∃ n', n = n' + 3 := ⟨n - 3, by omega⟩
    obtain ⟨d1, b1, ⟨d10, d11⟩, ib1, e1⟩ := draw_ok h1 h2 (n := n) (many := 8) hB ib (by decide) (by decide +kernel)
    have hB1 := set_at hB b1
    have ne : ∀ fs : List Int, D.cmp .ne (.lst (fs.map .int)) (.lst []) = some (!fs.isEmpty) := fun fs => by
      cases fs with
      | nil => simp [D.cmp, fine, D.dep, D.depAll, D.eqv, D.eqvAll]
      | cons i r => simp [D.cmp, fine, D.dep, D.depAll, D.eqv, D.eqvAll, depAll_int]
    by_cases c1 : (m : Int) < 2 ∨ d1 < 2
    · by_cases c2 : fs = []
      · subst c2
        obtain ⟨d2, b2, ⟨d20, d21⟩, ib2, e2⟩ := draw_ok h1 h2 (n := n) (many := 2) hB1 ib1 (by decide) (by decide +kernel)
        simp only [List.set_set] at e2
        have hd2 : d2 = 0 ∨ d2 = 1 := by omega
        refine ⟨if d2 = 0 then .int else .bool, b2, by split <;> (simp [Kd.parts]; omega), ib2, ?_⟩
        rw [show n + 3 = (n + 2) + 1 from rfl, callN_run h3]
        rcases c1 with c1 | c1 <;> rcases hd2 with rfl | rfl <;>
        simp [runFn, f_law_any_kind, e1, cmpV, deref, D.cmp, c1, asB, asDs, Tg.putV, fine, D.dep, D.depAll, D.eqv, D.eqvAll, e2, indexV, D.index, atI, ixN, leave, take_set, Kd.d]
      · obtain ⟨d2, b2, ⟨d20, d21⟩, ib2, e2⟩ := draw_ok h1 h2 (n := n) (many := 4) hB1 ib1 (by decide) (by decide +kernel)
        have hB2 := set_at hB1 b2
        have hfe : fs.isEmpty = false := by cases fs <;> simp_all
        simp only [List.set_set] at e2 hB2
        by_cases c3 : 0 < d2
        · have hfl : 0 < fs.length := by cases fs <;> simp_all
          obtain ⟨d3, b3, ⟨d30, d31⟩, ib3, e3⟩ := draw_ok h1 h2 (n := n) (many := (fs.length : Int)) hB2 ib2 (by omega) (big_le (by omega) (by omega))
          simp only [List.set_set] at e3
          obtain ⟨x, hx, hx2⟩ := atI_nat (xs := fs.map D.int) d30 (by simpa using d31)
          rw [List.getElem?_map] at hx
          obtain ⟨i, hi, rfl⟩ := Option.map_eq_some_iff.mp hx
          refine ⟨.free i, b3, by simp [Kd.parts]; omega, ib3, ?_⟩
          rw [show n + 3 = (n + 2) + 1 from rfl, callN_run h3]
          rcases c1 with c1 | c1 <;>
          simp [runFn, f_law_any_kind, e1, cmpV, deref, c1, ne, hfe, asB, asDs, Tg.putV, e2, e3, c3, bltV, lenDic, bltD, derefs, D.blt, D.bLen, indexV, D.index, hx2, leave, take_set, Kd.d, show ∀ a b : Int, D.cmp .lt (.int a) (.int b) = some (decide (a < b)) from fun _ _ => rfl, show ∀ a b : Int, D.cmp .gt (.int a) (.int b) = some (decide (a > b)) from fun _ _ => rfl]
        · obtain ⟨d3, b3, ⟨d30, d31⟩, ib3, e3⟩ := draw_ok h1 h2 (n := n) (many := 2) hB2 ib2 (by decide) (by decide +kernel)
          simp only [List.set_set] at e3
          have hd3 : d3 = 0 ∨ d3 = 1 := by omega
          refine ⟨if d3 = 0 then .int else .bool, b3, by split <;> (simp [Kd.parts]; omega), ib3, ?_⟩
          rw [show n + 3 = (n + 2) + 1 from rfl, callN_run h3]
          rcases c1 with c1 | c1 <;> rcases hd3 with rfl | rfl <;>
          simp [runFn, f_law_any_kind, e1, cmpV, deref, c1, ne, hfe, asB, asDs, Tg.putV, e2, e3, c3, indexV, D.index, atI, ixN, leave, take_set, Kd.d, show ∀ a b : Int, D.cmp .lt (.int a) (.int b) = some (decide (a < b)) from fun _ _ => rfl, show ∀ a b : Int, D.cmp .gt (.int a) (.int b) = some (decide (a > b)) from fun _ _ => rfl]
    · have c1a : ¬ (m : Int) < 2 := fun h => c1 (.inl h)
      have c1b : ¬ d1 < 2 := fun h => c1 (.inr h)
      by_cases c2 : (m : Int) < 3 ∨ d1 = 2
      · obtain ⟨k, b2, hk, ib2, e2⟩ := ih (m - 1) (by omega) (by omega) (by omega) (n + 2) (st.set B b1) b1 (by omega) hB1 ib1
        simp only [List.set_set] at e2
        have em : ((m - 1 : Nat) : Int) = (m : Int) - 1 := by omega
        rw [em] at e2
        refine ⟨.list k, b2, by simp [Kd.parts]; omega, ib2, ?_⟩
        rw [show n + 3 = (n + 2) + 1 from rfl, callN_run h3]
        rcases c2 with c2 | c2 <;>
        simp [runFn, f_law_any_kind, e1, cmpV, deref, c1a, c1b, c2, asB, asDs, Tg.putV, e2, leave, take_set, Kd.d, D.cmp, D.bin, fine, D.dep, D.eqv]
      · have c2a : ¬ (m : Int) < 3 := fun h => c2 (.inl h)
        have c2b : ¬ d1 = 2 := fun h => c2 (.inr h)
        obtain ⟨d2, b2, ⟨d20, d21⟩, ib2, e2⟩ := draw_ok h1 h2 (n := n) (many := (m : Int) - 2) hB1 ib1 (by omega) (big_le (by omega) (by omega))
        have hB2 := set_at hB1 b2
        simp only [List.set_set] at e2 hB2
        obtain ⟨k3, b3, hk3, ib3, e3⟩ := ih (1 + d2).toNat (by omega) (by omega) (by omega) (n + 2) _ b2 (by omega) hB2 ib2
        have hB3 := set_at hB2 b3
        simp only [List.set_set] at e3 hB3
        obtain ⟨k4, b4, hk4, ib4, e4⟩ := ih ((m : Int) - 1 - (1 + d2)).toNat (by omega) (by omega) (by omega) (n + 2) _ b3 (by omega) hB3 ib3
        simp only [List.set_set] at e4
        have em3 : (((1 + d2).toNat : Nat) : Int) = 1 + d2 := by omega
        have em4 : ((((m : Int) - 1 - (1 + d2)).toNat : Nat) : Int) = (m : Int) - 1 - (1 + d2) := by omega
        rw [em3] at e3
        rw [em4] at e4
        have hmod : d1 % 2 = 0 ∨ d1 % 2 = 1 := by omega
        refine ⟨if d1 % 2 = 0 then .fn k3 k4 else .pair k3 k4, b4, by split <;> (simp [Kd.parts]; omega), ib4, ?_⟩
        rw [show n + 3 = (n + 2) + 1 from rfl, callN_run h3]
        rcases hmod with hmod | hmod <;>
        simp [runFn, f_law_any_kind, e1, cmpV, deref, c1a, c1b, c2a, c2b, asB, asDs, Tg.putV, e2, e3, e4, leave, take_set, Kd.d, D.cmp, D.bin, fine, D.dep, D.eqv, hmod, indexV, D.index, atI, ixN]
end Prog

namespace Prog
open Ir
def Bag (st : Store) (B : Nat) : Prop := ∃ b, st[B]? = some b ∧ isBag b
/-- the same cells, but for the bag's -/
def Kp (B : Nat) (st s : Store) : Prop := s.length = st.length ∧ ∀ i, i ≠ B → s[i]? = st[i]?
theorem Kp.refl (B : Nat) (st : Store) : Kp B st st := ⟨rfl, fun _ _ => rfl⟩
theorem Kp.trans {B : Nat} {a b c : Store} (h : Kp B a b) (k : Kp B b c) : Kp B a c := ⟨k.1.trans h.1, fun i hn => (k.2 i hn).trans (h.2 i hn)⟩
theorem Kp.keep {B : Nat} {a b : Store} (h : Kp B a b) : Keep B a b := ⟨by rw [h.1]; exact Nat.le_refl _, fun i _ hn => h.2 i hn⟩
theorem Kp.of {B : Nat} {a b : Store} (h : Keep B a b) : Kp B a (b.take a.length) :=
  ⟨h.len, fun i hn => by
    by_cases hi : i < a.length
    · exact h.take.2 i hi hn
    · rw [List.getElem?_eq_none (by rw [h.len]; omega), List.getElem?_eq_none (by omega)]⟩
theorem Kp.take {B : Nat} {a b : Store} (h : Kp B a b) : b.take a.length = b := List.take_of_length_le (by rw [h.1]; exact Nat.le_refl _)
theorem Kp.set {B : Nat} (a : Store) (c : Cell) : Kp B a (a.set B c) := ⟨by simp, fun i hn => List.getElem?_set_ne (Ne.symm hn)⟩
theorem Bag.lt {st : Store} {B : Nat} (h : Bag st B) : B < st.length := let ⟨_, e, _⟩ := h; (List.getElem?_eq_some_iff.mp e).1
theorem Bag.take {s : Store} {B m : Nat} (h : Bag s B) (hm : B < m) : Bag (s.take m) B := let ⟨b, e, i⟩ := h; ⟨b, by rw [List.getElem?_take, if_pos hm]; exact e, i⟩
theorem Bag.push {s : Store} {B : Nat} (h : Bag s B) (c : Cell) : Bag (s ++ [c]) B := let ⟨b, e, i⟩ := h; ⟨b, push_get e c, i⟩
theorem Bag.pushes {s : Store} {B : Nat} (h : Bag s B) (c : Store) : Bag (s ++ c) B := let ⟨b, e, i⟩ := h; ⟨b, by rw [List.getElem?_append_left (List.getElem?_eq_some_iff.mp e).1]; exact e, i⟩
theorem Bag.keep {a s : Store} {B X : Nat} (h : Bag a B) (k : Kp X a s) (hn : B ≠ X) : Bag s B := let ⟨b, e, i⟩ := h; ⟨b, by rw [k.2 B hn]; exact e, i⟩
theorem draw_wp {n : Nat} {st : Store} {B : Nat} {many : Int} {pp : Post Val} (hB : Bag st B) (hm : 0 < many) (hb : bigOk many = true) (hn : 2 ≤ n)
    (k : ∀ d s, 0 ≤ d → d < many → Bag s B → Kp B st s → pp.q (.d (.int d)) s) : @Wp _ (callN T n "_law_draw" [.ref B, .d (.int many)] st) pp := by
  obtain ⟨n, rfl⟩ : ∃ n', n = n' + 2 := ⟨n - 2, by omega⟩
  obtain ⟨b, e, ib⟩ := hB
  obtain ⟨d, b', ⟨d0, d1⟩, ib', e'⟩ := draw_ok T_f_law_draw T_f_law_stirred (n := n) e ib hm hb
  rw [e', wp_ok]
  exact k d _ d0 d1 ⟨b', set_at e b', ib'⟩ (.set st b')
theorem big_of {i : Int} (h0 : 0 ≤ i) (h : i < 2147483647) : bigOk i = true := big_of_small h0 h
theorem bag_wp {n : Nat} {st : Store} {pp : Post Val} (ns : List Int) (hn : 1 ≤ n)
    (k : ∀ s, Bag s st.length → s.length = st.length + 1 → Keep st.length st s → pp.q (.ref st.length) s) : @Wp _ (callN T n "_law_bag" [.d (.ro (ns.map .int))] st) pp := by
  obtain ⟨n, rfl⟩ : ∃ n', n = n' + 1 := ⟨n - 1, by omega⟩
  obtain ⟨b, ib, e⟩ := bag_ok T_f_law_bag (n := n) (st := st) ns
  rw [e, wp_ok]
  exact k _ ⟨b, get_push st b, ib⟩ (by simp) ((Keep.refl _ st).push b)
end Prog

namespace Prog
open Ir
theorem any_kind_wp {n : Nat} {st : Store} {B : Nat} {fs : List Int} {m : Int} {pp : Post Val} (hB : Bag st B) (hf : fs.length < 1000) (h1 : 1 ≤ m) (h2 : m ≤ 1000) (hn : m + 3 ≤ n)
    (k : ∀ kd s, (Kd.parts kd : Int) ≤ m → Bag s B → Kp B st s → pp.q (.d kd.d) s) : @Wp _ (callN T n "_law_any_kind" [.ref B, .d (.lst (fs.map .int)), .d (.int m)] st) pp := by
  obtain ⟨b, e, ib⟩ := hB
  obtain ⟨kd, b', hk, ib', e'⟩ := any_kind_ok T_f_law_draw T_f_law_stirred T_f_law_any_kind (B := B) hf m.toNat (by omega) (by omega) n st b (by omega) e ib
  rw [show ((m.toNat : Nat) : Int) = m by omega] at e'
  rw [e', wp_ok]
  exact k kd _ (by omega) ⟨b', set_at e b', ib'⟩ (.set st b')
end Prog

namespace Prog
open Ir
set_option maxHeartbeats 8000000 in
theorem bent_kind_wp {B : Nat} {fs : List Int} (hf : fs.length < 1000) : ∀ (kd : Kd) (n : Nat) (st : Store) (pp : Post Val), Bag st B → kd.h + 8 ≤ n →
    (∀ k' s, k'.parts ≤ kd.parts + 3 → Bag s B → Kp B st s → pp.q (.d (Kd.d k')) s) → @Wp _ (callN T n "_law_bent_kind" [.ref B, .d kd.d, .d (.lst (fs.map .int))] st) pp := by
  intro kd
  induction kd with
  | fn a b iha ihb =>
    intro n st pp hB hn k
    simp only [Kd.h, Kd.parts] at hn k
    obtain ⟨n, rfl⟩ : ∃ n', n = n' + 1 := ⟨n - 1, by omega⟩
    rw [callN_run T_f_law_bent_kind]
    simp [Tg.putV, Tg.put, Tg.puts, Tg.putF_eq, setAll, Tg.slots, Tg.slotss, wipe, indexV, D.index, atI, ixN, cmpV, deref, asB, asD, asDs, asI, bltV, lenDic, bltD, derefs, D.blt, D.bLen, D.bTuple, D.bList, D.seq, mthV, mthOk, setV, ci_eq, ci_ne, ci_lt, ci_le, ci_gt, ci_ge, cs_eq, cs_ne, cb_eq, cb_ne, D.bin, D.slice, cut, sIx, isNon, f_law_bent_kind, Kd.d]
    refine draw_wp hB (by decide) (by decide +kernel) (by omega) fun d s1 d0 d1 hB1 k1 => ?_
    simp [Tg.putV, Tg.put, Tg.puts, Tg.putF_eq, setAll, Tg.slots, Tg.slotss, wipe, indexV, D.index, atI, ixN, cmpV, deref, asB, asD, asDs, asI, bltV, lenDic, bltD, derefs, D.blt, D.bLen, D.bTuple, D.bList, D.seq, mthV, mthOk, setV, ci_eq, ci_ne, ci_lt, ci_le, ci_gt, ci_ge, cs_eq, cs_ne, cb_eq, cb_ne, D.bin, D.slice, cut, sIx, isNon]
    refine ⟨fun c => ?_, fun c => ?_⟩
    · refine draw_wp hB1 (by decide) (by decide +kernel) (by omega) fun e s2 e0 e1 hB2 k2 => ?_
      have he : e = 0 ∨ e = 1 := by omega
      rcases he with rfl | rfl
      · simp [Tg.putV, Tg.put, Tg.puts, Tg.putF_eq, setAll, Tg.slots, Tg.slotss, wipe, indexV, D.index, atI, ixN, cmpV, deref, asB, asD, asDs, asI, bltV, lenDic, bltD, derefs, D.blt, D.bLen, D.bTuple, D.bList, D.seq, mthV, mthOk, setV, ci_eq, ci_ne, ci_lt, ci_le, ci_gt, ci_ge, cs_eq, cs_ne, cb_eq, cb_ne, D.bin, D.slice, cut, sIx, isNon]
        refine iha n s2 _ hB2 (by omega) fun k' s3 hk hB3 k3 => ?_
        simp [Tg.putV, Tg.put, Tg.puts, Tg.putF_eq, setAll, Tg.slots, Tg.slotss, wipe, indexV, D.index, atI, ixN, cmpV, deref, asB, asD, asDs, asI, bltV, lenDic, bltD, derefs, D.blt, D.bLen, D.bTuple, D.bList, D.seq, mthV, mthOk, setV, ci_eq, ci_ne, ci_lt, ci_le, ci_gt, ci_ge, cs_eq, cs_ne, cb_eq, cb_ne, D.bin, D.slice, cut, sIx, isNon, LIM]
        rw [((k1.trans k2).trans k3).take]
        exact k (.fn k' b) s3 (by simp only [Kd.parts]; omega) hB3 ((k1.trans k2).trans k3)
      · simp [Tg.putV, Tg.put, Tg.puts, Tg.putF_eq, setAll, Tg.slots, Tg.slotss, wipe, indexV, D.index, atI, ixN, cmpV, deref, asB, asD, asDs, asI, bltV, lenDic, bltD, derefs, D.blt, D.bLen, D.bTuple, D.bList, D.seq, mthV, mthOk, setV, ci_eq, ci_ne, ci_lt, ci_le, ci_gt, ci_ge, cs_eq, cs_ne, cb_eq, cb_ne, D.bin, D.slice, cut, sIx, isNon]
        refine ihb n s2 _ hB2 (by omega) fun k' s3 hk hB3 k3 => ?_
        simp [Tg.putV, Tg.put, Tg.puts, Tg.putF_eq, setAll, Tg.slots, Tg.slotss, wipe, indexV, D.index, atI, ixN, cmpV, deref, asB, asD, asDs, asI, bltV, lenDic, bltD, derefs, D.blt, D.bLen, D.bTuple, D.bList, D.seq, mthV, mthOk, setV, ci_eq, ci_ne, ci_lt, ci_le, ci_gt, ci_ge, cs_eq, cs_ne, cb_eq, cb_ne, D.bin, D.slice, cut, sIx, isNon, LIM]
        rw [((k1.trans k2).trans k3).take]
        exact k (.fn a k') s3 (by simp only [Kd.parts]; omega) hB3 ((k1.trans k2).trans k3)
    · refine draw_wp hB1 (by decide) (by decide +kernel) (by omega) fun e s2 e0 e1 hB2 k2 => ?_
      simp [Tg.putV, Tg.put, Tg.puts, Tg.putF_eq, setAll, Tg.slots, Tg.slotss, wipe, indexV, D.index, atI, ixN, cmpV, deref, asB, asD, asDs, asI, bltV, lenDic, bltD, derefs, D.blt, D.bLen, D.bTuple, D.bList, D.seq, mthV, mthOk, setV, ci_eq, ci_ne, ci_lt, ci_le, ci_gt, ci_ge, cs_eq, cs_ne, cb_eq, cb_ne, D.bin, D.slice, cut, sIx, isNon]
      refine any_kind_wp hB2 hf (by omega) (by omega) (by omega) fun kd s3 hk hB3 k3 => ?_
      simp [((k1.trans k2).trans k3).take]
      exact k kd s3 (by omega) hB3 ((k1.trans k2).trans k3)
  | pair a b iha ihb =>
    intro n st pp hB hn k
    simp only [Kd.h, Kd.parts] at hn k
    obtain ⟨n, rfl⟩ : ∃ n', n = n' + 1 := ⟨n - 1, by omega⟩
    rw [callN_run T_f_law_bent_kind]
    simp [Tg.putV, Tg.put, Tg.puts, Tg.putF_eq, setAll, Tg.slots, Tg.slotss, wipe, indexV, D.index, atI, ixN, cmpV, deref, asB, asD, asDs, asI, bltV, lenDic, bltD, derefs, D.blt, D.bLen, D.bTuple, D.bList, D.seq, mthV, mthOk, setV, ci_eq, ci_ne, ci_lt, ci_le, ci_gt, ci_ge, cs_eq, cs_ne, cb_eq, cb_ne, D.bin, D.slice, cut, sIx, isNon, f_law_bent_kind, Kd.d]
    refine draw_wp hB (by decide) (by decide +kernel) (by omega) fun d s1 d0 d1 hB1 k1 => ?_
    simp [Tg.putV, Tg.put, Tg.puts, Tg.putF_eq, setAll, Tg.slots, Tg.slotss, wipe, indexV, D.index, atI, ixN, cmpV, deref, asB, asD, asDs, asI, bltV, lenDic, bltD, derefs, D.blt, D.bLen, D.bTuple, D.bList, D.seq, mthV, mthOk, setV, ci_eq, ci_ne, ci_lt, ci_le, ci_gt, ci_ge, cs_eq, cs_ne, cb_eq, cb_ne, D.bin, D.slice, cut, sIx, isNon]
    refine ⟨fun c => ?_, fun c => ?_⟩
    · refine draw_wp hB1 (by decide) (by decide +kernel) (by omega) fun e s2 e0 e1 hB2 k2 => ?_
      have he : e = 0 ∨ e = 1 := by omega
      rcases he with rfl | rfl
      · simp [Tg.putV, Tg.put, Tg.puts, Tg.putF_eq, setAll, Tg.slots, Tg.slotss, wipe, indexV, D.index, atI, ixN, cmpV, deref, asB, asD, asDs, asI, bltV, lenDic, bltD, derefs, D.blt, D.bLen, D.bTuple, D.bList, D.seq, mthV, mthOk, setV, ci_eq, ci_ne, ci_lt, ci_le, ci_gt, ci_ge, cs_eq, cs_ne, cb_eq, cb_ne, D.bin, D.slice, cut, sIx, isNon]
        refine iha n s2 _ hB2 (by omega) fun k' s3 hk hB3 k3 => ?_
        simp [Tg.putV, Tg.put, Tg.puts, Tg.putF_eq, setAll, Tg.slots, Tg.slotss, wipe, indexV, D.index, atI, ixN, cmpV, deref, asB, asD, asDs, asI, bltV, lenDic, bltD, derefs, D.blt, D.bLen, D.bTuple, D.bList, D.seq, mthV, mthOk, setV, ci_eq, ci_ne, ci_lt, ci_le, ci_gt, ci_ge, cs_eq, cs_ne, cb_eq, cb_ne, D.bin, D.slice, cut, sIx, isNon, LIM]
        rw [((k1.trans k2).trans k3).take]
        exact k (.pair k' b) s3 (by simp only [Kd.parts]; omega) hB3 ((k1.trans k2).trans k3)
      · simp [Tg.putV, Tg.put, Tg.puts, Tg.putF_eq, setAll, Tg.slots, Tg.slotss, wipe, indexV, D.index, atI, ixN, cmpV, deref, asB, asD, asDs, asI, bltV, lenDic, bltD, derefs, D.blt, D.bLen, D.bTuple, D.bList, D.seq, mthV, mthOk, setV, ci_eq, ci_ne, ci_lt, ci_le, ci_gt, ci_ge, cs_eq, cs_ne, cb_eq, cb_ne, D.bin, D.slice, cut, sIx, isNon]
        refine ihb n s2 _ hB2 (by omega) fun k' s3 hk hB3 k3 => ?_
        simp [Tg.putV, Tg.put, Tg.puts, Tg.putF_eq, setAll, Tg.slots, Tg.slotss, wipe, indexV, D.index, atI, ixN, cmpV, deref, asB, asD, asDs, asI, bltV, lenDic, bltD, derefs, D.blt, D.bLen, D.bTuple, D.bList, D.seq, mthV, mthOk, setV, ci_eq, ci_ne, ci_lt, ci_le, ci_gt, ci_ge, cs_eq, cs_ne, cb_eq, cb_ne, D.bin, D.slice, cut, sIx, isNon, LIM]
        rw [((k1.trans k2).trans k3).take]
        exact k (.pair a k') s3 (by simp only [Kd.parts]; omega) hB3 ((k1.trans k2).trans k3)
    · refine draw_wp hB1 (by decide) (by decide +kernel) (by omega) fun e s2 e0 e1 hB2 k2 => ?_
      simp [Tg.putV, Tg.put, Tg.puts, Tg.putF_eq, setAll, Tg.slots, Tg.slotss, wipe, indexV, D.index, atI, ixN, cmpV, deref, asB, asD, asDs, asI, bltV, lenDic, bltD, derefs, D.blt, D.bLen, D.bTuple, D.bList, D.seq, mthV, mthOk, setV, ci_eq, ci_ne, ci_lt, ci_le, ci_gt, ci_ge, cs_eq, cs_ne, cb_eq, cb_ne, D.bin, D.slice, cut, sIx, isNon]
      refine any_kind_wp hB2 hf (by omega) (by omega) (by omega) fun kd s3 hk hB3 k3 => ?_
      simp [((k1.trans k2).trans k3).take]
      exact k kd s3 (by omega) hB3 ((k1.trans k2).trans k3)
  | list a ih =>
    intro n st pp hB hn k
    simp only [Kd.h, Kd.parts] at hn k
    obtain ⟨n, rfl⟩ : ∃ n', n = n' + 1 := ⟨n - 1, by omega⟩
    rw [callN_run T_f_law_bent_kind]
    simp [Tg.putV, Tg.put, Tg.puts, Tg.putF_eq, setAll, Tg.slots, Tg.slotss, wipe, indexV, D.index, atI, ixN, cmpV, deref, asB, asD, asDs, asI, bltV, lenDic, bltD, derefs, D.blt, D.bLen, D.bTuple, D.bList, D.seq, mthV, mthOk, setV, ci_eq, ci_ne, ci_lt, ci_le, ci_gt, ci_ge, cs_eq, cs_ne, cb_eq, cb_ne, D.bin, D.slice, cut, sIx, isNon, f_law_bent_kind, Kd.d]
    refine draw_wp hB (by decide) (by decide +kernel) (by omega) fun d s1 d0 d1 hB1 k1 => ?_
    simp [Tg.putV, Tg.put, Tg.puts, Tg.putF_eq, setAll, Tg.slots, Tg.slotss, wipe, indexV, D.index, atI, ixN, cmpV, deref, asB, asD, asDs, asI, bltV, lenDic, bltD, derefs, D.blt, D.bLen, D.bTuple, D.bList, D.seq, mthV, mthOk, setV, ci_eq, ci_ne, ci_lt, ci_le, ci_gt, ci_ge, cs_eq, cs_ne, cb_eq, cb_ne, D.bin, D.slice, cut, sIx, isNon]
    refine ⟨fun c => ?_, fun c => ?_⟩
    · refine draw_wp hB1 (by decide) (by decide +kernel) (by omega) fun e s2 e0 e1 hB2 k2 => ?_
      have he : e = 0 := by omega
      subst he
      simp [Tg.putV, Tg.put, Tg.puts, Tg.putF_eq, setAll, Tg.slots, Tg.slotss, wipe, indexV, D.index, atI, ixN, cmpV, deref, asB, asD, asDs, asI, bltV, lenDic, bltD, derefs, D.blt, D.bLen, D.bTuple, D.bList, D.seq, mthV, mthOk, setV, ci_eq, ci_ne, ci_lt, ci_le, ci_gt, ci_ge, cs_eq, cs_ne, cb_eq, cb_ne, D.bin, D.slice, cut, sIx, isNon]
      refine ih n s2 _ hB2 (by omega) fun k' s3 hk hB3 k3 => ?_
      simp [Tg.putV, Tg.put, Tg.puts, Tg.putF_eq, setAll, Tg.slots, Tg.slotss, wipe, indexV, D.index, atI, ixN, cmpV, deref, asB, asD, asDs, asI, bltV, lenDic, bltD, derefs, D.blt, D.bLen, D.bTuple, D.bList, D.seq, mthV, mthOk, setV, ci_eq, ci_ne, ci_lt, ci_le, ci_gt, ci_ge, cs_eq, cs_ne, cb_eq, cb_ne, D.bin, D.slice, cut, sIx, isNon, LIM]
      rw [((k1.trans k2).trans k3).take]
      exact k (.list k') s3 (by simp only [Kd.parts]; omega) hB3 ((k1.trans k2).trans k3)
    · refine draw_wp hB1 (by decide) (by decide +kernel) (by omega) fun e s2 e0 e1 hB2 k2 => ?_
      simp [Tg.putV, Tg.put, Tg.puts, Tg.putF_eq, setAll, Tg.slots, Tg.slotss, wipe, indexV, D.index, atI, ixN, cmpV, deref, asB, asD, asDs, asI, bltV, lenDic, bltD, derefs, D.blt, D.bLen, D.bTuple, D.bList, D.seq, mthV, mthOk, setV, ci_eq, ci_ne, ci_lt, ci_le, ci_gt, ci_ge, cs_eq, cs_ne, cb_eq, cb_ne, D.bin, D.slice, cut, sIx, isNon]
      refine any_kind_wp hB2 hf (by omega) (by omega) (by omega) fun kd s3 hk hB3 k3 => ?_
      simp [((k1.trans k2).trans k3).take]
      exact k kd s3 (by omega) hB3 ((k1.trans k2).trans k3)
  | int =>
    intro n st pp hB hn k
    simp only [Kd.h, Kd.parts] at hn k
    obtain ⟨n, rfl⟩ : ∃ n', n = n' + 1 := ⟨n - 1, by omega⟩
    rw [callN_run T_f_law_bent_kind]
    simp [Tg.putV, Tg.put, Tg.puts, Tg.putF_eq, setAll, Tg.slots, Tg.slotss, wipe, indexV, D.index, atI, ixN, cmpV, deref, asB, asD, asDs, asI, bltV, lenDic, bltD, derefs, D.blt, D.bLen, D.bTuple, D.bList, D.seq, mthV, mthOk, setV, ci_eq, ci_ne, ci_lt, ci_le, ci_gt, ci_ge, cs_eq, cs_ne, cb_eq, cb_ne, D.bin, D.slice, cut, sIx, isNon, f_law_bent_kind, Kd.d]
    refine draw_wp hB (by decide) (by decide +kernel) (by omega) fun e s2 e0 e1 hB2 k2 => ?_
    simp [Tg.putV, Tg.put, Tg.puts, Tg.putF_eq, setAll, Tg.slots, Tg.slotss, wipe, indexV, D.index, atI, ixN, cmpV, deref, asB, asD, asDs, asI, bltV, lenDic, bltD, derefs, D.blt, D.bLen, D.bTuple, D.bList, D.seq, mthV, mthOk, setV, ci_eq, ci_ne, ci_lt, ci_le, ci_gt, ci_ge, cs_eq, cs_ne, cb_eq, cb_ne, D.bin, D.slice, cut, sIx, isNon]
    refine any_kind_wp hB2 hf (by omega) (by omega) (by omega) fun kd s3 hk hB3 k3 => ?_
    simp [(k2.trans k3).take]
    exact k kd s3 (by omega) hB3 (k2.trans k3)
  | bool =>
    intro n st pp hB hn k
    simp only [Kd.h, Kd.parts] at hn k
    obtain ⟨n, rfl⟩ : ∃ n', n = n' + 1 := ⟨n - 1, by omega⟩
    rw [callN_run T_f_law_bent_kind]
    simp [Tg.putV, Tg.put, Tg.puts, Tg.putF_eq, setAll, Tg.slots, Tg.slotss, wipe, indexV, D.index, atI, ixN, cmpV, deref, asB, asD, asDs, asI, bltV, lenDic, bltD, derefs, D.blt, D.bLen, D.bTuple, D.bList, D.seq, mthV, mthOk, setV, ci_eq, ci_ne, ci_lt, ci_le, ci_gt, ci_ge, cs_eq, cs_ne, cb_eq, cb_ne, D.bin, D.slice, cut, sIx, isNon, f_law_bent_kind, Kd.d]
    refine draw_wp hB (by decide) (by decide +kernel) (by omega) fun e s2 e0 e1 hB2 k2 => ?_
    simp [Tg.putV, Tg.put, Tg.puts, Tg.putF_eq, setAll, Tg.slots, Tg.slotss, wipe, indexV, D.index, atI, ixN, cmpV, deref, asB, asD, asDs, asI, bltV, lenDic, bltD, derefs, D.blt, D.bLen, D.bTuple, D.bList, D.seq, mthV, mthOk, setV, ci_eq, ci_ne, ci_lt, ci_le, ci_gt, ci_ge, cs_eq, cs_ne, cb_eq, cb_ne, D.bin, D.slice, cut, sIx, isNon]
    refine any_kind_wp hB2 hf (by omega) (by omega) (by omega) fun kd s3 hk hB3 k3 => ?_
    simp [(k2.trans k3).take]
    exact k kd s3 (by omega) hB3 (k2.trans k3)
  | free i =>
    intro n st pp hB hn k
    simp only [Kd.h, Kd.parts] at hn k
    obtain ⟨n, rfl⟩ : ∃ n', n = n' + 1 := ⟨n - 1, by omega⟩
    rw [callN_run T_f_law_bent_kind]
    simp [Tg.putV, Tg.put, Tg.puts, Tg.putF_eq, setAll, Tg.slots, Tg.slotss, wipe, indexV, D.index, atI, ixN, cmpV, deref, asB, asD, asDs, asI, bltV, lenDic, bltD, derefs, D.blt, D.bLen, D.bTuple, D.bList, D.seq, mthV, mthOk, setV, ci_eq, ci_ne, ci_lt, ci_le, ci_gt, ci_ge, cs_eq, cs_ne, cb_eq, cb_ne, D.bin, D.slice, cut, sIx, isNon, f_law_bent_kind, Kd.d]
    refine draw_wp hB (by decide) (by decide +kernel) (by omega) fun e s2 e0 e1 hB2 k2 => ?_
    simp [Tg.putV, Tg.put, Tg.puts, Tg.putF_eq, setAll, Tg.slots, Tg.slotss, wipe, indexV, D.index, atI, ixN, cmpV, deref, asB, asD, asDs, asI, bltV, lenDic, bltD, derefs, D.blt, D.bLen, D.bTuple, D.bList, D.seq, mthV, mthOk, setV, ci_eq, ci_ne, ci_lt, ci_le, ci_gt, ci_ge, cs_eq, cs_ne, cb_eq, cb_ne, D.bin, D.slice, cut, sIx, isNon]
    refine any_kind_wp hB2 hf (by omega) (by omega) (by omega) fun kd s3 hk hB3 k3 => ?_
    simp [(k2.trans k3).take]
    exact k kd s3 (by omega) hB3 (k2.trans k3)
end Prog

namespace Prog
open Ir
theorem num_comp {T : Tab} (h1 : T "_law_draw" = some f_law_draw) (h2 : T "_law_stirred" = some f_law_stirred) {n B : Nat} {base : Int} : ∀ (l : List Nat) (st : Store) (b : Cell), st[B]? = some b → isBag b →
    ∃ (fs : List Int) (b' : Cell), fs.length = l.length ∧ isBag b' ∧ compL (compStep (eval (callN T (n + 2)) (.bin .add (.var 1) (.bin .mul (.var 2) (.bin .add (.con (.int 1)) (.call "_law_draw" [.var 0, .con (.int 3)]))))) (conds (callN T (n + 2)) []) (.name 2) [some (.ref B), some (.d (.int base)), none]) (l.map fun i : Nat => D.int i) st = .ok (fs.map .int) (st.set B b')
  | [], st, b, hB, ib => ⟨[], b, rfl, ib, by simp [compL, set_same hB]⟩
  | k :: l, st, b, hB, ib => by
    obtain ⟨d1, b1, ⟨d10, d11⟩, ib1, e1⟩ := draw_ok h1 h2 (n := n) (many := 3) hB ib (by decide) (by decide +kernel)
    have hB1 := set_at hB b1
    obtain ⟨fs, b', hl, ib', e⟩ := num_comp h1 h2 (n := n) (base := base) l _ b1 hB1 ib1
    simp only [List.set_set] at e
    refine ⟨(base + k * (1 + d1)) :: fs, b', by simp [hl], ib', ?_⟩
    simp [compL, compStep, Tg.put, e1, deref, D.bin, smallOk_of (i := 1 + d1) (by omega) (by omega), asD, e]
set_option maxHeartbeats 4000000 in
theorem numbers_ok {T : Tab} (h1 : T "_law_draw" = some f_law_draw) (h2 : T "_law_stirred" = some f_law_stirred) (h3 : T "_law_numbers" = some f_law_numbers) {n : Nat} {st : Store} {B : Nat} {b : Cell} (hB : st[B]? = some b) (ib : isBag b) :
    ∃ (fs : List Int) (b' : Cell), fs.length ≤ 5 ∧ 1 ≤ fs.length ∧ isBag b' ∧ callN T (n + 3) "_law_numbers" [.ref B] st = .ok (.d (.lst (fs.map .int))) (st.set B b') := by
  obtain ⟨d1, b1, ⟨d10, d11⟩, ib1, e1⟩ := draw_ok h1 h2 (n := n) (many := 4) hB ib (by decide) (by decide +kernel)
  have hB1 := set_at hB b1
  obtain ⟨x1, hx1, p1⟩ := pick4 (a := 1) (b := 1) (c := 10) (d := 10 ^ 50) d10 d11
  have hx1p : 0 < x1 ∧ bigOk x1 = true := by
    rcases hx1 with rfl | rfl | rfl | rfl
    · exact ⟨by decide, by decide +kernel⟩
    · exact ⟨by decide, by decide +kernel⟩
    · exact ⟨by decide, by decide +kernel⟩
    · exact ⟨by decide, big_50⟩
  obtain ⟨d2, b2, ⟨d20, d21⟩, ib2, e2⟩ := draw_ok h1 h2 (n := n) hB1 ib1 hx1p.1 hx1p.2
  have hB2 := set_at hB1 b2
  simp only [List.set_set] at e2 hB2
  obtain ⟨d3, b3, ⟨d30, d31⟩, ib3, e3⟩ := draw_ok h1 h2 (n := n) (many := 5) hB2 ib2 (by decide) (by decide +kernel)
  have hB3 := set_at hB2 b3
  simp only [List.set_set] at e3 hB3
  have hm : (((1 + d3).toNat : Nat) : Int) = 1 + d3 := by omega
  have hr : D.bRange [.int (1 + d3)] = some (.lst (rangeL 0 (1 + d3).toNat)) := by
    have := bRange_nat (n := (1 + d3).toNat) (by simp only [LIM]; omega)
    rwa [hm] at this
  obtain ⟨fs, b4, hl, ib4, e4⟩ := num_comp h1 h2 (n := n) (base := d2) (List.range (1 + d3).toNat) _ b3 hB3 ib3
  simp only [List.set_set] at e4
  refine ⟨fs, b4, by rw [hl]; simp; omega, by rw [hl]; simp; omega, ib4, ?_⟩
  have hp10 : bigOk 10 = true := pow_lits.1
  simp only [Int.reducePow] at p1
  rw [show n + 3 = (n + 2) + 1 from rfl, callN_run h3]
  simp [runFn, f_law_numbers, e1, e2, e3, indexV, D.index, p1, asDs, deref, D.bin, hp10, Tg.putV, bltV, bltD, derefs, D.blt, hr, asD, D.seq, Tg.slots, wipe, range_nat, e4, leave, take_set]
end Prog

namespace Prog
open Ir
theorem numbers_wp {n : Nat} {st : Store} {B : Nat} {pp : Post Val} (hB : Bag st B) (hn : 3 ≤ n)
    (k : ∀ (fs : List Int) s, fs.length ≤ 5 → 1 ≤ fs.length → Bag s B → Kp B st s → pp.q (.d (.lst (fs.map .int))) s) : @Wp _ (callN T n "_law_numbers" [.ref B] st) pp := by
  obtain ⟨n, rfl⟩ : ∃ n', n = n' + 3 := ⟨n - 3, by omega⟩
  obtain ⟨b, e, ib⟩ := hB
  obtain ⟨fs, b', hf, hf1, ib', e'⟩ := numbers_ok T_f_law_draw T_f_law_stirred T_f_law_numbers (n := n) e ib
  rw [e', wp_ok]
  exact k fs _ hf hf1 ⟨b', set_at e b', ib'⟩ (.set st b')
end Prog

namespace Prog
open Ir
theorem pick_int {fs : List Int} {d : Int} (h0 : 0 ≤ d) (h1 : d < fs.length) : ∃ i, i ∈ fs ∧ atI (fs.map D.int) d = some (.int i) := by
  obtain ⟨x, hx, hx2⟩ := atI_nat (xs := fs.map D.int) h0 (by simpa using h1)
  rw [List.getElem?_map] at hx
  obtain ⟨i, hi, rfl⟩ := Option.map_eq_some_iff.mp hx
  exact ⟨i, List.mem_of_getElem? hi, hx2⟩
set_option maxHeartbeats 8000000 in
theorem loosened_wp {B : Nat} {fs : List Int} (hf1 : 1 ≤ fs.length) (hf : fs.length < 1000) : ∀ (kd : Kd) (n : Nat) (st : Store) (pp : Post Val), Bag st B → kd.h + 3 ≤ n →
    (∀ k' s, k'.parts ≤ kd.parts → Bag s B → Kp B st s → pp.q (.d (Kd.d k')) s) → @Wp _ (callN T n "_law_loosened" [.ref B, .d kd.d, .d (.lst (fs.map .int))] st) pp := by
  intro kd
  have hne : ∀ kd : Kd, 1 ≤ kd.parts := fun kd => by have := kd.h_parts; omega
  have hpos : (0 : Int) < (fs.length : Int) := by omega
  have hbig : bigOk (fs.length : Int) = true := big_of (by omega) (by omega)
  induction kd with
  | fn a b iha ihb =>
    intro n st pp hB hn k
    simp only [Kd.h, Kd.parts] at hn k
    obtain ⟨n, rfl⟩ : ∃ n', n = n' + 1 := ⟨n - 1, by omega⟩
    rw [callN_run T_f_law_loosened]
    simp [f_law_loosened]
    refine draw_wp hB (by decide) (by decide +kernel) (by omega) fun d s1 d0 d1 hB1 k1 => ?_
    simp [Tg.putV, Tg.put, Tg.puts, Tg.putF_eq, setAll, Tg.slots, Tg.slotss, wipe, indexV, D.index, atI, ixN, cmpV, deref, asB, asD, asDs, asI, bltV, lenDic, bltD, derefs, D.blt, D.bLen, D.bTuple, D.bList, D.seq, mthV, mthOk, setV, ci_eq, ci_ne, ci_lt, ci_le, ci_gt, ci_ge, cs_eq, cs_ne, cb_eq, cb_ne, D.bin, D.slice, cut, sIx, isNon, Kd.d]
    refine ⟨fun c => ?_, fun c => ?_⟩
    · refine draw_wp hB1 hpos hbig (by omega) fun e s2 e0 e1 hB2 k2 => ?_
      obtain ⟨i, _, hi⟩ := pick_int e0 e1
      unfold atI ixN at hi
      simp [Tg.putV, Tg.put, Tg.puts, Tg.putF_eq, setAll, Tg.slots, Tg.slotss, wipe, indexV, D.index, atI, ixN, cmpV, deref, asB, asD, asDs, asI, bltV, lenDic, bltD, derefs, D.blt, D.bLen, D.bTuple, D.bList, D.seq, mthV, mthOk, setV, ci_eq, ci_ne, ci_lt, ci_le, ci_gt, ci_ge, cs_eq, cs_ne, cb_eq, cb_ne, D.bin, D.slice, cut, sIx, isNon] at hi
      simp [Tg.putV, Tg.put, Tg.puts, Tg.putF_eq, setAll, Tg.slots, Tg.slotss, wipe, indexV, D.index, atI, ixN, cmpV, deref, asB, asD, asDs, asI, bltV, lenDic, bltD, derefs, D.blt, D.bLen, D.bTuple, D.bList, D.seq, mthV, mthOk, setV, ci_eq, ci_ne, ci_lt, ci_le, ci_gt, ci_ge, cs_eq, cs_ne, cb_eq, cb_ne, D.bin, D.slice, cut, sIx, isNon, hi, (k1.trans k2).take]
      exact k (.free i) s2 (by simp only [Kd.parts]; omega) hB2 (k1.trans k2)
    · refine iha n s1 _ hB1 (by omega) fun a' s2 ha' hB2 k2 => ?_
      simp [Tg.putV, Tg.put, Tg.puts, Tg.putF_eq, setAll, Tg.slots, Tg.slotss, wipe, indexV, D.index, atI, ixN, cmpV, deref, asB, asD, asDs, asI, bltV, lenDic, bltD, derefs, D.blt, D.bLen, D.bTuple, D.bList, D.seq, mthV, mthOk, setV, ci_eq, ci_ne, ci_lt, ci_le, ci_gt, ci_ge, cs_eq, cs_ne, cb_eq, cb_ne, D.bin, D.slice, cut, sIx, isNon]
      refine ihb n s2 _ hB2 (by omega) fun b' s3 hb' hB3 k3 => ?_
      simp [Tg.putV, Tg.put, Tg.puts, Tg.putF_eq, setAll, Tg.slots, Tg.slotss, wipe, indexV, D.index, atI, ixN, cmpV, deref, asB, asD, asDs, asI, bltV, lenDic, bltD, derefs, D.blt, D.bLen, D.bTuple, D.bList, D.seq, mthV, mthOk, setV, ci_eq, ci_ne, ci_lt, ci_le, ci_gt, ci_ge, cs_eq, cs_ne, cb_eq, cb_ne, D.bin, D.slice, cut, sIx, isNon, LIM, ((k1.trans k2).trans k3).take]
      exact k (.fn a' b') s3 (by simp only [Kd.parts]; omega) hB3 ((k1.trans k2).trans k3)
  | pair a b iha ihb =>
    intro n st pp hB hn k
    simp only [Kd.h, Kd.parts] at hn k
    obtain ⟨n, rfl⟩ : ∃ n', n = n' + 1 := ⟨n - 1, by omega⟩
    rw [callN_run T_f_law_loosened]
    simp [f_law_loosened]
    refine draw_wp hB (by decide) (by decide +kernel) (by omega) fun d s1 d0 d1 hB1 k1 => ?_
    simp [Tg.putV, Tg.put, Tg.puts, Tg.putF_eq, setAll, Tg.slots, Tg.slotss, wipe, indexV, D.index, atI, ixN, cmpV, deref, asB, asD, asDs, asI, bltV, lenDic, bltD, derefs, D.blt, D.bLen, D.bTuple, D.bList, D.seq, mthV, mthOk, setV, ci_eq, ci_ne, ci_lt, ci_le, ci_gt, ci_ge, cs_eq, cs_ne, cb_eq, cb_ne, D.bin, D.slice, cut, sIx, isNon, Kd.d]
    refine ⟨fun c => ?_, fun c => ?_⟩
    · refine draw_wp hB1 hpos hbig (by omega) fun e s2 e0 e1 hB2 k2 => ?_
      obtain ⟨i, _, hi⟩ := pick_int e0 e1
      unfold atI ixN at hi
      simp [Tg.putV, Tg.put, Tg.puts, Tg.putF_eq, setAll, Tg.slots, Tg.slotss, wipe, indexV, D.index, atI, ixN, cmpV, deref, asB, asD, asDs, asI, bltV, lenDic, bltD, derefs, D.blt, D.bLen, D.bTuple, D.bList, D.seq, mthV, mthOk, setV, ci_eq, ci_ne, ci_lt, ci_le, ci_gt, ci_ge, cs_eq, cs_ne, cb_eq, cb_ne, D.bin, D.slice, cut, sIx, isNon] at hi
      simp [Tg.putV, Tg.put, Tg.puts, Tg.putF_eq, setAll, Tg.slots, Tg.slotss, wipe, indexV, D.index, atI, ixN, cmpV, deref, asB, asD, asDs, asI, bltV, lenDic, bltD, derefs, D.blt, D.bLen, D.bTuple, D.bList, D.seq, mthV, mthOk, setV, ci_eq, ci_ne, ci_lt, ci_le, ci_gt, ci_ge, cs_eq, cs_ne, cb_eq, cb_ne, D.bin, D.slice, cut, sIx, isNon, hi, (k1.trans k2).take]
      exact k (.free i) s2 (by simp only [Kd.parts]; omega) hB2 (k1.trans k2)
    · refine iha n s1 _ hB1 (by omega) fun a' s2 ha' hB2 k2 => ?_
      simp [Tg.putV, Tg.put, Tg.puts, Tg.putF_eq, setAll, Tg.slots, Tg.slotss, wipe, indexV, D.index, atI, ixN, cmpV, deref, asB, asD, asDs, asI, bltV, lenDic, bltD, derefs, D.blt, D.bLen, D.bTuple, D.bList, D.seq, mthV, mthOk, setV, ci_eq, ci_ne, ci_lt, ci_le, ci_gt, ci_ge, cs_eq, cs_ne, cb_eq, cb_ne, D.bin, D.slice, cut, sIx, isNon]
      refine ihb n s2 _ hB2 (by omega) fun b' s3 hb' hB3 k3 => ?_
      simp [Tg.putV, Tg.put, Tg.puts, Tg.putF_eq, setAll, Tg.slots, Tg.slotss, wipe, indexV, D.index, atI, ixN, cmpV, deref, asB, asD, asDs, asI, bltV, lenDic, bltD, derefs, D.blt, D.bLen, D.bTuple, D.bList, D.seq, mthV, mthOk, setV, ci_eq, ci_ne, ci_lt, ci_le, ci_gt, ci_ge, cs_eq, cs_ne, cb_eq, cb_ne, D.bin, D.slice, cut, sIx, isNon, LIM, ((k1.trans k2).trans k3).take]
      exact k (.pair a' b') s3 (by simp only [Kd.parts]; omega) hB3 ((k1.trans k2).trans k3)
  | list a iha =>
    intro n st pp hB hn k
    simp only [Kd.h, Kd.parts] at hn k
    obtain ⟨n, rfl⟩ : ∃ n', n = n' + 1 := ⟨n - 1, by omega⟩
    rw [callN_run T_f_law_loosened]
    simp [f_law_loosened]
    refine draw_wp hB (by decide) (by decide +kernel) (by omega) fun d s1 d0 d1 hB1 k1 => ?_
    simp [Tg.putV, Tg.put, Tg.puts, Tg.putF_eq, setAll, Tg.slots, Tg.slotss, wipe, indexV, D.index, atI, ixN, cmpV, deref, asB, asD, asDs, asI, bltV, lenDic, bltD, derefs, D.blt, D.bLen, D.bTuple, D.bList, D.seq, mthV, mthOk, setV, ci_eq, ci_ne, ci_lt, ci_le, ci_gt, ci_ge, cs_eq, cs_ne, cb_eq, cb_ne, D.bin, D.slice, cut, sIx, isNon, Kd.d]
    refine ⟨fun c => ?_, fun c => ?_⟩
    · refine draw_wp hB1 hpos hbig (by omega) fun e s2 e0 e1 hB2 k2 => ?_
      obtain ⟨i, _, hi⟩ := pick_int e0 e1
      unfold atI ixN at hi
      simp [Tg.putV, Tg.put, Tg.puts, Tg.putF_eq, setAll, Tg.slots, Tg.slotss, wipe, indexV, D.index, atI, ixN, cmpV, deref, asB, asD, asDs, asI, bltV, lenDic, bltD, derefs, D.blt, D.bLen, D.bTuple, D.bList, D.seq, mthV, mthOk, setV, ci_eq, ci_ne, ci_lt, ci_le, ci_gt, ci_ge, cs_eq, cs_ne, cb_eq, cb_ne, D.bin, D.slice, cut, sIx, isNon] at hi
      simp [Tg.putV, Tg.put, Tg.puts, Tg.putF_eq, setAll, Tg.slots, Tg.slotss, wipe, indexV, D.index, atI, ixN, cmpV, deref, asB, asD, asDs, asI, bltV, lenDic, bltD, derefs, D.blt, D.bLen, D.bTuple, D.bList, D.seq, mthV, mthOk, setV, ci_eq, ci_ne, ci_lt, ci_le, ci_gt, ci_ge, cs_eq, cs_ne, cb_eq, cb_ne, D.bin, D.slice, cut, sIx, isNon, hi, (k1.trans k2).take]
      exact k (.free i) s2 (by simp only [Kd.parts]; omega) hB2 (k1.trans k2)
    · refine iha n s1 _ hB1 (by omega) fun a' s2 ha' hB2 k2 => ?_
      simp [Tg.putV, Tg.put, Tg.puts, Tg.putF_eq, setAll, Tg.slots, Tg.slotss, wipe, indexV, D.index, atI, ixN, cmpV, deref, asB, asD, asDs, asI, bltV, lenDic, bltD, derefs, D.blt, D.bLen, D.bTuple, D.bList, D.seq, mthV, mthOk, setV, ci_eq, ci_ne, ci_lt, ci_le, ci_gt, ci_ge, cs_eq, cs_ne, cb_eq, cb_ne, D.bin, D.slice, cut, sIx, isNon, LIM, (k1.trans k2).take]
      exact k (.list a') s2 (by simp only [Kd.parts]; omega) hB2 (k1.trans k2)
  | _ =>
    intro n st pp hB hn k
    obtain ⟨n, rfl⟩ : ∃ n', n = n' + 1 := ⟨n - 1, by omega⟩
    rw [callN_run T_f_law_loosened]
    simp [f_law_loosened]
    refine draw_wp hB (by decide) (by decide +kernel) (by omega) fun d s1 d0 d1 hB1 k1 => ?_
    simp [Tg.putV, Tg.put, Tg.puts, Tg.putF_eq, setAll, Tg.slots, Tg.slotss, wipe, indexV, D.index, atI, ixN, cmpV, deref, asB, asD, asDs, asI, bltV, lenDic, bltD, derefs, D.blt, D.bLen, D.bTuple, D.bList, D.seq, mthV, mthOk, setV, ci_eq, ci_ne, ci_lt, ci_le, ci_gt, ci_ge, cs_eq, cs_ne, cb_eq, cb_ne, D.bin, D.slice, cut, sIx, isNon, Kd.d]
    refine ⟨fun c => ?_, fun c => ?_⟩
    · refine draw_wp hB1 hpos hbig (by omega) fun e s2 e0 e1 hB2 k2 => ?_
      obtain ⟨i, _, hi⟩ := pick_int e0 e1
      unfold atI ixN at hi
      simp [Tg.putV, Tg.put, Tg.puts, Tg.putF_eq, setAll, Tg.slots, Tg.slotss, wipe, indexV, D.index, atI, ixN, cmpV, deref, asB, asD, asDs, asI, bltV, lenDic, bltD, derefs, D.blt, D.bLen, D.bTuple, D.bList, D.seq, mthV, mthOk, setV, ci_eq, ci_ne, ci_lt, ci_le, ci_gt, ci_ge, cs_eq, cs_ne, cb_eq, cb_ne, D.bin, D.slice, cut, sIx, isNon] at hi
      simp [Tg.putV, Tg.put, Tg.puts, Tg.putF_eq, setAll, Tg.slots, Tg.slotss, wipe, indexV, D.index, atI, ixN, cmpV, deref, asB, asD, asDs, asI, bltV, lenDic, bltD, derefs, D.blt, D.bLen, D.bTuple, D.bList, D.seq, mthV, mthOk, setV, ci_eq, ci_ne, ci_lt, ci_le, ci_gt, ci_ge, cs_eq, cs_ne, cb_eq, cb_ne, D.bin, D.slice, cut, sIx, isNon, hi, (k1.trans k2).take]
      exact k (.free i) s2 (by simp only [Kd.parts]; omega) hB2 (k1.trans k2)
    · rw [k1.take]
      exact k _ s1 (Nat.le_refl _) hB1 k1
end Prog

namespace Prog
open Ir
set_option maxHeartbeats 4000000 in
theorem parts_ok {T : Tab} (hT : T "_law_parts" = some f_law_parts) {st : Store} : ∀ (k : Kd) (n : Nat), k.h + 1 ≤ n → callN T n "_law_parts" [.d k.d] st = .ok (.d (.int k.parts)) st := by
  intro k
  induction k with
  | int =>
    intro n hn
    obtain ⟨n, rfl⟩ : ∃ n', n = n' + 1 := ⟨n - 1, by omega⟩
    rw [callN_run hT]
    simp [runFn, f_law_parts, Kd.d, deref, asI, asD, D.slice, cut, sIx, D.seq, compL, bltV, bltD, derefs, D.blt, D.bSum, D.ints, D.bin, leave, take_all, Kd.parts]
  | bool =>
    intro n hn
    obtain ⟨n, rfl⟩ : ∃ n', n = n' + 1 := ⟨n - 1, by omega⟩
    rw [callN_run hT]
    simp [runFn, f_law_parts, Kd.d, deref, asI, asD, D.slice, cut, sIx, D.seq, compL, bltV, bltD, derefs, D.blt, D.bSum, D.ints, D.bin, leave, take_all, Kd.parts]
  | free i =>
    intro n hn
    obtain ⟨n, rfl⟩ : ∃ n', n = n' + 1 := ⟨n - 1, by omega⟩
    rw [callN_run hT]
    simp [runFn, f_law_parts, Kd.d, deref, asI, asD, asB, D.slice, cut, sIx, D.seq, compL, compStep, Tg.put, Tg.slots, wipe, D.tyOk, bltV, bltD, derefs, D.blt, D.bSum, D.ints, D.bin, leave, take_all, Kd.parts]
  | list a ih =>
    intro n hn
    obtain ⟨n, rfl⟩ : ∃ n', n = n' + 1 := ⟨n - 1, by omega⟩
    simp only [Kd.h] at hn
    have e := ih n (by omega)
    have hty : a.d.tyOk .tuple = true := by cases a <;> rfl
    rw [callN_run hT]
    simp [runFn, f_law_parts, Kd.d, deref, asI, asD, asB, D.slice, cut, sIx, D.seq, compL, compStep, Tg.put, Tg.slots, wipe, hty, e, bltV, bltD, derefs, D.blt, D.bSum, D.ints, D.bin, leave, take_all, Kd.parts]
    omega
  | fn a b iha ihb =>
    intro n hn
    obtain ⟨n, rfl⟩ : ∃ n', n = n' + 1 := ⟨n - 1, by omega⟩
    simp only [Kd.h] at hn
    have e := iha n (by omega)
    have e2 := ihb n (by omega)
    have hty : a.d.tyOk .tuple = true := by cases a <;> rfl
    have hty2 : b.d.tyOk .tuple = true := by cases b <;> rfl
    rw [callN_run hT]
    simp [runFn, f_law_parts, Kd.d, deref, asI, asD, asB, D.slice, cut, sIx, D.seq, compL, compStep, Tg.put, Tg.slots, wipe, hty, hty2, e, e2, bltV, bltD, derefs, D.blt, D.bSum, D.ints, D.bin, leave, take_all, Kd.parts]
    omega
  | pair a b iha ihb =>
    intro n hn
    obtain ⟨n, rfl⟩ : ∃ n', n = n' + 1 := ⟨n - 1, by omega⟩
    simp only [Kd.h] at hn
    have e := iha n (by omega)
    have e2 := ihb n (by omega)
    have hty : a.d.tyOk .tuple = true := by cases a <;> rfl
    have hty2 : b.d.tyOk .tuple = true := by cases b <;> rfl
    rw [callN_run hT]
    simp [runFn, f_law_parts, Kd.d, deref, asI, asD, asB, D.slice, cut, sIx, D.seq, compL, compStep, Tg.put, Tg.slots, wipe, hty, hty2, e, e2, bltV, bltD, derefs, D.blt, D.bSum, D.ints, D.bin, leave, take_all, Kd.parts]
    omega
end Prog

namespace Prog
open Ir
/-- pairs of numbers and kinds make a dict of kinds -/
theorem merge_g : ∀ (ps : List (Int × Kd)) (g : G), mergeP (dF g) (ps.map fun p => .tup [.int p.1, p.2.d]) = some (dF (ps.foldl (fun g p => putG g p.1 p.2) g))
  | [], g => rfl
  | p :: ps, g => by
    simp only [List.map_cons, mergeP, D.key, if_true, putK_dF, List.foldl_cons]
    exact merge_g ps _
theorem Kd.h_le {k : Kd} {m : Nat} (h : k.parts ≤ m) : k.h < m := by have := k.h_parts; omega
theorem Kd.sub_parts {f : Int → Kd} {M : Nat} (hM : 1 ≤ M) (hf : ∀ i, (f i).parts ≤ M) : ∀ k : Kd, (k.sub f).parts ≤ k.parts * M
  | .int => by simp [Kd.sub, Kd.parts]; omega
  | .bool => by simp [Kd.sub, Kd.parts]; omega
  | .list a => by have := a.sub_parts hM hf; simp only [Kd.sub, Kd.parts, Nat.add_mul]; omega
  | .fn a b => by have := a.sub_parts hM hf; have := b.sub_parts hM hf; simp only [Kd.sub, Kd.parts, Nat.add_mul]; omega
  | .pair a b => by have := a.sub_parts hM hf; have := b.sub_parts hM hf; simp only [Kd.sub, Kd.parts, Nat.add_mul]; omega
  | .free i => by have := hf i; simp only [Kd.sub, Kd.parts]; omega
theorem fold_in {P : Kd → Prop} : ∀ (ps : List (Int × Kd)) (g : G), (∀ i w, g.lookup i = some w → P w) → (∀ p ∈ ps, P p.2) → ∀ i w, (ps.foldl (fun g p => putG g p.1 p.2) g).lookup i = some w → P w
  | [], g, hg, _ => hg
  | p :: ps, g, hg, hp => fold_in ps _ (fun i w e => by
      rw [lookup_putG] at e
      by_cases c : i = p.1
      · rw [if_pos c] at e; cases e; exact hp p (by simp)
      · rw [if_neg c] at e; exact hg i w e) fun q hq => hp q (List.mem_cons_of_mem _ hq)
end Prog

namespace Prog
open Ir
theorem others_ok {C : Calls} {st : Store} {σ : Env} (h7 : 7 < σ.length) : ∀ fs : List Int, compL (compStep (eval C f_law_pair_c0) (conds C []) (.name 7) σ) (fs.map .int) st = .ok ((fs.map (· + 1000)).map .int) st
  | [] => by simp [compL]
  | i :: fs => by
    have ih := others_ok (C := C) (st := st) h7 fs
    have g : (σ.set 7 (some (.d (.int i))))[7]? = some (some (.d (.int i))) := List.getElem?_set_self h7
    simp [compL, compStep, Tg.putV, Tg.put, Tg.puts, Tg.putF_eq, setAll, Tg.slots, Tg.slotss, wipe, indexV, D.index, atI, ixN, cmpV, deref, asB, asD, asDs, asI, bltV, lenDic, bltD, derefs, D.blt, D.bLen, D.bTuple, D.bList, D.seq, mthV, mthOk, setV, ci_eq, ci_ne, ci_lt, ci_le, ci_gt, ci_ge, cs_eq, cs_ne, cb_eq, cb_ne, D.bin, D.slice, cut, sIx, isNon, g] at ih ⊢
    rw [ih]
    simp
theorem fill_comp {B n : Nat} {fs : List Int} (hf : fs.length ≤ 5) {σ : Env} {st : Store} {pp : Post (List D)} (hn : 10 ≤ n) (hB : Bag st B)
    (s0 : ∀ x, (σ.set 7 x)[0]? = some (some (.ref B))) (s3 : ∀ x, (σ.set 7 x)[3]? = some (some (.d (.lst (fs.map .int))))) (s7 : 7 < σ.length) (is : List Int)
    (k : ∀ (ps : List (Int × Kd)) s, (∀ p ∈ ps, p.2.parts ≤ 3) → Bag s B → Kp B st s → pp.q (ps.map fun p => .tup [.int p.1, p.2.d]) s) :
    @Wp _ (compL (compStep (eval (callN T n) f_law_pair_c1) (conds (callN T n) []) (.name 7) σ) (is.map .int) st) pp := by
  refine wp_comp (fun xs ys s => (∃ is : List Int, xs = is.map .int) ∧ (∃ ps : List (Int × Kd), (ys = ps.map fun p => .tup [.int p.1, p.2.d]) ∧ ∀ p ∈ ps, p.2.parts ≤ 3) ∧ Bag s B ∧ Kp B st s) ⟨⟨is, rfl⟩, ⟨[], rfl, by simp⟩, hB, .refl _ _⟩ ?_ ?_
  · rintro x xs ys s ⟨⟨is, h1⟩, ⟨ps, rfl, hps⟩, hB1, k1⟩
    cases is with
    | nil => cases h1
    | cons i is =>
      simp only [List.map_cons, List.cons.injEq] at h1
      obtain ⟨rfl, rfl⟩ := h1
      have s7' : (σ.set 7 (some (.d (.int i))))[7]? = some (some (.d (.int i))) := List.getElem?_set_self s7
      simp [Tg.putV, Tg.put, Tg.puts, Tg.putF_eq, setAll, Tg.slots, Tg.slotss, wipe, indexV, D.index, atI, ixN, cmpV, deref, asB, asD, asDs, asI, bltV, lenDic, bltD, derefs, D.blt, D.bLen, D.bTuple, D.bList, D.seq, mthV, mthOk, setV, ci_eq, ci_ne, ci_lt, ci_le, ci_gt, ci_ge, cs_eq, cs_ne, cb_eq, cb_ne, D.bin, D.slice, cut, sIx, isNon, s0, s3, s7']
      refine any_kind_wp hB1 (by omega) (by omega) (by omega) (by omega) fun kd s2 hk hB2 k3 => ?_
      simp [Tg.putV, Tg.put, Tg.puts, Tg.putF_eq, setAll, Tg.slots, Tg.slotss, wipe, indexV, D.index, atI, ixN, cmpV, deref, asB, asD, asDs, asI, bltV, lenDic, bltD, derefs, D.blt, D.bLen, D.bTuple, D.bList, D.seq, mthV, mthOk, setV, ci_eq, ci_ne, ci_lt, ci_le, ci_gt, ci_ge, cs_eq, cs_ne, cb_eq, cb_ne, D.bin, D.slice, cut, sIx, isNon]
      refine ⟨⟨is, rfl⟩, ⟨ps ++ [(i, kd)], by simp, fun p q hm => ?_⟩, hB2, k1.trans k3⟩
      rcases List.mem_append.mp hm with hm | hm
      · exact hps _ hm
      · simp at hm; obtain ⟨rfl, rfl⟩ := hm; omega
  · rintro ys s ⟨_, ⟨ps, rfl, hps⟩, hB1, k1⟩
    exact k ps s hps hB1 k1
set_option maxHeartbeats 8000000 in
theorem pair_wp {n : Nat} {st : Store} {B : Nat} {pp : Post Val} (hB : Bag st B) (hn : 57 ≤ n)
    (k : ∀ (a b : Kd) s, a.parts ≤ 16 → b.parts ≤ 16 → Bag s B → Kp B st s → pp.q (.d (.tup [a.d, b.d])) s) : @Wp _ (callN T n "_law_pair" [.ref B] st) pp := by
  obtain ⟨n, rfl⟩ : ∃ n', n = n' + 1 := ⟨n - 1, by omega⟩
  rw [callN_run T_f_law_pair]
  simp [Tg.putV, Tg.put, Tg.puts, Tg.putF_eq, setAll, Tg.slots, Tg.slotss, wipe, indexV, D.index, atI, ixN, cmpV, deref, asB, asD, asDs, asI, bltV, lenDic, bltD, derefs, D.blt, D.bLen, D.bTuple, D.bList, D.seq, mthV, mthOk, setV, ci_eq, ci_ne, ci_lt, ci_le, ci_gt, ci_ge, cs_eq, cs_ne, cb_eq, cb_ne, D.bin, D.slice, cut, sIx, isNon, f_law_pair]
  refine draw_wp hB (by decide) (by decide +kernel) (by omega) fun w s1 w0 w1 hB1 k1 => ?_
  simp [Tg.putV, Tg.put, Tg.puts, Tg.putF_eq, setAll, Tg.slots, Tg.slotss, wipe, indexV, D.index, atI, ixN, cmpV, deref, asB, asD, asDs, asI, bltV, lenDic, bltD, derefs, D.blt, D.bLen, D.bTuple, D.bList, D.seq, mthV, mthOk, setV, ci_eq, ci_ne, ci_lt, ci_le, ci_gt, ci_ge, cs_eq, cs_ne, cb_eq, cb_ne, D.bin, D.slice, cut, sIx, isNon]
  refine numbers_wp hB1 (by omega) fun fs s2 hf hf1 hB2 k2 => ?_
  simp [Tg.putV, Tg.put, Tg.puts, Tg.putF_eq, setAll, Tg.slots, Tg.slotss, wipe, indexV, D.index, atI, ixN, cmpV, deref, asB, asD, asDs, asI, bltV, lenDic, bltD, derefs, D.blt, D.bLen, D.bTuple, D.bList, D.seq, mthV, mthOk, setV, ci_eq, ci_ne, ci_lt, ci_le, ci_gt, ci_ge, cs_eq, cs_ne, cb_eq, cb_ne, D.bin, D.slice, cut, sIx, isNon]
  refine draw_wp hB2 (by decide) (by decide +kernel) (by omega) fun o s3 _ _ hB3 k3 => ?_
  have kk3 := (k1.trans k2).trans k3
  -- what follows, whatever the others are
  have rest : ∀ os : List Int, os.length ≤ 5 → 1 ≤ os.length → ∀ x7 : Option Val, @Wp _ (execs (callN T n) (f_law_pair.body.drop 3) [some (.ref B), some (.d (.int w)), some (.d (.lst (fs.map .int))), some (.d (.lst (os.map .int))), none, none, none, x7] s3) ⟨fun o s1 => @Wp _ (match o with
      | .nx _ => leave st.length (.d .non) s1
      | .ret v => leave st.length v s1
      | _ => .bad) pp⟩ := by
    intro os ho ho1 x7
    simp [Tg.putV, Tg.put, Tg.puts, Tg.putF_eq, setAll, Tg.slots, Tg.slotss, wipe, indexV, D.index, atI, ixN, cmpV, deref, asB, asD, asDs, asI, bltV, lenDic, bltD, derefs, D.blt, D.bLen, D.bTuple, D.bList, D.seq, mthV, mthOk, setV, ci_eq, ci_ne, ci_lt, ci_le, ci_gt, ci_ge, cs_eq, cs_ne, cb_eq, cb_ne, D.bin, D.slice, cut, sIx, isNon, f_law_pair]
    refine draw_wp hB3 (by decide) (by decide +kernel) (by omega) fun d s4 d0 d1 hB4 k4 => ?_
    simp [Tg.putV, Tg.put, Tg.puts, Tg.putF_eq, setAll, Tg.slots, Tg.slotss, wipe, indexV, D.index, atI, ixN, cmpV, deref, asB, asD, asDs, asI, bltV, lenDic, bltD, derefs, D.blt, D.bLen, D.bTuple, D.bList, D.seq, mthV, mthOk, setV, ci_eq, ci_ne, ci_lt, ci_le, ci_gt, ci_ge, cs_eq, cs_ne, cb_eq, cb_ne, D.bin, D.slice, cut, sIx, isNon]
    refine any_kind_wp hB4 (by omega) (by omega) (by omega) (by omega) fun a s5 ha hB5 k5 => ?_
    have hah := a.h_parts
    have kk5 := (kk3.trans k4).trans k5
    simp [Tg.putV, Tg.put, Tg.puts, Tg.putF_eq, setAll, Tg.slots, Tg.slotss, wipe, indexV, D.index, atI, ixN, cmpV, deref, asB, asD, asDs, asI, bltV, lenDic, bltD, derefs, D.blt, D.bLen, D.bTuple, D.bList, D.seq, mthV, mthOk, setV, ci_eq, ci_ne, ci_lt, ci_le, ci_gt, ci_ge, cs_eq, cs_ne, cb_eq, cb_ne, D.bin, D.slice, cut, sIx, isNon]
    refine ⟨fun c => ?_, fun c => ?_⟩
    · refine draw_wp hB5 (by decide) (by decide +kernel) (by omega) fun e s6 e0 e1 hB6 k6 => ?_
      simp [Tg.putV, Tg.put, Tg.puts, Tg.putF_eq, setAll, Tg.slots, Tg.slotss, wipe, indexV, D.index, atI, ixN, cmpV, deref, asB, asD, asDs, asI, bltV, lenDic, bltD, derefs, D.blt, D.bLen, D.bTuple, D.bList, D.seq, mthV, mthOk, setV, ci_eq, ci_ne, ci_lt, ci_le, ci_gt, ci_ge, cs_eq, cs_ne, cb_eq, cb_ne, D.bin, D.slice, cut, sIx, isNon]
      refine any_kind_wp hB6 (by omega) (by omega) (by omega) (by omega) fun b s7 hb hB7 k7 => ?_
      have kk := (kk5.trans k6).trans k7
      simp [Tg.putV, Tg.put, Tg.puts, Tg.putF_eq, setAll, Tg.slots, Tg.slotss, wipe, indexV, D.index, atI, ixN, cmpV, deref, asB, asD, asDs, asI, bltV, lenDic, bltD, derefs, D.blt, D.bLen, D.bTuple, D.bList, D.seq, mthV, mthOk, setV, ci_eq, ci_ne, ci_lt, ci_le, ci_gt, ci_ge, cs_eq, cs_ne, cb_eq, cb_ne, D.bin, D.slice, cut, sIx, isNon, kk.take]
      exact k a b s7 (by omega) (by omega) hB7 kk
    · refine ⟨fun c1 => ?_, fun c1 => ?_⟩
      · have e := frees_ok2 T_f_law_frees (st := s5) a n (by omega) (by have := a.fr_len; omega)
        simp [Tg.putV, Tg.put, Tg.puts, Tg.putF_eq, setAll, Tg.slots, Tg.slotss, wipe, indexV, D.index, atI, ixN, cmpV, deref, asB, asD, asDs, asI, bltV, lenDic, bltD, derefs, D.blt, D.bLen, D.bTuple, D.bList, D.seq, mthV, mthOk, setV, ci_eq, ci_ne, ci_lt, ci_le, ci_gt, ci_ge, cs_eq, cs_ne, cb_eq, cb_ne, D.bin, D.slice, cut, sIx, isNon, e]
        refine fill_comp ho (by omega) hB5 (fun x => rfl) (fun x => rfl) (by simp) a.fr fun ps s6 hps hB6 k6 => ?_
        have em := merge_g ps []
        rw [show dF [] = [] from rfl] at em
        generalize hg : ps.foldl (fun g p => putG g p.1 p.2) [] = g at em
        have hgp : ∀ i, (fillG g i).parts ≤ 3 := fun i => by
          unfold fillG
          cases h : g.lookup i with
          | none => simp [Kd.parts]
          | some w => exact fold_in (P := fun w => w.parts ≤ 3) ps [] (fun _ _ h => by cases h) hps i w (by rw [hg]; exact h)
        have hb := a.sub_parts (by omega) hgp
        have e2 := put_g_ok T_f_law_put_in (st := s6 ++ [.dic (dF g)]) (d := s6.length) (g := g) (get_push _ _) a n (by omega)
        generalize a.sub (fillG g) = b at hb e2
        have hbh := b.h_parts
        have e3 := parts_ok T_f_law_parts (st := s6 ++ [.dic (dF g)]) b n (by omega)
        have kp := (kk5.trans k6).keep.push (.dic (dF g))
        simp [Tg.putV, Tg.put, Tg.puts, Tg.putF_eq, setAll, Tg.slots, Tg.slotss, wipe, indexV, D.index, atI, ixN, cmpV, deref, asB, asD, asDs, asI, bltV, lenDic, bltD, derefs, D.blt, D.bLen, D.bTuple, D.bList, D.seq, mthV, mthOk, setV, ci_eq, ci_ne, ci_lt, ci_le, ci_gt, ci_ge, cs_eq, cs_ne, cb_eq, cb_ne, D.bin, D.slice, cut, sIx, isNon, em, e2, e3]
        refine ⟨fun c3 => ?_, fun c3 => ?_⟩
        · have := k a b _ (by omega) (by omega) ((hB6.push (.dic (dF g))).take hB.lt) (.of kp)
          simpa using this
        · have := k a a _ (by omega) (by omega) ((hB6.push (.dic (dF g))).take hB.lt) (.of kp)
          simpa using this
      · refine ⟨fun c2 => ?_, fun c2 => ?_⟩
        · refine bent_kind_wp (fs := os) (by omega) a n _ _ hB5 (by omega) fun b s6 hb hB6 k6 => ?_
          have hbh := b.h_parts
          have e3 := parts_ok T_f_law_parts (st := s6) b n (by omega)
          have kk := kk5.trans k6
          simp [Tg.putV, Tg.put, Tg.puts, Tg.putF_eq, setAll, Tg.slots, Tg.slotss, wipe, indexV, D.index, atI, ixN, cmpV, deref, asB, asD, asDs, asI, bltV, lenDic, bltD, derefs, D.blt, D.bLen, D.bTuple, D.bList, D.seq, mthV, mthOk, setV, ci_eq, ci_ne, ci_lt, ci_le, ci_gt, ci_ge, cs_eq, cs_ne, cb_eq, cb_ne, D.bin, D.slice, cut, sIx, isNon, e3, kk.take]
          exact ⟨fun c3 => k a b _ (by omega) (by omega) hB6 kk, fun c3 => k a a _ (by omega) (by omega) hB6 kk⟩
        · refine loosened_wp ho1 (by omega) a n _ _ hB5 (by omega) fun b s6 hb hB6 k6 => ?_
          have hbh := b.h_parts
          simp [Tg.putV, Tg.put, Tg.puts, Tg.putF_eq, setAll, Tg.slots, Tg.slotss, wipe, indexV, D.index, atI, ixN, cmpV, deref, asB, asD, asDs, asI, bltV, lenDic, bltD, derefs, D.blt, D.bLen, D.bTuple, D.bList, D.seq, mthV, mthOk, setV, ci_eq, ci_ne, ci_lt, ci_le, ci_gt, ci_ge, cs_eq, cs_ne, cb_eq, cb_ne, D.bin, D.slice, cut, sIx, isNon]
          refine ⟨fun c3 => ?_, fun c3 => ?_⟩
          · refine loosened_wp hf1 (by omega) a n _ _ hB6 (by omega) fun a' s7 ha' hB7 k7 => ?_
            have e3 := parts_ok T_f_law_parts (st := s7) b n (by omega)
            have kk := (kk5.trans k6).trans k7
            simp [Tg.putV, Tg.put, Tg.puts, Tg.putF_eq, setAll, Tg.slots, Tg.slotss, wipe, indexV, D.index, atI, ixN, cmpV, deref, asB, asD, asDs, asI, bltV, lenDic, bltD, derefs, D.blt, D.bLen, D.bTuple, D.bList, D.seq, mthV, mthOk, setV, ci_eq, ci_ne, ci_lt, ci_le, ci_gt, ci_ge, cs_eq, cs_ne, cb_eq, cb_ne, D.bin, D.slice, cut, sIx, isNon, e3, kk.take]
            exact ⟨fun c3 => k a' b _ (by omega) (by omega) hB7 kk, fun c3 => k a' a' _ (by omega) (by omega) hB7 kk⟩
          · have e3 := parts_ok T_f_law_parts (st := s6) b n (by omega)
            have kk := kk5.trans k6
            simp [Tg.putV, Tg.put, Tg.puts, Tg.putF_eq, setAll, Tg.slots, Tg.slotss, wipe, indexV, D.index, atI, ixN, cmpV, deref, asB, asD, asDs, asI, bltV, lenDic, bltD, derefs, D.blt, D.bLen, D.bTuple, D.bList, D.seq, mthV, mthOk, setV, ci_eq, ci_ne, ci_lt, ci_le, ci_gt, ci_ge, cs_eq, cs_ne, cb_eq, cb_ne, D.bin, D.slice, cut, sIx, isNon, e3, kk.take]
            exact ⟨fun c3 => k a b _ (by omega) (by omega) hB6 kk, fun c3 => k a a _ (by omega) (by omega) hB6 kk⟩
  have r1 := rest fs hf hf1 none
  obtain ⟨os, hos⟩ : ∃ os : List Int, os = fs.map (· + 1000) := ⟨_, rfl⟩
  have r2 := rest os (by rw [hos]; simpa using hf) (by rw [hos]; simpa using hf1) none
  simp [Tg.putV, Tg.put, Tg.puts, Tg.putF_eq, setAll, Tg.slots, Tg.slotss, wipe, indexV, D.index, atI, ixN, cmpV, deref, asB, asD, asDs, asI, bltV, lenDic, bltD, derefs, D.blt, D.bLen, D.bTuple, D.bList, D.seq, mthV, mthOk, setV, ci_eq, ci_ne, ci_lt, ci_le, ci_gt, ci_ge, cs_eq, cs_ne, cb_eq, cb_ne, D.bin, D.slice, cut, sIx, isNon, f_law_pair] at r1 r2
  simp [Tg.putV, Tg.put, Tg.puts, Tg.putF_eq, setAll, Tg.slots, Tg.slotss, wipe, indexV, D.index, atI, ixN, cmpV, deref, asB, asD, asDs, asI, bltV, lenDic, bltD, derefs, D.blt, D.bLen, D.bTuple, D.bList, D.seq, mthV, mthOk, setV, ci_eq, ci_ne, ci_lt, ci_le, ci_gt, ci_ge, cs_eq, cs_ne, cb_eq, cb_ne, D.bin, D.slice, cut, sIx, isNon]
  refine ⟨fun c => ?_, fun c => ?_⟩
  · exact r1
  · have eo := others_ok (C := callN T n) (st := s3) (σ := [some (.ref B), some (.d (.int w)), some (.d (.lst (fs.map .int))), none, none, none, none, none]) (by simp) fs
    rw [← hos] at eo
    rw [eo]
    simp [Tg.putV, Tg.put, Tg.puts, Tg.putF_eq, setAll, Tg.slots, Tg.slotss, wipe, indexV, D.index, atI, ixN, cmpV, deref, asB, asD, asDs, asI, bltV, lenDic, bltD, derefs, D.blt, D.bLen, D.bTuple, D.bList, D.seq, mthV, mthOk, setV, ci_eq, ci_ne, ci_lt, ci_le, ci_gt, ci_ge, cs_eq, cs_ne, cb_eq, cb_ne, D.bin, D.slice, cut, sIx, isNon]
    exact r2
theorem named1 {st : Store} (k : Kd) (h : k.h ≤ 40) (hf : k.fr.length ≤ 40) : callN T 59 "_law_named" [.d (.lst [k.d])] st = .ok (.d (.lst [(k.ren []).d])) st :=
  law_named1_ok T_f_law_frees T_f_law_put_in T_f_law_named (n := 58) k (by omega) (by omega)
set_option maxHeartbeats 8000000 in
theorem turn {s : Store} {x0 x2 x3 x4 x5 x6 x7 : Option Val} {pp : Post Out} (hB : Bag s 0)
    (k : ∀ x3 x4 x5 x6 x7 s', Bag s' 0 → pp.q (.nx [x0, some (.ref 0), x2, x3, x4, x5, x6, x7]) s') :
    @Wp _ (execs (callN T 59) f_law_b0 [x0, some (.ref 0), x2, x3, x4, x5, x6, x7] s) pp := by
  simp [Tg.putV, Tg.put, Tg.puts, Tg.putF_eq, setAll, Tg.slots, Tg.slotss, wipe, indexV, D.index, atI, ixN, cmpV, deref, asB, asD, asDs, asI, bltV, lenDic, bltD, derefs, D.blt, D.bLen, D.bTuple, D.bList, D.seq, mthV, mthOk, setV, ci_eq, ci_ne, ci_lt, ci_le, ci_gt, ci_ge, cs_eq, cs_ne, cb_eq, cb_ne, D.bin, D.slice, cut, sIx, isNon]
  refine pair_wp hB (by omega) fun a b s1 ha hb hB1 k1 => ?_
  have hah := a.h_parts
  have ea := fun st => named1 (st := st) a (by omega) (by have := a.fr_len; omega)
  have ekd := fun (r : Kd) (h : r.h ≤ 40) st => alike_same (st := st) (r.ren []).d (okA_kd _) 59 (by rw [Kd.dep, Kd.ren_h]; omega)
  simp [Tg.putV, Tg.put, Tg.puts, Tg.putF_eq, setAll, Tg.slots, Tg.slotss, wipe, indexV, D.index, atI, ixN, cmpV, deref, asB, asD, asDs, asI, bltV, lenDic, bltD, derefs, D.blt, D.bLen, D.bTuple, D.bList, D.seq, mthV, mthOk, setV, ci_eq, ci_ne, ci_lt, ci_le, ci_gt, ci_ge, cs_eq, cs_ne, cb_eq, cb_ne, D.bin, D.slice, cut, sIx, isNon]
  refine joined_wp (by omega) (by omega) (by omega) (fun r mg hr hfw => ?_) (fun no => ?_)
  · simp [Tg.putV, Tg.put, Tg.puts, Tg.putF_eq, setAll, Tg.slots, Tg.slotss, wipe, indexV, D.index, atI, ixN, cmpV, deref, asB, asD, asDs, asI, bltV, lenDic, bltD, derefs, D.blt, D.bLen, D.bTuple, D.bList, D.seq, mthV, mthOk, setV, ci_eq, ci_ne, ci_lt, ci_le, ci_gt, ci_ge, cs_eq, cs_ne, cb_eq, cb_ne, D.bin, D.slice, cut, sIx, isNon]
    refine alike_told (by omega) (by omega) (by omega) fun v1 t1 => ?_
    simp [Tg.putV, Tg.put, Tg.puts, Tg.putF_eq, setAll, Tg.slots, Tg.slotss, wipe, indexV, D.index, atI, ixN, cmpV, deref, asB, asD, asDs, asI, bltV, lenDic, bltD, derefs, D.blt, D.bLen, D.bTuple, D.bList, D.seq, mthV, mthOk, setV, ci_eq, ci_ne, ci_lt, ci_le, ci_gt, ci_ge, cs_eq, cs_ne, cb_eq, cb_ne, D.bin, D.slice, cut, sIx, isNon]
    refine alike_told (by omega) (by omega) (by omega) fun v2 t2 => ?_
    simp [Tg.putV, Tg.put, Tg.puts, Tg.putF_eq, setAll, Tg.slots, Tg.slotss, wipe, indexV, D.index, atI, ixN, cmpV, deref, asB, asD, asDs, asI, bltV, lenDic, bltD, derefs, D.blt, D.bLen, D.bTuple, D.bList, D.seq, mthV, mthOk, setV, ci_eq, ci_ne, ci_lt, ci_le, ci_gt, ci_ge, cs_eq, cs_ne, cb_eq, cb_ne, D.bin, D.slice, cut, sIx, isNon]
    refine alike_told (by omega) (by omega) (by omega) fun v3 t3 => ?_
    simp [Tg.putV, Tg.put, Tg.puts, Tg.putF_eq, setAll, Tg.slots, Tg.slotss, wipe, indexV, D.index, atI, ixN, cmpV, deref, asB, asD, asDs, asI, bltV, lenDic, bltD, derefs, D.blt, D.bLen, D.bTuple, D.bList, D.seq, mthV, mthOk, setV, ci_eq, ci_ne, ci_lt, ci_le, ci_gt, ci_ge, cs_eq, cs_ne, cb_eq, cb_ne, D.bin, D.slice, cut, sIx, isNon]
    refine alike_told (by omega) (by omega) (by omega) fun v4 t4 => ?_
    have e1 := t1.of mg
    have e2 := t2.of mg
    have e3 := t3.of (MG.self a)
    have e4 := t4.symm.of mg
    subst e1 e2 e3 e4
    have er := fun st => named1 (st := st) r hr hfw
    have hnn : isNon (.d r.d) (.d .non) = some false := by rw [Kd.d_eq]; rfl
    unfold isNon at hnn
    have el := fun st => alike_same (st := st) (.lst [(r.ren []).d, (r.ren []).d, (a.ren []).d]) (by simp [okA, okAs, okA_kd, LIM]) 59 (by simp only [D.dep, D.depAll, Kd.dep, Kd.ren_h]; omega)
    simp [Tg.putV, Tg.put, Tg.puts, Tg.putF_eq, setAll, Tg.slots, Tg.slotss, wipe, indexV, D.index, atI, ixN, cmpV, deref, asB, asD, asDs, asI, bltV, lenDic, bltD, derefs, D.blt, D.bLen, D.bTuple, D.bList, D.seq, mthV, mthOk, setV, ci_eq, ci_ne, ci_lt, ci_le, ci_gt, ci_ge, cs_eq, cs_ne, cb_eq, cb_ne, D.bin, D.slice, cut, sIx, isNon, hnn, er, ea, el, ekd r hr]
    exact k _ _ _ _ _ _ hB1
  · simp [Tg.putV, Tg.put, Tg.puts, Tg.putF_eq, setAll, Tg.slots, Tg.slotss, wipe, indexV, D.index, atI, ixN, cmpV, deref, asB, asD, asDs, asI, bltV, lenDic, bltD, derefs, D.blt, D.bLen, D.bTuple, D.bList, D.seq, mthV, mthOk, setV, ci_eq, ci_ne, ci_lt, ci_le, ci_gt, ci_ge, cs_eq, cs_ne, cb_eq, cb_ne, D.bin, D.slice, cut, sIx, isNon]
    refine alike_told (by omega) (by omega) (by omega) fun v1 t1 => ?_
    simp [Tg.putV, Tg.put, Tg.puts, Tg.putF_eq, setAll, Tg.slots, Tg.slotss, wipe, indexV, D.index, atI, ixN, cmpV, deref, asB, asD, asDs, asI, bltV, lenDic, bltD, derefs, D.blt, D.bLen, D.bTuple, D.bList, D.seq, mthV, mthOk, setV, ci_eq, ci_ne, ci_lt, ci_le, ci_gt, ci_ge, cs_eq, cs_ne, cb_eq, cb_ne, D.bin, D.slice, cut, sIx, isNon]
    refine alike_told (by omega) (by omega) (by omega) fun v2 t2 => ?_
    simp [Tg.putV, Tg.put, Tg.puts, Tg.putF_eq, setAll, Tg.slots, Tg.slotss, wipe, indexV, D.index, atI, ixN, cmpV, deref, asB, asD, asDs, asI, bltV, lenDic, bltD, derefs, D.blt, D.bLen, D.bTuple, D.bList, D.seq, mthV, mthOk, setV, ci_eq, ci_ne, ci_lt, ci_le, ci_gt, ci_ge, cs_eq, cs_ne, cb_eq, cb_ne, D.bin, D.slice, cut, sIx, isNon]
    refine alike_told (by omega) (by omega) (by omega) fun v3 t3 => ?_
    simp [Tg.putV, Tg.put, Tg.puts, Tg.putF_eq, setAll, Tg.slots, Tg.slotss, wipe, indexV, D.index, atI, ixN, cmpV, deref, asB, asD, asDs, asI, bltV, lenDic, bltD, derefs, D.blt, D.bLen, D.bTuple, D.bList, D.seq, mthV, mthOk, setV, ci_eq, ci_ne, ci_lt, ci_le, ci_gt, ci_ge, cs_eq, cs_ne, cb_eq, cb_ne, D.bin, D.slice, cut, sIx, isNon]
    refine alike_told (by omega) (by omega) (by omega) fun v4 t4 => ?_
    have e1 := t1.none no
    have e2 := t2.none no
    have e3 := t3.of (MG.self a)
    have e4 := t4.symm.none no
    subst e1 e2 e3 e4
    have hne : D.cmp .ne (.lst [.non, .non]) (.lst [.non, .non]) = some false := by simp [D.cmp, fine, D.dep, D.depAll, D.eqv, D.eqvAll]
    simp [Tg.putV, Tg.put, Tg.puts, Tg.putF_eq, setAll, Tg.slots, Tg.slotss, wipe, indexV, D.index, atI, ixN, cmpV, deref, asB, asD, asDs, asI, bltV, lenDic, bltD, derefs, D.blt, D.bLen, D.bTuple, D.bList, D.seq, mthV, mthOk, setV, ci_eq, ci_ne, ci_lt, ci_le, ci_gt, ci_ge, cs_eq, cs_ne, cb_eq, cb_ne, D.bin, D.slice, cut, sIx, isNon, hne, ea, ekd a (by omega)]
    exact k _ _ _ _ _ _ hB1
set_option maxHeartbeats 2000000 in
theorem law_wp (ns : List Int) (hl : ns.length ≤ 63) : @Wp _ (Ir.callN T 60 "law" [.d (.ro (ns.map Ir.D.int))] []) ⟨fun v _ => v = .d (.bool true)⟩ := by
  rw [callN_run T_f_law]
  simp [Tg.putV, Tg.put, Tg.puts, Tg.putF_eq, setAll, Tg.slots, Tg.slotss, wipe, indexV, D.index, atI, ixN, cmpV, deref, asB, asD, asDs, asI, bltV, lenDic, bltD, derefs, D.blt, D.bLen, D.bTuple, D.bList, D.seq, mthV, mthOk, setV, ci_eq, ci_ne, ci_lt, ci_le, ci_gt, ci_ge, cs_eq, cs_ne, cb_eq, cb_ne, D.bin, D.slice, cut, sIx, isNon, f_law]
  refine bag_wp ns (by omega) fun s1 hB1 _ _ => ?_
  obtain ⟨q, hq⟩ : ∃ q, q = (if (ns.length : Int) / 8 < 3 then (ns.length : Int) / 8 else 3) := ⟨_, rfl⟩
  have hqb : 0 ≤ q ∧ q ≤ 3 := by rw [hq]; split <;> omega
  have hmin : D.bMin [.int 3, .int ((ns.length : Int) / 8)] = some (.int q) := by simp only [D.bMin, hq]
  have hr : D.bRange [.int (2 + q)] = some (.lst (rangeL 0 (2 + q).toNat)) := by
    have := bRange_nat (n := (2 + q).toNat) (by simp only [LIM]; omega)
    rwa [show (((2 + q).toNat : Nat) : Int) = 2 + q by omega] at this
  simp [Tg.putV, Tg.put, Tg.puts, Tg.putF_eq, setAll, Tg.slots, Tg.slotss, wipe, indexV, D.index, atI, ixN, cmpV, deref, asB, asD, asDs, asI, bltV, lenDic, bltD, derefs, D.blt, D.bLen, D.bTuple, D.bList, D.seq, mthV, mthOk, setV, ci_eq, ci_ne, ci_lt, ci_le, ci_gt, ci_ge, cs_eq, cs_ne, cb_eq, cb_ne, D.bin, D.slice, cut, sIx, isNon, big_of (i := 8) (by decide) (by decide), hmin, hr]
  refine wp_loop (fun _ σ s => Bag s 0 ∧ ∃ x0 x2 x3 x4 x5 x6 x7, σ = [x0, some (.ref 0), x2, x3, x4, x5, x6, x7]) ?_ ?_ _ _ _ ⟨hB1, _, _, _, _, _, _, _, rfl⟩
  · rintro x xs σ s ⟨hB, x0, x2, x3, x4, x5, x6, x7, rfl⟩
    refine ⟨_, rfl, ?_⟩
    refine turn hB fun y3 y4 y5 y6 y7 s' hB' => ?_
    exact ⟨hB', _, _, _, _, _, _, _, rfl⟩
  · rintro σ s ⟨hB, x0, x2, x3, x4, x5, x6, x7, rfl⟩
    simp [Tg.putV, Tg.put, Tg.puts, Tg.putF_eq, setAll, Tg.slots, Tg.slotss, wipe, indexV, D.index, atI, ixN, cmpV, deref, asB, asD, asDs, asI, bltV, lenDic, bltD, derefs, D.blt, D.bLen, D.bTuple, D.bList, D.seq, mthV, mthOk, setV, ci_eq, ci_ne, ci_lt, ci_le, ci_gt, ci_ge, cs_eq, cs_ne, cb_eq, cb_ne, D.bin, D.slice, cut, sIx, isNon]
theorem law_true (ns : List Int) (hl : ns.length ≤ 63) : ∃ st', Ir.callN T 60 "law" [.d (.ro (ns.map Ir.D.int))] [] = .ok (.d (.bool true)) st' := by
  obtain ⟨v, s, e, h⟩ := wp_iff.mp (law_wp ns hl)
  have h : v = .d (.bool true) := h
  exact ⟨s, by rw [e, h]⟩
end Prog

open PySem PySem.W PyProof.Rows
set_option maxRecDepth 100000 in
set_option maxHeartbeats 0 in
theorem PySem.Challenge.cw_leastmends_k12_made_alike_holds : PySem.Challenge.rw_leastmends_k12_made_alike.Holds := by
  w_on; o_law; k_head; (case hw => w_witness2)
  k_fill
  refine L2.walk_ofB (l := PySem.Challenge.rw_leastmends_k12_made_alike) (n := 63) (k := 60) (x := "_law_script") (CX := fun _ => L2.CX0) (sp := fun w => Prog.spLaw 60 _) rfl (by decide) rfl ⟨rfl, by decide, by decide⟩ (fun w h Y => PySem.W.kIn_of Y) ?F (fun _ H a ns hl hb hO hS => Snd.law_sp hO hS hl (Prog.law_true ns hl).choose_spec) (fun _ _ _ _ _ h => h)
  case F =>
    intro w mg fa h KX G hmg
    refine' Prog.all_mk KX G hmg ?x0 ?l0 ?c0 ?k0 ?x1 ?l1 ?c1 ?k1 ?x2 ?l2 ?c2 ?k2 ?x3 ?l3 ?c3 ?k3 ?x4 ?l4 ?c4 ?k4 ?x5 ?l5 ?c5 ?k5 ?x6 ?l6 ?c6 ?k6 ?x7 ?l7 ?c7 ?k7 ?x8 ?l8 ?c8 ?k8 ?x9 ?l9 ?c9 ?k9 ?x10 ?l10 ?c10 ?k10 ?x11 ?l11 ?c11 ?k11 ?x12 ?l12 ?c12 ?k12 ?x13 ?l13 ?c13 ?k13 ?x14 ?l14 ?c14 ?k14 ?x15 ?l15 ?c15 ?k15 ?x16 ?l16 ?c16 ?k16 ?x17 ?l17 ?c17 ?k17 ?x18 ?l18 ?c18 ?k18 ?x19 ?l19 ?c19 ?k19 ?x20 ?l20 ?c20 ?k20 ?x21 ?l21 ?c21 ?k21 ?z0 ?z1 ?z2 ?z3 ?z4 ?z5 ?z6 ?z7 ?z8 ?z9 ?z10 ?z11 ?z12 ?z13 ?z14
    (case x0 => k_is); (case l0 => k_is); (case c0 => k_is); (case k0 => k_is); (case x1 => k_is); (case l1 => k_is); (case c1 => k_is); (case k1 => k_is); (case x2 => k_is); (case l2 => k_is); (case c2 => k_is); (case k2 => k_is); (case x3 => k_is); (case l3 => k_is); (case c3 => k_is); (case k3 => k_is); (case x4 => k_is); (case l4 => k_is); (case c4 => k_is); (case k4 => k_is); (case x5 => k_is); (case l5 => k_is); (case c5 => k_is); (case k5 => k_is); (case x6 => k_is); (case l6 => k_is); (case c6 => k_is); (case k6 => k_is); (case x7 => k_is); (case l7 => k_is); (case c7 => k_is); (case k7 => k_is); (case x8 => k_is); (case l8 => k_is); (case c8 => k_is); (case k8 => k_is); (case x9 => k_is); (case l9 => k_is); (case c9 => k_is); (case k9 => k_is); (case x10 => k_is); (case l10 => k_is); (case c10 => k_is); (case k10 => k_is); (case x11 => k_is); (case l11 => k_is); (case c11 => k_is); (case k11 => k_is); (case x12 => k_is); (case l12 => k_is); (case c12 => k_is); (case k12 => k_is); (case x13 => k_is); (case l13 => k_is); (case c13 => k_is); (case k13 => k_is); (case x14 => k_is); (case l14 => k_is); (case c14 => k_is); (case k14 => k_is); (case x15 => k_is); (case l15 => k_is); (case c15 => k_is); (case k15 => k_is); (case x16 => k_is); (case l16 => k_is); (case c16 => k_is); (case k16 => k_is); (case x17 => k_is); (case l17 => k_is); (case c17 => k_is); (case k17 => k_is); (case x18 => k_is); (case l18 => k_is); (case c18 => k_is); (case k18 => k_is); (case x19 => k_is); (case l19 => k_is); (case c19 => k_is); (case k19 => k_is); (case x20 => k_is); (case l20 => k_is); (case c20 => k_is); (case k20 => k_is); (case x21 => k_is); (case l21 => k_is); (case c21 => k_is); (case k21 => k_is)
    (case z0 => k_is); (case z1 => k_is); (case z2 => k_is); (case z3 => k_is); (case z4 => k_is); (case z5 => k_is); (case z6 => k_is); (case z7 => k_is); (case z8 => k_is); (case z9 => k_is); (case z10 => k_is); (case z11 => k_is); (case z12 => k_is); (case z13 => k_is); (case z14 => k_is)

