import PyProof.Rows.All
import Wide.All
import OpenK.AllK
import Wide.FinOn
import HandS.ForMost
import HandS.Wide
import HandS.WideBits
import HandS.IsInst
import HandS.SetKeys
import HandS.Zip
import HandS.EndBits
import KE.KUnpackStar
import HandS.TupAny
import HandS.Deep
import HandS.TupLe
import HandS.ForExc
import KE.KItemsList
import KE.KDictZip
import HandS.ListItems
import HandS.FStr
import HandS.RaiseMore
import PyProof.Draws
import PyProof.EnumMake
import PyProof.StrLoop
import HandS.RevRange
import HandS.Codes
import HandS.WrittenGet
import HandS.Defaults
import HandS.More
import HandS.SortInts
import HandS.Conv
import HandS.Iter
import HandS.TryOnly
import HandS.Style
import HandS.SetFor
import HandS.Strs
import HandS.Lambda
import HandS.SortKw
import KE.DataMinMax
import ObjForm.LawKit
import PySem.Challenge.RW_leastmends_k01_formed
set_option linter.all false
set_option maxRecDepth 100000
/-! A small language with explicit store: what the given defs compute, as total functions. -/
namespace Ir
/-- deep data, never changed -/
inductive D where
  | non | bool (b : Bool) | int (i : Int) | str (s : String) | tup (xs : List D) | lst (xs : List D) | ro (xs : List D)
deriving Inhabited
inductive Val where
  | d (x : D) | ref (n : Nat)
deriving Inhabited
inductive Cell where
  | lst (xs : List D) | dic (kvs : List (D × D)) | dead
deriving Inhabited
abbrev Store := List Cell
abbrev Env := List (Option Val)
inductive Res (α : Type) where
  | ok (a : α) (st : Store) | exc (c : String) (as : List D) (st : Store) | bad
def Res.bind {α β : Type} : Res α → (α → Store → Res β) → Res β
  | .ok a st, f => f a st
  | .exc c as st, _ => .exc c as st
  | .bad, _ => .bad
@[simp] theorem Res.bind_ok {α β : Type} (a : α) (st : Store) (f : α → Store → Res β) : (Res.ok a st).bind f = f a st := rfl
@[simp] theorem Res.bind_bad {α β : Type} (f : α → Store → Res β) : (Res.bad : Res α).bind f = .bad := rfl
@[simp] theorem Res.bind_exc {α β : Type} (c as st) (f : α → Store → Res β) : (Res.exc c as st : Res α).bind f = .exc c as st := rfl
theorem Res.bind_eq_ok {α β : Type} {r : Res α} {f : α → Store → Res β} {b : β} {st : Store} (h : r.bind f = .ok b st) : ∃ a s1, r = .ok a s1 ∧ f a s1 = .ok b st := by
  cases r with
  | ok a s1 => exact ⟨a, s1, rfl, h⟩
  | exc c as s1 => cases h
  | bad => cases h

theorem LIMx : ∃ n : Nat, n = 16777216 := ⟨_, rfl⟩
/-- a bound that is never counted out -/
noncomputable def LIM : Nat := Classical.choose LIMx
theorem LIM_eq : LIM = 16777216 := Classical.choose_spec LIMx
noncomputable section
/-! ### data -/
mutual
def D.dep : D → Nat
  | .tup xs | .lst xs => D.depAll xs + 1
  | .non | .bool _ | .int _ | .str _ => 0
  | .ro _ => 1000
def D.depAll : List D → Nat
  | [] => 0
  | x :: xs => max x.dep (D.depAll xs)
end
mutual
/-- Python's == -/
def D.eqv : D → D → Bool
  | .non, .non => true
  | .bool a, .bool b => a == b
  | .bool a, .int j => (if a then 1 else 0) == j
  | .int i, .bool b => i == (if b then 1 else 0)
  | .int i, .int j => i == j
  | .str x, .str y => decide (x = y)
  | .lst xs, .lst ys => D.eqvAll xs ys
  | .tup xs, .tup ys => D.eqvAll xs ys
  | _, _ => false
def D.eqvAll : List D → List D → Bool
  | [], [] => true
  | x :: xs, y :: ys => D.eqv x y && D.eqvAll xs ys
  | [], _ :: _ => false
  | _ :: _, [] => false
end
/-- an index: negative ones from behind -/
def ixN (n : Nat) (i : Int) : Option Nat := if 0 ≤ i then (if i < n then some i.toNat else none) else if -(n : Int) ≤ i then some (i + n).toNat else none
def atI {α : Type} (xs : List α) (i : Int) : Option α := (ixN xs.length i).bind fun j => xs[j]?
/-- a slice's bound: clamp -/
def sIx (n : Nat) (d : Nat) : Option Int → Nat
  | none => d
  | some i => if i < 0 then (i + n).toNat else min i.toNat n
def cut {α : Type} (xs : List α) (lo hi : Option Int) : List α := (xs.drop (sIx xs.length 0 lo)).take (sIx xs.length xs.length hi - sIx xs.length 0 lo)

inductive Op where | add | sub | mul | fdiv | mod | pow | lmul
deriving DecidableEq
inductive Cmp where | eq | ne | lt | le | gt | ge | isin | notin | is | isnot | sin | snin
deriving DecidableEq
inductive Bi where | len | abs | tuple | list | all | any | sum | min | max | range | zip | lzip | int | str | enum | revR | chars | zipS | maxd | lrange | sorted | rngS | sset | revT
deriving DecidableEq
def Bi.name : Bi → String
  | .len => "len" | .abs => "abs" | .tuple => "tuple" | .list => "list" | .all => "all" | .any => "any" | .sum => "sum" | .min => "min" | .max => "max" | .range => "range" | .zip => "zip" | .lzip => "list" | .int => "int" | .str => "str" | .enum => "enumerate" | .revR => "reversed" | .chars => "" | .zipS => "zip" | .maxd => "max" | .lrange => "list" | .sorted => "sorted" | .rngS => "range" | .sset => "sorted" | .revT => ""
inductive Mt where | append | extend | pop | pop0 | setdefault | get | bit_length | join | reverse
deriving DecidableEq
inductive Ty where | bool | int | str | tuple | list
deriving DecidableEq
def Ty.name : Ty → String
  | .bool => "bool" | .int => "int" | .str => "str" | .tuple => "tuple" | .list => "list"
inductive Tg where
  | name (i : Nat) | tup (ts : List Tg) | star (pre : List Nat) (i : Nat) (post : List Nat)
/-- questions to a dict that is never changed -/
inductive Kq where | get | isin | notin | idx
deriving DecidableEq
inductive Ex where
  | var (i : Nat)
  | con (d : D)
  | tup (es : List Ex)
  | lst (es : List Ex)
  | newL (e : Ex)
  | newD
  | newDP (e : Ex)
  | newDd (es : List Ex)
  | frz (e : Ex)
  | bin (o : Op) (a b : Ex)
  | neg (a : Ex)
  | cmp (o : Cmp) (a b : Ex)
  | chain (o o' : Cmp) (a b c : Ex)
  | and (a b : Ex) | or (a b : Ex) | not (a : Ex)
  | ite (c a b : Ex)
  | idx (a b : Ex)
  | sli (a : Ex) (lo hi : Option Ex)
  | call (f : String) (es : List Ex)
  | callP (f : String) (es : List Ex) (perm : List Nat)
  | blt (f : Bi) (es : List Ex)
  | mth (m : Mt) (o : Ex) (es : List Ex)
  | isi (e : Ex) (ts : List Ty)
  | fs (es : List Ex)
  | kd (o : Kq) (kvs : List (String × D)) (e : Ex)
  | rev (e : Ex)
  | comp (elt : Ex) (tg : Tg) (it : Ex) (cs : List Ex)
/-- expressions that may raise -/
inductive EX where
  | p (e : Ex)
  | call (f : String) (es : List EX)
  | callP (f : String) (es : List EX) (perm : List Nat)
  | ite (c : Ex) (a b : EX)
inductive Stm where
  | asg (t : Tg) (e : Ex)
  | par (i j : Nat) (a b : Ex)
  | set (o i e : Ex)
  | ex (e : Ex)
  | ret (e : Ex)
  | ite (c : Ex) (a b : List Stm)
  | loop (t : Tg) (it : Ex) (body : List Stm)
  | while (c : Ex) (body : List Stm)
  | aug (i : Nat) (o : Op) (e : Ex)
  | pass | brk | cnt
  | never
  | asgX (t : Tg) (e : EX)
  | exX (e : EX)
  | retX (e : EX)
  | raise (c : String)
  | tryX (body : List Stm) (c : String) (h : List Stm)
structure Fn where
  many : Nat            -- slots
  pars : Nat
  body : List Stm
  x : Bool              -- may raise
abbrev Calls := String → List Val → Store → Res Val

/-! ### operators -/
def bigOk (i : Int) : Bool := decide (i.natAbs < 2 ^ 4000)
def smallOk (i : Int) : Bool := decide (-(2 ^ 64) < i ∧ i < 2 ^ 64)
def D.bin : Op → D → D → Option D
  | .add, .int i, .int j => some (.int (i + j))
  | .add, .str x, .str y => if x.length + y.length ≤ LIM then some (.str (x ++ y)) else none
  | .add, .tup xs, .tup ys => if xs.length + ys.length ≤ LIM then some (.tup (xs ++ ys)) else none
  | .add, .lst xs, .lst ys => if xs.length + ys.length ≤ LIM then some (.lst (xs ++ ys)) else none
  | .sub, .int i, .int j => some (.int (i - j))
  | .mul, .int i, .int j => if (bigOk i && bigOk j) || (smallOk i || smallOk j) then some (.int (i * j)) else none
  | .fdiv, .int i, .int j => if 0 < j && bigOk j then some (.int (i / j)) else none
  | .mod, .int i, .int j => if 0 < j then some (.int (i % j)) else none
  | .lmul, .lst xs, .int n => if 0 ≤ n && decide (n ≤ (LIM : Int)) && decide (xs.length * n.toNat ≤ LIM) then some (.lst (List.replicate n.toNat xs).flatten) else none
  | .pow, .int i, .int j => if 0 ≤ j && decide (j ≤ 100) && bigOk i then some (.int (i ^ j.toNat)) else none
  | _, _, _ => none
/-- the content of a value: a cell's list as data -/
def deref (st : Store) : Val → Option D
  | .d x => some x
  | .ref n => match st[n]? with
    | some (.lst xs) => some (.lst xs)
    | _ => none
def fine (x : D) : Bool := decide (x.dep ≤ 64)
def flat : D → Bool
  | .non | .bool _ | .int _ | .str _ => true
  | _ => false
def D.key : D → Bool
  | .int _ | .str _ => true
  | _ => false
def lookK (kvs : List (D × D)) (k : D) : Option D := (kvs.find? fun p => p.1.eqv k).map (·.2)
def putK (kvs : List (D × D)) (k v : D) : List (D × D) :=
  if kvs.any fun p => p.1.eqv k then kvs.map fun p => if p.1.eqv k then (p.1, v) else p else kvs ++ [(k, v)]
/-- pairs put into a dict, one by one -/
def mergeP : List (D × D) → List D → Option (List (D × D))
  | acc, [] => some acc
  | acc, .tup [k, v] :: r => if k.key then mergeP (putK acc k v) r else none
  | _, _ :: _ => none
/-- keys and values by turns -/
def mergeF : List (D × D) → List D → Option (List (D × D))
  | acc, [] => some acc
  | acc, k :: v :: r => if k.key then mergeF (putK acc k v) r else none
  | _, [_] => none
def D.cmp : Cmp → D → D → Option Bool
  | .eq, x, y => if fine x && fine y then some (x.eqv y) else none
  | .ne, x, y => if fine x && fine y then some (!x.eqv y) else none
  | .lt, .int i, .int j => some (decide (i < j))
  | .le, .int i, .int j => some (decide (i ≤ j))
  | .gt, .int i, .int j => some (decide (i > j))
  | .ge, .int i, .int j => some (decide (i ≥ j))
  | _, _, _ => none
def D.mem (x : D) : D → Option Bool
  | .lst ys => if fine x && fine (.lst ys) then some (ys.any fun y => y.eqv x) else none
  | .tup ys => if flat x && ys.all flat then some (ys.any fun y => y.eqv x) else none
  | _ => none
def inB (st : Store) (x c : Val) : Option Bool :=
  match x, c with
  | .d k, .ref n => match st[n]? with
    | some (.dic kvs) => if k.key then some (lookK kvs k).isSome else none
    | some (.lst xs) => k.mem (.lst xs)
    | _ => none
  | .d k, .d y => k.mem y
  | _, _ => none
def isNon : Val → Val → Option Bool
  | .ref _, .d .non => some false
  | .d x, .d .non => some (match x with | .non => true | _ => false)
  | .d (.bool b), .d (.bool c) => some (decide (b = c))
  | _, _ => none
/-- a sign in a text -/
def strIn : Val → Val → Option Bool
  | .d (.str y), .d (.str z) => match y.toList with
    | [c] => if z.length ≤ LIM then some (decide (c ∈ z.toList)) else none
    | _ => none
  | _, _ => none
def cmpV (o : Cmp) (st : Store) (x y : Val) : Option Bool :=
  match o with
  | .isin => inB st x y
  | .notin => (inB st x y).map (!·)
  | .is => isNon x y
  | .isnot => (isNon x y).map (!·)
  | .sin => strIn x y
  | .snin => (strIn x y).map (!·)
  | o => match deref st x, deref st y with
    | some a, some b => D.cmp o a b
    | _, _ => none
/-- a text of one sign -/
def sgn (c : Char) : D := .str (String.singleton c)
def D.index : D → D → Option D
  | .str z, .int i => if z.length ≤ LIM then (atI z.toList i).map sgn else none
  | .tup xs, .int i => atI xs i
  | .lst xs, .int i => atI xs i
  | .ro xs, .int i => atI xs i
  | _, _ => none
def indexV (st : Store) (x y : Val) : Option D :=
  match x, y with
  | .ref n, .d k => match st[n]? with
    | some (.lst xs) => D.index (.lst xs) k
    | some (.dic kvs) => if k.key then lookK kvs k else none
    | _ => none
  | .d a, .d k => a.index k
  | _, _ => none
def D.slice : D → Option Int → Option Int → Option D
  | .str z, lo, hi => if z.length ≤ LIM then some (.str (String.ofList (cut z.toList lo hi))) else none
  | .tup xs, lo, hi => some (.tup (cut xs lo hi))
  | .lst xs, lo, hi => some (.lst (cut xs lo hi))
  | .ro xs, lo, hi => some (.lst (cut xs lo hi))
  | _, _, _ => none
def D.seq : D → Option (List D)
  | .tup xs => some xs
  | .lst xs => some xs
  | _ => none
def D.tyOk : D → Ty → Bool
  | .bool _, .bool => true
  | .bool _, .int => true
  | .int _, .int => true
  | .str _, .str => true
  | .tup _, .tuple => true
  | .lst _, .list => true
  | .ro _, .list => true
  | _, _ => false
def D.bools : List D → Option (List Bool)
  | [] => some []
  | .bool b :: r => (D.bools r).map (b :: ·)
  | _ :: _ => none
def D.ints : List D → Option (List Int)
  | [] => some []
  | .int b :: r => (D.ints r).map (b :: ·)
  | _ :: _ => none
def intBits (i : Int) : Nat := if i.natAbs = 0 then 0 else i.natAbs.log2 + 1
def rangeL (lo : Int) (n : Nat) : List D := (List.range n).map fun i => .int (lo + (i : Nat))
/-- by steps of two -/
def rangeS (lo : Int) (n : Nat) : List D := (List.range n).map fun i => .int (lo + (i : Nat) * 2)
def stepN (i j : Int) : Nat := if i < j then ((j - i - 1) / 2 + 1).toNat else 0
def zipL (xs ys : List D) : List D := (xs.zip ys).map fun p => .tup [p.1, p.2]
/-- built-in calls upon data -/
def D.bLen : List D → Option D
  | [.ro xs] => some (.int xs.length)
  | [.tup xs] => some (.int xs.length)
  | [.lst xs] => some (.int xs.length)
  | [.str z] => if z.length ≤ LIM then some (.int z.length) else none
  | _ => none
def D.bAbs : List D → Option D
  | [.int i] => some (.int (if i < 0 then -i else i))
  | _ => none
def D.bTuple : List D → Option D
  | [.tup xs] => some (.tup xs)
  | [.lst xs] => some (.tup xs)
  | _ => none
def D.bList : List D → Option D
  | [.tup xs] => some (.lst xs)
  | [.lst xs] => some (.lst xs)
  | _ => none
def D.bAll : List D → Option D
  | [.lst xs] => (D.bools xs).map fun bs => .bool (bs.all id)
  | _ => none
def D.bAny : List D → Option D
  | [.lst xs] => (D.bools xs).map fun bs => .bool (bs.any id)
  | _ => none
def D.bSum : List D → Option D
  | [.lst xs] => (D.ints xs).map fun bs => .int bs.sum
  | _ => none
def D.bMin : List D → Option D
  | [.int i, .int j] => some (.int (if j < i then j else i))
  | _ => none
def D.bMax : List D → Option D
  | [.int i, .int j] => some (.int (if j > i then j else i))
  | _ => none
def D.bRange : List D → Option D
  | [.int n] => if -(LIM : Int) ≤ n ∧ n ≤ (LIM : Int) then some (.lst (rangeL 0 n.toNat)) else none
  | [.int i, .int j] => if -(LIM : Int) ≤ i ∧ i ≤ (LIM : Int) ∧ -(LIM : Int) ≤ j ∧ j ≤ (LIM : Int) ∧ j - i ≤ (LIM : Int) then some (.lst (rangeL i (j - i).toNat)) else none
  | _ => none
def D.bZip : List D → Option D
  | [.lst xs, .lst ys] => some (.lst (zipL xs ys))
  | [.tup xs, .tup ys] => some (.lst (zipL xs ys))
  | [.lst xs, .tup ys] => some (.lst (zipL xs ys))
  | _ => none
def D.bInt : List D → Option D
  | [.int i] => some (.int i)
  | [.bool b] => some (.int (if b then 1 else 0))
  | _ => none
def D.bStr : List D → Option D
  | [.int i] => if i.natAbs.log2 < 1920 then some (.str (toString i)) else none
  | [.str z] => if z.length ≤ LIM then some (.str z) else none
  | _ => none
/-- list(zip(a, b)) -/
def D.bLzip : List D → Option D
  | [.tup xs, .tup ys] => some (.lst (zipL xs ys))
  | _ => none
/-- enumerate(xs) -/
def enumL (xs : List D) : List D := (List.range xs.length).zip xs |>.map fun p => .tup [.int (p.1 : Nat), p.2]
def D.bEnum : List D → Option D
  | [.tup xs] => some (.lst (enumL xs))
  | [.lst xs] => some (.lst (enumL xs))
  | _ => none
/-- reversed(range(..)) -/
def D.bRevR : List D → Option D
  | [.int n] => if -(LIM : Int) ≤ n ∧ n ≤ (LIM : Int) then some (.lst (rangeL 0 n.toNat).reverse) else none
  | [.int i, .int j] => if -(LIM : Int) ≤ i ∧ i ≤ (LIM : Int) ∧ -(LIM : Int) ≤ j ∧ j ≤ (LIM : Int) ∧ j - i ≤ (LIM : Int) then some (.lst (rangeL i (j - i).toNat).reverse) else none
  | _ => none
def D.bChars : List D → Option D
  | [.str z] => if z.length ≤ LIM then some (.lst (z.toList.map sgn)) else none
  | _ => none
def D.bZipS : List D → Option D
  | [.lst xs, .str z] => if z.length ≤ LIM then some (.lst (zipL xs (z.toList.map sgn))) else none
  | _ => none
/-- max(xs, default=d) -/
def D.bMaxd : List D → Option D
  | [.lst xs, .int d] => (D.ints xs).map fun bs => .int (match bs with | [] => d | b :: r => r.foldl (fun m x => if x > m then x else m) b)
  | _ => none
/-- list(range(..)) -/
def D.bLrange : List D → Option D
  | [.int n] => if -(LIM : Int) ≤ n ∧ n ≤ (LIM : Int) then some (.lst (rangeL 0 n.toNat)) else none
  | _ => none
/-- ints in order -/
def insI (x : Int) : List Int → List Int
  | [] => [x]
  | y :: l => if x ≤ y then x :: y :: l else y :: insI x l
def sortI : List Int → List Int
  | [] => []
  | x :: l => insI x (sortI l)
def D.bRngS : List D → Option D
  | [.int i, .int j, .int c] => if c = 2 ∧ 0 ≤ i ∧ i ≤ (LIM : Int) ∧ -(LIM : Int) ≤ j ∧ j ≤ (LIM : Int) then some (.lst (rangeS i (stepN i j))) else none
  | _ => none
def D.bSorted : List D → Option D
  | [.lst xs] => (D.ints xs).map fun l => .lst ((sortI l).map .int)
  | _ => none
/-- sorted(set(xs)), of ints -/
def insD (x : Int) : List Int → List Int
  | [] => [x]
  | y :: l => if x < y then x :: y :: l else if x = y then y :: l else y :: insD x l
def ssetI : List Int → List Int
  | [] => []
  | x :: l => insD x (ssetI l)
def D.bSset : List D → Option D
  | [.lst xs] => (D.ints xs).bind fun l => if l.length ≤ 1000 ∧ (ssetI l).length < 64 then some (.lst ((ssetI l).map .int)) else none
  | _ => none
/-- t[::-1] -/
def D.bRevT : List D → Option D
  | [.tup xs] => some (.tup xs.reverse)
  | _ => none
def D.blt : Bi → List D → Option D
  | .len => D.bLen
  | .abs => D.bAbs
  | .tuple => D.bTuple
  | .list => D.bList
  | .all => D.bAll
  | .any => D.bAny
  | .sum => D.bSum
  | .min => D.bMin
  | .max => D.bMax
  | .range => D.bRange
  | .zip => D.bZip
  | .lzip => D.bLzip
  | .int => D.bInt
  | .str => D.bStr
  | .enum => D.bEnum
  | .revR => D.bRevR
  | .chars => D.bChars
  | .zipS => D.bZipS
  | .maxd => D.bMaxd
  | .lrange => D.bLrange
  | .sorted => D.bSorted
  | .rngS => D.bRngS
  | .sset => D.bSset
  | .revT => D.bRevT
def derefs (st : Store) : List Val → Option (List D)
  | [] => some []
  | v :: r => match deref st v, derefs st r with
    | some d, some ds => some (d :: ds)
    | _, _ => none
def asDs : List Val → Option (List D)
  | [] => some []
  | .d x :: r => (asDs r).map (x :: ·)
  | .ref _ :: _ => none
def bltD (f : Bi) (vs : List Val) (st : Store) : Res Val :=
  match derefs st vs with
  | some ds => match D.blt f ds with
    | some r => .ok (.d r) st
    | none => .bad
  | none => .bad
def lenDic (vs : List Val) (st : Store) : Option Nat :=
  match vs with
  | [.ref n] => match st[n]? with
    | some (.dic kvs) => some kvs.length
    | _ => none
  | _ => none
def bltV (f : Bi) (vs : List Val) (st : Store) : Res Val :=
  match f with
  | .len => match lenDic vs st with
    | some n => .ok (.d (.int n)) st
    | none => bltD .len vs st
  | .zip => match asDs vs with
    | some _ => bltD .zip vs st
    | none => .bad
  | .enum => match asDs vs with
    | some _ => bltD .enum vs st
    | none => .bad
  | .zipS => match asDs vs with
    | some _ => bltD .zipS vs st
    | none => .bad
  | f => bltD f vs st
/-- methods of cells and data -/
def mAppend (n : Nat) (st : Store) : List Val → Res Val
  | [.d x] => match st[n]? with
    | some (.lst xs) => if xs.length < LIM then .ok (.d .non) (st.set n (.lst (xs ++ [x]))) else .bad
    | _ => .bad
  | _ => .bad
def mExtend (n : Nat) (st : Store) : List Val → Res Val
  | [.d (.lst ys)] => match st[n]? with
    | some (.lst xs) => if xs.length + ys.length ≤ LIM then .ok (.d .non) (st.set n (.lst (xs ++ ys))) else .bad
    | _ => .bad
  | _ => .bad
def mPop (n : Nat) (st : Store) : List Val → Res Val
  | [] => match st[n]? with
    | some (.lst xs) => match xs[xs.length - 1]? with
      | some y => .ok (.d y) (st.set n (.lst xs.dropLast))
      | none => .bad
    | _ => .bad
  | _ => .bad
def mPop0 (n : Nat) (st : Store) : List Val → Res Val
  | [] => match st[n]? with
    | some (.lst (y :: ys)) => .ok (.d y) (st.set n (.lst ys))
    | _ => .bad
  | _ => .bad
def mSetdefault (n : Nat) (st : Store) : List Val → Res Val
  | [.d k, .d v] => match st[n]? with
    | some (.dic kvs) => if k.key && decide (kvs.length < LIM) then (match lookK kvs k with
      | some w => .ok (.d w) st
      | none => .ok (.d v) (st.set n (.dic (putK kvs k v)))) else .bad
    | _ => .bad
  | _ => .bad
def mGet (n : Nat) (st : Store) : List Val → Res Val
  | [.d k, .d v] => match st[n]? with
    | some (.dic kvs) => if k.key then .ok (.d ((lookK kvs k).getD v)) st else .bad
    | _ => .bad
  | _ => .bad
def mBits (st : Store) : D → List Val → Res Val
  | .int i, [] => .ok (.d (.int (intBits i))) st
  | _, _ => .bad
def D.strs : List D → Option (List String)
  | [] => some []
  | .str x :: r => (D.strs r).map (x :: ·)
  | _ :: _ => none
def joinS (a : String) : List String → String
  | [] => ""
  | [x] => x
  | x :: y :: r => x ++ a ++ joinS a (y :: r)
def mJoin (st : Store) : D → List Val → Res Val
  | .str a, [.d (.lst xs)] => match D.strs xs with
    | some ys => if (ys.map (·.length)).sum + ys.length * a.length ≤ LIM then .ok (.d (.str (joinS a ys))) st else .bad
    | none => .bad
  | _, _ => .bad
def mReverse (n : Nat) (st : Store) : List Val → Res Val
  | [] => match st[n]? with
    | some (.lst xs) => .ok (.d .non) (st.set n (.lst xs.reverse))
    | _ => .bad
  | _ => .bad
def mthV (m : Mt) (o : Val) (vs : List Val) (st : Store) : Res Val :=
  match m, o with
  | .append, .ref n => mAppend n st vs
  | .extend, .ref n => mExtend n st vs
  | .pop, .ref n => mPop n st vs
  | .pop0, .ref n => mPop0 n st vs
  | .reverse, .ref n => mReverse n st vs
  | .setdefault, .ref n => mSetdefault n st vs
  | .get, .ref n => mGet n st vs
  | .bit_length, .d x => mBits st x vs
  | .join, .d x => mJoin st x vs
  | _, _ => .bad
/-- the receiver's kind, ahead of the arguments -/
def mthOk (m : Mt) (o : Val) (st : Store) : Bool :=
  match m, o with
  | .append, .ref n | .extend, .ref n | .pop, .ref n | .pop0, .ref n | .reverse, .ref n => match st[n]? with
    | some (.lst _) => true
    | _ => false
  | .setdefault, .ref n | .get, .ref n => match st[n]? with
    | some (.dic _) => true
    | _ => false
  | .bit_length, .d (.int _) => true
  | .join, .d (.str _) => true
  | _, _ => false
/-- what a dict that is never changed tells of a text -/
def kdV (o : Kq) (kvs : List (String × D)) : Val → Option D
  | .d (.str z) => match o with
    | .get => some ((kvs.lookup z).getD .non)
    | .isin => some (.bool (kvs.lookup z).isSome)
    | .notin => some (.bool (!(kvs.lookup z).isSome))
    | .idx => kvs.lookup z
  | _ => none
def revV : D → Option D
  | .lst xs => some (.lst xs.reverse)
  | _ => none
def optR {α : Type} (o : Option α) (st : Store) : Res α :=
  match o with
  | some a => .ok a st
  | none => .bad
@[simp] theorem optR_some {α : Type} (a : α) (st : Store) : optR (some a) st = .ok a st := rfl
@[simp] theorem optR_none {α : Type} (st : Store) : optR (none : Option α) st = .bad := rfl
theorem optR_ok {α : Type} {o : Option α} {st st' : Store} {a : α} (h : optR o st = .ok a st') : o = some a ∧ st' = st := by
  cases o with
  | none => cases h
  | some b => cases h; exact ⟨rfl, rfl⟩

/-! ### targets -/
def wipe (σ : Env) : List Nat → Env
  | [] => σ
  | v :: vs => (wipe σ vs).set v none
mutual
def Tg.slots : Tg → List Nat
  | .name i => [i]
  | .tup ts => Tg.slotss ts
  | .star pre i post => pre ++ i :: post
def Tg.slotss : List Tg → List Nat
  | [] => []
  | t :: r => t.slots ++ Tg.slotss r
end
def setAll : List Nat → List D → Env → Option Env
  | [], [], σ => some σ
  | i :: is, x :: xs, σ => setAll is xs (σ.set i (some (.d x)))
  | _, _, _ => none
mutual
def Tg.put : Tg → D → Env → Option Env
  | .name i, x, σ => some (σ.set i (some (.d x)))
  | .tup ts, .tup xs, σ => Tg.puts ts xs σ
  | .tup ts, .lst xs, σ => Tg.puts ts xs σ
  | .tup _, _, _ => none
  | .star pre i post, x, σ => match x.seq with
    | none => none
    | some xs => if xs.length < pre.length + post.length then none else
      match setAll pre (xs.take pre.length) σ with
      | none => none
      | some σ1 => setAll post (xs.drop (xs.length - post.length)) (σ1.set i (some (.d (.lst ((xs.drop pre.length).take (xs.length - pre.length - post.length))))))
def Tg.puts : List Tg → List D → Env → Option Env
  | [], [], σ => some σ
  | t :: ts, x :: xs, σ => (t.put x σ).bind fun σ1 => Tg.puts ts xs σ1
  | [], _ :: _, _ => none
  | _ :: _, [], _ => none
end
def Tg.putV (t : Tg) (v : Val) (σ : Env) : Option Env :=
  match t, v with
  | .name i, v => some (σ.set i (some v))
  | t, .d x => t.put x σ
  | _, _ => none
def Tg.putF (t : Tg) : D → Env → Option Env := t.put
theorem Tg.putF_eq (t : Tg) (y : D) (σ : Env) : t.putF y σ = t.put y σ := rfl
/-- a comprehension's turns -/
def compL (f : D → Store → Res (Option D)) : List D → Store → Res (List D)
  | [], st => .ok [] st
  | x :: r, st => (f x st).bind fun y s1 => (compL f r s1).bind fun ys s2 => .ok (match y with | some y => y :: ys | none => ys) s2
def asD : Val → Option D
  | .d x => some x
  | .ref _ => none
def asB : Val → Option Bool
  | .d (.bool b) => some b
  | _ => none
def asI : Val → Option Int
  | .d (.int i) => some i
  | _ => none

/-- one turn of a comprehension -/
def compStep (f : Env → Store → Res Val) (g : Env → Store → Res Bool) (tg : Tg) (σ : Env) (y : D) (s : Store) : Res (Option D) :=
  (optR (tg.put y σ) s).bind fun σ1 s4 => (g σ1 s4).bind fun b s5 => if b then (f σ1 s5).bind fun z s6 => (optR (asD z) s6).bind fun d s7 => .ok (some d) s7 else .ok none s5
/-- a test -/
def condB (f : Env → Store → Res Val) (σ : Env) (st : Store) : Res Bool := (f σ st).bind fun x s1 => optR (asB x) s1
mutual
def eval (C : Calls) : Ex → Env → Store → Res Val
  | .var i, σ, st => match σ[i]? with
    | some (some v) => .ok v st
    | _ => .bad
  | .con d, _, st => .ok (.d d) st
  | .tup es, σ, st => (evals C es σ st).bind fun vs s1 => (optR (asDs vs) s1).bind fun ds s2 => .ok (.d (.tup ds)) s2
  | .lst es, σ, st => (evals C es σ st).bind fun vs s1 => (optR (asDs vs) s1).bind fun ds s2 => .ok (.d (.lst ds)) s2
  | .newL e, σ, st => (eval C e σ st).bind fun v s1 => match v with
    | .d (.lst xs) => .ok (.ref s1.length) (s1 ++ [.lst xs])
    | _ => .bad
  | .newD, _, st => .ok (.ref st.length) (st ++ [.dic []])
  | .newDP e, σ, st => (eval C e σ st).bind fun v s1 => match v with
    | .d (.lst xs) => match mergeP [] xs with
      | some kvs => .ok (.ref s1.length) (s1 ++ [.dic kvs])
      | none => .bad
    | _ => .bad
  | .newDd es, σ, st => (evals C es σ st).bind fun us s1 => (optR (asDs us) s1).bind fun ds s2 => match mergeF [] ds with
    | some kvs => .ok (.ref s2.length) (s2 ++ [.dic kvs])
    | none => .bad
  | .frz e, σ, st => (eval C e σ st).bind fun v s1 => match v with
    | .ref n => match s1[n]? with
      | some (.lst xs) => .ok (.d (.lst xs)) (s1.set n .dead)
      | _ => .bad
    | _ => .bad
  | .bin o a b, σ, st => (eval C a σ st).bind fun x s1 => (eval C b σ s1).bind fun y s2 => (optR (deref s2 x) s2).bind fun p s3 => (optR (deref s2 y) s3).bind fun q s4 => (optR (D.bin o p q) s4).bind fun r s5 => .ok (.d r) s5
  | .neg a, σ, st => (eval C a σ st).bind fun x s1 => (optR (asI x) s1).bind fun i s2 => .ok (.d (.int (-i))) s2
  | .cmp o a b, σ, st => (eval C a σ st).bind fun x s1 => (eval C b σ s1).bind fun y s2 => (optR (cmpV o s2 x y) s2).bind fun r s3 => .ok (.d (.bool r)) s3
  | .chain o o' a b c, σ, st => (eval C a σ st).bind fun x s1 => (eval C b σ s1).bind fun y s2 => (optR (cmpV o s2 x y) s2).bind fun r s3 =>
      if r then (eval C c σ s3).bind fun z s4 => (optR (cmpV o' s4 y z) s4).bind fun q s5 => .ok (.d (.bool q)) s5 else .ok (.d (.bool false)) s3
  | .and a b, σ, st => (eval C a σ st).bind fun x s1 => (optR (asB x) s1).bind fun c s2 => if c then eval C b σ s2 else .ok (.d (.bool false)) s2
  | .or a b, σ, st => (eval C a σ st).bind fun x s1 => (optR (asB x) s1).bind fun c s2 => if c then .ok (.d (.bool true)) s2 else eval C b σ s2
  | .not a, σ, st => (eval C a σ st).bind fun x s1 => (optR (asB x) s1).bind fun c s2 => .ok (.d (.bool (!c))) s2
  | .ite c a b, σ, st => (eval C c σ st).bind fun x s1 => (optR (asB x) s1).bind fun c s2 => if c then eval C a σ s2 else eval C b σ s2
  | .idx a b, σ, st => (eval C a σ st).bind fun x s1 => (eval C b σ s1).bind fun y s2 => (optR (indexV s2 x y) s2).bind fun r s3 => .ok (.d r) s3
  | .sli a lo hi, σ, st => (eval C a σ st).bind fun x s1 => (evalO C lo σ s1).bind fun l s2 => (evalO C hi σ s2).bind fun h s3 => (optR (deref s3 x) s3).bind fun p s4 => (optR (p.slice l h) s4).bind fun r s5 => .ok (.d r) s5
  | .call f es, σ, st => (evals C es σ st).bind fun vs s1 => C f vs s1
  | .callP f es perm, σ, st => (evals C es σ st).bind fun vs s1 => C f (perm.filterMap fun i => vs[i]?) s1
  | .blt f es, σ, st => (evals C es σ st).bind fun vs s1 => bltV f vs s1
  | .mth m o es, σ, st => (eval C o σ st).bind fun x s1 => if mthOk m x s1 then (evals C es σ s1).bind fun vs s2 => mthV m x vs s2 else .bad
  | .isi e ts, σ, st => (eval C e σ st).bind fun x s1 => (optR (deref s1 x) s1).bind fun p s2 => .ok (.d (.bool (ts.any fun t => p.tyOk t))) s2
  | .fs es, σ, st => (evals C es σ st).bind fun vs s1 => (optR (asDs vs) s1).bind fun ds s2 => (optR (D.strs ds) s2).bind fun ys s3 => if (ys.map (·.length)).sum ≤ LIM then .ok (.d (.str (joinS "" ys))) s3 else .bad
  | .kd o kvs e, σ, st => (eval C e σ st).bind fun x s1 => (optR (kdV o kvs x) s1).bind fun r s2 => .ok (.d r) s2
  | .rev e, σ, st => (eval C e σ st).bind fun x s1 => (optR (deref s1 x) s1).bind fun p s2 => (optR (revV p) s2).bind fun r s3 => .ok (.d r) s3
  | .comp elt tg it cs, σ, st => (eval C it σ st).bind fun x s1 => (optR (asD x) s1).bind fun p s2 => (optR p.seq s2).bind fun xs s3 =>
      (compL (compStep (eval C elt) (conds C cs) tg (wipe σ tg.slots)) xs s3).bind fun ys s8 => .ok (.d (.lst ys)) s8
def evals (C : Calls) : List Ex → Env → Store → Res (List Val)
  | [], _, st => .ok [] st
  | e :: es, σ, st => (eval C e σ st).bind fun v s1 => (evals C es σ s1).bind fun vs s2 => .ok (v :: vs) s2
def evalO (C : Calls) : Option Ex → Env → Store → Res (Option Int)
  | none, _, st => .ok none st
  | some e, σ, st => (eval C e σ st).bind fun v s1 => (optR (asI v) s1).bind fun i s2 => .ok (some i) s2
def conds (C : Calls) : List Ex → Env → Store → Res Bool
  | [], _, st => .ok true st
  | e :: es, σ, st => (eval C e σ st).bind fun v s1 => (optR (asB v) s1).bind fun c s2 => if c then conds C es σ s2 else .ok false s2
end

/-! ### statements -/
inductive Out where
  | nx (σ : Env) | ret (v : Val) | brk (σ : Env) | cnt (σ : Env) | thr (c : String) (as : List D) (σ : Env)
/-- a for's turns -/
def loopL (g : D → Env → Option Env) (f : Env → Store → Res Out) : List D → Env → Store → Res Out
  | [], σ, st => .ok (.nx σ) st
  | x :: r, σ, st => (optR (g x σ) st).bind fun σ1 s1 => (f σ1 s1).bind fun o s2 => match o with
    | .nx σ2 => loopL g f r σ2 s2
    | .cnt σ2 => loopL g f r σ2 s2
    | .brk σ2 => .ok (.nx σ2) s2
    | .ret v => .ok (.ret v) s2
    | .thr c as σ2 => .ok (.thr c as σ2) s2
/-- a while's turns -/
def whileL (c : Env → Store → Res Bool) (f : Env → Store → Res Out) : Nat → Env → Store → Res Out
  | 0, _, _ => .bad
  | n + 1, σ, st => (c σ st).bind fun b s1 => if b then (f σ s1).bind fun o s2 => (match o with
    | .nx σ2 => whileL c f n σ2 s2
    | .cnt σ2 => whileL c f n σ2 s2
    | .brk σ2 => .ok (.nx σ2) s2
    | .ret v => .ok (.ret v) s2
    | .thr c as σ2 => .ok (.thr c as σ2) s2) else .ok (.nx σ) s1
def setV (o i : Val) (x : D) (st : Store) : Option Store :=
  match o, i with
  | .ref n, .d (.int k) => match st[n]? with
    | some (.lst xs) => (ixN xs.length k).map fun j => st.set n (.lst (xs.set j x))
    | some (.dic kvs) => if kvs.length < LIM then some (st.set n (.dic (putK kvs (.int k) x))) else none
    | _ => none
  | .ref n, .d (.str k) => match st[n]? with
    | some (.dic kvs) => if kvs.length < LIM then some (st.set n (.dic (putK kvs (.str k) x))) else none
    | _ => none
  | _, _ => none
def augI : Op → Int → Int → Option Int
  | .add, i, j => some (i + j)
  | .sub, i, j => some (i - j)
  | _, _, _ => none
theorem whileL_mono {c : Env → Store → Res Bool} {f : Env → Store → Res Out} : ∀ {n m : Nat} {σ : Env} {st : Store} {r : Out} {s : Store}, n ≤ m → whileL c f n σ st = .ok r s → whileL c f m σ st = .ok r s
  | 0, _, _, _, _, _, _, h => by simp [whileL] at h
  | n + 1, 0, _, _, _, _, hl, _ => by omega
  | n + 1, m + 1, σ, st, r, s, hl, h => by
    rw [whileL] at h ⊢
    obtain ⟨b, s1, e1, h1⟩ := Res.bind_eq_ok h
    rw [e1, Res.bind_ok]
    cases b with
    | false => simpa using h1
    | true =>
      simp only [if_true] at h1 ⊢
      obtain ⟨o, s2, e2, h2⟩ := Res.bind_eq_ok h1
      rw [e2, Res.bind_ok]
      cases o with
      | nx σ2 => exact whileL_mono (by omega) h2
      | cnt σ2 => exact whileL_mono (by omega) h2
      | brk σ2 => exact h2
      | ret v => exact h2
      | thr c as σ2 => exact h2
open Classical in
/-- a while: as many turns as it takes -/
noncomputable def whileU (c : Env → Store → Res Bool) (f : Env → Store → Res Out) (σ : Env) (st : Store) : Res Out :=
  if h : ∃ n r s, whileL c f n σ st = .ok r s then whileL c f h.choose σ st else .bad
theorem whileU_of {c : Env → Store → Res Bool} {f : Env → Store → Res Out} {n : Nat} {σ : Env} {st : Store} {r : Out} {s : Store} (h : whileL c f n σ st = .ok r s) : whileU c f σ st = .ok r s := by
  have hx : ∃ n r s, whileL c f n σ st = .ok r s := ⟨n, r, s, h⟩
  unfold whileU
  rw [dif_pos hx]
  obtain ⟨r', s', e⟩ := hx.choose_spec
  rw [e]
  have h1 := whileL_mono (Nat.le_max_left n hx.choose) h
  have h2 := whileL_mono (Nat.le_max_right n hx.choose) e
  rw [h1] at h2
  exact h2.symm
theorem whileU_ok {c : Env → Store → Res Bool} {f : Env → Store → Res Out} {σ : Env} {st : Store} {r : Out} {s : Store} (h : whileU c f σ st = .ok r s) : ∃ n, whileL c f n σ st = .ok r s := by
  unfold whileU at h
  split at h
  · exact ⟨_, h⟩
  · cases h
/-- a handler throws nothing -/
def noThr (o : Out) (s : Store) : Res Out :=
  match o with
  | .thr _ _ _ => .bad
  | o => .ok o s
@[simp] theorem noThr_nx (σ : Env) (s : Store) : noThr (.nx σ) s = .ok (.nx σ) s := rfl
@[simp] theorem noThr_ret (v : Val) (s : Store) : noThr (.ret v) s = .ok (.ret v) s := rfl
/-- nothing raised -/
def noexc {α : Type} : Res α → Res α
  | .ok a st => .ok a st
  | _ => .bad
@[simp] theorem noexc_ok {α : Type} (a : α) (st : Store) : noexc (.ok a st) = .ok a st := rfl
@[simp] theorem noexc_bad {α : Type} : noexc (.bad : Res α) = .bad := rfl
theorem noexc_inv {α : Type} {r : Res α} {a : α} {st : Store} (h : noexc r = .ok a st) : r = .ok a st := by
  cases r with
  | ok b s => exact h
  | exc c as s => cases h
  | bad => cases h
theorem noexc_not {α : Type} {r : Res α} {c : String} {as : List D} {st : Store} (h : noexc r = .exc c as st) : False := by
  cases r <;> cases h
/-- what is raised goes on as a way out -/
def catchX {α : Type} (r : Res α) (σ : Env) (f : α → Store → Res Out) : Res Out :=
  match r with
  | .ok a st => f a st
  | .exc c as st => .ok (.thr c as σ) st
  | .bad => .bad
@[simp] theorem catchX_ok {α : Type} (a : α) (st : Store) (σ : Env) (f : α → Store → Res Out) : catchX (.ok a st) σ f = f a st := rfl
@[simp] theorem catchX_exc {α : Type} (c as) (st : Store) (σ : Env) (f : α → Store → Res Out) : catchX (.exc c as st) σ f = .ok (.thr c as σ) st := rfl
@[simp] theorem catchX_bad {α : Type} (σ : Env) (f : α → Store → Res Out) : catchX .bad σ f = .bad := rfl
mutual
def evalX (C : Calls) : EX → Env → Store → Res Val
  | .p e, σ, st => noexc (eval C e σ st)
  | .call f es, σ, st => (evalXs C es σ st).bind fun vs s1 => C f vs s1
  | .callP f es perm, σ, st => (evalXs C es σ st).bind fun vs s1 => C f (perm.filterMap fun i => vs[i]?) s1
  | .ite c a b, σ, st => (noexc (eval C c σ st)).bind fun x s1 => (optR (asB x) s1).bind fun c s2 => if c then evalX C a σ s2 else evalX C b σ s2
def evalXs (C : Calls) : List EX → Env → Store → Res (List Val)
  | [], _, st => .ok [] st
  | e :: es, σ, st => (evalX C e σ st).bind fun v s1 => (evalXs C es σ s1).bind fun vs s2 => .ok (v :: vs) s2
end
mutual
noncomputable def exec (C : Calls) : Stm → Env → Store → Res Out
  | .asg t e, σ, st => (eval C e σ st).bind fun v s1 => (optR (t.putV v σ) s1).bind fun σ1 s2 => .ok (.nx σ1) s2
  | .par i j a b, σ, st => (eval C a σ st).bind fun x s1 => (eval C b σ s1).bind fun y s2 => .ok (.nx ((σ.set i (some x)).set j (some y))) s2
  | .set o i e, σ, st => (eval C e σ st).bind fun v s1 => (eval C o σ s1).bind fun x s2 => (eval C i σ s2).bind fun k s3 => (optR (asD v) s3).bind fun d s4 => (optR (setV x k d s4) s4).bind fun s5 _ => .ok (.nx σ) s5
  | .ex e, σ, st => (eval C e σ st).bind fun _ s1 => .ok (.nx σ) s1
  | .ret e, σ, st => (eval C e σ st).bind fun v s1 => .ok (.ret v) s1
  | .ite c a b, σ, st => (eval C c σ st).bind fun x s1 => (optR (asB x) s1).bind fun c s2 => if c then execs C a σ s2 else execs C b σ s2
  | .loop t it body, σ, st => (eval C it σ st).bind fun x s1 => (optR (asD x) s1).bind fun p s2 => (optR p.seq s2).bind fun xs s3 => loopL t.putF (execs C body) xs σ s3
  | .while c body, σ, st => whileU (condB (eval C c)) (execs C body) σ st
  | .aug i o e, σ, st => match σ[i]? with
    | some (some x) => (eval C e σ st).bind fun y s1 => (optR (asI x) s1).bind fun p s2 => (optR (asI y) s2).bind fun q s3 => (optR (augI o p q) s3).bind fun r s4 => .ok (.nx (σ.set i (some (.d (.int r))))) s4
    | _ => .bad
  | .pass, σ, st => .ok (.nx σ) st
  | .brk, σ, st => .ok (.brk σ) st
  | .cnt, σ, st => .ok (.cnt σ) st
  | .never, _, _ => .bad
  | .asgX t e, σ, st => catchX (evalX C e σ st) σ fun v s1 => (optR (t.putV v σ) s1).bind fun σ1 s2 => .ok (.nx σ1) s2
  | .exX e, σ, st => catchX (evalX C e σ st) σ fun _ s1 => .ok (.nx σ) s1
  | .retX e, σ, st => catchX (evalX C e σ st) σ fun v s1 => .ok (.ret v) s1
  | .raise c, σ, st => .ok (.thr c [] σ) st
  | .tryX body c h, σ, st => (execs C body σ st).bind fun o s1 => match o with
    | .thr c' as σ1 => if c' = c then (execs C h σ1 s1).bind noThr else .bad
    | o => .ok o s1
noncomputable def execs (C : Calls) : List Stm → Env → Store → Res Out
  | [], σ, st => .ok (.nx σ) st
  | s :: r, σ, st => (exec C s σ st).bind fun o s1 => match o with
    | .nx σ1 => execs C r σ1 s1
    | o => .ok o s1
end
/-! ### the equations, for whole applications alone -/
set_option autoImplicit true in
@[simp] theorem eval_var {C : Calls} {σ : Env} {st : Store} : eval C (Ex.var i) σ st = (match σ[i]? with
    | some (some v) => .ok v st
    | _ => .bad) := by rw [eval]
set_option autoImplicit true in
@[simp] theorem eval_con {C : Calls} {σ : Env} {st : Store} : eval C (Ex.con d) σ st = (.ok (.d d) st) := by rw [eval]
set_option autoImplicit true in
@[simp] theorem eval_tup {C : Calls} {σ : Env} {st : Store} : eval C (Ex.tup es) σ st = ((evals C es σ st).bind fun vs s1 => (optR (asDs vs) s1).bind fun ds s2 => .ok (.d (.tup ds)) s2) := by rw [eval]
set_option autoImplicit true in
@[simp] theorem eval_lst {C : Calls} {σ : Env} {st : Store} : eval C (Ex.lst es) σ st = ((evals C es σ st).bind fun vs s1 => (optR (asDs vs) s1).bind fun ds s2 => .ok (.d (.lst ds)) s2) := by rw [eval]
set_option autoImplicit true in
@[simp] theorem eval_newL {C : Calls} {σ : Env} {st : Store} : eval C (Ex.newL e) σ st = ((eval C e σ st).bind fun v s1 => match v with
    | .d (.lst xs) => .ok (.ref s1.length) (s1 ++ [.lst xs])
    | _ => .bad) := by rw [eval]
set_option autoImplicit true in
@[simp] theorem eval_newD {C : Calls} {σ : Env} {st : Store} : eval C (Ex.newD) σ st = (.ok (.ref st.length) (st ++ [.dic []])) := by rw [eval]
set_option autoImplicit true in
@[simp] theorem eval_newDP {C : Calls} {σ : Env} {st : Store} : eval C (Ex.newDP e) σ st = ((eval C e σ st).bind fun v s1 => match v with
    | .d (.lst xs) => match mergeP [] xs with
      | some kvs => .ok (.ref s1.length) (s1 ++ [.dic kvs])
      | none => .bad
    | _ => .bad) := by rw [eval]
set_option autoImplicit true in
@[simp] theorem eval_newDd {C : Calls} {σ : Env} {st : Store} : eval C (Ex.newDd es) σ st = ((evals C es σ st).bind fun us s1 => (optR (asDs us) s1).bind fun ds s2 => match mergeF [] ds with
    | some kvs => .ok (.ref s2.length) (s2 ++ [.dic kvs])
    | none => .bad) := by rw [eval]
set_option autoImplicit true in
@[simp] theorem eval_frz {C : Calls} {σ : Env} {st : Store} : eval C (Ex.frz e) σ st = ((eval C e σ st).bind fun v s1 => match v with
    | .ref n => match s1[n]? with
      | some (.lst xs) => .ok (.d (.lst xs)) (s1.set n .dead)
      | _ => .bad
    | _ => .bad) := by rw [eval]
set_option autoImplicit true in
@[simp] theorem eval_bin {C : Calls} {σ : Env} {st : Store} : eval C (Ex.bin o a b) σ st = ((eval C a σ st).bind fun x s1 => (eval C b σ s1).bind fun y s2 => (optR (deref s2 x) s2).bind fun p s3 => (optR (deref s2 y) s3).bind fun q s4 => (optR (D.bin o p q) s4).bind fun r s5 => .ok (.d r) s5) := by rw [eval]
set_option autoImplicit true in
@[simp] theorem eval_neg {C : Calls} {σ : Env} {st : Store} : eval C (Ex.neg a) σ st = ((eval C a σ st).bind fun x s1 => (optR (asI x) s1).bind fun i s2 => .ok (.d (.int (-i))) s2) := by rw [eval]
set_option autoImplicit true in
@[simp] theorem eval_cmp {C : Calls} {σ : Env} {st : Store} : eval C (Ex.cmp o a b) σ st = ((eval C a σ st).bind fun x s1 => (eval C b σ s1).bind fun y s2 => (optR (cmpV o s2 x y) s2).bind fun r s3 => .ok (.d (.bool r)) s3) := by rw [eval]
set_option autoImplicit true in
@[simp] theorem eval_chain {C : Calls} {σ : Env} {st : Store} : eval C (Ex.chain o o' a b c) σ st = ((eval C a σ st).bind fun x s1 => (eval C b σ s1).bind fun y s2 => (optR (cmpV o s2 x y) s2).bind fun r s3 =>
      if r then (eval C c σ s3).bind fun z s4 => (optR (cmpV o' s4 y z) s4).bind fun q s5 => .ok (.d (.bool q)) s5 else .ok (.d (.bool false)) s3) := by rw [eval]
set_option autoImplicit true in
@[simp] theorem eval_and {C : Calls} {σ : Env} {st : Store} : eval C (Ex.and a b) σ st = ((eval C a σ st).bind fun x s1 => (optR (asB x) s1).bind fun c s2 => if c then eval C b σ s2 else .ok (.d (.bool false)) s2) := by rw [eval]
set_option autoImplicit true in
@[simp] theorem eval_or {C : Calls} {σ : Env} {st : Store} : eval C (Ex.or a b) σ st = ((eval C a σ st).bind fun x s1 => (optR (asB x) s1).bind fun c s2 => if c then .ok (.d (.bool true)) s2 else eval C b σ s2) := by rw [eval]
set_option autoImplicit true in
@[simp] theorem eval_not {C : Calls} {σ : Env} {st : Store} : eval C (Ex.not a) σ st = ((eval C a σ st).bind fun x s1 => (optR (asB x) s1).bind fun c s2 => .ok (.d (.bool (!c))) s2) := by rw [eval]
set_option autoImplicit true in
@[simp] theorem eval_ite {C : Calls} {σ : Env} {st : Store} : eval C (Ex.ite c a b) σ st = ((eval C c σ st).bind fun x s1 => (optR (asB x) s1).bind fun c s2 => if c then eval C a σ s2 else eval C b σ s2) := by rw [eval]
set_option autoImplicit true in
@[simp] theorem eval_idx {C : Calls} {σ : Env} {st : Store} : eval C (Ex.idx a b) σ st = ((eval C a σ st).bind fun x s1 => (eval C b σ s1).bind fun y s2 => (optR (indexV s2 x y) s2).bind fun r s3 => .ok (.d r) s3) := by rw [eval]
set_option autoImplicit true in
@[simp] theorem eval_sli {C : Calls} {σ : Env} {st : Store} : eval C (Ex.sli a lo hi) σ st = ((eval C a σ st).bind fun x s1 => (evalO C lo σ s1).bind fun l s2 => (evalO C hi σ s2).bind fun h s3 => (optR (deref s3 x) s3).bind fun p s4 => (optR (p.slice l h) s4).bind fun r s5 => .ok (.d r) s5) := by rw [eval]
set_option autoImplicit true in
@[simp] theorem eval_call {C : Calls} {σ : Env} {st : Store} : eval C (Ex.call f es) σ st = ((evals C es σ st).bind fun vs s1 => C f vs s1) := by rw [eval]
set_option autoImplicit true in
@[simp] theorem eval_callP {C : Calls} {σ : Env} {st : Store} : eval C (Ex.callP f es perm) σ st = ((evals C es σ st).bind fun vs s1 => C f (perm.filterMap fun i => vs[i]?) s1) := by rw [eval]
set_option autoImplicit true in
@[simp] theorem eval_blt {C : Calls} {σ : Env} {st : Store} : eval C (Ex.blt f es) σ st = ((evals C es σ st).bind fun vs s1 => bltV f vs s1) := by rw [eval]
set_option autoImplicit true in
@[simp] theorem eval_mth {C : Calls} {σ : Env} {st : Store} : eval C (Ex.mth m o es) σ st = ((eval C o σ st).bind fun x s1 => if mthOk m x s1 then (evals C es σ s1).bind fun vs s2 => mthV m x vs s2 else .bad) := by rw [eval]
set_option autoImplicit true in
@[simp] theorem eval_isi {C : Calls} {σ : Env} {st : Store} : eval C (Ex.isi e ts) σ st = ((eval C e σ st).bind fun x s1 => (optR (deref s1 x) s1).bind fun p s2 => .ok (.d (.bool (ts.any fun t => p.tyOk t))) s2) := by rw [eval]
set_option autoImplicit true in
@[simp] theorem eval_fs {C : Calls} {σ : Env} {st : Store} : eval C (Ex.fs es) σ st = ((evals C es σ st).bind fun vs s1 => (optR (asDs vs) s1).bind fun ds s2 => (optR (D.strs ds) s2).bind fun ys s3 => if (ys.map (·.length)).sum ≤ LIM then .ok (.d (.str (joinS "" ys))) s3 else .bad) := by rw [eval]
set_option autoImplicit true in
@[simp] theorem eval_kd {C : Calls} {σ : Env} {st : Store} : eval C (Ex.kd o kvs e) σ st = ((eval C e σ st).bind fun x s1 => (optR (kdV o kvs x) s1).bind fun r s2 => .ok (.d r) s2) := by rw [eval]
set_option autoImplicit true in
@[simp] theorem eval_rev {C : Calls} {σ : Env} {st : Store} : eval C (Ex.rev e) σ st = ((eval C e σ st).bind fun x s1 => (optR (deref s1 x) s1).bind fun p s2 => (optR (revV p) s2).bind fun r s3 => .ok (.d r) s3) := by rw [eval]
set_option autoImplicit true in
@[simp] theorem eval_comp {C : Calls} {σ : Env} {st : Store} : eval C (Ex.comp elt tg it cs) σ st = ((eval C it σ st).bind fun x s1 => (optR (asD x) s1).bind fun p s2 => (optR p.seq s2).bind fun xs s3 =>
      (compL (compStep (eval C elt) (conds C cs) tg (wipe σ tg.slots)) xs s3).bind fun ys s8 => .ok (.d (.lst ys)) s8) := by rw [eval]
set_option autoImplicit true in
@[simp] theorem evals_nil {C : Calls} {σ : Env} {st : Store} : evals C ([]) σ st = (.ok [] st) := by rw [evals]
set_option autoImplicit true in
@[simp] theorem evals_cons {C : Calls} {σ : Env} {st : Store} : evals C (e :: es) σ st = ((eval C e σ st).bind fun v s1 => (evals C es σ s1).bind fun vs s2 => .ok (v :: vs) s2) := by rw [evals]
set_option autoImplicit true in
@[simp] theorem evalO_none {C : Calls} {σ : Env} {st : Store} : evalO C (none) σ st = (.ok none st) := by rw [evalO]
set_option autoImplicit true in
@[simp] theorem evalO_some {C : Calls} {σ : Env} {st : Store} : evalO C (some e) σ st = ((eval C e σ st).bind fun v s1 => (optR (asI v) s1).bind fun i s2 => .ok (some i) s2) := by rw [evalO]
set_option autoImplicit true in
@[simp] theorem conds_nil {C : Calls} {σ : Env} {st : Store} : conds C ([]) σ st = (.ok true st) := by rw [conds]
set_option autoImplicit true in
@[simp] theorem conds_cons {C : Calls} {σ : Env} {st : Store} : conds C (e :: es) σ st = ((eval C e σ st).bind fun v s1 => (optR (asB v) s1).bind fun c s2 => if c then conds C es σ s2 else .ok false s2) := by rw [conds]
set_option autoImplicit true in
@[simp] theorem exec_asg {C : Calls} {σ : Env} {st : Store} : exec C (Stm.asg t e) σ st = ((eval C e σ st).bind fun v s1 => (optR (t.putV v σ) s1).bind fun σ1 s2 => .ok (.nx σ1) s2) := by rw [exec]
set_option autoImplicit true in
@[simp] theorem exec_par {C : Calls} {σ : Env} {st : Store} : exec C (Stm.par i j a b) σ st = ((eval C a σ st).bind fun x s1 => (eval C b σ s1).bind fun y s2 => .ok (.nx ((σ.set i (some x)).set j (some y))) s2) := by rw [exec]
set_option autoImplicit true in
@[simp] theorem exec_set {C : Calls} {σ : Env} {st : Store} : exec C (Stm.set o i e) σ st = ((eval C e σ st).bind fun v s1 => (eval C o σ s1).bind fun x s2 => (eval C i σ s2).bind fun k s3 => (optR (asD v) s3).bind fun d s4 => (optR (setV x k d s4) s4).bind fun s5 _ => .ok (.nx σ) s5) := by rw [exec]
set_option autoImplicit true in
@[simp] theorem exec_ex {C : Calls} {σ : Env} {st : Store} : exec C (Stm.ex e) σ st = ((eval C e σ st).bind fun _ s1 => .ok (.nx σ) s1) := by rw [exec]
set_option autoImplicit true in
@[simp] theorem exec_ret {C : Calls} {σ : Env} {st : Store} : exec C (Stm.ret e) σ st = ((eval C e σ st).bind fun v s1 => .ok (.ret v) s1) := by rw [exec]
set_option autoImplicit true in
@[simp] theorem exec_ite {C : Calls} {σ : Env} {st : Store} : exec C (Stm.ite c a b) σ st = ((eval C c σ st).bind fun x s1 => (optR (asB x) s1).bind fun c s2 => if c then execs C a σ s2 else execs C b σ s2) := by rw [exec]
set_option autoImplicit true in
@[simp] theorem exec_loop {C : Calls} {σ : Env} {st : Store} : exec C (Stm.loop t it body) σ st = ((eval C it σ st).bind fun x s1 => (optR (asD x) s1).bind fun p s2 => (optR p.seq s2).bind fun xs s3 => loopL t.putF (execs C body) xs σ s3) := by rw [exec]
set_option autoImplicit true in
@[simp] theorem exec_while {C : Calls} {σ : Env} {st : Store} : exec C (Stm.while c body) σ st = (whileU (condB (eval C c)) (execs C body) σ st) := by rw [exec]
set_option autoImplicit true in
@[simp] theorem exec_aug {C : Calls} {σ : Env} {st : Store} : exec C (Stm.aug i o e) σ st = (match σ[i]? with
    | some (some x) => (eval C e σ st).bind fun y s1 => (optR (asI x) s1).bind fun p s2 => (optR (asI y) s2).bind fun q s3 => (optR (augI o p q) s3).bind fun r s4 => .ok (.nx (σ.set i (some (.d (.int r))))) s4
    | _ => .bad) := by rw [exec]
set_option autoImplicit true in
@[simp] theorem exec_pass {C : Calls} {σ : Env} {st : Store} : exec C (Stm.pass) σ st = (.ok (.nx σ) st) := by rw [exec]
set_option autoImplicit true in
@[simp] theorem exec_brk {C : Calls} {σ : Env} {st : Store} : exec C (Stm.brk) σ st = (.ok (.brk σ) st) := by rw [exec]
set_option autoImplicit true in
@[simp] theorem exec_cnt {C : Calls} {σ : Env} {st : Store} : exec C (Stm.cnt) σ st = (.ok (.cnt σ) st) := by rw [exec]
set_option autoImplicit true in
@[simp] theorem exec_never {C : Calls} {σ : Env} {st : Store} : exec C (Stm.never) σ st = (.bad) := by rw [exec]
set_option autoImplicit true in
@[simp] theorem exec_asgX {C : Calls} {σ : Env} {st : Store} : exec C (Stm.asgX t e) σ st = (catchX (evalX C e σ st) σ fun v s1 => (optR (t.putV v σ) s1).bind fun σ1 s2 => .ok (.nx σ1) s2) := by rw [exec]
set_option autoImplicit true in
@[simp] theorem exec_exX {C : Calls} {σ : Env} {st : Store} : exec C (Stm.exX e) σ st = (catchX (evalX C e σ st) σ fun _ s1 => .ok (.nx σ) s1) := by rw [exec]
set_option autoImplicit true in
@[simp] theorem exec_retX {C : Calls} {σ : Env} {st : Store} : exec C (Stm.retX e) σ st = (catchX (evalX C e σ st) σ fun v s1 => .ok (.ret v) s1) := by rw [exec]
set_option autoImplicit true in
@[simp] theorem exec_raise {C : Calls} {σ : Env} {st : Store} : exec C (Stm.raise c) σ st = (.ok (.thr c [] σ) st) := by rw [exec]
set_option autoImplicit true in
@[simp] theorem exec_tryX {C : Calls} {σ : Env} {st : Store} : exec C (Stm.tryX body c h) σ st = ((execs C body σ st).bind fun o s1 => match o with
    | .thr c' as σ1 => if c' = c then (execs C h σ1 s1).bind noThr else .bad
    | o => .ok o s1) := by rw [exec]
set_option autoImplicit true in
@[simp] theorem evalX_p {C : Calls} {σ : Env} {st : Store} : evalX C (EX.p e) σ st = noexc (eval C e σ st) := by rw [evalX]
set_option autoImplicit true in
@[simp] theorem evalX_call {C : Calls} {σ : Env} {st : Store} : evalX C (EX.call f es) σ st = ((evalXs C es σ st).bind fun vs s1 => C f vs s1) := by rw [evalX]
set_option autoImplicit true in
@[simp] theorem evalX_callP {C : Calls} {σ : Env} {st : Store} : evalX C (EX.callP f es perm) σ st = ((evalXs C es σ st).bind fun vs s1 => C f (perm.filterMap fun i => vs[i]?) s1) := by rw [evalX]
set_option autoImplicit true in
@[simp] theorem evalX_ite {C : Calls} {σ : Env} {st : Store} : evalX C (EX.ite c a b) σ st = ((noexc (eval C c σ st)).bind fun x s1 => (optR (asB x) s1).bind fun c s2 => if c then evalX C a σ s2 else evalX C b σ s2) := by rw [evalX]
set_option autoImplicit true in
@[simp] theorem evalXs_nil {C : Calls} {σ : Env} {st : Store} : evalXs C ([]) σ st = (.ok [] st) := by rw [evalXs]
set_option autoImplicit true in
@[simp] theorem evalXs_cons {C : Calls} {σ : Env} {st : Store} : evalXs C (e :: es) σ st = ((evalX C e σ st).bind fun v s1 => (evalXs C es σ s1).bind fun vs s2 => .ok (v :: vs) s2) := by rw [evalXs]
set_option autoImplicit true in
@[simp] theorem execs_nil {C : Calls} {σ : Env} {st : Store} : execs C ([]) σ st = (.ok (.nx σ) st) := by rw [execs]
set_option autoImplicit true in
@[simp] theorem execs_cons {C : Calls} {σ : Env} {st : Store} : execs C (s :: r) σ st = ((exec C s σ st).bind fun o s1 => match o with
    | .nx σ1 => execs C r σ1 s1
    | o => .ok o s1) := by rw [execs]
/-- what a def leaves: its own cells are dropped, but one that it hands back -/
def leave (m : Nat) (v : Val) (st : Store) : Res Val :=
  match v with
  | .d x => .ok (.d x) (st.take m)
  | .ref n => if n < m then .ok (.ref n) (st.take m) else match st[n]? with
    | some c => .ok (.ref m) (st.take m ++ [c])
    | none => .bad
noncomputable def runFn (C : Calls) (f : Fn) (vs : List Val) (st : Store) : Res Val :=
  if vs.length = f.pars ∧ f.pars ≤ f.many then
    (noexc (execs C f.body (vs.map some ++ List.replicate (f.many - f.pars) none) st)).bind fun o s1 => match o with
      | .nx _ => leave st.length (.d .non) s1
      | .ret v => leave st.length v s1
      | .thr c as _ => .exc c as (s1.take st.length)
      | _ => .bad
  else .bad
abbrev Tab := String → Option Fn
noncomputable def callN (T : Tab) : Nat → Calls
  | 0, _, _, _ => .bad
  | n + 1, f, vs, st => match T f with
    | some fn => runFn (callN T n) fn vs st
    | none => .bad
theorem callN_run {T : Tab} {f : String} {fn : Fn} (h : T f = some fn) (n : Nat) (vs : List Val) (st : Store) : callN T (n + 1) f vs st = runFn (callN T n) fn vs st := by rw [callN, h]
/-- a table by a list -/
def tabOf (l : List (String × Fn)) : Tab := fun s => l.lookup s
theorem tab_mem {l : List (String × Fn)} {f : String} {fn : Fn} (h : tabOf l f = some fn) : (f, fn) ∈ l := by
  unfold tabOf at h
  induction l with
  | nil => cases h
  | cons p l ih =>
    obtain ⟨g, gn⟩ := p
    simp only [List.lookup] at h
    split at h
    · rename_i e
      cases h
      rw [eq_of_beq e]
      exact List.mem_cons_self
    · exact List.mem_cons_of_mem _ (ih h)
end
end Ir

set_option Elab.async false
namespace Snd
open PySem PySem.Spec PyProof.Rows L2
/-! ### what stands for what -/
/-- the cells' addresses by number; addresses that are kept for a list that is being made -/
structure Rho where
  ix : List (Option Addr)
  res : List Addr := []
def Rho.own (ρ : Rho) (a : Addr) : Prop := some a ∈ ρ.ix ∨ a ∈ ρ.res
def TpAt (ρ : Rho) (K : PySem.W.Frag) (H : Hp) (a : Addr) (ys : List V) : Prop :=
  (Rd H a (.tup ys) ∧ ¬ ρ.own a) ∨
    ∃ (o : Obj) (its : Array Value) (n : Nat), K.lookup a = some o ∧ o.cls = .type "tuple" ∧ o.data = .seq its n ∧ its.size ≤ sizeLine ∧ Vals ys its.toList
theorem TpAt.sq {ρ : Rho} {K : PySem.W.Frag} {H : Hp} {a : Addr} {ys : List V} (h : TpAt ρ K H a ys) : SqT K H a ys := by
  rcases h with ⟨h, _⟩ | h
  · exact .inl h
  · exact .inr h
def LrAt (ρ : Rho) (K : PySem.W.Frag) (H : Hp) (a : Addr) (ys : List V) : Prop :=
  ((∃ o, H a = some (.frz o (.lst ys))) ∧ ¬ ρ.own a) ∨
    ∃ (o : Obj) (its : Array Value) (n : Nat), K.lookup a = some o ∧ o.cls = .type "list" ∧ o.dict = none ∧ o.data = .seq its n ∧ its.size ≤ sizeLine ∧ Vals ys its.toList
theorem LrAt.sq {ρ : Rho} {K : PySem.W.Frag} {H : Hp} {a : Addr} {ys : List V} (h : LrAt ρ K H a ys) : SqL K H a ys := by
  rcases h with ⟨h, _⟩ | h
  · exact .inl (.inr h)
  · exact .inr h
mutual
inductive RD (ρ : Rho) (K : PySem.W.Frag) (H : Hp) : Ir.D → V → Prop
  | non : RD ρ K H .non .non
  | bool (b : Bool) : RD ρ K H (.bool b) (.bl b)
  | int (i : Int) : RD ρ K H (.int i) (.int i)
  | str (s : String) : RD ρ K H (.str s) (.str (Str.ofString s))
  | tup {a : Addr} {xs : List Ir.D} {ys : List V} : TpAt ρ K H a ys → ys.length ≤ sizeLine → RDs ρ K H xs ys → RD ρ K H (.tup xs) (.ref a)
  | lst {a : Addr} {xs : List Ir.D} {ys : List V} : H a = some (.lst ys) → ¬ ρ.own a → ys.length ≤ sizeLine → RDs ρ K H xs ys → RD ρ K H (.lst xs) (.ref a)
  | ro {a : Addr} {xs : List Ir.D} {ys : List V} : LrAt ρ K H a ys → ys.length ≤ sizeLine → RDs ρ K H xs ys → RD ρ K H (.ro xs) (.ref a)
inductive RDs (ρ : Rho) (K : PySem.W.Frag) (H : Hp) : List Ir.D → List V → Prop
  | nil : RDs ρ K H [] []
  | cons {x : Ir.D} {xs : List Ir.D} {y : V} {ys : List V} : RD ρ K H x y → RDs ρ K H xs ys → RDs ρ K H (x :: xs) (y :: ys)
end
structure Ext (ρ : Rho) (H : Hp) (ρ' : Rho) (H' : Hp) : Prop where
  fr : ∀ a o, H a = some o → some a ∉ ρ.ix → H' a = some o
  nw : ∀ a, ρ'.own a → ρ.own a ∨ H a = none
  len : ρ.ix.length ≤ ρ'.ix.length
  ix : ∀ (n : Nat) (a : Addr), ρ'.ix[n]? = some (some a) → n < ρ.ix.length → ρ.ix[n]? = some (some a)
  rs : ∀ a ∈ ρ.res, a ∈ ρ'.res
  rn : ∀ a ∈ ρ.res, some a ∉ ρ.ix → some a ∉ ρ'.ix
  al : ∀ a, H' a = none → H a = none
theorem Ext.refl (ρ : Rho) (H : Hp) : Ext ρ H ρ H := ⟨fun _ _ h _ => h, fun _ h => .inl h, Nat.le_refl _, fun _ _ h _ => h, fun _ h => h, fun _ _ h => h, fun _ h => h⟩
theorem own_no {ρ : Rho} {a : Addr} (h : ¬ ρ.own a) : some a ∉ ρ.ix := fun z => h (.inl z)
theorem Ext.notin {ρ ρ' : Rho} {H H' : Hp} (e : Ext ρ H ρ' H') {a : Addr} {o : HO} (h : H a = some o) (n : ¬ ρ.own a) : ¬ ρ'.own a := fun z => by
  rcases e.nw a z with q | q
  · exact n q
  · rw [h] at q; cases q
theorem Ext.notix {ρ ρ' : Rho} {H H' : Hp} (e : Ext ρ H ρ' H') {a : Addr} {o : HO} (h : H a = some o) (n : some a ∉ ρ.ix) : some a ∉ ρ'.ix := by
  by_cases hr : a ∈ ρ.res
  · exact e.rn a hr n
  · exact own_no (e.notin h (fun z => z.elim n hr))
theorem Ext.trans {ρ ρ1 ρ2 : Rho} {H H1 H2 : Hp} (e : Ext ρ H ρ1 H1) (f : Ext ρ1 H1 ρ2 H2) : Ext ρ H ρ2 H2 where
  fr := fun a o h n => f.fr a o (e.fr a o h n) (e.notix h n)
  nw := fun a h => by
    rcases f.nw a h with q | q
    · exact e.nw a q
    · by_cases ha : some a ∈ ρ.ix
      · exact .inl (.inl ha)
      · cases hh : H a with
        | none => exact .inr rfl
        | some o => rw [e.fr a o hh ha] at q; cases q
  len := Nat.le_trans e.len f.len
  ix := fun n a h hn => e.ix n a (f.ix n a h (Nat.lt_of_lt_of_le hn e.len)) hn
  rs := fun a h => f.rs a (e.rs a h)
  rn := fun a h n => f.rn a (e.rs a h) (e.rn a h n)
  al := fun a h => e.al a (f.al a h)
theorem upd_al {H : Hp} {p : Addr} {o : HO} (a : Addr) (h : upd H p o a = none) : H a = none := by
  by_cases e : a = p
  · subst e; rw [upd_same] at h; cases h
  · rw [upd_ne e] at h; exact h
theorem TpAt.mono {ρ ρ' : Rho} {K : PySem.W.Frag} {H H' : Hp} (e : Ext ρ H ρ' H') {a : Addr} {ys : List V} (h : TpAt ρ K H a ys) : TpAt ρ' K H' a ys := by
  rcases h with ⟨h, n⟩ | h
  · rcases h with h | ⟨o, h⟩
    · exact .inl ⟨.inl (e.fr _ _ h (own_no n)), e.notin h n⟩
    · exact .inl ⟨.inr ⟨o, e.fr _ _ h (own_no n)⟩, e.notin h n⟩
  · exact .inr h
theorem LrAt.mono {ρ ρ' : Rho} {K : PySem.W.Frag} {H H' : Hp} (e : Ext ρ H ρ' H') {a : Addr} {ys : List V} (h : LrAt ρ K H a ys) : LrAt ρ' K H' a ys := by
  rcases h with ⟨⟨o, h⟩, n⟩ | h
  · exact .inl ⟨⟨o, e.fr _ _ h (own_no n)⟩, e.notin h n⟩
  · exact .inr h
mutual
theorem RD.mono {ρ ρ' : Rho} {K : PySem.W.Frag} {H H' : Hp} (e : Ext ρ H ρ' H') : ∀ {x : Ir.D} {v : V}, RD ρ K H x v → RD ρ' K H' x v
  | _, _, .non => .non
  | _, _, .bool b => .bool b
  | _, _, .int i => .int i
  | _, _, .str s => .str s
  | _, _, .tup h z r => .tup (h.mono e) z (RDs.mono e r)
  | _, _, .ro h z r => .ro (h.mono e) z (RDs.mono e r)
  | _, _, .lst h n z r => .lst (e.fr _ _ h (own_no n)) (e.notin h n) z (RDs.mono e r)
theorem RDs.mono {ρ ρ' : Rho} {K : PySem.W.Frag} {H H' : Hp} (e : Ext ρ H ρ' H') : ∀ {xs : List Ir.D} {vs : List V}, RDs ρ K H xs vs → RDs ρ' K H' xs vs
  | _, _, .nil => .nil
  | _, _, .cons h r => .cons (RD.mono e h) (RDs.mono e r)
end
section
variable {ρ : Rho} {K : PySem.W.Frag} {H : Hp}
theorem RDs.length : ∀ {xs : List Ir.D} {vs : List V}, RDs ρ K H xs vs → xs.length = vs.length
  | _, _, .nil => rfl
  | _, _, .cons _ r => congrArg (· + 1) r.length
theorem RDs.get : ∀ {xs : List Ir.D} {vs : List V} {i : Nat} {x : Ir.D}, RDs ρ K H xs vs → xs[i]? = some x → ∃ v, vs[i]? = some v ∧ RD ρ K H x v
  | _, _, _, _, .nil, h => by simp at h
  | _, _, 0, _, .cons h _, e => by simp at e; subst e; exact ⟨_, rfl, h⟩
  | _, _, i + 1, _, .cons _ r, e => by
    obtain ⟨v, h1, h2⟩ := RDs.get (i := i) r (by simpa using e)
    exact ⟨v, by simpa using h1, h2⟩
theorem RDs.append : ∀ {xs ys : List Ir.D} {vs ws : List V}, RDs ρ K H xs vs → RDs ρ K H ys ws → RDs ρ K H (xs ++ ys) (vs ++ ws)
  | _, _, _, _, .nil, s => s
  | _, _, _, _, .cons h r, s => .cons h (RDs.append r s)
theorem RDs.drop : ∀ (n : Nat) {xs : List Ir.D} {vs : List V}, RDs ρ K H xs vs → RDs ρ K H (xs.drop n) (vs.drop n)
  | 0, _, _, r => r
  | _ + 1, _, _, .nil => .nil
  | n + 1, _, _, .cons _ r => RDs.drop n r
theorem RDs.take : ∀ (n : Nat) {xs : List Ir.D} {vs : List V}, RDs ρ K H xs vs → RDs ρ K H (xs.take n) (vs.take n)
  | 0, _, _, _ => .nil
  | _ + 1, _, _, .nil => .nil
  | n + 1, _, _, .cons h r => .cons h (RDs.take n r)
theorem RDs.set {x : Ir.D} {v : V} (h : RD ρ K H x v) : ∀ (n : Nat) {xs : List Ir.D} {vs : List V}, RDs ρ K H xs vs → RDs ρ K H (xs.set n x) (vs.set n v)
  | _, _, _, .nil => .nil
  | 0, _, _, .cons _ r => .cons h r
  | n + 1, _, _, .cons q r => .cons q (RDs.set h n r)
end
def RV (ρ : Rho) (K : PySem.W.Frag) (H : Hp) : Ir.Val → V → Prop
  | .d x, v => RD ρ K H x v
  | .ref n, v => n < ρ.ix.length ∧ ∃ a, v = .ref a ∧ ∀ b, ρ.ix[n]? = some (some b) → b = a
theorem RV.mono {ρ ρ' : Rho} {K : PySem.W.Frag} {H H' : Hp} (e : Ext ρ H ρ' H') : ∀ {x : Ir.Val} {v : V}, RV ρ K H x v → RV ρ' K H' x v
  | .d _, _, h => RD.mono e h
  | .ref n, _, ⟨h1, a, h2, h3⟩ => ⟨Nat.lt_of_lt_of_le h1 e.len, a, h2, fun b q => h3 b (e.ix n b q h1)⟩
inductive RVs (ρ : Rho) (K : PySem.W.Frag) (H : Hp) : List Ir.Val → List V → Prop
  | nil : RVs ρ K H [] []
  | cons {x : Ir.Val} {xs : List Ir.Val} {y : V} {ys : List V} : RV ρ K H x y → RVs ρ K H xs ys → RVs ρ K H (x :: xs) (y :: ys)
theorem RVs.mono {ρ ρ' : Rho} {K : PySem.W.Frag} {H H' : Hp} (e : Ext ρ H ρ' H') : ∀ {xs : List Ir.Val} {vs : List V}, RVs ρ K H xs vs → RVs ρ' K H' xs vs
  | _, _, .nil => .nil
  | _, _, .cons h r => .cons (RV.mono e h) (RVs.mono e r)
theorem RVs.length {ρ : Rho} {K : PySem.W.Frag} {H : Hp} : ∀ {xs : List Ir.Val} {vs : List V}, RVs ρ K H xs vs → xs.length = vs.length
  | _, _, .nil => rfl
  | _, _, .cons _ r => congrArg (· + 1) r.length
theorem RVs.ds {ρ : Rho} {K : PySem.W.Frag} {H : Hp} : ∀ {xs : List Ir.Val} {vs : List V} {ds : List Ir.D}, RVs ρ K H xs vs → Ir.asDs xs = some ds → RDs ρ K H ds vs
  | _, _, _, .nil, h => by simp [Ir.asDs] at h; subst h; exact .nil
  | .d x :: xs, _, _, .cons h r, e => by
    simp only [Ir.asDs, Option.map_eq_some_iff] at e
    obtain ⟨ds, e1, e2⟩ := e
    subst e2
    exact .cons h (RVs.ds r e1)
  | .ref n :: xs, _, _, .cons h r, e => by simp [Ir.asDs] at e
def RK : Ir.D → Key → Prop
  | .int i, k => k = .inl i
  | .str s, k => k = .inr (Str.ofString s)
  | _, _ => False
inductive RKs (ρ : Rho) (K : PySem.W.Frag) (H : Hp) : List (Ir.D × Ir.D) → List (Key × V) → Prop
  | nil : RKs ρ K H [] []
  | cons {k v : Ir.D} {xs : List (Ir.D × Ir.D)} {k' : Key} {v' : V} {ys : List (Key × V)} : RK k k' → RD ρ K H v v' → RKs ρ K H xs ys → RKs ρ K H ((k, v) :: xs) ((k', v') :: ys)
theorem RKs.mono {ρ ρ' : Rho} {K : PySem.W.Frag} {H H' : Hp} (e : Ext ρ H ρ' H') : ∀ {xs : List (Ir.D × Ir.D)} {vs : List (Key × V)}, RKs ρ K H xs vs → RKs ρ' K H' xs vs
  | _, _, .nil => .nil
  | _, _, .cons h q r => .cons h (RD.mono e q) (RKs.mono e r)
theorem RKs.length {ρ : Rho} {K : PySem.W.Frag} {H : Hp} : ∀ {xs : List (Ir.D × Ir.D)} {vs : List (Key × V)}, RKs ρ K H xs vs → xs.length = vs.length
  | _, _, .nil => rfl
  | _, _, .cons _ _ r => congrArg (· + 1) r.length
def RC (ρ : Rho) (K : PySem.W.Frag) (H : Hp) (a : Addr) : Ir.Cell → Prop
  | .lst xs => ∃ ys, H a = some (.lst ys) ∧ ys.length ≤ sizeLine ∧ RDs ρ K H xs ys
  | .dic kvs => ∃ ks, H a = some (.dK ks) ∧ ks.length ≤ sizeLine ∧ RKs ρ K H kvs ks
  | .dead => False
structure RS (ρ : Rho) (K : PySem.W.Frag) (st : Ir.Store) (H : Hp) : Prop where
  len : st.length = ρ.ix.length
  inj : ∀ (i j : Nat) (a : Addr), ρ.ix[i]? = some (some a) → ρ.ix[j]? = some (some a) → i = j
  cell : ∀ (n : Nat) (a : Addr), ρ.ix[n]? = some (some a) → ∃ c, st[n]? = some c ∧ RC ρ K H a c
  dd : ∀ (n : Nat), ρ.ix[n]? = some none → st[n]? = some .dead
  kept : ∀ a ∈ ρ.res, ∃ o, H a = some o
  disj : ∀ a ∈ ρ.res, some a ∉ ρ.ix
section
variable {ρ : Rho} {K : PySem.W.Frag} {st : Ir.Store} {H : Hp}
theorem RS.get (r : RS ρ K st H) {n : Nat} {c : Ir.Cell} (h : st[n]? = some c) (d : c ≠ .dead) : ∃ a, ρ.ix[n]? = some (some a) ∧ RC ρ K H a c := by
  have hn : n < ρ.ix.length := by rw [← r.len]; exact (List.getElem?_eq_some_iff.mp h).1
  cases q : ρ.ix[n]? with
  | none => rw [List.getElem?_eq_none_iff] at q; omega
  | some o =>
    cases o with
    | none =>
      have := r.dd n q
      rw [h] at this; cases this
      exact absurd rfl d
    | some a =>
      obtain ⟨c', h1, h2⟩ := r.cell n a q
      rw [h] at h1; cases h1
      exact ⟨a, rfl, h2⟩
theorem RC.some {a : Addr} {c : Ir.Cell} (h : RC ρ K H a c) : ∃ o, H a = Option.some o ∧ Mut (Option.some o) := by
  cases c with
  | lst xs => obtain ⟨ys, h, _⟩ := h; exact ⟨_, h, trivial⟩
  | dic xs => obtain ⟨ys, h, _⟩ := h; exact ⟨_, h, trivial⟩
  | dead => exact False.elim h
theorem RS.mem (r : RS ρ K st H) {a : Addr} (h : some a ∈ ρ.ix) : ∃ (n : Nat) (c : Ir.Cell), ρ.ix[n]? = some (some a) ∧ st[n]? = some c ∧ RC ρ K H a c := by
  obtain ⟨n, hn⟩ := List.getElem?_of_mem h
  obtain ⟨c, h1, h2⟩ := r.cell n a hn
  exact ⟨n, c, hn, h1, h2⟩
theorem RS.fresh (r : RS ρ K st H) {p : Addr} (h : H p = none) : ¬ ρ.own p := fun z => by
  rcases z with z | z
  · obtain ⟨n, c, _, _, q⟩ := r.mem z
    obtain ⟨o, e, _⟩ := q.some
    rw [h] at e; cases e
  · obtain ⟨o, e⟩ := r.kept p z
    rw [h] at e; cases e
theorem RC.mono {ρ' : Rho} {H' : Hp} (e : Ext ρ H ρ' H') {a : Addr} {c : Ir.Cell} (h : RC ρ K H a c) (s : H' a = H a) : RC ρ' K H' a c := by
  cases c with
  | lst xs => obtain ⟨ys, h1, h2, h3⟩ := h; exact ⟨ys, s.trans h1, h2, h3.mono e⟩
  | dic xs => obtain ⟨ys, h1, h2, h3⟩ := h; exact ⟨ys, s.trans h1, h2, h3.mono e⟩
  | dead => exact h
/-- a new thing that no cell is -/
theorem Ext.grow (r : RS ρ K st H) {p : Addr} (h : H p = none) (o : HO) : Ext ρ H ρ (upd H p o) :=
  ⟨fun a u q _ => by rw [upd_ne (ne_of_none q h)]; exact q, fun _ q => .inl q, Nat.le_refl _, fun _ _ q _ => q, fun _ q => q, fun _ _ q => q, upd_al⟩
theorem RS.ext (r : RS ρ K st H) {H' : Hp} (e : Ext ρ H ρ H') (s : ∀ a, some a ∈ ρ.ix → H' a = H a) : RS ρ K st H' :=
  ⟨r.len, r.inj, fun n a q => let ⟨c, h1, h2⟩ := r.cell n a q; ⟨c, h1, h2.mono e (s a (List.mem_of_getElem? q))⟩, r.dd, fun a q => let ⟨o, h⟩ := r.kept a q; ⟨o, e.fr a o h (r.disj a q)⟩, r.disj⟩
theorem RS.grow (r : RS ρ K st H) {p : Addr} (h : H p = none) (o : HO) : RS ρ K st (upd H p o) :=
  r.ext (.grow r h o) fun a q => upd_ne fun z => r.fresh h (.inl (by rw [← z]; exact q))
/-- a cell changed -/
theorem Ext.write (r : RS ρ K st H) {n : Nat} {a : Addr} (h : ρ.ix[n]? = some (some a)) (o : HO) : Ext ρ H ρ (upd H a o) :=
  ⟨fun b u q z => by rw [upd_ne (fun e => z (by rw [e]; exact List.mem_of_getElem? h))]; exact q, fun _ q => .inl q, Nat.le_refl _, fun _ _ q _ => q, fun _ q => q, fun _ _ q => q, upd_al⟩
theorem RS.write (r : RS ρ K st H) {n : Nat} {a : Addr} (h : ρ.ix[n]? = some (some a)) {o : HO} {c : Ir.Cell} (q : RC ρ K (upd H a o) a c) : RS ρ K (st.set n c) (upd H a o) := by
  have hn : n < st.length := by rw [r.len]; exact (List.getElem?_eq_some_iff.mp h).1
  refine ⟨by rw [List.length_set]; exact r.len, r.inj, fun m b hm => ?_, fun m hm => ?_, fun b hb => ?_, r.disj⟩
  · by_cases e : m = n
    · subst e
      rw [h] at hm; cases hm
      exact ⟨c, List.getElem?_set_self hn, q⟩
    · obtain ⟨c', h1, h2⟩ := r.cell m b hm
      refine ⟨c', by rw [List.getElem?_set_ne (Ne.symm e)]; exact h1, h2.mono (.write r h o) (upd_ne fun z => e (r.inj m n b hm (by rw [z]; exact h)))⟩
  · have e : m ≠ n := fun e => by subst e; rw [h] at hm; cases hm
    rw [List.getElem?_set_ne (Ne.symm e)]
    exact r.dd m hm
  · obtain ⟨u, hu⟩ := r.kept b hb
    exact ⟨u, (Ext.write r h o).fr b u hu (r.disj b hb)⟩
/-- a new cell -/
def Rho.push (ρ : Rho) (p : Addr) : Rho := ⟨ρ.ix ++ [some p], ρ.res⟩
theorem Ext.push (r : RS ρ K st H) {p : Addr} (h : H p = none) (o : HO) : Ext ρ H (ρ.push p) (upd H p o) := by
  refine ⟨fun a u q _ => by rw [upd_ne (ne_of_none q h)]; exact q, fun a q => ?_, by simp [Rho.push], fun n a q hn => ?_, fun _ q => q, fun a ha hn z => ?_, upd_al⟩
  · rcases q with q | q
    · rcases List.mem_append.mp q with z | z
      · exact .inl (.inl z)
      · simp at z; subst z; exact .inr h
    · exact .inl (.inr q)
  · simp only [Rho.push] at q
    rw [List.getElem?_append_left hn] at q; exact q
  · rcases List.mem_append.mp z with z | z
    · exact hn z
    · simp at z
      subst z
      exact r.fresh h (.inr ha)
theorem RS.push (r : RS ρ K st H) {p : Addr} (h : H p = none) {o : HO} {c : Ir.Cell} (q : RC (ρ.push p) K (upd H p o) p c) : RS (ρ.push p) K (st ++ [c]) (upd H p o) := by
  have np : some p ∉ ρ.ix := fun z => r.fresh h (.inl z)
  have key : ∀ (i : Nat) (a : Addr), (ρ.ix ++ [some p])[i]? = some (some a) → (ρ.ix[i]? = some (some a) ∧ a ≠ p) ∨ (i = ρ.ix.length ∧ a = p) := fun i a hi => by
    by_cases hl : i < ρ.ix.length
    · rw [List.getElem?_append_left hl] at hi
      exact .inl ⟨hi, fun e => np (by rw [← e]; exact List.mem_of_getElem? hi)⟩
    · rw [List.getElem?_append_right (by omega)] at hi
      have : i - ρ.ix.length = 0 := by
        by_cases z : i - ρ.ix.length = 0
        · exact z
        · rw [List.getElem?_eq_none (by simp; omega)] at hi; cases hi
      rw [this] at hi
      simp at hi
      exact .inr ⟨by omega, hi.symm⟩
  refine ⟨by simp [Rho.push, r.len], fun i j a hi hj => ?_, fun n a hn => ?_, fun n hn => ?_, fun a ha => ?_, fun a ha z => ?_⟩
  · rcases key i a hi with ⟨h1, n1⟩ | ⟨h1, n1⟩ <;> rcases key j a hj with ⟨h2, n2⟩ | ⟨h2, n2⟩
    · exact r.inj i j a h1 h2
    · exact absurd n2 n1
    · exact absurd n1 n2
    · omega
  · rcases key n a hn with ⟨h1, n1⟩ | ⟨h1, n1⟩
    · obtain ⟨c', h2, h3⟩ := r.cell n a h1
      refine ⟨c', ?_, h3.mono (.push r h o) (upd_ne n1)⟩
      rw [List.getElem?_append_left (List.getElem?_eq_some_iff.mp h2).1]; exact h2
    · subst h1 n1
      refine ⟨c, ?_, q⟩
      rw [← r.len, List.getElem?_append_right (Nat.le_refl _)]; simp
  · have hn : (ρ.ix ++ [some p])[n]? = some none := hn
    by_cases hl : n < ρ.ix.length
    · rw [List.getElem?_append_left hl] at hn
      have := r.dd n hn
      rw [List.getElem?_append_left (List.getElem?_eq_some_iff.mp this).1]; exact this
    · rw [List.getElem?_append_right (by omega)] at hn
      cases z : n - ρ.ix.length with
      | zero => rw [z] at hn; simp at hn
      | succ k => rw [z] at hn; simp at hn
  · obtain ⟨u, hu⟩ := r.kept a ha
    exact ⟨u, (Ext.push r h o).fr a u hu (r.disj a ha)⟩
  · exact (Ext.push r h o).rn a ha (r.disj a ha) z
/-- a cell that is not changed any more -/
def Rho.kill (ρ : Rho) (n : Nat) : Rho := ⟨ρ.ix.set n none, ρ.res⟩
theorem kill_mem {ρ : Rho} {n : Nat} {a : Addr} (q : some a ∈ (ρ.kill n).ix) : ∃ m : Nat, m ≠ n ∧ ρ.ix[m]? = some (some a) := by
  obtain ⟨m, hm⟩ := List.getElem?_of_mem q
  have hm : (ρ.ix.set n none)[m]? = some (some a) := hm
  by_cases e : m = n
  · subst e
    rw [List.getElem?_set] at hm
    simp at hm
  · rw [List.getElem?_set_ne (Ne.symm e)] at hm
    exact ⟨m, e, hm⟩
theorem Ext.kill (ρ : Rho) (H : Hp) (n : Nat) : Ext ρ H (ρ.kill n) H := by
  refine ⟨fun _ _ q _ => q, fun a q => ?_, by simp [Rho.kill], fun m a q hm => ?_, fun _ q => q, fun a _ hn z => ?_, fun _ q => q⟩
  · rcases q with q | q
    · obtain ⟨m, _, hm⟩ := kill_mem q
      exact .inl (.inl (List.mem_of_getElem? hm))
    · exact .inl (.inr q)
  · have q : (ρ.ix.set n none)[m]? = some (some a) := q
    by_cases e : m = n
    · subst e
      rw [List.getElem?_set] at q
      simp at q
    · rw [List.getElem?_set_ne (Ne.symm e)] at q; exact q
  · obtain ⟨m, _, hm⟩ := kill_mem z
    exact hn (List.mem_of_getElem? hm)
theorem RS.kill (r : RS ρ K st H) {n : Nat} (h : n < ρ.ix.length) : RS (ρ.kill n) K (st.set n .dead) H := by
  have hs : n < st.length := by rw [r.len]; exact h
  refine ⟨by simp [Rho.kill, r.len], fun i j a hi hj => ?_, fun m a hm => ?_, fun m hm => ?_, r.kept, fun a ha z => ?_⟩
  · have key : ∀ i : Nat, (ρ.kill n).ix[i]? = some (some a) → ρ.ix[i]? = some (some a) := fun i hi => (Ext.kill ρ H n).ix i a hi (by
      have := (List.getElem?_eq_some_iff.mp hi).1
      simpa [Rho.kill] using this)
    exact r.inj i j a (key i hi) (key j hj)
  · have hm : (ρ.ix.set n none)[m]? = some (some a) := hm
    have e : m ≠ n := fun e => by
      subst e
      rw [List.getElem?_set] at hm
      simp at hm
    have hm' := hm
    rw [List.getElem?_set_ne (Ne.symm e)] at hm'
    obtain ⟨c, h1, h2⟩ := r.cell m a hm'
    exact ⟨c, by rw [List.getElem?_set_ne (Ne.symm e)]; exact h1, h2.mono (.kill ρ H n) rfl⟩
  · have hm : (ρ.ix.set n none)[m]? = some none := hm
    by_cases e : m = n
    · subst e; exact List.getElem?_set_self hs
    · rw [List.getElem?_set_ne (Ne.symm e)] at hm ⊢
      exact r.dd m hm
  · obtain ⟨m, _, hm⟩ := kill_mem z
    exact r.disj a ha (List.mem_of_getElem? hm)
theorem kill_notin (r : RS ρ K st H) {n : Nat} {a : Addr} (h : ρ.ix[n]? = some (some a)) : ¬ (ρ.kill n).own a := fun z => by
  rcases z with z | z
  · obtain ⟨m, e, hm⟩ := kill_mem z
    exact e (r.inj m n a hm h)
  · exact r.disj a z (List.mem_of_getElem? h)
/-- an address kept aside -/
def Rho.keep (ρ : Rho) (p : Addr) : Rho := ⟨ρ.ix, p :: ρ.res⟩
theorem Ext.keep (r : RS ρ K st H) {p : Addr} (h : H p = none) (o : HO) : Ext ρ H (ρ.keep p) (upd H p o) := by
  refine ⟨fun a u q _ => by rw [upd_ne (ne_of_none q h)]; exact q, fun a q => ?_, Nat.le_refl _, fun _ _ q _ => q, fun _ q => List.mem_cons_of_mem _ q, fun _ _ q => q, upd_al⟩
  rcases q with q | q
  · exact .inl (.inl q)
  · rcases List.mem_cons.mp q with e | q
    · subst e; exact .inr h
    · exact .inl (.inr q)
theorem RS.keep (r : RS ρ K st H) {p : Addr} (h : H p = none) (o : HO) : RS (ρ.keep p) K st (upd H p o) := by
  have np : some p ∉ ρ.ix := fun z => r.fresh h (.inl z)
  refine ⟨r.len, r.inj, fun n a q => ?_, r.dd, fun a ha => ?_, fun a ha => ?_⟩
  · obtain ⟨c, h1, h2⟩ := r.cell n a q
    exact ⟨c, h1, h2.mono (.keep r h o) (upd_ne fun z => np (by rw [← z]; exact List.mem_of_getElem? q))⟩
  · rcases List.mem_cons.mp ha with e | ha
    · subst e; exact ⟨o, upd_same⟩
    · obtain ⟨u, hu⟩ := r.kept a ha
      exact ⟨u, by rw [upd_ne (ne_of_none hu h)]; exact hu⟩
  · rcases List.mem_cons.mp ha with e | ha
    · subst e; exact np
    · exact r.disj a ha
end
/-- what was kept aside changes: nothing else leans on it -/
theorem TpAt.aside {ρ : Rho} {K : PySem.W.Frag} {H : Hp} {a p : Addr} {o : HO} {ys : List V} (hp : p ∈ ρ.res) (h : TpAt ρ K H a ys) : TpAt ρ K (upd H p o) a ys := by
  rcases h with ⟨h, n⟩ | h
  · have e : a ≠ p := fun e => n (.inr (by rw [e]; exact hp))
    refine .inl ⟨?_, n⟩
    rcases h with h | ⟨u, h⟩
    · exact .inl (by rw [upd_ne e]; exact h)
    · exact .inr ⟨u, by rw [upd_ne e]; exact h⟩
  · exact .inr h
theorem LrAt.aside {ρ : Rho} {K : PySem.W.Frag} {H : Hp} {a p : Addr} {o : HO} {ys : List V} (hp : p ∈ ρ.res) (h : LrAt ρ K H a ys) : LrAt ρ K (upd H p o) a ys := by
  rcases h with ⟨⟨u, h⟩, n⟩ | h
  · have e : a ≠ p := fun e => n (.inr (by rw [e]; exact hp))
    exact .inl ⟨⟨u, by rw [upd_ne e]; exact h⟩, n⟩
  · exact .inr h
mutual
theorem RD.aside {ρ : Rho} {K : PySem.W.Frag} {H : Hp} {p : Addr} {o : HO} (hp : p ∈ ρ.res) : ∀ {x : Ir.D} {v : V}, RD ρ K H x v → RD ρ K (upd H p o) x v
  | _, _, .non => .non
  | _, _, .bool b => .bool b
  | _, _, .int i => .int i
  | _, _, .str s => .str s
  | _, _, .tup h z r => .tup (h.aside hp) z (RDs.aside hp r)
  | _, _, .ro h z r => .ro (h.aside hp) z (RDs.aside hp r)
  | _, _, .lst h n z r => .lst (by rw [upd_ne (fun e => n (.inr (by rw [e]; exact hp)))]; exact h) n z (RDs.aside hp r)
theorem RDs.aside {ρ : Rho} {K : PySem.W.Frag} {H : Hp} {p : Addr} {o : HO} (hp : p ∈ ρ.res) : ∀ {xs : List Ir.D} {vs : List V}, RDs ρ K H xs vs → RDs ρ K (upd H p o) xs vs
  | _, _, .nil => .nil
  | _, _, .cons h r => .cons (RD.aside hp h) (RDs.aside hp r)
end
theorem RKs.aside {ρ : Rho} {K : PySem.W.Frag} {H : Hp} {p : Addr} {o : HO} (hp : p ∈ ρ.res) : ∀ {xs : List (Ir.D × Ir.D)} {vs : List (Key × V)}, RKs ρ K H xs vs → RKs ρ K (upd H p o) xs vs
  | _, _, .nil => .nil
  | _, _, .cons h q r => .cons h (RD.aside hp q) (RKs.aside hp r)
theorem RC.aside {ρ : Rho} {K : PySem.W.Frag} {H : Hp} {a p : Addr} {o : HO} {c : Ir.Cell} (hp : p ∈ ρ.res) (h : RC ρ K H a c) (e : a ≠ p) : RC ρ K (upd H p o) a c := by
  cases c with
  | lst xs => obtain ⟨ys, h1, h2, h3⟩ := h; exact ⟨ys, by rw [upd_ne e]; exact h1, h2, h3.aside hp⟩
  | dic xs => obtain ⟨ys, h1, h2, h3⟩ := h; exact ⟨ys, by rw [upd_ne e]; exact h1, h2, h3.aside hp⟩
  | dead => exact h
theorem RS.aside {ρ : Rho} {K : PySem.W.Frag} {st : Ir.Store} {H : Hp} {p : Addr} {o : HO} (r : RS ρ K st H) (hp : p ∈ ρ.res) : RS ρ K st (upd H p o) := by
  refine ⟨r.len, r.inj, fun n a q => ?_, r.dd, fun a ha => ?_, r.disj⟩
  · obtain ⟨c, h1, h2⟩ := r.cell n a q
    exact ⟨c, h1, h2.aside hp fun e => r.disj p hp (by rw [← e]; exact List.mem_of_getElem? q)⟩
  · by_cases e : a = p
    · subst e; exact ⟨o, upd_same⟩
    · obtain ⟨u, hu⟩ := r.kept a ha
      exact ⟨u, by rw [upd_ne e]; exact hu⟩
/-- what was free ahead may be anything behind -/
theorem Ext.aside {ρ ρ' : Rho} {H H' : Hp} {p : Addr} {o : HO} (e : Ext ρ H ρ' H') (h : H p = none) : Ext ρ H ρ' (upd H' p o) :=
  ⟨fun a u q n => by rw [upd_ne (ne_of_none q h)]; exact e.fr a u q n, e.nw, e.len, e.ix, e.rs, e.rn, fun a q => e.al a (upd_al a q)⟩
/-- an address is given free -/
def Rho.drop (ρ : Rho) (rs : List Addr) : Rho := ⟨ρ.ix, rs⟩
theorem own_drop {ρ : Rho} {rs : List Addr} (hs : ∀ a ∈ rs, a ∈ ρ.res) {a : Addr} (h : ¬ ρ.own a) : ¬ (ρ.drop rs).own a := fun z => h (z.elim .inl fun z => .inr (hs a z))
mutual
theorem RD.drop {ρ : Rho} {K : PySem.W.Frag} {H : Hp} {rs : List Addr} (hs : ∀ a ∈ rs, a ∈ ρ.res) : ∀ {x : Ir.D} {v : V}, RD ρ K H x v → RD (ρ.drop rs) K H x v
  | _, _, .non => .non
  | _, _, .bool b => .bool b
  | _, _, .int i => .int i
  | _, _, .str s => .str s
  | _, _, .tup h z r => .tup (h.elim (fun q => .inl ⟨q.1, own_drop hs q.2⟩) .inr) z (RDs.drop' hs r)
  | _, _, .ro h z r => .ro (h.elim (fun q => .inl ⟨q.1, own_drop hs q.2⟩) .inr) z (RDs.drop' hs r)
  | _, _, .lst h n z r => .lst h (own_drop hs n) z (RDs.drop' hs r)
theorem RDs.drop' {ρ : Rho} {K : PySem.W.Frag} {H : Hp} {rs : List Addr} (hs : ∀ a ∈ rs, a ∈ ρ.res) : ∀ {xs : List Ir.D} {vs : List V}, RDs ρ K H xs vs → RDs (ρ.drop rs) K H xs vs
  | _, _, .nil => .nil
  | _, _, .cons h r => .cons (RD.drop hs h) (RDs.drop' hs r)
end
theorem RKs.drop {ρ : Rho} {K : PySem.W.Frag} {H : Hp} {rs : List Addr} (hs : ∀ a ∈ rs, a ∈ ρ.res) : ∀ {xs : List (Ir.D × Ir.D)} {vs : List (Key × V)}, RKs ρ K H xs vs → RKs (ρ.drop rs) K H xs vs
  | _, _, .nil => .nil
  | _, _, .cons h q r => .cons h (RD.drop hs q) (RKs.drop hs r)
theorem RC.drop {ρ : Rho} {K : PySem.W.Frag} {H : Hp} {rs : List Addr} {a : Addr} {c : Ir.Cell} (hs : ∀ a ∈ rs, a ∈ ρ.res) (h : RC ρ K H a c) : RC (ρ.drop rs) K H a c := by
  cases c with
  | lst xs => obtain ⟨ys, h1, h2, h3⟩ := h; exact ⟨ys, h1, h2, h3.drop' hs⟩
  | dic xs => obtain ⟨ys, h1, h2, h3⟩ := h; exact ⟨ys, h1, h2, h3.drop hs⟩
  | dead => exact h
theorem RS.drop {ρ : Rho} {K : PySem.W.Frag} {st : Ir.Store} {H : Hp} {rs : List Addr} (r : RS ρ K st H) (hs : ∀ a ∈ rs, a ∈ ρ.res) : RS (ρ.drop rs) K st H :=
  ⟨r.len, r.inj, fun n a q => let ⟨c, h1, h2⟩ := r.cell n a q; ⟨c, h1, h2.drop hs⟩, r.dd, fun a q => r.kept a (hs a q), fun a q => r.disj a (hs a q)⟩
/-- less is owned: what stood stands -/
theorem own_sub {ρ ρ' : Rho} (hs : ∀ b, ρ'.own b → ρ.own b) {a : Addr} (h : ¬ ρ.own a) : ¬ ρ'.own a := fun z => h (hs a z)
mutual
theorem RD.sub {ρ ρ' : Rho} {K : PySem.W.Frag} {H : Hp} (hs : ∀ b, ρ'.own b → ρ.own b) : ∀ {x : Ir.D} {v : V}, RD ρ K H x v → RD ρ' K H x v
  | _, _, .non => .non
  | _, _, .bool b => .bool b
  | _, _, .int i => .int i
  | _, _, .str s => .str s
  | _, _, .tup h z r => .tup (h.elim (fun q => .inl ⟨q.1, own_sub hs q.2⟩) .inr) z (RDs.sub hs r)
  | _, _, .ro h z r => .ro (h.elim (fun q => .inl ⟨q.1, own_sub hs q.2⟩) .inr) z (RDs.sub hs r)
  | _, _, .lst h n z r => .lst h (own_sub hs n) z (RDs.sub hs r)
theorem RDs.sub {ρ ρ' : Rho} {K : PySem.W.Frag} {H : Hp} (hs : ∀ b, ρ'.own b → ρ.own b) : ∀ {xs : List Ir.D} {vs : List V}, RDs ρ K H xs vs → RDs ρ' K H xs vs
  | _, _, .nil => .nil
  | _, _, .cons h r => .cons (RD.sub hs h) (RDs.sub hs r)
end
theorem RKs.sub {ρ ρ' : Rho} {K : PySem.W.Frag} {H : Hp} (hs : ∀ b, ρ'.own b → ρ.own b) : ∀ {xs : List (Ir.D × Ir.D)} {vs : List (Key × V)}, RKs ρ K H xs vs → RKs ρ' K H xs vs
  | _, _, .nil => .nil
  | _, _, .cons h q r => .cons h (RD.sub hs q) (RKs.sub hs r)
theorem RC.sub {ρ ρ' : Rho} {K : PySem.W.Frag} {H : Hp} (hs : ∀ b, ρ'.own b → ρ.own b) {a : Addr} {c : Ir.Cell} (h : RC ρ K H a c) : RC ρ' K H a c := by
  cases c with
  | lst xs => obtain ⟨ys, h1, h2, h3⟩ := h; exact ⟨ys, h1, h2, h3.sub hs⟩
  | dic xs => obtain ⟨ys, h1, h2, h3⟩ := h; exact ⟨ys, h1, h2, h3.sub hs⟩
  | dead => exact h
/-- what is kept aside becomes a cell -/
theorem RS.cellOf {ρ : Rho} {K : PySem.W.Frag} {st : Ir.Store} {H : Hp} {rs : List Addr} {a : Addr} {c : Ir.Cell} (r : RS ρ K st H) (hs : ∀ b ∈ rs, b ∈ ρ.res) (ha : a ∈ ρ.res) (hn : a ∉ rs) (q : RC ⟨ρ.ix ++ [some a], rs⟩ K H a c) : RS ⟨ρ.ix ++ [some a], rs⟩ K (st ++ [c]) H := by
  have sub : ∀ b, Rho.own ⟨ρ.ix ++ [some a], rs⟩ b → ρ.own b := fun b z => by
    rcases z with z | z
    · rcases List.mem_append.mp z with z | z
      · exact .inl z
      · simp at z; subst z; exact .inr ha
    · exact .inr (hs b z)
  have np : some a ∉ ρ.ix := r.disj a ha
  have key : ∀ (i : Nat) (b : Addr), (ρ.ix ++ [some a])[i]? = some (some b) → (ρ.ix[i]? = some (some b) ∧ b ≠ a) ∨ (i = ρ.ix.length ∧ b = a) := fun i b hi => by
    by_cases hl : i < ρ.ix.length
    · rw [List.getElem?_append_left hl] at hi
      exact .inl ⟨hi, fun e => np (by rw [← e]; exact List.mem_of_getElem? hi)⟩
    · rw [List.getElem?_append_right (by omega)] at hi
      have : i - ρ.ix.length = 0 := by
        by_cases z : i - ρ.ix.length = 0
        · exact z
        · rw [List.getElem?_eq_none (by simp; omega)] at hi; cases hi
      rw [this] at hi
      simp at hi
      exact .inr ⟨by omega, hi.symm⟩
  refine ⟨by simp [r.len], fun i j b hi hj => ?_, fun n b hb => ?_, fun n hb => ?_, fun b hb => r.kept b (hs b hb), fun b hb z => ?_⟩
  · rcases key i b hi with ⟨h1, n1⟩ | ⟨h1, n1⟩ <;> rcases key j b hj with ⟨h2, n2⟩ | ⟨h2, n2⟩
    · exact r.inj i j b h1 h2
    · exact absurd n2 n1
    · exact absurd n1 n2
    · omega
  · rcases key n b hb with ⟨h1, n1⟩ | ⟨h1, n1⟩
    · obtain ⟨c', h2, h3⟩ := r.cell n b h1
      exact ⟨c', by rw [List.getElem?_append_left (List.getElem?_eq_some_iff.mp h2).1]; exact h2, h3.sub sub⟩
    · subst h1 n1
      refine ⟨c, ?_, q⟩
      rw [← r.len, List.getElem?_append_right (Nat.le_refl _)]; simp
  · have hb : (ρ.ix ++ [some a])[n]? = some none := hb
    by_cases hl : n < ρ.ix.length
    · rw [List.getElem?_append_left hl] at hb
      have := r.dd n hb
      rw [List.getElem?_append_left (List.getElem?_eq_some_iff.mp this).1]; exact this
    · rw [List.getElem?_append_right (by omega)] at hb
      cases z : n - ρ.ix.length with
      | zero => rw [z] at hb; simp at hb
      | succ k => rw [z] at hb; simp at hb
  · rcases List.mem_append.mp z with z | z
    · exact r.disj b (hs b hb) z
    · simp at z; subst z; exact hn hb
theorem Ext.cellOf {ρ ρ' : Rho} {H H' : Hp} {a : Addr} (e : Ext ρ H ρ' H') (ha : H a = none) (hn : a ∉ ρ.res) : Ext ρ H ⟨ρ'.ix ++ [some a], ρ.res⟩ H' := by
  refine ⟨e.fr, fun b q => ?_, by have := e.len; simp; omega, fun n b q hl => ?_, fun _ q => q, fun b hb n z => ?_, e.al⟩
  · rcases q with q | q
    · rcases List.mem_append.mp q with z | z
      · exact e.nw b (.inl z)
      · simp at z; subst z; exact .inr ha
    · exact .inl (.inr q)
  · have q : (ρ'.ix ++ [some a])[n]? = some (some b) := q
    rw [List.getElem?_append_left (Nat.lt_of_lt_of_le hl e.len)] at q
    exact e.ix n b q hl
  · rcases List.mem_append.mp z with z | z
    · exact e.rn b hb n z
    · simp at z; subst z; exact hn hb
theorem Ext.drop {ρ ρ' : Rho} {H H' : Hp} (e : Ext ρ H ρ' H') : Ext ρ H (ρ'.drop ρ.res) H' :=
  ⟨e.fr, fun a q => q.elim (fun z => e.nw a (.inl z)) fun z => .inl (.inr z), e.len, e.ix, fun _ q => q, e.rn, e.al⟩
end Snd

namespace Snd
open PySem PySem.Spec PyProof.Rows L2
/-! ### readings -/
def REnv (ρ : Rho) (K : PySem.W.Frag) (H : Hp) (env : Ir.Env) (σ : L2.St) : Prop :=
  env.length = σ.length ∧ ∀ (i : Nat) (v : Ir.Val), env[i]? = some (some v) → ∃ x, σ[i]? = some (some x) ∧ RV ρ K H v x
theorem REnv.mono {ρ ρ' : Rho} {K : PySem.W.Frag} {H H' : Hp} {env : Ir.Env} {σ : L2.St} (h : REnv ρ K H env σ) (e : Ext ρ H ρ' H') : REnv ρ' K H' env σ :=
  ⟨h.1, fun i v q => let ⟨x, h1, h2⟩ := h.2 i v q; ⟨x, h1, h2.mono e⟩⟩
theorem REnv.set {ρ : Rho} {K : PySem.W.Frag} {H : Hp} {env : Ir.Env} {σ : L2.St} (h : REnv ρ K H env σ) {v : Ir.Val} {x : V} (r : RV ρ K H v x) (i : Nat) : REnv ρ K H (env.set i (some v)) (σ.set i (some x)) := by
  refine ⟨by simp [h.1], fun j u q => ?_⟩
  by_cases e : i = j
  · subst e
    rw [List.getElem?_set] at q ⊢
    simp only [if_true] at q ⊢
    split at q
    · rename_i hl
      rw [if_pos (by rw [← h.1]; exact hl)]
      cases q
      exact ⟨x, rfl, r⟩
    · cases q
  · rw [List.getElem?_set_ne e] at q ⊢
    exact h.2 j u q
theorem REnv.wipe {ρ : Rho} {K : PySem.W.Frag} {H : Hp} {env : Ir.Env} {σ : L2.St} (h : REnv ρ K H env σ) : ∀ vs : List Nat, REnv ρ K H (Ir.wipe env vs) (L2.wipe σ vs)
  | [] => h
  | v :: vs => by
    have ih := REnv.wipe h vs
    refine ⟨by simp [Ir.wipe, L2.wipe, ih.1], fun j u q => ?_⟩
    simp only [Ir.wipe, L2.wipe] at q ⊢
    by_cases e : v = j
    · subst e
      rw [List.getElem?_set] at q
      simp at q
    · rw [List.getElem?_set_ne e] at q ⊢
      exact ih.2 j u q
/-- data that may be a cell's list -/
def VD (ρ : Rho) (K : PySem.W.Frag) (H : Hp) : Ir.D → V → Prop
  | .lst xs, v => ∃ a ys, v = .ref a ∧ H a = some (.lst ys) ∧ ys.length ≤ sizeLine ∧ RDs ρ K H xs ys
  | x, v => RD ρ K H x v
theorem VD.of {ρ : Rho} {K : PySem.W.Frag} {H : Hp} {x : Ir.D} {v : V} (h : RD ρ K H x v) : VD ρ K H x v := by
  cases h with
  | lst h n z r => exact ⟨_, _, rfl, h, z, r⟩
  | non => exact .non
  | bool b => exact .bool b
  | int i => exact .int i
  | str s => exact .str s
  | tup h z r => exact RD.tup h z r
  | ro h z r => exact RD.ro h z r
theorem RV.cell {ρ : Rho} {K : PySem.W.Frag} {H : Hp} {st : Ir.Store} {n : Nat} {c : Ir.Cell} {x : V} (r : RS ρ K st H) (h : RV ρ K H (.ref n) x) (e : st[n]? = some c) (d : c ≠ .dead) : ∃ a, x = .ref a ∧ ρ.ix[n]? = some (some a) ∧ RC ρ K H a c := by
  obtain ⟨a, h1, h2⟩ := r.get e d
  obtain ⟨_, b, h3, h4⟩ := h
  have := h4 a h1
  subst this
  exact ⟨a, h3, h1, h2⟩
theorem VD.deref {ρ : Rho} {K : PySem.W.Frag} {H : Hp} {st : Ir.Store} {v : Ir.Val} {x : V} {p : Ir.D} (r : RS ρ K st H) (h : RV ρ K H v x) (e : Ir.deref st v = some p) : VD ρ K H p x := by
  cases v with
  | d y =>
    simp only [Ir.deref, Option.some.injEq] at e
    subst e
    exact .of h
  | ref n =>
    simp only [Ir.deref] at e
    split at e
    · rename_i xs hx
      cases e
      obtain ⟨a, e1, e2, ys, h1, h2, h3⟩ := RV.cell r h hx (by simp)
      exact ⟨a, ys, e1, h1, h2, h3⟩
    · cases e

variable {X : Cx} {C : Ir.Calls}
def tI (C : Ir.Calls) (K : PySem.W.Frag) (e : Ir.Ex) : TE := fun σ H Q => ∃ ρ env st v st', RS ρ K st H ∧ REnv ρ K H env σ ∧ Ir.eval C e env st = .ok v st' ∧
  ∀ ρ' H' x, Ext ρ H ρ' H' → RS ρ' K st' H' → RV ρ' K H' v x → Q x H'
def tIs (C : Ir.Calls) (K : PySem.W.Frag) (es : List Ir.Ex) : TA := fun σ H Q => ∃ ρ env st vs st', RS ρ K st H ∧ REnv ρ K H env σ ∧ Ir.evals C es env st = .ok vs st' ∧
  ∀ ρ' H' xs, Ext ρ H ρ' H' → RS ρ' K st' H' → RVs ρ' K H' vs xs → Q xs H'
def tIT (C : Ir.Calls) (K : PySem.W.Frag) (e : Ir.Ex) : TT := fun σ H Q => ∃ ρ env st b st', RS ρ K st H ∧ REnv ρ K H env σ ∧ Ir.eval C e env st = .ok (.d (.bool b)) st' ∧
  ∀ ρ' H', Ext ρ H ρ' H' → RS ρ' K st' H' → Q b H'
def tIO (C : Ir.Calls) (K : PySem.W.Frag) (e : Option Ir.Ex) : TO := fun σ H Q => ∃ ρ env st v st', RS ρ K st H ∧ REnv ρ K H env σ ∧ Ir.evalO C e env st = .ok v st' ∧
  ∀ ρ' H', Ext ρ H ρ' H' → RS ρ' K st' H' → Q v H'
def tICs (C : Ir.Calls) (K : PySem.W.Frag) (es : List Ir.Ex) : TT := fun σ H Q => ∃ ρ env st b st', RS ρ K st H ∧ REnv ρ K H env σ ∧ Ir.conds C es env st = .ok b st' ∧
  ∀ ρ' H', Ext ρ H ρ' H' → RS ρ' K st' H' → Q b H'
abbrev SE (X : Cx) (C : Ir.Calls) (e : Expr) (ir : Ir.Ex) : Prop := PE X e (tI C X.K ir)
abbrev SEs (X : Cx) (C : Ir.Calls) (es : List Expr) (ir : List Ir.Ex) : Prop := PA X es (tIs C X.K ir)
abbrev ST (X : Cx) (C : Ir.Calls) (e : Expr) (ir : Ir.Ex) : Prop := PT X e (tIT C X.K ir)
abbrev SW (X : Cx) (C : Ir.Calls) (e : Expr) (ir : Ir.Ex) : Prop := PW X e (tIT C X.K ir)
abbrev SO (X : Cx) (C : Ir.Calls) (e : Option Expr) (ir : Option Ir.Ex) : Prop := PO X e (tIO C X.K ir)
abbrev SCs (X : Cx) (C : Ir.Calls) (es : List Expr) (ir : List Ir.Ex) : Prop := PTs X es (tICs C X.K ir)
theorem pe_imp {e : Expr} {t t' : TE} (h : PE X e t) (w : ∀ σ H Q, t' σ H Q → t σ H Q) : PE X e t' := ⟨fun pins s σ H Q I q => h.run pins s σ H Q I (w σ H Q q)⟩
theorem pt_imp {e : Expr} {t t' : TT} (h : PT X e t) (w : ∀ σ H Q, t' σ H Q → t σ H Q) : PT X e t' := ⟨fun pins s σ H Q I q => h.run pins s σ H Q I (w σ H Q q)⟩
theorem pw_imp {e : Expr} {t t' : TT} (h : PW X e t) (w : ∀ σ H Q, t' σ H Q → t σ H Q) : PW X e t' := ⟨fun wh pins s σ H Q I q => h.run wh pins s σ H Q I (w σ H Q q)⟩
theorem pa_imp {es : List Expr} {t t' : TA} (h : PA X es t) (w : ∀ σ H Q, t' σ H Q → t σ H Q) : PA X es t' := ⟨fun p pins s σ H Q I q => h.run p pins s σ H Q I (w σ H Q q)⟩
theorem po_imp {e : Option Expr} {t t' : TO} (h : PO X e t) (w : ∀ σ H Q, t' σ H Q → t σ H Q) : PO X e t' := ⟨fun pins s σ H Q I q => h.run pins s σ H Q I (w σ H Q q)⟩
theorem pts_imp {es : List Expr} {t t' : TT} (h : PTs X es t) (w : ∀ σ H Q, t' σ H Q → t σ H Q) : PTs X es t' := ⟨fun pins s σ H Q I q => h.run pins s σ H Q I (w σ H Q q)⟩

theorem bok {α β : Type} {r : Ir.Res α} {f : α → Ir.Store → Ir.Res β} {b : β} {st : Ir.Store} (h : r.bind f = .ok b st) : ∃ a s1, r = .ok a s1 ∧ f a s1 = .ok b st := Ir.Res.bind_eq_ok h
theorem ook {α β : Type} {o : Option α} {s : Ir.Store} {f : α → Ir.Store → Ir.Res β} {b : β} {st : Ir.Store} (h : (Ir.optR o s).bind f = .ok b st) : ∃ a, o = some a ∧ f a s = .ok b st := by
  obtain ⟨a, s1, h1, h2⟩ := bok h
  obtain ⟨e, rfl⟩ := Ir.optR_ok h1
  exact ⟨a, e, h2⟩
/-! ### names, constants -/
theorem se_var (i : Nat) {x : Str} {pos : Pos} (hN : X.N[i]? = some x := by rfl) (hv : Vis X.env.scope x := by first | exact Or.inl rfl | exact Or.inr (Or.inl rfl) | exact Or.inr (Or.inr rfl)) (hd : (x == ("__debug__" : Str)) = false := by decide) (hcd : (x == ("__classdict__" : Str)) = false := by decide) : SE X C (.Name x pos) (.var i) := by
  refine pe_imp (pe_var (i := i) hN hv hd hcd) fun σ H Q ⟨ρ, env, st, v, st', rs, re, ev, k⟩ => ?_
  simp only [Ir.eval] at ev
  split at ev
  · rename_i w hw
    cases ev
    obtain ⟨x, h1, h2⟩ := re.2 i _ hw
    exact ⟨x, h1, k ρ H x (.refl _ _) rs h2⟩
  · cases ev
theorem se_int {i j pos} : SE X C (.Constant (.int i) j pos) (.con (.int i)) := pe_imp pe_int fun σ H Q ⟨ρ, env, st, v, st', rs, re, ev, k⟩ => by
  simp only [Ir.eval] at ev; cases ev; exact k ρ H _ (.refl _ _) rs (.int i)
theorem se_bool {b j pos} : SE X C (.Constant (.bool b) j pos) (.con (.bool b)) := pe_imp pe_bl fun σ H Q ⟨ρ, env, st, v, st', rs, re, ev, k⟩ => by
  simp only [Ir.eval] at ev; cases ev; exact k ρ H _ (.refl _ _) rs (.bool b)
theorem se_non {j pos} : SE X C (.Constant .none j pos) (.con .non) := pe_imp pe_non fun σ H Q ⟨ρ, env, st, v, st', rs, re, ev, k⟩ => by
  simp only [Ir.eval] at ev; cases ev; exact k ρ H _ (.refl _ _) rs .non
theorem se_str {s : String} {j pos} : SE X C (.Constant (.str (Str.ofString s)) j pos) (.con (.str s)) := pe_imp pe_str fun σ H Q ⟨ρ, env, st, v, st', rs, re, ev, k⟩ => by
  simp only [Ir.eval] at ev; cases ev; exact k ρ H _ (.refl _ _) rs (.str s)
/-! ### lists of expressions -/
theorem ses_nil : SEs X C [] [] := pa_imp pa_nil fun σ H Q ⟨ρ, env, st, v, st', rs, re, ev, k⟩ => by
  simp only [Ir.evals] at ev; cases ev; exact k ρ H _ (.refl _ _) rs .nil
theorem ses_cons {e : Expr} {es : List Expr} {i : Ir.Ex} {is : List Ir.Ex} (h : SE X C e i) (hs : SEs X C es is) (hst : starEach (e :: es) X.env = (false, eval e X.env) :: starEach es X.env := by rfl) : SEs X C (e :: es) (i :: is) := by
  refine pa_imp (pa_cons h hs hst) fun σ H Q ⟨ρ, env, st, v, st', rs, re, ev, k⟩ => ?_
  simp only [Ir.evals] at ev
  obtain ⟨x, s1, e1, ev⟩ := bok ev
  obtain ⟨xs, s2, e2, ev⟩ := bok ev
  cases ev
  exact ⟨ρ, env, st, x, s1, rs, re, e1, fun ρ1 H1 X1 x1 rs1 rx => ⟨ρ1, env, s1, xs, st', rs1, re.mono x1, e2, fun ρ2 H2 XS x2 rs2 rxs => k ρ2 H2 (X1 :: XS) (x1.trans x2) rs2 (.cons (rx.mono x2) rxs)⟩⟩
/-- a new tuple, list -/
theorem grow_tup {ρ : Rho} {K : PySem.W.Frag} {st : Ir.Store} {H : Hp} {xs : List Ir.D} {ys : List V} (rs : RS ρ K st H) (r : RDs ρ K H xs ys) (z : ys.length ≤ sizeLine) {p : Addr} (hp : H p = none) : RD ρ K (upd H p (.tup ys)) (.tup xs) (.ref p) :=
  .tup (.inl ⟨.inl upd_same, rs.fresh hp⟩) z (r.mono (.grow rs hp _))
theorem grow_lst {ρ : Rho} {K : PySem.W.Frag} {st : Ir.Store} {H : Hp} {xs : List Ir.D} {ys : List V} (rs : RS ρ K st H) (r : RDs ρ K H xs ys) (z : ys.length ≤ sizeLine) {p : Addr} (hp : H p = none) : RD ρ K (upd H p (.lst ys)) (.lst xs) (.ref p) :=
  .lst upd_same (rs.fresh hp) z (r.mono (.grow rs hp _))
theorem se_tup {es : List Expr} {is : List Ir.Ex} {x1} {pos : Pos} (hs : SEs X C es is) (hl : is.length ≤ sizeLine := by decide) : SE X C (.Tuple es x1 pos) (.tup is) := by
  refine pe_imp (pe_tup hs) fun σ H Q ⟨ρ, env, st, v, st', rs, re, ev, k⟩ => ?_
  simp only [Ir.eval] at ev
  obtain ⟨vs, s1, e1, ev⟩ := bok ev
  obtain ⟨ds, e2, ev⟩ := ook ev
  cases ev
  refine ⟨ρ, env, st, vs, st', rs, re, e1, fun ρ1 H1 XS x1 rs1 rx => ?_⟩
  have hlen : XS.length ≤ sizeLine := by
    have : ∀ (es : List Ir.Ex) (env : Ir.Env) (st st' : Ir.Store) (vs : List Ir.Val), Ir.evals C es env st = .ok vs st' → vs.length = es.length := by
      intro es
      induction es with
      | nil => intro env st st' vs h; simp only [Ir.evals] at h; cases h; rfl
      | cons e es ih =>
        intro env st st' vs h
        simp only [Ir.evals] at h
        obtain ⟨x, s1, e1, h⟩ := bok h
        obtain ⟨xs, s2, e2, h⟩ := bok h
        cases h
        simp [ih _ _ _ _ e2]
    rw [← rx.length, this _ _ _ _ _ e1]; exact hl
  refine ⟨hlen, fun p hp => k ρ1 _ _ (x1.trans (.grow rs1 hp _)) (rs1.grow hp _) (grow_tup rs1 (rx.ds e2) hlen hp)⟩
theorem evals_len : ∀ (es : List Ir.Ex) (env : Ir.Env) (st st' : Ir.Store) (vs : List Ir.Val), Ir.evals C es env st = .ok vs st' → vs.length = es.length := by
  intro es
  induction es with
  | nil => intro env st st' vs h; simp only [Ir.evals] at h; cases h; rfl
  | cons e es ih =>
    intro env st st' vs h
    simp only [Ir.evals] at h
    obtain ⟨x, s1, e1, h⟩ := bok h
    obtain ⟨xs, s2, e2, h⟩ := bok h
    cases h
    simp [ih _ _ _ _ e2]
/-! ### expressions that make a new list: as data, or as a cell -/
/-- ir makes a list of data at an address that was free -/
def tN (C : Ir.Calls) (K : PySem.W.Frag) (e : Ir.Ex) : TE := fun σ H Q => ∃ ρ env st xs st', RS ρ K st H ∧ REnv ρ K H env σ ∧ Ir.eval C e env st = .ok (.d (.lst xs)) st' ∧
  ∀ ρ' H' a ys, Ext ρ H ρ' H' → RS ρ' K st' H' → H a = none → a ∈ ρ'.res → H' a = some (.lst ys) → ys.length ≤ sizeLine → RDs ρ' K H' xs ys → Q (.ref a) H'
abbrev SN (X : Cx) (C : Ir.Calls) (e : Expr) (ir : Ir.Ex) : Prop := PE X e (tN C X.K ir)
theorem tI_list {K : PySem.W.Frag} {ir : Ir.Ex} (hl : ∀ env st v st', Ir.eval C ir env st = .ok v st' → ∃ xs, v = .d (.lst xs)) : ∀ σ H Q, tI C K ir σ H Q → tN C K ir σ H Q := by
  intro σ H Q ⟨ρ, env, st, v, st', rs, re, ev, k⟩
  obtain ⟨xs, rfl⟩ := hl _ _ _ _ ev
  refine ⟨ρ, env, st, xs, st', rs, re, ev, fun ρ' H' a ys x rs' ha hr hh z r => k (ρ'.drop ρ.res) H' _ x.drop (rs'.drop x.rs) (RD.lst hh ?_ z (r.drop' x.rs))⟩
  rintro (q | q)
  · exact rs'.disj a hr q
  · exact rs.fresh ha (.inr q)
theorem tI_newL {K : PySem.W.Frag} {ir : Ir.Ex} : ∀ σ H Q, tI C K (.newL ir) σ H Q → tN C K ir σ H Q := by
  intro σ H Q ⟨ρ, env, st, v, st', rs, re, ev, k⟩
  simp only [Ir.eval] at ev
  obtain ⟨x, s1, e1, ev⟩ := bok ev
  split at ev
  · rename_i xs
    cases ev
    refine ⟨ρ, env, st, xs, s1, rs, re, e1, fun ρ' H' a ys x rs' ha hr hh z r => ?_⟩
    have hn : a ∉ ρ.res := fun q => rs.fresh ha (.inr q)
    have sub : ∀ b, Rho.own ⟨ρ'.ix ++ [some a], ρ.res⟩ b → ρ'.own b := fun b q => by
      rcases q with q | q
      · rcases List.mem_append.mp q with q | q
        · exact .inl q
        · simp at q; subst q; exact .inr hr
      · exact .inr (x.rs b q)
    refine k ⟨ρ'.ix ++ [some a], ρ.res⟩ _ _ (x.cellOf ha hn) (rs'.cellOf x.rs hr hn ⟨ys, hh, z, r.sub sub⟩) ⟨by simp [rs'.len], a, rfl, fun b hb => ?_⟩
    have hb : (ρ'.ix ++ [some a])[s1.length]? = some (some b) := hb
    rw [rs'.len, List.getElem?_append_right (Nat.le_refl _)] at hb
    simp at hb
    exact hb.symm
  · cases ev
theorem se_list {e : Expr} {ir : Ir.Ex} (hl : ∀ env st v st', Ir.eval C ir env st = .ok v st' → ∃ xs, v = .d (.lst xs)) (h : SN X C e ir) : SE X C e ir := pe_imp h (tI_list hl)
theorem se_newL {e : Expr} {ir : Ir.Ex} (h : SN X C e ir) : SE X C e (.newL ir) := pe_imp h tI_newL
/-- a new list, kept aside -/
theorem sn_fin {K : PySem.W.Frag} {ρ ρ1 : Rho} {H H1 : Hp} {st : Ir.Store} {xs : List Ir.D} {ys : List V} {Q : VK} (x : Ext ρ H ρ1 H1) (rs : RS ρ1 K st H1) (r : RDs ρ1 K H1 xs ys) (z : ys.length ≤ sizeLine) {p : Addr} (hp : H1 p = none)
    (k : ∀ ρ' H' a ys, Ext ρ H ρ' H' → RS ρ' K st H' → H a = none → a ∈ ρ'.res → H' a = some (.lst ys) → ys.length ≤ sizeLine → RDs ρ' K H' xs ys → Q (.ref a) H') : Q (.ref p) (upd H1 p (.lst ys)) :=
  k (ρ1.keep p) _ p ys (x.trans (.keep rs hp _)) (rs.keep hp _) (x.al p hp) List.mem_cons_self upd_same z (r.mono (.keep rs hp _))
theorem sn_lst {es : List Expr} {is : List Ir.Ex} {pos : Pos} (hs : SEs X C es is) (hl : is.length ≤ sizeLine := by decide) : SN X C (.List es pos) (.lst is) := by
  refine pe_imp (pe_lst hs) fun σ H Q ⟨ρ, env, st, v, st', rs, re, ev, k⟩ => ?_
  simp only [Ir.eval] at ev
  obtain ⟨vs, s1, e1, ev⟩ := bok ev
  obtain ⟨ds, e2, ev⟩ := ook ev
  cases ev
  refine ⟨ρ, env, st, vs, st', rs, re, e1, fun ρ1 H1 XS x1 rs1 rx => ?_⟩
  have hlen : XS.length ≤ sizeLine := by rw [← rx.length, evals_len _ _ _ _ _ e1]; exact hl
  exact ⟨hlen, fun p hp => sn_fin x1 rs1 (rx.ds e2) hlen hp k⟩
theorem is_lst {is : List Ir.Ex} : ∀ env st v st', Ir.eval C (.lst is) env st = .ok v st' → ∃ xs, v = .d (.lst xs) := fun env st v st' ev => by
  simp only [Ir.eval] at ev
  obtain ⟨vs, s1, e1, ev⟩ := bok ev
  obtain ⟨ds, e2, ev⟩ := ook ev
  cases ev
  exact ⟨_, rfl⟩
theorem se_newD {pos : Pos} : SE X C (.Dict [] [] pos) .newD := by
  refine pe_imp pe_dnewK fun σ H Q ⟨ρ, env, st, v, st', rs, re, ev, k⟩ => fun p hp => ?_
  simp only [Ir.eval] at ev
  cases ev
  refine k (ρ.push p) _ _ (.push rs hp _) (rs.push hp ⟨[], upd_same, Nat.zero_le _, .nil⟩) ⟨by simp [Rho.push, rs.len], p, rfl, fun b hb => ?_⟩
  simp only [Rho.push] at hb
  rw [rs.len, List.getElem?_append_right (Nat.le_refl _)] at hb
  simp at hb
  exact hb.symm
/-- a cell given out as data -/
theorem se_frz {e : Expr} {ir : Ir.Ex} (h : SE X C e ir) : SE X C e (.frz ir) := by
  refine pe_imp h fun σ H Q ⟨ρ, env, st, v, st', rs, re, ev, k⟩ => ?_
  simp only [Ir.eval] at ev
  obtain ⟨x, s1, e1, ev⟩ := bok ev
  split at ev
  · rename_i n
    split at ev
    · rename_i xs hx
      cases ev
      refine ⟨ρ, env, st, _, s1, rs, re, e1, fun ρ1 H1 X1 x1 rs1 rx => ?_⟩
      obtain ⟨a, e2, e3, ys, h1, h2, h3⟩ := RV.cell rs1 rx hx (by simp)
      subst e2
      have hn : n < ρ1.ix.length := (List.getElem?_eq_some_iff.mp e3).1
      exact k _ _ _ (x1.trans (.kill ρ1 H1 n)) (rs1.kill hn) (RD.lst h1 (kill_notin rs1 e3) h2 (h3.mono (.kill ρ1 H1 n)))
    · cases ev
  · cases ev
end Snd

namespace Snd
open PySem PySem.Spec PyProof.Rows L2
/-! ### data as the library's data -/
mutual
def toPy : Ir.D → PyData
  | .non => .none
  | .bool b => .bool b
  | .int i => .int i
  | .str s => .str (Str.ofString s)
  | .tup xs => .tuple (toPys xs)
  | .lst xs => .list (toPys xs)
  | .ro _ => .none
def toPys : List Ir.D → List PyData
  | [] => []
  | x :: xs => toPy x :: toPys xs
end
theorem ofString_inj {x y : String} (h : Str.ofString x = Str.ofString y) : x = y := by
  rw [Str.ofString_eq_toList, Str.ofString_eq_toList] at h
  have h1 := congrArg (fun z : Str => z.cps.toList) h
  simp only at h1
  have h2 : x.toList.map Char.toNat = y.toList.map Char.toNat := by simpa using h1
  have inj : ∀ a b : Char, a.toNat = b.toNat → a = b := fun a b e => Char.ext (UInt32.toNat_inj.mp e)
  have h3 : x.toList = y.toList := (List.map_inj_right inj).mp h2
  exact String.toList_inj.mp h3
theorem ofString_beq (x y : String) : (Str.ofString x == Str.ofString y) = decide (x = y) := by
  by_cases e : x = y
  · subst e; simp
  · have : ¬ Str.ofString x = Str.ofString y := fun h => e (ofString_inj h)
    rw [decide_eq_false e]
    simpa using this
mutual
theorem eqv_toPy : ∀ (x y : Ir.D), x.dep < 1000 → y.dep < 1000 → PyData.eqv (toPy x) (toPy y) = x.eqv y
  | .tup xs, .tup ys, hx, hy => by
    simp only [Ir.D.dep] at hx hy
    simp only [toPy, PyData.eqv, Ir.D.eqv]
    exact eqv_toPys xs ys (by omega) (by omega)
  | .lst xs, .lst ys, hx, hy => by
    simp only [Ir.D.dep] at hx hy
    simp only [toPy, PyData.eqv, Ir.D.eqv]
    exact eqv_toPys xs ys (by omega) (by omega)
  | .str a, .str b, _, _ => by simp only [toPy, PyData.eqv, Ir.D.eqv, ofString_beq]
  | .ro _, _, hx, _ => by simp [Ir.D.dep] at hx
  | .non, .ro _, _, hy => by simp [Ir.D.dep] at hy
  | .bool _, .ro _, _, hy => by simp [Ir.D.dep] at hy
  | .int _, .ro _, _, hy => by simp [Ir.D.dep] at hy
  | .str _, .ro _, _, hy => by simp [Ir.D.dep] at hy
  | .tup _, .ro _, _, hy => by simp [Ir.D.dep] at hy
  | .lst _, .ro _, _, hy => by simp [Ir.D.dep] at hy
  | .non, .non, _, _ => by simp [toPy, PyData.eqv, Ir.D.eqv]
  | .non, .bool _, _, _ => by simp [toPy, PyData.eqv, Ir.D.eqv]
  | .non, .int _, _, _ => by simp [toPy, PyData.eqv, Ir.D.eqv]
  | .non, .str _, _, _ => by simp [toPy, PyData.eqv, Ir.D.eqv]
  | .non, .tup _, _, _ => by simp [toPy, PyData.eqv, Ir.D.eqv]
  | .non, .lst _, _, _ => by simp [toPy, PyData.eqv, Ir.D.eqv]
  | .bool _, .non, _, _ => by simp [toPy, PyData.eqv, Ir.D.eqv]
  | .bool _, .bool _, _, _ => by simp [toPy, PyData.eqv, Ir.D.eqv]
  | .bool _, .int _, _, _ => by simp [toPy, PyData.eqv, Ir.D.eqv]
  | .bool _, .str _, _, _ => by simp [toPy, PyData.eqv, Ir.D.eqv]
  | .bool _, .tup _, _, _ => by simp [toPy, PyData.eqv, Ir.D.eqv]
  | .bool _, .lst _, _, _ => by simp [toPy, PyData.eqv, Ir.D.eqv]
  | .int _, .non, _, _ => by simp [toPy, PyData.eqv, Ir.D.eqv]
  | .int _, .bool _, _, _ => by simp [toPy, PyData.eqv, Ir.D.eqv]
  | .int _, .int _, _, _ => by simp [toPy, PyData.eqv, Ir.D.eqv]
  | .int _, .str _, _, _ => by simp [toPy, PyData.eqv, Ir.D.eqv]
  | .int _, .tup _, _, _ => by simp [toPy, PyData.eqv, Ir.D.eqv]
  | .int _, .lst _, _, _ => by simp [toPy, PyData.eqv, Ir.D.eqv]
  | .str _, .non, _, _ => by simp [toPy, PyData.eqv, Ir.D.eqv]
  | .str _, .bool _, _, _ => by simp [toPy, PyData.eqv, Ir.D.eqv]
  | .str _, .int _, _, _ => by simp [toPy, PyData.eqv, Ir.D.eqv]
  | .str _, .tup _, _, _ => by simp [toPy, PyData.eqv, Ir.D.eqv]
  | .str _, .lst _, _, _ => by simp [toPy, PyData.eqv, Ir.D.eqv]
  | .tup _, .non, _, _ => by simp [toPy, PyData.eqv, Ir.D.eqv]
  | .tup _, .bool _, _, _ => by simp [toPy, PyData.eqv, Ir.D.eqv]
  | .tup _, .int _, _, _ => by simp [toPy, PyData.eqv, Ir.D.eqv]
  | .tup _, .str _, _, _ => by simp [toPy, PyData.eqv, Ir.D.eqv]
  | .tup _, .lst _, _, _ => by simp [toPy, PyData.eqv, Ir.D.eqv]
  | .lst _, .non, _, _ => by simp [toPy, PyData.eqv, Ir.D.eqv]
  | .lst _, .bool _, _, _ => by simp [toPy, PyData.eqv, Ir.D.eqv]
  | .lst _, .int _, _, _ => by simp [toPy, PyData.eqv, Ir.D.eqv]
  | .lst _, .str _, _, _ => by simp [toPy, PyData.eqv, Ir.D.eqv]
  | .lst _, .tup _, _, _ => by simp [toPy, PyData.eqv, Ir.D.eqv]
theorem eqv_toPys : ∀ (xs ys : List Ir.D), Ir.D.depAll xs < 1000 → Ir.D.depAll ys < 1000 → PyData.eqvAll (toPys xs) (toPys ys) = Ir.D.eqvAll xs ys
  | [], [], _, _ => by simp [toPys, PyData.eqvAll, Ir.D.eqvAll]
  | [], _ :: _, _, _ => by simp [toPys, PyData.eqvAll, Ir.D.eqvAll]
  | _ :: _, [], _, _ => by simp [toPys, PyData.eqvAll, Ir.D.eqvAll]
  | x :: xs, y :: ys, hx, hy => by
    simp only [Ir.D.depAll] at hx hy
    simp only [toPys, PyData.eqvAll, Ir.D.eqvAll]
    rw [eqv_toPy x y (by omega) (by omega), eqv_toPys xs ys (by omega) (by omega)]
end
mutual
theorem dep_toPy : ∀ x : Ir.D, x.dep < 1000 → (toPy x).depth = x.dep
  | .non, _ => by simp [toPy, PyData.depth, Ir.D.dep]
  | .bool _, _ => by simp [toPy, PyData.depth, Ir.D.dep]
  | .int _, _ => by simp [toPy, PyData.depth, Ir.D.dep]
  | .str _, _ => by simp [toPy, PyData.depth, Ir.D.dep]
  | .tup xs, h => by simp only [Ir.D.dep] at h; simp only [toPy, PyData.depth, Ir.D.dep]; rw [dep_toPys xs (by omega)]
  | .lst xs, h => by simp only [Ir.D.dep] at h; simp only [toPy, PyData.depth, Ir.D.dep]; rw [dep_toPys xs (by omega)]
  | .ro _, h => by simp [Ir.D.dep] at h
theorem dep_toPys : ∀ xs : List Ir.D, Ir.D.depAll xs < 1000 → PyData.depthAll (toPys xs) = Ir.D.depAll xs
  | [], _ => by simp [toPys, PyData.depthAll, Ir.D.depAll]
  | x :: xs, h => by
    simp only [Ir.D.depAll] at h
    simp only [toPys, PyData.depthAll, Ir.D.depAll]
    rw [dep_toPy x (by omega), dep_toPys xs (by omega)]
end
theorem strOk_ofString (s : String) : PyData.strOk (Str.ofString s) = true := by
  rw [Str.ofString_eq_toList]
  unfold PyData.strOk
  simp only [List.all_toArray, List.all_eq_true]
  intro x hx
  simp only [List.mem_map] at hx
  obtain ⟨c, _, rfl⟩ := hx
  have h : c.toNat < 0xD800 ∨ (0xDFFF < c.toNat ∧ c.toNat < 0x110000) := c.valid
  have h2 : c.toNat < 0x110000 := by omega
  exact decide_eq_true h2
mutual
theorem lay_toPy : ∀ x : Ir.D, (toPy x).canLay0 = true
  | .non => by simp [toPy, PyData.canLay0]
  | .bool _ => by simp [toPy, PyData.canLay0]
  | .int _ => by simp [toPy, PyData.canLay0]
  | .str s => by simp [toPy, PyData.canLay0, strOk_ofString]
  | .tup xs => by simp only [toPy, PyData.canLay0]; exact lay_toPys xs
  | .lst xs => by simp only [toPy, PyData.canLay0]; exact lay_toPys xs
  | .ro _ => by simp [toPy, PyData.canLay0]
theorem lay_toPys : ∀ xs : List Ir.D, PyData.canLayAll0 (toPys xs) = true
  | [] => by simp [toPys, PyData.canLayAll0]
  | x :: xs => by simp [toPys, PyData.canLayAll0, lay_toPy x, lay_toPys xs]
end
theorem shaped_toPy {x : Ir.D} (h : Ir.fine x = true) : SeqAt.shaped (toPy x) = true := by
  have h1 : x.dep ≤ 64 := by simpa [Ir.fine] using h
  unfold SeqAt.shaped
  rw [lay_toPy, dep_toPy x (by omega)]
  simpa using h1
section
variable {ρ : Rho} {K : PySem.W.Frag} {H : Hp}
mutual
theorem RD.dp : ∀ {x : Ir.D} {v : V}, x.dep < 1000 → RD ρ K H x v → Dp K H v (toPy x)
  | _, _, _, .non => .non
  | _, _, _, .bool b => .bl b
  | _, _, _, .int i => .int i
  | _, _, _, .str s => .str _
  | _, _, h, .tup t z r => .tup t.sq (RDs.dp (by simp only [Ir.D.dep] at h; omega) r)
  | _, _, h, .lst t n z r => .lst (SqL.of t) (RDs.dp (by simp only [Ir.D.dep] at h; omega) r)
  | _, _, h, .ro _ _ _ => by simp [Ir.D.dep] at h
theorem RDs.dp : ∀ {xs : List Ir.D} {vs : List V}, Ir.D.depAll xs < 1000 → RDs ρ K H xs vs → DpAll K H vs (toPys xs)
  | _, _, _, .nil => .nil
  | _, _, h, .cons a r => .cons (RD.dp (by simp only [Ir.D.depAll] at h; omega) a) (RDs.dp (by simp only [Ir.D.depAll] at h; omega) r)
end
theorem VD.dp {x : Ir.D} {v : V} (h : x.dep < 1000) (r : VD ρ K H x v) : Dp K H v (toPy x) := by
  cases x with
  | lst xs =>
    obtain ⟨a, ys, rfl, h1, h2, h3⟩ := r
    exact .lst (SqL.of h1) (h3.dp (by simp only [Ir.D.dep] at h; omega))
  | non => exact RD.dp h r
  | bool b => exact RD.dp h r
  | int i => exact RD.dp h r
  | str s => exact RD.dp h r
  | tup xs => exact RD.dp h r
  | ro xs => exact RD.dp h r
end
theorem fine_dep {x : Ir.D} (h : Ir.fine x = true) : x.dep < 1000 := by
  have h1 : x.dep ≤ 64 := by simpa [Ir.fine] using h
  omega
/-! ### operators -/
variable {X : Cx} {C : Ir.Calls}
theorem opR_or {f : Value → Value → Sem Value} {r r' : R2} (h : OpR X f r) (h' : OpR X f r') : OpR X f (fun x y H Q => r x y H Q ∨ r' x y H Q) := by
  intro pins s σ H x y v u Q I rx ry q
  rcases q with q | q
  · exact h pins s σ H x y v u Q I rx ry q
  · exact h' pins s σ H x y v u Q I rx ry q
theorem opR_imp {f : Value → Value → Sem Value} {r r' : R2} (h : OpR X f r) (w : ∀ x y H Q, r' x y H Q → r x y H Q) : OpR X f r' := fun pins s σ H x y v u Q I rx ry q => h pins s σ H x y v u Q I rx ry (w _ _ _ _ q)
/-- data in, data out -/
def rBin (K : PySem.W.Frag) (o : Ir.Op) : R2 := fun x y H Q => ∃ ρ st p q d, RS ρ K st H ∧ VD ρ K H p x ∧ VD ρ K H q y ∧ Ir.D.bin o p q = some d ∧ ∀ ρ' H' z, Ext ρ H ρ' H' → RS ρ' K st H' → RD ρ' K H' d z → Q z H'
theorem RD.int_inv {ρ : Rho} {K : PySem.W.Frag} {H : Hp} {i : Int} {v : V} (h : RD ρ K H (.int i) v) : v = .int i := by cases h; rfl
theorem RD.str_inv {ρ : Rho} {K : PySem.W.Frag} {H : Hp} {i : String} {v : V} (h : RD ρ K H (.str i) v) : v = .str (Str.ofString i) := by cases h; rfl
theorem RD.bool_inv {ρ : Rho} {K : PySem.W.Frag} {H : Hp} {i : Bool} {v : V} (h : RD ρ K H (.bool i) v) : v = .bl i := by cases h; rfl
theorem RD.non_inv {ρ : Rho} {K : PySem.W.Frag} {H : Hp} {v : V} (h : RD ρ K H .non v) : v = .non := by cases h; rfl
theorem RD.tup_inv {ρ : Rho} {K : PySem.W.Frag} {H : Hp} {xs : List Ir.D} {v : V} (h : RD ρ K H (.tup xs) v) : ∃ a ys, v = .ref a ∧ TpAt ρ K H a ys ∧ ys.length ≤ sizeLine ∧ RDs ρ K H xs ys := by
  cases h with
  | tup h z r => exact ⟨_, _, rfl, h, z, r⟩
theorem RD.ro_inv {ρ : Rho} {K : PySem.W.Frag} {H : Hp} {xs : List Ir.D} {v : V} (h : RD ρ K H (.ro xs) v) : ∃ a ys, v = .ref a ∧ LrAt ρ K H a ys ∧ ys.length ≤ sizeLine ∧ RDs ρ K H xs ys := by
  cases h with
  | ro h z r => exact ⟨_, _, rfl, h, z, r⟩
theorem lim_eq : Ir.LIM = sizeLine := by rw [Ir.LIM_eq]; decide
theorem bin_int {o : Ir.Op} {op : Operator} {g : Int → Int → Int} {Cd : Int → Int → Prop} (h : OpR X (binaryOp op) (rI Cd fun i j => .int (g i j)))
    (hd : ∀ p q d, Ir.D.bin o p q = some d → ∃ i j, p = .int i ∧ q = .int j ∧ Cd i j ∧ d = .int (g i j)) : OpR X (binaryOp op) (rBin X.K o) := by
  refine opR_imp h fun x y H Q ⟨ρ, st, p, q, d, rs, hp, hq, hb, k⟩ => ?_
  obtain ⟨i, j, rfl, rfl, hc, rfl⟩ := hd p q d hb
  exact ⟨i, j, RD.int_inv hp, RD.int_inv hq, hc, k ρ H _ (.refl _ _) rs (.int _)⟩
theorem op_sub0 : OpR X (binaryOp .Sub) (rI (fun _ _ => True) fun i j => .int (i - j)) := opI fun _ _ _ _ _ _ _ _ q => sub_int q
theorem op_add0 : OpR X (binaryOp .Add) (rI (fun _ _ => True) fun i j => .int (i + j)) := opI fun _ _ _ _ _ _ _ _ q => add_int q
theorem bin_sub : OpR X (binaryOp .Sub) (rBin X.K .sub) := bin_int op_sub0 fun p q d h => by
  cases p <;> cases q <;> simp [Ir.D.bin] at h
  exact ⟨_, _, rfl, rfl, trivial, h.symm⟩
theorem big_lt {i : Int} (h : Ir.bigOk i = true) : i.natAbs < 2 ^ 4000 := by
  unfold Ir.bigOk at h
  exact of_decide_eq_true h
theorem bin_mul : OpR X (binaryOp .Mult) (rBin X.K .mul) := by
  refine opR_imp (opR_or op_mulW op_mul) fun x y H Q ⟨ρ, st, p, q, d, rs, hp, hq, hb, k⟩ => ?_
  cases p <;> cases q <;> simp only [Ir.D.bin, reduceCtorEq] at hb
  rename_i i j
  split at hb
  · rename_i hc
    cases hb
    have kk := k ρ H _ (.refl _ _) rs (.int (i * j))
    rw [Bool.or_eq_true, Bool.and_eq_true, Bool.or_eq_true] at hc
    rcases hc with hc | hc | hc
    · exact .inl ⟨i, j, RD.int_inv hp, RD.int_inv hq, wide_mul (big_lt hc.1) (big_lt hc.2) (by decide) (by decide) (by decide), kk⟩
    · exact .inr ⟨i, j, RD.int_inv hp, RD.int_inv hq, .inl (of_decide_eq_true hc), kk⟩
    · exact .inr ⟨i, j, RD.int_inv hp, RD.int_inv hq, .inr (of_decide_eq_true hc), kk⟩
  · cases hb
theorem bin_fdiv : OpR X (binaryOp .FloorDiv) (rBin X.K .fdiv) := bin_int op_fdivW fun p q d h => by
  cases p <;> cases q <;> simp only [Ir.D.bin, reduceCtorEq] at h
  rename_i i j
  split at h
  · rename_i hc
    rw [Bool.and_eq_true] at hc
    cases h
    exact ⟨_, _, rfl, rfl, wide_div (of_decide_eq_true hc.1) (big_lt hc.2) (by decide) (by decide), rfl⟩
  · cases h
theorem bin_mod : OpR X (binaryOp .Mod) (rBin X.K .mod) := bin_int op_mod fun p q d h => by
  cases p <;> cases q <;> simp only [Ir.D.bin, reduceCtorEq] at h
  rename_i i j
  split at h
  · rename_i hc
    cases h
    exact ⟨_, _, rfl, rfl, hc, rfl⟩
  · cases h
theorem bits_of {i : Int} {n : Nat} (h : i.natAbs < 2 ^ n) : Builtin.Int.intBits i ≤ n := by
  unfold Builtin.Int.intBits
  split
  · exact Nat.zero_le _
  · rename_i h0
    have : i.natAbs ≠ 0 := by
      intro z
      apply h0
      simpa using z
    exact (Nat.log2_lt this).mpr h
theorem op_powB : OpR X (binaryOp .Pow) (rI (fun i j => 0 ≤ j ∧ j ≤ 100 ∧ i.natAbs < 2 ^ 4000) fun i j => .int (i ^ j.toNat)) := opI fun i j _ _ _ _ _ hc q => pow_int hc.1 (by
  have h1 := bits_of hc.2.2
  have h2 := hc.1
  have h3 := hc.2.1
  have h4 : (Builtin.Int.intBits i : Int) ≤ 4000 := by omega
  calc (Builtin.Int.intBits i : Int) * j ≤ 4000 * j := Int.mul_le_mul_of_nonneg_right h4 h2
    _ ≤ 2 ^ 27 := by omega) q
theorem bin_pow : OpR X (binaryOp .Pow) (rBin X.K .pow) := bin_int op_powB fun p q d h => by
  cases p <;> cases q <;> simp only [Ir.D.bin, reduceCtorEq] at h
  rename_i i j
  split at h
  · rename_i hc
    rw [Bool.and_eq_true, Bool.and_eq_true] at hc
    cases h
    exact ⟨_, _, rfl, rfl, ⟨of_decide_eq_true hc.1.1, of_decide_eq_true hc.1.2, big_lt hc.2⟩, rfl⟩
  · cases h
theorem ofString_app (x y : String) : Str.ofString x ++ Str.ofString y = Str.ofString (x ++ y) := by
  have h : ∀ a b : Str, a ++ b = ⟨a.cps ++ b.cps⟩ := fun a b => by first | rfl | (simp [HAppend.hAppend, Append.append]; rfl)
  rw [Str.ofString_eq_toList, Str.ofString_eq_toList, Str.ofString_eq_toList, h]
  simp
theorem ofString_len (x : String) : (Str.ofString x).length = x.length := by
  rw [Str.ofString_eq_toList]
  show ((x.toList.map Char.toNat).toArray).size = x.length
  simp [String.length_toList]
theorem bin_add : OpR X (binaryOp .Add) (rBin X.K .add) := by
  refine opR_imp (opR_or (opR_or op_add0 op_add_str) (opR_or op_catA op_cat)) fun x y H Q ⟨ρ, st, p, q, d, rs, hp, hq, hb, k⟩ => ?_
  cases p <;> cases q <;> simp only [Ir.D.bin, reduceCtorEq] at hb
  · cases hb
    exact .inl (.inl ⟨_, _, RD.int_inv hp, RD.int_inv hq, trivial, k ρ H _ (.refl _ _) rs (.int _)⟩)
  · rename_i a b
    split at hb
    · rename_i hl
      cases hb
      refine .inl (.inr ⟨_, _, RD.str_inv hp, RD.str_inv hq, by rw [ofString_len, ofString_len, ← lim_eq]; exact hl, ?_⟩)
      rw [ofString_app]
      exact k ρ H _ (.refl _ _) rs (.str _)
    · cases hb
  · rename_i xs ys
    split at hb
    · rename_i hl
      cases hb
      obtain ⟨a, as, rfl, ta, za, ra⟩ := RD.tup_inv hp
      obtain ⟨b, bs, rfl, tb, zb, rb⟩ := RD.tup_inv hq
      have hl2 : as.length + bs.length ≤ sizeLine := by rw [← ra.length, ← rb.length, ← lim_eq]; exact hl
      refine .inr (.inl ⟨a, b, as, bs, rfl, rfl, ta.sq, tb.sq, hl2, fun z => ?_, fun _ z => ?_, fun _ _ p hp => ?_⟩)
      · subst z
        cases ra
        exact k ρ H _ (.refl _ _) rs (.tup tb zb rb)
      · subst z
        cases rb
        rw [List.append_nil] at k
        exact k ρ H _ (.refl _ _) rs (.tup ta za ra)
      · exact k ρ _ _ (.grow rs hp _) (rs.grow hp _) (grow_tup rs (ra.append rb) (by rw [List.length_append]; exact hl2) hp)
    · cases hb
  · rename_i xs ys
    split at hb
    · rename_i hl
      cases hb
      obtain ⟨a, as, rfl, ha, za, ra⟩ := hp
      obtain ⟨b, bs, rfl, hb', zb, rb⟩ := hq
      have hl2 : as.length + bs.length ≤ sizeLine := by rw [← ra.length, ← rb.length, ← lim_eq]; exact hl
      refine .inr (.inr ⟨a, b, as, bs, rfl, rfl, ha, hb', hl2, fun p hp => ?_⟩)
      exact k ρ _ _ (.grow rs hp _) (rs.grow hp _) (grow_lst rs (ra.append rb) (by rw [List.length_append]; exact hl2) hp)
    · cases hb
theorem se_bin {a b : Expr} {op : Operator} {o : Ir.Op} {ia ib : Ir.Ex} {pos : Pos} (ho : OpR X (binaryOp op) (rBin X.K o)) (ha : SE X C a ia) (hb : SE X C b ib) : SE X C (.BinOp a op b pos) (.bin o ia ib) := by
  refine pe_imp (pe_op ho ha hb) fun σ H Q ⟨ρ, env, st, v, st', rs, re, ev, k⟩ => ?_
  simp only [Ir.eval] at ev
  obtain ⟨x, s1, e1, ev⟩ := bok ev
  obtain ⟨y, s2, e2, ev⟩ := bok ev
  obtain ⟨p, e3, ev⟩ := ook ev
  obtain ⟨q, e4, ev⟩ := ook ev
  obtain ⟨d, e5, ev⟩ := ook ev
  cases ev
  exact ⟨ρ, env, st, x, s1, rs, re, e1, fun ρ1 H1 X1 x1 rs1 rx => ⟨ρ1, env, s1, y, st', rs1, re.mono x1, e2, fun ρ2 H2 Y x2 rs2 ry =>
    ⟨ρ2, st', p, q, d, rs2, .deref rs2 (rx.mono x2) e3, .deref rs2 ry e4, e5, fun ρ' H' z x3 rs3 rz => k ρ' H' z ((x1.trans x2).trans x3) rs3 rz⟩⟩⟩
theorem se_neg {a : Expr} {ia : Ir.Ex} {pos : Pos} (ha : SE X C a ia) : SE X C (.UnaryOp .USub a pos) (.neg ia) := by
  refine pe_imp (pe_un un_neg ha) fun σ H Q ⟨ρ, env, st, v, st', rs, re, ev, k⟩ => ?_
  simp only [Ir.eval] at ev
  obtain ⟨x, s1, e1, ev⟩ := bok ev
  obtain ⟨i, e2, ev⟩ := ook ev
  cases ev
  refine ⟨ρ, env, st, x, st', rs, re, e1, fun ρ1 H1 X1 x1 rs1 rx => ?_⟩
  have : x = .d (.int i) := by
    cases x with
    | ref n => simp [Ir.asI] at e2
    | d y => cases y <;> simp [Ir.asI] at e2; subst e2; rfl
  subst this
  exact ⟨i, RD.int_inv rx, k ρ1 H1 _ x1 rs1 (.int _)⟩
end Snd

namespace Snd
open PySem PySem.Spec PyProof.Rows L2
variable {X : Cx} {C : Ir.Calls}
/-! ### comparisons -/
def rCmp (K : PySem.W.Frag) (o : Ir.Cmp) : R2 := fun x y H Q => ∃ ρ st p q b, RS ρ K st H ∧ RV ρ K H p x ∧ RV ρ K H q y ∧ Ir.cmpV o st p q = some b ∧ Q (.bl b) H
theorem cmpV_plain {o : Ir.Cmp} (h : o ≠ .isin ∧ o ≠ .notin ∧ o ≠ .is ∧ o ≠ .isnot ∧ o ≠ .sin ∧ o ≠ .snin) {st : Ir.Store} {p q : Ir.Val} {b : Bool} (e : Ir.cmpV o st p q = some b) : ∃ x y, Ir.deref st p = some x ∧ Ir.deref st q = some y ∧ Ir.D.cmp o x y = some b := by
  obtain ⟨h1, h2, h3, h4, h5, h6⟩ := h
  unfold Ir.cmpV at e
  split at e
  · exact absurd rfl h1
  · exact absurd rfl h2
  · exact absurd rfl h3
  · exact absurd rfl h4
  · exact absurd rfl h5
  · exact absurd rfl h6
  · split at e
    · rename_i a b' ha hb
      exact ⟨a, b', ha, hb, e⟩
    · cases e
theorem cmp_eq {n : Nat} (hr : Room n X.A) : OpR X (compareOp .Eq) (rCmp X.K .eq) := by
  refine opR_imp (op_eqD hr.units) fun x y H Q ⟨ρ, st, p, q, b, rs, hp, hq, hb, k⟩ => ?_
  obtain ⟨a, c, e1, e2, e3⟩ := cmpV_plain (by decide) hb
  simp only [Ir.D.cmp] at e3
  split at e3
  · rename_i hf
    rw [Bool.and_eq_true] at hf
    cases e3
    refine ⟨toPy a, toPy c, (VD.deref rs hp e1).dp (fine_dep hf.1), (VD.deref rs hq e2).dp (fine_dep hf.2), shaped_toPy hf.1, shaped_toPy hf.2, ?_⟩
    rw [eqv_toPy a c (fine_dep hf.1) (fine_dep hf.2)]
    exact k
  · cases e3
theorem cmp_ne {n : Nat} (hr : Room n X.A) : OpR X (compareOp .NotEq) (rCmp X.K .ne) := by
  refine opR_imp (op_neD hr.units) fun x y H Q ⟨ρ, st, p, q, b, rs, hp, hq, hb, k⟩ => ?_
  obtain ⟨a, c, e1, e2, e3⟩ := cmpV_plain (by decide) hb
  simp only [Ir.D.cmp] at e3
  split at e3
  · rename_i hf
    rw [Bool.and_eq_true] at hf
    cases e3
    refine ⟨toPy a, toPy c, (VD.deref rs hp e1).dp (fine_dep hf.1), (VD.deref rs hq e2).dp (fine_dep hf.2), shaped_toPy hf.1, shaped_toPy hf.2, ?_⟩
    rw [eqv_toPy a c (fine_dep hf.1) (fine_dep hf.2)]
    exact k
  · cases e3
theorem cmp_int {op : CmpOp} {o : Ir.Cmp} {g : Int → Int → Bool} (h : OpR X (compareOp op) (rI0 fun i j => .bl (g i j))) (hp : o ≠ .isin ∧ o ≠ .notin ∧ o ≠ .is ∧ o ≠ .isnot ∧ o ≠ .sin ∧ o ≠ .snin)
    (hd : ∀ p q b, Ir.D.cmp o p q = some b → ∃ i j, p = .int i ∧ q = .int j ∧ b = g i j) : OpR X (compareOp op) (rCmp X.K o) := by
  refine opR_imp h fun x y H Q ⟨ρ, st, p, q, b, rs, rp, rq, hb, k⟩ => ?_
  obtain ⟨a, c, e1, e2, e3⟩ := cmpV_plain hp hb
  obtain ⟨i, j, rfl, rfl, rfl⟩ := hd _ _ _ e3
  exact ⟨i, j, RD.int_inv (VD.deref rs rp e1), RD.int_inv (VD.deref rs rq e2), k⟩
theorem cmp_lt : OpR X (compareOp .Lt) (rCmp X.K .lt) := cmp_int op_lt (by decide) fun p q b h => by
  cases p <;> cases q <;> simp only [Ir.D.cmp, reduceCtorEq] at h
  cases h; exact ⟨_, _, rfl, rfl, rfl⟩
theorem cmp_le : OpR X (compareOp .LtE) (rCmp X.K .le) := cmp_int op_le (by decide) fun p q b h => by
  cases p <;> cases q <;> simp only [Ir.D.cmp, reduceCtorEq] at h
  cases h; exact ⟨_, _, rfl, rfl, rfl⟩
theorem cmp_gt : OpR X (compareOp .Gt) (rCmp X.K .gt) := cmp_int op_gt (by decide) fun p q b h => by
  cases p <;> cases q <;> simp only [Ir.D.cmp, reduceCtorEq] at h
  cases h; exact ⟨_, _, rfl, rfl, rfl⟩
theorem cmp_ge : OpR X (compareOp .GtE) (rCmp X.K .ge) := cmp_int op_ge (by decide) fun p q b h => by
  cases p <;> cases q <;> simp only [Ir.D.cmp, reduceCtorEq] at h
  cases h; exact ⟨_, _, rfl, rfl, rfl⟩
theorem RD.non_iff {ρ : Rho} {K : PySem.W.Frag} {H : Hp} {x : Ir.D} {v : V} (h : RD ρ K H x v) : decide (v = .non) = (match x with | .non => true | _ => false) := by
  cases h <;> simp
theorem isNon_ok {p q : Ir.Val} {b : Bool} {ρ : Rho} {K : PySem.W.Frag} {H : Hp} {x y : V} (rp : RV ρ K H p x) (rq : RV ρ K H q y) (e : Ir.isNon p q = some b) : (y = .non ∧ b = decide (x = .non)) ∨ ∃ u w, x = .bl u ∧ y = .bl w ∧ b = decide (u = w) := by
  unfold Ir.isNon at e
  split at e
  · cases e
    obtain ⟨_, a, rfl, _⟩ := rp
    exact .inl ⟨RD.non_inv rq, by simp⟩
  · rename_i u
    refine .inl ⟨RD.non_inv rq, ?_⟩
    rw [RD.non_iff rp]
    cases u <;> simpa using e.symm
  · cases e
    exact .inr ⟨_, _, RD.bool_inv rp, RD.bool_inv rq, rfl⟩
  · cases e
theorem cmp_is : OpR X (compareOp .Is) (rCmp X.K .is) := opR_imp (opR_or op_isN op_is_bl) fun x y H Q ⟨ρ, st, p, q, b, rs, hp, hq, hb, k⟩ => by
  rcases isNon_ok hp hq (show Ir.isNon p q = some b from hb) with ⟨h1, h2⟩ | ⟨u, w, h1, h2, h3⟩
  · exact .inl ⟨h1, by rw [← h2]; exact k⟩
  · exact .inr ⟨u, w, h1, h2, by rw [← h3]; exact k⟩
theorem cmp_isnot : OpR X (compareOp .IsNot) (rCmp X.K .isnot) := opR_imp (opR_or op_notN op_isnot_bl) fun x y H Q ⟨ρ, st, p, q, b, rs, hp, hq, hb, k⟩ => by
  have hb : (Ir.isNon p q).map (!·) = some b := hb
  simp only [Option.map_eq_some_iff] at hb
  obtain ⟨c, hc, rfl⟩ := hb
  rcases isNon_ok hp hq hc with ⟨h1, h2⟩ | ⟨u, w, h1, h2, h3⟩
  · exact .inl ⟨h1, by rw [← h2]; exact k⟩
  · exact .inr ⟨u, w, h1, h2, by rw [← h3]; exact k⟩
/-- what two expressions give, then a relation over both -/
theorem tI_two {a b : Ir.Ex} {K : PySem.W.Frag} {R : V → V → Hp → Prop} {σ : L2.St} {H : Hp} {ρ : Rho} {env : Ir.Env} {st s1 s2 : Ir.Store} {x y : Ir.Val} (rs : RS ρ K st H) (re : REnv ρ K H env σ) (e1 : Ir.eval C a env st = .ok x s1) (e2 : Ir.eval C b env s1 = .ok y s2)
    (k : ∀ ρ' H' X Y, Ext ρ H ρ' H' → RS ρ' K s2 H' → RV ρ' K H' x X → RV ρ' K H' y Y → R X Y H') : tI C K a σ H fun X H1 => tI C K b σ H1 fun Y H2 => R X Y H2 :=
  ⟨ρ, env, st, x, s1, rs, re, e1, fun ρ1 H1 X1 x1 rs1 rx => ⟨ρ1, env, s1, y, s2, rs1, re.mono x1, e2, fun ρ2 H2 Y x2 rs2 ry => k ρ2 H2 X1 Y (x1.trans x2) rs2 (rx.mono x2) ry⟩⟩
theorem se_cmp {a b : Expr} {op : CmpOp} {o : Ir.Cmp} {ia ib : Ir.Ex} {pos : Pos} (ho : OpR X (compareOp op) (rCmp X.K o)) (ha : SE X C a ia) (hb : SE X C b ib) (hm : behindInMarks op b = false := by first | exact nomark _ | rfl) : SE X C (.Compare a [op] [b] pos) (.cmp o ia ib) := by
  refine pe_imp (pe_cmpR ho ha hb hm) fun σ H Q ⟨ρ, env, st, v, st', rs, re, ev, k⟩ => ?_
  simp only [Ir.eval] at ev
  obtain ⟨x, s1, e1, ev⟩ := bok ev
  obtain ⟨y, s2, e2, ev⟩ := bok ev
  obtain ⟨r, e3, ev⟩ := ook ev
  cases ev
  exact tI_two rs re e1 e2 fun ρ' H' X Y x1 rs1 rx ry => ⟨ρ', _, x, y, r, rs1, rx, ry, e3, k ρ' H' _ x1 rs1 (.bool r)⟩
theorem st_val {e : Expr} {ir : Ir.Ex} (h : SE X C e ir) (he : ∀ whole, isTrue e X.env whole = (do let v ← whole; standAt e.pos; holding [v] (truthy v)) := by intro _; rfl) : ST X C e ir :=
  pt_imp (pt_val h he) fun σ H Q ⟨ρ, env, st, b, st', rs, re, ev, k⟩ => ⟨ρ, env, st, _, st', rs, re, ev, fun ρ' H' x x1 rs1 rx => ⟨b, RD.bool_inv rx, k ρ' H' x1 rs1⟩⟩
theorem st_cmp {a b : Expr} {op : CmpOp} {o : Ir.Cmp} {ia ib : Ir.Ex} {pos : Pos} (ho : OpR X (compareOp op) (rCmp X.K o)) (ha : SE X C a ia) (hb : SE X C b ib) (hm : behindInMarks op b = false := by first | exact nomark _ | rfl) : ST X C (.Compare a [op] [b] pos) (.cmp o ia ib) := by
  refine pt_imp (pt_cmpR ho ha hb hm) fun σ H Q ⟨ρ, env, st, v, st', rs, re, ev, k⟩ => ?_
  simp only [Ir.eval] at ev
  obtain ⟨x, s1, e1, ev⟩ := bok ev
  obtain ⟨y, s2, e2, ev⟩ := bok ev
  obtain ⟨r, e3, ev⟩ := ook ev
  cases ev
  exact tI_two rs re e1 e2 fun ρ' H' X Y x1 rs1 rx ry => ⟨ρ', _, x, y, _, rs1, rx, ry, e3, _, rfl, k ρ' H' x1 rs1⟩
/-! ### in a list, a tuple, a dict -/
theorem RK.kv {ρ : Rho} {K : PySem.W.Frag} {H : Hp} {d : Ir.D} {v : V} (h : RD ρ K H d v) (k : d.key = true) : ∃ k', RK d k' ∧ v = kV k' := by
  cases h <;> simp only [Ir.D.key, Bool.false_eq_true] at k
  · exact ⟨.inl _, rfl, rfl⟩
  · exact ⟨.inr _, rfl, rfl⟩
theorem RK.beq : ∀ {a b : Ir.D} {x y : Key}, RK a x → RK b y → a.eqv b = decide (x = y)
  | .int i, .int j, _, _, rfl, rfl => by simp only [Ir.D.eqv]; rw [key_ll]
  | .int i, .str j, _, _, rfl, rfl => by simp only [Ir.D.eqv]; rw [key_lr]
  | .str i, .int j, _, _, rfl, rfl => by simp only [Ir.D.eqv]; rw [key_rl]
  | .str i, .str j, _, _, rfl, rfl => by
    simp only [Ir.D.eqv]; rw [key_rr]
    by_cases e : i = j
    · subst e; simp
    · have : ¬ Str.ofString i = Str.ofString j := fun h => e (ofString_inj h)
      simp [e, this]
  | .non, _, _, _, h, _ => h.elim
  | .bool _, _, _, _, h, _ => h.elim
  | .tup _, _, _, _, h, _ => h.elim
  | .lst _, _, _, _, h, _ => h.elim
  | .ro _, _, _, _, h, _ => h.elim
  | .int _, .non, _, _, _, h => h.elim
  | .int _, .bool _, _, _, _, h => h.elim
  | .int _, .tup _, _, _, _, h => h.elim
  | .int _, .lst _, _, _, _, h => h.elim
  | .int _, .ro _, _, _, _, h => h.elim
  | .str _, .non, _, _, _, h => h.elim
  | .str _, .bool _, _, _, _, h => h.elim
  | .str _, .tup _, _, _, _, h => h.elim
  | .str _, .lst _, _, _, _, h => h.elim
  | .str _, .ro _, _, _, _, h => h.elim
theorem RKs.look {ρ : Rho} {K : PySem.W.Frag} {H : Hp} {k : Ir.D} {k' : Key} (hk : RK k k') : ∀ {kvs : List (Ir.D × Ir.D)} {ks : List (Key × V)}, RKs ρ K H kvs ks →
    (Ir.lookK kvs k = none ∧ valV ks k' = none) ∨ ∃ v x, Ir.lookK kvs k = some v ∧ valV ks k' = some x ∧ RD ρ K H v x
  | _, _, .nil => .inl ⟨rfl, rfl⟩
  | (a, v) :: kvs, (b, x) :: ks, .cons h1 h2 r => by
    have e := RK.beq h1 hk
    by_cases c : b = k'
    · refine .inr ⟨v, x, ?_, valV_pos c, h2⟩
      simp [Ir.lookK, List.find?_cons, e, c]
    · rw [valV_neg (p := (b, x)) c]
      have : Ir.lookK ((a, v) :: kvs) k = Ir.lookK kvs k := by simp [Ir.lookK, List.find?_cons, e, c]
      rw [this]
      exact RKs.look hk r
theorem RKs.map_put {ρ : Rho} {K : PySem.W.Frag} {H : Hp} {k v : Ir.D} {k' : Key} {x : V} (hk : RK k k') (hv : RD ρ K H v x) : ∀ {kvs : List (Ir.D × Ir.D)} {ks : List (Key × V)}, RKs ρ K H kvs ks →
    RKs ρ K H (kvs.map fun p => if p.1.eqv k then (p.1, v) else p) (ks.map fun kv => if kv.1 = k' then (kv.1, x) else kv)
  | _, _, .nil => .nil
  | (a, w) :: kvs, (b, y) :: ks, .cons h1 h2 r => by
    have e := RK.beq h1 hk
    simp only [List.map_cons]
    by_cases c : b = k'
    · simp only [e, c, decide_true, if_true]
      exact .cons (by rw [← c]; exact h1) hv (RKs.map_put hk hv r)
    · simp only [e, c, decide_false, if_false, Bool.false_eq_true]
      exact .cons h1 h2 (RKs.map_put hk hv r)
theorem RKs.any {ρ : Rho} {K : PySem.W.Frag} {H : Hp} {k : Ir.D} {k' : Key} (hk : RK k k') : ∀ {kvs : List (Ir.D × Ir.D)} {ks : List (Key × V)}, RKs ρ K H kvs ks → (kvs.any fun p => p.1.eqv k) = (ks.any fun kv => decide (kv.1 = k'))
  | _, _, .nil => rfl
  | (a, v) :: kvs, (b, x) :: ks, .cons h1 h2 r => by
    simp only [List.any_cons, RK.beq h1 hk, RKs.any hk r]
theorem RKs.append {ρ : Rho} {K : PySem.W.Frag} {H : Hp} {k v : Ir.D} {k' : Key} {x : V} (hk : RK k k') (hv : RD ρ K H v x) : ∀ {kvs : List (Ir.D × Ir.D)} {ks : List (Key × V)}, RKs ρ K H kvs ks → RKs ρ K H (kvs ++ [(k, v)]) (ks ++ [(k', x)])
  | _, _, .nil => .cons hk hv .nil
  | _, _, .cons h1 h2 r => .cons h1 h2 (RKs.append hk hv r)
theorem RKs.put {ρ : Rho} {K : PySem.W.Frag} {H : Hp} {k v : Ir.D} {k' : Key} {x : V} (hk : RK k k') (hv : RD ρ K H v x) {kvs : List (Ir.D × Ir.D)} {ks : List (Key × V)} (r : RKs ρ K H kvs ks) : RKs ρ K H (Ir.putK kvs k v) (putK ks k' x) := by
  unfold Ir.putK putK
  rw [RKs.any hk r]
  split
  · exact RKs.map_put hk hv r
  · exact RKs.append hk hv r
theorem RD.flat {ρ : Rho} {K : PySem.W.Frag} {H : Hp} {d : Ir.D} {v : V} (h : RD ρ K H d v) (k : Ir.flat d = true) : flatV v = true := by
  cases h <;> simp_all [Ir.flat, flatV]
theorem RD.eqV {ρ : Rho} {K : PySem.W.Frag} {H : Hp} {d e : Ir.D} {v u : V} (h : RD ρ K H d v) (k : Ir.flat d = true) (h' : RD ρ K H e u) (k' : Ir.flat e = true) : L2.eqV v u = d.eqv e := by
  cases h <;> cases h' <;> simp_all [Ir.flat, L2.eqV, Ir.D.eqv, ofString_beq]
theorem RDs.inV {ρ : Rho} {K : PySem.W.Frag} {H : Hp} {d : Ir.D} {v : V} (h : RD ρ K H d v) (k : Ir.flat d = true) : ∀ {xs : List Ir.D} {ys : List V}, RDs ρ K H xs ys → xs.all Ir.flat = true → ys.all flatV = true ∧ L2.inV v ys = xs.any fun y => y.eqv d
  | _, _, .nil, _ => ⟨rfl, rfl⟩
  | _, _, .cons a r, hf => by
    simp only [List.all_cons, Bool.and_eq_true] at hf
    obtain ⟨h1, h2⟩ := RDs.inV h k r hf.2
    refine ⟨by simp only [List.all_cons, Bool.and_eq_true]; exact ⟨a.flat hf.1, h1⟩, ?_⟩
    unfold L2.inV at h2 ⊢
    simp only [List.any_cons, a.eqV hf.1 h k, h2]
theorem pe_or {e : Expr} {t t' : TE} (h : PE X e t) (h' : PE X e t') : PE X e (fun σ H Q => t σ H Q ∨ t' σ H Q) := ⟨fun pins s σ H Q I q => by
  rcases q with q | q
  · exact h.run pins s σ H Q I q
  · exact h'.run pins s σ H Q I q⟩
theorem pt_or {e : Expr} {t t' : TT} (h : PT X e t) (h' : PT X e t') : PT X e (fun σ H Q => t σ H Q ∨ t' σ H Q) := ⟨fun pins s σ H Q I q => by
  rcases q with q | q
  · exact h.run pins s σ H Q I q
  · exact h'.run pins s σ H Q I q⟩
theorem any_toPys (d : Ir.D) (hd : d.dep < 1000) : ∀ xs : List Ir.D, Ir.D.depAll xs < 1000 → ((toPys xs).any fun z => PyData.eqv z (toPy d)) = xs.any fun y => y.eqv d
  | [], _ => rfl
  | x :: xs, h => by
    simp only [Ir.D.depAll] at h
    simp only [toPys, List.any_cons, eqv_toPy x d (by omega) hd, any_toPys d hd xs (by omega)]
/-- in a list or a tuple, by values -/
theorem mem_seq {ρ : Rho} {K : PySem.W.Frag} {H : Hp} {d e : Ir.D} {x y : V} {b : Bool} (hd : RD ρ K H d x) (he : VD ρ K H e y) (h : Ir.D.mem d e = some b) :
    (∃ d' ds, Dp K H x d' ∧ Dp K H y (.list ds) ∧ SeqAt.shaped d' = true ∧ SeqAt.shaped (.list ds) = true ∧ (ds.any fun z => PyData.eqv z d') = b) ∨
    ∃ p xs, y = .ref p ∧ (SqL K H p xs ∨ SqT K H p xs) ∧ flatV x = true ∧ xs.all flatV = true ∧ L2.inV x xs = b := by
  cases e <;> simp only [Ir.D.mem, reduceCtorEq] at h
  · rename_i xs
    split at h
    · rename_i hf
      rw [Bool.and_eq_true] at hf
      cases h
      obtain ⟨a, ys, rfl, t, z, r⟩ := RD.tup_inv he
      obtain ⟨h1, h2⟩ := RDs.inV hd hf.1 r hf.2
      exact .inr ⟨a, ys, rfl, .inr t.sq, hd.flat hf.1, h1, h2⟩
    · cases h
  · rename_i xs
    split at h
    · rename_i hf
      rw [Bool.and_eq_true] at hf
      cases h
      have f2 := fine_dep hf.2
      exact .inl ⟨toPy d, toPys xs, hd.dp (fine_dep hf.1), VD.dp f2 he, shaped_toPy hf.1, shaped_toPy hf.2, any_toPys d (fine_dep hf.1) xs (by simp only [Ir.D.dep] at f2; omega)⟩
    · cases h
theorem inB_seq {ρ : Rho} {K : PySem.W.Frag} {H : Hp} {st : Ir.Store} {p q : Ir.Val} {x y : V} {b : Bool} (rs : RS ρ K st H) (rp : RV ρ K H p x) (rq : RV ρ K H q y) (hd : ¬ ∃ n kvs, q = .ref n ∧ st[n]? = some (.dic kvs)) (e : Ir.inB st p q = some b) :
    (∃ d' ds, Dp K H x d' ∧ Dp K H y (.list ds) ∧ SeqAt.shaped d' = true ∧ SeqAt.shaped (.list ds) = true ∧ (ds.any fun z => PyData.eqv z d') = b) ∨
    ∃ p xs, y = .ref p ∧ (SqL K H p xs ∨ SqT K H p xs) ∧ flatV x = true ∧ xs.all flatV = true ∧ L2.inV x xs = b := by
  unfold Ir.inB at e
  split at e
  · rename_i k n
    split at e
    · rename_i kvs hk
      exact absurd ⟨n, kvs, rfl, hk⟩ hd
    · rename_i xs hk
      obtain ⟨a, rfl, h1, ys, h2, h3, h4⟩ := RV.cell rs rq hk (by simp)
      exact mem_seq rp (show VD ρ K H (.lst xs) _ from ⟨a, ys, rfl, h2, h3, h4⟩) e
    · cases e
  · exact mem_seq rp (VD.of rq) e
  · cases e
theorem inB_dic {ρ : Rho} {K : PySem.W.Frag} {H : Hp} {st : Ir.Store} {p q : Ir.Val} {x y : V} {b : Bool} (rs : RS ρ K st H) (rp : RV ρ K H p x) (rq : RV ρ K H q y) (hd : ∃ n kvs, q = .ref n ∧ st[n]? = some (.dic kvs)) (e : Ir.inB st p q = some b) :
    ∃ a o, y = .ref a ∧ DGet H a x o ∧ o.isSome = b := by
  obtain ⟨n, kvs, rfl, hk⟩ := hd
  unfold Ir.inB at e
  split at e
  · rename_i d m e0
    cases e0
    rw [hk] at e
    simp only at e
    split at e
    · rename_i hkey
      cases e
      obtain ⟨a, rfl, h1, ks, h2, h3, h4⟩ := RV.cell rs rq hk (by simp)
      obtain ⟨k', hk1, rfl⟩ := RK.kv rp hkey
      refine ⟨a, _, rfl, .k h2, ?_⟩
      rcases RKs.look hk1 h4 with ⟨e1, e2⟩ | ⟨v, z, e1, e2, _⟩
      · rw [e1, e2]; rfl
      · rw [e1, e2]; rfl
    · cases e
  · rename_i e0
    cases e0
  · cases e
theorem units65 {n : Nat} {A : Around} (hr : Room n A) : A.units + 65 < cLine := by have := hr.un; omega
theorem se_in {a b : Expr} {ia ib : Ir.Ex} {pos : Pos} {n : Nat} (hr : Room n X.A) (ha : SE X C a ia) (hb : SE X C b ib) (hm : behindInMarks .In b = false := by first | rfl | with_unfolding_all rfl) : SE X C (.Compare a [.In] [b] pos) (.cmp .isin ia ib) := by
  refine pe_imp (pe_or (pe_cmpR (opR_or (op_inD (units65 hr)) op_in_seq) ha hb hm) (pe_cmp (pc_din (hu_of hr) ha hb) hm)) fun σ H Q ⟨ρ, env, st, v, st', rs, re, ev, k⟩ => ?_
  simp only [Ir.eval] at ev
  obtain ⟨x, s1, e1, ev⟩ := bok ev
  obtain ⟨y, s2, e2, ev⟩ := bok ev
  obtain ⟨r, e3, ev⟩ := ook ev
  cases ev
  have e3 : Ir.inB st' x y = some r := e3
  by_cases hd : ∃ n kvs, y = .ref n ∧ st'[n]? = some (.dic kvs)
  · refine .inr (tI_two rs re e1 e2 fun ρ' H' X Y x1 rs1 rx ry => ?_)
    obtain ⟨a, o, h1, h2, h3⟩ := inB_dic rs1 rx ry hd e3
    exact ⟨a, o, h1, h2, by rw [h3]; exact k ρ' H' _ x1 rs1 (.bool r)⟩
  · refine .inl (tI_two rs re e1 e2 fun ρ' H' X Y x1 rs1 rx ry => ?_)
    have kk := k ρ' H' _ x1 rs1 (.bool r)
    rcases inB_seq rs1 rx ry hd e3 with ⟨d, ds, h1, h2, h3, h4, h5⟩ | ⟨p, xs, h1, h2, h3, h4, h5⟩
    · exact .inl ⟨d, ds, h1, h2, h3, h4, by rw [h5]; exact kk⟩
    · exact .inr ⟨p, xs, h1, h2, h3, h4, by simp only [Bool.false_eq_true, if_false, h5]; exact kk⟩
theorem se_notin {a b : Expr} {ia ib : Ir.Ex} {pos : Pos} {n : Nat} (hr : Room n X.A) (ha : SE X C a ia) (hb : SE X C b ib) (hm : behindInMarks .NotIn b = false := by first | rfl | with_unfolding_all rfl) : SE X C (.Compare a [.NotIn] [b] pos) (.cmp .notin ia ib) := by
  refine pe_imp (pe_or (pe_cmpR (opR_or (op_notInD (units65 hr)) op_notIn_seq) ha hb hm) (pe_cmp (pc_dnotin (hu_of hr) ha hb) hm)) fun σ H Q ⟨ρ, env, st, v, st', rs, re, ev, k⟩ => ?_
  simp only [Ir.eval] at ev
  obtain ⟨x, s1, e1, ev⟩ := bok ev
  obtain ⟨y, s2, e2, ev⟩ := bok ev
  obtain ⟨r, e3, ev⟩ := ook ev
  cases ev
  have e3 : (Ir.inB st' x y).map (!·) = some r := e3
  simp only [Option.map_eq_some_iff] at e3
  obtain ⟨c, e4, rfl⟩ := e3
  by_cases hd : ∃ n kvs, y = .ref n ∧ st'[n]? = some (.dic kvs)
  · refine .inr (tI_two rs re e1 e2 fun ρ' H' X Y x1 rs1 rx ry => ?_)
    obtain ⟨a, o, h1, h2, h3⟩ := inB_dic rs1 rx ry hd e4
    exact ⟨a, o, h1, h2, by rw [h3]; exact k ρ' H' _ x1 rs1 (.bool _)⟩
  · refine .inl (tI_two rs re e1 e2 fun ρ' H' X Y x1 rs1 rx ry => ?_)
    have kk := k ρ' H' _ x1 rs1 (.bool _)
    rcases inB_seq rs1 rx ry hd e4 with ⟨d, ds, h1, h2, h3, h4, h5⟩ | ⟨p, xs, h1, h2, h3, h4, h5⟩
    · exact .inl ⟨d, ds, h1, h2, h3, h4, by rw [h5]; exact kk⟩
    · exact .inr ⟨p, xs, h1, h2, h3, h4, by simp only [if_true, h5]; exact kk⟩
/-- a comparison, as a test -/
theorem st_in {a b : Expr} {ia ib : Ir.Ex} {pos : Pos} {n : Nat} (hr : Room n X.A) (ha : SE X C a ia) (hb : SE X C b ib) (hm : behindInMarks .In b = false := by first | rfl | with_unfolding_all rfl) : ST X C (.Compare a [.In] [b] pos) (.cmp .isin ia ib) := by
  refine pt_imp (pt_or (pt_cmpR (opR_or (op_inD (units65 hr)) op_in_seq) ha hb hm) (pt_cmp (pc_din (hu_of hr) ha hb) hm)) fun σ H Q ⟨ρ, env, st, v, st', rs, re, ev, k⟩ => ?_
  simp only [Ir.eval] at ev
  obtain ⟨x, s1, e1, ev⟩ := bok ev
  obtain ⟨y, s2, e2, ev⟩ := bok ev
  obtain ⟨r, e3, ev⟩ := ook ev
  cases ev
  have e3 : Ir.inB st' x y = some v := e3
  by_cases hd : ∃ n kvs, y = .ref n ∧ st'[n]? = some (.dic kvs)
  · refine .inr (tI_two rs re e1 e2 fun ρ' H' X Y x1 rs1 rx ry => ?_)
    obtain ⟨a, o, h1, h2, h3⟩ := inB_dic rs1 rx ry hd e3
    exact ⟨a, o, h1, h2, _, rfl, by rw [h3]; exact k ρ' H' x1 rs1⟩
  · refine .inl (tI_two rs re e1 e2 fun ρ' H' X Y x1 rs1 rx ry => ?_)
    have kk := k ρ' H' x1 rs1
    rcases inB_seq rs1 rx ry hd e3 with ⟨d, ds, h1, h2, h3, h4, h5⟩ | ⟨p, xs, h1, h2, h3, h4, h5⟩
    · exact .inl ⟨d, ds, h1, h2, h3, h4, _, rfl, by rw [h5]; exact kk⟩
    · exact .inr ⟨p, xs, h1, h2, h3, h4, _, rfl, by simp only [Bool.false_eq_true, if_false, h5]; exact kk⟩
theorem st_notin {a b : Expr} {ia ib : Ir.Ex} {pos : Pos} {n : Nat} (hr : Room n X.A) (ha : SE X C a ia) (hb : SE X C b ib) (hm : behindInMarks .NotIn b = false := by first | rfl | with_unfolding_all rfl) : ST X C (.Compare a [.NotIn] [b] pos) (.cmp .notin ia ib) := by
  refine pt_imp (pt_or (pt_cmpR (opR_or (op_notInD (units65 hr)) op_notIn_seq) ha hb hm) (pt_cmp (pc_dnotin (hu_of hr) ha hb) hm)) fun σ H Q ⟨ρ, env, st, v, st', rs, re, ev, k⟩ => ?_
  simp only [Ir.eval] at ev
  obtain ⟨x, s1, e1, ev⟩ := bok ev
  obtain ⟨y, s2, e2, ev⟩ := bok ev
  obtain ⟨r, e3, ev⟩ := ook ev
  cases ev
  have e3 : (Ir.inB st' x y).map (!·) = some v := e3
  simp only [Option.map_eq_some_iff] at e3
  obtain ⟨c, e4, rfl⟩ := e3
  by_cases hd : ∃ n kvs, y = .ref n ∧ st'[n]? = some (.dic kvs)
  · refine .inr (tI_two rs re e1 e2 fun ρ' H' X Y x1 rs1 rx ry => ?_)
    obtain ⟨a, o, h1, h2, h3⟩ := inB_dic rs1 rx ry hd e4
    exact ⟨a, o, h1, h2, _, rfl, by rw [h3]; exact k ρ' H' x1 rs1⟩
  · refine .inl (tI_two rs re e1 e2 fun ρ' H' X Y x1 rs1 rx ry => ?_)
    have kk := k ρ' H' x1 rs1
    rcases inB_seq rs1 rx ry hd e4 with ⟨d, ds, h1, h2, h3, h4, h5⟩ | ⟨p, xs, h1, h2, h3, h4, h5⟩
    · exact .inl ⟨d, ds, h1, h2, h3, h4, _, rfl, by rw [h5]; exact kk⟩
    · exact .inr ⟨p, xs, h1, h2, h3, h4, _, rfl, by simp only [if_true, h5]; exact kk⟩
end Snd

namespace Snd
open PySem PySem.Spec PyProof.Rows L2
variable {X : Cx} {C : Ir.Calls}
theorem asB_ok {v : Ir.Val} {b : Bool} (h : Ir.asB v = some b) : v = .d (.bool b) := by
  cases v with
  | ref n => simp [Ir.asB] at h
  | d y => cases y <;> simp [Ir.asB] at h; subst h; rfl
theorem asI_ok {v : Ir.Val} {b : Int} (h : Ir.asI v = some b) : v = .d (.int b) := by
  cases v with
  | ref n => simp [Ir.asI] at h
  | d y => cases y <;> simp [Ir.asI] at h; subst h; rfl
theorem asD_ok {v : Ir.Val} {x : Ir.D} (h : Ir.asD v = some x) : v = .d x := by
  cases v with
  | ref n => simp [Ir.asD] at h
  | d y => simp [Ir.asD] at h; subst h; rfl
/-! ### and, or, not, if -/
section
variable {a b c : Expr} {rest : List Expr} {ia ib ic : Ir.Ex} {pos : Pos}
theorem se_one {op} (h : SE X C a ia) : SE X C (.BoolOp op [a] pos) ia := pe_one h
theorem se_and (ha : SE X C a ia) (hb : SE X C (.BoolOp .And (b :: rest) pos) ib) : SE X C (.BoolOp .And (a :: b :: rest) pos) (.and ia ib) := by
  refine pe_imp (pe_and ha hb) fun σ H Q ⟨ρ, env, st, v, st', rs, re, ev, k⟩ => ?_
  simp only [Ir.eval] at ev
  obtain ⟨x, s1, e1, ev⟩ := bok ev
  obtain ⟨c, e2, ev⟩ := ook ev
  obtain rfl := asB_ok e2
  refine ⟨ρ, env, st, _, s1, rs, re, e1, fun ρ1 H1 X1 x1 rs1 rx => ⟨c, RD.bool_inv rx, ?_⟩⟩
  cases c with
  | true =>
    simp only [if_true] at ev ⊢
    exact ⟨ρ1, env, s1, v, st', rs1, re.mono x1, ev, fun ρ2 H2 Y x2 rs2 ry => k ρ2 H2 Y (x1.trans x2) rs2 ry⟩
  | false =>
    simp only [Bool.false_eq_true, if_false] at ev ⊢
    cases ev
    exact k ρ1 H1 _ x1 rs1 (.bool false)
theorem se_or (ha : SE X C a ia) (hb : SE X C (.BoolOp .Or (b :: rest) pos) ib) : SE X C (.BoolOp .Or (a :: b :: rest) pos) (.or ia ib) := by
  refine pe_imp (L2.pe_or ha hb) fun σ H Q ⟨ρ, env, st, v, st', rs, re, ev, k⟩ => ?_
  simp only [Ir.eval] at ev
  obtain ⟨x, s1, e1, ev⟩ := bok ev
  obtain ⟨c, e2, ev⟩ := ook ev
  obtain rfl := asB_ok e2
  refine ⟨ρ, env, st, _, s1, rs, re, e1, fun ρ1 H1 X1 x1 rs1 rx => ⟨c, RD.bool_inv rx, ?_⟩⟩
  cases c with
  | false =>
    simp only [Bool.false_eq_true, if_false] at ev ⊢
    exact ⟨ρ1, env, s1, v, st', rs1, re.mono x1, ev, fun ρ2 H2 Y x2 rs2 ry => k ρ2 H2 Y (x1.trans x2) rs2 ry⟩
  | true =>
    simp only [if_true] at ev ⊢
    cases ev
    exact k ρ1 H1 _ x1 rs1 (.bool true)
theorem se_not (ha : SE X C a ia) : SE X C (.UnaryOp .Not a pos) (.not ia) := by
  refine pe_imp (pe_not ha) fun σ H Q ⟨ρ, env, st, v, st', rs, re, ev, k⟩ => ?_
  simp only [Ir.eval] at ev
  obtain ⟨x, s1, e1, ev⟩ := bok ev
  obtain ⟨c, e2, ev⟩ := ook ev
  obtain rfl := asB_ok e2
  cases ev
  exact ⟨ρ, env, st, _, _, rs, re, e1, fun ρ1 H1 X1 x1 rs1 rx => ⟨c, RD.bool_inv rx, k ρ1 H1 _ x1 rs1 (.bool _)⟩⟩
theorem sw_and1 (ha : ST X C a ia) : SW X C (.BoolOp .And [a] pos) ia := pw_and1 ha
theorem sw_or1 (ha : ST X C a ia) : SW X C (.BoolOp .Or [a] pos) ia := pw_or1 ha
theorem sw_and (ha : ST X C a ia) (hb : SW X C (.BoolOp .And (b :: rest) pos) ib) : SW X C (.BoolOp .And (a :: b :: rest) pos) (.and ia ib) := by
  refine pw_imp (pw_and ha hb) fun σ H Q ⟨ρ, env, st, v, st', rs, re, ev, k⟩ => ?_
  simp only [Ir.eval] at ev
  obtain ⟨x, s1, e1, ev⟩ := bok ev
  obtain ⟨c, e2, ev⟩ := ook ev
  obtain rfl := asB_ok e2
  refine ⟨ρ, env, st, _, s1, rs, re, e1, fun ρ1 H1 x1 rs1 => ?_⟩
  cases c with
  | true =>
    simp only [if_true] at ev ⊢
    exact ⟨ρ1, env, s1, v, st', rs1, re.mono x1, ev, fun ρ2 H2 x2 rs2 => k ρ2 H2 (x1.trans x2) rs2⟩
  | false =>
    simp only [Bool.false_eq_true, if_false] at ev ⊢
    cases ev
    exact k ρ1 H1 x1 rs1
theorem sw_or (ha : ST X C a ia) (hb : SW X C (.BoolOp .Or (b :: rest) pos) ib) : SW X C (.BoolOp .Or (a :: b :: rest) pos) (.or ia ib) := by
  refine pw_imp (pw_or ha hb) fun σ H Q ⟨ρ, env, st, v, st', rs, re, ev, k⟩ => ?_
  simp only [Ir.eval] at ev
  obtain ⟨x, s1, e1, ev⟩ := bok ev
  obtain ⟨c, e2, ev⟩ := ook ev
  obtain rfl := asB_ok e2
  refine ⟨ρ, env, st, _, s1, rs, re, e1, fun ρ1 H1 x1 rs1 => ?_⟩
  cases c with
  | false =>
    simp only [Bool.false_eq_true, if_false] at ev ⊢
    exact ⟨ρ1, env, s1, v, st', rs1, re.mono x1, ev, fun ρ2 H2 x2 rs2 => k ρ2 H2 (x1.trans x2) rs2⟩
  | true =>
    simp only [if_true] at ev ⊢
    cases ev
    exact k ρ1 H1 x1 rs1
theorem st_w {e : Expr} {i : Ir.Ex} (h : SW X C e i) : ST X C e i := h.pt
theorem st_not (ha : ST X C a ia) : ST X C (.UnaryOp .Not a pos) (.not ia) := by
  refine pt_imp (pt_not ha) fun σ H Q ⟨ρ, env, st, v, st', rs, re, ev, k⟩ => ?_
  simp only [Ir.eval] at ev
  obtain ⟨x, s1, e1, ev⟩ := bok ev
  obtain ⟨c, e2, ev⟩ := ook ev
  obtain rfl := asB_ok e2
  cases ev
  exact ⟨ρ, env, st, _, _, rs, re, e1, fun ρ1 H1 x1 rs1 => k ρ1 H1 x1 rs1⟩
theorem se_ite (hc : ST X C c ic) (ha : SE X C a ia) (hb : SE X C b ib) : SE X C (.IfExp c a b pos) (.ite ic ia ib) := by
  refine pe_imp (pe_ifExp hc ha hb) fun σ H Q ⟨ρ, env, st, v, st', rs, re, ev, k⟩ => ?_
  simp only [Ir.eval] at ev
  obtain ⟨x, s1, e1, ev⟩ := bok ev
  obtain ⟨c, e2, ev⟩ := ook ev
  obtain rfl := asB_ok e2
  refine ⟨ρ, env, st, c, s1, rs, re, e1, fun ρ1 H1 x1 rs1 => ?_⟩
  cases c with
  | false =>
    simp only [Bool.false_eq_true, if_false] at ev ⊢
    exact ⟨ρ1, env, s1, v, st', rs1, re.mono x1, ev, fun ρ2 H2 Y x2 rs2 ry => k ρ2 H2 Y (x1.trans x2) rs2 ry⟩
  | true =>
    simp only [if_true] at ev ⊢
    exact ⟨ρ1, env, s1, v, st', rs1, re.mono x1, ev, fun ρ2 H2 Y x2 rs2 ry => k ρ2 H2 Y (x1.trans x2) rs2 ry⟩
theorem se_chain {op op' : CmpOp} {o o' : Ir.Cmp} (ho : OpR X (compareOp op) (rCmp X.K o)) (ho' : OpR X (compareOp op') (rCmp X.K o')) (ha : SE X C a ia) (hb : SE X C b ib) (hc : SE X C c ic) (hm : lastMarks [op, op'] [b, c] = false := by with_unfolding_all rfl) : SE X C (.Compare a [op, op'] [b, c] pos) (.chain o o' ia ib ic) := by
  refine pe_imp (pe_chain ho ho' ha hb hc hm) fun σ H Q ⟨ρ, env, st, v, st', rs, re, ev, k⟩ => ?_
  simp only [Ir.eval] at ev
  obtain ⟨x, s1, e1, ev⟩ := bok ev
  obtain ⟨y, s2, e2, ev⟩ := bok ev
  obtain ⟨r, e3, ev⟩ := ook ev
  refine tI_two rs re e1 e2 fun ρ1 H1 X Y x1 rs1 rx ry => ⟨ρ1, _, x, y, r, rs1, rx, ry, e3, r, rfl, ?_⟩
  cases r with
  | false =>
    simp only [Bool.false_eq_true, if_false] at ev ⊢
    cases ev
    exact k ρ1 H1 _ x1 rs1 (.bool false)
  | true =>
    simp only [if_true] at ev ⊢
    obtain ⟨z, s3, e4, ev⟩ := bok ev
    obtain ⟨q, e5, ev⟩ := ook ev
    cases ev
    exact ⟨ρ1, env, s2, z, _, rs1, re.mono x1, e4, fun ρ2 H2 Z x2 rs2 rz => ⟨ρ2, _, y, z, q, rs2, ry.mono x2, rz, e5, k ρ2 H2 _ (x1.trans x2) rs2 (.bool q)⟩⟩
theorem st_chain {op op' : CmpOp} {o o' : Ir.Cmp} (ho : OpR X (compareOp op) (rCmp X.K o)) (ho' : OpR X (compareOp op') (rCmp X.K o')) (ha : SE X C a ia) (hb : SE X C b ib) (hc : SE X C c ic) (hm : lastMarks [op, op'] [b, c] = false := by with_unfolding_all rfl) : ST X C (.Compare a [op, op'] [b, c] pos) (.chain o o' ia ib ic) := by
  refine pt_imp (pt_chain ho ho' ha hb hc hm) fun σ H Q ⟨ρ, env, st, v, st', rs, re, ev, k⟩ => ?_
  simp only [Ir.eval] at ev
  obtain ⟨x, s1, e1, ev⟩ := bok ev
  obtain ⟨y, s2, e2, ev⟩ := bok ev
  obtain ⟨r, e3, ev⟩ := ook ev
  refine tI_two rs re e1 e2 fun ρ1 H1 X Y x1 rs1 rx ry => ⟨ρ1, _, x, y, r, rs1, rx, ry, e3, r, rfl, ?_⟩
  cases r with
  | false =>
    simp only [Bool.false_eq_true, if_false] at ev ⊢
    cases ev
    exact ⟨_, rfl, k ρ1 H1 x1 rs1⟩
  | true =>
    simp only [if_true] at ev ⊢
    obtain ⟨z, s3, e4, ev⟩ := bok ev
    obtain ⟨q, e5, ev⟩ := ook ev
    cases ev
    exact ⟨ρ1, env, s2, z, _, rs1, re.mono x1, e4, fun ρ2 H2 Z x2 rs2 rz => ⟨ρ2, _, y, z, _, rs2, ry.mono x2, rz, e5, _, rfl, k ρ2 H2 (x1.trans x2) rs2⟩⟩
end
/-! ### subscripts -/
theorem atI_rel {ρ : Rho} {K : PySem.W.Frag} {H : Hp} {xs : List Ir.D} {ys : List V} {i : Int} {d : Ir.D} (r : RDs ρ K H xs ys) (h : Ir.atI xs i = some d) : ∃ v, L2.atI ys i = some v ∧ RD ρ K H d v := by
  unfold Ir.atI at h
  unfold L2.atI
  have e : Ir.ixN xs.length i = L2.ixN ys.length i := by rw [r.length]; rfl
  rw [← e]
  cases q : Ir.ixN xs.length i with
  | none => rw [q] at h; cases h
  | some j =>
    rw [q] at h
    exact r.get h
theorem ofString_cps (z : String) : (Str.ofString z).cps.toList = z.toList.map Char.toNat := by
  rw [Str.ofString_eq_toList]
theorem ofString_sgn (c : Char) : (⟨#[c.toNat]⟩ : Str) = Str.ofString (String.singleton c) := by
  rw [Str.ofString_eq_toList]; simp
theorem atI_str {z : String} {i : Int} {c : Char} (h : Ir.atI z.toList i = some c) : L2.atI (Str.ofString z).cps.toList i = some c.toNat := by
  unfold Ir.atI at h
  unfold L2.atI
  rw [ofString_cps]
  have e : Ir.ixN z.toList.length i = L2.ixN (z.toList.map Char.toNat).length i := by rw [List.length_map]; rfl
  rw [← e]
  cases q : Ir.ixN z.toList.length i with
  | none => rw [q] at h; cases h
  | some j =>
    rw [q] at h
    have h : z.toList[j]? = some c := h
    show (z.toList.map Char.toNat)[j]? = _
    rw [List.getElem?_map, h]; rfl
theorem index_ok {ρ : Rho} {K : PySem.W.Frag} {H : Hp} {d k r : Ir.D} {x y : V} {Q : VK} (hd : VD ρ K H d x) (hk : RD ρ K H k y) (h : d.index k = some r) (q : ∀ z, RD ρ K H r z → Q z H) : rIx K x y H Q := by
  cases d <;> cases k <;> simp only [Ir.D.index, reduceCtorEq] at h
  · rename_i z i
    split at h
    · rename_i hl
      obtain ⟨c, h1, rfl⟩ := Option.map_eq_some_iff.mp h
      exact .inr (.inr ⟨_, i, c.toNat, RD.str_inv hd, RD.int_inv hk, by rw [ofString_len, ← lim_eq]; exact hl, atI_str h1, by rw [ofString_sgn]; exact q _ (.str _)⟩)
    · cases h
  · obtain ⟨a, ys, rfl, t, z, rr⟩ := RD.tup_inv hd
    obtain ⟨v, h1, h2⟩ := atI_rel rr h
    exact .inr (.inl ⟨a, ys, _, v, rfl, RD.int_inv hk, t.sq, h1, q v h2⟩)
  · obtain ⟨a, ys, rfl, t, z, rr⟩ := hd
    obtain ⟨v, h1, h2⟩ := atI_rel rr h
    exact .inl ⟨a, ys, _, v, rfl, RD.int_inv hk, SqL.of t, h1, q v h2⟩
  · obtain ⟨a, ys, rfl, t, z, rr⟩ := RD.ro_inv hd
    obtain ⟨v, h1, h2⟩ := atI_rel rr h
    exact .inl ⟨a, ys, _, v, rfl, RD.int_inv hk, t.sq, h1, q v h2⟩
theorem se_idx {a b : Expr} {ia ib : Ir.Ex} {pos : Pos} {n : Nat} (hr : Room n X.A) (ha : SE X C a ia) (hb : SE X C b ib) (hs : PlainIx b := by exact fun _ _ => rfl) : SE X C (.Subscript a b pos) (.idx ia ib) := by
  refine pe_imp (pe_or (pe_ix ix_seq ha hb hs) (pe_dget (hu_of hr) ha hb hs)) fun σ H Q ⟨ρ, env, st, v, st', rs, re, ev, k⟩ => ?_
  simp only [Ir.eval] at ev
  obtain ⟨x, s1, e1, ev⟩ := bok ev
  obtain ⟨y, s2, e2, ev⟩ := bok ev
  obtain ⟨r, e3, ev⟩ := ook ev
  cases ev
  by_cases hd : ∃ n kvs, x = .ref n ∧ st'[n]? = some (.dic kvs)
  · refine .inr (tI_two rs re e1 e2 fun ρ1 H1 X Y x1 rs1 rx ry => ?_)
    obtain ⟨n, kvs, rfl, hk⟩ := hd
    cases y with
    | ref m => simp [Ir.indexV] at e3
    | d key =>
      simp only [Ir.indexV, hk] at e3
      split at e3
      · rename_i hkey
        obtain ⟨a, rfl, h1, ks, h2, h3, h4⟩ := RV.cell rs1 rx hk (by simp)
        obtain ⟨k', hk1, rfl⟩ := RK.kv ry hkey
        rcases RKs.look hk1 h4 with ⟨z1, z2⟩ | ⟨w, z, z1, z2, z3⟩
        · rw [z1] at e3; cases e3
        · rw [z1] at e3; cases e3
          exact ⟨a, z, rfl, by rw [← z2]; exact .k h2, k ρ1 H1 z x1 rs1 z3⟩
      · cases e3
  · refine .inl (tI_two rs re e1 e2 fun ρ1 H1 X Y x1 rs1 rx ry => ?_)
    cases y with
    | ref m => cases x <;> simp [Ir.indexV] at e3
    | d key =>
      cases x with
      | d w =>
        simp only [Ir.indexV] at e3
        exact index_ok (VD.of rx) ry e3 fun z hz => k ρ1 H1 z x1 rs1 hz
      | ref n =>
        simp only [Ir.indexV] at e3
        split at e3
        · rename_i xs hx
          obtain ⟨a, rfl, h1, ys, h2, h3, h4⟩ := RV.cell rs1 rx hx (by simp)
          exact index_ok (show VD ρ1 _ H1 (.lst xs) _ from ⟨a, ys, rfl, h2, h3, h4⟩) ry e3 fun z hz => k ρ1 H1 z x1 rs1 hz
        · rename_i kvs hk
          exact absurd ⟨n, kvs, rfl, hk⟩ hd
        · cases e3
theorem so_none : SO X C none none := po_imp po_none fun σ H Q ⟨ρ, env, st, v, st', rs, re, ev, k⟩ => by
  simp only [Ir.evalO] at ev; cases ev; exact k ρ H (.refl _ _) rs
theorem so_some {e : Expr} {i : Ir.Ex} (h : SE X C e i) : SO X C (some e) (some i) := po_imp (po_some h) fun σ H Q ⟨ρ, env, st, v, st', rs, re, ev, k⟩ => by
  simp only [Ir.evalO] at ev
  obtain ⟨x, s1, e1, ev⟩ := bok ev
  obtain ⟨c, e2, ev⟩ := ook ev
  obtain rfl := asI_ok e2
  cases ev
  exact ⟨ρ, env, st, _, _, rs, re, e1, fun ρ1 H1 X1 x1 rs1 rx => ⟨c, RD.int_inv rx, k ρ1 H1 x1 rs1⟩⟩
theorem cut_rel {ρ : Rho} {K : PySem.W.Frag} {H : Hp} {xs : List Ir.D} {ys : List V} {lo hi : Option Int} (r : RDs ρ K H xs ys) : RDs ρ K H (Ir.cut xs lo hi) (cutV ys lo hi) := by
  unfold Ir.cut cutV
  rw [r.length]
  exact (r.drop _).take _
theorem sIx_same (n d : Nat) (o : Option Int) : Ir.sIx n d o = HT.sIx n d o := by cases o <;> rfl
theorem ofString_cut (z : String) (lo hi : Option Int) : cutS (Str.ofString z) lo hi = Str.ofString (String.ofList (Ir.cut z.toList lo hi)) := by
  unfold cutS Ir.cut
  rw [ofString_cps, ofString_len, Str.ofString_eq_toList, sIx_same, sIx_same, String.length_toList]
  simp [List.map_take, List.map_drop]
theorem cut_len (ys : List V) (lo hi : Option Int) (z : ys.length ≤ sizeLine) : (cutV ys lo hi).length ≤ sizeLine := Nat.le_trans (cutV_length ys lo hi) z
theorem slice_ok {ρ : Rho} {K : PySem.W.Frag} {H : Hp} {st : Ir.Store} {d r : Ir.D} {lo hi : Option Int} {x : V} {Q : VK} (rs : RS ρ K st H) (hd : VD ρ K H d x) (h : d.slice lo hi = some r) (q : ∀ H' z, Ext ρ H ρ H' → RS ρ K st H' → RD ρ K H' r z → Q z H') : (rSlL K x lo hi H Q ∨ rSlA K x lo hi H Q) ∨ rSlS x lo hi H Q := by
  cases d <;> simp only [Ir.D.slice, reduceCtorEq] at h
  · split at h
    · rename_i z hl
      cases h
      exact .inr ⟨_, RD.str_inv hd, by rw [ofString_len, ← lim_eq]; exact hl, by rw [ofString_cut]; exact q H _ (.refl _ _) rs (.str _)⟩
    · cases h
  · cases h
    obtain ⟨a, ys, rfl, t, z, rr⟩ := RD.tup_inv hd
    refine .inl (.inr ⟨a, ys, rfl, t.sq, fun hw => ?_, fun _ p hp => ?_⟩)
    · refine q H _ (.refl _ _) rs ?_
      have e : ∀ {α : Type} (l : List α), l.length = ys.length → Ir.cut l lo hi = l := fun l hl => by
        unfold Ir.cut
        rw [hl, sIx_same, sIx_same, hw.1, hw.2, List.drop_zero, Nat.sub_zero, ← hl, List.take_length]
      rw [e _ rr.length]
      exact .tup t z rr
    · exact q _ _ (.grow rs hp _) (rs.grow hp _) (grow_tup rs (cut_rel rr) (cut_len _ _ _ z) hp)
  · cases h
    obtain ⟨a, ys, rfl, t, z, rr⟩ := hd
    exact .inl (.inl ⟨a, ys, rfl, SqL.of t, fun p hp => q _ _ (.grow rs hp _) (rs.grow hp _) (grow_lst rs (cut_rel rr) (cut_len _ _ _ z) hp)⟩)
  · cases h
    obtain ⟨a, ys, rfl, t, z, rr⟩ := RD.ro_inv hd
    exact .inl (.inl ⟨a, ys, rfl, t.sq, fun p hp => q _ _ (.grow rs hp _) (rs.grow hp _) (grow_lst rs (cut_rel rr) (cut_len _ _ _ z) hp)⟩)
theorem se_sli {a : Expr} {lo hi : Option Expr} {ia : Ir.Ex} {il ih : Option Ir.Ex} {pos p2 : Pos} (ha : SE X C a ia) (hl : SO X C lo il) (hh : SO X C hi ih) : SE X C (.Subscript a (.Slice lo hi none p2) pos) (.sli ia il ih) := by
  refine pe_imp (pe_slice (SlR.or (SlR.or sl_list sl_tupA) sl_str) ha hl hh) fun σ H Q ⟨ρ, env, st, v, st', rs, re, ev, k⟩ => ?_
  simp only [Ir.eval] at ev
  obtain ⟨x, s1, e1, ev⟩ := bok ev
  obtain ⟨l, s2, e2, ev⟩ := bok ev
  obtain ⟨h, s3, e3, ev⟩ := bok ev
  obtain ⟨p, e4, ev⟩ := ook ev
  obtain ⟨r, e5, ev⟩ := ook ev
  cases ev
  exact ⟨ρ, env, st, x, s1, rs, re, e1, fun ρ1 H1 X1 x1 rs1 rx => ⟨ρ1, env, s1, l, s2, rs1, re.mono x1, e2, fun ρ2 H2 x2 rs2 => ⟨ρ2, env, s2, h, _, rs2, re.mono (x1.trans x2), e3, fun ρ3 H3 x3 rs3 =>
    slice_ok rs3 (.deref rs3 (rx.mono (x2.trans x3)) e4) e5 fun H' z x4 rs4 rz => k ρ3 H' z (((x1.trans x2).trans x3).trans x4) rs4 rz⟩⟩⟩
/-! ### calls of own defs -/
def spI (T : Ir.Tab) (n : Nat) (K : PySem.W.Frag) (f : String) : Sp := fun vs H Q _ => ∃ ρ st args v st', RS ρ K st H ∧ RVs ρ K H args vs ∧ Ir.callN T n f args st = .ok v st' ∧ ∀ ρ' H' x, Ext ρ H ρ' H' → RS ρ' K st' H' → RV ρ' K H' v x → Q x H'
/-- what stands for a raised thing -/
def RXc (mg : Str → Option Value) (c : String) (as : List Ir.D) (cls : Value) (d : Option Addr) : Prop := as = [] ∧ mg (Str.ofString c) = some cls ∧ d = none
/-- what is wanted of a run that may raise -/
def GX (K : PySem.W.Frag) (mg : Str → Option Value) (ρ : Rho) (H : Hp) (Q : VK) (E : XK) : Ir.Res Ir.Val → Prop
  | .ok v st' => ∀ ρ' H' x, Ext ρ H ρ' H' → RS ρ' K st' H' → RV ρ' K H' v x → Q x H'
  | .exc c as st' => ∀ ρ' H' cls d, Ext ρ H ρ' H' → RS ρ' K st' H' → RXc mg c as cls d → E cls d H'
  | .bad => False
theorem GX.mono {K : PySem.W.Frag} {mg : Str → Option Value} {ρ ρ1 : Rho} {H H1 : Hp} {Q : VK} {E : XK} {r : Ir.Res Ir.Val} (x : Ext ρ H ρ1 H1) (h : GX K mg ρ H Q E r) : GX K mg ρ1 H1 Q E r := by
  cases r with
  | ok v s => exact fun ρ' H' y x1 rs ry => h ρ' H' y (x.trans x1) rs ry
  | exc c as s => exact fun ρ' H' cls d x1 rs rx => h ρ' H' cls d (x.trans x1) rs rx
  | bad => exact h
def spX (T : Ir.Tab) (n : Nat) (K : PySem.W.Frag) (mg : Str → Option Value) (f : String) : Sp := fun vs H Q E => ∃ ρ st args r, RS ρ K st H ∧ RVs ρ K H args vs ∧ Ir.callN T n f args st = r ∧ GX K mg ρ H Q E r
/-- how a call with keywords binds: a positional arguments, the keywords ks, the parameters' order perm -/
abbrev Kw := String × Nat × List Str × List Nat × List Ir.D
def permV {α : Type} (perm : List Nat) (vs : List α) : List α := perm.filterMap fun i => vs[i]?
def KwOk (K : PySem.W.Frag) (fd : FuncData) (ps : List Str) (q : Kw) : Prop := ∃ (dv : List Value) (dvs : List V), Vals dvs dv ∧ (∀ ρ H, RDs ρ K H q.2.2.2.2 dvs) ∧ ∀ (s : Shared) (us ws : List Value), K.In s.heap → us.length = q.2.1 → ws.length = q.2.2.1.length → BindsTo s fd ⟨us, q.2.2.1.zip ws⟩ (ps.zip (permV q.2.2.2.1 (us ++ ws ++ dv)))
structure FT (T : Ir.Tab) (KW : List Kw) (n : Nat) (P : Program) (w : World) (K : PySem.W.Frag) (mg : Str → Option Value) (base : Heap) : Prop where
  ok : ∀ f fn, T f = some fn → fn.x = false → ∃ a fd ps, FnOk P w K mg base CX0 n a fd ps (spI T n K f) ∧ mg (Str.ofString f) = some (.ref a) ∧ PySem.W.keepIn K (.ref a) = true ∧ Binds K fd ps [] ∧ ∀ q ∈ KW, q.1 = f → KwOk K fd ps q
  okX : ∀ f fn, T f = some fn → fn.x = true → ∃ a fd ps, FnOk P w K mg base (CX P w) n a fd ps (spX T n K mg f) ∧ mg (Str.ofString f) = some (.ref a) ∧ PySem.W.keepIn K (.ref a) = true ∧ Binds K fd ps [] ∧ ∀ q ∈ KW, q.1 = f → KwOk K fd ps q
theorem se_call {T : Ir.Tab} {KW : List Kw} {n : Nat} {f : String} {fn : Ir.Fn} {e : Expr} {es : List Expr} {is : List Ir.Ex} {p pos : Pos} (ft : FT T KW n X.prog X.w X.K X.mg X.base) (hT : T f = some fn) (hr : Room n X.A) (hs : SEs X (Ir.callN T n) (e :: es) is) (hg : Gl X (Str.ofString f) := by rfl)
    (hx : fn.x = false := by rfl) (hdb : (Str.ofString f == ("__debug__" : Str)) = false := by decide) (he : starEach (e :: es) X.env = (false, eval e X.env) :: starEach es X.env := by rfl) (hpl : (backTo pos (starEach es X.env)).any (·.1) = false := by rfl) :
    SE X (Ir.callN T n) (.Call (.Name (Str.ofString f) p) (e :: es) [] pos) (.call f is) := by
  obtain ⟨a, fd, ps, F, hm, hk, hb, _⟩ := ft.ok f fn hT hx
  refine pe_imp (pe_call F hr hg hm hk hb .nil pass0 hs hdb he hpl) fun σ H Q ⟨ρ, env, st, v, st', rs, re, ev, k⟩ => ?_
  simp only [Ir.eval] at ev
  obtain ⟨vs, s1, e1, ev⟩ := bok ev
  refine ⟨ρ, env, st, vs, s1, rs, re, e1, fun ρ1 H1 XS x1 rs1 rx => ?_⟩
  show spI T n X.K f (XS ++ []) H1 Q E0
  rw [List.append_nil]
  exact ⟨ρ1, s1, vs, v, st', rs1, rx, ev, fun ρ' H' x x2 rs2 r2 => k ρ' H' x (x1.trans x2) rs2 r2⟩
/-! ### calls with keywords -/
theorem permV_vals {xs : List V} {us : List Value} (h : Vals xs us) : ∀ perm : List Nat, Vals (permV perm xs) (permV perm us)
  | [] => .nil
  | i :: perm => by
    unfold permV
    have ih := permV_vals h perm
    unfold permV at ih
    simp only [List.filterMap_cons]
    cases q : xs[i]? with
    | none => rw [h.none_of q]; exact ih
    | some x =>
      obtain ⟨u, e, r⟩ := h.get q
      rw [e]
      exact .cons r ih
theorem RVs.get {ρ : Rho} {K : PySem.W.Frag} {H : Hp} : ∀ {xs : List Ir.Val} {vs : List V}, RVs ρ K H xs vs → ∀ i : Nat, (xs[i]? = none ∧ vs[i]? = none) ∨ ∃ x v, xs[i]? = some x ∧ vs[i]? = some v ∧ RV ρ K H x v
  | _, _, .nil, i => .inl ⟨by simp, by simp⟩
  | _, _, .cons h _, 0 => .inr ⟨_, _, rfl, rfl, h⟩
  | _, _, .cons _ r, i + 1 => by simpa using RVs.get r i
theorem permV_rvs {ρ : Rho} {K : PySem.W.Frag} {H : Hp} {xs : List Ir.Val} {vs : List V} (h : RVs ρ K H xs vs) : ∀ perm : List Nat, RVs ρ K H (permV perm xs) (permV perm vs)
  | [] => .nil
  | i :: perm => by
    unfold permV
    have ih := permV_rvs h perm
    unfold permV at ih
    simp only [List.filterMap_cons]
    rcases RVs.get h i with ⟨e1, e2⟩ | ⟨x, v, e1, e2, r⟩
    · rw [e1, e2]; exact ih
    · rw [e1, e2]; exact .cons r ih
theorem RVs.append {ρ : Rho} {K : PySem.W.Frag} {H : Hp} : ∀ {xs ys : List Ir.Val} {vs ws : List V}, RVs ρ K H xs vs → RVs ρ K H ys ws → RVs ρ K H (xs ++ ys) (vs ++ ws)
  | _, _, _, _, .nil, s => s
  | _, _, _, _, .cons h r, s => .cons h (RVs.append r s)
theorem evals_append {is js : List Ir.Ex} {env : Ir.Env} : ∀ {st st' : Ir.Store} {vs : List Ir.Val}, Ir.evals C (is ++ js) env st = .ok vs st' → ∃ us ws s1, Ir.evals C is env st = .ok us s1 ∧ Ir.evals C js env s1 = .ok ws st' ∧ vs = us ++ ws := by
  induction is with
  | nil => intro st st' vs h; exact ⟨[], vs, st, by simp [Ir.evals], h, rfl⟩
  | cons i is ih =>
    intro st st' vs h
    simp only [List.cons_append, Ir.evals] at h ⊢
    obtain ⟨v, s1, e1, h1⟩ := bok h
    obtain ⟨vs1, s2, e2, h2⟩ := bok h1
    cases h2
    obtain ⟨us, ws, s3, e3, e4, rfl⟩ := ih e2
    exact ⟨v :: us, ws, s3, by rw [e1]; simp [e3], e4, rfl⟩
abbrev SKs (X : Cx) (C : Ir.Calls) (kws : List Keyword) (is : List Ir.Ex) : Prop := PK X kws (tIs C X.K is)
theorem pk_imp {kws : List Keyword} {t t' : TA} (h : PK X kws t) (w : ∀ σ H Q, t' σ H Q → t σ H Q) : PK X kws t' := ⟨fun p pins s σ H Q I q => h.run p pins s σ H Q I (w σ H Q q)⟩
theorem sks_nil : SKs X C [] [] := pk_imp pk_nil fun σ H Q ⟨ρ, env, st, v, st', rs, re, ev, k⟩ => by
  simp only [Ir.evals] at ev; cases ev; exact k ρ H _ (.refl _ _) rs .nil
theorem sks_cons {nm : Option Str} {e : Expr} {kpos : Pos} {kws : List Keyword} {i : Ir.Ex} {is : List Ir.Ex} (h : SE X C e i) (hs : SKs X C kws is) : SKs X C (⟨nm, e, kpos⟩ :: kws) (i :: is) := by
  refine pk_imp (pk_cons h hs) fun σ H Q ⟨ρ, env, st, v, st', rs, re, ev, k⟩ => ?_
  simp only [Ir.evals] at ev
  obtain ⟨x, s1, e1, ev⟩ := bok ev
  obtain ⟨xs, s2, e2, ev⟩ := bok ev
  cases ev
  exact ⟨ρ, env, st, x, s1, rs, re, e1, fun ρ1 H1 X1 x1 rs1 rx => ⟨ρ1, env, s1, xs, st', rs1, re.mono x1, e2, fun ρ2 H2 XS x2 rs2 rxs => k ρ2 H2 (X1 :: XS) (x1.trans x2) rs2 (.cons (rx.mono x2) rxs)⟩⟩
theorem run_kwD {k : Nat} {f : Addr} {fd : FuncData} {ps : List Str} {sp : Sp} {pins : List (Addr × Obj)} {σ : L2.St} {H : Hp} {s : Shared} {Q : VK} {us ws : List Value} {vs zs : List V} {q : Kw} (F : FnOk X.prog X.w X.K X.mg X.base CX0 k f fd ps sp) (hr : Room k X.A) (hb : KwOk X.K fd ps q) (h1 : us.length = q.2.1) (h2 : ws.length = q.2.2.1.length)
    (I : Inv X pins σ H s) (r : Vals vs us) (rz : Vals zs ws) (h : ∀ dvs, (∀ ρ H, RDs ρ X.K H q.2.2.2.2 dvs) → sp (permV q.2.2.2.1 (vs ++ zs ++ dvs)) H Q E0) : wpAny (model X.prog X.w) X.A (call (.ref f) us (q.2.2.1.zip ws)) (EP X pins σ Q) X.xe s := by
  obtain ⟨dv, dvs, rd, rds, hb⟩ := hb
  have r2 := permV_vals ((r.append rz).append rd) q.2.2.2.1
  refine wpAny_call (codeAny_mono (F.run X.A X.stack s H ⟨us, q.2.2.1.zip ws⟩ _ _ Q E0 hr I.env0 (hb s us ws I.kIn h1 h2) r2 (h dvs rds)) fun r s' hq => ?_)
  cases r with
  | error e => exact (show False from hq).elim
  | ok fl =>
    cases fl with
    | ret u => exact I.after hq
    | next => exact False.elim hq
    | brk => exact False.elim hq
    | cont => exact False.elim hq
theorem run_kw {k : Nat} {f : Addr} {fd : FuncData} {ps : List Str} {sp : Sp} {pins : List (Addr × Obj)} {σ : L2.St} {H : Hp} {s : Shared} {Q : VK} {us ws : List Value} {vs zs : List V} {q : Kw} (hq : q.2.2.2.2 = []) (F : FnOk X.prog X.w X.K X.mg X.base CX0 k f fd ps sp) (hr : Room k X.A) (hb : KwOk X.K fd ps q) (h1 : us.length = q.2.1) (h2 : ws.length = q.2.2.1.length)
    (I : Inv X pins σ H s) (r : Vals vs us) (rz : Vals zs ws) (h : sp (permV q.2.2.2.1 (vs ++ zs)) H Q E0) : wpAny (model X.prog X.w) X.A (call (.ref f) us (q.2.2.1.zip ws)) (EP X pins σ Q) X.xe s :=
  run_kwD F hr hb h1 h2 I r rz fun dvs hd => by
    have e := hd ⟨[], []⟩ H
    rw [hq] at e
    cases e
    rw [List.append_nil]; exact h
theorem kw_end {T : Ir.Tab} {n : Nat} {f : String} {K : PySem.W.Frag} {ρ1 : Rho} {H1 : Hp} {s1 st' : Ir.Store} {vs : List Ir.Val} {XS : List V} {v : Ir.Val} {perm : List Nat} {Q : VK} (rs1 : RS ρ1 K s1 H1) (rx : RVs ρ1 K H1 vs XS) (ev : Ir.callN T n f (permV perm vs) s1 = .ok v st') (k : ∀ ρ' H' x, Ext ρ1 H1 ρ' H' → RS ρ' K st' H' → RV ρ' K H' v x → Q x H') : spI T n K f (permV perm XS) H1 Q E0 :=
  ⟨ρ1, s1, _, v, st', rs1, permV_rvs rx perm, ev, k⟩
theorem se_callK0 {T : Ir.Tab} {KW : List Kw} {n : Nat} {f : String} {fn : Ir.Fn} {ks : List Str} {perm : List Nat} {kws : List Keyword} {is : List Ir.Ex} {p pos : Pos} (ft : FT T KW n X.prog X.w X.K X.mg X.base) (hT : T f = some fn) (hq : (f, 0, ks, perm, []) ∈ KW) (hr : Room n X.A) (hs : SKs X (Ir.callN T n) kws is) (hl : is.length = ks.length := by rfl) (hg : Gl X (Str.ofString f) := by rfl)
    (hx : fn.x = false := by rfl) (hdb : (Str.ofString f == ("__debug__" : Str)) = false := by decide) (hall : (backToKw pos (keywordEach kws X.env)).all (·.1.isSome) = true := by rfl) (hks : (backToKw pos (keywordEach kws X.env)).filterMap (·.1) = ks := by rfl)
    (hpl : ((backTo pos (starEach [] X.env)).any (·.1) || (backToKw pos (keywordEach kws X.env)).any (·.1.isNone)) = false := by rfl) :
    SE X (Ir.callN T n) (.Call (.Name (Str.ofString f) p) [] kws pos) (.callP f is perm) := by
  obtain ⟨a, fd, ps, F, hm, hk, hb, hkw⟩ := ft.ok f fn hT hx
  refine ⟨fun pins s σ H Q I h => ?_⟩
  obtain ⟨ρ, env, st, v, st', rs, re, ev, k⟩ := h
  simp only [Ir.eval] at ev
  obtain ⟨vs, s1, e1, ev⟩ := bok ev
  refine wpAny_Call_Name_kw (ld_glob I hg hm ?_ hdb)
  refine PySem.W.callWith_KW0 (h₀ := X.base) I.ok.mod.kin hk hall ?_ hpl
  refine thn (hs.run pos pins s σ H (fun zs H2 => zs.length = ks.length ∧ spI T n X.K f (permV perm zs) H2 Q E0) I ⟨ρ, env, st, vs, s1, rs, re, e1, fun ρ1 H1 XS x1 rs1 rx => ⟨?_, kw_end rs1 rx ev fun ρ' H' x x2 rs2 r2 => k ρ' H' x (x1.trans x2) rs2 r2⟩⟩) fun ws s2 ⟨zs, H2, I2, rz, hzl, q2⟩ => ⟨I2.kIn, ?_⟩
  · rw [← rx.length, evals_len _ _ _ _ _ e1, hl]
  · rw [hks]
    exact run_kw (q := (f, 0, ks, perm, [])) rfl (us := []) (vs := []) F hr (hkw _ hq rfl) rfl (by rw [← rz.length]; exact hzl) I2 .nil rz q2
theorem se_callK {T : Ir.Tab} {KW : List Kw} {n m : Nat} {f : String} {fn : Ir.Fn} {ks : List Str} {perm : List Nat} {e : Expr} {es : List Expr} {kws : List Keyword} {is js : List Ir.Ex} {p pos : Pos} (ft : FT T KW n X.prog X.w X.K X.mg X.base) (hT : T f = some fn) (hq : (f, m, ks, perm, []) ∈ KW) (hr : Room n X.A) (ha : SEs X (Ir.callN T n) (e :: es) is) (hs : SKs X (Ir.callN T n) kws js) (hl0 : is.length = m := by rfl) (hl : js.length = ks.length := by rfl) (hg : Gl X (Str.ofString f) := by rfl)
    (hx : fn.x = false := by rfl) (hdb : (Str.ofString f == ("__debug__" : Str)) = false := by decide) (hall : (backToKw pos (keywordEach kws X.env)).all (·.1.isSome) = true := by rfl) (hks : (backToKw pos (keywordEach kws X.env)).filterMap (·.1) = ks := by rfl) (he : starEach (e :: es) X.env = (false, eval e X.env) :: starEach es X.env := by rfl)
    (hpl : ((backTo pos (starEach (e :: es) X.env)).any (·.1) || (backToKw pos (keywordEach kws X.env)).any (·.1.isNone)) = false := by rfl) :
    SE X (Ir.callN T n) (.Call (.Name (Str.ofString f) p) (e :: es) kws pos) (.callP f (is ++ js) perm) := by
  obtain ⟨a, fd, ps, F, hm, hk, hb, hkw⟩ := ft.ok f fn hT hx
  refine ⟨fun pins s σ H Q I h => ?_⟩
  obtain ⟨ρ, env, st, v, st', rs, re, ev, k⟩ := h
  simp only [Ir.eval] at ev
  obtain ⟨vs, s1, e1, ev⟩ := bok ev
  obtain ⟨us, ws, s0, f1, f2, rfl⟩ := evals_append e1
  refine wpAny_Call_Name_kw (ld_glob I hg hm ?_ hdb)
  refine PySem.W.callWith_KW (h₀ := X.base) I.ok.mod.kin hk hall (thn (ha.run pos pins s σ H (fun xs H1 => xs.length = m ∧ tIs (Ir.callN T n) X.K js σ H1 (fun zs H2 => zs.length = ks.length ∧ spI T n X.K f (permV perm (xs ++ zs)) H2 Q E0)) I
    ⟨ρ, env, st, us, s0, rs, re, f1, fun ρ1 H1 XS x1 rs1 rx => ⟨?_, ρ1, env, s0, ws, s1, rs1, re.mono x1, f2, fun ρ2 H2 ZS x2 rs2 rz => ⟨?_, kw_end rs2 ((rx.mono x2).append rz) ev fun ρ' H' x x3 rs3 r3 => k ρ' H' x ((x1.trans x2).trans x3) rs3 r3⟩⟩⟩) fun uv s2 ⟨xs, H1, I1, r1, hxl, q1⟩ => ?_) hpl he
  · rw [← rx.length, evals_len _ _ _ _ _ f1, hl0]
  · rw [← rz.length, evals_len _ _ _ _ _ f2, hl]
  · refine thn (hs.run pos pins s2 σ H1 _ I1 q1) fun wv s3 ⟨zs, H2, I2, rz, hzl, q2⟩ => ⟨I2.kIn, ?_⟩
    rw [hks]
    exact run_kw (q := (f, m, ks, perm, [])) rfl F hr (hkw _ hq rfl) (show uv.length = m by rw [← r1.length]; exact hxl) (by rw [← rz.length]; exact hzl) I2 r1 rz q2
/-! ### calls that leave defaults -/
theorem evals_cons_con {env : Ir.Env} {st : Ir.Store} : ∀ ds : List Ir.D, Ir.evals C (ds.map Ir.Ex.con) env st = .ok (ds.map Ir.Val.d) st
  | [] => by simp [Ir.evals]
  | d :: ds => by
    have ih := evals_cons_con (env := env) (st := st) ds
    simp [Ir.evals, Ir.eval, ih]
theorem RDs.rvs {ρ : Rho} {K : PySem.W.Frag} {H : Hp} : ∀ {ds : List Ir.D} {vs : List V}, RDs ρ K H ds vs → RVs ρ K H (ds.map Ir.Val.d) vs
  | _, _, .nil => .nil
  | _, _, .cons h r => .cons (show RV ρ K H (.d _) _ from h) (RDs.rvs r)
theorem se_callD {T : Ir.Tab} {KW : List Kw} {n m : Nat} {f : String} {fn : Ir.Fn} {perm : List Nat} {ds : List Ir.D} {e : Expr} {es : List Expr} {is js : List Ir.Ex} {p pos : Pos} (ft : FT T KW n X.prog X.w X.K X.mg X.base) (hT : T f = some fn) (hq : (f, m, [], perm, ds) ∈ KW) (hr : Room n X.A) (ha : SEs X (Ir.callN T n) (e :: es) is) (hl0 : is.length = m := by rfl) (hj : js = ds.map Ir.Ex.con := by rfl) (hg : Gl X (Str.ofString f) := by rfl)
    (hx : fn.x = false := by rfl) (hdb : (Str.ofString f == ("__debug__" : Str)) = false := by decide) (he : starEach (e :: es) X.env = (false, eval e X.env) :: starEach es X.env := by rfl) (hpl : (backTo pos (starEach es X.env)).any (·.1) = false := by rfl) :
    SE X (Ir.callN T n) (.Call (.Name (Str.ofString f) p) (e :: es) [] pos) (.callP f (is ++ js) perm) := by
  subst hj
  obtain ⟨a, fd, ps, F, hm, hk, hb, hkw⟩ := ft.ok f fn hT hx
  refine ⟨fun pins s σ H Q I h => ?_⟩
  obtain ⟨ρ, env, st, v, st', rs, re, ev, k⟩ := h
  simp only [Ir.eval] at ev
  obtain ⟨vs, s1, e1, ev⟩ := bok ev
  obtain ⟨us, ws, s0, f1, f2, rfl⟩ := evals_append e1
  rw [evals_cons_con] at f2
  cases f2
  refine wpAny_Call_Name_kw (ld_glob I hg hm ?_ hdb)
  refine PySem.W.callWith_K (h₀ := X.base) I.ok.mod.kin hk (thn (ha.run pos pins s σ H (fun xs H1 => xs.length = m ∧ ∀ dvs, (∀ ρ H, RDs ρ X.K H ds dvs) → spI T n X.K f (permV perm (xs ++ [] ++ dvs)) H1 Q E0) I
    ⟨ρ, env, st, us, _, rs, re, f1, fun ρ1 H1 XS x1 rs1 rx => ⟨?_, fun dvs hd => ?_⟩⟩) fun uv s2 ⟨xs, H1, I1, r1, hxl, q1⟩ => ⟨I1.kIn, ?_⟩) he hpl
  · rw [← rx.length, evals_len _ _ _ _ _ f1, hl0]
  · rw [List.append_nil]
    exact kw_end rs1 (rx.append (RDs.rvs (hd ρ1 H1))) ev fun ρ' H' x x3 rs3 r3 => k ρ' H' x (x1.trans x3) rs3 r3
  · exact run_kwD (q := (f, m, [], perm, ds)) (ws := []) (zs := []) F hr (hkw _ hq rfl) (show uv.length = m by rw [← r1.length]; exact hxl) rfl I1 r1 .nil q1
end Snd

namespace Snd
open PySem PySem.Spec PyProof.Rows L2
variable {X : Cx} {C : Ir.Calls}
/-! ### built-in calls -/
theorem callR_or {f : Value} {r r' : List V → Hp → VK → Prop} (h : CallR X f r) (h' : CallR X f r') : CallR X f (fun xs H Q => r xs H Q ∨ r' xs H Q) := by
  intro pins s σ H xs us Q I r q
  rcases q with q | q
  · exact h pins s σ H xs us Q I r q
  · exact h' pins s σ H xs us Q I r q
theorem callR_imp {f : Value} {r r' : List V → Hp → VK → Prop} (h : CallR X f r) (w : ∀ xs H Q, r' xs H Q → r xs H Q) : CallR X f r' := fun pins s σ H xs us Q I r q => h pins s σ H xs us Q I r (w _ _ _ q)
def rB (K : PySem.W.Frag) (f : Ir.Bi) : List V → Hp → VK → Prop := fun xs H Q => ∃ ρ st vs v st', RS ρ K st H ∧ RVs ρ K H vs xs ∧ Ir.bltV f vs st = .ok v st' ∧ ∀ ρ' H' x, Ext ρ H ρ' H' → RS ρ' K st' H' → RV ρ' K H' v x → Q x H'
inductive VDs (ρ : Rho) (K : PySem.W.Frag) (H : Hp) : List Ir.D → List V → Prop
  | nil : VDs ρ K H [] []
  | cons {x : Ir.D} {xs : List Ir.D} {y : V} {ys : List V} : VD ρ K H x y → VDs ρ K H xs ys → VDs ρ K H (x :: xs) (y :: ys)
theorem VDs.derefs {ρ : Rho} {K : PySem.W.Frag} {H : Hp} {st : Ir.Store} (rs : RS ρ K st H) : ∀ {vs : List Ir.Val} {xs : List V} {ds : List Ir.D}, RVs ρ K H vs xs → Ir.derefs st vs = some ds → VDs ρ K H ds xs
  | [], _, _, .nil, e => by simp [Ir.derefs] at e; subst e; exact .nil
  | v :: vs, _, _, .cons h r, e => by
    simp only [Ir.derefs] at e
    split at e
    · rename_i d ds h1 h2
      cases e
      exact .cons (.deref rs h h1) (VDs.derefs rs r h2)
    · cases e
theorem bltD_inv {f : Ir.Bi} {vs : List Ir.Val} {st st' : Ir.Store} {v : Ir.Val} (h : Ir.bltD f vs st = .ok v st') : st' = st ∧ ∃ ds r, Ir.derefs st vs = some ds ∧ Ir.D.blt f ds = some r ∧ v = .d r := by
  unfold Ir.bltD at h
  split at h
  · rename_i ds hds
    split at h
    · rename_i r hr
      cases h
      exact ⟨rfl, ds, r, hds, hr, rfl⟩
    · cases h
  · cases h
theorem not_len {f : Ir.Bi} (h : f ≠ .len ∧ f ≠ .zip ∧ f ≠ .enum ∧ f ≠ .zipS) {vs : List Ir.Val} {st st' : Ir.Store} {v : Ir.Val} (e : Ir.bltV f vs st = .ok v st') : st' = st ∧ ∃ ds r, Ir.derefs st vs = some ds ∧ Ir.D.blt f ds = some r ∧ v = .d r := by
  unfold Ir.bltV at e
  split at e
  · exact absurd rfl h.1
  · exact absurd rfl h.2.1
  · exact absurd rfl h.2.2.1
  · exact absurd rfl h.2.2.2
  · exact bltD_inv e
theorem zip_inv {vs : List Ir.Val} {st st' : Ir.Store} {v : Ir.Val} (e : Ir.bltV .zip vs st = .ok v st') : st' = st ∧ ∃ ds r, Ir.asDs vs = some ds ∧ Ir.D.bZip ds = some r ∧ v = .d r := by
  have e : (match Ir.asDs vs with | some _ => Ir.bltD .zip vs st | none => Ir.Res.bad) = .ok v st' := e
  split at e
  · rename_i ds hds
    obtain ⟨h1, ds', r, h2, h3, h4⟩ := bltD_inv e
    have : ∀ {vs : List Ir.Val} {ds : List Ir.D}, Ir.asDs vs = some ds → Ir.derefs st vs = some ds := by
      intro vs
      induction vs with
      | nil => intro ds h; simp [Ir.asDs] at h; subst h; rfl
      | cons v vs ih =>
        intro ds h
        cases v with
        | ref _ => simp [Ir.asDs] at h
        | d x =>
          simp only [Ir.asDs, Option.map_eq_some_iff] at h
          obtain ⟨ds, h1, rfl⟩ := h
          simp [Ir.derefs, Ir.deref, ih h1]
    rw [this hds] at h2
    cases h2
    exact ⟨h1, _, r, hds, h3, h4⟩
  · cases e
theorem blt_len : CallR X (.builtin "len") (rB X.K .len) := by
  refine callR_imp (callR_or (callR_or call_len_seq call_lenD) call_len_str) fun xs H Q ⟨ρ, st, vs, v, st', rs, rv, ev, k⟩ => ?_
  have ev : (match Ir.lenDic vs st with | some n => Ir.Res.ok (Ir.Val.d (.int n)) st | none => Ir.bltD .len vs st) = .ok v st' := ev
  split at ev
  · rename_i n hn
    cases ev
    unfold Ir.lenDic at hn
    split at hn
    · rename_i m
      split at hn
      · rename_i kvs hk
        cases hn
        cases rv with
        | cons rv t =>
          cases t
          obtain ⟨a, rfl, _, ks, h2, h3, h4⟩ := RV.cell rs rv hk (by simp)
          refine .inl (.inr ⟨a, ks, rfl, h2, ?_⟩)
          rw [← h4.length]
          exact k ρ H _ (.refl _ _) rs (.int _)
      · cases hn
    · cases hn
  · obtain ⟨rfl, ds, r, h1, h2, rfl⟩ := bltD_inv ev
    have vd := VDs.derefs rs rv h1
    simp only [Ir.D.blt] at h2
    unfold Ir.D.bLen at h2
    split at h2
    · cases h2
      cases vd with
      | cons vd t =>
        cases t
        obtain ⟨a, ys, rfl, t, z, r⟩ := RD.ro_inv vd
        refine .inl (.inl ⟨a, ys, rfl, .inl t.sq, ?_⟩)
        rw [← r.length]
        exact k ρ H _ (.refl _ _) rs (.int _)
    · cases h2
      cases vd with
      | cons vd t =>
        cases t
        obtain ⟨a, ys, rfl, t, z, r⟩ := RD.tup_inv vd
        refine .inl (.inl ⟨a, ys, rfl, .inr t.sq, ?_⟩)
        rw [← r.length]
        exact k ρ H _ (.refl _ _) rs (.int _)
    · cases h2
      cases vd with
      | cons vd t =>
        cases t
        obtain ⟨a, ys, rfl, t, z, r⟩ := vd
        refine .inl (.inl ⟨a, ys, rfl, .inl (SqL.of t), ?_⟩)
        rw [← r.length]
        exact k ρ H _ (.refl _ _) rs (.int _)
    · rename_i z
      split at h2
      · rename_i hl
        cases h2
        cases vd with
        | cons vd t =>
          cases t
          refine .inr ⟨_, by rw [RD.str_inv vd], by rw [ofString_len, ← lim_eq]; exact hl, ?_⟩
          rw [ofString_len]
          exact k ρ H _ (.refl _ _) rs (.int _)
      · cases h2
    · cases h2
theorem blt_abs : CallR X (.builtin "abs") (rB X.K .abs) := by
  refine callR_imp call_abs fun xs H Q ⟨ρ, st, vs, v, st', rs, rv, ev, k⟩ => ?_
  obtain ⟨rfl, ds, r, h1, h2, rfl⟩ := not_len (by decide) ev
  have vd := VDs.derefs rs rv h1
  simp only [Ir.D.blt] at h2
  unfold Ir.D.bAbs at h2
  split at h2
  · cases h2
    cases vd with
    | cons vd t =>
      cases t
      exact ⟨_, by rw [RD.int_inv vd], k ρ H _ (.refl _ _) rs (.int _)⟩
  · cases h2
theorem blt_tuple : CallR X (.type "tuple") (rB X.K .tuple) := by
  refine callR_imp call_tuple_of fun xs H Q ⟨ρ, st, vs, v, st', rs, rv, ev, k⟩ => ?_
  obtain ⟨rfl, ds, r, h1, h2, rfl⟩ := not_len (by decide) ev
  have vd := VDs.derefs rs rv h1
  simp only [Ir.D.blt] at h2
  unfold Ir.D.bTuple at h2
  split at h2
  · cases h2
    cases vd with
    | cons vd t =>
      cases t
      obtain ⟨a, ys, rfl, t, z, r⟩ := RD.tup_inv vd
      exact ⟨a, ys, rfl, .inr ⟨t.sq, k ρ H _ (.refl _ _) rs (RD.tup t z r)⟩⟩
  · cases h2
    cases vd with
    | cons vd t =>
      cases t
      obtain ⟨a, ys, rfl, t, z, r⟩ := vd
      exact ⟨a, ys, rfl, .inl ⟨SqL.of t, fun p hp => k ρ _ _ (.grow rs hp _) (rs.grow hp _) (grow_tup rs r z hp)⟩⟩
  · cases h2
theorem bools_ok {ρ : Rho} {K : PySem.W.Frag} {H : Hp} : ∀ {xs : List Ir.D} {ys : List V} {bs : List Bool}, RDs ρ K H xs ys → Ir.D.bools xs = some bs → ys = bs.map V.bl
  | [], _, _, .nil, e => by simp [Ir.D.bools] at e; subst e; rfl
  | x :: xs, _, _, .cons h r, e => by
    cases x <;> simp [Ir.D.bools] at e
    obtain ⟨bs, e1, rfl⟩ := e
    rw [RD.bool_inv h, bools_ok r e1]; rfl
theorem ints_ok {ρ : Rho} {K : PySem.W.Frag} {H : Hp} : ∀ {xs : List Ir.D} {ys : List V} {bs : List Int}, RDs ρ K H xs ys → Ir.D.ints xs = some bs → ys = bs.map V.int
  | [], _, _, .nil, e => by simp [Ir.D.ints] at e; subst e; rfl
  | x :: xs, _, _, .cons h r, e => by
    cases x <;> simp [Ir.D.ints] at e
    obtain ⟨bs, e1, rfl⟩ := e
    rw [RD.int_inv h, ints_ok r e1]; rfl
theorem blt_all (hc : X.calm = true) : CallR X (.builtin "all") (rB X.K .all) := by
  refine callR_imp (cr_all hc) fun xs H Q ⟨ρ, st, vs, v, st', rs, rv, ev, k⟩ => ?_
  obtain ⟨rfl, ds, r, h1, h2, rfl⟩ := not_len (by decide) ev
  have vd := VDs.derefs rs rv h1
  simp only [Ir.D.blt] at h2
  unfold Ir.D.bAll at h2
  split at h2
  · simp only [Option.map_eq_some_iff] at h2
    obtain ⟨bs, e1, rfl⟩ := h2
    cases vd with
    | cons vd t =>
      cases t
      obtain ⟨a, ys, rfl, t, z, r⟩ := vd
      exact ⟨a, bs, rfl, by rw [← bools_ok r e1]; exact SqL.of t, k ρ H _ (.refl _ _) rs (.bool _)⟩
  · cases h2
theorem blt_any (hc : X.calm = true) : CallR X (.builtin "any") (rB X.K .any) := by
  refine callR_imp (cr_any hc) fun xs H Q ⟨ρ, st, vs, v, st', rs, rv, ev, k⟩ => ?_
  obtain ⟨rfl, ds, r, h1, h2, rfl⟩ := not_len (by decide) ev
  have vd := VDs.derefs rs rv h1
  simp only [Ir.D.blt] at h2
  unfold Ir.D.bAny at h2
  split at h2
  · simp only [Option.map_eq_some_iff] at h2
    obtain ⟨bs, e1, rfl⟩ := h2
    cases vd with
    | cons vd t =>
      cases t
      obtain ⟨a, ys, rfl, t, z, r⟩ := vd
      exact ⟨a, bs, rfl, by rw [← bools_ok r e1]; exact SqL.of t, k ρ H _ (.refl _ _) rs (.bool _)⟩
  · cases h2
theorem blt_sum (hc : X.calm = true) : CallR X (.builtin "sum") (rB X.K .sum) := by
  refine callR_imp (cr_sum hc) fun xs H Q ⟨ρ, st, vs, v, st', rs, rv, ev, k⟩ => ?_
  obtain ⟨rfl, ds, r, h1, h2, rfl⟩ := not_len (by decide) ev
  have vd := VDs.derefs rs rv h1
  simp only [Ir.D.blt] at h2
  unfold Ir.D.bSum at h2
  split at h2
  · simp only [Option.map_eq_some_iff] at h2
    obtain ⟨bs, e1, rfl⟩ := h2
    cases vd with
    | cons vd t =>
      cases t
      obtain ⟨a, ys, rfl, t, z, r⟩ := vd
      exact ⟨a, bs, rfl, by rw [← ints_ok r e1]; exact SqL.of t, k ρ H _ (.refl _ _) rs (.int _)⟩
  · cases h2
theorem blt_min (hc : X.calm = true) : CallR X (.builtin "min") (rB X.K .min) := by
  refine callR_imp (call_min2 hc) fun xs H Q ⟨ρ, st, vs, v, st', rs, rv, ev, k⟩ => ?_
  obtain ⟨rfl, ds, r, h1, h2, rfl⟩ := not_len (by decide) ev
  have vd := VDs.derefs rs rv h1
  simp only [Ir.D.blt] at h2
  unfold Ir.D.bMin at h2
  split at h2
  · cases h2
    cases vd with
    | cons vd t =>
      cases t with
      | cons vd2 t =>
        cases t
        exact ⟨_, _, by rw [RD.int_inv vd, RD.int_inv vd2], k ρ H _ (.refl _ _) rs (.int _)⟩
  · cases h2
theorem blt_max (hc : X.calm = true) : CallR X (.builtin "max") (rB X.K .max) := by
  refine callR_imp (call_max2 hc) fun xs H Q ⟨ρ, st, vs, v, st', rs, rv, ev, k⟩ => ?_
  obtain ⟨rfl, ds, r, h1, h2, rfl⟩ := not_len (by decide) ev
  have vd := VDs.derefs rs rv h1
  simp only [Ir.D.blt] at h2
  unfold Ir.D.bMax at h2
  split at h2
  · cases h2
    cases vd with
    | cons vd t =>
      cases t with
      | cons vd2 t =>
        cases t
        exact ⟨_, _, by rw [RD.int_inv vd, RD.int_inv vd2], k ρ H _ (.refl _ _) rs (.int _)⟩
  · cases h2
theorem se_blt {f : Ir.Bi} {x : String} {e : Expr} {es : List Expr} {is : List Ir.Ex} {p pos : Pos} (hc : CallR X (.builtin x) (rB X.K f)) (hs : SEs X C (e :: es) is) (hm : X.mg (Str.ofString x) = none) (hv : bootBuiltins (Str.ofString x) = some (.builtin x)) (hg : Gl X (Str.ofString x) := by rfl)
    (hn : Str.ofString x ≠ "__name__" := by decide) (hdb : (Str.ofString x == ("__debug__" : Str)) = false := by decide) (he : starEach (e :: es) X.env = (false, eval e X.env) :: starEach es X.env := by rfl) (hpl : (backTo pos (starEach es X.env)).any (·.1) = false := by rfl) :
    SE X C (.Call (.Name (Str.ofString x) p) (e :: es) [] pos) (.blt f is) := by
  refine pe_imp (pe_callB hc hg hm hv hs hn hdb he hpl) fun σ H Q ⟨ρ, env, st, v, st', rs, re, ev, k⟩ => ?_
  simp only [Ir.eval] at ev
  obtain ⟨vs, s1, e1, ev⟩ := bok ev
  exact ⟨ρ, env, st, vs, s1, rs, re, e1, fun ρ1 H1 XS x1 rs1 rx => ⟨ρ1, s1, vs, v, st', rs1, rx, ev, fun ρ' H' x x2 rs2 r2 => k ρ' H' x (x1.trans x2) rs2 r2⟩⟩
theorem se_bltT {f : Ir.Bi} {x : String} {e : Expr} {es : List Expr} {is : List Ir.Ex} {p pos : Pos} (hc : CallR X (.type x) (rB X.K f)) (hs : SEs X C (e :: es) is) (hm : X.mg (Str.ofString x) = none) (hv : bootBuiltins (Str.ofString x) = some (.type x)) (hg : Gl X (Str.ofString x) := by rfl)
    (hn : Str.ofString x ≠ "__name__" := by decide) (hdb : (Str.ofString x == ("__debug__" : Str)) = false := by decide) (he : starEach (e :: es) X.env = (false, eval e X.env) :: starEach es X.env := by rfl) (hpl : (backTo pos (starEach es X.env)).any (·.1) = false := by rfl) :
    SE X C (.Call (.Name (Str.ofString x) p) (e :: es) [] pos) (.blt f is) := by
  refine pe_imp (pe_callTy hc hg hm hv hs hn hdb he hpl) fun σ H Q ⟨ρ, env, st, v, st', rs, re, ev, k⟩ => ?_
  simp only [Ir.eval] at ev
  obtain ⟨vs, s1, e1, ev⟩ := bok ev
  exact ⟨ρ, env, st, vs, s1, rs, re, e1, fun ρ1 H1 XS x1 rs1 rx => ⟨ρ1, s1, vs, v, st', rs1, rx, ev, fun ρ' H' x x2 rs2 r2 => k ρ' H' x (x1.trans x2) rs2 r2⟩⟩
/-- list(x): a new list -/
theorem sn_list {e : Expr} {i : Ir.Ex} {p pos : Pos} (h : SE X C e i) (hm : X.mg (Str.ofString "list") = none) (hv : bootBuiltins (Str.ofString "list") = some (.type "list")) (hg : Gl X (Str.ofString "list") := by rfl)
    (he : starEach [e] X.env = (false, eval e X.env) :: starEach [] X.env := by rfl) (hpl : (backTo pos (starEach [] X.env)).any (·.1) = false := by rfl) :
    SN X C (.Call (.Name (Str.ofString "list") p) [e] [] pos) (.blt .list [i]) := by
  refine pe_imp (pe_callTy call_list_of hg hm hv (pa_cons h pa_nil he) (by decide) (by decide) he hpl) fun σ H Q ⟨ρ, env, st, xs, st', rs, re, ev, k⟩ => ?_
  simp only [Ir.eval, Ir.evals] at ev
  obtain ⟨vs, s1, e1, ev⟩ := bok ev
  obtain ⟨v, s2, e2, e1⟩ := bok e1
  simp only [Ir.Res.bind_ok] at e1
  cases e1
  obtain ⟨rfl, ds, r, h1, h2, h3⟩ := not_len (by decide) ev
  cases h3
  refine ⟨ρ, env, st, v, _, rs, re, e2, fun ρ1 H1 V1 x1 rs1 rv => ?_⟩
  have vd := VDs.derefs rs1 (.cons rv .nil) h1
  simp only [Ir.D.blt] at h2
  unfold Ir.D.bList at h2
  split at h2
  · cases h2
    cases vd with
    | cons vd t =>
      cases t
      obtain ⟨a, ys, rfl, t, z, r⟩ := RD.tup_inv vd
      exact ⟨a, ys, rfl, .inr t.sq, fun l hl => sn_fin x1 rs1 r z hl k⟩
  · cases h2
    cases vd with
    | cons vd t =>
      cases t
      obtain ⟨a, ys, rfl, t, z, r⟩ := vd
      exact ⟨a, ys, rfl, .inl (SqL.of t), fun l hl => sn_fin x1 rs1 r z hl k⟩
  · cases h2
theorem is_list {is : List Ir.Ex} : ∀ env st v st', Ir.eval C (.blt .list is) env st = .ok v st' → ∃ xs, v = .d (.lst xs) := fun env st v st' ev => by
  simp only [Ir.eval] at ev
  obtain ⟨vs, s1, e1, ev⟩ := bok ev
  obtain ⟨_, ds, r, _, h2, rfl⟩ := not_len (by decide) ev
  simp only [Ir.D.blt] at h2
  unfold Ir.D.bList at h2
  split at h2
  · cases h2; exact ⟨_, rfl⟩
  · cases h2; exact ⟨_, rfl⟩
  · cases h2
/-! ### isinstance -/
def dTy : Ir.D → String
  | .non => "NoneType" | .bool _ => "bool" | .int _ => "int" | .str _ => "str" | .tup _ => "tuple" | .lst _ => "list" | .ro _ => "list"
theorem VD.ty {ρ : Rho} {K : PySem.W.Frag} {H : Hp} {d : Ir.D} {x : V} (h : VD ρ K H d x) : TyX K H x (.type (dTy d)) := by
  cases d with
  | non => rw [RD.non_inv h]; exact .base .non
  | bool b => rw [RD.bool_inv h]; exact .base (.bl b)
  | int i => rw [RD.int_inv h]; exact .base (.int i)
  | str s => rw [RD.str_inv h]; exact .base (.str _)
  | tup xs =>
    obtain ⟨a, ys, rfl, t, z, r⟩ := RD.tup_inv h
    rcases t with ⟨t, _⟩ | ⟨o, its, n, h1, h2, _⟩
    · rcases t with t | ⟨o, t⟩
      · exact .base (.tup t)
      · exact .fTuple t
    · exact .kTuple h1 h2
  | lst xs =>
    obtain ⟨a, ys, rfl, t, z, r⟩ := h
    exact .base (.lst t)
  | ro xs =>
    obtain ⟨a, ys, rfl, t, z, r⟩ := RD.ro_inv h
    rcases t with ⟨⟨o, t⟩, _⟩ | ⟨o, its, n, h1, h2, _⟩
    · exact .base (.frz t)
    · exact .kList h1 h2
theorem kit_dTy (d : Ir.D) (c : Ir.Ty) : kitB (dTy d) c.name = some (d.tyOk c) := by
  cases d <;> cases c <;> simp only [dTy, Ir.Ty.name, Ir.D.tyOk] <;> decide +kernel
end Snd

namespace Snd
open PySem PySem.Spec PyProof.Rows L2
variable {X : Cx} {C : Ir.Calls}
/-! ### isinstance -/
abbrev STy (X : Cx) (es : List Expr) (ts : List Ir.Ty) : Prop := PA X es (fun _ H Q => Q (ts.map fun t => V.ty t.name) H)
theorem sty_nil : STy X [] [] := pa_nil
theorem sty_cons {es : List Expr} {ts : List Ir.Ty} {t : Ir.Ty} {p : Pos} (hs : STy X es ts) (hm : X.mg (Str.ofString t.name) = none) (hv : bootBuiltins (Str.ofString t.name) = some (.type t.name)) (hg : Gl X (Str.ofString t.name) := by rfl) (hn : Str.ofString t.name ≠ "__name__" := by decide) (hd : (Str.ofString t.name == ("__debug__" : Str)) = false := by decide)
    (hst : starEach (.Name (Str.ofString t.name) p :: es) X.env = (false, eval (.Name (Str.ofString t.name) p) X.env) :: starEach es X.env := by rfl) : STy X (.Name (Str.ofString t.name) p :: es) (t :: ts) :=
  pa_imp (pa_cons (pe_bltn (v := .ty t.name) hg hm hv rfl hn hd) hs hst) fun σ H Q q => q
theorem kitAny_ok {K : PySem.W.Frag} (d : Ir.D) : ∀ ts : List Ir.Ty, PySem.W.kitAny K (.type (dTy d)) (ts.map fun t => Value.type t.name) = some (ts.any fun t => d.tyOk t)
  | [] => rfl
  | t :: ts => by
    simp only [List.map_cons, List.any_cons]
    refine kitAny_cons (b := d.tyOk t) (kit_ty (kit_dTy d t)) (fun h => ?_) (fun h => ?_)
    · rw [h]; simpa using kitAny_ok d ts
    · rw [h]; rfl
theorem cls_all : ∀ ts : List Ir.Ty, Paired ClsV (ts.map fun t => V.ty t.name) (ts.map fun t => Value.type t.name)
  | [] => .nil
  | t :: ts => .cons (.ty _) (cls_all ts)
theorem se_isiT {e : Expr} {es : List Expr} {i : Ir.Ex} {ts : List Ir.Ty} {p pos p1 : Pos} {k1} (h : SE X C e i) (hs : STy X es ts) (hm : X.mg (Str.ofString "isinstance") = none) (hl : ts.length ≤ sizeLine := by decide) (hg : Gl X (Str.ofString "isinstance") := by rfl)
    (hv : bootBuiltins (Str.ofString "isinstance") = some (.builtin "isinstance") := by decide +kernel)
    (hst : starEach [e, .Tuple es k1 p1] X.env = (false, eval e X.env) :: starEach [.Tuple es k1 p1] X.env := by rfl) (hst2 : starEach [.Tuple es k1 p1] X.env = (false, eval (.Tuple es k1 p1) X.env) :: starEach [] X.env := by rfl) (hpl : (backTo pos (starEach [.Tuple es k1 p1] X.env)).any (·.1) = false := by rfl) :
    SE X C (.Call (.Name (Str.ofString "isinstance") p) [e, .Tuple es k1 p1] [] pos) (.isi i ts) := by
  refine pe_imp (pe_callB call_isiT hg hm hv (pa_cons h (pa_cons (pe_tup hs) pa_nil hst2) hst) (by decide) (by decide) hst hpl) fun σ H Q ⟨ρ, env, st, v, st', rs, re, ev, k⟩ => ?_
  simp only [Ir.eval] at ev
  obtain ⟨x, s1, e1, ev⟩ := bok ev
  obtain ⟨d, e2, ev⟩ := ook ev
  cases ev
  refine ⟨ρ, env, st, x, _, rs, re, e1, fun ρ1 H1 X1 x1 rs1 rx => ⟨by simpa using hl, fun tp hp => ?_⟩⟩
  have x2 : Ext ρ1 H1 ρ1 (upd H1 tp (.tup (ts.map fun t => V.ty t.name))) := .grow rs1 hp _
  have rs2 := rs1.grow hp (.tup (ts.map fun t => V.ty t.name))
  have vd : VD ρ1 X.K _ d X1 := VD.deref rs2 (rx.mono x2) e2
  exact ⟨X1, tp, _, _, _, _, rfl, upd_same, cls_all ts, vd.ty, kitAny_ok d ts, k ρ1 _ _ (x1.trans x2) rs2 (.bool _)⟩
theorem se_isi {e : Expr} {i : Ir.Ex} {t : Ir.Ty} {p pos p1 : Pos} (h : SE X C e i) (hs : STy X [.Name (Str.ofString t.name) p1] [t]) (hm : X.mg (Str.ofString "isinstance") = none) (hg : Gl X (Str.ofString "isinstance") := by rfl)
    (hv : bootBuiltins (Str.ofString "isinstance") = some (.builtin "isinstance") := by decide +kernel)
    (hst : starEach [e, .Name (Str.ofString t.name) p1] X.env = (false, eval e X.env) :: starEach [.Name (Str.ofString t.name) p1] X.env := by rfl) (hpl : (backTo pos (starEach [.Name (Str.ofString t.name) p1] X.env)).any (·.1) = false := by rfl) :
    SE X C (.Call (.Name (Str.ofString "isinstance") p) [e, .Name (Str.ofString t.name) p1] [] pos) (.isi i [t]) := by
  refine pe_imp (pe_callB call_isi hg hm hv (pa_cons h hs hst) (by decide) (by decide) hst hpl) fun σ H Q ⟨ρ, env, st, v, st', rs, re, ev, k⟩ => ?_
  simp only [Ir.eval] at ev
  obtain ⟨x, s1, e1, ev⟩ := bok ev
  obtain ⟨d, e2, ev⟩ := ook ev
  cases ev
  refine ⟨ρ, env, st, x, _, rs, re, e1, fun ρ1 H1 X1 x1 rs1 rx => ?_⟩
  have vd : VD ρ1 X.K _ d X1 := VD.deref rs1 rx e2
  have := k ρ1 _ _ x1 rs1 (.bool _)
  simp only [List.any_cons, List.any_nil, Bool.or_false] at this
  exact ⟨X1, _, _, _, _, rfl, .ty _, vd.ty, kit_ty (kit_dTy d t), this⟩
/-! ### methods -/
theorem mthOk_lst {m : Ir.Mt} {o : Ir.Val} {st : Ir.Store} (hm : m = .append ∨ m = .extend ∨ m = .pop) (h : Ir.mthOk m o st = true) : ∃ n xs, o = .ref n ∧ st[n]? = some (.lst xs) := by
  unfold Ir.mthOk at h
  split at h
  all_goals first
    | (cases h; done)
    | (split at h
       · rename_i n _ xs hx; exact ⟨_, xs, rfl, hx⟩
       · cases h)
    | (rcases hm with hm | hm | hm <;> cases hm)
theorem mthOk_dic {m : Ir.Mt} {o : Ir.Val} {st : Ir.Store} (hm : m = .setdefault ∨ m = .get) (h : Ir.mthOk m o st = true) : ∃ n kvs, o = .ref n ∧ st[n]? = some (.dic kvs) := by
  unfold Ir.mthOk at h
  split at h
  all_goals first
    | (cases h; done)
    | (split at h
       · rename_i n _ xs hx; exact ⟨_, xs, rfl, hx⟩
       · cases h)
    | (rcases hm with hm | hm <;> cases hm)
theorem tyV_lst {ρ : Rho} {K : PySem.W.Frag} {H : Hp} {st : Ir.Store} {n : Nat} {xs : List Ir.D} {x : V} (rs : RS ρ K st H) (r : RV ρ K H (.ref n) x) (h : st[n]? = some (.lst xs)) : tyV K "list" x H := by
  obtain ⟨a, rfl, h1, ys, h2, h3, h4⟩ := RV.cell rs r h (by simp)
  exact .inl ⟨rfl, ys, SqL.of h2⟩
theorem mth_ev {m : Ir.Mt} {io : Ir.Ex} {is : List Ir.Ex} {env : Ir.Env} {st st' : Ir.Store} {v : Ir.Val} (ev : Ir.eval C (.mth m io is) env st = .ok v st') : ∃ x s1 vs s2, Ir.eval C io env st = .ok x s1 ∧ Ir.mthOk m x s1 = true ∧ Ir.evals C is env s1 = .ok vs s2 ∧ Ir.mthV m x vs s2 = .ok v st' := by
  simp only [Ir.eval] at ev
  obtain ⟨x, s1, e1, ev⟩ := bok ev
  split at ev
  · rename_i hk
    obtain ⟨vs, s2, e2, ev⟩ := bok ev
    exact ⟨x, s1, vs, s2, e1, hk, e2, ev⟩
  · cases ev
section
variable {o e : Expr} {io ie : Ir.Ex} {apos cpos : Pos}
theorem se_append (ho : SE X C o io) (he : SE X C e ie) (hbase : attributeBase o (Str.ofString "append") X.env (eval o X.env) = eval o X.env := by rfl)
    (hfew : ((backTo cpos (starEach [e] X.env)).all (fun x => !x.1) && (backToKw cpos (keywordEach [] X.env)).all (fun x => x.1.isSome) && decide (([e] : List Expr).length + ([] : List Keyword).length + (if ([] : List Keyword).isEmpty then 0 else 1) < 30)) = true := by rfl)
    (hline : (apos.endLine == cpos.line) = true := by rfl) (hs : starEach [e] X.env = (false, eval e X.env) :: starEach [] X.env := by rfl) (hpl : (backTo cpos (starEach [] X.env)).any (·.1) = false := by rfl) :
    SE X C (.Call (.Attribute o (Str.ofString "append") apos) [e] [] cpos) (.mth .append io [ie]) := by
  refine pe_imp (pe_bm PySem.F.plainAttrs_list PySem.F.slot_list_append PySem.F.type_list_append mt_append ho (pa_cons he pa_nil hs) hbase hfew hline hs hpl) fun σ H Q ⟨ρ, env, st, v, st', rs, re, ev, k⟩ => ?_
  obtain ⟨x, s1, vs, s2, e1, hk, e2, ev⟩ := mth_ev ev
  obtain ⟨n, ys, rfl, hn⟩ := mthOk_lst (.inl rfl) hk
  simp only [Ir.evals] at e2
  obtain ⟨y, s3, e2, e3⟩ := bok e2
  simp only [Ir.Res.bind_ok] at e3
  cases e3
  refine ⟨ρ, env, st, _, s1, rs, re, e1, fun ρ1 H1 X1 x1 rs1 rx => ⟨tyV_lst rs1 rx hn, ρ1, env, s1, y, _, rs1, re.mono x1, e2, fun ρ2 H2 Y x2 rs2 ry => ?_⟩⟩
  have w0 : Ir.mAppend n s2 [y] = .ok v st' := ev
  clear ev
  unfold Ir.mAppend at w0
  split at w0
  · rename_i d hd
    cases hd
    split at w0
    · rename_i xs hx
      split at w0
      · rename_i hl
        cases w0
        obtain ⟨a, rfl, h1, zs, h2, h3, h4⟩ := RV.cell rs2 (rx.mono x2) hx (by simp)
        have hz : zs.length < sizeLine := by rw [← h4.length, ← lim_eq]; exact hl
        refine ⟨a, zs, Y, rfl, rfl, h2, hz, ?_⟩
        have w : Ext ρ2 H2 ρ2 (upd H2 a (.lst (zs ++ [Y]))) := .write rs2 h1 _
        exact k ρ2 _ _ ((x1.trans x2).trans w) (rs2.write h1 ⟨_, upd_same, by rw [List.length_append]; exact hz, (h4.mono w).append (.cons (ry.mono w) .nil)⟩) .non
      · cases w0
    · cases w0
  · cases w0
theorem se_extend (ho : SE X C o io) (he : SE X C e ie) (hbase : attributeBase o (Str.ofString "extend") X.env (eval o X.env) = eval o X.env := by rfl)
    (hfew : ((backTo cpos (starEach [e] X.env)).all (fun x => !x.1) && (backToKw cpos (keywordEach [] X.env)).all (fun x => x.1.isSome) && decide (([e] : List Expr).length + ([] : List Keyword).length + (if ([] : List Keyword).isEmpty then 0 else 1) < 30)) = true := by rfl)
    (hline : (apos.endLine == cpos.line) = true := by rfl) (hs : starEach [e] X.env = (false, eval e X.env) :: starEach [] X.env := by rfl) (hpl : (backTo cpos (starEach [] X.env)).any (·.1) = false := by rfl) :
    SE X C (.Call (.Attribute o (Str.ofString "extend") apos) [e] [] cpos) (.mth .extend io [ie]) := by
  refine pe_imp (pe_bm PySem.F.plainAttrs_list PySem.F.slot_list_extend PySem.F.type_list_extend mt_extend ho (pa_cons he pa_nil hs) hbase hfew hline hs hpl) fun σ H Q ⟨ρ, env, st, v, st', rs, re, ev, k⟩ => ?_
  obtain ⟨x, s1, vs, s2, e1, hk, e2, ev⟩ := mth_ev ev
  obtain ⟨n, ys, rfl, hn⟩ := mthOk_lst (.inr (.inl rfl)) hk
  simp only [Ir.evals] at e2
  obtain ⟨y, s3, e2, e3⟩ := bok e2
  simp only [Ir.Res.bind_ok] at e3
  cases e3
  refine ⟨ρ, env, st, _, s1, rs, re, e1, fun ρ1 H1 X1 x1 rs1 rx => ⟨tyV_lst rs1 rx hn, ρ1, env, s1, y, _, rs1, re.mono x1, e2, fun ρ2 H2 Y x2 rs2 ry => ?_⟩⟩
  have w0 : Ir.mExtend n s2 [y] = .ok v st' := ev
  clear ev
  unfold Ir.mExtend at w0
  split at w0
  · rename_i d hd
    cases hd
    split at w0
    · rename_i xs hx
      split at w0
      · rename_i hl
        cases w0
        obtain ⟨a, rfl, h1, zs, h2, h3, h4⟩ := RV.cell rs2 (rx.mono x2) hx (by simp)
        obtain ⟨b, ws, rfl, g1, g2, g3⟩ := VD.of ry
        have hz : zs.length + ws.length ≤ sizeLine := by rw [← h4.length, ← g3.length, ← lim_eq]; exact hl
        refine ⟨a, b, zs, ws, rfl, rfl, h2, g1, hz, ?_⟩
        have w : Ext ρ2 H2 ρ2 (upd H2 a (.lst (zs ++ ws))) := .write rs2 h1 _
        exact k ρ2 _ _ ((x1.trans x2).trans w) (rs2.write h1 ⟨_, upd_same, by rw [List.length_append]; exact hz, (h4.mono w).append (g3.mono w)⟩) .non
      · cases w0
    · cases w0
  · cases w0
theorem RDs.dropLast {ρ : Rho} {K : PySem.W.Frag} {H : Hp} {xs : List Ir.D} {ys : List V} (r : RDs ρ K H xs ys) : RDs ρ K H xs.dropLast ys.dropLast := by
  rw [List.dropLast_eq_take, List.dropLast_eq_take, r.length]
  exact r.take _
theorem se_pop (ho : SE X C o io) (hbase : attributeBase o (Str.ofString "pop") X.env (eval o X.env) = eval o X.env := by rfl) (hline : (apos.endLine == cpos.line) = true := by rfl) :
    SE X C (.Call (.Attribute o (Str.ofString "pop") apos) [] [] cpos) (.mth .pop io []) := by
  refine pe_imp (pe_bm0 PySem.F.plainAttrs_list PySem.F.slot_list_pop PySem.F.type_list_pop mt_pop ho hbase hline) fun σ H Q ⟨ρ, env, st, v, st', rs, re, ev, k⟩ => ?_
  obtain ⟨x, s1, vs, s2, e1, hk, e2, ev⟩ := mth_ev ev
  obtain ⟨n, ys, rfl, hn⟩ := mthOk_lst (.inr (.inr rfl)) hk
  simp only [Ir.evals] at e2
  cases e2
  refine ⟨ρ, env, st, _, _, rs, re, e1, fun ρ1 H1 X1 x1 rs1 rx => ⟨tyV_lst rs1 rx hn, ?_⟩⟩
  have w0 : Ir.mPop n s1 [] = .ok v st' := ev
  clear ev
  simp only [Ir.mPop] at w0
  split at w0
  · rename_i xs hx
    split at w0
    · rename_i y hy
      cases w0
      obtain ⟨a, rfl, h1, zs, h2, h3, h4⟩ := RV.cell rs1 rx hx (by simp)
      obtain ⟨w, hw1, hw2⟩ := h4.get hy
      rw [h4.length] at hw1
      refine ⟨a, zs, w, rfl, rfl, h2, hw1, ?_⟩
      have wr : Ext ρ1 H1 ρ1 (upd H1 a (.lst zs.dropLast)) := .write rs1 h1 _
      exact k ρ1 _ _ (x1.trans wr) (rs1.write h1 ⟨_, upd_same, by rw [List.length_dropLast]; omega, h4.dropLast.mono wr⟩) (hw2.mono wr)
    · cases w0
  · cases w0
theorem se_setdefault {f : Expr} {jf : Ir.Ex} (ho : SE X C o io) (he : SE X C e ie) (hf : SE X C f jf) (m : M2 X o (Str.ofString "setdefault") apos e f cpos := by exact ⟨rfl, rfl, rfl, rfl⟩) :
    SE X C (.Call (.Attribute o (Str.ofString "setdefault") apos) [e, f] [] cpos) (.mth .setdefault io [ie, jf]) := by
  refine pe_imp (pe_dsetd ho he hf m) fun σ H Q ⟨ρ, env, st, v, st', rs, re, ev, k⟩ => ?_
  obtain ⟨x, s1, vs, s2, e1, hk, e2, ev⟩ := mth_ev ev
  obtain ⟨n, ys, rfl, hn⟩ := mthOk_dic (.inl rfl) hk
  simp only [Ir.evals] at e2
  obtain ⟨y, s3, f2, e3⟩ := bok e2
  obtain ⟨zs, s4, e3, e4⟩ := bok e3
  obtain ⟨z, s5, f3, e5⟩ := bok e3
  simp only [Ir.Res.bind_ok] at e5
  cases e5
  cases e4
  refine ⟨ρ, env, st, _, s1, rs, re, e1, fun ρ1 H1 X1 x1 rs1 rx => ?_⟩
  obtain ⟨a, rfl, h1, ks, h2, h3, h4⟩ := RV.cell rs1 rx hn (by simp)
  refine ⟨a, rfl, .inl ⟨ks, .inl h2⟩, ρ1, env, s1, y, s3, rs1, re.mono x1, f2, fun ρ2 H2 Y x2 rs2 ry => ⟨ρ2, env, s3, z, _, rs2, re.mono (x1.trans x2), f3, fun ρ3 H3 Z x3 rs3 rz => ?_⟩⟩
  have w0 : Ir.mSetdefault n s2 [y, z] = .ok v st' := ev
  clear ev
  unfold Ir.mSetdefault at w0
  split at w0
  · rename_i kd vd hd
    cases hd
    split at w0
    · rename_i kvs hx
      split at w0
      · rename_i hc
        rw [Bool.and_eq_true] at hc
        obtain ⟨a', e', h1', ks', h2', h3', h4'⟩ := RV.cell rs3 (rx.mono (x2.trans x3)) hx (by simp)
        cases e'
        obtain ⟨k', hk1, rfl⟩ := RK.kv (ry.mono x3) hc.1
        have hlen : ks'.length < sizeLine := by rw [← h4'.length, ← lim_eq]; exact of_decide_eq_true hc.2
        refine ⟨ks', k', h2', rfl, hlen, fun w hw => ?_, fun hw => ?_⟩
        · rcases RKs.look hk1 h4' with ⟨z1, z2⟩ | ⟨u, q, z1, z2, z3⟩
          · rw [hw] at z2; cases z2
          · rw [hw] at z2; cases z2
            rw [z1] at w0
            cases w0
            exact k ρ3 H3 _ ((x1.trans x2).trans x3) rs3 z3
        · rcases RKs.look hk1 h4' with ⟨z1, z2⟩ | ⟨u, q, z1, z2, z3⟩
          · rw [z1] at w0
            cases w0
            have w : Ext ρ3 H3 ρ3 (upd H3 a (.dK (L2.putK ks' k' Z))) := .write rs3 h1' _
            refine k ρ3 _ _ (((x1.trans x2).trans x3).trans w) (rs3.write h1' ⟨_, upd_same, ?_, (h4'.mono w).put hk1 (rz.mono w)⟩) (rz.mono w)
            have := length_putK ks' k' Z
            omega
          · rw [hw] at z2; cases z2
      · cases w0
    · cases w0
  · cases w0
theorem se_get {f : Expr} {jf : Ir.Ex} {n0 : Nat} (hr : Room n0 X.A) (ho : SE X C o io) (he : SE X C e ie) (hf : SE X C f jf) (m : M2 X o (Str.ofString "get") apos e f cpos := by exact ⟨rfl, rfl, rfl, rfl⟩) :
    SE X C (.Call (.Attribute o (Str.ofString "get") apos) [e, f] [] cpos) (.mth .get io [ie, jf]) := by
  refine pe_imp (pe_dget2 (hu_of hr) ho he hf m) fun σ H Q ⟨ρ, env, st, v, st', rs, re, ev, k⟩ => ?_
  obtain ⟨x, s1, vs, s2, e1, hk, e2, ev⟩ := mth_ev ev
  obtain ⟨n, ys, rfl, hn⟩ := mthOk_dic (.inr rfl) hk
  simp only [Ir.evals] at e2
  obtain ⟨y, s3, f2, e3⟩ := bok e2
  obtain ⟨zs, s4, e3, e4⟩ := bok e3
  obtain ⟨z, s5, f3, e5⟩ := bok e3
  simp only [Ir.Res.bind_ok] at e5
  cases e5
  cases e4
  refine ⟨ρ, env, st, _, s1, rs, re, e1, fun ρ1 H1 X1 x1 rs1 rx => ?_⟩
  obtain ⟨a, rfl, h1, ks, h2, h3, h4⟩ := RV.cell rs1 rx hn (by simp)
  refine ⟨a, rfl, .inl ⟨ks, .inl h2⟩, ρ1, env, s1, y, s3, rs1, re.mono x1, f2, fun ρ2 H2 Y x2 rs2 ry => ⟨ρ2, env, s3, z, _, rs2, re.mono (x1.trans x2), f3, fun ρ3 H3 Z x3 rs3 rz => ?_⟩⟩
  have w0 : Ir.mGet n s2 [y, z] = .ok v st' := ev
  clear ev
  unfold Ir.mGet at w0
  split at w0
  · rename_i kd vd hd
    cases hd
    split at w0
    · rename_i kvs hx
      split at w0
      · rename_i hc
        cases w0
        obtain ⟨a', e', h1', ks', h2', h3', h4'⟩ := RV.cell rs3 (rx.mono (x2.trans x3)) hx (by simp)
        cases e'
        obtain ⟨k', hk1, rfl⟩ := RK.kv (ry.mono x3) hc
        refine ⟨_, .k h2', ?_⟩
        rcases RKs.look hk1 h4' with ⟨z1, z2⟩ | ⟨u, q, z1, z2, z3⟩
        · rw [z2]; rw [z1] at k
          exact k ρ3 H3 _ ((x1.trans x2).trans x3) rs3 rz
        · rw [z2]; rw [z1] at k
          exact k ρ3 H3 _ ((x1.trans x2).trans x3) rs3 z3
      · cases w0
    · cases w0
  · cases w0
theorem intBits_same (i : Int) : Ir.intBits i = Builtin.Int.intBits i := by
  unfold Ir.intBits Builtin.Int.intBits
  by_cases h : i = 0
  · subst h; rfl
  · have h1 : ¬ i.natAbs = 0 := by omega
    rw [if_neg h1, if_neg (by simpa using h)]
theorem se_bits (ho : SE X C o io) (hbase : attributeBase o (Str.ofString "bit_length") X.env (eval o X.env) = eval o X.env := by rfl) (hline : (apos.endLine == cpos.line) = true := by rfl) :
    SE X C (.Call (.Attribute o (Str.ofString "bit_length") apos) [] [] cpos) (.mth .bit_length io []) := by
  refine pe_imp (pe_bits ho hbase hline) fun σ H Q ⟨ρ, env, st, v, st', rs, re, ev, k⟩ => ?_
  obtain ⟨x, s1, vs, s2, e1, hk, e2, ev⟩ := mth_ev ev
  simp only [Ir.evals] at e2
  cases e2
  cases x with
  | ref n => cases ev
  | d y =>
    have ev : Ir.mBits s1 y [] = .ok v st' := ev
    cases y <;> simp only [Ir.mBits, reduceCtorEq] at ev
    cases ev
    refine ⟨ρ, env, st, _, _, rs, re, e1, fun ρ1 H1 X1 x1 rs1 rx => ⟨_, RD.int_inv rx, ?_⟩⟩
    rw [← intBits_same]
    exact k ρ1 H1 _ x1 rs1 (.int _)
end
end Snd

namespace Snd
open PySem PySem.Spec PyProof.Rows L2
/-! ### targets -/
section
variable {prog : Program} {w : World} {A : Around} {E : Value → Shared → Prop} {s : Shared}
theorem star_T {l : Addr} {items : Array Value} {n i : Nat} {Q : List Value → Shared → Prop} (hl : IsTup s.heap l items) (hh : A.handled = none) (hi : i < n) (hn : n ≤ items.size + 1) (hz : items.size ≤ sizeLine)
    (h : ∀ (h' : Heap) (tk : Nat), (∀ b o, s.heap.get? b = some o → h'.get? b = some o) → Q (items.toList.take i ++ [.ref h'.objs.size] ++ (items.toList.drop i).drop (items.size + 1 - n)) { s with heap := h'.push { cls := .type "list", data := .seq ((items.toList.drop i).take (items.size + 1 - n)).toArray }, toks := tk }) :
    wpAny (model prog w) A (unpackItems (.ref l) n (some i)) Q E s := by
  have hlt : l ≠ s.heap.objs.size := by obtain ⟨o, ho, _⟩ := hl; exact Nat.ne_of_lt (Heap.lt_size ho)
  unfold unpackItems
  refine wpAny_bind ?_
  unfold notIterableAtAll
  refine wpAny_bind (wpAny_specialOf hl.typeIs slot_tuple_iter.lookup ?_)
  refine wpAny_pure ?_
  simp only [Bool.false_eq_true, if_false]
  refine wpAny_bind (wpAny_holding (iter_tuple hl ?_))
  refine wpAny_bind (wpAny_holding (draw_tuple hlt i 0 _ _ ⟨_, Heap.get?_push_size _ rfl, rfl, rfl⟩ (hl.push _) (by omega) fun h₁ hit₁ hs₁ => ?_))
  have hl₁ : IsTup h₁ l items := (hl.push _).extBut hs₁.extBut hlt
  rw [Nat.zero_add] at hit₁
  have hit₁' := hit₁
  obtain ⟨oi, hoi, _⟩ := hit₁'
  have hl₁' := hl₁
  obtain ⟨ol, hol, _⟩ := hl₁'
  rw [List.drop_zero]
  have hfl : (items.toList.take i).length = i := by rw [List.length_take, Array.length_toList]; omega
  rw [if_neg (show ¬ ((items.toList.take i).length < i) by rw [hfl]; omega)]
  refine wpAny_bind (wpAny_holding (PySem.W.kun_collect (s := { s with heap := h₁ }) (T := "tuple_iterator") (.inr (.inr (.inr rfl))) (Walks.tuple (A := A.in1) hh s.heap.objs.size l hlt items) (fun j u st => st.1.typeIs) (k := i) (by omega) ⟨hit₁, hl₁⟩ (Heap.lt_size hoi) (Heap.lt_size hol) (fun h₂ tk hk => ?_) hz))
  have hrl : (items.toList.drop i).length = items.size - i := by rw [List.length_drop, Array.length_toList]
  have hmid : (items.toList.drop i).length - (n - 1 - i) = items.size + 1 - n := by rw [hrl]; omega
  show wpAny _ _ (if (items.toList.drop i).length < n - 1 - i then _ else _) _ _ _
  rw [if_neg (by rw [hrl]; omega)]
  show wpAny _ _ (newList ((items.toList.drop i).take ((items.toList.drop i).length - (n - 1 - i))) >>= fun d => pure (items.toList.take i ++ [d] ++ (items.toList.drop i).drop ((items.toList.drop i).length - (n - 1 - i)))) _ _ _
  rw [hmid]
  have he : ∀ b o, s.heap.get? b = some o → h₂.get? b = some o := fun b o e => hk b o (Nat.ne_of_lt (Heap.lt_size e)) (hs₁.extBut b o (Nat.ne_of_lt (Heap.lt_size e)) (Heap.get?_push_of_some _ e))
  refine wpAny_bind (wpAny_newObj_type (wpAny_pure (h h₂ tk he)) ?_)
  show (((items.toList.drop i).take (items.size + 1 - n)).toArray).size ≤ sizeLine
  rw [List.size_toArray, List.length_take, hrl]
  omega
theorem unpackItems_list {t : Addr} {items : Array Value} {Q : List Value → Shared → Prop} (hh : A.handled = none) (hl : s.heap.IsList t items)
    (hQ : ∀ h', Heap.ExtBut s.heap.objs.size s.heap h' → Q items.toList { s with heap := h' }) : wpAny (model prog w) A (unpackItems (.ref t) items.size none) Q E s := by
  have hlt : t ≠ s.heap.objs.size := by obtain ⟨o, ho, _⟩ := hl; exact Nat.ne_of_lt (Heap.lt_size ho)
  unfold unpackItems
  refine wpAny_bind ?_
  unfold notIterableAtAll
  refine wpAny_bind (wpAny_specialOf hl.typeIs slot_list_iter.lookup ?_)
  refine wpAny_pure ?_
  simp only [Bool.false_eq_true, if_false]
  refine wpAny_bind (wpAny_holding (wpAny_pyIter_list hl ?_))
  refine wpAny_bind (wpAny_holding (PySem.W.kun_draw hlt items.size 0 _ _ ⟨_, Heap.get?_push_size _ rfl, rfl, rfl⟩ (hl.push _) (by omega) fun h₁ hit₁ hs₁ => ?_))
  have hall : List.take items.size (List.drop 0 items.toList) = items.toList := by
    rw [List.drop_zero]; exact List.take_of_length_le (by simp)
  rw [hall]
  rw [if_neg (by simp)]
  have hl₁ : h₁.IsList t items := (hl.push _).extBut hs₁.extBut hlt
  refine wpAny_bind (wpAny_holding (wpAny_pyNext_list_end hh hit₁ hl₁ (by simp) fun h₂ he₂ => ?_))
  simp only [Option.isSome_none, Bool.false_eq_true, if_false]
  exact wpAny_pure (hQ h₂ fun b o hb e => he₂ b o hb (hs₁.extBut b o hb (Heap.get?_push_of_some _ e)))
theorem star_L {l : Addr} {items : Array Value} {n i : Nat} {Q : List Value → Shared → Prop} (hl : s.heap.IsList l items) (hh : A.handled = none) (hi : i < n) (hn : n ≤ items.size + 1) (hz : items.size ≤ sizeLine)
    (h : ∀ (h' : Heap) (tk : Nat), (∀ b o, s.heap.get? b = some o → h'.get? b = some o) → Q (items.toList.take i ++ [.ref h'.objs.size] ++ (items.toList.drop i).drop (items.size + 1 - n)) { s with heap := h'.push { cls := .type "list", data := .seq ((items.toList.drop i).take (items.size + 1 - n)).toArray }, toks := tk }) :
    wpAny (model prog w) A (unpackItems (.ref l) n (some i)) Q E s := by
  have hlt : l ≠ s.heap.objs.size := by obtain ⟨o, ho, _⟩ := hl; exact Nat.ne_of_lt (Heap.lt_size ho)
  unfold unpackItems
  refine wpAny_bind ?_
  unfold notIterableAtAll
  refine wpAny_bind (wpAny_specialOf hl.typeIs slot_list_iter.lookup ?_)
  refine wpAny_pure ?_
  simp only [Bool.false_eq_true, if_false]
  refine wpAny_bind (wpAny_holding (wpAny_pyIter_list hl ?_))
  refine wpAny_bind (wpAny_holding (PySem.W.kun_draw hlt i 0 _ _ ⟨_, Heap.get?_push_size _ rfl, rfl, rfl⟩ (hl.push _) (by omega) fun h₁ hit₁ hs₁ => ?_))
  have hl₁ : h₁.IsList l items := (hl.push _).extBut hs₁.extBut hlt
  rw [Nat.zero_add] at hit₁
  have hit₁' := hit₁
  obtain ⟨oi, hoi, _⟩ := hit₁'
  have hl₁' := hl₁
  obtain ⟨ol, hol, _⟩ := hl₁'
  rw [List.drop_zero]
  have hfl : (items.toList.take i).length = i := by rw [List.length_take, Array.length_toList]; omega
  rw [if_neg (show ¬ ((items.toList.take i).length < i) by rw [hfl]; omega)]
  refine wpAny_bind (wpAny_holding (PySem.W.kun_collect (s := { s with heap := h₁ }) (T := "list_iterator") (.inr (.inr (.inl rfl))) (Walks.list (A := A.in1) hh s.heap.objs.size l hlt items) (fun j u st => st.1.typeIs) (k := i) (by omega) ⟨hit₁, hl₁⟩ (Heap.lt_size hoi) (Heap.lt_size hol) (fun h₂ tk hk => ?_) hz))
  have hrl : (items.toList.drop i).length = items.size - i := by rw [List.length_drop, Array.length_toList]
  have hmid : (items.toList.drop i).length - (n - 1 - i) = items.size + 1 - n := by rw [hrl]; omega
  show wpAny _ _ (if (items.toList.drop i).length < n - 1 - i then _ else _) _ _ _
  rw [if_neg (by rw [hrl]; omega)]
  show wpAny _ _ (newList ((items.toList.drop i).take ((items.toList.drop i).length - (n - 1 - i))) >>= fun d => pure (items.toList.take i ++ [d] ++ (items.toList.drop i).drop ((items.toList.drop i).length - (n - 1 - i)))) _ _ _
  rw [hmid]
  have he : ∀ b o, s.heap.get? b = some o → h₂.get? b = some o := fun b o e => hk b o (Nat.ne_of_lt (Heap.lt_size e)) (hs₁.extBut b o (Nat.ne_of_lt (Heap.lt_size e)) (Heap.get?_push_of_some _ e))
  refine wpAny_bind (wpAny_newObj_type (wpAny_pure (h h₂ tk he)) ?_)
  show (((items.toList.drop i).take (items.size + 1 - n)).toArray).size ≤ sizeLine
  rw [List.size_toArray, List.length_take, hrl]
  omega
end
variable {X : Cx} {C : Ir.Calls}
/-- (a, .., *r, .., z) = a tuple or a list -/
def gStar (K : PySem.W.Frag) (n i : Nat) (t : TGs) : TG := fun v σ H Q => ∃ a xs, v = .ref a ∧ (SqT K H a xs ∨ SqL K H a xs) ∧ n ≤ xs.length + 1 ∧ ∀ p, H p = none → t (xs.take i ++ [.ref p] ++ (xs.drop i).drop (xs.length + 1 - n)) σ (upd H p (.lst ((xs.drop i).take (xs.length + 1 - n)))) Q
theorem pg_star {es : List Expr} {k : Nat} {t : TGs} {n i : Nat} {pos : Pos} (hc : X.calm = true) (h : PGs X es t) (hi : i < n) (hn : (assignEach es X.env).length = n := by rfl) (hst : (assignEach es X.env).findIdx? (·.1) = some i := by rfl) : PG X (.Tuple es k pos) (gStar X.K n i t) := by
  refine ⟨fun pins s σ H v u Q I r hw => ?_⟩
  obtain ⟨a, xs, e1, hq, hl, hw⟩ := hw
  subst e1
  cases r
  rw [assign_Tuple]
  refine wpAny_bind (wpAny_standAt ?_)
  unfold unpack
  rw [hn, hst]
  have core : ∀ its : List Value, Vals xs its → xs.length ≤ sizeLine → ∀ (h' : Heap) (tk : Nat), (∀ b o, s.heap.get? b = some o → h'.get? b = some o) →
      wpAny (model X.prog X.w) X.A (assignInOrder ((assignEach es X.env).map (·.2)) (its.toArray.toList.take i ++ [.ref h'.objs.size] ++ (its.toArray.toList.drop i).drop (its.toArray.size + 1 - n))) (fun _ s' => ∃ σ' H', Inv X pins σ' H' s' ∧ Q σ' H') X.xe
        { s with heap := h'.push { cls := .type "list", data := .seq ((its.toArray.toList.drop i).take (its.toArray.size + 1 - n)).toArray }, toks := tk } := fun its rv hz h' tk hk => by
    have I1 : Inv X pins σ H { s with heap := h', toks := tk } := I.kept (t' := tk) hk
    have hf : H h'.objs.size = none := I1.hok.fresh (Nat.le_refl _)
    have el : its.toArray.size = xs.length := by rw [List.size_toArray]; exact rv.length.symm
    have rm : Vals ((xs.drop i).take (xs.length + 1 - n)) ((its.toArray.toList.drop i).take (its.toArray.size + 1 - n)) := by
      rw [el]
      exact (Vals.drop i rv).take _
    have I2 : Inv X pins σ (upd H h'.objs.size (.lst ((xs.drop i).take (xs.length + 1 - n)))) { s with heap := h'.push { cls := .type "list", data := .seq ((its.toArray.toList.drop i).take (its.toArray.size + 1 - n)).toArray }, toks := tk } := by
      refine I1.laid (t' := tk) (fun b o e => Heap.get?_push_of_some _ e) (Nat.le_refl _) ⟨?_, _, 0, rm, Heap.get?_push_size _ rfl⟩
      rw [List.length_take, List.length_drop]
      omega
    refine h.run pins _ σ _ _ _ Q I2 ?_ (hw _ hf)
    refine Vals.append (Vals.append (Vals.take i rv) (.cons rfl .nil)) ?_
    rw [el]
    exact Vals.drop _ (Vals.drop i rv)
  rcases hq with hq | hq
  · obtain ⟨its, rv, ht, hz⟩ := I.tuple hq
    exact wpAny_bind (wpAny_holding (star_T ht (I.ok.hd hc) hi (by rw [List.size_toArray, ← rv.length]; omega) (by rw [List.size_toArray, ← rv.length]; exact hz) (core its rv hz)))
  · obtain ⟨its, rv, ht, hz⟩ := I.list hq
    exact wpAny_bind (wpAny_holding (star_L ht.isList (I.ok.hd hc) hi (by rw [List.size_toArray, ← rv.length]; omega) (by rw [List.size_toArray, ← rv.length]; exact hz) (core its rv hz)))
theorem pgs_star {e : Expr} {es : List Expr} {t : TG} {u : TGs} {p : Pos} (h1 : PG X e t) (h2 : PGs X es u)
    (hs : (assignEach (.Starred e p :: es) X.env).map (·.2) = assign e X.env :: (assignEach es X.env).map (·.2) := by rfl) : PGs X (.Starred e p :: es) (gCons t u) := by
  refine ⟨fun pins s σ H vs us Q I r h => ?_⟩
  obtain ⟨v, vr, e1, h⟩ := h
  subst e1
  cases r with
  | cons r rr =>
    rw [hs]
    refine assignInOrder_cons (thn (h1.run pins s σ H _ _ _ I r h) fun _ s1 ⟨σ1, H1, I1, q1⟩ => ?_)
    exact h2.run pins s1 σ1 H1 _ _ Q I1 rr q1
theorem pg_imp {e : Expr} {t t' : TG} (h : PG X e t) (w : ∀ v σ H Q, t' v σ H Q → t v σ H Q) : PG X e t' := ⟨fun pins s σ H v u Q I r q => h.run pins s σ H v u Q I r (w v σ H Q q)⟩
theorem pgs_imp {e : List Expr} {t t' : TGs} (h : PGs X e t) (w : ∀ v σ H Q, t' v σ H Q → t v σ H Q) : PGs X e t' := ⟨fun pins s σ H v u Q I r q => h.run pins s σ H v u Q I r (w v σ H Q q)⟩
theorem wipe_same {σ : L2.St} {i : Nat} {v : V} : ∀ {vs : List Nat}, i ∈ vs → L2.wipe (σ.set i (some v)) vs = L2.wipe σ vs
  | j :: vs, h => by
    simp only [L2.wipe]
    by_cases e : i ∈ vs
    · rw [wipe_same e]
    · have hj : i = j := by
        rcases List.mem_cons.mp h with q | q
        · exact q
        · exact absurd q e
      subst hj
      have : ∀ vs : List Nat, i ∉ vs → L2.wipe (σ.set i (some v)) vs = (L2.wipe σ vs).set i (some v) := by
        intro vs
        induction vs with
        | nil => intro _; rfl
        | cons j vs ih =>
          intro hn
          simp only [L2.wipe]
          rw [ih (fun q => hn (List.mem_cons_of_mem _ q)), List.set_comm _ _ (fun q => hn (by rw [q]; exact List.mem_cons_self))]
      rw [this vs e, List.set_set]
/-- nothing but these slots is changed -/
def OnlyS (is : List Nat) (σ σ' : L2.St) : Prop := ∀ vs : List Nat, (∀ i ∈ is, i ∈ vs) → L2.wipe σ' vs = L2.wipe σ vs
theorem OnlyS.one (i : Nat) (σ : L2.St) (v : V) : OnlyS [i] σ (σ.set i (some v)) := fun vs h => wipe_same (h i (by simp))
theorem OnlyS.trans {is js : List Nat} {σ σ1 σ2 : L2.St} (a : OnlyS is σ σ1) (b : OnlyS js σ1 σ2) : OnlyS (is ++ js) σ σ2 := fun vs h => (b vs fun i q => h i (List.mem_append_right _ q)).trans (a vs fun i q => h i (List.mem_append_left _ q))
theorem OnlyS.fold : ∀ (is : List Nat) (vs : List V) (σ : L2.St), OnlyS is σ ((is.zip vs).foldl (fun s p => s.set p.1 (some p.2)) σ)
  | [], _, σ => fun _ _ => rfl
  | _ :: _, [], σ => fun _ _ => rfl
  | i :: is, v :: vs, σ => OnlyS.trans (is := [i]) (OnlyS.one i σ v) (OnlyS.fold is vs _)
def tG (K : PySem.W.Frag) (t : Ir.Tg) : TG := fun v σ H Q => ∃ ρ env st x env', RS ρ K st H ∧ REnv ρ K H env σ ∧ RD ρ K H x v ∧ t.put x env = some env' ∧ ∀ ρ' H' σ', Ext ρ H ρ' H' → RS ρ' K st H' → REnv ρ' K H' env' σ' → OnlyS t.slots σ σ' → Q σ' H'
def tGs (K : PySem.W.Frag) (ts : List Ir.Tg) : TGs := fun vs σ H Q => ∃ ρ env st xs env', RS ρ K st H ∧ REnv ρ K H env σ ∧ RDs ρ K H xs vs ∧ Ir.Tg.puts ts xs env = some env' ∧ ∀ ρ' H' σ', Ext ρ H ρ' H' → RS ρ' K st H' → REnv ρ' K H' env' σ' → OnlyS (Ir.Tg.slotss ts) σ σ' → Q σ' H'
abbrev SG (X : Cx) (e : Expr) (t : Ir.Tg) : Prop := PG X e (tG X.K t)
abbrev SGs (X : Cx) (e : List Expr) (t : List Ir.Tg) : Prop := PGs X e (tGs X.K t)
theorem sg_name (i : Nat) {x : Str} {pos : Pos} (hN : X.N.Nodup) (hx : Loc X.env.scope x := by first | exact .inl rfl | exact .inr rfl) (hi : X.N[i]? = some x := by rfl) (hf : X.fn x = true ∨ X.env.scope.names.lookup x = some .local := by first | exact .inl rfl | exact .inr rfl | assumption) : SG X (.Name x pos) (.name i) :=
  pg_imp (pg_name hN hi hx hf) fun v σ H Q ⟨ρ, env, st, x, env', rs, re, rx, hp, k⟩ => by
    simp only [Ir.Tg.put, Option.some.injEq] at hp
    subst hp
    exact k ρ H _ (.refl _ _) rs (re.set (v := .d x) rx i) (by simp only [Ir.Tg.slots]; exact OnlyS.one i σ v)
theorem sgs_nil : SGs X [] [] := pgs_imp pgs_nil fun v σ H Q ⟨ρ, env, st, xs, env', rs, re, rx, hp, k⟩ => by
  cases rx with
  | nil =>
    simp only [Ir.Tg.puts, Option.some.injEq] at hp
    subst hp
    exact ⟨rfl, k ρ H _ (.refl _ _) rs re fun _ _ => rfl⟩
  | cons _ _ => simp [Ir.Tg.puts] at hp
theorem sgs_cons {e : Expr} {es : List Expr} {t : Ir.Tg} {ts : List Ir.Tg} (h1 : SG X e t) (h2 : SGs X es ts) (hs : (assignEach (e :: es) X.env).map (·.2) = assign e X.env :: (assignEach es X.env).map (·.2) := by rfl) : SGs X (e :: es) (t :: ts) :=
  pgs_imp (pgs_cons h1 h2 hs) fun v σ H Q ⟨ρ, env, st, xs, env', rs, re, rx, hp, k⟩ => by
    cases rx with
    | nil => simp [Ir.Tg.puts] at hp
    | cons rx rr =>
      simp only [Ir.Tg.puts, Option.bind_eq_some_iff] at hp
      obtain ⟨env1, hp1, hp2⟩ := hp
      exact ⟨_, _, rfl, ρ, env, st, _, env1, rs, re, rx, hp1, fun ρ1 H1 σ1 x1 rs1 re1 o1 => ⟨ρ1, env1, st, _, env', rs1, re1, rr.mono x1, hp2, fun ρ2 H2 σ2 x2 rs2 re2 o2 => k ρ2 H2 σ2 (x1.trans x2) rs2 re2 (by simp only [Ir.Tg.slotss]; exact o1.trans o2)⟩⟩
/-- (a, b, ..) = a list of that length -/
def gLst (K : PySem.W.Frag) (n : Nat) (t : TGs) : TG := fun v σ H Q => ∃ a xs, v = .ref a ∧ SqL K H a xs ∧ xs.length = n ∧ t xs σ H Q
theorem pg_lst {es : List Expr} {k : Nat} {pos : Pos} {t : TGs} {n : Nat} (hc : X.calm = true) (h : PGs X es t)
    (hn : (assignEach es X.env).length = n := by rfl) (hst : (assignEach es X.env).findIdx? (·.1) = none := by rfl) : PG X (.Tuple es k pos) (gLst X.K n t) := by
  refine ⟨fun pins s σ H v u Q I r hw => ?_⟩
  obtain ⟨a, xs, e1, hq, hl, hw⟩ := hw
  subst e1
  cases r
  obtain ⟨its, rv, ht, hz⟩ := I.list hq
  rw [assign_Tuple]
  refine wpAny_bind (wpAny_standAt ?_)
  unfold unpack
  rw [hn, hst]
  have hs : n = its.toArray.size := by simp [← hl, rv.length]
  rw [hs]
  refine wpAny_bind (wpAny_holding (unpackItems_list (I.ok.hd hc) ht.isList fun h' hx => ?_))
  have I1 : Inv X pins σ H { s with heap := h' } := I.kept (t' := s.toks) fun b o e => hx b o (Nat.ne_of_lt (Heap.lt_size e)) e
  exact h.run pins _ σ H xs _ Q I1 (by simpa using rv) hw
theorem pg_or {e : Expr} {t u : TG} (h1 : PG X e t) (h2 : PG X e u) : PG X e (fun v σ H Q => t v σ H Q ∨ u v σ H Q) :=
  ⟨fun pins s σ H v w Q I r h => h.elim (h1.run pins s σ H v w Q I r) (h2.run pins s σ H v w Q I r)⟩
theorem sg_tup {es : List Expr} {ts : List Ir.Tg} {k : Nat} {pos : Pos} (hc : X.calm = true) (h : SGs X es ts) (hl : ∀ xs env env', Ir.Tg.puts ts xs env = some env' → xs.length = ts.length) (hn : (assignEach es X.env).length = ts.length := by rfl) (hst : (assignEach es X.env).findIdx? (·.1) = none := by rfl) : SG X (.Tuple es k pos) (.tup ts) :=
  pg_imp (pg_or (pg_tup hc h hn hst) (pg_lst hc h hn hst)) fun v σ H Q ⟨ρ, env, st, x, env', rs, re, rx, hp, k⟩ => by
    cases x <;> simp only [Ir.Tg.put, reduceCtorEq] at hp
    · rename_i xs
      obtain ⟨a, ys, rfl, t, z, r⟩ := RD.tup_inv rx
      exact .inl ⟨a, ys, rfl, t.sq, by rw [← r.length]; exact hl _ _ _ hp, ρ, env, st, xs, env', rs, re, r, hp, by simpa only [Ir.Tg.slots] using k⟩
    · rename_i xs
      cases rx with
      | lst g1 g2 g3 g4 => exact .inr ⟨_, _, rfl, SqL.of g1, by rw [← g4.length]; exact hl _ _ _ hp, ρ, env, st, xs, env', rs, re, g4, hp, by simpa only [Ir.Tg.slots] using k⟩
theorem puts_len : ∀ (ts : List Ir.Tg) (xs : List Ir.D) (env env' : Ir.Env), Ir.Tg.puts ts xs env = some env' → xs.length = ts.length
  | [], [], _, _, _ => rfl
  | [], _ :: _, _, _, h => by simp [Ir.Tg.puts] at h
  | _ :: _, [], _, _, h => by simp [Ir.Tg.puts] at h
  | t :: ts, x :: xs, env, env', h => by
    simp only [Ir.Tg.puts, Option.bind_eq_some_iff] at h
    obtain ⟨e1, _, h2⟩ := h
    simp [puts_len ts xs e1 env' h2]
/-- names in a row -/
def gNames (is : List Nat) : TGs := fun vs σ H Q => vs.length = is.length ∧ Q ((is.zip vs).foldl (fun s p => s.set p.1 (some p.2)) σ) H
abbrev SNs (X : Cx) (es : List Expr) (is : List Nat) : Prop := PGs X es (gNames is)
theorem sns_nil : SNs X [] [] := pgs_imp pgs_nil fun v σ H Q ⟨h, q⟩ => by
  cases v with
  | nil => exact ⟨rfl, q⟩
  | cons _ _ => simp at h
theorem sns_cons (i : Nat) {x : Str} {pos : Pos} {es : List Expr} {is : List Nat} (hN : X.N.Nodup) (h : SNs X es is) (hx : Loc X.env.scope x := by first | exact .inl rfl | exact .inr rfl) (hi : X.N[i]? = some x := by rfl) (hf : X.fn x = true ∨ X.env.scope.names.lookup x = some .local := by first | exact .inl rfl | exact .inr rfl | assumption) (hs : (assignEach (.Name x pos :: es) X.env).map (·.2) = assign (.Name x pos) X.env :: (assignEach es X.env).map (·.2) := by rfl) : SNs X (.Name x pos :: es) (i :: is) :=
  pgs_imp (pgs_cons (pg_name hN hi hx hf) h hs) fun v σ H Q ⟨hl, q⟩ => by
    cases v with
    | nil => simp at hl
    | cons v vs => exact ⟨v, vs, rfl, by simpa using hl, q⟩
theorem sns_star (i : Nat) {x : Str} {pos p : Pos} {es : List Expr} {is : List Nat} (hN : X.N.Nodup) (h : SNs X es is) (hx : Loc X.env.scope x := by first | exact .inl rfl | exact .inr rfl) (hi : X.N[i]? = some x := by rfl) (hf : X.fn x = true ∨ X.env.scope.names.lookup x = some .local := by first | exact .inl rfl | exact .inr rfl | assumption) (hs : (assignEach (.Starred (.Name x pos) p :: es) X.env).map (·.2) = assign (.Name x pos) X.env :: (assignEach es X.env).map (·.2) := by rfl) : SNs X (.Starred (.Name x pos) p :: es) (i :: is) :=
  pgs_imp (pgs_star (pg_name hN hi hx hf) h hs) fun v σ H Q ⟨hl, q⟩ => by
    cases v with
    | nil => simp at hl
    | cons v vs => exact ⟨v, vs, rfl, by simpa using hl, q⟩
theorem setAll_ok {ρ : Rho} {K : PySem.W.Frag} {H : Hp} : ∀ {is : List Nat} {xs : List Ir.D} {vs : List V} {env env' : Ir.Env} {σ : L2.St}, RDs ρ K H xs vs → REnv ρ K H env σ → Ir.setAll is xs env = some env' → vs.length = is.length ∧ REnv ρ K H env' ((is.zip vs).foldl (fun s p => s.set p.1 (some p.2)) σ)
  | [], [], _, _, _, _, .nil, re, h => by simp only [Ir.setAll, Option.some.injEq] at h; subst h; exact ⟨rfl, re⟩
  | [], _ :: _, _, _, _, _, _, _, h => by simp [Ir.setAll] at h
  | _ :: _, [], _, _, _, _, _, _, h => by simp [Ir.setAll] at h
  | i :: is, x :: xs, _ :: vs, env, env', σ, .cons a r, re, h => by
    simp only [Ir.setAll] at h
    obtain ⟨h1, h2⟩ := setAll_ok r (re.set (v := .d x) a i) h
    exact ⟨by simp [h1], h2⟩
theorem foldl_zip_append (as bs : List Nat) (xs ys : List V) (σ : L2.St) (h : as.length = xs.length) : ((as ++ bs).zip (xs ++ ys)).foldl (fun (s : L2.St) p => s.set p.1 (some p.2)) σ = (bs.zip ys).foldl (fun s p => s.set p.1 (some p.2)) ((as.zip xs).foldl (fun s p => s.set p.1 (some p.2)) σ) := by
  rw [List.zip_append h, List.foldl_append]
theorem sg_star {es : List Expr} {pre post : List Nat} {j : Nat} {k : Nat} {pos : Pos} (hc : X.calm = true) (h : SNs X es (pre ++ j :: post)) (hn : (assignEach es X.env).length = pre.length + 1 + post.length := by rfl) (hst : (assignEach es X.env).findIdx? (·.1) = some pre.length := by rfl) : SG X (.Tuple es k pos) (.star pre j post) :=
  pg_imp (pg_star hc h (by omega) hn hst) fun v σ H Q ⟨ρ, env, st, x, env', rs, re, rx, hp, k⟩ => by
    simp only [Ir.Tg.put] at hp
    cases hx : x.seq with
    | none => rw [hx] at hp; cases hp
    | some xs =>
      rw [hx] at hp
      simp only at hp
      split at hp
      · cases hp
      · rename_i hlen
        cases hs : Ir.setAll pre (xs.take pre.length) env with
        | none => rw [hs] at hp; cases hp
        | some env1 =>
          rw [hs] at hp
          simp only at hp
          have main : ∀ a ys, v = .ref a → (SqT X.K H a ys ∨ SqL X.K H a ys) → ys.length ≤ sizeLine → RDs ρ X.K H xs ys → gStar X.K (pre.length + 1 + post.length) pre.length (gNames (pre ++ j :: post)) v σ H Q := fun a ys hv hq hz r => by
            have hl := r.length
            refine ⟨a, ys, hv, hq, by omega, fun p hp0 => ?_⟩
            have x1 : Ext ρ H ρ (upd H p (.lst ((ys.drop pre.length).take (ys.length + 1 - (pre.length + 1 + post.length))))) := .grow rs hp0 _
            have rs1 := rs.grow hp0 (.lst ((ys.drop pre.length).take (ys.length + 1 - (pre.length + 1 + post.length))))
            have c1 : ys.length + 1 - (pre.length + 1 + post.length) = xs.length - pre.length - post.length := by omega
            have rm : RDs ρ X.K H ((xs.drop pre.length).take (xs.length - pre.length - post.length)) ((ys.drop pre.length).take (ys.length + 1 - (pre.length + 1 + post.length))) := by
              rw [c1]; exact (r.drop _).take _
            have rD := grow_lst rs rm (by rw [List.length_take, List.length_drop]; omega) hp0
            obtain ⟨g1, g2⟩ := setAll_ok ((r.take pre.length).mono x1) (re.mono x1) hs
            have ed : xs.drop (xs.length - post.length) = (xs.drop pre.length).drop (xs.length - pre.length - post.length) := by
              rw [List.drop_drop]; congr 1; omega
            have rl : RDs ρ X.K H (xs.drop (xs.length - post.length)) ((ys.drop pre.length).drop (ys.length + 1 - (pre.length + 1 + post.length))) := by
              rw [ed, c1]; exact (r.drop _).drop _
            obtain ⟨g3, g4⟩ := setAll_ok (rl.mono x1) (g2.set (v := .d (.lst _)) rD j) hp
            refine ⟨?_, ?_⟩
            · simp only [List.length_append, List.length_cons, List.length_nil, g3, g1]; omega
            · have := k ρ _ _ x1 rs1 g4 (by
                simp only [Ir.Tg.slots]
                have q := OnlyS.fold (pre ++ j :: post) (ys.take pre.length ++ (V.ref p :: (ys.drop pre.length).drop (ys.length + 1 - (pre.length + 1 + post.length)))) σ
                rw [foldl_zip_append _ _ _ _ _ g1.symm] at q
                exact q)
              have e2 : ys.take pre.length ++ [V.ref p] ++ (ys.drop pre.length).drop (ys.length + 1 - (pre.length + 1 + post.length)) = ys.take pre.length ++ (V.ref p :: (ys.drop pre.length).drop (ys.length + 1 - (pre.length + 1 + post.length))) := by simp
              rw [e2, foldl_zip_append _ _ _ _ _ g1.symm]
              exact this
          cases x <;> simp only [Ir.D.seq, reduceCtorEq, Option.some.injEq] at hx
          · subst hx
            obtain ⟨a, ys, rfl, t, z, r⟩ := RD.tup_inv rx
            exact main a ys rfl (.inl t.sq) z r
          · subst hx
            obtain ⟨a, ys, rfl, t, z, r⟩ := VD.of rx
            exact main a ys rfl (.inr (SqL.of t)) z r
end Snd

set_option maxHeartbeats 1000000
namespace Snd
open PySem PySem.Spec PyProof.Rows L2
/-! zip of a list and a tuple: by what each of the two iterators does -/
/-- an iterator `it` over what stands at `l`: `P k h` tells that it is at place k -/
structure ItStep (prog : Program) (w : World) (it l : Addr) (P : Nat → Heap → Prop) (xs : Array Value) : Prop where
  next : ∀ {B : Around} {F : Value → Shared → Prop} {t : Shared} {k : Nat} {x : Value} {R : Value → Shared → Prop}, P k t.heap → xs[k]? = some x → (∀ g, P (k + 1) g → Heap.SameBut it t.heap g → R x { t with heap := g }) → wpAny (model prog w) B (Builtin.SmallTypes.nextOf (.ref it)) R F t
  over : ∀ {B : Around} {F : Value → Shared → Prop} {t : Shared} {k : Nat} {R : Value → Shared → Prop}, B.handled = none → P k t.heap → xs[k]? = none → (∀ g e, Heap.ExtBut it t.heap g → (∃ o, g.get? e = some o ∧ o.cls = .type "StopIteration") → F (.ref e) { t with heap := g }) → wpAny (model prog w) B (Builtin.SmallTypes.nextOf (.ref it)) R F t
  stay : ∀ {k : Nat} {g g' : Heap}, P k g → (∀ o, g.get? it = some o → g'.get? it = some o) → (∀ o, g.get? l = some o → g'.get? l = some o) → P k g'
theorem itr_list {prog : Program} {w : World} {it l : Addr} {xs : Array Value} (ne : l ≠ it) : ItStep prog w it l (fun k h => h.IsListIter it l k ∧ h.IsList l xs) xs where
  next := fun hp hx hR => wpAny_nextOf_list_item hp.1 hp.2 hx fun g h1 h2 => hR g ⟨h1, hp.2.extBut h2.extBut ne⟩ h2
  over := fun hh hp hx hF => wpAny_nextOf_list_end hh hp.1 hp.2 hx hF
  stay := fun hp h1 h2 => ⟨hp.1.at h1, hp.2.at h2⟩
theorem itr_tuple {prog : Program} {w : World} {it l : Addr} {xs : Array Value} (ne : l ≠ it) : ItStep prog w it l (fun k h => h.IsTupleIter it l k ∧ h.IsTuple l xs) xs where
  next := fun hp hx hR => RZ.nextOf_tuple_item hp.1 hp.2 hx fun g h1 h2 => hR g ⟨h1, hp.2.extBut h2.extBut ne⟩ h2
  over := fun hh hp hx hF => RZ.nextOf_tuple_end hh hp.1 hp.2 hx hF
  stay := fun hp h1 h2 => ⟨hp.1.at h1, hp.2.at h2⟩
section
variable {prog : Program} {w : World} {A : Around} {E : Value → Shared → Prop} {s : Shared}
variable {z TI TO i1 i2 l1 l2 : Addr} {P1 P2 : Nat → Heap → Prop} {xs ys : Array Value} {a b : Value}
/-- a zip at rest, its iterators at place k -/
structure ZpAt (h : Heap) (z TI TO i1 i2 : Addr) (P1 P2 : Nat → Heap → Prop) (a b : Value) (k : Nat) : Prop where
  zz : IsZip h z TI TO .none
  ti : IsPair h TI (.ref i1) (.ref i2)
  to : IsPair h TO a b
  p1 : P1 k h
  p2 : P2 k h
theorem zm_item (S1 : ItStep prog w i1 l1 P1 xs) (S2 : ItStep prog w i2 l2 P2 ys) (D : ZipApart z TI TO i1 i2 l1 l2) {k : Nat} {x y : Value} (Z : ZpAt s.heap z TI TO i1 i2 P1 P2 a b k) (hx : xs[k]? = some x) (hy : ys[k]? = some y) {R : Value → Shared → Prop}
    (hR : ∀ g, IsZip g z TI TO (rawInt s.heap.objs.size) → IsPair g TO x y → P1 (k + 1) g → P2 (k + 1) g → IsPair g s.heap.objs.size x y → g.objs.size = s.heap.objs.size + 1 → (∀ c o, c ≠ z → c ≠ TO → c ≠ i1 → c ≠ i2 → s.heap.get? c = some o → g.get? c = some o) → R (.ref s.heap.objs.size) { s with heap := g }) :
    wpAny (model prog w) A (Builtin.«zip.__next__» ⟨[.ref z], []⟩) (fun u t => ∃ v, u = .done (.ret v) ∧ R v t) E s := by
  have hz := Z.zz; have hi := Z.ti; have ho := Z.to
  show wpAny _ _ (field (.ref z) 2 >>= _) _ _ _; refine wpAny_bind (wpAny_field hz rfl (x := .bool false) rfl ?_)
  show wpAny _ _ (field (.ref z) 3 >>= _) _ _ _; refine wpAny_bind (wpAny_field hz rfl (x := .ref TI) rfl (wpAny_bind (wpAny_seqItems hi rfl ?_)))
  show wpAny _ _ (Builtin.SmallTypes.ownedTupleIsFree (.ref z) >>= _) _ _ _; refine wpAny_bind ?_
  unfold Builtin.SmallTypes.ownedTupleIsFree; refine wpAny_bind (wpAny_field hz rfl (x := .none) rfl (wpAny_pure ?_))
  simp only [if_true]; refine wpAny_bind (wpAny_rule (wpAny_bind (wpAny_field hz rfl (x := .ref TO) rfl ?_)))
  refine wpAny_bind (wpAny_setField_rec hz (by simp) fun g1 z1 w1 => ?_); replace z1 : IsZip g1 z TI TO .ellipsis := z1
  refine wpAny_bind ?_; simp only [List.zipIdx_cons, List.zipIdx_nil, List.forIn_cons, List.forIn_nil]
  refine wpAny_bind (wpAny_bind (wpAny_onRaise ?_)); show wpAny _ _ (Builtin.SmallTypes.nextOf (.ref i1) >>= _) _ _ _
  refine wpAny_bind (S1.next (S1.stay Z.p1 (fun o q => w1.extBut _ _ D.i1z q) (fun o q => w1.extBut _ _ D.l1z q)) hx fun g2 p12 w2 => wpAny_pure ?_)
  have o2 : IsPair g2 TO a b := w2.extBut _ _ D.TOi1 (w1.extBut _ _ D.TOz ho)
  refine wpAny_bind (wpAny_seqItems o2 rfl (wpAny_bind (wpAny_updateSeq_pair o2 fun g3 o3 w3 => ?_))); replace o3 : IsPair g3 TO x b := o3
  refine wpAny_bind (wpAny_letGo (wpAny_pure ?_)); refine wpAny_bind (wpAny_bind (wpAny_onRaise ?_))
  show wpAny _ _ (Builtin.SmallTypes.nextOf (.ref i2) >>= _) _ _ _; refine wpAny_bind (S2.next (S2.stay Z.p2 (fun o q => w3.extBut _ _ D.TOi2.symm (w2.extBut _ _ D.i12.symm (w1.extBut _ _ D.i2z q))) (fun o q => w3.extBut _ _ D.l2TO (w2.extBut _ _ D.l2i1 (w1.extBut _ _ D.l2z q)))) hy fun g4 p24 w4 => wpAny_pure ?_)
  have o4 : IsPair g4 TO x b := w4.extBut _ _ D.TOi2 o3
  refine wpAny_bind (wpAny_seqItems o4 rfl (wpAny_bind (wpAny_updateSeq_pair o4 fun g5 o5 w5 => ?_))); replace o5 : IsPair g5 TO x y := o5
  refine wpAny_bind (wpAny_letGo (wpAny_pure (wpAny_pure (wpAny_bind (wpAny_seqItems o5 rfl (wpAny_bind (wpAny_newTuple ?_)))))))
  have sz : g5.objs.size = s.heap.objs.size := by rw [w5.1, w4.1, w3.1, w2.1, w1.1]
  have z5 : IsZip g5 z TI TO .ellipsis := w5.extBut _ _ D.TOz.symm (w4.extBut _ _ D.i2z.symm (w3.extBut _ _ D.TOz.symm (w2.extBut _ _ D.i1z.symm z1)))
  have k5 : ∀ c o, c ≠ z → c ≠ TO → c ≠ i1 → c ≠ i2 → s.heap.get? c = some o → g5.get? c = some o := fun c o n1 n2 n3 n4 q => w5.extBut _ _ n2 (w4.extBut _ _ n4 (w3.extBut _ _ n2 (w2.extBut _ _ n3 (w1.extBut _ _ n1 q))))
  have p15 : P1 (k + 1) g5 := S1.stay p12 (fun o q => w5.extBut _ _ D.TOi1.symm (w4.extBut _ _ D.i12 (w3.extBut _ _ D.TOi1.symm q))) (fun o q => w5.extBut _ _ D.l1TO (w4.extBut _ _ D.l1i2 (w3.extBut _ _ D.l1TO q)))
  have p25 : P2 (k + 1) g5 := S2.stay p24 (fun o q => w5.extBut _ _ D.TOi2.symm q) (fun o q => w5.extBut _ _ D.l2TO q)
  have zl : z < g5.objs.size := Heap.lt_size z5
  show wpAny _ _ (Builtin.SmallTypes.ownedTupleHandOut (.ref z) (.ref g5.objs.size) >>= _) _ _ _; refine wpAny_bind ?_
  unfold Builtin.SmallTypes.ownedTupleHandOut
  have z6 : IsZip (g5.push { cls := .type "tuple", data := .seq #[x, y] }) z TI TO .ellipsis := Heap.get?_push_of_some _ z5
  refine wpAny_bind (wpAny_setField_rec z6 (by simp) fun g7 z7 w7 => ?_); replace z7 : IsZip g7 z TI TO (rawInt g5.objs.size) := z7
  refine wpAny_setField_rec z7 (by simp) fun g8 z8 w8 => ?_; replace z8 : IsZip g8 z TI TO (rawInt g5.objs.size) := z8
  have up : ∀ c o, c ≠ z → g5.get? c = some o → g8.get? c = some o := fun c o n q => w8.extBut _ _ n (w7.extBut _ _ n (Heap.get?_push_of_some _ q))
  have t8 : IsPair g8 g5.objs.size x y := w8.extBut _ _ (Nat.ne_of_gt zl) (w7.extBut _ _ (Nat.ne_of_gt zl) (Heap.get?_push_size _ rfl))
  have s8 : g8.objs.size = g5.objs.size + 1 := by rw [w8.1, w7.1, Heap.size_push]
  rw [sz] at z8 t8 s8; refine wpAny_pure ⟨_, rfl, ?_⟩
  show R (.ref g5.objs.size) _; rw [sz]
  exact hR g8 z8 (up _ _ D.TOz o5) (S1.stay p15 (fun o q => up _ o D.i1z q) (fun o q => up _ o D.l1z q)) (S2.stay p25 (fun o q => up _ o D.i2z q) (fun o q => up _ o D.l2z q)) t8 s8 fun c o n1 n2 n3 n4 q => up c o n1 (k5 c o n1 n2 n3 n4 q)
theorem zm_end (hh : A.handled = none) (S1 : ItStep prog w i1 l1 P1 xs) (S2 : ItStep prog w i2 l2 P2 ys) (D : ZipApart z TI TO i1 i2 l1 l2) {k : Nat} (Z : ZpAt s.heap z TI TO i1 i2 P1 P2 a b k) (hend : xs[k]? = none ∨ ys[k]? = none) {R : Fin → Shared → Prop}
    (hE : ∀ g e, (∀ c o, c ≠ z → c ≠ TO → c ≠ i1 → c ≠ i2 → s.heap.get? c = some o → g.get? c = some o) → (∃ o, g.get? e = some o ∧ o.cls = .type "StopIteration") → E (.ref e) { s with heap := g }) :
    wpAny (model prog w) A (Builtin.«zip.__next__» ⟨[.ref z], []⟩) R E s := by
  have hz := Z.zz; have hi := Z.ti; have ho := Z.to
  show wpAny _ _ (field (.ref z) 2 >>= _) _ _ _; refine wpAny_bind (wpAny_field hz rfl (x := .bool false) rfl ?_)
  show wpAny _ _ (field (.ref z) 3 >>= _) _ _ _; refine wpAny_bind (wpAny_field hz rfl (x := .ref TI) rfl (wpAny_bind (wpAny_seqItems hi rfl ?_)))
  show wpAny _ _ (Builtin.SmallTypes.ownedTupleIsFree (.ref z) >>= _) _ _ _; refine wpAny_bind ?_
  unfold Builtin.SmallTypes.ownedTupleIsFree; refine wpAny_bind (wpAny_field hz rfl (x := .none) rfl (wpAny_pure ?_))
  simp only [if_true]; refine wpAny_bind (wpAny_rule (wpAny_bind (wpAny_field hz rfl (x := .ref TO) rfl ?_)))
  refine wpAny_bind (wpAny_setField_rec hz (by simp) fun g1 z1 w1 => ?_); replace z1 : IsZip g1 z TI TO .ellipsis := z1
  refine wpAny_bind ?_; simp only [List.zipIdx_cons, List.zipIdx_nil, List.forIn_cons, List.forIn_nil]
  refine wpAny_bind (wpAny_bind (wpAny_onRaise ?_)); show wpAny _ _ (Builtin.SmallTypes.nextOf (.ref i1) >>= _) _ _ _
  cases hx : xs[k]? with
  | none =>
    refine wpAny_bind (S1.over hh (S1.stay Z.p1 (fun o q => w1.extBut _ _ D.i1z q) (fun o q => w1.extBut _ _ D.l1z q)) hx fun g2 e w2 he => ?_)
    obtain ⟨oe, q1, q2⟩ := he
    have z2 : IsZip g2 z TI TO .ellipsis := w2 _ _ D.i1z.symm z1
    have ez : e ≠ z := fun x => by subst x; rw [z2] at q1; cases q1; simp at q2
    refine wpAny_setField_rec z2 (by simp) fun g3 _ w3 => hE g3 e (fun c o n1 _ n3 _ q => w3.extBut _ _ n1 (w2 _ _ n3 (w1.extBut _ _ n1 q))) ⟨oe, w3.extBut _ _ ez q1, q2⟩
  | some x =>
    have hy : ys[k]? = none := hend.elim (fun q => by rw [hx] at q; cases q) id
    refine wpAny_bind (S1.next (S1.stay Z.p1 (fun o q => w1.extBut _ _ D.i1z q) (fun o q => w1.extBut _ _ D.l1z q)) hx fun g2 p12 w2 => wpAny_pure ?_)
    have o2 : IsPair g2 TO a b := w2.extBut _ _ D.TOi1 (w1.extBut _ _ D.TOz ho)
    refine wpAny_bind (wpAny_seqItems o2 rfl (wpAny_bind (wpAny_updateSeq_pair o2 fun g3 o3 w3 => ?_)))
    refine wpAny_bind (wpAny_letGo (wpAny_pure ?_)); refine wpAny_bind (wpAny_bind (wpAny_onRaise ?_))
    show wpAny _ _ (Builtin.SmallTypes.nextOf (.ref i2) >>= _) _ _ _; refine wpAny_bind (S2.over hh (S2.stay Z.p2 (fun o q => w3.extBut _ _ D.TOi2.symm (w2.extBut _ _ D.i12.symm (w1.extBut _ _ D.i2z q))) (fun o q => w3.extBut _ _ D.l2TO (w2.extBut _ _ D.l2i1 (w1.extBut _ _ D.l2z q)))) hy fun g4 e w4 he => ?_)
    obtain ⟨oe, q1, q2⟩ := he
    have z4 : IsZip g4 z TI TO .ellipsis := w4 _ _ D.i2z.symm (w3.extBut _ _ D.TOz.symm (w2.extBut _ _ D.i1z.symm z1))
    have ez : e ≠ z := fun x => by subst x; rw [z4] at q1; cases q1; simp at q2
    refine wpAny_setField_rec z4 (by simp) fun g5 _ w5 => hE g5 e (fun c o n1 n2 n3 n4 q => w5.extBut _ _ n1 (w4 _ _ n4 (w3.extBut _ _ n2 (w2.extBut _ _ n3 (w1.extBut _ _ n1 q))))) ⟨oe, w5.extBut _ _ ez q1, q2⟩
theorem zm_next (S1 : ItStep prog w i1 l1 P1 xs) (S2 : ItStep prog w i2 l2 P2 ys) (D : ZipApart z TI TO i1 i2 l1 l2) {k : Nat} {x y : Value} (Z : ZpAt s.heap z TI TO i1 i2 P1 P2 a b k) (hx : xs[k]? = some x) (hy : ys[k]? = some y) {R : Option Value → Shared → Prop}
    (hR : ∀ g, IsZip g z TI TO (rawInt s.heap.objs.size) → IsPair g TO x y → P1 (k + 1) g → P2 (k + 1) g → IsPair g s.heap.objs.size x y → g.objs.size = s.heap.objs.size + 1 → (∀ c o, c ≠ z → c ≠ TO → c ≠ i1 → c ≠ i2 → s.heap.get? c = some o → g.get? c = some o) → R (some (.ref s.heap.objs.size)) { s with heap := g }) :
    wpAny (model prog w) A (pyNext (.ref z)) R E s := by
  have hT : s.TypeIs (.ref z) "zip" := ⟨_, Z.zz, rfl⟩; unfold pyNext
  exact wpAny_bind (wpAny_attempt (wpAny_callSpecial?_slot (name := Str.ofString "__next__") hT F.slot_zip_next (wpAny_call_entry F.slot_zip_next hT F.entry_zip_next (zm_item S1 S2 D Z hx hy fun g b1 b2 b3 b4 b5 b6 b7 => wpAny_pure (hR g b1 b2 b3 b4 b5 b6 b7)) (F.args_zip_next_1 _))))
theorem zm_stop (hh : A.handled = none) (S1 : ItStep prog w i1 l1 P1 xs) (S2 : ItStep prog w i2 l2 P2 ys) (D : ZipApart z TI TO i1 i2 l1 l2) {k : Nat} (Z : ZpAt s.heap z TI TO i1 i2 P1 P2 a b k) (hend : xs[k]? = none ∨ ys[k]? = none) {R : Option Value → Shared → Prop}
    (hR : ∀ g, (∀ c o, c ≠ z → c ≠ TO → c ≠ i1 → c ≠ i2 → s.heap.get? c = some o → g.get? c = some o) → R none { s with heap := g }) : wpAny (model prog w) A (pyNext (.ref z)) R E s := by
  have hT : s.TypeIs (.ref z) "zip" := ⟨_, Z.zz, rfl⟩; unfold pyNext
  refine wpAny_bind (wpAny_attempt (wpAny_callSpecial?_slot (name := Str.ofString "__next__") hT F.slot_zip_next (wpAny_call_entry F.slot_zip_next hT F.entry_zip_next (zm_end (A := A.in1) (show A.in1.handled = none from hh) S1 S2 D Z hend fun g e hk he => ?_) (F.args_zip_next_1 _))))
  obtain ⟨o, ho, hc⟩ := he
  exact wpAny_bind (wpAny_isInstance (T := "StopIteration") (b := true) ⟨o, ho, hc⟩ isSubtype_stop (wpAny_pure (hR _ hk)))
end
end Snd

set_option maxHeartbeats 1000000
namespace Snd
open PySem PySem.Spec PyProof.Rows L2
/-- the five objects of a new zip over a list and a tuple -/
abbrev zmA (h : Heap) (l1 : Addr) : Heap := h.push { cls := .type "list_iterator", data := .fields #[.ref l1, .int 0 0] }
abbrev zmB (h : Heap) (l1 l2 : Addr) : Heap := (zmA h l1).push { cls := .type "tuple_iterator", data := .fields #[.ref l2, .int 0 0] }
abbrev zmC (h : Heap) (l1 l2 : Addr) : Heap := (zmB h l1 l2).push { cls := .type "tuple", data := .seq #[.ref h.objs.size, .ref (zmA h l1).objs.size] }
abbrev zmD (h : Heap) (l1 l2 : Addr) : Heap := (zmC h l1 l2).push { cls := .type "tuple", data := .seq #[.none, .none] }
abbrev zmE (h : Heap) (l1 l2 : Addr) : Heap := (zmD h l1 l2).push { cls := .type "zip", data := .fields #[.none, .bool false, .bool false, .ref (zmB h l1 l2).objs.size, .ref (zmC h l1 l2).objs.size] }
theorem zm_new (l1 l2 : Addr) (xs ys : Array Value) :
    Meets (Builtin.«zip.__new__» ⟨[.type "zip", .ref l1, .ref l2], []⟩) (fun _ R s => s.heap.IsList l1 xs ∧ s.heap.IsTuple l2 ys ∧ R (.ok (.ret (.ref (zmD s.heap l1 l2).objs.size))) { s with heap := zmE s.heap l1 l2 }) :=
  .of_wp fun prog w A R s h => by
    obtain ⟨hp, g, d, tk, os⟩ := s; obtain ⟨q1, q2, h⟩ := h; have hsub := sub_zip
    have hL1 : Heap.IsList (Shared.heap ⟨hp, g, d, tk, os⟩) l1 xs := q1
    have hL2 : Heap.IsTuple (Shared.heap ⟨zmA hp l1, g, d, tk, os⟩) l2 ys := Heap.IsTuple.push q2 _
    wp_walk using wpAny_pyIter_list hL1, wpAny_pyIter_tuple hL2
    exact ⟨_, rfl, h⟩
section
variable {prog : Program} {w : World} {A : Around} {E : Value → Shared → Prop} {s : Shared}
theorem zm_call {l1 l2 : Addr} {xs ys : Array Value} {R : Value → Shared → Prop} (q1 : s.heap.IsList l1 xs) (q2 : s.heap.IsTuple l2 ys)
    (h : ∀ g, ZpAt g (s.heap.objs.size + 4) (s.heap.objs.size + 2) (s.heap.objs.size + 3) s.heap.objs.size (s.heap.objs.size + 1) (fun k h => h.IsListIter s.heap.objs.size l1 k ∧ h.IsList l1 xs) (fun k h => h.IsTupleIter (s.heap.objs.size + 1) l2 k ∧ h.IsTuple l2 ys) .none .none 0 →
      (∀ c o, s.heap.get? c = some o → g.get? c = some o) → R (.ref (s.heap.objs.size + 4)) { s with heap := g }) :
    wpAny (model prog w) A (call (.type "zip") [.ref l1, .ref l2]) R E s := by
  refine callType_new F.called_zip (by decide) (F.typeCall_zip_2 _ _) (F.newCall_zip_2 _ _) (fun obj => F.args_object_init_3 obj _ _) F.entry_zip_new (zm_new l1 l2 xs ys) ⟨q1, q2, ?_⟩
  have n1 : (zmA s.heap l1).objs.size = s.heap.objs.size + 1 := Heap.size_push ..
  have n2 : (zmB s.heap l1 l2).objs.size = s.heap.objs.size + 2 := by rw [Heap.size_push, n1]
  have n3 : (zmC s.heap l1 l2).objs.size = s.heap.objs.size + 3 := by rw [Heap.size_push, n2]
  have n4 : (zmD s.heap l1 l2).objs.size = s.heap.objs.size + 4 := by rw [Heap.size_push, n3]
  have e5 : (zmE s.heap l1 l2).get? (zmD s.heap l1 l2).objs.size = some _ := Heap.get?_push_size _ rfl
  have e4 : (zmE s.heap l1 l2).get? (zmC s.heap l1 l2).objs.size = some _ := Heap.get?_push_of_some _ (Heap.get?_push_size _ rfl)
  have e3 : (zmE s.heap l1 l2).get? (zmB s.heap l1 l2).objs.size = some _ := Heap.get?_push_of_some _ (Heap.get?_push_of_some _ (Heap.get?_push_size _ rfl))
  have e2 : (zmE s.heap l1 l2).get? (zmA s.heap l1).objs.size = some _ := Heap.get?_push_of_some _ (Heap.get?_push_of_some _ (Heap.get?_push_of_some _ (Heap.get?_push_size _ rfl)))
  have e1 : (zmE s.heap l1 l2).get? s.heap.objs.size = some _ := Heap.get?_push_of_some _ (Heap.get?_push_of_some _ (Heap.get?_push_of_some _ (Heap.get?_push_of_some _ (Heap.get?_push_size _ rfl))))
  have kp : ∀ c o, s.heap.get? c = some o → (zmE s.heap l1 l2).get? c = some o := fun c o x => Heap.get?_push_of_some _ (Heap.get?_push_of_some _ (Heap.get?_push_of_some _ (Heap.get?_push_of_some _ (Heap.get?_push_of_some _ x))))
  show _ ∧ _
  rw [n2, n3, n4] at e5; rw [n1, n2] at e3; rw [n3] at e4; rw [n1] at e2; rw [n4]
  exact ⟨⟨_, e5, rfl⟩, h _ ⟨e5, e3, e4, ⟨⟨_, e1, rfl, rfl⟩, q1.at fun o x => kp _ o x⟩, ⟨⟨_, e2, rfl, rfl⟩, q2.at fun o x => kp _ o x⟩⟩ kp⟩
end
/-- the list at a and the tuple at b as they stand at each turn -/
def ItzM (K : PySem.W.Frag) (a b : Addr) : It where
  go i H := ∃ (xs ys : List V) (x y : V), SqL K H a xs ∧ SqT K H b ys ∧ xs[i]? = some x ∧ ys[i]? = some y
  yld i H v H' := ∃ T x y, v = .ref T ∧ H T = none ∧ H' = upd H T (.tup [x, y]) ∧ (∀ xs, SqL K H a xs → xs[i]? = some x) ∧ ∀ ys, SqT K H b ys → ys[i]? = some y
  stop i H := ∃ xs ys : List V, SqL K H a xs ∧ SqT K H b ys ∧ (xs.length ≤ i ∨ ys.length ≤ i)
theorem five {c z TI TO i1 i2 : Addr} (h : c ∈ [z, TI, TO, i1, i2]) : c = z ∨ c = TI ∨ c = TO ∨ c = i1 ∨ c = i2 := by simpa using h
theorem turn_zm {P : Program} {w : World} {K : PySem.W.Frag} {elts : List Expr} {kk : Nat} {tpos : Pos} {a b z TI TO i1 i2 : Addr} (D : ZipApart z TI TO i1 i2 a b) :
    Turn P w K (.Tuple elts kk tpos) (ItzM K a b) [z, TI, TO, i1, i2] z (fun i h => IsZip h z TI TO .none ∧ IsPair h TI (.ref i1) (.ref i2) ∧ (∃ x y, IsPair h TO x y) ∧ h.IsListIter i1 a i ∧ h.IsTupleIter i2 b i) where
  mem := by simp
  obj := fun i h st c hc => by
    obtain ⟨s1, s2, ⟨x, y, s3⟩, ⟨o1, e1, _, d1⟩, ⟨o2, e2, _, d2⟩⟩ := st
    rcases five hc with rfl | rfl | rfl | rfl | rfl
    · exact ⟨_, s1, fun v q => nomatch q⟩
    · exact ⟨_, s2, fun v q => nomatch q⟩
    · exact ⟨_, s3, fun v q => nomatch q⟩
    · exact ⟨o1, e1, fun v q => by rw [d1] at q; cases q⟩
    · exact ⟨o2, e2, fun v q => by rw [d2] at q; cases q⟩
  keep := fun i h h' st k => by
    obtain ⟨s1, s2, ⟨x, y, s3⟩, s4, s5⟩ := st
    exact ⟨k z (by simp) _ s1, k TI (by simp) _ s2, ⟨x, y, k TO (by simp) _ s3⟩, s4.at fun o q => k i1 (by simp) o q, s5.at fun o q => k i2 (by simp) o q⟩
  item := by
    intro X hP hw hK hc i pins s σ H E I hf st hg
    subst hP hw hK
    obtain ⟨s1, s2, ⟨x0, y0, s3⟩, s4, s5⟩ := st
    obtain ⟨xs, ys, x, y, qx, qy, hx, hy⟩ := hg
    obtain ⟨its, rv, p, _⟩ := I.list qx
    obtain ⟨its2, rv2, p2, _⟩ := I.tuple qy
    obtain ⟨u, hu, ru⟩ := rv.get hx
    obtain ⟨u2, hu2, ru2⟩ := rv2.get hy
    have zl : z < s.heap.objs.size := Heap.lt_size s1
    have Z : ZpAt s.heap z TI TO i1 i2 (fun k h => h.IsListIter i1 a k ∧ h.IsList a its.toArray) (fun k h => h.IsTupleIter i2 b k ∧ h.IsTuple b its2.toArray) x0 y0 i := ⟨s1, s2, s3, ⟨s4, p.isList⟩, ⟨s5, p2⟩⟩
    refine zm_next (itr_list D.l1i1) (itr_tuple D.l2i2) D Z (x := u) (y := u2) (by simpa using hu) (by simpa using hu2) fun g gz gO g1 g2 gT gs gk => ?_
    refine ⟨_, rfl, wpAny_letOwnedTupleGo_zip (s := { s with heap := g }) gz fun g' z' sb => ?_⟩
    have hT2 : g'.get? s.heap.objs.size = some { cls := .type "tuple", data := .seq #[u, u2] } := (sb.2 _ (Nat.ne_of_gt zl)).trans gT
    have new : ObjOk X.prog X.w (upd H s.heap.objs.size (.tup [x, y])) g' s.heap.objs.size (.tup [x, y]) := ⟨by show 2 ≤ sizeLine; decide, [u, u2], .cons ru (.cons ru2 .nil), ⟨_, hT2, rfl, _, rfl⟩⟩
    have I1 : Inv X pins σ (upd H s.heap.objs.size (.tup [x, y])) { s with heap := g' } := I.turnedNew (t' := s.toks) (ch := [z, TI, TO, i1, i2]) (fun c o hb q => (sb.2 c (fun e => hb (by simp [e]))).trans (gk c o (fun e => hb (by simp [e])) (fun e => hb (by simp [e])) (fun e => hb (by simp [e])) (fun e => hb (by simp [e])) q)) hf (Nat.le_refl _) new
    refine ⟨.ref s.heap.objs.size, _, I1, rfl, ⟨_, x, y, rfl, I.hok.fresh (Nat.le_refl _), rfl, fun l hl => by rw [I.list_inj hl qx]; exact hx, fun l hl => by rw [I.tuple_inj hl qy]; exact hy⟩, ⟨z', (sb.2 _ D.TIz).trans (gk _ _ D.TIz D.TITO D.TIi1 D.TIi2 s2), ⟨u, u2, (sb.2 _ D.TOz).trans gO⟩, g1.1.at fun o q => (sb.2 _ D.i1z).trans q, g2.1.at fun o q => (sb.2 _ D.i2z).trans q⟩, fun c hcm => ?_⟩
    have lt : c < s.heap.objs.size := by
      rcases five hcm with rfl | rfl | rfl | rfl | rfl
      · exact zl
      · exact Heap.lt_size s2
      · exact Heap.lt_size s3
      · obtain ⟨_, q, _⟩ := s4; exact Heap.lt_size q
      · obtain ⟨_, q, _⟩ := s5; exact Heap.lt_size q
    rw [upd_ne (Nat.ne_of_lt lt)]; exact (hf c hcm).1
  done := by
    intro X hP hw hK hc i pins s σ H E I hf st hg
    subst hP hw hK
    obtain ⟨s1, s2, ⟨x0, y0, s3⟩, s4, s5⟩ := st
    obtain ⟨xs, ys, qx, qy, hend⟩ := hg
    obtain ⟨its, rv, p, _⟩ := I.list qx
    obtain ⟨its2, rv2, p2, _⟩ := I.tuple qy
    have n1 := rv.length; have n2 := rv2.length
    have Z : ZpAt s.heap z TI TO i1 i2 (fun k h => h.IsListIter i1 a k ∧ h.IsList a its.toArray) (fun k h => h.IsTupleIter i2 b k ∧ h.IsTuple b its2.toArray) x0 y0 i := ⟨s1, s2, s3, ⟨s4, p.isList⟩, ⟨s5, p2⟩⟩
    have he : its.toArray[i]? = none ∨ its2.toArray[i]? = none := hend.imp (fun q => by simp; omega) (fun q => by simp; omega)
    exact zm_stop (I.ok.hd hc) (itr_list D.l1i1) (itr_tuple D.l2i2) D Z he fun g gk => ⟨rfl, I.turnedL (t' := s.toks) (ch := [z, TI, TO, i1, i2]) (fun c o hb q => gk c o (fun e => hb (by simp [e])) (fun e => hb (by simp [e])) (fun e => hb (by simp [e])) (fun e => hb (by simp [e])) q) hf⟩
  self := fun A i s Q E st h => wpAny_pyIter_zip st.1 h
def iZipM (K : PySem.W.Frag) (ta : TA) : TI := fun σ H R => ta σ H fun vs H1 => ∃ a b xs ys, vs = [.ref a, .ref b] ∧ SqL K H1 a xs ∧ SqT K H1 b ys ∧ R (ItzM K a b) H1
theorem pi_zipM {X : Cx} {e e2 : Expr} {ta : TA} {p pos tpos : Pos} {elts : List Expr} {kk : Nat} (hg : Gl X "zip") (hm : X.mg "zip" = none) (ha : PA X [e, e2] ta) (hs : starEach [e, e2] X.env = (false, eval e X.env) :: starEach [e2] X.env := by rfl) (hpl : (backTo pos (starEach [e2] X.env)).any (·.1) = false := by rfl) :
    PI X (.Tuple elts kk tpos) (.Call (.Name "zip" p) [e, e2] [] pos) (iZipM X.K ta) := by
  refine ⟨fun pins s σ H R I h => Call_ (ld_blt I hg hm PyProof.Rows.boot_zip (PyProof.Rows.callWith_type1 (thn (ha.run pos pins s σ H _ I h) fun us s1 ⟨vs, H1, I1, r1, q1⟩ => ?_) hs hpl))⟩
  obtain ⟨a, b, xs, ys, rfl, qx, qy, q⟩ := q1
  cases r1 with
  | cons r rr =>
    cases rr with
    | cons r' rr =>
      cases rr; cases r; cases r'
      have fr : ∀ c, c ∈ [s1.heap.objs.size + 4, s1.heap.objs.size + 2, s1.heap.objs.size + 3, s1.heap.objs.size, s1.heap.objs.size + 1] → FpOk X pins H1 c := fun c hcm => by
        have le : s1.heap.objs.size ≤ c := by rcases five hcm with rfl | rfl | rfl | rfl | rfl <;> omega
        exact I1.fpOk le (I1.hok.fresh le)
      obtain ⟨its, rv, p1, _⟩ := I1.list qx
      obtain ⟨its2, rv2, p2, _⟩ := I1.tuple qy
      obtain ⟨o2, ho2, _⟩ := id p2
      refine zm_call p1.isList (show s1.heap.IsTuple b its2.toArray from p2) fun g Z hk => wpAny_pyIter_zip Z.zz ?_
      have I2 : Inv X pins σ H1 { s1 with heap := g } := I1.kept (t' := s1.toks) hk
      exact ⟨s1.heap.objs.size + 4, _, _, _, H1, rfl, I2, turn_zm (PySem.W.ktu_apart s1.heap.objs.size a b p1.lt (Heap.lt_size ho2)), ⟨Z.zz, Z.ti, ⟨_, _, Z.to⟩, Z.p1.1, Z.p2.1⟩, fr, q⟩
end Snd

namespace Snd
open PySem PySem.Spec PyProof.Rows L2
variable {X : Cx} {C : Ir.Calls}
/-! ### what is walked -/
structure Wk (K : PySem.W.Frag) (ρ0 : Rho) (H0 : Hp) (J : It) (xs : List Ir.D) : Prop where
  go : ∀ (i : Nat) (x : Ir.D) (ρ : Rho) (H : Hp) (st : Ir.Store), Ext ρ0 H0 ρ H → RS ρ K st H → xs[i]? = some x → J.go i H ∧ ∀ v H', J.yld i H v H' → Ext ρ H ρ H' ∧ RS ρ K st H' ∧ RD ρ K H' x v
  len : xs.length ≤ sizeLine
  stop : ∀ (i : Nat) (ρ : Rho) (H : Hp) (st : Ir.Store), Ext ρ0 H0 ρ H → RS ρ K st H → xs.length ≤ i → J.stop i H
theorem Wk.mono {K : PySem.W.Frag} {ρ ρ' : Rho} {H H' : Hp} {J : It} {xs : List Ir.D} (w : Wk K ρ H J xs) (e : Ext ρ H ρ' H') : Wk K ρ' H' J xs :=
  ⟨fun i x ρ1 H1 st e1 rs h => w.go i x ρ1 H1 st (e.trans e1) rs h, w.len, fun i ρ1 H1 st e1 rs h => w.stop i ρ1 H1 st (e.trans e1) rs h⟩
/-- data whose items are walked -/
def tSrc (C : Ir.Calls) (K : PySem.W.Frag) (e : Ir.Ex) : TI := fun σ H R => ∃ ρ env st p xs st', RS ρ K st H ∧ REnv ρ K H env σ ∧ Ir.eval C e env st = .ok (.d p) st' ∧ p.seq = some xs ∧ ∀ ρ' H' J, Ext ρ H ρ' H' → RS ρ' K st' H' → Wk K ρ' H' J xs → R J H'
abbrev SI (X : Cx) (C : Ir.Calls) (tg e : Expr) (ir : Ir.Ex) : Prop := PI X tg e (tSrc C X.K ir)
theorem pi_imp {tg e : Expr} {t t' : TI} (h : PI X tg e t) (w : ∀ σ H R, t' σ H R → t σ H R) : PI X tg e t' := ⟨fun pins s σ H R I q => h.run pins s σ H R I (w σ H R q)⟩
theorem pi_or {tg e : Expr} {t t' : TI} (h : PI X tg e t) (h' : PI X tg e t') : PI X tg e (fun σ H R => t σ H R ∨ t' σ H R) := ⟨fun pins s σ H R I q => by
  rcases q with q | q
  · exact h.run pins s σ H R I q
  · exact h'.run pins s σ H R I q⟩
theorem wk_list {K : PySem.W.Frag} {ρ : Rho} {H : Hp} {a : Addr} {xs : List Ir.D} {ys : List V} (h : H a = some (.lst ys)) (n : ¬ ρ.own a) (z : ys.length ≤ sizeLine) (r : RDs ρ K H xs ys) : Wk K ρ H (Itl K a) xs where
  len := by rw [r.length]; exact z
  go := fun i x ρ1 H1 st e rs hx => by
    obtain ⟨v, h1, h2⟩ := r.get hx
    have q : SqL K H1 a ys := SqL.of (e.fr _ _ h (own_no n))
    refine ⟨⟨ys, v, q, h1⟩, fun w H' hy => ?_⟩
    obtain ⟨rfl, hw⟩ := hy
    have := hw ys q
    rw [h1] at this; cases this
    exact ⟨.refl _ _, rs, h2.mono e⟩
  stop := fun i ρ1 H1 st e rs hl => ⟨ys, SqL.of (e.fr _ _ h (own_no n)), by rw [← r.length]; exact hl⟩
theorem wk_tup {K : PySem.W.Frag} {ρ : Rho} {H : Hp} {a : Addr} {xs : List Ir.D} {ys : List V} (h : TpAt ρ K H a ys) (z : ys.length ≤ sizeLine) (r : RDs ρ K H xs ys) : Wk K ρ H (Itt K a) xs where
  len := by rw [r.length]; exact z
  go := fun i x ρ1 H1 st e rs hx => by
    obtain ⟨v, h1, h2⟩ := r.get hx
    have q : SqT K H1 a ys := (h.mono e).sq
    refine ⟨⟨ys, v, q, h1⟩, fun w H' hy => ?_⟩
    obtain ⟨rfl, hw⟩ := hy
    have := hw ys q
    rw [h1] at this; cases this
    exact ⟨.refl _ _, rs, h2.mono e⟩
  stop := fun i ρ1 H1 st e rs hl => ⟨ys, (h.mono e).sq, by rw [← r.length]; exact hl⟩
theorem si_seq {tg e : Expr} {ir : Ir.Ex} (h : SE X C e ir) : SI X C tg e ir := by
  refine pi_imp (pi_or (pi_list h) (pi_tup h)) fun σ H R ⟨ρ, env, st, p, xs, st', rs, re, ev, hs, k⟩ => ?_
  cases p <;> simp only [Ir.D.seq, reduceCtorEq, Option.some.injEq] at hs
  · subst hs
    refine .inr ⟨ρ, env, st, _, st', rs, re, ev, fun ρ1 H1 X1 x1 rs1 rx => ?_⟩
    obtain ⟨a, ys, rfl, t, z, r⟩ := RD.tup_inv rx
    exact ⟨a, rfl, ⟨ys, t.sq⟩, k ρ1 H1 _ x1 rs1 (wk_tup t z r)⟩
  · subst hs
    refine .inl ⟨ρ, env, st, _, st', rs, re, ev, fun ρ1 H1 X1 x1 rs1 rx => ?_⟩
    cases rx with
    | lst h n z r => exact ⟨_, rfl, ⟨_, SqL.of h⟩, k ρ1 H1 _ x1 rs1 (wk_list h n z r)⟩
theorem wk_range {K : PySem.W.Frag} {ρ : Rho} {H : Hp} (lo : Int) (n : Nat) (z : n ≤ sizeLine) : Wk K ρ H (Itr lo n) (Ir.rangeL lo n) where
  len := by simpa [Ir.rangeL] using z
  go := fun i x ρ1 H1 st e rs hx => by
    have hi : i < n := by
      have := (List.getElem?_eq_some_iff.mp hx).1
      simpa [Ir.rangeL] using this
    have ex : x = .int (lo + (i : Nat)) := by
      simp only [Ir.rangeL, List.getElem?_map, List.getElem?_range hi, Option.map_some, Option.some.injEq] at hx
      exact hx.symm
    subst ex
    refine ⟨hi, fun w H' hy => ?_⟩
    obtain ⟨rfl, rfl⟩ := hy
    exact ⟨.refl _ _, rs, .int _⟩
  stop := fun i ρ1 H1 st e rs hl => by
    have : n ≤ i := by simpa [Ir.rangeL] using hl
    exact this
theorem si_range1 {tg e : Expr} {i : Ir.Ex} {p pos : Pos} (h : SE X C e i) (hm : X.mg (Str.ofString "range") = none) (hg : Gl X (Str.ofString "range") := by rfl) (hs : starEach [e] X.env = [(false, eval e X.env)] := by rfl) : SI X C tg (.Call (.Name (Str.ofString "range") p) [e] [] pos) (.blt .range [i]) := by
  refine pi_imp (pi_range1 hg hm (pa_cons h pa_nil hs) hs) fun σ H R ⟨ρ, env, st, q, xs, st', rs, re, ev, hseq, k⟩ => ?_
  simp only [Ir.eval, Ir.evals] at ev
  obtain ⟨vs, s1, e1, ev⟩ := bok ev
  obtain ⟨v, s2, e2, e1⟩ := bok e1
  simp only [Ir.Res.bind_ok] at e1
  cases e1
  obtain ⟨rfl, ds, r, h1, h2, h3⟩ := not_len (by decide) ev
  cases h3
  refine ⟨ρ, env, st, v, _, rs, re, e2, fun ρ1 H1 V1 x1 rs1 rv => ?_⟩
  have vd := VDs.derefs rs1 (.cons rv .nil) h1
  simp only [Ir.D.blt] at h2
  unfold Ir.D.bRange at h2
  split at h2
  · rename_i n
    split at h2
    · rename_i hn
      cases h2
      simp only [Ir.D.seq, Option.some.injEq] at hseq
      subst hseq
      cases vd with
      | cons vd t =>
        cases t
        have e0 : (Ir.LIM : Int) = 16777216 := by rw [Ir.LIM_eq]; rfl
        have e1 : sizeLine = 16777216 := by decide
        exact ⟨n, by rw [RD.int_inv vd], by omega, by omega, k ρ1 H1 _ x1 rs1 (wk_range 0 n.toNat (by omega))⟩
    · cases h2
  · cases vd with
    | cons _ t => cases t
  · cases h2
theorem si_range2 {tg e f : Expr} {i j : Ir.Ex} {p pos : Pos} (h : SE X C e i) (h' : SE X C f j) (hm : X.mg (Str.ofString "range") = none) (hg : Gl X (Str.ofString "range") := by rfl) (hs : starEach [e, f] X.env = [(false, eval e X.env), (false, eval f X.env)] := by rfl) (hs2 : starEach [f] X.env = [(false, eval f X.env)] := by rfl) : SI X C tg (.Call (.Name (Str.ofString "range") p) [e, f] [] pos) (.blt .range [i, j]) := by
  refine pi_imp (pi_range2 hg hm (pa_cons h (pa_cons h' pa_nil hs2) (by rw [hs, hs2])) hs hs2) fun σ H R ⟨ρ, env, st, q, xs, st', rs, re, ev, hseq, k⟩ => ?_
  simp only [Ir.eval, Ir.evals] at ev
  obtain ⟨vs, s1, e1, ev⟩ := bok ev
  obtain ⟨v, s2, e2, e1⟩ := bok e1
  obtain ⟨ws, s3, e3, e1⟩ := bok e1
  obtain ⟨w, s4, e4, e3⟩ := bok e3
  simp only [Ir.Res.bind_ok] at e3
  cases e3
  cases e1
  obtain ⟨rfl, ds, r, h1, h2, h3⟩ := not_len (by decide) ev
  cases h3
  refine ⟨ρ, env, st, v, _, rs, re, e2, fun ρ1 H1 V1 x1 rs1 rv => ⟨ρ1, env, _, w, _, rs1, re.mono x1, e4, fun ρ2 H2 W1 x2 rs2 rw' => ?_⟩⟩
  have vd := VDs.derefs rs2 (.cons (rv.mono x2) (.cons rw' .nil)) h1
  simp only [Ir.D.blt] at h2
  unfold Ir.D.bRange at h2
  split at h2
  · cases vd with
    | cons _ t => cases t
  · rename_i a b
    split at h2
    · rename_i hn
      cases h2
      simp only [Ir.D.seq, Option.some.injEq] at hseq
      subst hseq
      cases vd with
      | cons vd t =>
        cases t with
        | cons vd2 t =>
          cases t
          have e0 : (Ir.LIM : Int) = 16777216 := by rw [Ir.LIM_eq]; rfl
          have e1 : sizeLine = 16777216 := by decide
          exact ⟨a, b, by rw [RD.int_inv vd, RD.int_inv vd2], ⟨by omega, by omega, by omega, by omega⟩, k ρ2 H2 _ (x1.trans x2) rs2 (wk_range a (b - a).toNat (by omega))⟩
    · cases h2
  · cases h2
theorem zip_get {xs ys : List Ir.D} {i : Nat} {d : Ir.D} (h : (Ir.zipL xs ys)[i]? = some d) : ∃ x y, xs[i]? = some x ∧ ys[i]? = some y ∧ d = .tup [x, y] := by
  simp only [Ir.zipL, List.getElem?_map, Option.map_eq_some_iff] at h
  obtain ⟨p, h1, rfl⟩ := h
  rw [List.getElem?_zip_eq_some] at h1
  exact ⟨p.1, p.2, h1.1, h1.2, rfl⟩
theorem zip_len (xs ys : List Ir.D) : (Ir.zipL xs ys).length = min xs.length ys.length := by simp [Ir.zipL]
theorem wk_zip {K : PySem.W.Frag} {ρ : Rho} {H : Hp} {a b : Addr} {xs zs : List Ir.D} {ys ws : List V} (h : H a = some (.lst ys)) (n : ¬ ρ.own a) (z : ys.length ≤ sizeLine) (r : RDs ρ K H xs ys) (h' : H b = some (.lst ws)) (n' : ¬ ρ.own b) (r' : RDs ρ K H zs ws) : Wk K ρ H (Itz K a b) (Ir.zipL xs zs) where
  len := by rw [zip_len, r.length]; omega
  go := fun i d ρ1 H1 st e rs hd => by
    obtain ⟨x, y, hx, hy, rfl⟩ := zip_get hd
    obtain ⟨v, h1, h2⟩ := r.get hx
    obtain ⟨u, h3, h4⟩ := r'.get hy
    have q : SqL K H1 a ys := SqL.of (e.fr _ _ h (own_no n))
    have q' : SqL K H1 b ws := SqL.of (e.fr _ _ h' (own_no n'))
    refine ⟨⟨ys, ws, v, u, q, q', h1, h3⟩, fun w H' hw => ?_⟩
    obtain ⟨T, x', y', rfl, nT, rfl, f1, f2⟩ := hw
    have e1 := f1 ys q
    have e2 := f2 ws q'
    rw [h1] at e1; cases e1
    rw [h3] at e2; cases e2
    exact ⟨.grow rs nT _, rs.grow nT _, grow_tup rs (.cons (h2.mono e) (.cons (h4.mono e) .nil)) (by show 2 ≤ sizeLine; decide) nT⟩
  stop := fun i ρ1 H1 st e rs hl => by
    refine ⟨ys, ws, SqL.of (e.fr _ _ h (own_no n)), SqL.of (e.fr _ _ h' (own_no n')), ?_⟩
    rw [zip_len, r.length, r'.length] at hl
    omega
theorem wk_zipM {K : PySem.W.Frag} {ρ : Rho} {H : Hp} {a b : Addr} {xs zs : List Ir.D} {ys ws : List V} (h : H a = some (.lst ys)) (n : ¬ ρ.own a) (z : ys.length ≤ sizeLine) (r : RDs ρ K H xs ys) (h' : TpAt ρ K H b ws) (r' : RDs ρ K H zs ws) : Wk K ρ H (ItzM K a b) (Ir.zipL xs zs) where
  len := by rw [zip_len, r.length]; omega
  go := fun i d ρ1 H1 st e rs hd => by
    obtain ⟨x, y, hx, hy, rfl⟩ := zip_get hd
    obtain ⟨v, h1, h2⟩ := r.get hx
    obtain ⟨u, h3, h4⟩ := r'.get hy
    have q : SqL K H1 a ys := SqL.of (e.fr _ _ h (own_no n))
    have q' : SqT K H1 b ws := (h'.mono e).sq
    refine ⟨⟨ys, ws, v, u, q, q', h1, h3⟩, fun w H' hw => ?_⟩
    obtain ⟨T, x', y', rfl, nT, rfl, f1, f2⟩ := hw
    have e1 := f1 ys q
    have e2 := f2 ws q'
    rw [h1] at e1; cases e1
    rw [h3] at e2; cases e2
    exact ⟨.grow rs nT _, rs.grow nT _, grow_tup rs (.cons (h2.mono e) (.cons (h4.mono e) .nil)) (by show 2 ≤ sizeLine; decide) nT⟩
  stop := fun i ρ1 H1 st e rs hl => by
    refine ⟨ys, ws, SqL.of (e.fr _ _ h (own_no n)), (h'.mono e).sq, ?_⟩
    rw [zip_len, r.length, r'.length] at hl
    omega
theorem wk_zipT {K : PySem.W.Frag} {ρ : Rho} {H : Hp} {a b : Addr} {xs zs : List Ir.D} {ys ws : List V} (h : TpAt ρ K H a ys) (z : ys.length ≤ sizeLine) (r : RDs ρ K H xs ys) (h' : TpAt ρ K H b ws) (r' : RDs ρ K H zs ws) : Wk K ρ H (RZ.ItzT K a b) (Ir.zipL xs zs) where
  len := by rw [zip_len, r.length]; omega
  go := fun i d ρ1 H1 st e rs hd => by
    obtain ⟨x, y, hx, hy, rfl⟩ := zip_get hd
    obtain ⟨v, h1, h2⟩ := r.get hx
    obtain ⟨u, h3, h4⟩ := r'.get hy
    have q : SqT K H1 a ys := (h.mono e).sq
    have q' : SqT K H1 b ws := (h'.mono e).sq
    refine ⟨⟨ys, ws, v, u, q, q', h1, h3⟩, fun w H' hw => ?_⟩
    obtain ⟨T, x', y', rfl, nT, rfl, f1, f2⟩ := hw
    have e1 := f1 ys q
    have e2 := f2 ws q'
    rw [h1] at e1; cases e1
    rw [h3] at e2; cases e2
    exact ⟨.grow rs nT _, rs.grow nT _, grow_tup rs (.cons (h2.mono e) (.cons (h4.mono e) .nil)) (by show 2 ≤ sizeLine; decide) nT⟩
  stop := fun i ρ1 H1 st e rs hl => by
    refine ⟨ys, ws, (h.mono e).sq, (h'.mono e).sq, ?_⟩
    rw [zip_len, r.length, r'.length] at hl
    omega
/-! ### comprehensions -/
theorem si_zip {e f : Expr} {i j : Ir.Ex} {p pos tpos : Pos} {elts : List Expr} {kk : Nat} (h : SE X C e i) (h' : SE X C f j) (hm : X.mg (Str.ofString "zip") = none) (hg : Gl X (Str.ofString "zip") := by rfl) (hs : starEach [e, f] X.env = (false, eval e X.env) :: starEach [f] X.env := by rfl) (hs2 : starEach [f] X.env = (false, eval f X.env) :: starEach [] X.env := by rfl) (hpl : (backTo pos (starEach [f] X.env)).any (·.1) = false := by rfl) :
    SI X C (.Tuple elts kk tpos) (.Call (.Name (Str.ofString "zip") p) [e, f] [] pos) (.blt .zip [i, j]) := by
  refine pi_imp (pi_or (RZ.pi_zipA hg hm (pa_cons h (pa_cons h' pa_nil hs2) hs) hs hpl) (pi_zipM hg hm (pa_cons h (pa_cons h' pa_nil hs2) hs) hs hpl)) fun σ H R ⟨ρ, env, st, q, xs, st', rs, re, ev, hseq, k⟩ => ?_
  simp only [Ir.eval, Ir.evals] at ev
  obtain ⟨vs, s1, e1, ev⟩ := bok ev
  obtain ⟨v, s2, e2, e1⟩ := bok e1
  obtain ⟨ws, s3, e3, e1⟩ := bok e1
  obtain ⟨w, s4, e4, e3⟩ := bok e3
  simp only [Ir.Res.bind_ok] at e3
  cases e3
  cases e1
  obtain ⟨rfl, ds, r, h1, h2, h3⟩ := zip_inv ev
  cases h3
  have vv : ∃ p q, v = .d p ∧ w = .d q ∧ ds = [p, q] := by
    cases v <;> cases w <;> simp [Ir.asDs] at h1
    exact ⟨_, _, rfl, rfl, h1.symm⟩
  obtain ⟨p1, q1, rfl, rfl, rfl⟩ := vv
  unfold Ir.D.bZip at h2
  split at h2
  · rename_i as bs hq
    simp only [List.cons.injEq, and_true] at hq
    obtain ⟨rfl, rfl⟩ := hq
    cases h2
    simp only [Ir.D.seq, Option.some.injEq] at hseq
    subst hseq
    refine .inl ⟨ρ, env, st, _, _, rs, re, e2, fun ρ1 H1 V1 x1 rs1 rv => ⟨ρ1, env, _, _, _, rs1, re.mono x1, e4, fun ρ2 H2 W1 x2 rs2 rw' => ?_⟩⟩
    have rv2 : RD ρ2 X.K H2 (.lst as) V1 := RD.mono x2 rv
    have rw2 : RD ρ2 X.K H2 (.lst bs) W1 := rw'
    cases rv2 with
    | lst g1 g2 g3 g4 =>
      cases rw2 with
      | lst f1 f2 f3 f4 => exact ⟨_, _, _, _, rfl, .inl ⟨SqL.of g1, SqL.of f1, k ρ2 H2 _ (x1.trans x2) rs2 (wk_zip g1 g2 g3 g4 f1 f2 f4)⟩⟩
  · rename_i as bs hq
    simp only [List.cons.injEq, and_true] at hq
    obtain ⟨rfl, rfl⟩ := hq
    cases h2
    simp only [Ir.D.seq, Option.some.injEq] at hseq
    subst hseq
    refine .inl ⟨ρ, env, st, _, _, rs, re, e2, fun ρ1 H1 V1 x1 rs1 rv => ⟨ρ1, env, _, _, _, rs1, re.mono x1, e4, fun ρ2 H2 W1 x2 rs2 rw' => ?_⟩⟩
    have rv2 : RD ρ2 X.K H2 (.tup as) V1 := RD.mono x2 rv
    have rw2 : RD ρ2 X.K H2 (.tup bs) W1 := rw'
    obtain ⟨a, ys, rfl, t, z, r⟩ := RD.tup_inv rv2
    obtain ⟨b, zs, rfl, t', z', r'⟩ := RD.tup_inv rw2
    exact ⟨_, _, _, _, rfl, .inr ⟨t.sq, t'.sq, k ρ2 H2 _ (x1.trans x2) rs2 (wk_zipT t z r t' r')⟩⟩
  · rename_i as bs hq
    simp only [List.cons.injEq, and_true] at hq
    obtain ⟨rfl, rfl⟩ := hq
    cases h2
    simp only [Ir.D.seq, Option.some.injEq] at hseq
    subst hseq
    refine .inr ⟨ρ, env, st, _, _, rs, re, e2, fun ρ1 H1 V1 x1 rs1 rv => ⟨ρ1, env, _, _, _, rs1, re.mono x1, e4, fun ρ2 H2 W1 x2 rs2 rw' => ?_⟩⟩
    have rv2 : RD ρ2 X.K H2 (.lst as) V1 := RD.mono x2 rv
    have rw2 : RD ρ2 X.K H2 (.tup bs) W1 := rw'
    obtain ⟨b, zs, rfl, t', z', r'⟩ := RD.tup_inv rw2
    cases rv2 with
    | lst g1 g2 g3 g4 => exact ⟨_, _, _, _, rfl, SqL.of g1, t'.sq, k ρ2 H2 _ (x1.trans x2) rs2 (wk_zipM g1 g2 g3 g4 t' r')⟩
  · cases h2
/-! ### comprehensions -/
theorem sc_nil : SCs X C [] [] := pts_imp pts_nil fun σ H Q ⟨ρ, env, st, b, st', rs, re, ev, k⟩ => by
  simp only [Ir.conds] at ev; cases ev; exact k ρ H (.refl _ _) rs
theorem sc_one {e : Expr} {i : Ir.Ex} (h : ST X C e i) : SCs X C [e] [i] := pts_imp (pts_one h) fun σ H Q ⟨ρ, env, st, b, st', rs, re, ev, k⟩ => by
  simp only [Ir.conds] at ev
  obtain ⟨x, s1, e1, ev⟩ := bok ev
  obtain ⟨c, e2, ev2⟩ := ook ev
  obtain rfl := asB_ok e2
  have : b = c ∧ st' = s1 := by
    split at ev2
    · rename_i hc
      cases ev2
      exact ⟨hc.symm, rfl⟩
    · rename_i hc
      cases ev2
      exact ⟨by simpa using hc, rfl⟩
  obtain ⟨rfl, rfl⟩ := this
  exact ⟨ρ, env, st, b, st', rs, re, e1, k⟩
theorem wipe_get (σ : L2.St) (i : Nat) : ∀ vs : List Nat, (L2.wipe σ vs)[i]? = if i ∈ vs then (σ[i]?).map (fun _ => none) else σ[i]?
  | [] => by simp [L2.wipe]
  | v :: vs => by
    simp only [L2.wipe]
    by_cases e : v = i
    · subst e
      rw [List.getElem?_set, L2.wipe_length]
      simp only [if_true, List.mem_cons, true_or]
      by_cases h : v < σ.length
      · rw [if_pos h, List.getElem?_eq_getElem h]; rfl
      · rw [if_neg h, List.getElem?_eq_none (by omega)]; rfl
    · rw [List.getElem?_set_ne e, wipe_get σ i vs]
      have : i ∈ v :: vs ↔ i ∈ vs := by simp [Ne.symm e]
      simp only [this]
theorem wipe_idem (σ : L2.St) (vs : List Nat) : L2.wipe (L2.wipe σ vs) vs = L2.wipe σ vs := by
  apply List.ext_getElem?
  intro i
  rw [wipe_get, wipe_get]
  split
  · cases σ[i]? <;> rfl
  · rfl
/-- the turns of a comprehension -/
theorem comp_core {K : PySem.W.Frag} {J : It} {xs : List Ir.D} {tg : Ir.Tg} {cs : List Ir.Ex} {elt : Ir.Ex} {σ : L2.St} {env : Ir.Env} {ρ1 : Rho} {H1 : Hp} {s3 s8 : Ir.Store} {ys : List Ir.D} {D : Addr} {Qd : Hp → Prop} (rs1 : RS ρ1 K s3 H1) (re1 : REnv ρ1 K H1 env σ) (wk : Wk K ρ1 H1 J xs) (hD : H1 D = none)
    (ev : Ir.compL (Ir.compStep (Ir.eval C elt) (Ir.conds C cs) tg (Ir.wipe env tg.slots)) xs s3 = .ok ys s8)
    (k : ∀ ρ' H' zs, Ext ρ1 H1 ρ' H' → RS ρ' K s8 H' → D ∈ ρ'.res → H' D = some (.lst zs) → zs.length ≤ sizeLine → RDs ρ' K H' ys zs → Qd H') :
    ∃ W : Nat → Nat → Hp → Prop, (∃ m, W 0 m (upd H1 D (.lst []))) ∧ ∀ i m H, W i m H →
      (J.stop i H ∧ Qd H) ∨ (J.go i H ∧ ∃ Nx : Hp → Prop, (∀ H', Nx H' → ∃ m', m' < m ∧ W (i + 1) m' H') ∧ ∀ x H', J.yld i H x H' → tG K tg x (L2.wipe σ tg.slots) H' fun σ2 H2 => L2.wipe σ2 tg.slots = L2.wipe σ tg.slots ∧ tICs C K cs σ2 H2 fun b H3 =>
        if b = true then tI C K elt σ2 H3 fun y H4 => ∃ acc, H4 D = some (.lst acc) ∧ acc.length < sizeLine ∧ Nx (upd H4 D (.lst (acc ++ [y]))) else Nx H3) := by
  -- between the turns: D holds what is made so far; the rest of the run is known
  refine ⟨fun i m H => ∃ ρ st acc done rest, Ext ρ1 H1 ρ H ∧ RS ρ K st H ∧ D ∈ ρ.res ∧ H D = some (.lst acc) ∧ RDs ρ K H done acc ∧ acc.length ≤ i ∧ i ≤ xs.length ∧ m = xs.length - i ∧ ys = done ++ rest ∧
      Ir.compL (Ir.compStep (Ir.eval C elt) (Ir.conds C cs) tg (Ir.wipe env tg.slots)) (xs.drop i) st = .ok rest s8,
    ⟨xs.length, ρ1.keep D, s3, [], [], ys, .keep rs1 hD _, rs1.keep hD _, List.mem_cons_self, upd_same, .nil, Nat.zero_le _, Nat.zero_le _, by omega, rfl, ev⟩, ?_⟩
  rintro i m H ⟨ρ, st, acc, done, rest, x1, rs, hres, hacc, rd, hl, hi, rfl, rfl, ec⟩
  by_cases hlt : i < xs.length
  · have hx : xs[i]? = some xs[i] := List.getElem?_eq_getElem hlt
    have hdrop : xs.drop i = xs[i] :: xs.drop (i + 1) := List.drop_eq_getElem_cons hlt
    rw [hdrop] at ec
    simp only [Ir.compL] at ec
    obtain ⟨oy, s1, e1, ec⟩ := bok ec
    obtain ⟨rest1, s2, e2, ec⟩ := bok ec
    unfold Ir.compStep at e1
    obtain ⟨env1, e3, e1⟩ := ook e1
    obtain ⟨b, s5, e4, e1⟩ := bok e1
    obtain ⟨go, yl⟩ := wk.go i _ ρ H st x1 rs hx
    refine .inr ⟨go, fun H' => ∃ m', m' < xs.length - i ∧ ∃ ρ st acc done rest, Ext ρ1 H1 ρ H' ∧ RS ρ K st H' ∧ D ∈ ρ.res ∧ H' D = some (.lst acc) ∧ RDs ρ K H' done acc ∧ acc.length ≤ i + 1 ∧ i + 1 ≤ xs.length ∧ m' = xs.length - (i + 1) ∧ _ = done ++ rest ∧ _, fun H' h => h, fun v H2 hy => ?_⟩
    obtain ⟨x2, rs2, rx⟩ := yl v H2 hy
    have hacc2 : H2 D = some (.lst acc) := x2.fr _ _ hacc (rs.disj D hres)
    refine ⟨ρ, _, st, _, env1, rs2, ((re1.mono (x1.trans x2)).wipe tg.slots), rx, e3, fun ρ3 H3 σ3 x3 rs3 re3 on => ⟨?_, ρ3, env1, st, b, s5, rs3, re3, e4, fun ρ4 H4 x4 rs4 => ?_⟩⟩
    · have := on tg.slots fun _ q => q
      rw [this, wipe_idem]
    have hres3 : D ∈ ρ3.res := x3.rs D hres
    have hacc3 : H3 D = some (.lst acc) := x3.fr _ _ hacc2 (rs2.disj D hres)
    have hres4 : D ∈ ρ4.res := x4.rs D hres3
    have hacc4 : H4 D = some (.lst acc) := x4.fr _ _ hacc3 (rs3.disj D hres3)
    have x14 : Ext ρ1 H1 ρ4 H4 := ((x1.trans x2).trans x3).trans x4
    cases b with
    | false =>
      simp only [Bool.false_eq_true, if_false] at e1 ⊢
      cases e1
      simp only at ec
      cases ec
      exact ⟨xs.length - (i + 1), by omega, ρ4, _, acc, done, _, x14, rs4, hres4, hacc4, ((rd.mono x2).mono x3).mono x4, by omega, hlt, rfl, rfl, e2⟩
    | true =>
      simp only [if_true] at e1 ⊢
      obtain ⟨z, s6, e5, e1⟩ := bok e1
      obtain ⟨d, e6, e1⟩ := ook e1
      obtain rfl := asD_ok e6
      cases e1
      simp only at ec
      cases ec
      refine ⟨ρ4, env1, s5, _, _, rs4, re3.mono x4, e5, fun ρ5 H5 Y x5 rs5 ry => ?_⟩
      have hres5 : D ∈ ρ5.res := x5.rs D hres4
      have hacc5 : H5 D = some (.lst acc) := x5.fr _ _ hacc4 (rs4.disj D hres4)
      have hlen := wk.len
      refine ⟨acc, hacc5, by omega, xs.length - (i + 1), by omega, ρ5, _, acc ++ [Y], done ++ [d], _, (x14.trans x5).aside hD, rs5.aside hres5, hres5, upd_same, ?_, ?_, hlt, rfl, by simp, e2⟩
      · exact RDs.aside hres5 (((((rd.mono x2).mono x3).mono x4).mono x5).append (.cons ry .nil))
      · rw [List.length_append]; simp; omega
  · have e : i = xs.length := by omega
    subst e
    rw [List.drop_length] at ec
    simp only [Ir.compL] at ec
    cases ec
    rw [List.append_nil] at k
    have hlen := wk.len
    exact .inl ⟨wk.stop _ ρ H _ x1 rs (Nat.le_refl _), k ρ H acc x1 rs hres hacc (by omega) rd⟩
end Snd

namespace Snd
open PySem PySem.Spec PyProof.Rows L2
variable {X : Cx} {C : Ir.Calls} {W : WX}
/-! ### comprehensions -/
theorem tLc_of {K : PySem.W.Frag} {elt it : Ir.Ex} {tg : Ir.Tg} {cs : List Ir.Ex} {vs : List Nat} (hvs : vs = tg.slots) : ∀ σ H Q, tN C K (.comp elt tg it cs) σ H Q → tLc (tSrc C K it) (tG K tg) (tICs C K cs) (tI C K elt) vs σ H Q := by
  intro σ H Q ⟨ρ, env, st, ys, st', rs, re, ev, k⟩
  subst hvs
  simp only [Ir.eval] at ev
  obtain ⟨x, s1, e1, ev⟩ := bok ev
  obtain ⟨p, e2, ev1⟩ := ook ev
  clear ev
  obtain ⟨xs, e3, ev2⟩ := ook ev1
  clear ev1
  obtain ⟨zs, s8, e4, ev3⟩ := bok ev2
  clear ev2
  obtain rfl := asD_ok e2
  cases ev3
  exact ⟨ρ, env, st, p, xs, s1, rs, re, e1, e3, fun ρ1 H1 J x1 rs1 wk D hD => comp_core rs1 (re.mono x1) wk hD e4 fun ρ' H' ws x2 rs2 hr hh z r => k ρ' H' D ws (x1.trans x2) rs2 (x1.al D hD) hr hh z r⟩
theorem is_comp {elt it : Ir.Ex} {tg : Ir.Tg} {cs : List Ir.Ex} : ∀ env st v st', Ir.eval C (.comp elt tg it cs) env st = .ok v st' → ∃ xs, v = .d (.lst xs) := fun env st v st' ev => by
  simp only [Ir.eval] at ev
  obtain ⟨x, s1, e1, ev⟩ := bok ev
  obtain ⟨p, e2, ev⟩ := ook ev
  obtain ⟨xs, e3, ev⟩ := ook ev
  obtain ⟨zs, s8, e4, ev⟩ := bok ev
  cases ev
  exact ⟨_, rfl⟩
theorem sn_comp {elt tg iter : Expr} {ifs : List Expr} {scope : Scope} (own : List (Str × Nat)) {pos : Pos} {ie it : Ir.Ex} {t : Ir.Tg} {cs : List Ir.Ex} (hc : X.calm = true) (hN : X.N.Nodup) (hi : SI X C tg iter it) (ok : BlkOk X.N X.env.scope scope own)
    (hg : ∀ (s : Shared) (H : Hp) (Cc : Addr) (cl : List (Str × Addr)) (fp : List Addr), SG (X.blk s H scope (compEnvC scope cl Cc X.env) fp) tg t) (ht : ∀ (s : Shared) (H : Hp) (Cc : Addr) (cl : List (Str × Addr)) (fp : List Addr), SCs (X.blk s H scope (compEnvC scope cl Cc X.env) fp) C ifs cs)
    (he : ∀ (s : Shared) (H : Hp) (Cc : Addr) (cl : List (Str × Addr)) (fp : List Addr), SE (X.blk s H scope (compEnvC scope cl Cc X.env) fp) C elt ie) (hvs : own.map (·.2) = t.slots := by rfl) (hs : ∀ x, foldedSetIterable iter X.env x = pure x := by intro _; rfl) :
    SN X C (.ListComp elt [⟨tg, iter, ifs, 0⟩] scope pos) (.comp ie t it cs) := pe_imp (pe_lc hc hN hi ok hg ht he hs) (tLc_of hvs)
/-! ### statements -/
def Post (K : PySem.W.Frag) (mg : Str → Option Value) (W : WX) (D : Ends) (ρ : Rho) (H : Hp) (st' : Ir.Store) : Ir.Out → Prop
  | .nx env' => ∀ ρ' H' σ', Ext ρ H ρ' H' → RS ρ' K st' H' → REnv ρ' K H' env' σ' → D.nx σ' H'
  | .ret v => ∀ ρ' H' x, Ext ρ H ρ' H' → RS ρ' K st' H' → RV ρ' K H' v x → D.rt x H'
  | .brk env' => ∀ ρ' H' σ', Ext ρ H ρ' H' → RS ρ' K st' H' → REnv ρ' K H' env' σ' → D.bk σ' H'
  | .cnt env' => ∀ ρ' H' σ', Ext ρ H ρ' H' → RS ρ' K st' H' → REnv ρ' K H' env' σ' → D.ct σ' H'
  | .thr c as env' => ∀ ρ' H' σ' cls d, Ext ρ H ρ' H' → RS ρ' K st' H' → REnv ρ' K H' env' σ' → RXc mg c as cls d → W cls d σ' H'
theorem Post.mono {K : PySem.W.Frag} {mg : Str → Option Value} {W : WX} {D : Ends} {ρ ρ1 : Rho} {H H1 : Hp} {st' : Ir.Store} {o : Ir.Out} (x : Ext ρ H ρ1 H1) (h : Post K mg W D ρ H st' o) : Post K mg W D ρ1 H1 st' o := by
  cases o with
  | nx e => exact fun ρ' H' σ' x1 rs re => h ρ' H' σ' (x.trans x1) rs re
  | ret v => exact fun ρ' H' σ' x1 rs re => h ρ' H' σ' (x.trans x1) rs re
  | brk e => exact fun ρ' H' σ' x1 rs re => h ρ' H' σ' (x.trans x1) rs re
  | cnt e => exact fun ρ' H' σ' x1 rs re => h ρ' H' σ' (x.trans x1) rs re
  | thr c as e => exact fun ρ' H' σ' cls d x1 rs re rx => h ρ' H' σ' cls d (x.trans x1) rs re rx
def tS1 (C : Ir.Calls) (K : PySem.W.Frag) (mg : Str → Option Value) (W : WX) (s : Ir.Stm) : TS := fun D σ H => ∃ ρ env st o st', RS ρ K st H ∧ REnv ρ K H env σ ∧ Ir.exec C s env st = .ok o st' ∧ Post K mg W D ρ H st' o
def tS (C : Ir.Calls) (K : PySem.W.Frag) (mg : Str → Option Value) (W : WX) (s : List Ir.Stm) : TS := fun D σ H => ∃ ρ env st o st', RS ρ K st H ∧ REnv ρ K H env σ ∧ Ir.execs C s env st = .ok o st' ∧ Post K mg W D ρ H st' o
abbrev SS (X : Cx) (C : Ir.Calls) (W : WX) (st : Stmt) (s : Ir.Stm) : Prop := PS X st (tS1 C X.K X.mg W s)
abbrev SSs (X : Cx) (C : Ir.Calls) (W : WX) (st : List Stmt) (s : List Ir.Stm) : Prop := PSs X st (tS C X.K X.mg W s)
theorem ps_imp {st : Stmt} {t t' : TS} (h : PS X st t) (w : ∀ D σ H, t' D σ H → t D σ H) : PS X st t' := ⟨fun pins s σ H D I q => h.run pins s σ H D I (w D σ H q)⟩
theorem pss_imp {st : List Stmt} {t t' : TS} (h : PSs X st t) (w : ∀ D σ H, t' D σ H → t D σ H) : PSs X st t' := ⟨fun pins s σ H D I q => h.run pins s σ H D I (w D σ H q)⟩
theorem ps_or {st : Stmt} {t t' : TS} (h : PS X st t) (h' : PS X st t') : PS X st (fun D σ H => t D σ H ∨ t' D σ H) := ⟨fun pins s σ H D I q => by
  rcases q with q | q
  · exact h.run pins s σ H D I q
  · exact h'.run pins s σ H D I q⟩
theorem ss_nil : SSs X C W [] [] := pss_imp pss_nil fun D σ H ⟨ρ, env, st, o, st', rs, re, ev, k⟩ => by
  simp only [Ir.execs] at ev
  cases ev
  exact k ρ H σ (.refl _ _) rs re
theorem ss_cons {st : Stmt} {rest : List Stmt} {s : Ir.Stm} {ss : List Ir.Stm} (h1 : SS X C W st s) (h2 : SSs X C W rest ss) : SSs X C W (st :: rest) (s :: ss) := by
  refine pss_imp (pss_cons h1 h2) fun D σ H ⟨ρ, env, st, o, st', rs, re, ev, k⟩ => ?_
  simp only [Ir.execs] at ev
  obtain ⟨o1, s1, e1, ev⟩ := bok ev
  refine ⟨ρ, env, st, o1, s1, rs, re, e1, ?_⟩
  cases o1 with
  | nx env1 => exact fun ρ' H' σ' x1 rs1 re1 => ⟨ρ', env1, s1, o, st', rs1, re1, ev, k.mono x1⟩
  | ret v => simp only at ev; cases ev; exact k
  | brk v => simp only at ev; cases ev; exact k
  | cnt v => simp only at ev; cases ev; exact k
  | thr c as v => simp only at ev; cases ev; exact k
theorem ss_pass {pos : Pos} : SS X C W (.Pass pos) .pass := ps_imp ps_pass fun D σ H ⟨ρ, env, st, o, st', rs, re, ev, k⟩ => by
  simp only [Ir.exec] at ev; cases ev; exact k ρ H σ (.refl _ _) rs re
theorem ss_brk {pos : Pos} : SS X C W (.Break pos) .brk := ps_imp ps_break fun D σ H ⟨ρ, env, st, o, st', rs, re, ev, k⟩ => by
  simp only [Ir.exec] at ev; cases ev; exact k ρ H σ (.refl _ _) rs re
theorem ss_cnt {pos : Pos} : SS X C W (.Continue pos) .cnt := ps_imp ps_continue fun D σ H ⟨ρ, env, st, o, st', rs, re, ev, k⟩ => by
  simp only [Ir.exec] at ev; cases ev; exact k ρ H σ (.refl _ _) rs re
theorem ss_never {st : Stmt} : SS X C W st .never := ps_imp ps_never fun D σ H ⟨ρ, env, st, o, st', rs, re, ev, k⟩ => by
  simp only [Ir.exec] at ev; cases ev
theorem ss_ex {e : Expr} {i : Ir.Ex} {pos : Pos} (h : SE X C e i) (hs : swapsWith e none pos.line X.env = pure false := by rfl) : SS X C W (.Expr e pos) (.ex i) := ps_imp (ps_expr h hs) fun D σ H ⟨ρ, env, st, o, st', rs, re, ev, k⟩ => by
  simp only [Ir.exec] at ev
  obtain ⟨v, s1, e1, ev⟩ := bok ev
  cases ev
  exact ⟨ρ, env, st, v, _, rs, re, e1, fun ρ1 H1 x x1 rs1 rx => k ρ1 H1 σ x1 rs1 (re.mono x1)⟩
theorem ss_ret {e : Expr} {i : Ir.Ex} {pos : Pos} (h : SE X C e i) : SS X C W (.Return (some e) pos) (.ret i) := ps_imp (ps_ret h) fun D σ H ⟨ρ, env, st, o, st', rs, re, ev, k⟩ => by
  simp only [Ir.exec] at ev
  obtain ⟨v, s1, e1, ev⟩ := bok ev
  cases ev
  exact ⟨ρ, env, st, v, _, rs, re, e1, fun ρ1 H1 x x1 rs1 rx => k ρ1 H1 x x1 rs1 rx⟩
theorem ss_if {c : Expr} {a b : List Stmt} {ic : Ir.Ex} {ia ib : List Ir.Stm} {pos : Pos} (hc : ST X C c ic) (ha : SSs X C W a ia) (hb : SSs X C W b ib) : SS X C W (.If c a b pos) (.ite ic ia ib) := by
  refine ps_imp (ps_if hc ha hb) fun D σ H ⟨ρ, env, st, o, st', rs, re, ev, k⟩ => ?_
  simp only [Ir.exec] at ev
  obtain ⟨x, s1, e1, ev⟩ := bok ev
  obtain ⟨c, e2, ev2⟩ := ook ev
  obtain rfl := asB_ok e2
  refine ⟨ρ, env, st, c, s1, rs, re, e1, fun ρ1 H1 x1 rs1 => ?_⟩
  cases c with
  | true =>
    simp only [if_true] at ev2 ⊢
    exact ⟨ρ1, env, s1, o, st', rs1, re.mono x1, ev2, k.mono x1⟩
  | false =>
    simp only [Bool.false_eq_true, if_false] at ev2 ⊢
    exact ⟨ρ1, env, s1, o, st', rs1, re.mono x1, ev2, k.mono x1⟩
theorem ss_set (i : Nat) {x : Str} {e : Expr} {ie : Ir.Ex} {pos pos' : Pos} (hN : X.N.Nodup) (he : SE X C e ie) (hx : Loc X.env.scope x := by first | exact .inl rfl | exact .inr rfl) (hi : X.N[i]? = some x := by rfl) (hs : swapsWith e (some (.Name x pos')) pos.line X.env = pure false := by rfl) (hf : X.fn x = true ∨ X.env.scope.names.lookup x = some .local := by first | exact .inl rfl | exact .inr rfl | assumption) :
    SS X C W (.Assign [.Name x pos'] e pos) (.asg (.name i) ie) := by
  refine ps_imp (ps_set hN hi hx he hs hf) fun D σ H ⟨ρ, env, st, o, st', rs, re, ev, k⟩ => ?_
  simp only [Ir.exec] at ev
  obtain ⟨v, s1, e1, ev⟩ := bok ev
  obtain ⟨env1, e2, ev⟩ := ook ev
  cases ev
  simp only [Ir.Tg.putV, Option.some.injEq] at e2
  subst e2
  exact ⟨ρ, env, st, v, _, rs, re, e1, fun ρ1 H1 x x1 rs1 rx => k ρ1 H1 _ x1 rs1 ((re.mono x1).set rx i)⟩
theorem ss_setLc (i : Nat) {y : Str} {py : Pos} {elt tg iter : Expr} {ifs : List Expr} {scope : Scope} (own : List (Str × Nat)) {pos spos : Pos} {ie it ir : Ir.Ex} {t : Ir.Tg} {cs : List Ir.Ex} (hw : ∀ σ H Q, tI C X.K ir σ H Q → tN C X.K (.comp ie t it cs) σ H Q) (hc : X.calm = true) (hN : X.N.Nodup) (hi : SI X C tg iter it) (ok : BlkOk X.N X.env.scope scope own)
    (hg : ∀ (s : Shared) (H : Hp) (Cc : Addr) (cl : List (Str × Addr)) (fp : List Addr), SG (X.blk s H scope (compEnvC scope cl Cc X.env) fp) tg t) (ht : ∀ (s : Shared) (H : Hp) (Cc : Addr) (cl : List (Str × Addr)) (fp : List Addr), SCs (X.blk s H scope (compEnvC scope cl Cc X.env) fp) C ifs cs)
    (he : ∀ (s : Shared) (H : Hp) (Cc : Addr) (cl : List (Str × Addr)) (fp : List Addr), SE (X.blk s H scope (compEnvC scope cl Cc X.env) fp) C elt ie)
    (hsw : swapsWith (.ListComp elt [⟨tg, iter, ifs, 0⟩] scope pos) (some (.Name y py)) spos.line X.env = pure true) (hyl : X.env.scope.names.lookup y = some .local := by rfl) (hy : X.N[i]? = some y := by rfl) (hvs : own.map (·.2) = t.slots := by rfl) (hs : ∀ x, foldedSetIterable iter X.env x = pure x := by intro _; rfl) :
    SS X C W (.Assign [.Name y py] (.ListComp elt [⟨tg, iter, ifs, 0⟩] scope pos) spos) (.asg (.name i) ir) := by
  refine ps_imp (ps_setLc (g := tG X.K t) (tt := tICs C X.K cs) (te := tI C X.K ie) hc hN hy hyl hsw hi ok hg ht he hs) fun D σ H ⟨ρ, env, st, o, st', rs, re, ev, k⟩ => ?_
  simp only [Ir.exec] at ev
  obtain ⟨v, s1, e1, ev⟩ := bok ev
  obtain ⟨env1, e2, ev⟩ := ook ev
  cases ev
  simp only [Ir.Tg.putV, Option.some.injEq] at e2
  subst e2
  refine tLc_of hvs σ H _ (hw σ H _ ⟨ρ, env, st, v, _, rs, re, e1, fun ρ1 H1 x x1 rs1 rx => ?_⟩)
  exact k ρ1 H1 _ x1 rs1 ((re.mono x1).set rx i)
theorem ss_asg {tg e : Expr} {t : Ir.Tg} {ie : Ir.Ex} {pos : Pos} (he : SE X C e ie) (hg : SG X tg t) (hn : ∀ i, t ≠ .name i := by intro i h; cases h) (hs : swapsWithSole [tg] e pos.line X.env = pure false := by rfl) (hw : swappedStores [tg] e X.env = pure none := by rfl) (h1 : (assignEach [tg] X.env).map (·.2) = [assign tg X.env] := by rfl) :
    SS X C W (.Assign [tg] e pos) (.asg t ie) := by
  refine ps_imp (ps_asg he hg hs hw h1) fun D σ H ⟨ρ, env, st, o, st', rs, re, ev, k⟩ => ?_
  simp only [Ir.exec] at ev
  obtain ⟨v, s1, e1, ev⟩ := bok ev
  obtain ⟨env1, e2, ev⟩ := ook ev
  cases ev
  refine ⟨ρ, env, st, v, _, rs, re, e1, fun ρ1 H1 x x1 rs1 rx => ?_⟩
  cases v with
  | ref n => cases t <;> simp [Ir.Tg.putV] at e2; exact absurd rfl (hn _)
  | d y =>
    have e3 : t.put y env = some env1 := by
      cases t with
      | name i => exact absurd rfl (hn i)
      | tup ts => exact e2
      | star a b c => exact e2
    exact ⟨ρ1, env, _, y, env1, rs1, re.mono x1, rx, e3, fun ρ2 H2 σ2 x2 rs2 re2 _ => k ρ2 H2 σ2 (x1.trans x2) rs2 re2⟩
theorem ss_par (i j : Nat) {x y : Str} {a b : Expr} {ia ib : Ir.Ex} {px py pt pos : Pos} {kt k2 pt2} (hc : X.calm = true) (hN : X.N.Nodup) (ha : SE X C a ia) (hb : SE X C b ib)
    (hw : swappedStores [.Tuple [.Name x px, .Name y py] kt pt] (.Tuple [a, b] k2 pt2) X.env = pure (some [x, y]) := by rfl) (hij : i ≠ j := by decide) (hi : X.N[i]? = some x := by rfl) (hj : X.N[j]? = some y := by rfl)
    (hx : X.env.scope.names.lookup x = some .local := by rfl) (hy : X.env.scope.names.lookup y = some .local := by rfl)
    (hst : starEach [a, b] X.env = (false, eval a X.env) :: starEach [b] X.env := by rfl) (hst2 : starEach [b] X.env = (false, eval b X.env) :: starEach [] X.env := by rfl)
    (hs : swapsWithSole [.Tuple [.Name x px, .Name y py] kt pt] (.Tuple [a, b] k2 pt2) pos.line X.env = pure false := by rfl) :
    SS X C W (.Assign [.Tuple [.Name x px, .Name y py] kt pt] (.Tuple [a, b] k2 pt2) pos) (.par i j ia ib) := by
  refine ps_imp (ps_par hc hN hi hj hij hx hy (pa_cons ha (pa_cons hb pa_nil hst2) hst) hw hs) fun D σ H ⟨ρ, env, st, o, st', rs, re, ev, k⟩ => ?_
  simp only [Ir.exec] at ev
  obtain ⟨v, s1, e1, ev⟩ := bok ev
  obtain ⟨u, s2, e2, ev⟩ := bok ev
  cases ev
  exact tI_two rs re e1 e2 fun ρ1 H1 X Y x1 rs1 rx ry => ⟨X, Y, rfl, k ρ1 H1 _ x1 rs1 (((re.mono x1).set rx i).set ry j)⟩
theorem ip_addI : PIp X .Add (ipI fun i j => i + j) := ip_add
theorem ss_aug (i : Nat) {x : Str} {e : Expr} {ie : Ir.Ex} {op : Operator} {o : Ir.Op} {g : Int → Int → Int} {pos pos' : Pos} (hN : X.N.Nodup) (ho : PIp X op (ipI g)) (hg : ∀ p q r, Ir.augI o p q = some r → r = g p q) (he : SE X C e ie) (hx : Loc X.env.scope x := by first | exact .inl rfl | exact .inr rfl) (hi : X.N[i]? = some x := by rfl) (hf : X.fn x = true ∨ X.env.scope.names.lookup x = some .local := by first | exact .inl rfl | exact .inr rfl | assumption) :
    SS X C W (.AugAssign (.Name x pos') op e pos) (.aug i o ie) := by
  refine ps_imp (ps_aug hN hi hx he ho hf) fun D σ H ⟨ρ, env, st, ou, st', rs, re, ev, k⟩ => ?_
  simp only [Ir.exec] at ev
  split at ev
  · rename_i w hw
    obtain ⟨y, s1, e1, ev1⟩ := bok ev
    clear ev
    obtain ⟨p, e2, ev2⟩ := ook ev1
    clear ev1
    obtain ⟨q, e3, ev3⟩ := ook ev2
    clear ev2
    obtain ⟨r, e4, ev4⟩ := ook ev3
    clear ev3
    obtain rfl := asI_ok e2
    obtain rfl := asI_ok e3
    cases ev4
    obtain rfl := hg _ _ _ e4
    obtain ⟨z, h1, h2⟩ := re.2 i _ hw
    refine ⟨z, h1, ρ, env, st, _, _, rs, re, e1, fun ρ1 H1 Y x1 rs1 ry => ⟨p, q, RD.int_inv h2, RD.int_inv ry, k ρ1 H1 _ x1 rs1 ((re.mono x1).set (v := .d (.int _)) (.int _) i)⟩⟩
  · cases ev
theorem aug_add : ∀ p q r, Ir.augI .add p q = some r → r = p + q := fun p q r h => by simp [Ir.augI] at h; exact h.symm
theorem aug_sub : ∀ p q r, Ir.augI .sub p q = some r → r = p - q := fun p q r h => by simp [Ir.augI] at h; exact h.symm
/-- o[i] = e, a list or a dict -/
theorem ss_sub {o i e : Expr} {io ii ie : Ir.Ex} {pos pos' : Pos} {n : Nat} (hr : Room n X.A) (he : SE X C e ie) (ho : SE X C o io) (hi : SE X C i ii) (hs : swapsWithSole [.Subscript o i pos'] e pos.line X.env = pure false := by rfl) (hs2 : swapsWith e (some (.Subscript o i pos')) pos.line X.env = pure false := by rfl) (hw : swappedStores [.Subscript o i pos'] e X.env = pure none := by rfl) (h1 : (assignEach [.Subscript o i pos'] X.env).map (·.2) = [assign (.Subscript o i pos') X.env] := by rfl)
    (hasg : ∀ v, assign (.Subscript o i pos') X.env v = (do
      let ov ← holding [v] (eval o X.env)
      let iv ← holding [v, ov] (eval i X.env)
      standAt pos'
      holding [v, ov, iv] (setItem ov iv v)
      release [v, ov, iv] []) := by intro _; rfl) :
    SS X C W (.Assign [.Subscript o i pos'] e pos) (.set io ii ie) := by
  refine ps_imp (ps_or (ps_asg he (pg_sub ho hi set_list hasg) hs hw h1) (ps_dput (hu_of hr) ho hi he hs2)) fun D σ H ⟨ρ, env, st, ou, st', rs, re, ev, k⟩ => ?_
  simp only [Ir.exec] at ev
  obtain ⟨v, s1, e1, ev⟩ := bok ev
  obtain ⟨x, s2, e2, ev⟩ := bok ev
  obtain ⟨y, s3, e3, ev⟩ := bok ev
  obtain ⟨d, e4, ev4⟩ := ook ev
  clear ev
  obtain ⟨s5, e5, ev5⟩ := ook ev4
  clear ev4
  obtain rfl := asD_ok e4
  cases ev5
  cases x with
  | d _ => simp [Ir.setV] at e5
  | ref m =>
    by_cases hd : ∃ kvs, s3[m]? = some (.dic kvs)
    · obtain ⟨kvs, hk⟩ := hd
      refine .inr ⟨ρ, env, st, _, s1, rs, re, e1, fun ρ1 H1 V1 x1 rs1 rv => ⟨ρ1, env, s1, _, s2, rs1, re.mono x1, e2, fun ρ2 H2 O x2 rs2 ro => ⟨ρ2, env, s2, y, s3, rs2, re.mono (x1.trans x2), e3, fun ρ3 H3 Y x3 rs3 ry => ?_⟩⟩⟩
      obtain ⟨a, rfl, h1, ks, h2, h3, h4⟩ := RV.cell rs3 (ro.mono x3) hk (by simp)
      cases y with
      | ref _ => simp [Ir.setV] at e5
      | d key =>
        have hkey : key.key = true ∧ kvs.length < Ir.LIM ∧ st' = s3.set m (.dic (Ir.putK kvs key d)) := by
          cases key <;> simp [Ir.setV, hk] at e5
          · exact ⟨rfl, e5.1, e5.2.symm⟩
          · exact ⟨rfl, e5.1, e5.2.symm⟩
        obtain ⟨hk1, hk2, rfl⟩ := hkey
        obtain ⟨k', hk3, rfl⟩ := RK.kv ry hk1
        have hlen : ks.length < sizeLine := by rw [← h4.length, ← lim_eq]; exact hk2
        have w : Ext ρ3 H3 ρ3 (upd H3 a (.dK (L2.putK ks k' V1))) := .write rs3 h1 _
        refine ⟨a, _, rfl, .k h2 hlen, ?_⟩
        refine k ρ3 _ _ (((x1.trans x2).trans x3).trans w) (rs3.write h1 ⟨_, upd_same, ?_, (h4.mono w).put hk3 (((rv.mono x2).mono x3).mono w)⟩) ((re.mono ((x1.trans x2).trans x3)).mono w)
        have := length_putK ks k' V1
        omega
    · refine .inl ⟨ρ, env, st, _, s1, rs, re, e1, fun ρ1 H1 V1 x1 rs1 rv => ⟨ρ1, env, s1, _, s2, rs1, re.mono x1, e2, fun ρ2 H2 O x2 rs2 ro => ⟨ρ2, env, s2, y, s3, rs2, re.mono (x1.trans x2), e3, fun ρ3 H3 Y x3 rs3 ry => ?_⟩⟩⟩
      cases y with
      | ref _ => simp [Ir.setV] at e5
      | d key =>
        cases key <;> simp only [Ir.setV, reduceCtorEq] at e5
        · rename_i z
          split at e5
          · rename_i xs hx
            simp only [Option.map_eq_some_iff] at e5
            obtain ⟨q, hq, rfl⟩ := e5
            obtain ⟨a, rfl, h1, ys, h2, h3, h4⟩ := RV.cell rs3 (ro.mono x3) hx (by simp)
            have w : Ext ρ3 H3 ρ3 (upd H3 a (.lst (ys.set q V1))) := .write rs3 h1 _
            refine ⟨a, ys, z, q, rfl, RD.int_inv ry, h2, by rw [← h4.length]; exact hq, ?_⟩
            exact k ρ3 _ _ (((x1.trans x2).trans x3).trans w) (rs3.write h1 ⟨_, upd_same, by rw [List.length_set]; exact h3, (h4.mono w).set (((rv.mono x2).mono x3).mono w) q⟩) ((re.mono ((x1.trans x2).trans x3)).mono w)
          · rename_i kvs hk
            exact absurd ⟨kvs, hk⟩ hd
          · cases e5
        · split at e5
          · rename_i kvs hk
            exact absurd ⟨kvs, hk⟩ hd
          · cases e5
end Snd

namespace Snd
open PySem PySem.Spec PyProof.Rows L2
variable {X : Cx} {C : Ir.Calls} {W : WX}
/-! ### loops -/
theorem ss_for {tg iter : Expr} {body : List Stmt} {t : Ir.Tg} {it : Ir.Ex} {ib : List Ir.Stm} {pos : Pos} (hp : PassesOwn (model X.prog X.w) X.A X.env X.xe) (hc : X.calm = true) (hi : SI X C tg iter it) (hg : SG X tg t) (hb : SSs X C W body ib)
    (hs : ∀ x, foldedSetIterable iter X.env x = pure x := by intro _; rfl) : SS X C W (.For tg iter body [] pos) (.loop t it ib) := by
  refine ps_imp (ps_for hp hc hi hg hb hs) fun D σ H ⟨ρ, env, st, o, st', rs, re, ev, k⟩ => ?_
  simp only [Ir.exec] at ev
  obtain ⟨x, s1, e1, ev1⟩ := bok ev
  clear ev
  obtain ⟨p, e2, ev2⟩ := ook ev1
  clear ev1
  obtain ⟨xs, e3, ev3⟩ := ook ev2
  clear ev2
  obtain rfl := asD_ok e2
  refine ⟨ρ, env, st, p, xs, s1, rs, re, e1, e3, fun ρ1 H1 J x1 rs1 wk => ?_⟩
  refine ⟨fun i m σ H' => ∃ ρ' env' st2, Ext ρ1 H1 ρ' H' ∧ RS ρ' X.K st2 H' ∧ REnv ρ' X.K H' env' σ ∧ i ≤ xs.length ∧ m = xs.length - i ∧ Ir.loopL t.putF (Ir.execs C ib) (xs.drop i) env' st2 = .ok o st',
    ⟨xs.length, ρ1, env, s1, .refl _ _, rs1, re.mono x1, Nat.zero_le _, by omega, ev3⟩, ?_⟩
  rintro i m σ2 H2 ⟨ρ2, env2, st2, x2, rs2, re2, hi2, rfl, el⟩
  by_cases hlt : i < xs.length
  · have hx : xs[i]? = some xs[i] := List.getElem?_eq_getElem hlt
    rw [List.drop_eq_getElem_cons hlt] at el
    simp only [Ir.loopL, Ir.Tg.putF_eq] at el
    obtain ⟨env3, e4, el1⟩ := ook el
    clear el
    obtain ⟨o1, s3, e5, el2⟩ := bok el1
    clear el1
    obtain ⟨go, yl⟩ := wk.go i _ ρ2 H2 st2 x2 rs2 hx
    refine .inr ⟨go, fun σ' H' => ∃ m', m' < xs.length - i ∧ ∃ ρ' env' st2, Ext ρ1 H1 ρ' H' ∧ RS ρ' X.K st2 H' ∧ REnv ρ' X.K H' env' σ' ∧ i + 1 ≤ xs.length ∧ m' = xs.length - (i + 1) ∧ Ir.loopL t.putF (Ir.execs C ib) (xs.drop (i + 1)) env' st2 = .ok o st', fun σ' H' h => h, fun v H3 hy => ?_⟩
    obtain ⟨x3, rs3, rx⟩ := yl v H3 hy
    refine ⟨ρ2, env2, st2, _, env3, rs3, re2.mono x3, rx, e4, fun ρ4 H4 σ4 x4 rs4 re4 _ => ⟨ρ4, env3, st2, o1, s3, rs4, re4, e5, ?_⟩⟩
    have x14 : Ext ρ1 H1 ρ4 H4 := (x2.trans x3).trans x4
    cases o1 with
    | nx env5 => exact fun ρ5 H5 σ5 x5 rs5 re5 => ⟨xs.length - (i + 1), by omega, ρ5, env5, s3, x14.trans x5, rs5, re5, hlt, rfl, el2⟩
    | cnt env5 => exact fun ρ5 H5 σ5 x5 rs5 re5 => ⟨xs.length - (i + 1), by omega, ρ5, env5, s3, x14.trans x5, rs5, re5, hlt, rfl, el2⟩
    | brk env5 =>
      simp only at el2
      cases el2
      exact fun ρ5 H5 σ5 x5 rs5 re5 => k ρ5 H5 σ5 ((x1.trans x14).trans x5) rs5 re5
    | ret w =>
      simp only at el2
      cases el2
      exact fun ρ5 H5 σ5 x5 rs5 re5 => k ρ5 H5 σ5 ((x1.trans x14).trans x5) rs5 re5
    | thr c as w =>
      simp only at el2
      cases el2
      exact fun ρ5 H5 σ5 cls d x5 rs5 re5 rx => k ρ5 H5 σ5 cls d ((x1.trans x14).trans x5) rs5 re5 rx
  · have e : i = xs.length := by omega
    subst e
    rw [List.drop_length] at el
    simp only [Ir.loopL] at el
    cases el
    exact .inl ⟨wk.stop _ ρ2 H2 _ x2 rs2 (Nat.le_refl _), k ρ2 H2 σ2 (x1.trans x2) rs2 re2⟩
theorem ss_while {c : Expr} {body : List Stmt} {ic : Ir.Ex} {ib : List Ir.Stm} {pos : Pos} (hp : PassesOwn (model X.prog X.w) X.A X.env X.xe) (hc : ST X C c ic) (hb : SSs X C W body ib) : SS X C W (.While c body [] pos) (.while ic ib) := by
  refine ps_imp (ps_while hp hc hb) fun D σ H ⟨ρ, env, st, o, st', rs, re, ev, k⟩ => ?_
  simp only [Ir.exec] at ev
  obtain ⟨nW, ev⟩ := Ir.whileU_ok ev
  refine ⟨fun m σ H' => ∃ ρ' env' st2, Ext ρ H ρ' H' ∧ RS ρ' X.K st2 H' ∧ REnv ρ' X.K H' env' σ ∧ Ir.whileL (Ir.condB (Ir.eval C ic)) (Ir.execs C ib) m env' st2 = .ok o st',
    ⟨nW, ρ, env, st, .refl _ _, rs, re, ev⟩, ?_⟩
  rintro m σ2 H2 ⟨ρ2, env2, st2, x2, rs2, re2, el⟩
  cases m with
  | zero => simp only [Ir.whileL] at el; cases el
  | succ m =>
    simp only [Ir.whileL] at el
    obtain ⟨b, s1, e1, el1⟩ := bok el
    clear el
    unfold Ir.condB at e1
    obtain ⟨x, s1', e2, e3⟩ := bok e1
    obtain ⟨e4, rfl⟩ := Ir.optR_ok e3
    obtain rfl := asB_ok e4
    refine ⟨ρ2, env2, st2, b, s1, rs2, re2, e2, fun ρ3 H3 x3 rs3 => ?_⟩
    cases b with
    | false =>
      simp only [Bool.false_eq_true, if_false] at el1 ⊢
      cases el1
      exact k ρ3 H3 σ2 (x2.trans x3) rs3 (re2.mono x3)
    | true =>
      simp only [if_true] at el1 ⊢
      obtain ⟨o1, s3, e5, el2⟩ := bok el1
      clear el1
      refine ⟨fun σ' H' => ∃ m', m' < m + 1 ∧ ∃ ρ' env' st2, Ext ρ H ρ' H' ∧ RS ρ' X.K st2 H' ∧ REnv ρ' X.K H' env' σ' ∧ Ir.whileL (Ir.condB (Ir.eval C ic)) (Ir.execs C ib) m' env' st2 = .ok o st', fun σ' H' h => h, ρ3, env2, s1, o1, s3, rs3, re2.mono x3, e5, ?_⟩
      have x13 := x2.trans x3
      cases o1 with
      | nx env5 => exact fun ρ5 H5 σ5 x5 rs5 re5 => ⟨m, Nat.lt_succ_self m, ρ5, env5, s3, x13.trans x5, rs5, re5, el2⟩
      | cnt env5 => exact fun ρ5 H5 σ5 x5 rs5 re5 => ⟨m, Nat.lt_succ_self m, ρ5, env5, s3, x13.trans x5, rs5, re5, el2⟩
      | brk env5 =>
        simp only at el2
        cases el2
        exact fun ρ5 H5 σ5 x5 rs5 re5 => k ρ5 H5 σ5 (x13.trans x5) rs5 re5
      | ret w =>
        simp only at el2
        cases el2
        exact fun ρ5 H5 σ5 x5 rs5 re5 => k ρ5 H5 σ5 (x13.trans x5) rs5 re5
      | thr c as w =>
        simp only at el2
        cases el2
        exact fun ρ5 H5 σ5 cls d x5 rs5 re5 rx => k ρ5 H5 σ5 cls d (x13.trans x5) rs5 re5 rx
/-! ### a def -/
theorem take_rs {ρ ρ1 : Rho} {K : PySem.W.Frag} {st1 : Ir.Store} {H H1 : Hp} (x : Ext ρ H ρ1 H1) (rs1 : RS ρ1 K st1 H1) : RS ⟨ρ1.ix.take ρ.ix.length, ρ.res⟩ K (st1.take ρ.ix.length) H1 ∧ Ext ρ H ⟨ρ1.ix.take ρ.ix.length, ρ.res⟩ H1 ∧ ∀ b, Rho.own ⟨ρ1.ix.take ρ.ix.length, ρ.res⟩ b → ρ1.own b := by
  have sub : ∀ b, Rho.own ⟨ρ1.ix.take ρ.ix.length, ρ.res⟩ b → ρ1.own b := fun b q => by
    rcases q with q | q
    · exact .inl (List.mem_of_mem_take q)
    · exact .inr (x.rs b q)
  have key : ∀ (n : Nat) (o : Option Addr), (ρ1.ix.take ρ.ix.length)[n]? = some o → n < ρ.ix.length ∧ ρ1.ix[n]? = some o := fun n o h => by
    rw [List.getElem?_take] at h
    split at h
    · exact ⟨by assumption, h⟩
    · cases h
  refine ⟨⟨?_, fun i j a hi hj => rs1.inj i j a (key i _ hi).2 (key j _ hj).2, fun n a hn => ?_, fun n hn => ?_, fun a ha => rs1.kept a (x.rs a ha), fun a ha q => rs1.disj a (x.rs a ha) (List.mem_of_mem_take q)⟩, ⟨x.fr, fun b q => ?_, ?_, fun n a q hl => x.ix n a (key n _ q).2 hl, fun _ q => q, fun a ha hn q => x.rn a ha hn (List.mem_of_mem_take q), x.al⟩, sub⟩
  · simp [rs1.len]
  · obtain ⟨h1, h2⟩ := key n _ hn
    obtain ⟨c, h3, h4⟩ := rs1.cell n a h2
    exact ⟨c, by rw [List.getElem?_take_of_lt h1]; exact h3, h4.sub sub⟩
  · obtain ⟨h1, h2⟩ := key n _ hn
    rw [List.getElem?_take_of_lt h1]
    exact rs1.dd n h2
  · rcases q with q | q
    · exact x.nw b (.inl (List.mem_of_mem_take q))
    · exact .inl (.inr q)
  · have := x.len
    simp
    omega
/-- the first m, and one more behind them -/
theorem pick_rs {ρ ρ1 : Rho} {K : PySem.W.Frag} {st1 : Ir.Store} {H H1 : Hp} {n : Nat} {oa : Option Addr} {c : Ir.Cell} (x : Ext ρ H ρ1 H1) (rs1 : RS ρ1 K st1 H1) (hn : ρ.ix.length ≤ n) (ho : ρ1.ix[n]? = some oa) (hc : st1[n]? = some c) :
    RS ⟨ρ1.ix.take ρ.ix.length ++ [oa], ρ.res⟩ K (st1.take ρ.ix.length ++ [c]) H1 ∧ Ext ρ H ⟨ρ1.ix.take ρ.ix.length ++ [oa], ρ.res⟩ H1 := by
  have hx := x.len
  have hlt : (ρ1.ix.take ρ.ix.length).length = ρ.ix.length := by simp; omega
  have hls : (st1.take ρ.ix.length).length = ρ.ix.length := by rw [List.length_take, rs1.len]; omega
  have mem : ∀ b : Addr, some b ∈ ρ1.ix.take ρ.ix.length ++ [oa] → some b ∈ ρ1.ix := fun b q => by
    rcases List.mem_append.mp q with q | q
    · exact List.mem_of_mem_take q
    · simp at q; rw [← q] at ho; exact List.mem_of_getElem? ho
  have sub : ∀ b, Rho.own ⟨ρ1.ix.take ρ.ix.length ++ [oa], ρ.res⟩ b → ρ1.own b := fun b q => by
    rcases q with q | q
    · exact .inl (mem b q)
    · exact .inr (x.rs b q)
  have key : ∀ (i : Nat) (o : Option Addr), (ρ1.ix.take ρ.ix.length ++ [oa])[i]? = some o → (i < ρ.ix.length ∧ ρ1.ix[i]? = some o) ∨ (i = ρ.ix.length ∧ o = oa) := fun i o hi => by
    by_cases hl : i < ρ.ix.length
    · rw [List.getElem?_append_left (by omega), List.getElem?_take_of_lt hl] at hi
      exact .inl ⟨hl, hi⟩
    · rw [List.getElem?_append_right (by omega), hlt] at hi
      cases z : i - ρ.ix.length with
      | zero => rw [z] at hi; simp at hi; exact .inr ⟨by omega, hi.symm⟩
      | succ k => rw [z] at hi; simp at hi
  have at1 : ∀ i : Nat, i < ρ.ix.length → (st1.take ρ.ix.length ++ [c])[i]? = st1[i]? := fun i hi => by
    rw [List.getElem?_append_left (by omega), List.getElem?_take_of_lt hi]
  have at2 : (st1.take ρ.ix.length ++ [c])[ρ.ix.length]? = some c := by
    rw [List.getElem?_append_right (by omega), hls]; simp
  refine ⟨⟨by simp [rs1.len], fun i j a hi hj => ?_, fun m a hm => ?_, fun m hm => ?_, fun a ha => rs1.kept a (x.rs a ha), fun a ha q => rs1.disj a (x.rs a ha) (mem a q)⟩, ⟨x.fr, fun b q => ?_, by simp; omega, fun m a q hl => ?_, fun _ q => q, fun a ha hn2 q => x.rn a ha hn2 (mem a q), x.al⟩⟩
  · rcases key i _ hi with ⟨h1, h2⟩ | ⟨h1, h2⟩ <;> rcases key j _ hj with ⟨h3, h4⟩ | ⟨h3, h4⟩
    · exact rs1.inj i j a h2 h4
    · rw [← h4] at ho
      have := rs1.inj i n a h2 ho
      omega
    · rw [← h2] at ho
      have := rs1.inj n j a ho h4
      omega
    · omega
  · rcases key m _ hm with ⟨h1, h2⟩ | ⟨h1, h2⟩
    · obtain ⟨c', h3, h4⟩ := rs1.cell m a h2
      exact ⟨c', (at1 m h1).trans h3, h4.sub sub⟩
    · rw [← h2] at ho
      obtain ⟨c', h3, h4⟩ := rs1.cell n a ho
      rw [hc] at h3; cases h3
      subst h1
      exact ⟨c, at2, h4.sub sub⟩
  · rcases key m _ hm with ⟨h1, h2⟩ | ⟨h1, h2⟩
    · exact (at1 m h1).trans (rs1.dd m h2)
    · rw [← h2] at ho
      have := rs1.dd n ho
      rw [hc] at this; cases this
      subst h1
      exact at2
  · rcases q with q | q
    · exact x.nw b (.inl (mem b q))
    · exact .inl (.inr q)
  · rcases key m _ q with ⟨h1, h2⟩ | ⟨h1, h2⟩
    · exact x.ix m a h2 hl
    · omega
theorem leave_ok {ρ ρ1 : Rho} {K : PySem.W.Frag} {st1 st' : Ir.Store} {H H1 : Hp} {v v' : Ir.Val} {y : V} (x : Ext ρ H ρ1 H1) (rs1 : RS ρ1 K st1 H1) (rv : RV ρ1 K H1 v y) (h : Ir.leave ρ.ix.length v st1 = .ok v' st') : ∃ ρ', Ext ρ H ρ' H1 ∧ RS ρ' K st' H1 ∧ RV ρ' K H1 v' y := by
  obtain ⟨t1, t2, sub⟩ := take_rs x rs1
  cases v with
  | d z =>
    simp only [Ir.leave] at h
    cases h
    exact ⟨_, t2, t1, RD.sub sub rv⟩
  | ref n =>
    simp only [Ir.leave] at h
    obtain ⟨h1, a, h2, h3⟩ := rv
    have hx := x.len
    split at h
    · rename_i hn
      cases h
      refine ⟨_, t2, t1, ?_, a, h2, fun b hb => h3 b ?_⟩
      · simp; omega
      · have hb : (ρ1.ix.take ρ.ix.length)[n]? = some (some b) := hb
        rw [List.getElem?_take_of_lt hn] at hb
        exact hb
    · rename_i hn
      split at h
      · rename_i c hc
        cases h
        have ho : ρ1.ix[n]? = some ρ1.ix[n] := List.getElem?_eq_getElem h1
        obtain ⟨q1, q2⟩ := pick_rs x rs1 (by omega) ho hc
        have hlt : (ρ1.ix.take ρ.ix.length).length = ρ.ix.length := by simp; omega
        refine ⟨_, q2, q1, by simp; omega, a, h2, fun b hb => h3 b ?_⟩
        have hb : (ρ1.ix.take ρ.ix.length ++ [ρ1.ix[n]])[ρ.ix.length]? = some (some b) := hb
        rw [List.getElem?_append_right (by omega), hlt] at hb
        simp at hb
        rw [ho, hb]
      · cases h
theorem start_ok {ρ : Rho} {K : PySem.W.Frag} {H : Hp} {N : List Str} {args : List Ir.Val} {vs : List V} (h : RVs ρ K H args vs) (m : Nat) (hm : m = N.length) : REnv ρ K H (args.map some ++ List.replicate (m - args.length) none) (L2.start N vs) := by
  subst hm
  have hl := h.length
  refine ⟨by simp [L2.start, hl], fun i v q => ?_⟩
  have gen : ∀ {args : List Ir.Val} {vs : List V}, RVs ρ K H args vs → ∀ (i : Nat) (v : Ir.Val), (args.map some)[i]? = some (some v) → ∃ x, (vs.map some)[i]? = some (some x) ∧ RV ρ K H v x := by
    intro args vs h
    induction h with
    | nil => intro i v q; simp at q
    | cons a r ih =>
      intro i v q
      cases i with
      | zero => simp at q; subst q; exact ⟨_, rfl, a⟩
      | succ i => simpa using ih i v (by simpa using q)
  by_cases hi : i < args.length
  · rw [List.getElem?_append_left (by simpa using hi)] at q
    obtain ⟨x, h1, h2⟩ := gen h i v q
    refine ⟨x, ?_, h2⟩
    unfold L2.start
    rw [List.getElem?_append_left (by simp; omega)]
    exact h1
  · rw [List.getElem?_append_right (by simp; omega)] at q
    rw [List.getElem?_replicate] at q
    split at q <;> simp at q
theorem fn_ok {P : Program} {w : World} {K : PySem.W.Frag} {mg : Str → Option Value} {base : Heap} {x qual : Str} {st : Stmt} {f : Addr} {fd : FuncData} {N ps : List Str} {T : Ir.Tab} {n : Nat} {name : String} {fn : Ir.Fn}
    (F : Fun K x qual st f fd) (S : FnScope N ps (defScope st)) (hT : T name = some fn) (hp : fn.pars = ps.length) (hN : fn.many = N.length)
    (hb : ∀ (cdv : Value) (A : Around) (outer : List Env) (s : Shared) (H : Hp) (E : XK), Room n (A.deeper (envOfC qual (defScope st) s.heap.objs.size f cdv)) → SSs (cxOf CX0 P w K mg base N qual (defScope st) f cdv A outer s H E).nox (Ir.callN T n) (fun _ _ _ _ => False) (defBody st) fn.body) :
    FnOk P w K mg base CX0 (n + 1) f fd ps (spI T (n + 1) K name) := by
  refine F.ok S (fun vs H Q E h => ?_) (fun cdv A outer s H vs Q E hr h => ?_)
  · obtain ⟨ρ, st, args, v, st', rs, ra, ev, k⟩ := h
    simp only [Ir.callN, hT, Ir.runFn] at ev
    split at ev
    · rename_i hc
      rw [← ra.length, hc.1, hp]
    · cases ev
  · obtain ⟨ρ, st, args, v, st', rs, ra, ev, k⟩ := h
    refine ⟨_, hb cdv A outer s H E hr, ?_⟩
    simp only [Ir.callN, hT, Ir.runFn] at ev
    split at ev
    · rename_i hc
      obtain ⟨o, s1, e1, ev1⟩ := bok ev
      have e1 := Ir.noexc_inv e1
      have re := start_ok (N := N) ra fn.many hN
      rw [hc.1] at re
      refine ⟨ρ, _, st, o, s1, rs, re, e1, ?_⟩
      have hlen : st.length = ρ.ix.length := rs.len
      cases o with
      | nx env' =>
        intro ρ1 H1 σ1 x1 rs1 _
        rw [hlen] at ev1
        obtain ⟨ρ', x2, rs2, rv2⟩ := leave_ok (v := .d .non) (y := V.non) x1 rs1 RD.non ev1
        exact k ρ' H1 _ x2 rs2 rv2
      | ret u =>
        intro ρ1 H1 y x1 rs1 ry
        rw [hlen] at ev1
        obtain ⟨ρ', x2, rs2, rv2⟩ := leave_ok x1 rs1 ry ev1
        exact k ρ' H1 _ x2 rs2 rv2
      | brk _ => simp only at ev1; cases ev1
      | cnt _ => simp only at ev1; cases ev1
      | thr c as _ => simp only at ev1; cases ev1
    · cases ev
/-- what is thrown leaves -/
theorem thr_ok {ρ ρ1 : Rho} {K : PySem.W.Frag} {st1 : Ir.Store} {H H1 : Hp} (x : Ext ρ H ρ1 H1) (rs1 : RS ρ1 K st1 H1) : ∃ ρ', Ext ρ H ρ' H1 ∧ RS ρ' K (st1.take ρ.ix.length) H1 :=
  let ⟨h1, h2, _⟩ := take_rs x rs1
  ⟨_, h2, h1⟩
/-- a def that may raise -/
theorem fn_okX {P : Program} {w : World} {K : PySem.W.Frag} {mg : Str → Option Value} {base : Heap} {x qual : Str} {st : Stmt} {f : Addr} {fd : FuncData} {N ps : List Str} {T : Ir.Tab} {n : Nat} {name : String} {fn : Ir.Fn}
    (F : Fun K x qual st f fd) (S : FnScope N ps (defScope st)) (hT : T name = some fn) (hp : fn.pars = ps.length) (hN : fn.many = N.length)
    (hb : ∀ (cdv : Value) (A : Around) (outer : List Env) (s : Shared) (H : Hp) (E : XK), Room n (A.deeper (envOfC qual (defScope st) s.heap.objs.size f cdv)) → SSs (cxOf (CX P w) P w K mg base N qual (defScope st) f cdv A outer s H E) (Ir.callN T n) (fun cls d _ H => E cls d H) (defBody st) fn.body) :
    FnOk P w K mg base (CX P w) (n + 1) f fd ps (spX T (n + 1) K mg name) := by
  refine F.okX S (fun vs H Q E h => ?_) (fun cdv A outer s H vs Q E hr h => ?_)
  · obtain ⟨ρ, st, args, r, rs, ra, ev, k⟩ := h
    simp only [Ir.callN, hT, Ir.runFn] at ev
    split at ev
    · rename_i hc
      rw [← ra.length, hc.1, hp]
    · subst ev; exact k.elim
  · obtain ⟨ρ, st, args, r, rs, ra, ev, k⟩ := h
    refine ⟨_, hb cdv A outer s H E hr, ?_⟩
    simp only [Ir.callN, hT, Ir.runFn] at ev
    split at ev
    · rename_i hc
      have re := start_ok (N := N) ra fn.many hN
      rw [hc.1] at re
      have hlen : st.length = ρ.ix.length := rs.len
      cases e1 : Ir.execs (Ir.callN T n) fn.body (args.map some ++ List.replicate (fn.many - fn.pars) none) st with
      | bad => rw [e1] at ev; simp at ev; subst ev; exact k.elim
      | exc c as s1 => rw [e1] at ev; have : r = .bad := ev.symm; subst this; exact k.elim
      | ok o s1 =>
        rw [e1] at ev
        simp only [Ir.noexc_ok, Ir.Res.bind_ok] at ev
        refine ⟨ρ, _, st, o, s1, rs, re, e1, ?_⟩
        cases o with
        | nx env' =>
          intro ρ1 H1 σ1 x1 rs1 _
          rw [hlen] at ev
          have ev : Ir.leave ρ.ix.length (.d .non) s1 = r := ev
          subst ev
          obtain ⟨ρ', x2, rs2, rv2⟩ := leave_ok (v := .d .non) (v' := .d .non) (st' := s1.take ρ.ix.length) (y := V.non) x1 rs1 RD.non rfl
          exact k ρ' H1 _ x2 rs2 rv2
        | ret u =>
          intro ρ1 H1 y x1 rs1 ry
          rw [hlen] at ev
          have ev : Ir.leave ρ.ix.length u s1 = r := ev
          cases r with
          | ok v' st' =>
            obtain ⟨ρ', x2, rs2, rv2⟩ := leave_ok x1 rs1 ry ev
            exact k ρ' H1 _ x2 rs2 rv2
          | exc c as s' =>
            unfold Ir.leave at ev
            split at ev
            · cases ev
            · split at ev
              · cases ev
              · split at ev <;> cases ev
          | bad => exact k.elim
        | brk _ => simp only at ev; subst ev; exact k.elim
        | cnt _ => simp only at ev; subst ev; exact k.elim
        | thr c as _ =>
          intro ρ1 H1 σ1 cls d x1 rs1 _ rx
          simp only at ev
          subst ev
          rw [hlen] at k
          obtain ⟨ρ', x2, rs2⟩ := thr_ok x1 rs1
          exact k ρ' H1 cls d x2 rs2 rx
    · subst ev; exact k.elim
theorem ft_zero {T : Ir.Tab} {KW : List Kw} {P : Program} {w : World} {K : PySem.W.Frag} {mg : Str → Option Value} {base : Heap} (h : ∀ f fn, T f = some fn → ∃ a fd ps, mg (Str.ofString f) = some (.ref a) ∧ PySem.W.keepIn K (.ref a) = true ∧ Binds K fd ps [] ∧ ∀ q ∈ KW, q.1 = f → KwOk K fd ps q) : FT T KW 0 P w K mg base := ⟨fun f fn hT _ => by
  obtain ⟨a, fd, ps, h1, h2, h3⟩ := h f fn hT
  have no : ∀ vs H Q E, ¬ spI T 0 K f vs H Q E := fun vs H Q E ⟨ρ, st, args, v, st', rs, ra, ev, k⟩ => by simp only [Ir.callN] at ev; cases ev
  exact ⟨a, fd, ps, ⟨fun vs H Q E h => absurd h (no vs H Q E), fun A outer s H args us vs Q E _ _ _ _ h => absurd h (no vs H Q E)⟩, h1, h2, h3⟩, fun f fn hT _ => by
  obtain ⟨a, fd, ps, h1, h2, h3⟩ := h f fn hT
  have no : ∀ vs H Q E, ¬ spX T 0 K mg f vs H Q E := fun vs H Q E ⟨ρ, st, args, r, rs, ra, ev, k⟩ => by simp only [Ir.callN] at ev; subst ev; exact k
  exact ⟨a, fd, ps, ⟨fun vs H Q E h => absurd h (no vs H Q E), fun A outer s H args us vs Q E _ _ _ _ h => absurd h (no vs H Q E)⟩, h1, h2, h3⟩⟩
/-! ### the law's own call -/
theorem law_sp {T : Ir.Tab} {n : Nat} {K : PySem.W.Frag} {H : Hp} {a : Addr} {ns : List Int} (hO : Only H) (hS : SqL K H a (ns.map V.int)) (hl : ns.length ≤ 63) {st' : Ir.Store} (ev : Ir.callN T n "law" [.d (.ro (ns.map Ir.D.int))] [] = .ok (.d (.bool true)) st') :
    spI T n K "law" [.ref a] H (fun v _ => v = .bl true) fun _ _ _ => False := by
  have r : RDs ⟨[], []⟩ K H (ns.map Ir.D.int) (ns.map V.int) := by
    clear hl ev hS
    induction ns with
    | nil => exact .nil
    | cons i r ih => exact .cons (.int i) ih
  have hla : LrAt ⟨[], []⟩ K H a (ns.map V.int) := by
    rcases hS with h | h
    · rcases h with h | ⟨o, h⟩
      · rcases hO a with q | ⟨o, xs, q⟩
        · rw [q] at h; cases h
        · rw [q] at h; cases h
      · exact .inl ⟨⟨o, h⟩, by rintro (q | q) <;> simp at q⟩
    · exact .inr h
  have hz : (ns.map V.int).length ≤ sizeLine := by
    rw [List.length_map]
    exact Nat.le_trans hl (by decide)
  refine ⟨⟨[], []⟩, [], [.d (.ro (ns.map Ir.D.int))], _, st', ⟨rfl, fun i j b h => by simp at h, fun m b h => by simp at h, fun m h => by simp at h, fun b h => by simp at h, fun b h => by simp at h⟩, .cons (show RV _ K H (.d (.ro (ns.map Ir.D.int))) (.ref a) from RD.ro hla hz r) .nil, ev, fun ρ' H' x _ _ rx => RD.bool_inv rx⟩
end Snd

namespace Snd
open PySem PySem.Spec PyProof.Rows L2
/-! ### the built-in names -/
theorem bv_len : bootBuiltins (Str.ofString "len") = some (.builtin "len") := by decide +kernel
theorem bv_abs : bootBuiltins (Str.ofString "abs") = some (.builtin "abs") := by decide +kernel
theorem bv_all : bootBuiltins (Str.ofString "all") = some (.builtin "all") := by decide +kernel
theorem bv_any : bootBuiltins (Str.ofString "any") = some (.builtin "any") := by decide +kernel
theorem bv_sum : bootBuiltins (Str.ofString "sum") = some (.builtin "sum") := by decide +kernel
theorem bv_min : bootBuiltins (Str.ofString "min") = some (.builtin "min") := by decide +kernel
theorem bv_max : bootBuiltins (Str.ofString "max") = some (.builtin "max") := by decide +kernel
theorem bv_tuple : bootBuiltins (Str.ofString "tuple") = some (.type "tuple") := by decide +kernel
theorem bv_list : bootBuiltins (Str.ofString "list") = some (.type "list") := by decide +kernel
theorem bv_int : bootBuiltins (Str.ofString "int") = some (.type "int") := by decide +kernel
theorem bv_bool : bootBuiltins (Str.ofString "bool") = some (.type "bool") := by decide +kernel
theorem bv_str : bootBuiltins (Str.ofString "str") = some (.type "str") := by decide +kernel
theorem fun_kw {K : PySem.W.Frag} {x qual : Str} {st : Stmt} {f : Addr} {fd : FuncData} {ps : List Str} (F : Fun K x qual st f fd) (q : Kw) (hq : q.2.2.2.2 = [])
    (h : ∀ (kV doc pm : Value) (an : Option Addr) (cdv ct : Value) (us ws : List Value), us.length = q.2.1 → ws.length = q.2.2.1.length → bindArgs (PySem.W.fnOf x qual (defArgs st) (defBody st) (defScope st) .none kV doc pm an cdv ct) ⟨us, q.2.2.1.zip ws⟩ = pure (ps.zip (permV q.2.2.2.1 (us ++ ws)))) : KwOk K fd ps q := by
  obtain ⟨oc, od, kV, doc, pm, an, cdv, ct, osl, rfl, lk, hcd⟩ := F.ex
  exact ⟨[], [], .nil, fun ρ H => by rw [hq]; exact .nil, fun s us ws _ h1 h2 => .of_eq (by rw [List.append_nil]; exact h kV doc pm an cdv ct us ws h1 h2)⟩
end Snd

namespace Snd
open PySem PySem.Spec PyProof.Rows L2
variable {X : Cx} {C : Ir.Calls}
/-! ### dict(pairs) -/
theorem merge_pairs {ρ : Rho} {K : PySem.W.Frag} {H : Hp} : ∀ {xs : List Ir.D} {ys : List V} {acc kvs : List (Ir.D × Ir.D)} {ks : List (Key × V)}, RDs ρ K H xs ys → Ir.mergeP acc xs = some kvs → RKs ρ K H acc ks →
    ∃ (ps : List Addr) (prs : List (Key × V)), ys = ps.map V.ref ∧ Paired (fun p kv => SqT K H p [kV kv.1, kv.2]) ps prs ∧ RKs ρ K H kvs (mergeK ks prs) ∧ prs.length = ys.length
  | [], _, acc, kvs, ks, .nil, e, r => by
    simp only [Ir.mergeP] at e
    cases e
    exact ⟨[], [], rfl, .nil, r, rfl⟩
  | x :: xs, _, acc, kvs, ks, .cons h t, e, r => by
    unfold Ir.mergeP at e
    split at e
    · rename_i hh; cases hh
    · rename_i k v q hh
      cases hh
      split at e
      · rename_i hk
        obtain ⟨a, ys, rfl, tp, z, rr⟩ := RD.tup_inv h
        cases rr with
        | cons rk rr =>
          cases rr with
          | cons rv rr =>
            cases rr
            obtain ⟨k', h1, rfl⟩ := RK.kv rk hk
            obtain ⟨ps, prs, rfl, h2, h3, h4⟩ := merge_pairs t e (r.put h1 rv)
            exact ⟨a :: ps, (k', _) :: prs, rfl, .cons tp.sq h2, h3, by simp [h4]⟩
      · cases e
    · cases e
theorem se_dictP {e : Expr} {i : Ir.Ex} {p pos : Pos} (hcalm : X.calm = true) (h : SE X C e i) (hm : X.mg (Str.ofString "dict") = none) (hv : bootBuiltins (Str.ofString "dict") = some (.type "dict")) (hg : Gl X (Str.ofString "dict") := by rfl)
    (he : starEach [e] X.env = (false, eval e X.env) :: starEach [] X.env := by rfl) (hpl : (backTo pos (starEach [] X.env)).any (·.1) = false := by rfl) :
    SE X C (.Call (.Name (Str.ofString "dict") p) [e] [] pos) (.newDP i) := by
  refine pe_imp (pe_callTy (call_dictP hcalm) hg hm hv (pa_cons h pa_nil he) (by decide) (by decide) he hpl) fun σ H Q ⟨ρ, env, st, v, st', rs, re, ev, k⟩ => ?_
  simp only [Ir.eval] at ev
  obtain ⟨w, s1, e1, ev⟩ := bok ev
  split at ev
  · rename_i xs
    split at ev
    · rename_i kvs hk
      cases ev
      refine ⟨ρ, env, st, _, s1, rs, re, e1, fun ρ1 H1 V1 x1 rs1 rv => ?_⟩
      obtain ⟨a, ys, rfl, t, z, r⟩ : ∃ a ys, V1 = .ref a ∧ H1 a = some (.lst ys) ∧ ys.length ≤ sizeLine ∧ RDs ρ1 X.K H1 xs ys := by
        cases rv with
        | lst h1 h2 h3 h4 => exact ⟨_, _, rfl, h1, h3, h4⟩
      obtain ⟨ps, prs, rfl, h2, h3, h4⟩ := merge_pairs r hk .nil
      refine ⟨a, ps, prs, rfl, SqL.of t, h2, fun p hp => ?_⟩
      have hz : (mergeK [] prs).length ≤ sizeLine := by
        refine Nat.le_trans (length_mergeK prs []) ?_
        rw [List.length_nil, Nat.zero_add, h4]
        exact z
      have w : Ext ρ1 H1 (ρ1.push p) (upd H1 p (.dK (mergeK [] prs))) := .push rs1 hp _
      refine k (ρ1.push p) _ _ (x1.trans w) (rs1.push hp ⟨_, upd_same, hz, h3.mono w⟩) ⟨by simp [Rho.push, rs1.len], p, rfl, fun b hb => ?_⟩
      simp only [Rho.push] at hb
      rw [rs1.len, List.getElem?_append_right (Nat.le_refl _)] at hb
      simp at hb
      exact hb.symm
    · cases ev
  · cases ev
theorem bv_dict : bootBuiltins (Str.ofString "dict") = some (.type "dict") := by decide +kernel
end Snd

set_option maxHeartbeats 2000000
namespace Snd
open PySem PySem.Spec PyProof.Rows L2
/-! list(zip(a, b)) of two tuples -/
theorem ad_ne {a b c : Addr} (h : a ≤ b) (k : b < c) : c ≠ a := Nat.ne_of_gt (Nat.lt_of_le_of_lt h k)
theorem ad_ne2 {a b c : Addr} (h : a < b) (k : b < c) : c ≠ a := Nat.ne_of_gt (Nat.lt_trans h k)
section
variable {prog : Program} {w : World} {A : Around} {E : Value → Shared → Prop} {s : Shared}
variable {z TI TO i1 i2 l1 l2 : Addr} {P1 P2 : Nat → Heap → Prop} {xs ys : Array Value}
/-- the zip while a pair T that it gave out is still held -/
structure ZhAt (h : Heap) (z TI TO i1 i2 T : Addr) (f : Bool) (P1 P2 : Nat → Heap → Prop) (k : Nat) : Prop where
  zz : IsZipHeld h z TI TO T f
  tt : ∃ oT, h.get? T = some oT
  ti : IsPair h TI (.ref i1) (.ref i2)
  p1 : P1 k h
  p2 : P2 k h
theorem zh_item (S1 : ItStep prog w i1 l1 P1 xs) (S2 : ItStep prog w i2 l2 P2 ys) (D : ZipApart z TI TO i1 i2 l1 l2) {k : Nat} {T : Addr} {f : Bool} {x y : Value} (Z : ZhAt s.heap z TI TO i1 i2 T f P1 P2 k) (hx : xs[k]? = some x) (hy : ys[k]? = some y) {Q : Value → Shared → Prop}
    (hQ : ∀ h', IsZipHeld h' z TI TO T true → P1 (k + 1) h' → P2 (k + 1) h' → IsPair h' s.heap.objs.size x y → h'.objs.size = s.heap.objs.size + 1 →
      (∀ c o, c ≠ z → c ≠ i1 → c ≠ i2 → s.heap.get? c = some o → h'.get? c = some o) → Q (.ref s.heap.objs.size) { s with heap := h' }) :
    wpAny (model prog w) A (Builtin.«zip.__next__» ⟨[.ref z], []⟩) (fun fin s' => ∃ v, fin = .done (.ret v) ∧ Q v s') E s := by
  have hz := Z.zz; obtain ⟨oT, hT⟩ := Z.tt; have hTI := Z.ti
  show wpAny _ _ (field (.ref z) 2 >>= _) _ _ _
  refine wpAny_bind (wpAny_field hz rfl (x := .bool false) rfl ?_)
  show wpAny _ _ (field (.ref z) 3 >>= _) _ _ _
  refine wpAny_bind (wpAny_field hz rfl (x := .ref TI) rfl ?_)
  refine wpAny_bind (wpAny_seqItems hTI rfl ?_)
  show wpAny _ _ (Builtin.SmallTypes.ownedTupleIsFree (.ref z) >>= _) _ _ _
  refine wpAny_bind (wpAny_tupleHeld_zip hz hT fun h₁ hz₁ hs₁ => ?_)
  simp only [Bool.false_eq_true, if_false]
  refine wpAny_bind ?_
  rw [← Array.forIn_toList]
  simp only [List.forIn_cons, List.forIn_nil]
  refine wpAny_bind (wpAny_bind (wpAny_holding ?_))
  show wpAny _ _ (Builtin.SmallTypes.nextOf (.ref i1) >>= _) _ _ _
  refine wpAny_bind (S1.next (t := { s with heap := h₁ }) (S1.stay Z.p1 (fun o q => hs₁.extBut _ _ D.i1z q) (fun o q => hs₁.extBut _ _ D.l1z q)) hx fun h₂ p12 hs₂ => wpAny_pure ?_)
  refine wpAny_pure ?_
  refine wpAny_bind (wpAny_bind (wpAny_holding ?_))
  show wpAny _ _ (Builtin.SmallTypes.nextOf (.ref i2) >>= _) _ _ _
  refine wpAny_bind (S2.next (t := { s with heap := h₂ }) (S2.stay Z.p2 (fun o q => hs₂.extBut _ _ D.i12.symm (hs₁.extBut _ _ D.i2z q)) (fun o q => hs₂.extBut _ _ D.l2i1 (hs₁.extBut _ _ D.l2z q))) hy fun h₃ p23 hs₃ => wpAny_pure ?_)
  refine wpAny_pure (wpAny_pure ?_)
  show wpAny _ _ (newTuple [x, y] >>= _) _ _ _
  refine wpAny_bind (wpAny_newTuple ?_)
  have hsz : h₃.objs.size = s.heap.objs.size := by rw [hs₃.1, hs₂.1, hs₁.1]
  have hz₃ : IsZipHeld h₃ z TI TO T true := hs₃.extBut _ _ D.i2z.symm (hs₂.extBut _ _ D.i1z.symm hz₁)
  have hk : ∀ c o, c ≠ z → c ≠ i1 → c ≠ i2 → s.heap.get? c = some o → h₃.get? c = some o := fun c o c1 c2 c3 e => hs₃.extBut _ _ c3 (hs₂.extBut _ _ c2 (hs₁.extBut _ _ c1 e))
  have p13 : P1 (k + 1) h₃ := S1.stay p12 (fun o q => hs₃.extBut _ _ D.i12 q) (fun o q => hs₃.extBut _ _ D.l1i2 q)
  refine wpAny_pure ⟨_, rfl, ?_⟩
  show Q (.ref h₃.objs.size) _
  have hp : IsPair (h₃.push { cls := .type "tuple", data := .seq #[x, y] }) h₃.objs.size x y := Heap.get?_push_size _ rfl
  have hz4 : (h₃.push { cls := .type "tuple", data := .seq #[x, y] }).objs.size = h₃.objs.size + 1 := Heap.size_push ..
  rw [hsz] at hp hz4 ⊢
  exact hQ _ (Heap.get?_push_of_some _ hz₃) (S1.stay p13 (fun o q => Heap.get?_push_of_some _ q) (fun o q => Heap.get?_push_of_some _ q)) (S2.stay p23 (fun o q => Heap.get?_push_of_some _ q) (fun o q => Heap.get?_push_of_some _ q)) hp hz4 fun c o c1 c2 c3 e => Heap.get?_push_of_some _ (hk c o c1 c2 c3 e)
theorem zh_end (hh : A.handled = none) (S1 : ItStep prog w i1 l1 P1 xs) (S2 : ItStep prog w i2 l2 P2 ys) (D : ZipApart z TI TO i1 i2 l1 l2) {k : Nat} {T : Addr} {f : Bool} (Z : ZhAt s.heap z TI TO i1 i2 T f P1 P2 k) (hend : xs[k]? = none ∨ ys[k]? = none) {Q : Fin → Shared → Prop}
    (hE : ∀ h' e, (∀ c o, c ≠ z → c ≠ i1 → c ≠ i2 → s.heap.get? c = some o → h'.get? c = some o) → (∃ o, h'.get? e = some o ∧ o.cls = .type "StopIteration") → E (.ref e) { s with heap := h' }) :
    wpAny (model prog w) A (Builtin.«zip.__next__» ⟨[.ref z], []⟩) Q E s := by
  have hz := Z.zz; obtain ⟨oT, hT⟩ := Z.tt; have hTI := Z.ti
  show wpAny _ _ (field (.ref z) 2 >>= _) _ _ _
  refine wpAny_bind (wpAny_field hz rfl (x := .bool false) rfl ?_)
  show wpAny _ _ (field (.ref z) 3 >>= _) _ _ _
  refine wpAny_bind (wpAny_field hz rfl (x := .ref TI) rfl ?_)
  refine wpAny_bind (wpAny_seqItems hTI rfl ?_)
  show wpAny _ _ (Builtin.SmallTypes.ownedTupleIsFree (.ref z) >>= _) _ _ _
  refine wpAny_bind (wpAny_tupleHeld_zip hz hT fun h₁ hz₁ hs₁ => ?_)
  simp only [Bool.false_eq_true, if_false]
  refine wpAny_bind ?_
  rw [← Array.forIn_toList]
  simp only [List.forIn_cons, List.forIn_nil]
  refine wpAny_bind (wpAny_bind (wpAny_holding ?_))
  show wpAny _ _ (Builtin.SmallTypes.nextOf (.ref i1) >>= _) _ _ _
  cases hx : xs[k]? with
  | none =>
    refine wpAny_bind (S1.over (t := { s with heap := h₁ }) hh (S1.stay Z.p1 (fun o q => hs₁.extBut _ _ D.i1z q) (fun o q => hs₁.extBut _ _ D.l1z q)) hx fun h₂ e hs₂ he => ?_)
    exact hE h₂ e (fun c o c1 c2 _ x => hs₂ _ _ c2 (hs₁.extBut _ _ c1 x)) he
  | some x =>
    have hy : ys[k]? = none := by rcases hend with h | h; rw [hx] at h; cases h; exact h
    refine wpAny_bind (S1.next (t := { s with heap := h₁ }) (S1.stay Z.p1 (fun o q => hs₁.extBut _ _ D.i1z q) (fun o q => hs₁.extBut _ _ D.l1z q)) hx fun h₂ p12 hs₂ => wpAny_pure ?_)
    refine wpAny_pure ?_
    refine wpAny_bind (wpAny_bind (wpAny_holding ?_))
    show wpAny _ _ (Builtin.SmallTypes.nextOf (.ref i2) >>= _) _ _ _
    refine wpAny_bind (S2.over (t := { s with heap := h₂ }) hh (S2.stay Z.p2 (fun o q => hs₂.extBut _ _ D.i12.symm (hs₁.extBut _ _ D.i2z q)) (fun o q => hs₂.extBut _ _ D.l2i1 (hs₁.extBut _ _ D.l2z q))) hy fun h₃ e hs₃ he => ?_)
    exact hE h₃ e (fun c o c1 c2 c3 x => hs₃ _ _ c3 (hs₂.extBut _ _ c2 (hs₁.extBut _ _ c1 x))) he
theorem zh_next (S1 : ItStep prog w i1 l1 P1 xs) (S2 : ItStep prog w i2 l2 P2 ys) (D : ZipApart z TI TO i1 i2 l1 l2) {k : Nat} {T : Addr} {f : Bool} {x y : Value} (Z : ZhAt s.heap z TI TO i1 i2 T f P1 P2 k) (hx : xs[k]? = some x) (hy : ys[k]? = some y) {Q : Option Value → Shared → Prop}
    (hQ : ∀ h', IsZipHeld h' z TI TO T true → P1 (k + 1) h' → P2 (k + 1) h' → IsPair h' s.heap.objs.size x y → h'.objs.size = s.heap.objs.size + 1 →
      (∀ c o, c ≠ z → c ≠ i1 → c ≠ i2 → s.heap.get? c = some o → h'.get? c = some o) → Q (some (.ref s.heap.objs.size)) { s with heap := h' }) :
    wpAny (model prog w) A (pyNext (.ref z)) Q E s := by
  have hTy : s.TypeIs (.ref z) "zip" := ⟨_, Z.zz, rfl⟩
  unfold pyNext
  exact wpAny_bind (wpAny_attempt (wpAny_callSpecial?_slot (name := Str.ofString "__next__") hTy F.slot_zip_next
    (wpAny_call_entry F.slot_zip_next hTy F.entry_zip_next
      (zh_item S1 S2 D Z hx hy fun h' a1 a3 a4 a5 a6 a7 => wpAny_pure (hQ h' a1 a3 a4 a5 a6 a7)) (F.args_zip_next_1 _))))
theorem zh_stop (hh : A.handled = none) (S1 : ItStep prog w i1 l1 P1 xs) (S2 : ItStep prog w i2 l2 P2 ys) (D : ZipApart z TI TO i1 i2 l1 l2) {k : Nat} {T : Addr} {f : Bool} (Z : ZhAt s.heap z TI TO i1 i2 T f P1 P2 k) (hend : xs[k]? = none ∨ ys[k]? = none) {Q : Option Value → Shared → Prop}
    (hQ : ∀ h', (∀ c o, c ≠ z → c ≠ i1 → c ≠ i2 → s.heap.get? c = some o → h'.get? c = some o) → Q none { s with heap := h' }) : wpAny (model prog w) A (pyNext (.ref z)) Q E s := by
  have hTy : s.TypeIs (.ref z) "zip" := ⟨_, Z.zz, rfl⟩
  unfold pyNext
  refine wpAny_bind (wpAny_attempt (wpAny_callSpecial?_slot (name := Str.ofString "__next__") hTy F.slot_zip_next
    (wpAny_call_entry F.slot_zip_next hTy F.entry_zip_next (zh_end (A := A.in1) (show A.in1.handled = none from hh) S1 S2 D Z hend fun h' e hk he => ?_) (F.args_zip_next_1 _))))
  obtain ⟨o, ho, hc⟩ := he
  refine wpAny_bind (wpAny_isInstance (T := "StopIteration") (b := true) ⟨o, ho, hc⟩ isSubtype_stop ?_)
  exact wpAny_pure (hQ _ hk)
/-- at any turn of the filling of S -/
def LzAt (h : Heap) (S z TI TO i1 i2 : Addr) (P1 P2 : Nat → Heap → Prop) (k : Nat) : Prop :=
  (k = 0 ∧ ZpAt h z TI TO i1 i2 P1 P2 .none .none k) ∨ ∃ T f, ZhAt h z TI TO i1 i2 T f P1 P2 k ∧ T ≠ S ∧ T ≠ z ∧ T ≠ i1 ∧ T ≠ i2
/-- what is laid: the pairs at their addresses -/
structure LzG (xs ys : Array Value) (lo : Addr) (h : Heap) (as : List Addr) : Prop where
  rise : as.Pairwise (· < ·)
  above : ∀ a ∈ as, lo < a
  pairs : ∀ (j : Nat) (a : Addr), as[j]? = some a → ∃ x y, xs[j]? = some x ∧ ys[j]? = some y ∧ h.get? a = some { cls := .type "tuple", data := .seq #[x, y] }
theorem LzG.there {lo : Addr} {h : Heap} {as : List Addr} (g : LzG xs ys lo h as) {a : Addr} (ha : a ∈ as) : a < h.objs.size := by
  obtain ⟨j, hj⟩ := List.mem_iff_getElem?.mp ha
  obtain ⟨_, _, _, _, e⟩ := g.pairs j a hj
  exact Heap.lt_size e
/-- the cells of the zip and of what it walks -/
structure LzOff (S z TI TO i1 i2 l1 l2 : Addr) : Prop where
  sz : S ≠ z
  sTI : S ≠ TI
  sTO : S ≠ TO
  si1 : S ≠ i1
  si2 : S ≠ i2
  sl1 : S ≠ l1
  sl2 : S ≠ l2
  b1 : i1 < z
  b2 : i2 < z
theorem lz_next (S1 : ItStep prog w i1 l1 P1 xs) (S2 : ItStep prog w i2 l2 P2 ys) (D : ZipApart z TI TO i1 i2 l1 l2) {S : Addr} (O : LzOff S z TI TO i1 i2 l1 l2) {k : Nat} {x y : Value} (Z : LzAt s.heap S z TI TO i1 i2 P1 P2 k) (hSl : S < s.heap.objs.size) (hx : xs[k]? = some x) (hy : ys[k]? = some y) {Q : Option Value → Shared → Prop}
    (hQ : ∀ h', LzAt h' S z TI TO i1 i2 P1 P2 (k + 1) → IsPair h' s.heap.objs.size x y → h'.objs.size = s.heap.objs.size + 1 →
      (∀ c o, c ≠ z → c ≠ TO → c ≠ i1 → c ≠ i2 → s.heap.get? c = some o → h'.get? c = some o) → Q (some (.ref s.heap.objs.size)) { s with heap := h' }) :
    wpAny (model prog w) A (pyNext (.ref z)) Q E s := by
  rcases Z with ⟨rfl, Z⟩ | ⟨T, f, Z, hTS, e1, e2, e3⟩
  · have hz := Heap.lt_size Z.zz
    have := O.b1
    have := O.b2
    refine zm_next S1 S2 D Z hx hy fun g z1 t1 p1 p2 pr sz kp => hQ g (.inr ⟨_, false, ⟨z1, ⟨_, pr⟩, kp _ _ D.TIz D.TITO D.TIi1 D.TIi2 Z.ti, p1, p2⟩, Nat.ne_of_gt hSl, Nat.ne_of_gt hz, ad_ne2 O.b1 hz, ad_ne2 O.b2 hz⟩) pr sz kp
  · obtain ⟨oT, hT⟩ := Z.tt
    exact zh_next S1 S2 D Z hx hy fun h' z1 p1 p2 pr sz kp => hQ h' (.inr ⟨T, true, ⟨z1, ⟨oT, kp T oT e1 e2 e3 hT⟩, kp _ _ D.TIz D.TIi1 D.TIi2 Z.ti, p1, p2⟩, hTS, e1, e2, e3⟩) pr sz fun c o c1 _ c3 c4 e => kp c o c1 c3 c4 e
theorem lz_stop (hh : A.handled = none) (S1 : ItStep prog w i1 l1 P1 xs) (S2 : ItStep prog w i2 l2 P2 ys) (D : ZipApart z TI TO i1 i2 l1 l2) {S : Addr} {k : Nat} (Z : LzAt s.heap S z TI TO i1 i2 P1 P2 k) (hend : xs[k]? = none ∨ ys[k]? = none) {Q : Option Value → Shared → Prop}
    (hQ : ∀ h', (∀ c o, c ≠ z → c ≠ TO → c ≠ i1 → c ≠ i2 → s.heap.get? c = some o → h'.get? c = some o) → Q none { s with heap := h' }) : wpAny (model prog w) A (pyNext (.ref z)) Q E s := by
  rcases Z with ⟨rfl, Z⟩ | ⟨T, f, Z, _⟩
  · exact zm_stop hh S1 S2 D Z hend hQ
  · exact zh_stop hh S1 S2 D Z hend fun h' kp => hQ h' fun c o c1 _ c3 c4 e => kp c o c1 c3 c4 e
theorem LzAt.keep (S1 : ItStep prog w i1 l1 P1 xs) (S2 : ItStep prog w i2 l2 P2 ys) {S : Addr} (O : LzOff S z TI TO i1 i2 l1 l2) {h h' : Heap} {k : Nat} (Z : LzAt h S z TI TO i1 i2 P1 P2 k) (hk : ∀ b o, b ≠ S → h.get? b = some o → h'.get? b = some o) : LzAt h' S z TI TO i1 i2 P1 P2 k := by
  rcases Z with ⟨e, Z⟩ | ⟨T, f, Z, hTS, e⟩
  · exact .inl ⟨e, hk _ _ O.sz.symm Z.zz, hk _ _ O.sTI.symm Z.ti, hk _ _ O.sTO.symm Z.to, S1.stay Z.p1 (fun o q => hk _ _ O.si1.symm q) (fun o q => hk _ _ O.sl1.symm q), S2.stay Z.p2 (fun o q => hk _ _ O.si2.symm q) (fun o q => hk _ _ O.sl2.symm q)⟩
  · obtain ⟨oT, hT⟩ := Z.tt
    exact .inr ⟨T, f, ⟨hk _ _ O.sz.symm Z.zz, ⟨oT, hk _ _ hTS hT⟩, hk _ _ O.sTI.symm Z.ti, S1.stay Z.p1 (fun o q => hk _ _ O.si1.symm q) (fun o q => hk _ _ O.sl1.symm q), S2.stay Z.p2 (fun o q => hk _ _ O.si2.symm q) (fun o q => hk _ _ O.sl2.symm q)⟩, hTS, e⟩
theorem LzAt.zip {S : Addr} {h : Heap} {k : Nat} (Z : LzAt h S z TI TO i1 i2 P1 P2 k) : ∃ o, h.get? z = some o ∧ o.cls = .type "zip" := by
  rcases Z with ⟨e, Z⟩ | ⟨T, f, Z, hTS, e⟩
  · exact ⟨_, Z.zz, rfl⟩
  · exact ⟨_, Z.zz, rfl⟩
end
section
variable {prog : Program} {w : World} {A : Around} {s : Shared} {R : Result → Shared → Prop}
variable {z TI TO i1 i2 l1 l2 : Addr} {P1 P2 : Nat → Heap → Prop} {xs ys : Array Value}
theorem lz_loop (S1 : ItStep prog w i1 l1 P1 xs) (S2 : ItStep prog w i2 l2 P2 ys) (D : ZipApart z TI TO i1 i2 l1 l2) {S lo : Addr} (O : LzOff S z TI TO i1 i2 l1 l2) (hlo : ∀ c, c = z ∨ c = TO ∨ c = i1 ∨ c = i2 ∨ c = S → c ≤ lo) (hh : A.handled = none) {n : Nat} (hn : n ≤ sizeLine) (hxs : n = min xs.size ys.size) (res : Value) {h₁ : Heap}
    (hR : ∀ h' tk acc c as, (∀ b o, b ≠ S → b ≠ z → b ≠ TO → b ≠ i1 → b ≠ i2 → h₁.get? b = some o → h'.get? b = some o) → h'.get? S = some { cls := .type "list", dict := none, data := .seq acc c, slots := #[] } → as.length = n → LzG xs ys lo h' as →
      acc.toList = as.map Value.ref → R (.ok (.ret res)) { s with heap := h', toks := tk }) :
    ∀ (k i : Nat) (h : Heap) (tk c : Nat) (acc : Array Value) (as : List Addr), n - i = k → i ≤ n → LzAt h S z TI TO i1 i2 P1 P2 i → (∀ b o, b ≠ S → b ≠ z → b ≠ TO → b ≠ i1 → b ≠ i2 → h₁.get? b = some o → h.get? b = some o) →
      h.get? S = some { cls := .type "list", dict := none, data := .seq acc c, slots := #[] } → acc.toList = as.map Value.ref → as.length = i → LzG xs ys lo h as → lo < h.objs.size →
      codeAny (model prog w) A (.builtin "list.extend.loop" ⟨[.ref S, .ref z, res], []⟩) R { s with heap := h, toks := tk } := by
  intro k
  induction k with
  | zero =>
    intro i h tk c acc as hk hi hst hkeep hS hacc hal hG hIs
    have hin : i = n := by omega
    refine codeAny_builtin PySem.F.entry_extend_loop ?_
    rw [Around.under_plainId PySem.F.plain_extend_loop _]
    show wpAny _ A.in1 (pyNext (.ref z) >>= _) _ _ _
    refine wpAny_bind (lz_stop (s := { s with heap := h, toks := tk }) (A := A.in1) hh S1 S2 D hst ?_ fun h' he => ?_)
    · by_cases c : xs.size ≤ i
      · exact .inl (Array.getElem?_eq_none c)
      · exact .inr (Array.getElem?_eq_none (by omega))
    refine wpAny_pure (hR h' tk acc c as (fun b o h1 h2 h3 h4 h5 e => he b o h2 h3 h4 h5 (hkeep b o h1 h2 h3 h4 h5 e)) (he S _ O.sz O.sTO O.si1 O.si2 hS) (by omega) ⟨hG.rise, hG.above, fun j a hj => ?_⟩ hacc)
    obtain ⟨x, y, e1, e2, e3⟩ := hG.pairs j a hj
    have ha := hG.above a (List.mem_of_getElem? hj)
    exact ⟨x, y, e1, e2, he a _ (ad_ne (hlo z (by simp)) ha) (ad_ne (hlo TO (by simp)) ha) (ad_ne (hlo i1 (by simp)) ha) (ad_ne (hlo i2 (by simp)) ha) e3⟩
  | succ k ih =>
    intro i h tk c acc as hk hi hst hkeep hS hacc hal hG hIs
    have hlt : i < n := by omega
    obtain ⟨x, hx⟩ : ∃ p, xs[i]? = some p := ⟨xs[i]'(by omega), Array.getElem?_eq_getElem (by omega)⟩
    obtain ⟨y, hy⟩ : ∃ p, ys[i]? = some p := ⟨ys[i]'(by omega), Array.getElem?_eq_getElem (by omega)⟩
    have hsz : acc.size = i := by rw [← Array.length_toList, hacc, List.length_map, hal]
    refine codeAny_builtin PySem.F.entry_extend_loop ?_
    rw [Around.under_plainId PySem.F.plain_extend_loop _]
    show wpAny _ A.in1 (pyNext (.ref z) >>= _) _ _ _
    refine wpAny_bind (lz_next (s := { s with heap := h, toks := tk }) (S := S) S1 S2 D O hst (Heap.lt_size hS) hx hy fun h' hst' ht hz hkp => ?_)
    dsimp only at ht hz hkp ⊢
    have hS' := hkp S _ O.sz O.sTO O.si1 O.si2 hS
    have up : ∀ b o, b ≠ S → h'.get? b = some o → (h'.update S (Obj.mapSeq (·.push (Value.ref h.objs.size)))).get? b = some o := fun b o hb e => (Heap.get?_update_other _ _ (Ne.symm hb)).trans e
    have hSl : S < h.objs.size := Heap.lt_size hS
    show wpAny _ A.in1 (updateSeq S (·.push (Value.ref h.objs.size)) >>= _) _ _ _
    refine wpAny_bind ?_
    have hne : h.objs.size ≠ S := Nat.ne_of_gt hSl
    have hg : ∀ a, lo < a → a ≠ z ∧ a ≠ TO ∧ a ≠ i1 ∧ a ≠ i2 ∧ a ≠ S := fun a ha => ⟨ad_ne (hlo z (by simp)) ha, ad_ne (hlo TO (by simp)) ha, ad_ne (hlo i1 (by simp)) ha, ad_ne (hlo i2 (by simp)) ha, ad_ne (hlo S (by simp)) ha⟩
    refine wpAny_updateSeq hS' rfl (wpAny_pure ⟨plainId_quiet PySem.F.plain_extend_loop _, ih (i + 1) _ tk _ (acc.push (Value.ref h.objs.size)) (as ++ [h.objs.size]) (by omega) hlt (hst'.keep S1 S2 O up)
      (fun b o h1 h2 h3 h4 h5 e => up b o h1 (hkp b o h2 h3 h4 h5 (hkeep b o h1 h2 h3 h4 h5 e))) (Heap.get?_update_self _ hS' rfl) (by rw [Array.toList_push, hacc, List.map_append]; rfl) (by rw [List.length_append, hal]; rfl) ⟨?_, ?_, ?_⟩ ?_⟩) (by rw [hsz]; omega) (by show (acc.push (Value.ref h.objs.size)).size ≤ sizeLine + 1; rw [Array.size_push, hsz]; omega)
    · refine List.pairwise_append.mpr ⟨hG.rise, List.pairwise_singleton _ _, fun a ha b hb => ?_⟩
      rw [List.mem_singleton.mp hb]
      exact hG.there ha
    · intro a ha
      rcases List.mem_append.mp ha with ha | ha
      · exact hG.above a ha
      · rw [List.mem_singleton.mp ha]; exact hIs
    · intro j b hj
      rcases Nat.lt_trichotomy j as.length with h1 | h1 | h1
      · rw [List.getElem?_append_left h1] at hj
        obtain ⟨x', y', e1, e2, e3⟩ := hG.pairs j b hj
        obtain ⟨g1, g2, g3, g4, g5⟩ := hg b (hG.above b (List.mem_of_getElem? hj))
        exact ⟨x', y', e1, e2, up b _ g5 (hkp b _ g1 g2 g3 g4 e3)⟩
      · subst h1
        have hb : h.objs.size = b := by simpa using hj
        subst hb
        exact ⟨x, y, by rw [hal]; exact hx, by rw [hal]; exact hy, up _ _ hne ht⟩
      · have hnone : (as ++ [h.objs.size])[j]? = none := List.getElem?_eq_none (by rw [List.length_append, List.length_singleton]; omega)
        rw [hnone] at hj; cases hj
    · have e : (h'.update S (Obj.mapSeq (·.push (Value.ref h.objs.size)))).get? h.objs.size = _ := up _ _ hne ht
      exact Nat.lt_trans hIs (Heap.lt_size e)
end
end Snd

set_option maxHeartbeats 2000000
namespace Snd
open PySem PySem.Spec PyProof.Rows L2
theorem zip_no_len : typeLookup (.type "zip") "__len__" = pure none := am_miss_of_fast (by decide +kernel)
theorem zip_no_hint : typeLookup (.type "zip") "__length_hint__" = pure none := am_miss_of_fast (by decide +kernel)
section
variable {prog : Program} {w : World} {A : Around} {E : Value → Shared → Prop} {s : Shared}
theorem lz_hint {r : Addr} (hT : s.TypeIs (.ref r) "zip") {Q : Bool → Shared → Prop} (h : Q true s) : wpAny (model prog w) A (Builtin.List.listLengthHint (.ref r)) Q E s := by
  unfold Builtin.List.listLengthHint
  refine wpAny_bind (wpAny_specialOf hT zip_no_len ?_)
  wp_delta
  refine wpAny_bind (wpAny_specialOf hT zip_no_hint ?_)
  exact wpAny_pure h
end
section
variable {prog : Program} {w : World} {A : Around} {s : Shared} {R : Result → Shared → Prop}
variable {z TI TO i1 i2 l1 l2 : Addr} {P1 P2 : Nat → Heap → Prop} {xs ys : Array Value}
theorem lz_extend (S1 : ItStep prog w i1 l1 P1 xs) (S2 : ItStep prog w i2 l2 P2 ys) (D : ZipApart z TI TO i1 i2 l1 l2) (hh : A.handled = none) {n : Nat} (hn : n ≤ sizeLine) (hxs : n = min xs.size ys.size) (S : Addr) (O : LzOff S z TI TO i1 i2 l1 l2) (hlo : ∀ c, c = z ∨ c = TO ∨ c = i1 ∨ c = i2 ∨ c = S → c ≤ S) (res : Value) (c₀ : Nat)
    (hS : s.heap.get? S = some { cls := .type "list", data := .seq #[] c₀ }) (hZ : ZpAt s.heap z TI TO i1 i2 P1 P2 .none .none 0)
    (hR : ∀ h' tk acc c as, (∀ b o, b ≠ S → b ≠ z → b ≠ TO → b ≠ i1 → b ≠ i2 → s.heap.get? b = some o → h'.get? b = some o) → h'.get? S = some { cls := .type "list", dict := none, data := .seq acc c, slots := #[] } → as.length = n → LzG xs ys S h' as →
      acc.toList = as.map Value.ref → R (.ok (.ret res)) { s with heap := h', toks := tk }) :
    wpAny (model prog w) A.in1 (Builtin.List.listExtendWith (.ref S) (.ref z) res)
      (fun fin s' => match fin with | .done f => R (.ok f) s' | .again c' => c'.quiet = true ∧ codeAny (model prog w) A c' R s') (fun e s' => R (.error e) s') s := by
  have hSl : S < s.heap.objs.size := Heap.lt_size hS
  have key : ∀ (h : Heap) (c₁ tk : Nat), (∀ b o, b ≠ S → s.heap.get? b = some o → h.get? b = some o) →
      h.get? S = some { cls := .type "list", data := .seq #[] c₁ } → codeAny (model prog w) A (.builtin "list.extend.loop" ⟨[.ref S, .ref z, res], []⟩) R { s with heap := h, toks := tk } := by
    intro h c₁ tk hk hS₁
    have hst : LzAt s.heap S z TI TO i1 i2 P1 P2 0 := .inl ⟨rfl, hZ⟩
    exact lz_loop S1 S2 D O hlo hh hn hxs res hR n 0 h tk c₁ #[] [] (Nat.sub_zero _) (Nat.zero_le _) (hst.keep S1 S2 O hk) (fun b o hb _ _ _ _ e => hk b o hb e) hS₁ rfl rfl
      ⟨List.Pairwise.nil, (fun _ ha => nomatch ha), (fun j a hj => by simp at hj)⟩ (Heap.lt_size hS₁)
  have hT : s.TypeIs (.ref z) "zip" := ⟨_, hZ.zz, rfl⟩
  unfold Builtin.List.listExtendWith
  refine wpAny_bind (wpAny_typeOf (T := "zip") hT ?_)
  have h1 : Builtin.List.listSameRef (.ref S) (.ref z) = false := by simp [Builtin.List.listSameRef, O.sz]
  have h2 : (Value.type "zip" == Value.type "list") = false := by decide
  have h3 : (Value.type "zip" == Value.type "tuple") = false := by decide
  simp only [h1, h2, h3, Bool.or_false, Bool.false_eq_true, if_false]
  refine wpAny_bind (wpAny_pyIter_zip hZ.zz ?_)
  refine wpAny_bind (wpAny_holding (lz_hint hT ?_))
  refine wpAny_ite_split (fun _ => ?_) (fun _ => wpAny_pure ⟨plainId_quiet PySem.F.plain_extend_loop _, key _ c₀ _ (fun b o _ e => e) hS⟩)
  refine wpAny_bind (wpAny_rule ?_)
  refine wpAny_bind ?_
  show wpAny _ _ (updateSeq S (·.push .none) >>= fun _ => updateSeq S (·.pop)) _ _ _
  refine wpAny_bind (wpAny_updateSeq hS rfl ?_)
  have hS₂ := Heap.get?_update_self (Obj.mapSeq (·.push Value.none)) hS rfl
  refine wpAny_updateSeq (hz := by seq_fits) hS₂ rfl ?_
  have hS₃ := Heap.get?_update_self (Obj.mapSeq (·.pop)) hS₂ rfl
  refine wpAny_pure ⟨plainId_quiet PySem.F.plain_extend_loop _, key _ _ _ (fun b o hb e => ?_) hS₃⟩
  exact (Heap.get?_update_other _ _ (Ne.symm hb)).trans ((Heap.get?_update_other _ _ (Ne.symm hb)).trans e)
theorem lz_init (S1 : ItStep prog w i1 l1 P1 xs) (S2 : ItStep prog w i2 l2 P2 ys) (D : ZipApart z TI TO i1 i2 l1 l2) (hh : A.handled = none) {n : Nat} (hn : n ≤ sizeLine) (hxs : n = min xs.size ys.size) (S : Addr) (O : LzOff S z TI TO i1 i2 l1 l2) (hlo : ∀ c, c = z ∨ c = TO ∨ c = i1 ∨ c = i2 ∨ c = S → c ≤ S)
    (hS : s.heap.get? S = some { cls := .type "list", data := .seq #[] }) (hZ : ZpAt s.heap z TI TO i1 i2 P1 P2 .none .none 0)
    (hR : ∀ h' tk acc c as, (∀ b o, b ≠ S → b ≠ z → b ≠ TO → b ≠ i1 → b ≠ i2 → s.heap.get? b = some o → h'.get? b = some o) → h'.get? S = some { cls := .type "list", dict := none, data := .seq acc c, slots := #[] } → as.length = n → LzG xs ys S h' as →
      acc.toList = as.map Value.ref → R (.ok (.ret .none)) { s with heap := h', toks := tk }) :
    wpAny (model prog w) A.in1 (Builtin.«list.__init__» ⟨[.ref S, .ref z], []⟩)
      (fun fin s' => match fin with | .done f => R (.ok f) s' | .again c' => c'.quiet = true ∧ codeAny (model prog w) A c' R s') (fun e s' => R (.error e) s') s := by
  show wpAny _ _ (do let old ← Builtin.List.listItems (.ref S); Builtin.List.listUpdate (.ref S) (fun _ => #[]); letGo old.toList.reverse; Builtin.List.listExtendWith (.ref S) (.ref z) .none) _ _ s
  refine wpAny_bind ?_
  unfold Builtin.List.listItems
  refine wpAny_bind (wpAny_seqItems hS rfl (wpAny_pure ?_))
  show wpAny _ _ (updateSeq S (fun _ => #[]) >>= fun _ => letGo (#[] : Array Value).toList.reverse >>= fun _ => Builtin.List.listExtendWith (.ref S) (.ref z) .none) _ _ s
  refine wpAny_bind (wpAny_updateSeq hS rfl ?_)
  have hS₂ := Heap.get?_update_self (Obj.mapSeq (fun _ => (#[] : Array Value))) hS rfl
  have oth : ∀ b o, b ≠ S → s.heap.get? b = some o → (s.heap.update S (Obj.mapSeq (fun _ => (#[] : Array Value)))).get? b = some o :=
    fun b o hb e => (Heap.get?_update_other _ _ (Ne.symm hb)).trans e
  refine wpAny_bind (wpAny_letGo ?_)
  have hZ2 : ZpAt (s.heap.update S (Obj.mapSeq (fun _ => (#[] : Array Value)))) z TI TO i1 i2 P1 P2 .none .none 0 :=
    ⟨oth _ _ O.sz.symm hZ.zz, oth _ _ O.sTI.symm hZ.ti, oth _ _ O.sTO.symm hZ.to, S1.stay hZ.p1 (fun o q => oth _ _ O.si1.symm q) (fun o q => oth _ _ O.sl1.symm q), S2.stay hZ.p2 (fun o q => oth _ _ O.si2.symm q) (fun o q => oth _ _ O.sl2.symm q)⟩
  refine lz_extend S1 S2 D hh hn hxs S O hlo .none _ hS₂ hZ2 fun h' tk acc c as hk hS' hl hG hacc => ?_
  exact hR h' tk acc c as (fun b o hb h2 h3 h4 h5 e => hk b o hb h2 h3 h4 h5 (oth b o hb e)) hS' hl hG hacc
theorem lz_call {E : Value → Shared → Prop} {Q : Value → Shared → Prop} (S1 : ItStep prog w i1 l1 P1 xs) (S2 : ItStep prog w i2 l2 P2 ys) (D : ZipApart z TI TO i1 i2 l1 l2) (hh : A.handled = none) {n : Nat} (hn : n ≤ sizeLine) (hxs : n = min xs.size ys.size)
    (hZ : ZpAt s.heap z TI TO i1 i2 P1 P2 .none .none 0) (b1 : i1 < z) (b2 : i2 < z) (c1 : l1 < s.heap.objs.size) (c2 : l2 < s.heap.objs.size)
    (hQ : ∀ h' tk acc c as, (∀ b o, b ≠ z → b ≠ TO → b ≠ i1 → b ≠ i2 → s.heap.get? b = some o → h'.get? b = some o) → h'.get? s.heap.objs.size = some { cls := .type "list", dict := none, data := .seq acc c, slots := #[] } → as.length = n → LzG xs ys s.heap.objs.size h' as →
      acc.toList = as.map Value.ref → Q (.ref s.heap.objs.size) { s with heap := h', toks := tk }) :
    wpAny (model prog w) A (call (.type "list") [.ref z]) Q E s := by
  refine callType_codes (Q₁ := fun obj s₁ => obj = .ref s.heap.objs.size ∧ s₁ = { s with heap := s.heap.push { cls := .type "list", data := .seq #[] } }) PySem.F.called_list (PySem.F.typeCall_list_1 _) PySem.F.entry_list_init
    (code_list_new _ ⟨rfl, rfl⟩) fun obj s₁ h₁ => ?_
  obtain ⟨rfl, rfl⟩ := h₁
  have hS : (s.heap.push { cls := .type "list", data := .seq #[] }).get? s.heap.objs.size = some { cls := .type "list", data := .seq #[] } := Heap.get?_push_size _ rfl
  have hz : z < s.heap.objs.size := Heap.lt_size hZ.zz
  have hTI : TI < s.heap.objs.size := Heap.lt_size hZ.ti
  have hTO : TO < s.heap.objs.size := Heap.lt_size hZ.to
  have h1 : i1 < s.heap.objs.size := Nat.lt_trans b1 hz
  have h2 : i2 < s.heap.objs.size := Nat.lt_trans b2 hz
  have pu : ∀ b o, s.heap.get? b = some o → (s.heap.push { cls := .type "list", data := .seq #[] }).get? b = some o := fun b o e => Heap.get?_push_of_some _ e
  have hZ2 : ZpAt (s.heap.push { cls := .type "list", data := .seq #[] }) z TI TO i1 i2 P1 P2 .none .none 0 :=
    ⟨pu _ _ hZ.zz, pu _ _ hZ.ti, pu _ _ hZ.to, S1.stay hZ.p1 (fun o q => pu _ _ q) (fun o q => pu _ _ q), S2.stay hZ.p2 (fun o q => pu _ _ q) (fun o q => pu _ _ q)⟩
  refine ⟨⟨_, hS, rfl⟩, PySem.F.args_list_init_2 _ _, lz_init (A := A.in1) S1 S2 D hh hn hxs _ ⟨Nat.ne_of_gt hz, Nat.ne_of_gt hTI, Nat.ne_of_gt hTO, Nat.ne_of_gt h1, Nat.ne_of_gt h2, Nat.ne_of_gt c1, Nat.ne_of_gt c2, b1, b2⟩ (fun c hc => ?_) hS hZ2 (fun h' tk acc c as hk hS' hl hG hacc => ?_)⟩
  · rcases hc with rfl | rfl | rfl | rfl | rfl
    · exact Nat.le_of_lt hz
    · exact Nat.le_of_lt hTO
    · exact Nat.le_of_lt h1
    · exact Nat.le_of_lt h2
    · exact Nat.le_refl _
  · exact ⟨rfl, hQ h' tk acc c as (fun b o h1 h2 h3 h4 e => hk b o (Nat.ne_of_lt (Heap.lt_size e)) h1 h2 h3 h4 (pu b o e)) hS' hl hG hacc⟩
end
/-! ### the rule -/
def putP : Hp → List Addr → List (V × V) → Hp
  | H, a :: as, p :: ps => putP (upd H a (.tup [p.1, p.2])) as ps
  | H, _, _ => H
theorem putP_off {b : Addr} : ∀ (as : List Addr) (ps : List (V × V)) (H : Hp), b ∉ as → putP H as ps b = H b
  | [], _, _, _ => rfl
  | _ :: _, [], _, _ => rfl
  | a :: as, p :: ps, H, h => by
    show putP (upd H a (.tup [p.1, p.2])) as ps b = H b
    rw [putP_off as ps _ (fun z => h (List.mem_cons_of_mem _ z)), upd_ne (fun z => h (by rw [z]; exact List.mem_cons_self))]
theorem putP_at : ∀ (as : List Addr) (ps : List (V × V)) (H : Hp), as.length = ps.length → as.Nodup → Paired (fun (t : Addr) (p : V × V) => putP H as ps t = some (.tup [p.1, p.2])) as ps
  | [], [], _, _, _ => .nil
  | [], _ :: _, _, h, _ => by cases h
  | _ :: _, [], _, h, _ => by cases h
  | a :: as, p :: ps, H, h, hn => by
    have hn' := List.nodup_cons.mp hn
    have ih := putP_at as ps (upd H a (.tup [p.1, p.2])) (Nat.succ.inj h) hn'.2
    refine .cons ?_ ih
    show putP (upd H a (.tup [p.1, p.2])) as ps a = some (.tup [p.1, p.2])
    rw [putP_off as ps _ hn'.1, upd_same]
end Snd

set_option maxHeartbeats 2000000
namespace Snd
open PySem PySem.Spec PyProof.Rows L2
def rLzip (K : PySem.W.Frag) : List V → Hp → VK → Prop := fun vs H Q => ∃ (a b : Addr) (xs ys : List V), vs = [.ref a, .ref b] ∧ SqT K H a xs ∧ SqT K H b ys ∧
  ∀ (H' : Hp) (p : Addr) (ts : List Addr), (∀ c o, H c = some o → H' c = some o) → H p = none → (∀ t ∈ ts, H t = none) → p ∉ ts → H' p = some (.lst (ts.map V.ref)) → Paired (fun (t : Addr) (q : V × V) => H' t = some (.tup [q.1, q.2])) ts (xs.zip ys) → (xs.zip ys).length ≤ sizeLine → (∀ c o, H' c = some o → (∀ o', H c ≠ some o') → c = p ∨ c ∈ ts) → Q (.ref p) H'
def tLzip (K : PySem.W.Frag) (ta : TA) : TE := fun σ H Q => ta σ H fun vs H1 => rLzip K vs H1 Q
section
variable {X : Cx} {e e2 : Expr} {ta : TA} {p p2 pos pos2 : Pos}
theorem lz_laid {pins : List (Addr × Obj)} {σ : L2.St} {H : Hp} {s : Shared} {h' : Heap} {tk : Nat} {ps : List (V × V)} {xs ys : Array Value} {acc : Array Value} {c : Nat} {as : List Addr} {S : Addr} (I : Inv X pins σ H s) (hz : ps.length ≤ sizeLine)
    (hp : ∀ (j : Nat) (q : V × V) (x y : Value), ps[j]? = some q → xs[j]? = some x → ys[j]? = some y → RelV q.1 x ∧ RelV q.2 y)
    (hS0 : s.heap.objs.size ≤ S) (hk : ∀ b o, s.heap.get? b = some o → h'.get? b = some o) (hS : h'.get? S = some { cls := .type "list", dict := none, data := .seq acc c, slots := #[] }) (hl : as.length = ps.length) (hG : LzG xs ys S h' as) (hacc : acc.toList = as.map Value.ref) :
    ∃ H' : Hp, (∀ b o, H b = some o → H' b = some o) ∧ H S = none ∧ (∀ t ∈ as, H t = none) ∧ S ∉ as ∧ H' S = some (.lst (as.map V.ref)) ∧ Paired (fun (t : Addr) (q : V × V) => H' t = some (.tup [q.1, q.2])) as ps ∧ (∀ c o, H' c = some o → (∀ o', H c ≠ some o') → c = S ∨ c ∈ as) ∧ Inv X pins σ H' { s with heap := h', toks := tk } := by
  have hSn : S ∉ as := fun z => Nat.lt_irrefl _ (hG.above _ z)
  have nd : as.Nodup := List.Pairwise.imp (fun {a b} (h : a < b) => Nat.ne_of_lt h) hG.rise
  have new : ∀ t ∈ as, H t = none := fun t ht => I.hok.fresh (Nat.le_trans hS0 (Nat.le_of_lt (hG.above t ht)))
  have newS : H S = none := I.hok.fresh hS0
  have atP := putP_at as ps (upd H S (.lst (as.map V.ref))) hl nd
  have off : ∀ b, b ∉ as → b ≠ S → putP (upd H S (.lst (as.map V.ref))) as ps b = H b := fun b h1 h2 => by rw [putP_off as ps _ h1, upd_ne h2]
  have low : ∀ b o, s.heap.get? b = some o → b ∉ as ∧ b ≠ S := fun b o e => ⟨fun z => absurd (Heap.lt_size e) (Nat.not_lt.mpr (Nat.le_trans hS0 (Nat.le_of_lt (hG.above b z)))), Nat.ne_of_lt (Nat.lt_of_lt_of_le (Heap.lt_size e) hS0)⟩
  have kp : ∀ b u, H b = some u → (putP (upd H S (.lst (as.map V.ref))) as ps) b = some u := fun b u e => by
    rw [off b (fun z => by rw [new b z] at e; cases e) (fun z => by rw [z, newS] at e; cases e)]
    exact e
  have eS : putP (upd H S (.lst (as.map V.ref))) as ps S = some (.lst (as.map V.ref)) := by rw [putP_off as ps _ hSn, upd_same]
  refine ⟨putP (upd H S (.lst (as.map V.ref))) as ps, kp, newS, new, hSn, eS, atP, fun b o e n => ?_, ?_⟩
  · by_cases h1 : b ∈ as
    · exact .inr h1
    · by_cases h2 : b = S
      · exact .inl h2
      · rw [off b h1 h2] at e; exact absurd e (n o)
  refine I.call' (ch := []) rfl ⟨fun b o q _ _ _ => hk b o q, fun b o q _ _ _ => ⟨o.slots, hk b o q⟩, fun b o q n _ => ?_, fun b o q _ => ⟨o, hk b o q⟩, fun b xs q => kp b _ q, fun b o u q => kp b _ q, fun b ps q => ⟨#[], by rw [kp b _ q]; simp⟩⟩ (fun b u q => ?_) I.bare fun b z => by simp at z
  · obtain ⟨z1, z2⟩ := low b o q
    rw [off b z1 z2]
    exact n
  · by_cases hb : b ∈ as
    · obtain ⟨j, pk, e1, e2, e3⟩ := LiI.paired_ix atP hb
      rw [e3] at q
      cases q
      obtain ⟨x, y, f1, f2, f3⟩ := hG.pairs j b e1
      obtain ⟨r1, r2⟩ := hp j pk x y e2 f1 f2
      exact ⟨by show 2 ≤ sizeLine; decide, [x, y], .cons r1 (.cons r2 .nil), ⟨_, f3, rfl, _, rfl⟩⟩
    · by_cases hb2 : b = S
      · rw [hb2] at q ⊢
        rw [eS] at q
        cases q
        refine ⟨by rw [List.length_map]; omega, acc.toList, c, by rw [hacc]; exact LiI.vals_refs as, ?_⟩
        rw [Array.toArray_toList]
        exact hS
      · rw [off b hb hb2] at q
        exact (I.hok b u q).stay (fun d v _ y => hk d v y) (fun d y => kp d _ y) fun d xs y => kp d _ y
/-- list(zip(e, e2)) -/
theorem pe_lzip (hc : X.calm = true) (ha : PA X [e, e2] ta) (hg : Gl X "list") (hm : X.mg "list" = none) (hv : bootBuiltins "list" = some (.type "list")) (hgz : Gl X "zip") (hmz : X.mg "zip" = none)
    (hs : starEach [.Call (.Name "zip" p2) [e, e2] [] pos2] X.env = (false, eval (.Call (.Name "zip" p2) [e, e2] [] pos2) X.env) :: starEach [] X.env := by rfl)
    (hs2 : starEach [e, e2] X.env = (false, eval e X.env) :: starEach [e2] X.env := by rfl) (hpl : (backTo pos2 (starEach [e2] X.env)).any (·.1) = false := by rfl) :
    PE X (.Call (.Name "list" p) [.Call (.Name "zip" p2) [e, e2] [] pos2] [] pos) (tLzip X.K ta) := by
  refine ⟨fun pins s σ H Q I hq => ?_⟩
  refine wpAny_Call_Name_kw (ld_blt I hg hm hv ?_)
  refine PyProof.Rows.callWith_type1 ?_ hs rfl
  rw [hs]
  show wpAny _ _ (spliced ((false, eval (.Call (.Name "zip" p2) [e, e2] [] pos2) X.env) :: backTo pos (starEach [] X.env))) _ _ s
  refine Calls.spliced_cons ?_
  refine Call_ (ld_blt I hgz hmz PyProof.Rows.boot_zip (PyProof.Rows.callWith_type1 (thn (ha.run pos2 pins s σ H _ I hq) fun us s1 ⟨vs, H1, I1, r1, q1⟩ => ?_) hs2 hpl))
  obtain ⟨a, b, xs, ys, rfl, qx, qy, q⟩ := q1
  cases r1 with
  | cons r rr =>
    cases rr with
    | cons r' rr =>
      cases rr; cases r; cases r'
      obtain ⟨its, rv, p1, hz1⟩ := I1.tuple qx
      obtain ⟨its2, rv2, p2', _⟩ := I1.tuple qy
      have t1 : s1.heap.IsTuple a its.toArray := p1
      have t2 : s1.heap.IsTuple b its2.toArray := p2'
      obtain ⟨o1, ho1, _⟩ := id t1
      obtain ⟨o2, ho2, _⟩ := id t2
      have la := Heap.lt_size ho1
      have lb := Heap.lt_size ho2
      refine RZ.call_zipT t1 t2 fun g zz ti to h1 h2 hsz hk => ?_
      refine Calls.spliced_nil ?_
      have hZ : ZpAt g (s1.heap.objs.size + 4) (s1.heap.objs.size + 2) (s1.heap.objs.size + 3) s1.heap.objs.size (s1.heap.objs.size + 1) (fun k h => h.IsTupleIter s1.heap.objs.size a k ∧ h.IsTuple a its.toArray) (fun k h => h.IsTupleIter (s1.heap.objs.size + 1) b k ∧ h.IsTuple b its2.toArray) .none .none 0 :=
        ⟨zz, ti, to, ⟨h1, t1.at fun o e => hk _ o e⟩, ⟨h2, t2.at fun o e => hk _ o e⟩⟩
      have hxs : (xs.zip ys).length = min its.toArray.size its2.toArray.size := by
        rw [List.length_zip, rv.length, rv2.length]; simp
      have hzl : (xs.zip ys).length ≤ sizeLine := by rw [List.length_zip]; exact Nat.le_trans (Nat.min_le_left _ _) hz1
      have la' : a < s1.heap.objs.size := la
      have lb' : b < s1.heap.objs.size := lb
      refine lz_call (s := { s1 with heap := g }) (itr_tuple (Nat.ne_of_lt la)) (itr_tuple (Nat.ne_of_lt (Nat.lt_succ_of_lt lb))) (PySem.W.ktu_apart s1.heap.objs.size a b la lb) (I1.ok.hd hc) hzl hxs hZ (Nat.lt_add_of_pos_right (by decide)) (Nat.add_lt_add_left (by decide) _) (Heap.lt_size (hk _ _ ho1)) (Heap.lt_size (hk _ _ ho2)) fun h' tk acc c as hk2 hS hl hG hacc => ?_
      have nz : ∀ c o, s1.heap.get? c = some o → c < s1.heap.objs.size := fun c o e => Heap.lt_size e
      have hkk : ∀ c o, s1.heap.get? c = some o → h'.get? c = some o := fun c o e => by
        have hc := nz c o e
        exact hk2 c o (Nat.ne_of_lt (Nat.lt_of_lt_of_le hc (Nat.le_add_right _ _))) (Nat.ne_of_lt (Nat.lt_of_lt_of_le hc (Nat.le_add_right _ _))) (Nat.ne_of_lt hc) (Nat.ne_of_lt (Nat.lt_succ_of_lt hc)) (hk c o e)
      obtain ⟨H', k1, k2, k3, k4, k5, k6, k7, J⟩ := lz_laid (tk := tk) (S := g.objs.size) (ps := xs.zip ys) I1 hzl (fun j q x y hq hx hy => by
        rw [List.getElem?_zip_eq_some] at hq
        obtain ⟨u, e1, r1⟩ := rv.get hq.1
        obtain ⟨v, e2, r2⟩ := rv2.get hq.2
        have hx' : its[j]? = some x := by simpa using hx
        have hy' : its2[j]? = some y := by simpa using hy
        rw [hx'] at e1; rw [hy'] at e2
        cases e1; cases e2
        exact ⟨r1, r2⟩) (by rw [hsz]; exact Nat.le_add_right _ _) hkk hS hl hG hacc
      exact ⟨.ref _, H', J, rfl, q H' _ as k1 k2 k3 k4 k5 k6 hzl k7⟩
end
end Snd

namespace Snd
open PySem PySem.Spec PyProof.Rows L2
variable {X : Cx} {C : Ir.Calls}
/-! ### list(zip(a, b)) -/
theorem zip_rds {ρ : Rho} {K : PySem.W.Frag} {H' : Hp} : ∀ {xs ys : List Ir.D} {vs ws : List V} {ts : List Addr}, RDs ρ K H' xs vs → RDs ρ K H' ys ws → Paired (fun (t : Addr) (q : V × V) => H' t = some (.tup [q.1, q.2])) ts (vs.zip ws) → (∀ t ∈ ts, ¬ ρ.own t) → RDs ρ K H' (Ir.zipL xs ys) (ts.map V.ref)
  | [], _, _, _, _, .nil, _, .nil, _ => .nil
  | _ :: _, [], _, _, _, .cons _ _, .nil, .nil, _ => .nil
  | x :: xs, y :: ys, _, _, _, .cons h r, .cons h' r', .cons hp rp, no => by
    show RDs ρ K H' (.tup [x, y] :: Ir.zipL xs ys) _
    refine .cons (.tup (.inl ⟨.inl hp, no _ List.mem_cons_self⟩) (by show 2 ≤ sizeLine; decide) (.cons h (.cons h' .nil))) (zip_rds r r' rp fun t ht => no t (List.mem_cons_of_mem _ ht))
theorem sn_lzip {e f : Expr} {i j : Ir.Ex} {p p2 pos pos2 : Pos} (hcalm : X.calm = true) (h : SE X C e i) (h' : SE X C f j) (hm : X.mg (Str.ofString "list") = none) (hv : bootBuiltins (Str.ofString "list") = some (.type "list")) (hmz : X.mg (Str.ofString "zip") = none) (hg : Gl X (Str.ofString "list") := by rfl) (hgz : Gl X (Str.ofString "zip") := by rfl)
    (hs : starEach [.Call (.Name (Str.ofString "zip") p2) [e, f] [] pos2] X.env = (false, eval (.Call (.Name (Str.ofString "zip") p2) [e, f] [] pos2) X.env) :: starEach [] X.env := by rfl)
    (hs2 : starEach [e, f] X.env = (false, eval e X.env) :: starEach [f] X.env := by rfl) (hs3 : starEach [f] X.env = (false, eval f X.env) :: starEach [] X.env := by rfl) (hpl : (backTo pos2 (starEach [f] X.env)).any (·.1) = false := by rfl) :
    SN X C (.Call (.Name (Str.ofString "list") p) [.Call (.Name (Str.ofString "zip") p2) [e, f] [] pos2] [] pos) (.blt .lzip [i, j]) := by
  refine pe_imp (pe_lzip hcalm (pa_cons h (pa_cons h' pa_nil hs3) hs2) hg hm hv hgz hmz hs hs2 hpl) fun σ H Q ⟨ρ, env, st, xs, st', rs, re, ev, k⟩ => ?_
  simp only [Ir.eval, Ir.evals] at ev
  obtain ⟨vs, s1, e1, ev⟩ := bok ev
  obtain ⟨v, s2, e2, e1⟩ := bok e1
  obtain ⟨us, s3, e3, e1⟩ := bok e1
  cases e1
  obtain ⟨v', s4, e4, e3⟩ := bok e3
  simp only [Ir.Res.bind_ok] at e3
  cases e3
  obtain ⟨rfl, ds, r, h1, h2, h3⟩ := not_len (by decide) ev
  cases h3
  refine ⟨ρ, env, st, v, _, rs, re, e2, fun ρ1 H1 V1 x1 rs1 rv => ?_⟩
  refine ⟨ρ1, env, _, v', _, rs1, re.mono x1, e4, fun ρ2 H2 V2 x2 rs2 rv' => ?_⟩
  have vd := VDs.derefs rs2 (.cons (rv.mono x2) (.cons rv' .nil)) h1
  simp only [Ir.D.blt] at h2
  unfold Ir.D.bLzip at h2
  split at h2
  · rename_i as bs
    cases h2
    cases vd with
    | cons vd1 t =>
      cases t with
      | cons vd2 t =>
        cases t
        obtain ⟨a, ys, rfl, ta, za, ra⟩ := RD.tup_inv vd1
        obtain ⟨b, ws, rfl, tb, zb, rb⟩ := RD.tup_inv vd2
        refine ⟨a, b, ys, ws, rfl, ta.sq, tb.sq, fun H' q ts k1 k2 k3 k4 k5 k6 hz k7 => ?_⟩
        have w1 : Ext ρ2 H2 (ρ2.keep q) (upd H2 q (.lst (ts.map V.ref))) := .keep rs2 k2 _
        have r1 := rs2.keep k2 (.lst (ts.map V.ref))
        have up : ∀ c o, upd H2 q (.lst (ts.map V.ref)) c = some o → H' c = some o := fun c o hc => by
          by_cases e : c = q
          · subst e; rw [upd_same] at hc; rw [k5]; exact hc
          · rw [upd_ne e] at hc; exact k1 c o hc
        have w2 : Ext (ρ2.keep q) (upd H2 q (.lst (ts.map V.ref))) (ρ2.keep q) H' := ⟨fun c o hc _ => up c o hc, fun _ z => .inl z, Nat.le_refl _, fun _ _ z _ => z, fun _ z => z, fun _ _ z => z, fun c hc => by
          cases hh : upd H2 q (.lst (ts.map V.ref)) c with
          | none => rfl
          | some o => rw [up c o hh] at hc; cases hc⟩
        have r2 : RS (ρ2.keep q) X.K st' H' := r1.ext w2 fun c hc => by
          obtain ⟨n, cc, _, _, hrc⟩ := r1.mem hc
          obtain ⟨o, ho, _⟩ := hrc.some
          rw [up c o ho, ho]
        have w := w1.trans w2
        have hlen : (ts.map V.ref).length ≤ sizeLine := by rw [List.length_map, Paired.length k6]; exact hz
        refine k (ρ2.keep q) H' q (ts.map V.ref) (x1.trans (x2.trans w)) r2 (x1.al q (x2.al q k2)) List.mem_cons_self k5 hlen (zip_rds (ra.mono w) (rb.mono w) k6 fun t ht z => ?_)
        have ht0 := k3 t ht
        rcases z with z | z
        · exact rs2.fresh ht0 (.inl z)
        · rcases List.mem_cons.mp z with z | z
          · exact k4 (by rw [← z]; exact ht)
          · exact rs2.fresh ht0 (.inr z)
  · cases h2
theorem is_lzip {is : List Ir.Ex} : ∀ env st v st', Ir.eval C (.blt .lzip is) env st = .ok v st' → ∃ xs, v = .d (.lst xs) := fun env st v st' ev => by
  simp only [Ir.eval] at ev
  obtain ⟨vs, s1, e1, ev⟩ := bok ev
  obtain ⟨_, ds, r, _, h2, rfl⟩ := not_len (by decide) ev
  simp only [Ir.D.blt] at h2
  unfold Ir.D.bLzip at h2
  split at h2
  · cases h2; exact ⟨_, rfl⟩
  · cases h2
end Snd

namespace Snd
open PySem PySem.Spec PyProof.Rows L2
variable {X : Cx} {C : Ir.Calls}
/-! ### a dict display -/
def flatP : List (V × V) → List V
  | [] => []
  | p :: ps => p.1 :: p.2 :: flatP ps
structure SPs (X : Cx) (C : Ir.Calls) (pos : Pos) (keys : List (Option Expr)) (values : List Expr) (is : List Ir.Ex) : Prop where
  ex : ∃ trs, PPs X pos keys values trs ∧ keys.all (·.isSome) = true ∧ keys.length = values.length ∧
    ∀ σ H ρ env st vs st' (Q : List (V × V) → Hp → Prop), RS ρ X.K st H → REnv ρ X.K H env σ → Ir.evals C is env st = .ok vs st' →
      (∀ ρ' H' ps, Ext ρ H ρ' H' → RS ρ' X.K st' H' → RVs ρ' X.K H' vs (flatP ps) → ps.length = keys.length → Q ps H') → tPairs trs σ H Q
theorem sps_nil {pos : Pos} : SPs X C pos [] [] [] := ⟨[], pps_nil, rfl, rfl, fun σ H ρ env st vs st' Q rs re ev k => by
  simp only [Ir.evals] at ev
  cases ev
  exact k ρ H [] (.refl _ _) rs .nil rfl⟩
theorem sps_cons {pos : Pos} {k v : Expr} {ks : List (Option Expr)} {vs : List Expr} {ik iv : Ir.Ex} {is : List Ir.Ex} (hk : SE X C k ik) (hv : SE X C v iv) (hr : SPs X C pos ks vs is) : SPs X C pos (some k :: ks) (v :: vs) (ik :: iv :: is) := by
  obtain ⟨trs, h1, h2, h3, h4⟩ := hr
  refine ⟨_, pps_cons hk hv h1, by simpa using h2, by simp [h3], fun σ H ρ env st ws st' Q rs re ev kk => ?_⟩
  simp only [Ir.evals] at ev
  obtain ⟨x, s1, e1, ev⟩ := bok ev
  obtain ⟨xs, s2, e2, ev⟩ := bok ev
  cases ev
  obtain ⟨y, s3, e3, e2⟩ := bok e2
  obtain ⟨ys, s4, e4, e2⟩ := bok e2
  cases e2
  refine ⟨ρ, env, st, x, s1, rs, re, e1, fun ρ1 H1 X1 x1 rs1 rx => ⟨ρ1, env, s1, y, s3, rs1, re.mono x1, e3, fun ρ2 H2 Y1 x2 rs2 ry => ?_⟩⟩
  refine h4 σ H2 ρ2 env s3 ys _ _ rs2 ((re.mono x1).mono x2) e4 fun ρ3 H3 ps x3 rs3 rr hl => ?_
  exact kk ρ3 H3 ((X1, Y1) :: ps) (x1.trans (x2.trans x3)) rs3 (.cons (rx.mono (x2.trans x3)) (.cons (ry.mono x3) rr)) (by simp [hl])
theorem merge_flat {ρ : Rho} {K : PySem.W.Frag} {H : Hp} : ∀ {ps : List (V × V)} {xs : List Ir.D} {acc kvs : List (Ir.D × Ir.D)} {ks : List (Key × V)}, RDs ρ K H xs (flatP ps) → Ir.mergeF acc xs = some kvs → RKs ρ K H acc ks →
    ∃ prs : List (Key × V), ps = prs.map (fun kv => (kV kv.1, kv.2)) ∧ RKs ρ K H kvs (mergeK ks prs)
  | [], _, acc, kvs, ks, .nil, e, r => by
    simp only [Ir.mergeF] at e
    cases e
    exact ⟨[], rfl, r⟩
  | p :: ps, _, acc, kvs, ks, .cons h (.cons h' t), e, r => by
    simp only [Ir.mergeF] at e
    split at e
    · rename_i hk
      obtain ⟨k', h1, h2⟩ := RK.kv h hk
      obtain ⟨prs, rfl, h3⟩ := merge_flat t e (r.put h1 h')
      refine ⟨(k', p.2) :: prs, ?_, h3⟩
      simp only [List.map_cons]
      rw [← h2]
    · cases e
theorem se_disp {pos : Pos} {keys : List (Option Expr)} {values : List Expr} {is : List Ir.Ex} (h : SPs X C pos keys values is) (h0 : keys ≠ [] := by simp) (h15 : keys.length ≤ 15 := by decide) : SE X C (.Dict keys values pos) (.newDd is) := by
  obtain ⟨trs, h1, h2, h3, h4⟩ := h
  refine pe_imp (pe_disp h1 h2 h3 h0 h15) fun σ H Q ⟨ρ, env, st, v, st', rs, re, ev, k⟩ p hp => ?_
  simp only [Ir.eval] at ev
  obtain ⟨us, s1, e1, ev⟩ := bok ev
  obtain ⟨ds, e2, ev⟩ := ook ev
  split at ev
  · rename_i kvs hm
    cases ev
    have w1 : Ext ρ H (ρ.keep p) (upd H p (.dK [])) := .keep rs hp _
    refine h4 σ _ (ρ.keep p) env st us s1 _ (rs.keep hp _) (re.mono w1) e1 fun ρ2 H2 ps x2 rs2 rv hl => ?_
    have hres : p ∈ ρ2.res := x2.rs p List.mem_cons_self
    have hp2 : H2 p = some (.dK []) := x2.fr p _ upd_same (fun z => rs.fresh hp (.inl z))
    obtain ⟨prs, rfl, hk⟩ := merge_flat (rv.ds e2) hm .nil
    have hpl : prs.length ≤ 15 := by rw [List.length_map] at hl; omega
    have hz : (mergeK [] prs).length ≤ sizeLine := by
      refine Nat.le_trans (length_mergeK prs []) ?_
      simp only [List.length_nil, Nat.zero_add]
      exact Nat.le_trans hpl (by decide)
    refine ⟨hp2, prs, rfl, hpl, ?_⟩
    have x : Ext ρ H ρ2 H2 := w1.trans x2
    have hn : p ∉ ρ.res := fun q => rs.fresh hp (.inr q)
    have sub : ∀ b, Rho.own ⟨ρ2.ix ++ [some p], ρ.res⟩ b → ρ2.own b := fun b q => by
      rcases q with q | q
      · rcases List.mem_append.mp q with q | q
        · exact .inl q
        · simp at q; subst q; exact .inr hres
      · exact .inr (x.rs b q)
    have xa : Ext ρ H ρ2 (upd H2 p (.dK (mergeK [] prs))) := x.aside hp
    have ra : RS ρ2 X.K s1 (upd H2 p (.dK (mergeK [] prs))) := rs2.aside hres
    refine k ⟨ρ2.ix ++ [some p], ρ.res⟩ _ _ (xa.cellOf hp hn) (ra.cellOf x.rs hres hn ⟨_, upd_same, hz, (hk.aside hres).sub sub⟩) ⟨by simp [rs2.len], p, rfl, fun b hb => ?_⟩
    have hb : (ρ2.ix ++ [some p])[s1.length]? = some (some b) := hb
    rw [rs2.len, List.getElem?_append_right (Nat.le_refl _)] at hb
    simp at hb
    exact hb.symm
  · cases ev
/-! ### a list and a list -/
theorem sn_add {a b : Expr} {ia ib : Ir.Ex} {pos : Pos} (ha : SE X C a ia) (hb : SE X C b ib) : SN X C (.BinOp a .Add b pos) (.bin .add ia ib) := by
  refine pe_imp (pe_op op_cat ha hb) fun σ H Q ⟨ρ, env, st, xs, st', rs, re, ev, k⟩ => ?_
  simp only [Ir.eval] at ev
  obtain ⟨x, s1, e1, ev⟩ := bok ev
  obtain ⟨y, s2, e2, ev⟩ := bok ev
  obtain ⟨p, e3, ev⟩ := ook ev
  obtain ⟨q, e4, ev⟩ := ook ev
  obtain ⟨d, e5, ev⟩ := ook ev
  cases ev
  refine ⟨ρ, env, st, x, s1, rs, re, e1, fun ρ1 H1 X1 x1 rs1 rx => ⟨ρ1, env, s1, y, st', rs1, re.mono x1, e2, fun ρ2 H2 Y x2 rs2 ry => ?_⟩⟩
  have vp := VD.deref rs2 (rx.mono x2) e3
  have vq := VD.deref rs2 ry e4
  cases p <;> cases q <;> simp only [Ir.D.bin, reduceCtorEq] at e5
  · cases e5
  · split at e5
    · cases e5
    · cases e5
  · split at e5
    · cases e5
    · cases e5
  · rename_i xs1 ys1
    split at e5
    · rename_i hl
      cases e5
      obtain ⟨a, as, rfl, h1, za, ra⟩ := vp
      obtain ⟨b, bs, rfl, h2, zb, rb⟩ := vq
      have hl2 : as.length + bs.length ≤ sizeLine := by rw [← ra.length, ← rb.length, ← lim_eq]; exact hl
      exact ⟨a, b, as, bs, rfl, rfl, h1, h2, hl2, fun p hp => sn_fin (x1.trans x2) rs2 (ra.append rb) (by rw [List.length_append]; exact hl2) hp k⟩
    · cases e5
/-! ### pop(0) -/
theorem mthOk_pop0 {o : Ir.Val} {st : Ir.Store} (h : Ir.mthOk .pop0 o st = true) : ∃ n xs, o = .ref n ∧ st[n]? = some (.lst xs) := by
  cases o with
  | d x => simp [Ir.mthOk] at h
  | ref n =>
    cases hc : st[n]? with
    | none => simp [Ir.mthOk, hc] at h
    | some c =>
      cases c with
      | lst xs => exact ⟨n, xs, rfl, hc⟩
      | dic kvs => simp [Ir.mthOk, hc] at h
      | dead => simp [Ir.mthOk, hc] at h
theorem se_pop0 {o : Expr} {io : Ir.Ex} {j : Nat} {apos cpos p0 : Pos} {kk} (ho : SE X C o io) (hbase : attributeBase o (Str.ofString "pop") X.env (eval o X.env) = eval o X.env := by rfl)
    (hfew : ((backTo cpos (starEach [.Constant (.int 0) kk p0] X.env)).all (fun x => !x.1) && (backToKw cpos (keywordEach [] X.env)).all (fun x => x.1.isSome) && decide (([.Constant (.int 0) kk p0] : List Expr).length + ([] : List Keyword).length + (if ([] : List Keyword).isEmpty then 0 else 1) < 30)) = true := by rfl)
    (hline : (apos.endLine == cpos.line) = true := by rfl) (hs : starEach [.Constant (.int 0) kk p0] X.env = (false, eval (.Constant (.int 0) kk p0) X.env) :: starEach [] X.env := by rfl) (hpl : (backTo cpos (starEach [] X.env)).any (·.1) = false := by rfl) :
    SE X C (.Call (.Attribute o (Str.ofString "pop") apos) [.Constant (.int 0) kk p0] [] cpos) (.mth .pop0 io []) := by
  refine pe_imp (pe_bm PySem.F.plainAttrs_list PySem.F.slot_list_pop PySem.F.type_list_pop mt_popAt ho (pa_cons pe_int pa_nil hs) hbase hfew hline hs hpl) fun σ H Q ⟨ρ, env, st, v, st', rs, re, ev, k⟩ => ?_
  obtain ⟨x, s1, vs, s2, e1, hk, e2, ev⟩ := mth_ev ev
  obtain ⟨n, ys, rfl, hn⟩ := mthOk_pop0 hk
  simp only [Ir.evals] at e2
  cases e2
  refine ⟨ρ, env, st, _, _, rs, re, e1, fun ρ1 H1 X1 x1 rs1 rx => ⟨tyV_lst rs1 rx hn, ?_⟩⟩
  have w0 : Ir.mPop0 n s1 [] = .ok v st' := ev
  clear ev
  simp only [Ir.mPop0] at w0
  split at w0
  · rename_i y ys hx
    cases w0
    obtain ⟨a, rfl, h1, zs, h2, h3, h4⟩ := RV.cell rs1 rx hx (by simp)
    cases h4 with
    | cons r0 rr =>
      rename_i w ws
      refine ⟨a, w :: ws, 0, 0, w, rfl, rfl, h2, by decide, by decide, by simp [seqIndex?], rfl, ?_⟩
      have wr : Ext ρ1 H1 ρ1 (upd H1 a (.lst ws)) := .write rs1 h1 _
      have hwz : ws.length ≤ sizeLine := by simp at h3; omega
      exact k ρ1 _ _ (x1.trans wr) (rs1.write h1 ⟨ws, upd_same, hwz, rr.mono wr⟩) (r0.mono wr)
  · cases w0
end Snd

namespace Snd
open PySem PySem.Spec PyProof.Rows L2
variable {X : Cx} {C : Ir.Calls}
/-! ### int(b), str(i) -/
theorem blt_int : CallR X (.type "int") (rB X.K .int) := by
  refine callR_imp call_int1 fun xs H Q ⟨ρ, st, vs, v, st', rs, rv, ev, k⟩ => ?_
  obtain ⟨rfl, ds, r, h1, h2, rfl⟩ := not_len (by decide) ev
  have vd := VDs.derefs rs rv h1
  simp only [Ir.D.blt] at h2
  unfold Ir.D.bInt at h2
  split at h2
  · cases h2
    cases vd with
    | cons vd t =>
      cases t
      exact .inl ⟨_, by rw [RD.int_inv vd], k ρ H _ (.refl _ _) rs (.int _)⟩
  · cases h2
    cases vd with
    | cons vd t =>
      cases t
      exact .inr ⟨_, by rw [RD.bool_inv vd], k ρ H _ (.refl _ _) rs (.int _)⟩
  · cases h2
theorem blt_str : CallR X (.type "str") (rB X.K .str) := by
  refine callR_imp (callR_or call_str_int SkE.call_str_str) fun xs H Q ⟨ρ, st, vs, v, st', rs, rv, ev, k⟩ => ?_
  obtain ⟨rfl, ds, r, h1, h2, rfl⟩ := not_len (by decide) ev
  have vd := VDs.derefs rs rv h1
  simp only [Ir.D.blt] at h2
  unfold Ir.D.bStr at h2
  split at h2
  · split at h2
    · rename_i hl
      cases h2
      cases vd with
      | cons vd t =>
        cases t
        exact .inl ⟨_, by rw [RD.int_inv vd], hl, k ρ H _ (.refl _ _) rs (.str _)⟩
    · cases h2
  · split at h2
    · cases h2
      cases vd with
      | cons vd t =>
        cases t
        exact .inr ⟨_, by rw [RD.str_inv vd], k ρ H _ (.refl _ _) rs (.str _)⟩
    · cases h2
  · cases h2
/-! ### join -/
theorem strs_ok {ρ : Rho} {K : PySem.W.Frag} {H : Hp} : ∀ {xs : List Ir.D} {ys : List V} {bs : List String}, RDs ρ K H xs ys → Ir.D.strs xs = some bs → ys = (bs.map Str.ofString).map V.str
  | [], _, _, .nil, e => by simp [Ir.D.strs] at e; subst e; rfl
  | x :: xs, _, _, .cons h r, e => by
    cases x <;> simp [Ir.D.strs] at e
    obtain ⟨bs, e1, rfl⟩ := e
    rw [RD.str_inv h, strs_ok r e1]; rfl
theorem join_ok (a : String) : ∀ ys : List String, Txt.join (Str.ofString a) (ys.map Str.ofString) = Str.ofString (Ir.joinS a ys) := fun ys => by
  have key : ∀ ys : List String, Str.join (Str.ofString a) (ys.map Str.ofString) = Str.ofString (Ir.joinS a ys) := by
    intro ys
    induction ys with
    | nil => rfl
    | cons x r ih =>
      cases r with
      | nil => rfl
      | cons y r =>
        show Str.ofString x ++ Str.ofString a ++ Str.join (Str.ofString a) ((y :: r).map Str.ofString) = Str.ofString (x ++ a ++ Ir.joinS a (y :: r))
        rw [ih, ofString_app, ofString_app]
  exact (PySem.StrLaws.glued_eq_join _ _).trans (key ys)
theorem sum_len : ∀ ys : List String, ((ys.map Str.ofString).map (·.length)).sum = (ys.map (·.length)).sum
  | [] => rfl
  | y :: ys => by simp only [List.map_cons, List.sum_cons, ofString_len, sum_len ys]
theorem se_join {o e : Expr} {io ie : Ir.Ex} {apos pos : Pos} (ho : SE X C o io) (he : SE X C e ie) (hs : starEach [e] X.env = [(false, eval e X.env)] := by rfl) (hbase : attributeBase o (Str.ofString "join") X.env (eval o X.env) = eval o X.env := by rfl) (hline : (apos.endLine == pos.line) = true := by rfl) :
    SE X C (.Call (.Attribute o (Str.ofString "join") apos) [e] [] pos) (.mth .join io [ie]) := by
  refine pe_imp (pe_join ho he hs hbase hline) fun σ H Q ⟨ρ, env, st, v, st', rs, re, ev, k⟩ => ?_
  obtain ⟨x, s1, vs, s2, e1, hk, e2, ev⟩ := mth_ev ev
  have hx : ∃ a, x = .d (.str a) := by
    cases x with
    | ref n => simp [Ir.mthOk] at hk
    | d y => cases y <;> simp [Ir.mthOk] at hk; exact ⟨_, rfl⟩
  obtain ⟨a, rfl⟩ := hx
  simp only [Ir.evals] at e2
  obtain ⟨y, s3, e2, e3⟩ := bok e2
  simp only [Ir.Res.bind_ok] at e3
  cases e3
  refine ⟨ρ, env, st, _, s1, rs, re, e1, fun ρ1 H1 X1 x1 rs1 rx => ⟨⟨_, RD.str_inv rx⟩, ρ1, env, s1, y, _, rs1, re.mono x1, e2, fun ρ2 H2 Y x2 rs2 ry => ?_⟩⟩
  have w0 : Ir.mJoin s2 (.str a) [y] = .ok v st' := ev
  clear ev
  unfold Ir.mJoin at w0
  split at w0
  · rename_i a' xs h1 h2
    cases h1
    cases h2
    split at w0
    · rename_i ys hy
      split at w0
      · rename_i hl
        cases w0
        cases ry with
        | lst g1 g2 g3 g4 =>
          have e := strs_ok g4 hy
          subst e
          refine ⟨_, _, ys.map Str.ofString, RD.str_inv rx, rfl, .inl (SqL.of g1), ?_, ?_⟩
          · rw [sum_len, List.length_map, ofString_len]; exact (Ir.LIM_eq ▸ hl)
          · rw [join_ok]; exact k ρ2 H2 _ (x1.trans x2) rs2 (.str _)
      · cases w0
    · cases w0
  · cases w0
/-! ### f-strings -/
structure SFs (X : Cx) (C : Ir.Calls) (es : List Expr) (is : List Ir.Ex) : Prop where
  ex : ∃ ts, PJ X es ts ∧ ∀ (acc : String) σ H ρ env st vs st' ds ys (Q : Str → Hp → Prop), RS ρ X.K st H → REnv ρ X.K H env σ → Ir.evals C is env st = .ok vs st' → Ir.asDs vs = some ds → Ir.D.strs ds = some ys → acc.length + (ys.map (·.length)).sum ≤ Ir.LIM →
    (∀ ρ' H', Ext ρ H ρ' H' → RS ρ' X.K st' H' → Q (Str.ofString (acc ++ Ir.joinS "" ys)) H') → tJs ts (Str.ofString acc) σ H Q
theorem joinS_cons (y : String) (ys : List String) : Ir.joinS "" (y :: ys) = y ++ Ir.joinS "" ys := by
  cases ys <;> simp [Ir.joinS]
theorem sfs_nil : SFs X C [] [] := ⟨[], .nil, fun acc σ H ρ env st vs st' ds ys Q rs re ev h1 h2 hl k => by
  simp only [Ir.evals] at ev
  cases ev
  simp [Ir.asDs] at h1
  subst h1
  simp [Ir.D.strs] at h2
  subst h2
  have := k ρ H (.refl _ _) rs
  simpa [Ir.joinS, tJs] using this⟩
theorem sfs_step {e : Expr} {i : Ir.Ex} {es : List Expr} {is : List Ir.Ex} {t : TE} (he : PE X e t) (hi : ∀ σ H ρ env st z st' Q, RS ρ X.K st H → REnv ρ X.K H env σ → Ir.eval C i env st = .ok (.d (.str z)) st' → (∀ ρ' H', Ext ρ H ρ' H' → RS ρ' X.K st' H' → Q (.str (Str.ofString z)) H') → t σ H Q) (h : SFs X C es is) : SFs X C (e :: es) (i :: is) := by
  obtain ⟨ts, h1, h2⟩ := h
  refine ⟨_, .cons he h1, fun acc σ H ρ env st vs st' ds ys Q rs re ev hd hy hl k => ?_⟩
  simp only [Ir.evals] at ev
  obtain ⟨x, s1, e1, ev⟩ := bok ev
  obtain ⟨xs, s2, e2, ev⟩ := bok ev
  cases ev
  cases x with
  | ref n => simp [Ir.asDs] at hd
  | d y =>
    simp only [Ir.asDs, Option.map_eq_some_iff] at hd
    obtain ⟨ds', hd', rfl⟩ := hd
    obtain ⟨z, rfl⟩ : ∃ z, y = .str z := by cases y <;> simp [Ir.D.strs] at hy; exact ⟨_, rfl⟩
    simp only [Ir.D.strs, Option.map_eq_some_iff] at hy
    obtain ⟨ys', hy', rfl⟩ := hy
    simp only [List.map_cons, List.sum_cons] at hl
    show t σ H _
    refine hi σ H ρ env st z s1 _ rs re e1 fun ρ1 H1 x1 rs1 => ⟨_, rfl, ?_, ?_⟩
    · rw [ofString_app, ofString_len, ← lim_eq, String.length_append]; omega
    · rw [ofString_app]
      refine h2 (acc ++ z) σ H1 ρ1 env s1 xs st' ds' ys' Q rs1 (re.mono x1) e2 hd' hy' (by rw [String.length_append]; omega) fun ρ2 H2 x2 rs2 => ?_
      have := k ρ2 H2 (x1.trans x2) rs2
      rw [joinS_cons] at this
      rw [String.append_assoc]
      exact this
theorem sfs_con {z : String} {j pos} {es : List Expr} {is : List Ir.Ex} (h : SFs X C es is) : SFs X C (.Constant (.str (Str.ofString z)) j pos :: es) (.con (.str z) :: is) :=
  sfs_step (t := _) pe_str (fun σ H ρ env st z' st' Q rs re ev k => by
    simp only [Ir.eval] at ev
    cases ev
    exact k ρ H (.refl _ _) rs) h
theorem sfs_fmt {e : Expr} {i : Ir.Ex} {pos : Pos} {es : List Expr} {is : List Ir.Ex} (he : SE X C e i) (h : SFs X C es is) : SFs X C (.FormattedValue e (-1) none pos :: es) (.blt .str [i] :: is) :=
  sfs_step (pe_fmt he) (fun σ H ρ env st z st' Q rs re ev k => by
    simp only [Ir.eval, Ir.evals] at ev
    obtain ⟨vs, s1, e1, ev⟩ := bok ev
    obtain ⟨v, s2, e2, e1⟩ := bok e1
    simp only [Ir.Res.bind_ok] at e1
    cases e1
    obtain ⟨rfl, ds, r, h1, h2, h3⟩ := not_len (by decide) ev
    cases h3
    refine ⟨ρ, env, st, v, _, rs, re, e2, fun ρ1 H1 V1 x1 rs1 rv => ?_⟩
    have vd := VDs.derefs rs1 (.cons rv .nil) h1
    simp only [Ir.D.blt] at h2
    unfold Ir.D.bStr at h2
    split at h2
    · split at h2
      · rename_i hl
        cases h2
        cases vd with
        | cons vd t =>
          cases t
          exact .inr ⟨_, RD.int_inv vd, hl, k ρ1 H1 x1 rs1⟩
      · cases h2
    · split at h2
      · rename_i hl
        cases h2
        cases vd with
        | cons vd t =>
          cases t
          exact .inl ⟨_, RD.str_inv vd, by rw [ofString_len, ← lim_eq]; exact hl, k ρ1 H1 x1 rs1⟩
      · cases h2
    · cases h2) h
theorem se_fs {es : List Expr} {v1 v2 : Expr} {is : List Ir.Ex} {pos : Pos} (h : SFs X C (v1 :: v2 :: es) is) : SE X C (.JoinedStr (v1 :: v2 :: es) pos) (.fs is) := by
  obtain ⟨ts, h1, h2⟩ := h
  refine pe_imp (pe_joined h1) fun σ H Q ⟨ρ, env, st, v, st', rs, re, ev, k⟩ => ?_
  simp only [Ir.eval] at ev
  obtain ⟨vs, s1, e1, ev⟩ := bok ev
  obtain ⟨ds, e2, ev⟩ := ook ev
  obtain ⟨ys, e3, ev⟩ := ook ev
  split at ev
  · rename_i hl
    cases ev
    have := h2 "" σ H ρ env st vs _ ds ys (fun out H1 => Q (.str out) H1) rs re e1 e2 e3 (by simpa using hl) fun ρ' H' x rs' => by
      have := k ρ' H' _ x rs' (.str _)
      simpa using this
    exact this
  · cases ev
end Snd

set_option maxHeartbeats 2000000
namespace Snd
open PySem PySem.Spec PyProof.Rows L2
open AutoSeq1 (wpAny_loadPart')
/-! enumerate(tuple) -/
theorem en_new (l : Addr) (items : Array Value) (n : Nat) (dct : Option Addr) (sl : Array (Option Value)) :
    Meets (Builtin.«enumerate.__new__» ⟨[.type "enumerate", .ref l], []⟩) (fun _ R s => s.heap.get? l = some { cls := .type "tuple", dict := dct, data := .seq items n, slots := sl } ∧
      R (.ok (.ret (.ref (s.heap.push { cls := .type "tuple_iterator", data := .fields #[.ref l, .int 0 0] }).objs.size)))
        { s with heap := (s.heap.push { cls := .type "tuple_iterator", data := .fields #[.ref l, .int 0 0] }).push { cls := .type "enumerate", data := .fields #[.none, .bool false, .ref s.heap.objs.size, rawInt 0, .none, .none] } }) :=
  .of_wp fun prog w A R s h => by
    obtain ⟨hp, g, d, tk, os⟩ := s; obtain ⟨hl, h⟩ := h
    have hsub := sub_enumerate
    have hL : Heap.IsTuple (Shared.heap ⟨hp, g, d, tk, os⟩) l items := ⟨_, hl, rfl, n, rfl⟩
    wp_walk using wpAny_loadPart' hl
    refine wpAny_stack_any fun st => wpAny_pure ?_
    split
    · rename_i c _ _ _ _ _
      cases (c == Value.type "enumerate")
      · wp_walk using wpAny_loadPart' hl, wpAny_pyIter_tuple hL
        exact ⟨_, rfl, h⟩
      · wp_walk using wpAny_loadPart' hl, wpAny_pyIter_tuple hL
        exact ⟨_, rfl, h⟩
    · wp_walk using wpAny_loadPart' hl, wpAny_pyIter_tuple hL
      exact ⟨_, rfl, h⟩
section
variable {prog : Program} {w : World} {A : Around} {E : Value → Shared → Prop} {s : Shared}
theorem en_call {l : Addr} {items : Array Value} {Q : Value → Shared → Prop} (hL : s.heap.IsTuple l items)
    (h : ∀ h', IsEnum h' (s.heap.objs.size + 1) s.heap.objs.size 0 .none → h'.IsTupleIter s.heap.objs.size l 0 → h'.objs.size = s.heap.objs.size + 2 →
      (∀ b o, s.heap.get? b = some o → h'.get? b = some o) → Q (.ref (s.heap.objs.size + 1)) { s with heap := h' }) :
    wpAny (model prog w) A (call (.type "enumerate") [.ref l]) Q E s := by
  obtain ⟨⟨c, dct, dt, sl⟩, hl, hc, n, hd⟩ := hL
  replace hc : c = .type "tuple" := hc
  replace hd : dt = .seq items n := hd
  subst hc hd
  refine callType_new F.called_enumerate (by decide) (F.typeCall_enumerate_1 _) (F.newCall_enumerate_1 _) (fun obj => F.args_object_init_2 obj _) F.entry_enumerate_new
    (en_new l items n dct sl) ⟨hl, ?_⟩
  have hz : (s.heap.push { cls := .type "tuple_iterator", data := .fields #[.ref l, .int 0 0] }).objs.size = s.heap.objs.size + 1 := Heap.size_push ..
  show _ ∧ _
  rw [hz]
  have he : IsEnum ((s.heap.push { cls := .type "tuple_iterator", data := .fields #[.ref l, .int 0 0] }).push
      { cls := .type "enumerate", data := .fields #[.none, .bool false, .ref s.heap.objs.size, rawInt 0, .none, .none] }) (s.heap.objs.size + 1) s.heap.objs.size 0 .none := by
    have := Heap.get?_push_size (s.heap.push { cls := .type "tuple_iterator", data := .fields #[.ref l, .int 0 0] })
      (o := { cls := .type "enumerate", data := .fields #[.none, .bool false, .ref s.heap.objs.size, rawInt 0, .none, .none] }) rfl
    rw [hz] at this; exact this
  refine ⟨⟨_, he, rfl⟩, h _ he ⟨_, Heap.get?_push_of_some _ (Heap.get?_push_size _ rfl), rfl, rfl⟩ (by rw [Heap.size_push, hz]) fun b o x => Heap.get?_push_of_some _ (Heap.get?_push_of_some _ x)⟩
end
theorem draws_tuple {prog : Program} {w : World} {A : Around} (hh : A.handled = none) (it l : Addr) (hne : l ≠ it) (items : Array Value) :
    Draws prog w A it [it, l] items.size (fun i v => items[i]? = some v) (fun i h => h.IsTupleIter it l i ∧ h.IsTuple l items) where
  live := fun _ _ st => let ⟨o, ho, _⟩ := st.1; ⟨o, ho⟩
  frame := fun _ _ _ st hk => ⟨st.1.at fun o e => hk it (by simp) o e, st.2.at fun o e => hk l (by simp) o e⟩
  item := fun i s Q E hi st hQ => by
    refine RZ.nextOf_tuple_item st.1 st.2 (x := items[i]) (by simp [hi]) fun h' hit' hs' => ?_
    exact hQ _ h' s.toks (by simp [hi]) ⟨hit', st.2.extBut hs'.extBut hne⟩ hs'
  done := fun s Q E st hE => RZ.nextOf_tuple_end hh st.1 st.2 (by simp) hE
theorem en_end {prog : Program} {w : World} {A : Around} {E : Value → Shared → Prop} {s : Shared} (hh : A.in1.handled = none) {e it l : Addr} {items : Array Value} {i : Int} {k : Nat} {old : Value} {Q : Option Value → Shared → Prop}
    (he : IsEnum s.heap e it i old) (hit : s.heap.IsTupleIter it l k) (hl : s.heap.IsTuple l items) (hx : items[k]? = none)
    (hQ : ∀ h', Heap.ExtBut it s.heap h' → Q none { s with heap := h' }) : wpAny (model prog w) A (pyNext (.ref e)) Q E s := by
  have hT : s.TypeIs (.ref e) "enumerate" := ⟨_, he, rfl⟩
  unfold pyNext
  refine wpAny_bind (wpAny_attempt (wpAny_callSpecial?_slot (name := Str.ofString "__next__") hT F.slot_enumerate_next
    (wpAny_call_entry F.slot_enumerate_next hT F.entry_enumerate_next ?_ (F.args_enumerate_next_1 _))))
  show wpAny _ _ (field (.ref e) 2 >>= _) _ _ _
  refine wpAny_bind (wpAny_field he rfl (x := .ref it) rfl ?_)
  refine wpAny_bind (RZ.nextOf_tuple_end hh hit hl hx fun h' x he' hx' => ?_)
  obtain ⟨o, ho, hc⟩ := hx'
  refine wpAny_bind (wpAny_isInstance (T := "StopIteration") (b := true) ⟨o, ho, hc⟩ isSubtype_stop ?_)
  exact wpAny_pure (hQ _ he')
/-- the tuple at a, each item in a new pair -/
def IteT (K : PySem.W.Frag) (a : Addr) : It :=
  ⟨fun i H => ∃ (xs : List V) (x : V), SqT K H a xs ∧ xs[i]? = some x, fun i H v H' => ∃ T x, v = .ref T ∧ H T = none ∧ H' = upd H T (.tup [.int (i : Nat), x]) ∧ ∀ xs, SqT K H a xs → xs[i]? = some x, fun i H => ∃ xs : List V, SqT K H a xs ∧ xs.length ≤ i⟩
theorem turn_enT {P : Program} {w : World} {K : PySem.W.Frag} {elts : List Expr} {kk : Nat} {tpos : Pos} (a e it : Addr) (hai : a ≠ it) (hea : e ≠ a) :
    Turn P w K (.Tuple elts kk tpos) (IteT K a) [e, it] e (fun i h => (∃ old, IsEnum h e it ((i : Nat) : Int) old) ∧ h.IsTupleIter it a i ∧ e ≠ it) where
  mem := by simp
  obj := fun i h st b hb => by
    obtain ⟨⟨old, he⟩, ⟨o, ho, hc, hd⟩, _⟩ := st
    have e' : b = e ∨ b = it := by simpa using hb
    rcases e' with z | z
    · rw [z]; exact ⟨_, he, fun v q => nomatch q⟩
    · rw [z]; exact ⟨o, ho, fun v q => by rw [hd] at q; cases q⟩
  keep := fun i h h' st k => let ⟨⟨old, he⟩, hi, hne⟩ := st; ⟨⟨old, k e (by simp) _ he⟩, hi.at fun o q => k it (by simp) o q, hne⟩
  item := by
    intro X hP hw hK hc i pins s σ H E I hf st hg
    subst hP hw hK
    obtain ⟨⟨old, he⟩, hit, hne⟩ := st
    obtain ⟨xs, x, hq, hx⟩ := hg
    obtain ⟨its, rv, p, hz⟩ := I.tuple hq
    obtain ⟨u, hu, ru⟩ := rv.get hx
    have hel : e < s.heap.objs.size := Heap.lt_size he
    have hil : it < s.heap.objs.size := by obtain ⟨_, q, _⟩ := hit; exact Heap.lt_size q
    have hT0 : s.heap.IsTuple a its.toArray := p
    have hil2 : i < its.toArray.size := by have := (List.getElem?_eq_some_iff.mp hu).1; simpa using this
    refine wpAny_pyNext_enum_itemD (draws_tuple (A := X.A.in1) (show X.A.in1.handled = none from I.ok.hd hc) it a hai its.toArray) he ⟨hit, hT0⟩ hil2 hne (by simp [hne, hea]) fun u' h' tk hu' ho hst' hT hsz hk => ?_
    have hu2 : its.toArray[i]? = some u := by simpa using hu
    rw [hu2] at hu'
    cases hu'
    refine ⟨_, rfl, wpAny_letOwnedTupleGo_enum (s := { s with heap := h', toks := tk + 1 }) ho fun h'' he' sb => ?_⟩
    have hT2 : h''.get? s.heap.objs.size = some { cls := .type "tuple", data := .seq #[.int i tk, u] } := (sb.2 _ (Nat.ne_of_gt hel)).trans hT
    have new : ObjOk X.prog X.w (upd H s.heap.objs.size (.tup [.int (i : Nat), x])) h'' s.heap.objs.size (.tup [.int (i : Nat), x]) :=
      ⟨by show 2 ≤ sizeLine; decide, [.int i tk, u], .cons ⟨_, rfl⟩ (.cons ru .nil), ⟨_, hT2, rfl, _, rfl⟩⟩
    have I1 : Inv X pins σ (upd H s.heap.objs.size (.tup [.int (i : Nat), x])) { s with heap := h'', toks := tk + 1 } :=
      I.turnedNew (ch := [e, it]) (fun b ob hb q => (sb.2 b (fun z => hb (by simp [z]))).trans (hk b ob (fun z => hb (by simp [z])) (fun z => hb (by simp [z])) q)) hf (Nat.le_refl _) new
    refine ⟨.ref s.heap.objs.size, _, I1, rfl, ⟨_, x, rfl, I.hok.fresh (Nat.le_refl _), rfl, fun ys hy => by rw [I.tuple_inj hy hq]; exact hx⟩, ⟨⟨u, ?_⟩, hst'.1.at fun o q => (sb.2 it (Ne.symm hne)).trans q, hne⟩, fun b hb => ?_⟩
    · have e1 : ((i + 1 : Nat) : Int) = (i : Int) + 1 := by omega
      rw [e1]; exact he'
    · have hb' : b < s.heap.objs.size := by
        have e' : b = e ∨ b = it := by simpa using hb
        rcases e' with z | z
        · rw [z]; exact hel
        · rw [z]; exact hil
      rw [upd_ne (Nat.ne_of_lt hb')]
      exact (hf b hb).1
  done := by
    intro X hP hw hK hc i pins s σ H E I hf st hg
    subst hP hw hK
    obtain ⟨⟨old, he⟩, hit, hne⟩ := st
    obtain ⟨xs, hq, hx⟩ := hg
    obtain ⟨its, rv, p, hz⟩ := I.tuple hq
    obtain ⟨f0, f1, f2, f3, f4, f5⟩ := hf it (by simp)
    have hl := rv.length
    exact en_end (show X.A.in1.handled = none from I.ok.hd hc) he hit (l := a) (items := its.toArray) p (by simp; omega) fun h' eb => ⟨rfl, I.turned (t' := s.toks) (fun b o hb q => eb b o hb q) f0 f1 f3 f4 f5⟩
  self := fun A i s Q E st h => let ⟨⟨_, he⟩, _⟩ := st; wpAny_pyIter_enum he h
def iEnumT (K : PySem.W.Frag) (ta : TA) : TI := fun σ H R => ta σ H fun vs H1 => ∃ a xs, vs = [.ref a] ∧ SqT K H1 a xs ∧ R (IteT K a) H1
theorem pi_enT {X : Cx} {e : Expr} {ta : TA} {p pos tpos : Pos} {elts : List Expr} {kk : Nat} (hg : Gl X "enumerate") (hm : X.mg "enumerate" = none) (ha : PA X [e] ta) (hs : starEach [e] X.env = [(false, eval e X.env)] := by rfl) :
    PI X (.Tuple elts kk tpos) (.Call (.Name "enumerate" p) [e] [] pos) (iEnumT X.K ta) := by
  refine ⟨fun pins s σ H R I h => ?_⟩
  refine Call_ (ld_blt I hg hm boot_enumerate (PyProof.Rows.callWith_type1 (thn (ha.run pos pins s σ H _ I h) fun us s1 ⟨vs, H1, I1, r1, q1⟩ => ?_) hs rfl))
  obtain ⟨a, xs, ex, hq, q⟩ := q1
  subst ex
  cases r1 with
  | cons r rr =>
    cases rr
    cases r
    obtain ⟨its, rv, p', hz⟩ := I1.tuple hq
    have hlt : a < s1.heap.objs.size := by obtain ⟨_, q, _⟩ := p'; exact Heap.lt_size q
    refine en_call (items := its.toArray) p' fun h' he hit hsz hk => wpAny_pyIter_enum he ?_
    have I2 : Inv X pins σ H1 { s1 with heap := h' } := I1.kept (t' := s1.toks) hk
    refine ⟨s1.heap.objs.size + 1, [s1.heap.objs.size + 1, s1.heap.objs.size], _, _, H1, rfl, I2, turn_enT a (s1.heap.objs.size + 1) s1.heap.objs.size (Nat.ne_of_lt hlt) (Nat.ne_of_gt (Nat.lt_succ_of_lt hlt)), ⟨⟨.none, he⟩, hit, Nat.succ_ne_self _⟩, fun b hb => ?_, q⟩
    have e' : b = s1.heap.objs.size + 1 ∨ b = s1.heap.objs.size := by simpa using hb
    have hle : s1.heap.objs.size ≤ b := by
      rcases e' with z | z
      · rw [z]; exact Nat.le_add_right _ _
      · rw [z]; exact Nat.le_refl _
    exact I1.fpOk hle (I1.hok.fresh hle)
end Snd

set_option maxHeartbeats 1000000
namespace Snd
open PySem PySem.Spec PyProof.Rows L2
/-! zip of a list and a text -/
structure ItStepS (prog : Program) (w : World) (it : Addr) (P : Nat → Heap → Prop) (x : Str) : Prop where
  next : ∀ {B : Around} {F : Value → Shared → Prop} {t : Shared} {k c : Nat} {R : Value → Shared → Prop}, P k t.heap → x.cps[k]? = some c → (∀ g, P (k + 1) g → Heap.SameBut it t.heap g → R (.str ⟨#[c]⟩ t.toks) { t with heap := g, toks := t.toks + 1 }) → wpAny (model prog w) B (Builtin.SmallTypes.nextOf (.ref it)) R F t
  over : ∀ {B : Around} {F : Value → Shared → Prop} {t : Shared} {k : Nat} {R : Value → Shared → Prop}, B.handled = none → P k t.heap → x.cps[k]? = none → (∀ g e, Heap.ExtBut it t.heap g → (∃ o, g.get? e = some o ∧ o.cls = .type "StopIteration") → F (.ref e) { t with heap := g }) → wpAny (model prog w) B (Builtin.SmallTypes.nextOf (.ref it)) R F t
  stay : ∀ {k : Nat} {g g' : Heap}, P k g → (∀ o, g.get? it = some o → g'.get? it = some o) → P k g'
theorem itr_str {prog : Program} {w : World} {it : Addr} {x : Str} {t : Tok} {ty : String} (hty : ty = "str_ascii_iterator" ∨ ty = "str_iterator") : ItStepS prog w it (fun k h => h.IsStrIter it ty x t k) x where
  next := fun hp hx hR => by
    rcases hty with e | e
    · subst e; exact wpAny_nextOf_ascii_item hp hx hR
    · subst e; exact wpAny_nextOf_wide_item hp hx hR
  over := fun hh hp hx hF => by
    rcases hty with e | e
    · subst e; exact wpAny_nextOf_ascii_end hh hp hx hF
    · subst e; exact wpAny_nextOf_wide_end hh hp hx hF
  stay := fun hp h1 => let ⟨o, ho, r⟩ := hp; ⟨o, h1 o ho, r⟩
section
variable {prog : Program} {w : World} {A : Around} {E : Value → Shared → Prop} {s : Shared}
variable {z TI TO i1 i2 l1 : Addr} {P1 P2 : Nat → Heap → Prop} {xs : Array Value} {tx : Str} {a b : Value}
theorem zs_item (S1 : ItStep prog w i1 l1 P1 xs) (S2 : ItStepS prog w i2 P2 tx) (D : ZipApart z TI TO i1 i2 l1 l1) {k : Nat} {x : Value} {c0 : Nat} (Z : ZpAt s.heap z TI TO i1 i2 P1 P2 a b k) (hx : xs[k]? = some x) (hy : tx.cps[k]? = some c0) {R : Value → Shared → Prop}
    (hR : ∀ g, IsZip g z TI TO (rawInt s.heap.objs.size) → IsPair g TO x (.str ⟨#[c0]⟩ s.toks) → P1 (k + 1) g → P2 (k + 1) g → IsPair g s.heap.objs.size x (.str ⟨#[c0]⟩ s.toks) → g.objs.size = s.heap.objs.size + 1 → (∀ c o, c ≠ z → c ≠ TO → c ≠ i1 → c ≠ i2 → s.heap.get? c = some o → g.get? c = some o) → R (.ref s.heap.objs.size) { s with heap := g, toks := s.toks + 1 }) :
    wpAny (model prog w) A (Builtin.«zip.__next__» ⟨[.ref z], []⟩) (fun u t => ∃ v, u = .done (.ret v) ∧ R v t) E s := by
  have hz := Z.zz; have hi := Z.ti; have ho := Z.to
  show wpAny _ _ (field (.ref z) 2 >>= _) _ _ _; refine wpAny_bind (wpAny_field hz rfl (x := .bool false) rfl ?_)
  show wpAny _ _ (field (.ref z) 3 >>= _) _ _ _; refine wpAny_bind (wpAny_field hz rfl (x := .ref TI) rfl (wpAny_bind (wpAny_seqItems hi rfl ?_)))
  show wpAny _ _ (Builtin.SmallTypes.ownedTupleIsFree (.ref z) >>= _) _ _ _; refine wpAny_bind ?_
  unfold Builtin.SmallTypes.ownedTupleIsFree; refine wpAny_bind (wpAny_field hz rfl (x := .none) rfl (wpAny_pure ?_))
  simp only [if_true]; refine wpAny_bind (wpAny_rule (wpAny_bind (wpAny_field hz rfl (x := .ref TO) rfl ?_)))
  refine wpAny_bind (wpAny_setField_rec hz (by simp) fun g1 z1 w1 => ?_); replace z1 : IsZip g1 z TI TO .ellipsis := z1
  refine wpAny_bind ?_; simp only [List.zipIdx_cons, List.zipIdx_nil, List.forIn_cons, List.forIn_nil]
  refine wpAny_bind (wpAny_bind (wpAny_onRaise ?_)); show wpAny _ _ (Builtin.SmallTypes.nextOf (.ref i1) >>= _) _ _ _
  refine wpAny_bind (S1.next (S1.stay Z.p1 (fun o q => w1.extBut _ _ D.i1z q) (fun o q => w1.extBut _ _ D.l1z q)) hx fun g2 p12 w2 => wpAny_pure ?_)
  have o2 : IsPair g2 TO a b := w2.extBut _ _ D.TOi1 (w1.extBut _ _ D.TOz ho)
  refine wpAny_bind (wpAny_seqItems o2 rfl (wpAny_bind (wpAny_updateSeq_pair o2 fun g3 o3 w3 => ?_))); replace o3 : IsPair g3 TO x b := o3
  refine wpAny_bind (wpAny_letGo (wpAny_pure ?_)); refine wpAny_bind (wpAny_bind (wpAny_onRaise ?_))
  show wpAny _ _ (Builtin.SmallTypes.nextOf (.ref i2) >>= _) _ _ _; refine wpAny_bind (S2.next (S2.stay Z.p2 (fun o q => w3.extBut _ _ D.TOi2.symm (w2.extBut _ _ D.i12.symm (w1.extBut _ _ D.i2z q)))) hy fun g4 p24 w4 => wpAny_pure ?_)
  have o4 : IsPair g4 TO x b := w4.extBut _ _ D.TOi2 o3
  refine wpAny_bind (wpAny_seqItems o4 rfl (wpAny_bind (wpAny_updateSeq_pair o4 fun g5 o5 w5 => ?_))); replace o5 : IsPair g5 TO x (.str ⟨#[c0]⟩ s.toks) := o5
  refine wpAny_bind (wpAny_letGo (wpAny_pure (wpAny_pure (wpAny_bind (wpAny_seqItems o5 rfl (wpAny_bind (wpAny_newTuple ?_)))))))
  have sz : g5.objs.size = s.heap.objs.size := by rw [w5.1, w4.1, w3.1, w2.1, w1.1]
  have z5 : IsZip g5 z TI TO .ellipsis := w5.extBut _ _ D.TOz.symm (w4.extBut _ _ D.i2z.symm (w3.extBut _ _ D.TOz.symm (w2.extBut _ _ D.i1z.symm z1)))
  have k5 : ∀ c o, c ≠ z → c ≠ TO → c ≠ i1 → c ≠ i2 → s.heap.get? c = some o → g5.get? c = some o := fun c o n1 n2 n3 n4 q => w5.extBut _ _ n2 (w4.extBut _ _ n4 (w3.extBut _ _ n2 (w2.extBut _ _ n3 (w1.extBut _ _ n1 q))))
  have p15 : P1 (k + 1) g5 := S1.stay p12 (fun o q => w5.extBut _ _ D.TOi1.symm (w4.extBut _ _ D.i12 (w3.extBut _ _ D.TOi1.symm q))) (fun o q => w5.extBut _ _ D.l1TO (w4.extBut _ _ D.l1i2 (w3.extBut _ _ D.l1TO q)))
  have p25 : P2 (k + 1) g5 := S2.stay p24 (fun o q => w5.extBut _ _ D.TOi2.symm q)
  have zl : z < g5.objs.size := Heap.lt_size z5
  show wpAny _ _ (Builtin.SmallTypes.ownedTupleHandOut (.ref z) (.ref g5.objs.size) >>= _) _ _ _; refine wpAny_bind ?_
  unfold Builtin.SmallTypes.ownedTupleHandOut
  have z6 : IsZip (g5.push { cls := .type "tuple", data := .seq #[x, .str ⟨#[c0]⟩ s.toks] }) z TI TO .ellipsis := Heap.get?_push_of_some _ z5
  refine wpAny_bind (wpAny_setField_rec z6 (by simp) fun g7 z7 w7 => ?_); replace z7 : IsZip g7 z TI TO (rawInt g5.objs.size) := z7
  refine wpAny_setField_rec z7 (by simp) fun g8 z8 w8 => ?_; replace z8 : IsZip g8 z TI TO (rawInt g5.objs.size) := z8
  have up : ∀ c o, c ≠ z → g5.get? c = some o → g8.get? c = some o := fun c o n q => w8.extBut _ _ n (w7.extBut _ _ n (Heap.get?_push_of_some _ q))
  have t8 : IsPair g8 g5.objs.size x (.str ⟨#[c0]⟩ s.toks) := w8.extBut _ _ (Nat.ne_of_gt zl) (w7.extBut _ _ (Nat.ne_of_gt zl) (Heap.get?_push_size _ rfl))
  have s8 : g8.objs.size = g5.objs.size + 1 := by rw [w8.1, w7.1, Heap.size_push]
  rw [sz] at z8 t8 s8; refine wpAny_pure ⟨_, rfl, ?_⟩
  show R (.ref g5.objs.size) _; rw [sz]
  exact hR g8 z8 (up _ _ D.TOz o5) (S1.stay p15 (fun o q => up _ o D.i1z q) (fun o q => up _ o D.l1z q)) (S2.stay p25 (fun o q => up _ o D.i2z q)) t8 s8 fun c o n1 n2 n3 n4 q => up c o n1 (k5 c o n1 n2 n3 n4 q)
theorem zs_end (hh : A.handled = none) (S1 : ItStep prog w i1 l1 P1 xs) (S2 : ItStepS prog w i2 P2 tx) (D : ZipApart z TI TO i1 i2 l1 l1) {k : Nat} (Z : ZpAt s.heap z TI TO i1 i2 P1 P2 a b k) (hend : xs[k]? = none ∨ tx.cps[k]? = none) {R : Fin → Shared → Prop}
    (hE : ∀ g e, (∀ c o, c ≠ z → c ≠ TO → c ≠ i1 → c ≠ i2 → s.heap.get? c = some o → g.get? c = some o) → (∃ o, g.get? e = some o ∧ o.cls = .type "StopIteration") → E (.ref e) { s with heap := g }) :
    wpAny (model prog w) A (Builtin.«zip.__next__» ⟨[.ref z], []⟩) R E s := by
  have hz := Z.zz; have hi := Z.ti; have ho := Z.to
  show wpAny _ _ (field (.ref z) 2 >>= _) _ _ _; refine wpAny_bind (wpAny_field hz rfl (x := .bool false) rfl ?_)
  show wpAny _ _ (field (.ref z) 3 >>= _) _ _ _; refine wpAny_bind (wpAny_field hz rfl (x := .ref TI) rfl (wpAny_bind (wpAny_seqItems hi rfl ?_)))
  show wpAny _ _ (Builtin.SmallTypes.ownedTupleIsFree (.ref z) >>= _) _ _ _; refine wpAny_bind ?_
  unfold Builtin.SmallTypes.ownedTupleIsFree; refine wpAny_bind (wpAny_field hz rfl (x := .none) rfl (wpAny_pure ?_))
  simp only [if_true]; refine wpAny_bind (wpAny_rule (wpAny_bind (wpAny_field hz rfl (x := .ref TO) rfl ?_)))
  refine wpAny_bind (wpAny_setField_rec hz (by simp) fun g1 z1 w1 => ?_); replace z1 : IsZip g1 z TI TO .ellipsis := z1
  refine wpAny_bind ?_; simp only [List.zipIdx_cons, List.zipIdx_nil, List.forIn_cons, List.forIn_nil]
  refine wpAny_bind (wpAny_bind (wpAny_onRaise ?_)); show wpAny _ _ (Builtin.SmallTypes.nextOf (.ref i1) >>= _) _ _ _
  cases hx : xs[k]? with
  | none =>
    refine wpAny_bind (S1.over hh (S1.stay Z.p1 (fun o q => w1.extBut _ _ D.i1z q) (fun o q => w1.extBut _ _ D.l1z q)) hx fun g2 e w2 he => ?_)
    obtain ⟨oe, q1, q2⟩ := he
    have z2 : IsZip g2 z TI TO .ellipsis := w2 _ _ D.i1z.symm z1
    have ez : e ≠ z := fun x => by subst x; rw [z2] at q1; cases q1; simp at q2
    refine wpAny_setField_rec z2 (by simp) fun g3 _ w3 => hE g3 e (fun c o n1 _ n3 _ q => w3.extBut _ _ n1 (w2 _ _ n3 (w1.extBut _ _ n1 q))) ⟨oe, w3.extBut _ _ ez q1, q2⟩
  | some x =>
    have hy : tx.cps[k]? = none := hend.elim (fun q => by rw [hx] at q; cases q) id
    refine wpAny_bind (S1.next (S1.stay Z.p1 (fun o q => w1.extBut _ _ D.i1z q) (fun o q => w1.extBut _ _ D.l1z q)) hx fun g2 p12 w2 => wpAny_pure ?_)
    have o2 : IsPair g2 TO a b := w2.extBut _ _ D.TOi1 (w1.extBut _ _ D.TOz ho)
    refine wpAny_bind (wpAny_seqItems o2 rfl (wpAny_bind (wpAny_updateSeq_pair o2 fun g3 o3 w3 => ?_)))
    refine wpAny_bind (wpAny_letGo (wpAny_pure ?_)); refine wpAny_bind (wpAny_bind (wpAny_onRaise ?_))
    show wpAny _ _ (Builtin.SmallTypes.nextOf (.ref i2) >>= _) _ _ _; refine wpAny_bind (S2.over hh (S2.stay Z.p2 (fun o q => w3.extBut _ _ D.TOi2.symm (w2.extBut _ _ D.i12.symm (w1.extBut _ _ D.i2z q)))) hy fun g4 e w4 he => ?_)
    obtain ⟨oe, q1, q2⟩ := he
    have z4 : IsZip g4 z TI TO .ellipsis := w4 _ _ D.i2z.symm (w3.extBut _ _ D.TOz.symm (w2.extBut _ _ D.i1z.symm z1))
    have ez : e ≠ z := fun x => by subst x; rw [z4] at q1; cases q1; simp at q2
    refine wpAny_setField_rec z4 (by simp) fun g5 _ w5 => hE g5 e (fun c o n1 n2 n3 n4 q => w5.extBut _ _ n1 (w4 _ _ n4 (w3.extBut _ _ n2 (w2.extBut _ _ n3 (w1.extBut _ _ n1 q))))) ⟨oe, w5.extBut _ _ ez q1, q2⟩
theorem zs_next (S1 : ItStep prog w i1 l1 P1 xs) (S2 : ItStepS prog w i2 P2 tx) (D : ZipApart z TI TO i1 i2 l1 l1) {k : Nat} {x : Value} {c0 : Nat} (Z : ZpAt s.heap z TI TO i1 i2 P1 P2 a b k) (hx : xs[k]? = some x) (hy : tx.cps[k]? = some c0) {R : Option Value → Shared → Prop}
    (hR : ∀ g, IsZip g z TI TO (rawInt s.heap.objs.size) → IsPair g TO x (.str ⟨#[c0]⟩ s.toks) → P1 (k + 1) g → P2 (k + 1) g → IsPair g s.heap.objs.size x (.str ⟨#[c0]⟩ s.toks) → g.objs.size = s.heap.objs.size + 1 → (∀ c o, c ≠ z → c ≠ TO → c ≠ i1 → c ≠ i2 → s.heap.get? c = some o → g.get? c = some o) → R (some (.ref s.heap.objs.size)) { s with heap := g, toks := s.toks + 1 }) :
    wpAny (model prog w) A (pyNext (.ref z)) R E s := by
  have hT : s.TypeIs (.ref z) "zip" := ⟨_, Z.zz, rfl⟩; unfold pyNext
  exact wpAny_bind (wpAny_attempt (wpAny_callSpecial?_slot (name := Str.ofString "__next__") hT F.slot_zip_next (wpAny_call_entry F.slot_zip_next hT F.entry_zip_next (zs_item S1 S2 D Z hx hy fun g b1 b2 b3 b4 b5 b6 b7 => wpAny_pure (hR g b1 b2 b3 b4 b5 b6 b7)) (F.args_zip_next_1 _))))
theorem zs_stop (hh : A.handled = none) (S1 : ItStep prog w i1 l1 P1 xs) (S2 : ItStepS prog w i2 P2 tx) (D : ZipApart z TI TO i1 i2 l1 l1) {k : Nat} (Z : ZpAt s.heap z TI TO i1 i2 P1 P2 a b k) (hend : xs[k]? = none ∨ tx.cps[k]? = none) {R : Option Value → Shared → Prop}
    (hR : ∀ g, (∀ c o, c ≠ z → c ≠ TO → c ≠ i1 → c ≠ i2 → s.heap.get? c = some o → g.get? c = some o) → R none { s with heap := g }) : wpAny (model prog w) A (pyNext (.ref z)) R E s := by
  have hT : s.TypeIs (.ref z) "zip" := ⟨_, Z.zz, rfl⟩; unfold pyNext
  refine wpAny_bind (wpAny_attempt (wpAny_callSpecial?_slot (name := Str.ofString "__next__") hT F.slot_zip_next (wpAny_call_entry F.slot_zip_next hT F.entry_zip_next (zs_end (A := A.in1) (show A.in1.handled = none from hh) S1 S2 D Z hend fun g e hk he => ?_) (F.args_zip_next_1 _))))
  obtain ⟨o, ho, hc⟩ := he
  exact wpAny_bind (wpAny_isInstance (T := "StopIteration") (b := true) ⟨o, ho, hc⟩ isSubtype_stop (wpAny_pure (hR _ hk)))
end
end Snd

set_option maxHeartbeats 1000000
namespace Snd
open PySem PySem.Spec PyProof.Rows L2
/-- the five objects of a new zip over a list and a tuple -/
abbrev zsA (h : Heap) (l1 : Addr) : Heap := h.push { cls := .type "list_iterator", data := .fields #[.ref l1, .int 0 0] }
abbrev sty (x : Str) : String := if x.cps.all (· < 128) then "str_ascii_iterator" else "str_iterator"
abbrev zsB (h : Heap) (l1 : Addr) (x : Str) (t : Tok) : Heap := (zsA h l1).push { cls := .type (sty x), data := .fields #[.str x t, .int 0 0] }
abbrev zsC (h : Heap) (l1 : Addr) (x : Str) (t : Tok) : Heap := (zsB h l1 x t).push { cls := .type "tuple", data := .seq #[.ref h.objs.size, .ref (zsA h l1).objs.size] }
abbrev zsD (h : Heap) (l1 : Addr) (x : Str) (t : Tok) : Heap := (zsC h l1 x t).push { cls := .type "tuple", data := .seq #[.none, .none] }
abbrev zsE (h : Heap) (l1 : Addr) (x : Str) (t : Tok) : Heap := (zsD h l1 x t).push { cls := .type "zip", data := .fields #[.none, .bool false, .bool false, .ref (zsB h l1 x t).objs.size, .ref (zsC h l1 x t).objs.size] }
theorem zs_new (l1 : Addr) (xs : Array Value) (x : Str) (t : Tok) :
    Meets (Builtin.«zip.__new__» ⟨[.type "zip", .ref l1, .str x t], []⟩) (fun _ R s => s.heap.IsList l1 xs ∧ R (.ok (.ret (.ref (zsD s.heap l1 x t).objs.size))) { s with heap := zsE s.heap l1 x t }) :=
  .of_wp fun prog w A R s h => by
    obtain ⟨hp, g, d, tk, os⟩ := s; obtain ⟨q1, h⟩ := h; have hsub := sub_zip
    have hL1 : Heap.IsList (Shared.heap ⟨hp, g, d, tk, os⟩) l1 xs := q1
    cases ha : x.cps.all (· < 128)
    · have es : sty x = "str_iterator" := by unfold sty; rw [ha]; rfl
      unfold zsE zsD zsC zsB at h
      rw [es] at h
      wp_walk using wpAny_pyIter_list hL1, wpAny_pyIter_wide ha
      exact ⟨_, rfl, h⟩
    · have es : sty x = "str_ascii_iterator" := by unfold sty; rw [ha]; rfl
      unfold zsE zsD zsC zsB at h
      rw [es] at h
      wp_walk using wpAny_pyIter_list hL1, wpAny_pyIter_ascii ha
      exact ⟨_, rfl, h⟩
end Snd

set_option maxHeartbeats 1000000
namespace Snd
open PySem PySem.Spec PyProof.Rows L2
theorem sty_or (x : Str) : sty x = "str_ascii_iterator" ∨ sty x = "str_iterator" := by unfold sty; split <;> simp
section
variable {prog : Program} {w : World} {A : Around} {E : Value → Shared → Prop} {s : Shared}
theorem zs_call {l1 : Addr} {xs : Array Value} {x : Str} {t : Tok} {R : Value → Shared → Prop} (q1 : s.heap.IsList l1 xs)
    (h : ∀ g, ZpAt g (s.heap.objs.size + 4) (s.heap.objs.size + 2) (s.heap.objs.size + 3) s.heap.objs.size (s.heap.objs.size + 1) (fun k h => h.IsListIter s.heap.objs.size l1 k ∧ h.IsList l1 xs) (fun k h => h.IsStrIter (s.heap.objs.size + 1) (sty x) x t k) .none .none 0 →
      (∀ c o, s.heap.get? c = some o → g.get? c = some o) → R (.ref (s.heap.objs.size + 4)) { s with heap := g }) :
    wpAny (model prog w) A (call (.type "zip") [.ref l1, .str x t]) R E s := by
  refine callType_new F.called_zip (by decide) (F.typeCall_zip_2 _ _) (F.newCall_zip_2 _ _) (fun obj => F.args_object_init_3 obj _ _) F.entry_zip_new (zs_new l1 xs x t) ⟨q1, ?_⟩
  have n1 : (zsA s.heap l1).objs.size = s.heap.objs.size + 1 := Heap.size_push ..
  have n2 : (zsB s.heap l1 x t).objs.size = s.heap.objs.size + 2 := by rw [Heap.size_push, n1]
  have n3 : (zsC s.heap l1 x t).objs.size = s.heap.objs.size + 3 := by rw [Heap.size_push, n2]
  have n4 : (zsD s.heap l1 x t).objs.size = s.heap.objs.size + 4 := by rw [Heap.size_push, n3]
  have e5 : (zsE s.heap l1 x t).get? (zsD s.heap l1 x t).objs.size = some _ := Heap.get?_push_size _ rfl
  have e4 : (zsE s.heap l1 x t).get? (zsC s.heap l1 x t).objs.size = some _ := Heap.get?_push_of_some _ (Heap.get?_push_size _ rfl)
  have e3 : (zsE s.heap l1 x t).get? (zsB s.heap l1 x t).objs.size = some _ := Heap.get?_push_of_some _ (Heap.get?_push_of_some _ (Heap.get?_push_size _ rfl))
  have e2 : (zsE s.heap l1 x t).get? (zsA s.heap l1).objs.size = some _ := Heap.get?_push_of_some _ (Heap.get?_push_of_some _ (Heap.get?_push_of_some _ (Heap.get?_push_size _ rfl)))
  have e1 : (zsE s.heap l1 x t).get? s.heap.objs.size = some _ := Heap.get?_push_of_some _ (Heap.get?_push_of_some _ (Heap.get?_push_of_some _ (Heap.get?_push_of_some _ (Heap.get?_push_size _ rfl))))
  have kp : ∀ c o, s.heap.get? c = some o → (zsE s.heap l1 x t).get? c = some o := fun c o x => Heap.get?_push_of_some _ (Heap.get?_push_of_some _ (Heap.get?_push_of_some _ (Heap.get?_push_of_some _ (Heap.get?_push_of_some _ x))))
  show _ ∧ _
  rw [n2, n3, n4] at e5; rw [n1, n2] at e3; rw [n3] at e4; rw [n1] at e2; rw [n4]
  exact ⟨⟨_, e5, rfl⟩, h _ ⟨e5, e3, e4, ⟨⟨_, e1, rfl, rfl⟩, q1.at fun o x => kp _ o x⟩, ⟨_, e2, rfl, rfl⟩⟩ kp⟩
end
/-- the list at a and the tuple at b as they stand at each turn -/
def ItzS (K : PySem.W.Frag) (a : Addr) (tx : Str) : It where
  go i H := ∃ (xs : List V) (x : V) (c : Nat), SqL K H a xs ∧ xs[i]? = some x ∧ tx.cps[i]? = some c
  yld i H v H' := ∃ T x c, v = .ref T ∧ H T = none ∧ H' = upd H T (.tup [x, .str ⟨#[c]⟩]) ∧ (∀ xs, SqL K H a xs → xs[i]? = some x) ∧ tx.cps[i]? = some c
  stop i H := ∃ xs : List V, SqL K H a xs ∧ (xs.length ≤ i ∨ tx.cps.size ≤ i)
theorem turn_zs {P : Program} {w : World} {K : PySem.W.Frag} {elts : List Expr} {kk : Nat} {tpos : Pos} {a z TI TO i1 i2 : Addr} {tx : Str} {tt : Tok} (D : ZipApart z TI TO i1 i2 a a) :
    Turn P w K (.Tuple elts kk tpos) (ItzS K a tx) [z, TI, TO, i1, i2] z (fun i h => IsZip h z TI TO .none ∧ IsPair h TI (.ref i1) (.ref i2) ∧ (∃ x y, IsPair h TO x y) ∧ h.IsListIter i1 a i ∧ h.IsStrIter i2 (sty tx) tx tt i) where
  mem := by simp
  obj := fun i h st c hc => by
    obtain ⟨s1, s2, ⟨x, y, s3⟩, ⟨o1, e1, _, d1⟩, ⟨o2, e2, _, d2⟩⟩ := st
    rcases five hc with rfl | rfl | rfl | rfl | rfl
    · exact ⟨_, s1, fun v q => nomatch q⟩
    · exact ⟨_, s2, fun v q => nomatch q⟩
    · exact ⟨_, s3, fun v q => nomatch q⟩
    · exact ⟨o1, e1, fun v q => by rw [d1] at q; cases q⟩
    · exact ⟨o2, e2, fun v q => by rw [d2] at q; cases q⟩
  keep := fun i h h' st k => by
    obtain ⟨s1, s2, ⟨x, y, s3⟩, s4, s5⟩ := st
    exact ⟨k z (by simp) _ s1, k TI (by simp) _ s2, ⟨x, y, k TO (by simp) _ s3⟩, s4.at fun o q => k i1 (by simp) o q, (let ⟨o, ho, r⟩ := s5; ⟨o, k i2 (by simp) o ho, r⟩)⟩
  item := by
    intro X hP hw hK hc i pins s σ H E I hf st hg
    subst hP hw hK
    obtain ⟨s1, s2, ⟨x0, y0, s3⟩, s4, s5⟩ := st
    obtain ⟨xs, x, c0, qx, hx, hy⟩ := hg
    obtain ⟨its, rv, p, _⟩ := I.list qx
    obtain ⟨u, hu, ru⟩ := rv.get hx
    have zl : z < s.heap.objs.size := Heap.lt_size s1
    have Z : ZpAt s.heap z TI TO i1 i2 (fun k h => h.IsListIter i1 a k ∧ h.IsList a its.toArray) (fun k h => h.IsStrIter i2 (sty tx) tx tt k) x0 y0 i := ⟨s1, s2, s3, ⟨s4, p.isList⟩, s5⟩
    refine zs_next (itr_list D.l1i1) (itr_str (sty_or tx)) D Z (x := u) (c0 := c0) (by simpa using hu) hy fun g gz gO g1 g2 gT gs gk => ?_
    refine ⟨_, rfl, wpAny_letOwnedTupleGo_zip (s := { s with heap := g, toks := s.toks + 1 }) gz fun g' z' sb => ?_⟩
    have hT2 : g'.get? s.heap.objs.size = some { cls := .type "tuple", data := .seq #[u, .str ⟨#[c0]⟩ s.toks] } := (sb.2 _ (Nat.ne_of_gt zl)).trans gT
    have new : ObjOk X.prog X.w (upd H s.heap.objs.size (.tup [x, .str ⟨#[c0]⟩])) g' s.heap.objs.size (.tup [x, .str ⟨#[c0]⟩]) := ⟨by show 2 ≤ sizeLine; decide, [u, .str ⟨#[c0]⟩ s.toks], .cons ru (.cons ⟨_, rfl⟩ .nil), ⟨_, hT2, rfl, _, rfl⟩⟩
    have I1 : Inv X pins σ (upd H s.heap.objs.size (.tup [x, .str ⟨#[c0]⟩])) { s with heap := g', toks := s.toks + 1 } := I.turnedNew (t' := s.toks + 1) (ch := [z, TI, TO, i1, i2]) (fun c o hb q => (sb.2 c (fun e => hb (by simp [e]))).trans (gk c o (fun e => hb (by simp [e])) (fun e => hb (by simp [e])) (fun e => hb (by simp [e])) (fun e => hb (by simp [e])) q)) hf (Nat.le_refl _) new
    refine ⟨.ref s.heap.objs.size, _, I1, rfl, ⟨_, x, c0, rfl, I.hok.fresh (Nat.le_refl _), rfl, fun l hl => by rw [I.list_inj hl qx]; exact hx, hy⟩, ⟨z', (sb.2 _ D.TIz).trans (gk _ _ D.TIz D.TITO D.TIi1 D.TIi2 s2), ⟨u, _, (sb.2 _ D.TOz).trans gO⟩, g1.1.at fun o q => (sb.2 _ D.i1z).trans q, (let ⟨o, ho, r⟩ := g2; ⟨o, (sb.2 _ D.i2z).trans ho, r⟩)⟩, fun c hcm => ?_⟩
    have lt : c < s.heap.objs.size := by
      rcases five hcm with rfl | rfl | rfl | rfl | rfl
      · exact zl
      · exact Heap.lt_size s2
      · exact Heap.lt_size s3
      · obtain ⟨_, q, _⟩ := s4; exact Heap.lt_size q
      · obtain ⟨_, q, _⟩ := s5; exact Heap.lt_size q
    rw [upd_ne (Nat.ne_of_lt lt)]; exact (hf c hcm).1
  done := by
    intro X hP hw hK hc i pins s σ H E I hf st hg
    subst hP hw hK
    obtain ⟨s1, s2, ⟨x0, y0, s3⟩, s4, s5⟩ := st
    obtain ⟨xs, qx, hend⟩ := hg
    obtain ⟨its, rv, p, _⟩ := I.list qx
    have n1 := rv.length
    have Z : ZpAt s.heap z TI TO i1 i2 (fun k h => h.IsListIter i1 a k ∧ h.IsList a its.toArray) (fun k h => h.IsStrIter i2 (sty tx) tx tt k) x0 y0 i := ⟨s1, s2, s3, ⟨s4, p.isList⟩, s5⟩
    have he : its.toArray[i]? = none ∨ tx.cps[i]? = none := hend.imp (fun q => by simp; omega) (fun q => by simp; omega)
    exact zs_stop (I.ok.hd hc) (itr_list D.l1i1) (itr_str (sty_or tx)) D Z he fun g gk => ⟨rfl, I.turnedL (t' := s.toks) (ch := [z, TI, TO, i1, i2]) (fun c o hb q => gk c o (fun e => hb (by simp [e])) (fun e => hb (by simp [e])) (fun e => hb (by simp [e])) (fun e => hb (by simp [e])) q) hf⟩
  self := fun A i s Q E st h => wpAny_pyIter_zip st.1 h
def iZipS (K : PySem.W.Frag) (ta : TA) : TI := fun σ H R => ta σ H fun vs H1 => ∃ a b xs, vs = [.ref a, .str b] ∧ SqL K H1 a xs ∧ R (ItzS K a b) H1
theorem pi_zipS {X : Cx} {e e2 : Expr} {ta : TA} {p pos tpos : Pos} {elts : List Expr} {kk : Nat} (hg : Gl X "zip") (hm : X.mg "zip" = none) (ha : PA X [e, e2] ta) (hs : starEach [e, e2] X.env = (false, eval e X.env) :: starEach [e2] X.env := by rfl) (hpl : (backTo pos (starEach [e2] X.env)).any (·.1) = false := by rfl) :
    PI X (.Tuple elts kk tpos) (.Call (.Name "zip" p) [e, e2] [] pos) (iZipS X.K ta) := by
  refine ⟨fun pins s σ H R I h => Call_ (ld_blt I hg hm PyProof.Rows.boot_zip (PyProof.Rows.callWith_type1 (thn (ha.run pos pins s σ H _ I h) fun us s1 ⟨vs, H1, I1, r1, q1⟩ => ?_) hs hpl))⟩
  obtain ⟨a, b, xs, rfl, qx, q⟩ := q1
  cases r1 with
  | cons r rr =>
    cases rr with
    | cons r' rr =>
      cases rr; cases r; obtain ⟨tt, rfl⟩ := r'
      have fr : ∀ c, c ∈ [s1.heap.objs.size + 4, s1.heap.objs.size + 2, s1.heap.objs.size + 3, s1.heap.objs.size, s1.heap.objs.size + 1] → FpOk X pins H1 c := fun c hcm => by
        have le : s1.heap.objs.size ≤ c := by rcases five hcm with rfl | rfl | rfl | rfl | rfl <;> omega
        exact I1.fpOk le (I1.hok.fresh le)
      obtain ⟨its, rv, p1, _⟩ := I1.list qx
      refine zs_call p1.isList fun g Z hk => wpAny_pyIter_zip Z.zz ?_
      have I2 : Inv X pins σ H1 { s1 with heap := g } := I1.kept (t' := s1.toks) hk
      exact ⟨s1.heap.objs.size + 4, _, _, _, H1, rfl, I2, turn_zs (PySem.W.ktu_apart s1.heap.objs.size a a p1.lt p1.lt), ⟨Z.zz, Z.ti, ⟨_, _, Z.to⟩, Z.p1.1, Z.p2⟩, fr, q⟩
end Snd

namespace Snd
open PySem PySem.Spec PyProof.Rows L2
variable {X : Cx} {C : Ir.Calls}
theorem asds_derefs {st : Ir.Store} : ∀ {vs : List Ir.Val} {ds : List Ir.D}, Ir.asDs vs = some ds → Ir.derefs st vs = some ds := by
  intro vs
  induction vs with
  | nil => intro ds h; simp [Ir.asDs] at h; subst h; rfl
  | cons v vs ih =>
    intro ds h
    cases v with
    | ref _ => simp [Ir.asDs] at h
    | d x =>
      simp only [Ir.asDs, Option.map_eq_some_iff] at h
      obtain ⟨ds', h1, rfl⟩ := h
      simp [Ir.derefs, Ir.deref, ih h1]
theorem pure_inv {f : Ir.Bi} (hf : f = .enum ∨ f = .zipS) {vs : List Ir.Val} {st st' : Ir.Store} {v : Ir.Val} (e : Ir.bltV f vs st = .ok v st') : st' = st ∧ ∃ ds r, Ir.asDs vs = some ds ∧ Ir.D.blt f ds = some r ∧ v = .d r := by
  have e : (match Ir.asDs vs with | some _ => Ir.bltD f vs st | none => Ir.Res.bad) = .ok v st' := by
    rcases hf with rfl | rfl <;> exact e
  split at e
  · rename_i ds hds
    obtain ⟨h1, ds', r, h2, h3, h4⟩ := bltD_inv e
    rw [asds_derefs hds] at h2
    cases h2
    exact ⟨h1, ds, r, hds, h3, h4⟩
  · cases e
/-! ### enumerate -/
theorem enum_get {xs : List Ir.D} {i : Nat} {d : Ir.D} (h : (Ir.enumL xs)[i]? = some d) : ∃ x, xs[i]? = some x ∧ d = .tup [.int (i : Nat), x] := by
  simp only [Ir.enumL, List.getElem?_map, Option.map_eq_some_iff] at h
  obtain ⟨p, h1, rfl⟩ := h
  rw [List.getElem?_zip_eq_some] at h1
  obtain ⟨h2, h3⟩ := h1
  have := (List.getElem?_eq_some_iff.mp h2)
  obtain ⟨hl, he⟩ := this
  simp only [List.getElem_range] at he
  exact ⟨p.2, h3, by rw [he]⟩
theorem enum_len (xs : List Ir.D) : (Ir.enumL xs).length = xs.length := by simp [Ir.enumL]
theorem wk_enum {K : PySem.W.Frag} {ρ : Rho} {H : Hp} {a : Addr} {xs : List Ir.D} {ys : List V} (h : H a = some (.lst ys)) (n : ¬ ρ.own a) (z : ys.length ≤ sizeLine) (r : RDs ρ K H xs ys) : Wk K ρ H (Ite K a) (Ir.enumL xs) where
  len := by rw [enum_len, r.length]; exact z
  go := fun i d ρ1 H1 st e rs hd => by
    obtain ⟨x, hx, rfl⟩ := enum_get hd
    obtain ⟨v, h1, h2⟩ := r.get hx
    have q : SqL K H1 a ys := SqL.of (e.fr _ _ h (own_no n))
    refine ⟨⟨ys, v, q, h1⟩, fun w H' hw => ?_⟩
    obtain ⟨T, x', rfl, nT, rfl, f1⟩ := hw
    have e1 := f1 ys q
    rw [h1] at e1; cases e1
    exact ⟨.grow rs nT _, rs.grow nT _, grow_tup rs (.cons (.int _) (.cons (h2.mono e) .nil)) (by show 2 ≤ sizeLine; decide) nT⟩
  stop := fun i ρ1 H1 st e rs hl => ⟨ys, SqL.of (e.fr _ _ h (own_no n)), by rw [← r.length, ← enum_len]; exact hl⟩
theorem wk_enumT {K : PySem.W.Frag} {ρ : Rho} {H : Hp} {a : Addr} {xs : List Ir.D} {ys : List V} (h : TpAt ρ K H a ys) (z : ys.length ≤ sizeLine) (r : RDs ρ K H xs ys) : Wk K ρ H (IteT K a) (Ir.enumL xs) where
  len := by rw [enum_len, r.length]; exact z
  go := fun i d ρ1 H1 st e rs hd => by
    obtain ⟨x, hx, rfl⟩ := enum_get hd
    obtain ⟨v, h1, h2⟩ := r.get hx
    have q : SqT K H1 a ys := (h.mono e).sq
    refine ⟨⟨ys, v, q, h1⟩, fun w H' hw => ?_⟩
    obtain ⟨T, x', rfl, nT, rfl, f1⟩ := hw
    have e1 := f1 ys q
    rw [h1] at e1; cases e1
    exact ⟨.grow rs nT _, rs.grow nT _, grow_tup rs (.cons (.int _) (.cons (h2.mono e) .nil)) (by show 2 ≤ sizeLine; decide) nT⟩
  stop := fun i ρ1 H1 st e rs hl => ⟨ys, (h.mono e).sq, by rw [← r.length, ← enum_len]; exact hl⟩
theorem si_enum {e : Expr} {i : Ir.Ex} {p pos tpos : Pos} {elts : List Expr} {kk : Nat} (h : SE X C e i) (hm : X.mg (Str.ofString "enumerate") = none) (hg : Gl X (Str.ofString "enumerate") := by rfl) (hs : starEach [e] X.env = [(false, eval e X.env)] := by rfl) :
    SI X C (.Tuple elts kk tpos) (.Call (.Name (Str.ofString "enumerate") p) [e] [] pos) (.blt .enum [i]) := by
  refine pi_imp (pi_or (pi_enum hg hm (pa_cons h pa_nil hs) hs) (pi_enT hg hm (pa_cons h pa_nil hs) hs)) fun σ H R ⟨ρ, env, st, q, xs, st', rs, re, ev, hseq, k⟩ => ?_
  simp only [Ir.eval, Ir.evals] at ev
  obtain ⟨vs, s1, e1, ev⟩ := bok ev
  obtain ⟨v, s2, e2, e1⟩ := bok e1
  simp only [Ir.Res.bind_ok] at e1
  cases e1
  obtain ⟨rfl, ds, r, h1, h2, h3⟩ := pure_inv (.inl rfl) ev
  cases h3
  have vv : ∃ p, v = .d p ∧ ds = [p] := by
    cases v <;> simp [Ir.asDs] at h1
    exact ⟨_, rfl, h1.symm⟩
  obtain ⟨p1, rfl, rfl⟩ := vv
  simp only [Ir.D.blt] at h2
  unfold Ir.D.bEnum at h2
  split at h2
  · rename_i as hq
    simp only [List.cons.injEq, and_true] at hq
    subst hq
    cases h2
    simp only [Ir.D.seq, Option.some.injEq] at hseq
    subst hseq
    refine .inr ⟨ρ, env, st, _, _, rs, re, e2, fun ρ1 H1 V1 x1 rs1 rv => ?_⟩
    obtain ⟨a, ys, rfl, t, z, r⟩ := RD.tup_inv (show RD ρ1 X.K H1 (.tup as) V1 from rv)
    exact ⟨a, ys, rfl, t.sq, k ρ1 H1 _ x1 rs1 (wk_enumT t z r)⟩
  · rename_i as hq
    simp only [List.cons.injEq, and_true] at hq
    subst hq
    cases h2
    simp only [Ir.D.seq, Option.some.injEq] at hseq
    subst hseq
    refine .inl ⟨ρ, env, st, _, _, rs, re, e2, fun ρ1 H1 V1 x1 rs1 rv => ?_⟩
    have rv2 : RD ρ1 X.K H1 (.lst as) V1 := rv
    cases rv2 with
    | lst g1 g2 g3 g4 => exact ⟨_, _, rfl, SqL.of g1, k ρ1 H1 _ x1 rs1 (wk_enum g1 g2 g3 g4)⟩
  · cases h2
/-! ### reversed(range(..)) -/
theorem rev_get {lo : Int} {n i : Nat} {d : Ir.D} (h : (Ir.rangeL lo n).reverse[i]? = some d) : i < n ∧ d = .int (lo + (n : Int) - 1 + (i : Nat) * (-1)) := by
  have hl := (List.getElem?_eq_some_iff.mp h).1
  simp only [List.length_reverse, Ir.rangeL, List.length_map, List.length_range] at hl
  refine ⟨hl, ?_⟩
  rw [List.getElem?_reverse (by simpa [Ir.rangeL] using hl)] at h
  have hlen : (Ir.rangeL lo n).length = n := by simp [Ir.rangeL]
  rw [hlen] at h
  simp only [Ir.rangeL, List.getElem?_map, List.getElem?_range (show n - 1 - i < n by omega), Option.map_some, Option.some.injEq] at h
  rw [← h]
  congr 1
  omega
theorem wk_rev {K : PySem.W.Frag} {ρ : Rho} {H : Hp} (lo : Int) (n : Nat) (z : n ≤ sizeLine) : Wk K ρ H (Itc (lo + (n : Int) - 1) (-1) n) (Ir.rangeL lo n).reverse where
  len := by simpa [Ir.rangeL] using z
  go := fun i x ρ1 H1 st e rs hx => by
    obtain ⟨hi, rfl⟩ := rev_get hx
    refine ⟨hi, fun w H' hy => ?_⟩
    obtain ⟨rfl, rfl⟩ := hy
    exact ⟨.refl _ _, rs, .int _⟩
  stop := fun i ρ1 H1 st e rs hl => by
    have : n ≤ i := by simpa [Ir.rangeL] using hl
    exact this
theorem si_rev1 {tg e : Expr} {i : Ir.Ex} {p pos p2 pos2 : Pos} (h : SE X C e i) (hm : X.mg (Str.ofString "reversed") = none) (hm2 : X.mg (Str.ofString "range") = none) (hg : Gl X (Str.ofString "reversed") := by rfl) (hg2 : Gl X (Str.ofString "range") := by rfl)
    (hs : starEach [e] X.env = (false, eval e X.env) :: starEach [] X.env := by rfl) (hs2 : starEach [.Call (.Name (Str.ofString "range") p2) [e] [] pos2] X.env = (false, eval (.Call (.Name (Str.ofString "range") p2) [e] [] pos2) X.env) :: starEach [] X.env := by rfl) :
    SI X C tg (.Call (.Name (Str.ofString "reversed") p) [.Call (.Name (Str.ofString "range") p2) [e] [] pos2] [] pos) (.blt .revR [i]) := by
  refine pi_imp (pi_revR hg hm (prg_1 hg2 hm2 h hs) hs2) fun σ H R ⟨ρ, env, st, q, xs, st', rs, re, ev, hseq, k⟩ => ?_
  simp only [Ir.eval, Ir.evals] at ev
  obtain ⟨vs, s1, e1, ev⟩ := bok ev
  obtain ⟨v, s2, e2, e1⟩ := bok e1
  simp only [Ir.Res.bind_ok] at e1
  cases e1
  obtain ⟨rfl, ds, r, h1, h2, h3⟩ := not_len (by decide) ev
  cases h3
  refine ⟨ρ, env, st, v, _, rs, re, e2, fun ρ1 H1 V1 x1 rs1 rv => ?_⟩
  have vd := VDs.derefs rs1 (.cons rv .nil) h1
  simp only [Ir.D.blt] at h2
  unfold Ir.D.bRevR at h2
  split at h2
  · rename_i n
    split at h2
    · rename_i hn
      cases h2
      simp only [Ir.D.seq, Option.some.injEq] at hseq
      subst hseq
      cases vd with
      | cons vd t =>
        cases t
        have e0 : (Ir.LIM : Int) = 16777216 := by rw [Ir.LIM_eq]; rfl
        have e1 : sizeLine = 16777216 := by decide
        have ee : (n - 0).toNat = n.toNat := by rw [Int.sub_zero]
        refine ⟨n, by rw [RD.int_inv vd], by omega, by omega, by omega, by omega, ?_⟩
        rw [ee]
        exact k ρ1 H1 _ x1 rs1 (wk_rev 0 n.toNat (by omega))
    · cases h2
  · cases vd with
    | cons _ t => cases t
  · cases h2
/-! ### the signs of a text -/
theorem sgn_str (c : Char) : Str.ofString (String.singleton c) = ⟨#[c.toNat]⟩ := by
  have h : (Str.ofString (String.singleton c)).cps.toList = [c.toNat] := by rw [ofString_cps]; simp
  have h2 : (Str.ofString (String.singleton c)).cps = #[c.toNat] := by
    apply Array.toList_inj.mp
    rw [h]
  cases hq : Str.ofString (String.singleton c) with
  | mk cs => rw [hq] at h2; simp only at h2; rw [h2]
theorem wk_chars {K : PySem.W.Frag} {ρ : Rho} {H : Hp} (z : String) (hz : z.length ≤ sizeLine) : Wk K ρ H (Its (Str.ofString z)) (z.toList.map Ir.sgn) where
  len := by rw [List.length_map, String.length_toList]; exact hz
  go := fun i x ρ1 H1 st e rs hx => by
    simp only [List.getElem?_map, Option.map_eq_some_iff] at hx
    obtain ⟨c, hc, rfl⟩ := hx
    have h1 : (Str.ofString z).cps[i]? = some c.toNat := by
      rw [← Array.getElem?_toList, ofString_cps, List.getElem?_map, hc]; rfl
    refine ⟨(Array.getElem?_eq_some_iff.mp h1).1, fun w H' hy => ?_⟩
    obtain ⟨rfl, c', hc', rfl⟩ := hy
    rw [h1] at hc'
    cases hc'
    refine ⟨.refl _ _, rs, ?_⟩
    rw [← sgn_str]
    exact .str _
  stop := fun i ρ1 H1 st e rs hl => by
    have h1 : (Str.ofString z).cps.size = z.length := by rw [← Array.length_toList, ofString_cps, List.length_map, String.length_toList]
    show (Str.ofString z).cps.size ≤ i
    rw [h1]
    rw [List.length_map, String.length_toList] at hl
    exact hl
theorem si_chars {tg e : Expr} {i : Ir.Ex} (h : SE X C e i) : SI X C tg e (.blt .chars [i]) := by
  refine pi_imp (pi_str h) fun σ H R ⟨ρ, env, st, q, xs, st', rs, re, ev, hseq, k⟩ => ?_
  simp only [Ir.eval, Ir.evals] at ev
  obtain ⟨vs, s1, e1, ev⟩ := bok ev
  obtain ⟨v, s2, e2, e1⟩ := bok e1
  simp only [Ir.Res.bind_ok] at e1
  cases e1
  obtain ⟨rfl, ds, r, h1, h2, h3⟩ := not_len (by decide) ev
  cases h3
  refine ⟨ρ, env, st, v, _, rs, re, e2, fun ρ1 H1 V1 x1 rs1 rv => ?_⟩
  have vd := VDs.derefs rs1 (.cons rv .nil) h1
  simp only [Ir.D.blt] at h2
  unfold Ir.D.bChars at h2
  split at h2
  · rename_i z
    split at h2
    · rename_i hz
      cases h2
      simp only [Ir.D.seq, Option.some.injEq] at hseq
      subst hseq
      cases vd with
      | cons vd t =>
        cases t
        exact ⟨Str.ofString z, RD.str_inv vd, k ρ1 H1 _ x1 rs1 (wk_chars z (lim_eq ▸ hz))⟩
    · cases h2
  · cases h2
/-! ### a sign in a text -/
theorem strIn_inv {p q : Ir.Val} {b : Bool} (e : Ir.strIn p q = some b) : ∃ (y z : String) (c : Char), p = .d (.str y) ∧ q = .d (.str z) ∧ y = String.singleton c ∧ b = decide (c ∈ z.toList) := by
  unfold Ir.strIn at e
  split at e
  · rename_i y z
    split at e
    · rename_i c hc
      split at e
      · cases e
        refine ⟨y, z, c, rfl, rfl, ?_, rfl⟩
        apply String.toList_inj.mp
        rw [hc]; simp
      · cases e
    · cases e
  · cases e
theorem char_mem {c : Char} {z : String} : decide (c.toNat ∈ (Str.ofString z).cps.toList) = decide (c ∈ z.toList) := by
  rw [ofString_cps, decide_eq_decide, List.mem_map]
  constructor
  · rintro ⟨d, h1, h2⟩
    have : d = c := by
      apply Char.ext
      apply UInt32.toNat_inj.mp
      exact h2
    rw [← this]; exact h1
  · exact fun h => ⟨c, h, rfl⟩
theorem cmp_sin : OpR X (compareOp .In) (rCmp X.K .sin) := by
  refine opR_imp op_in_str fun x y H Q ⟨ρ, st, p, q, b, rs, hp, hq, hb, k⟩ => ?_
  obtain ⟨y', z, c, rfl, rfl, rfl, rfl⟩ := strIn_inv (show Ir.strIn p q = some b from hb)
  refine ⟨_, _, RD.str_inv hp, RD.str_inv hq, ?_⟩
  rw [← ofString_sgn, StrLaws.found_one, char_mem]
  exact k
theorem cmp_snin : OpR X (compareOp .NotIn) (rCmp X.K .snin) := by
  refine opR_imp op_notin_str fun x y H Q ⟨ρ, st, p, q, b, rs, hp, hq, hb, k⟩ => ?_
  obtain ⟨b', hb', rfl⟩ := Option.map_eq_some_iff.mp (show (Ir.strIn p q).map (!·) = some b from hb)
  obtain ⟨y', z, c, rfl, rfl, rfl, rfl⟩ := strIn_inv hb'
  refine ⟨_, _, RD.str_inv hp, RD.str_inv hq, ?_⟩
  rw [← ofString_sgn, StrLaws.found_one, char_mem]
  exact k
/-! ### zip of a list and a text -/
theorem wk_zipS {K : PySem.W.Frag} {ρ : Rho} {H : Hp} {a : Addr} {xs : List Ir.D} {ys : List V} (zz : String) (h : H a = some (.lst ys)) (n : ¬ ρ.own a) (z : ys.length ≤ sizeLine) (r : RDs ρ K H xs ys) : Wk K ρ H (ItzS K a (Str.ofString zz)) (Ir.zipL xs (zz.toList.map Ir.sgn)) where
  len := by rw [zip_len, r.length]; omega
  go := fun i d ρ1 H1 st e rs hd => by
    obtain ⟨x, y, hx, hy, rfl⟩ := zip_get hd
    obtain ⟨v, h1, h2⟩ := r.get hx
    simp only [List.getElem?_map, Option.map_eq_some_iff] at hy
    obtain ⟨c, hc, rfl⟩ := hy
    have h3 : (Str.ofString zz).cps[i]? = some c.toNat := by
      rw [← Array.getElem?_toList, ofString_cps, List.getElem?_map, hc]; rfl
    have q : SqL K H1 a ys := SqL.of (e.fr _ _ h (own_no n))
    refine ⟨⟨ys, v, c.toNat, q, h1, h3⟩, fun w H' hw => ?_⟩
    obtain ⟨T, x', c', rfl, nT, rfl, f1, f2⟩ := hw
    have e1 := f1 ys q
    rw [h1] at e1; cases e1
    rw [h3] at f2; cases f2
    refine ⟨.grow rs nT _, rs.grow nT _, grow_tup rs (.cons (h2.mono e) (.cons ?_ .nil)) (by show 2 ≤ sizeLine; decide) nT⟩
    rw [ofString_sgn]
    exact .str _
  stop := fun i ρ1 H1 st e rs hl => by
    refine ⟨ys, SqL.of (e.fr _ _ h (own_no n)), ?_⟩
    have h1 : (Str.ofString zz).cps.size = zz.length := by rw [← Array.length_toList, ofString_cps, List.length_map, String.length_toList]
    rw [zip_len, r.length, List.length_map, String.length_toList] at hl
    rw [h1]
    omega
theorem si_zipS {e f : Expr} {i j : Ir.Ex} {p pos tpos : Pos} {elts : List Expr} {kk : Nat} (h : SE X C e i) (h' : SE X C f j) (hm : X.mg (Str.ofString "zip") = none) (hg : Gl X (Str.ofString "zip") := by rfl) (hs : starEach [e, f] X.env = (false, eval e X.env) :: starEach [f] X.env := by rfl) (hs2 : starEach [f] X.env = (false, eval f X.env) :: starEach [] X.env := by rfl) (hpl : (backTo pos (starEach [f] X.env)).any (·.1) = false := by rfl) :
    SI X C (.Tuple elts kk tpos) (.Call (.Name (Str.ofString "zip") p) [e, f] [] pos) (.blt .zipS [i, j]) := by
  refine pi_imp (pi_zipS hg hm (pa_cons h (pa_cons h' pa_nil hs2) hs) hs hpl) fun σ H R ⟨ρ, env, st, q, xs, st', rs, re, ev, hseq, k⟩ => ?_
  simp only [Ir.eval, Ir.evals] at ev
  obtain ⟨vs, s1, e1, ev⟩ := bok ev
  obtain ⟨v, s2, e2, e1⟩ := bok e1
  obtain ⟨ws, s3, e3, e1⟩ := bok e1
  obtain ⟨w, s4, e4, e3⟩ := bok e3
  simp only [Ir.Res.bind_ok] at e3
  cases e3
  cases e1
  obtain ⟨rfl, ds, r, h1, h2, h3⟩ := pure_inv (.inr rfl) ev
  cases h3
  have vv : ∃ p q, v = .d p ∧ w = .d q ∧ ds = [p, q] := by
    cases v <;> cases w <;> simp [Ir.asDs] at h1
    exact ⟨_, _, rfl, rfl, h1.symm⟩
  obtain ⟨p1, q1, rfl, rfl, rfl⟩ := vv
  simp only [Ir.D.blt] at h2
  unfold Ir.D.bZipS at h2
  split at h2
  · rename_i as zz hq
    simp only [List.cons.injEq, and_true] at hq
    obtain ⟨rfl, rfl⟩ := hq
    split at h2
    · cases h2
      simp only [Ir.D.seq, Option.some.injEq] at hseq
      subst hseq
      refine ⟨ρ, env, st, _, _, rs, re, e2, fun ρ1 H1 V1 x1 rs1 rv => ⟨ρ1, env, _, _, _, rs1, re.mono x1, e4, fun ρ2 H2 W1 x2 rs2 rw' => ?_⟩⟩
      have rv2 : RD ρ2 X.K H2 (.lst as) V1 := RD.mono x2 rv
      have rw2 : RD ρ2 X.K H2 (.str zz) W1 := rw'
      cases rv2 with
      | lst g1 g2 g3 g4 => exact ⟨_, _, _, by rw [RD.str_inv rw2], SqL.of g1, k ρ2 H2 _ (x1.trans x2) rs2 (wk_zipS zz g1 g2 g3 g4)⟩
    · cases h2
  · cases h2
end Snd

namespace Snd
open PySem PySem.Spec PyProof.Rows L2
variable {X : Cx} {C : Ir.Calls}
/-! ### what the module holds -/
mutual
/-- a value of the module is some data -/
inductive KV (K : PySem.W.Frag) : Ir.D → Value → Prop
  | non : KV K .non .none
  | bool (b : Bool) : KV K (.bool b) (.bool b)
  | int (i : Int) (t : Tok) : KV K (.int i) (.int i t)
  | str (s : String) (t : Tok) : KV K (.str s) (.str (Str.ofString s) t)
  | tup {a : Addr} {xs : List Ir.D} {dd : Option Addr} {us : List Value} {n : Nat} {sl : Array (Option Value)} : K.lookup a = some ⟨.type "tuple", dd, .seq us.toArray n, sl⟩ → us.length ≤ sizeLine → KVs K xs us → KV K (.tup xs) (.ref a)
inductive KVs (K : PySem.W.Frag) : List Ir.D → List Value → Prop
  | nil : KVs K [] []
  | cons {x : Ir.D} {xs : List Ir.D} {u : Value} {us : List Value} : KV K x u → KVs K xs us → KVs K (x :: xs) (u :: us)
end
mutual
theorem KV.rel {K : PySem.W.Frag} {d : Ir.D} {u : Value} (h : KV K d u) : ∃ v, RelV v u ∧ ∀ ρ H, RD ρ K H d v := by
  cases h with
  | non => exact ⟨.non, rfl, fun _ _ => .non⟩
  | bool b => exact ⟨.bl b, rfl, fun _ _ => .bool b⟩
  | int i t => exact ⟨.int i, ⟨t, rfl⟩, fun _ _ => .int i⟩
  | str s t => exact ⟨.str (Str.ofString s), ⟨t, rfl⟩, fun _ _ => .str s⟩
  | tup hl hz hs =>
    obtain ⟨vs, h1, h2⟩ := hs.rel
    refine ⟨.ref _, rfl, fun ρ H => .tup (.inr ⟨_, _, _, hl, rfl, rfl, by simpa using hz, by simpa using h1⟩) (by rw [h1.length]; exact hz) (h2 ρ H)⟩
theorem KVs.rel {K : PySem.W.Frag} {ds : List Ir.D} {us : List Value} (h : KVs K ds us) : ∃ vs, Vals vs us ∧ ∀ ρ H, RDs ρ K H ds vs := by
  cases h with
  | nil => exact ⟨[], .nil, fun _ _ => .nil⟩
  | cons h hs =>
    obtain ⟨v, h1, h2⟩ := h.rel
    obtain ⟨vs, h3, h4⟩ := hs.rel
    exact ⟨v :: vs, .cons h1 h3, fun ρ H => .cons (h2 ρ H) (h4 ρ H)⟩
end
theorem se_glb {x : Str} {d : Ir.D} {pos : Pos} (h : ∃ u, X.mg x = some u ∧ KV X.K d u) (hg : Gl X x := by rfl) (hd : (x == ("__debug__" : Str)) = false := by decide) : SE X C (.Name x pos) (.con d) := by
  obtain ⟨u, hm, kv⟩ := h
  obtain ⟨v, rv, rd⟩ := kv.rel
  refine pe_imp (pe_glob hg hm rv hd) fun σ H Q ⟨ρ, env, st, w, st', rs, re, ev, k⟩ => ?_
  simp only [Ir.eval] at ev
  cases ev
  exact k ρ H _ (.refl _ _) rs (rd ρ H)
/-- the entries of a dict of the module -/
inductive KEs (K : PySem.W.Frag) (P : Params) : List (String × Ir.D) → List DictEntry → Prop
  | nil : KEs K P [] []
  | cons {z : String} {d : Ir.D} {kvs : List (String × Ir.D)} {e : DictEntry} {es : List DictEntry} {t : Tok} : e.key = .str (Str.ofString z) t → e.hash = PyData.keyHash P (Str.ofString z) → KV K d e.val → KEs K P kvs es → KEs K P ((z, d) :: kvs) (e :: es)
theorem KEs.lit {K : PySem.W.Frag} {P : Params} {kvs : List (String × Ir.D)} {es : List DictEntry} (h : KEs K P kvs es) : PySem.W.KeysLit P es := by
  induction h with
  | nil => trivial
  | cons h1 h2 h3 h4 ih => exact ⟨⟨_, _, h1, h2⟩, ih⟩
theorem KEs.find {K : PySem.W.Frag} {P : Params} {kvs : List (String × Ir.D)} {es : List DictEntry} (h : KEs K P kvs es) (z : String) :
    (∃ d e, kvs.lookup z = some d ∧ es.find? (·.key.isStr (Str.ofString z)) = some e ∧ KV K d e.val) ∨ (kvs.lookup z = none ∧ es.find? (·.key.isStr (Str.ofString z)) = none ∧ es.any (·.refKey) = false) := by
  induction h with
  | nil => exact .inr ⟨rfl, rfl, rfl⟩
  | @cons y d kvs e es t h1 h2 h3 h4 ih =>
    by_cases hz : z = y
    · subst hz
      refine .inl ⟨d, e, by simp [List.lookup], ?_, h3⟩
      rw [List.find?_cons_of_pos]
      rw [h1]; simp [Value.isStr]
    · have hb : (z == y) = false := by simpa using hz
      have hk : e.key.isStr (Str.ofString z) = false := by
        rw [h1]
        simp only [Value.isStr]
        simpa using fun e => hz (ofString_inj e.symm)
      have hr : e.refKey = false := by simp [DictEntry.refKey, h1]
      rw [List.find?_cons_of_neg (by simp [hk])]
      simp only [List.lookup, hb, List.any_cons, hr, Bool.false_or]
      exact ih
structure KD (K : PySem.W.Frag) (w : World) (kvs : List (String × Ir.D)) (a : Addr) : Prop where
  ex : ∃ es n, K.lookup a = some ⟨.type "dict", none, .dict es n, #[]⟩ ∧ KEs K w.params kvs es.toList ∧ (a == sysModules) = false
theorem KD.ns {K : PySem.W.Frag} {w : World} {kvs : List (String × Ir.D)} {a : Addr} (h : KD K w kvs a) (z : String) :
    (∃ d u, kvs.lookup z = some d ∧ PySem.W.nsIn K a (Str.ofString z) = some (some u) ∧ KV K d u) ∨ (kvs.lookup z = none ∧ PySem.W.nsIn K a (Str.ofString z) = some none) := by
  obtain ⟨es, n, hl, hk, hs⟩ := h.ex
  rcases hk.find z with ⟨d, e, h1, h2, h3⟩ | ⟨h1, h2, h3⟩
  · exact .inl ⟨d, e.val, h1, by unfold PySem.W.nsIn; rw [hl]; simp only [h2], h3⟩
  · exact .inr ⟨h1, by unfold PySem.W.nsIn; rw [hl]; simp only [h2, h3, Bool.false_eq_true, if_false]⟩
theorem KD.kd {w : World} {K : PySem.W.Frag} {kvs : List (String × Ir.D)} {a : Addr} (h : KD K w kvs a) : ∃ es n, KDict K w a es n := by
  obtain ⟨es, n, hl, hk, hs⟩ := h.ex
  exact ⟨es, n, hl, hk.lit, hs⟩
theorem kd_str {o : Ir.Kq} {kvs : List (String × Ir.D)} {x : Ir.Val} {r : Ir.D} (h : Ir.kdV o kvs x = some r) : ∃ z, x = .d (.str z) := by
  unfold Ir.kdV at h
  split at h
  · exact ⟨_, rfl⟩
  · cases h
section
variable {a : Expr} {ia : Ir.Ex} {x : Str} {kvs : List (String × Ir.D)} {p' pos : Pos}
theorem se_kdin (h : ∃ p, X.mg x = some (.ref p) ∧ KD X.K X.w kvs p) (ha : SE X C a ia) (hg : Gl X x := by rfl) (hd : (x == ("__debug__" : Str)) = false := by decide) (hm : behindInMarks .In (.Name x p') = false := by first | rfl | with_unfolding_all rfl) : SE X C (.Compare a [.In] [.Name x p'] pos) (.kd .isin kvs ia) := by
  obtain ⟨q, hq, kd⟩ := h
  obtain ⟨es, n, D⟩ := kd.kd
  refine pe_imp (pe_cmpR (op_in_kd D) ha (pe_glob (v := .ref q) hg hq rfl hd) hm) fun σ H Q ⟨ρ, env, st, v, st', rs, re, ev, k⟩ => ?_
  simp only [Ir.eval] at ev
  obtain ⟨y, s1, e1, ev⟩ := bok ev
  obtain ⟨r, e2, ev⟩ := ook ev
  cases ev
  obtain ⟨z, rfl⟩ := kd_str e2
  refine ⟨ρ, env, st, _, _, rs, re, e1, fun ρ1 H1 X1 x1 rs1 rx => ?_⟩
  obtain rfl := RD.str_inv rx
  rcases kd.ns z with ⟨d, u, h1, h2, h3⟩ | ⟨h1, h2⟩
  · simp only [Ir.kdV, h1, Option.isSome_some, Option.some.injEq] at e2
    subst e2
    exact ⟨_, _, rfl, rfl, h2, k ρ1 H1 _ x1 rs1 (.bool true)⟩
  · simp only [Ir.kdV, h1, Option.isSome_none, Option.some.injEq] at e2
    subst e2
    exact ⟨_, _, rfl, rfl, h2, k ρ1 H1 _ x1 rs1 (.bool false)⟩
theorem se_kdnotin (h : ∃ p, X.mg x = some (.ref p) ∧ KD X.K X.w kvs p) (ha : SE X C a ia) (hg : Gl X x := by rfl) (hd : (x == ("__debug__" : Str)) = false := by decide) (hm : behindInMarks .NotIn (.Name x p') = false := by first | rfl | with_unfolding_all rfl) : SE X C (.Compare a [.NotIn] [.Name x p'] pos) (.kd .notin kvs ia) := by
  obtain ⟨q, hq, kd⟩ := h
  obtain ⟨es, n, D⟩ := kd.kd
  refine pe_imp (pe_cmpR (op_notIn_kd D) ha (pe_glob (v := .ref q) hg hq rfl hd) hm) fun σ H Q ⟨ρ, env, st, v, st', rs, re, ev, k⟩ => ?_
  simp only [Ir.eval] at ev
  obtain ⟨y, s1, e1, ev⟩ := bok ev
  obtain ⟨r, e2, ev⟩ := ook ev
  cases ev
  obtain ⟨z, rfl⟩ := kd_str e2
  refine ⟨ρ, env, st, _, _, rs, re, e1, fun ρ1 H1 X1 x1 rs1 rx => ?_⟩
  obtain rfl := RD.str_inv rx
  rcases kd.ns z with ⟨d, u, h1, h2, h3⟩ | ⟨h1, h2⟩
  · simp only [Ir.kdV, h1, Option.isSome_some, Option.some.injEq] at e2
    subst e2
    exact ⟨_, _, rfl, rfl, h2, k ρ1 H1 _ x1 rs1 (.bool false)⟩
  · simp only [Ir.kdV, h1, Option.isSome_none, Option.some.injEq] at e2
    subst e2
    exact ⟨_, _, rfl, rfl, h2, k ρ1 H1 _ x1 rs1 (.bool true)⟩
theorem st_kdin (h : ∃ p, X.mg x = some (.ref p) ∧ KD X.K X.w kvs p) (ha : SE X C a ia) (hg : Gl X x := by rfl) (hd : (x == ("__debug__" : Str)) = false := by decide) (hm : behindInMarks .In (.Name x p') = false := by first | rfl | with_unfolding_all rfl) : ST X C (.Compare a [.In] [.Name x p'] pos) (.kd .isin kvs ia) := by
  obtain ⟨q, hq, kd⟩ := h
  obtain ⟨es, n, D⟩ := kd.kd
  refine pt_imp (pt_cmpR (op_in_kd D) ha (pe_glob (v := .ref q) hg hq rfl hd) hm) fun σ H Q ⟨ρ, env, st, v, st', rs, re, ev, k⟩ => ?_
  simp only [Ir.eval] at ev
  obtain ⟨y, s1, e1, ev⟩ := bok ev
  obtain ⟨r, e2, ev⟩ := ook ev
  cases ev
  obtain ⟨z, rfl⟩ := kd_str e2
  refine ⟨ρ, env, st, _, _, rs, re, e1, fun ρ1 H1 X1 x1 rs1 rx => ?_⟩
  obtain rfl := RD.str_inv rx
  have kk := k ρ1 H1 x1 rs1
  rcases kd.ns z with ⟨d, u, h1, h2, h3⟩ | ⟨h1, h2⟩
  · simp [Ir.kdV, h1] at e2
    subst e2
    exact ⟨_, _, rfl, rfl, h2, _, rfl, kk⟩
  · simp [Ir.kdV, h1] at e2
    subst e2
    exact ⟨_, _, rfl, rfl, h2, _, rfl, kk⟩
theorem st_kdnotin (h : ∃ p, X.mg x = some (.ref p) ∧ KD X.K X.w kvs p) (ha : SE X C a ia) (hg : Gl X x := by rfl) (hd : (x == ("__debug__" : Str)) = false := by decide) (hm : behindInMarks .NotIn (.Name x p') = false := by first | rfl | with_unfolding_all rfl) : ST X C (.Compare a [.NotIn] [.Name x p'] pos) (.kd .notin kvs ia) := by
  obtain ⟨q, hq, kd⟩ := h
  obtain ⟨es, n, D⟩ := kd.kd
  refine pt_imp (pt_cmpR (op_notIn_kd D) ha (pe_glob (v := .ref q) hg hq rfl hd) hm) fun σ H Q ⟨ρ, env, st, v, st', rs, re, ev, k⟩ => ?_
  simp only [Ir.eval] at ev
  obtain ⟨y, s1, e1, ev⟩ := bok ev
  obtain ⟨r, e2, ev⟩ := ook ev
  cases ev
  obtain ⟨z, rfl⟩ := kd_str e2
  refine ⟨ρ, env, st, _, _, rs, re, e1, fun ρ1 H1 X1 x1 rs1 rx => ?_⟩
  obtain rfl := RD.str_inv rx
  have kk := k ρ1 H1 x1 rs1
  rcases kd.ns z with ⟨d, u, h1, h2, h3⟩ | ⟨h1, h2⟩
  · simp [Ir.kdV, h1] at e2
    subst e2
    exact ⟨_, _, rfl, rfl, h2, _, rfl, kk⟩
  · simp [Ir.kdV, h1] at e2
    subst e2
    exact ⟨_, _, rfl, rfl, h2, _, rfl, kk⟩
theorem se_kdidx (h : ∃ p, X.mg x = some (.ref p) ∧ KD X.K X.w kvs p) (ha : SE X C a ia) (hg : Gl X x := by rfl) (hd : (x == ("__debug__" : Str)) = false := by decide) (hs : PlainIx a := by exact fun _ _ => rfl) : SE X C (.Subscript (.Name x p') a pos) (.kd .idx kvs ia) := by
  obtain ⟨q, hq, kd⟩ := h
  refine pe_imp (pe_ix ix_kdict (pe_glob (v := .ref q) hg hq rfl hd) ha hs) fun σ H Q ⟨ρ, env, st, v, st', rs, re, ev, k⟩ => ?_
  simp only [Ir.eval] at ev
  obtain ⟨y, s1, e1, ev⟩ := bok ev
  obtain ⟨r, e2, ev⟩ := ook ev
  cases ev
  obtain ⟨z, rfl⟩ := kd_str e2
  refine ⟨ρ, env, st, _, _, rs, re, e1, fun ρ1 H1 X1 x1 rs1 rx => ?_⟩
  obtain rfl := RD.str_inv rx
  rcases kd.ns z with ⟨d, u, h1, h2, h3⟩ | ⟨h1, h2⟩
  · simp only [Ir.kdV, h1, Option.some.injEq] at e2
    subst e2
    obtain ⟨v, rv, rd⟩ := h3.rel
    obtain ⟨es, n, hl, hk, _⟩ := kd.ex
    exact ⟨_, _, v, rfl, rfl, ⟨es, n, u, hl, hk.lit, h2, rv⟩, k ρ1 H1 _ x1 rs1 (rd ρ1 H1)⟩
  · simp only [Ir.kdV, h1, reduceCtorEq] at e2
theorem se_kdget {apos cpos : Pos} (h : ∃ p, X.mg x = some (.ref p) ∧ KD X.K X.w kvs p) (ha : SE X C a ia) (hg : Gl X x := by rfl) (hd : (x == ("__debug__" : Str)) = false := by decide) (m : M1 X (.Name x p') (Str.ofString "get") apos a cpos := by exact ⟨rfl, rfl, rfl, rfl⟩) :
    SE X C (.Call (.Attribute (.Name x p') (Str.ofString "get") apos) [a] [] cpos) (.kd .get kvs ia) := by
  obtain ⟨q, hq, kd⟩ := h
  obtain ⟨es, n, D⟩ := kd.kd
  refine ⟨fun pins s σ H Q I ⟨ρ, env, st, v, st', rs, re, ev, k⟩ => ?_⟩
  simp only [Ir.eval] at ev
  obtain ⟨y, s1, e1, ev⟩ := bok ev
  obtain ⟨r, e2, ev⟩ := ook ev
  cases ev
  obtain ⟨z, rfl⟩ := kd_str e2
  refine wpAny_Call_method m.base m.few m.line PySem.F.plainAttrs_dict PySem.F.slot_dict_get PySem.F.type_dict_get (thn ((pe_glob (v := .ref q) hg hq rfl hd).run pins s σ H (fun x H1 => x = .ref q ∧ H1 = H) I ⟨rfl, rfl⟩) fun u s1 ⟨x, H1, I1, rx, ex, eh⟩ => ?_)
  subst ex eh
  obtain rfl : u = Value.ref q := rx
  have hm := PySem.W.mapOf_K (prog := X.prog) (w := X.w) I1.kIn D.at_ D.lit
  refine ⟨hm.typeIs, fun b e => ?_, ?_⟩
  · cases e
    exact ⟨_, I1.kIn _ _ D.at_, rfl⟩
  rw [m.trees]
  refine wpAny_dict_get1 (knd := strKind X.prog X.w) D.low (thn (ha.run pins s1 σ H1 (fun y H2 => y = .str (Str.ofString z) ∧ ∀ zz, (∀ ρ1 : Rho, RD ρ1 X.K H2 r zz) → Q zz H2) I1 ⟨ρ, env, st, _, _, rs, re, e1, fun ρ1 H2 X1 x1 rs1 rx => ⟨RD.str_inv rx, fun zz rd => k ρ1 H2 zz x1 rs1 (rd ρ1)⟩⟩) fun iv s2 ⟨y, H2, I2, ry, ey, q2⟩ => ?_)
  subst ey
  obtain ⟨t, rfl⟩ := ry
  refine ⟨_, _, strKind_is X.prog X.w _ t, PySem.W.mapOf_K (prog := X.prog) (w := X.w) I2.kIn D.at_ D.lit, ?_⟩
  rcases kd.ns z with ⟨d, u, h1, h2, h3⟩ | ⟨h1, h2⟩
  · simp only [Ir.kdV, h1, Option.getD_some, Option.some.injEq] at e2
    subst e2
    obtain ⟨v, rv, rd⟩ := h3.rel
    rw [PySem.W.find_K D.at_ h2]
    exact ⟨v, H2, I2.tok _, rv, q2 v fun ρ1 => rd ρ1 H2⟩
  · simp only [Ir.kdV, h1, Option.getD_none, Option.some.injEq] at e2
    subst e2
    rw [PySem.W.find_K D.at_ h2]
    exact ⟨.non, H2, I2.tok _, rfl, q2 .non fun ρ1 => .non⟩
end
theorem RDs.rep {ρ : Rho} {K : PySem.W.Frag} {H : Hp} {xs : List Ir.D} {ys : List V} (r : RDs ρ K H xs ys) : ∀ n : Nat, RDs ρ K H (List.replicate n xs).flatten (List.replicate n ys).flatten
  | 0 => .nil
  | n + 1 => by
    rw [List.replicate_succ, List.replicate_succ, List.flatten_cons, List.flatten_cons]
    exact r.append (RDs.rep r n)
/-! ### a list some times over -/
theorem rep_len {α : Type} (l : List α) : ∀ n : Nat, (List.replicate n l).flatten.length = l.length * n
  | 0 => by simp
  | n + 1 => by rw [List.replicate_succ, List.flatten_cons, List.length_append, rep_len l n, Nat.mul_succ, Nat.add_comm]
theorem range_pick {α : Type} : ∀ l : List α, ((List.range l.length).filterMap fun i => l[i]?) = l
  | [] => rfl
  | x :: l => by
    rw [List.length_cons, List.range_succ_eq_map, List.filterMap_cons]
    simp only [List.getElem?_cons_zero, List.filterMap_map]
    have := range_pick l
    simpa [Function.comp_def] using this
theorem bin_lmul : OpR X (binaryOp .Mult) (rBin X.K .lmul) := by
  refine opR_imp op_rep fun x y H Q ⟨ρ, st, p, q, d, rs, hp, hq, hb, k⟩ => ?_
  cases p <;> cases q <;> simp only [Ir.D.bin, reduceCtorEq] at hb
  rename_i xs n
  split at hb
  · rename_i hc
    cases hb
    rw [Bool.and_eq_true, Bool.and_eq_true] at hc
    have h0 : 0 ≤ n := of_decide_eq_true hc.1.1
    have h2 : n ≤ 16777216 := (by have := of_decide_eq_true hc.1.2; rw [Ir.LIM_eq] at this; exact this)
    have h1 : xs.length * n.toNat ≤ Ir.LIM := of_decide_eq_true hc.2
    obtain ⟨a, as, rfl, g1, za, ra⟩ := hp
    have hl : as.length * n.toNat ≤ sizeLine := by rw [← ra.length, ← lim_eq]; exact h1
    have hl2 : (List.replicate n.toNat as).flatten.length ≤ sizeLine := by rw [rep_len]; exact hl
    exact ⟨a, n, as, rfl, RD.int_inv hq, g1, by omega, by omega, hl, fun p hp => k ρ _ _ (.grow rs hp _) (rs.grow hp _) (grow_lst rs (ra.rep n.toNat) hl2 hp)⟩
  · cases hb
/-! ### defs with defaults -/
theorem fn_okD {P : Program} {w : World} {K : PySem.W.Frag} {mg : Str → Option Value} {base : Heap} {x qual : Str} {st : Stmt} {f : Addr} {fd : FuncData} {N ps : List Str} {T : Ir.Tab} {n : Nat} {name : String} {fn : Ir.Fn} {dvs : List V} {kws : List (Str × V)}
    (F : FunD K x qual (defArgs st) (defBody st) (defScope st) dvs kws f fd) (S : FnScope N ps (defScope st)) (hT : T name = some fn) (hp : fn.pars = ps.length) (hN : fn.many = N.length)
    (hb : ∀ (cdv : Value) (A : Around) (outer : List Env) (s : Shared) (H : Hp) (E : XK), Room n (A.deeper (envOfC qual (defScope st) s.heap.objs.size f cdv)) → SSs (cxOf CX0 P w K mg base N qual (defScope st) f cdv A outer s H E).nox (Ir.callN T n) (fun _ _ _ _ => False) (defBody st) fn.body) :
    FnOk P w K mg base CX0 (n + 1) f fd ps (spI T (n + 1) K name) := by
  refine F.ok S (fun vs H Q E h => ?_) (fun cdv A outer s H vs Q E hr h => ?_)
  · obtain ⟨ρ, st, args, v, st', rs, ra, ev, k⟩ := h
    simp only [Ir.callN, hT, Ir.runFn] at ev
    split at ev
    · rename_i hc
      rw [← ra.length, hc.1, hp]
    · cases ev
  · obtain ⟨ρ, st, args, v, st', rs, ra, ev, k⟩ := h
    refine ⟨_, (hb cdv A outer s H E hr).nox, ?_⟩
    simp only [Ir.callN, hT, Ir.runFn] at ev
    split at ev
    · rename_i hc
      obtain ⟨o, s1, e1, ev1⟩ := bok ev
      have e1 := Ir.noexc_inv e1
      have re := start_ok (N := N) ra fn.many hN
      rw [hc.1] at re
      refine ⟨ρ, _, st, o, s1, rs, re, e1, ?_⟩
      have hlen : st.length = ρ.ix.length := rs.len
      cases o with
      | nx env' =>
        intro ρ1 H1 σ1 x1 rs1 _
        rw [hlen] at ev1
        obtain ⟨ρ', x2, rs2, rv2⟩ := leave_ok (v := .d .non) (y := V.non) x1 rs1 RD.non ev1
        exact k ρ' H1 _ x2 rs2 rv2
      | ret u =>
        intro ρ1 H1 y x1 rs1 ry
        rw [hlen] at ev1
        obtain ⟨ρ', x2, rs2, rv2⟩ := leave_ok x1 rs1 ry ev1
        exact k ρ' H1 _ x2 rs2 rv2
      | brk _ => simp only at ev1; cases ev1
      | cnt _ => simp only at ev1; cases ev1
      | thr c as _ => simp only at ev1; cases ev1
    · cases ev
/-- a def whose defaults are data: a tuple of the module -/
theorem funD_mk {K : PySem.W.Frag} {x qual : Str} {st : Stmt} {f T : Addr} {oc : Value} {od an od2 : Option Addr} {osl sl2 : Array (Option Value)} {kV doc pm cdv ct oc2 : Value} {its : List Value} {n : Nat} {ds : List Ir.D} (l : K.lookup f = some ⟨oc, od, .func (PySem.W.fnOf x qual (defArgs st) (defBody st) (defScope st) (.ref T) kV doc pm an cdv ct), osl⟩)
    (c : PySem.W.codeIn K cdv qual = true) (k : PySem.W.keepIn K (.ref f) = true) (lT : K.lookup T = some ⟨oc2, od2, .seq its.toArray n, sl2⟩) (hd : KVs K ds its) (h0 : ds ≠ []) : ∃ dvs, dvs ≠ [] ∧ dvs.length = ds.length ∧ (∀ ρ H, RDs ρ K H ds dvs) ∧ FunD K x qual (defArgs st) (defBody st) (defScope st) dvs [] f (PySem.W.fnOf x qual (defArgs st) (defBody st) (defScope st) (.ref T) kV doc pm an cdv ct) := by
  obtain ⟨vs, h1, h2⟩ := hd.rel
  have hl := (h2 ⟨[], []⟩ (fun _ => none)).length
  have hn : vs ≠ [] := fun e => h0 (List.eq_nil_of_length_eq_zero (by rw [hl, e]; rfl))
  exact ⟨vs, hn, hl.symm, h2, ⟨⟨oc, od, .ref T, kV, doc, pm, an, cdv, ct, osl, rfl, l, c, .inr ⟨hn, T, _, its, n, rfl, lT, rfl, h1⟩, .inl rfl⟩, k⟩⟩
theorem KwOk.dfl {K : PySem.W.Frag} {fd : FuncData} {ps : List Str} {f : String} {m : Nat} {ds : List Ir.D} {perm : List Nat} {dvs : List V} (hr : ∀ ρ H, RDs ρ K H ds dvs) (hm : m + ds.length = ps.length) (hp : perm = List.range ps.length) (h : ∃ dv, Vals dvs dv ∧ Binds K fd ps dv) : KwOk K fd ps (f, m, [], perm, ds) := by
  obtain ⟨dv, h1, h2⟩ := h
  have hl := (hr ⟨[], []⟩ (fun _ => none)).length
  refine ⟨dv, dvs, h1, hr, fun s us ws hk hu hw => ?_⟩
  obtain rfl : ws = [] := List.eq_nil_of_length_eq_zero hw
  subst hp
  have h3 : (us ++ dv).length = ps.length := by rw [List.length_append, ← h1.length, ← hl]; have : us.length = m := hu; omega
  have h4 : permV (List.range ps.length) (us ++ [] ++ dv) = us ++ dv := by
    rw [List.append_nil, ← h3]
    exact range_pick _
  show BindsTo s fd ⟨us, []⟩ (ps.zip (permV (List.range ps.length) (us ++ [] ++ dv)))
  rw [h4]
  exact h2 s us hk h3
section
variable {K : PySem.W.Frag} {x qual : Str} {params : Arguments} {body : List Stmt} {scope : Scope} {dvs : List V} {kws : List (Str × V)} {f : Addr} {fd : FuncData} {ps : List Str}
theorem binds_dfl {m : Nat} (F : FunD K x qual params body scope dvs kws f fd) (n : Nat) (hd : dvs ≠ []) (hl : dvs.length = m) (hn : n + m = ps.length)
    (h : ∀ (T : Addr) (kV doc pm : Value) (an : Option Addr) (cdv ct : Value) (us its : List Value), us.length = n → its.length = dvs.length →
      ∃ k, bindArgs (PySem.W.fnOf x qual params body scope (.ref T) kV doc pm an cdv ct) ⟨us, []⟩ = seqItems? (.ref T) >>= k ∧ k (some its.toArray) = pure (ps.zip (us ++ its))) : ∃ ds, Vals dvs ds ∧ Binds K fd ps ds :=
  F.binds1 (ps := ps) n 0 hd (by omega) h
theorem binds_full (F : FunD K x qual params body scope dvs kws f fd) (hd : dvs ≠ [])
    (h : ∀ (T : Addr) (kV doc pm : Value) (an : Option Addr) (cdv ct : Value) (us its : List Value), us.length = ps.length → its.length = dvs.length →
      ∃ k, bindArgs (PySem.W.fnOf x qual params body scope (.ref T) kV doc pm an cdv ct) ⟨us, []⟩ = seqItems? (.ref T) >>= k ∧ k (some its.toArray) = pure (ps.zip us)) : Binds K fd ps [] := by
  obtain ⟨ds, h1, h2⟩ := F.binds1 (ps := ps) ps.length dvs.length hd (by omega) fun T kV doc pm an cdv ct us its l1 l2 => by
    obtain ⟨k, e1, e2⟩ := h T kV doc pm an cdv ct us its l1 l2
    refine ⟨k, e1, ?_⟩
    rw [← l2, List.drop_length, List.append_nil]
    exact e2
  rw [List.drop_length] at h1
  cases h1
  exact h2
end
end Snd

namespace Snd
open PySem PySem.Spec PyProof.Rows L2
variable {X : Cx} {C : Ir.Calls}
/-! ### list(range(..)) -/
theorem rg_rds {ρ : Rho} {K : PySem.W.Frag} {H : Hp} : ∀ n : Nat, RDs ρ K H (Ir.rangeL 0 n) (rgV 0 (n : Int)) := by
  intro n
  have e : rgV 0 (n : Int) = (List.range n).map fun i => V.int (0 + (i : Nat)) := by unfold rgV; simp
  rw [e]
  unfold Ir.rangeL
  generalize List.range n = l
  induction l with
  | nil => exact .nil
  | cons i l ih => exact .cons (.int _) ih
theorem sn_lrange {e : Expr} {i : Ir.Ex} {p p2 pos pos2 : Pos} (hcalm : X.calm = true) (h : SE X C e i) (hm : X.mg (Str.ofString "list") = none) (hmr : X.mg (Str.ofString "range") = none) (hg : Gl X (Str.ofString "list") := by rfl) (hgr : Gl X (Str.ofString "range") := by rfl)
    (hs : starEach [.Call (.Name (Str.ofString "range") p2) [e] [] pos2] X.env = (false, eval (.Call (.Name (Str.ofString "range") p2) [e] [] pos2) X.env) :: starEach [] X.env := by rfl) (hs2 : starEach [e] X.env = (false, eval e X.env) :: starEach [] X.env := by rfl) :
    SN X C (.Call (.Name (Str.ofString "list") p) [.Call (.Name (Str.ofString "range") p2) [e] [] pos2] [] pos) (.blt .lrange [i]) := by
  refine pe_imp (pe_listRg hcalm hg hm (prg_1 hgr hmr h hs2) hs) fun σ H Q ⟨ρ, env, st, xs, st', rs, re, ev, k⟩ => ?_
  simp only [Ir.eval, Ir.evals] at ev
  obtain ⟨vs, s1, e1, ev⟩ := bok ev
  obtain ⟨v, s2, e2, e1⟩ := bok e1
  simp only [Ir.Res.bind_ok] at e1
  cases e1
  obtain ⟨rfl, ds, r, h1, h2, h3⟩ := not_len (by decide) ev
  cases h3
  refine ⟨ρ, env, st, v, _, rs, re, e2, fun ρ1 H1 V1 x1 rs1 rv => ?_⟩
  have vd := VDs.derefs rs1 (.cons rv .nil) h1
  simp only [Ir.D.blt] at h2
  unfold Ir.D.bLrange at h2
  split at h2
  · rename_i n
    split at h2
    · rename_i hn
      cases h2
      cases vd with
      | cons vd t =>
        cases t
        have e0 : (Ir.LIM : Int) = 16777216 := by rw [Ir.LIM_eq]; rfl
        obtain rfl := RD.int_inv vd
        refine ⟨n, rfl, ⟨by omega, by omega, by omega, by omega, by omega⟩, fun q hq => ?_⟩
        have e3 : rgV 0 n = rgV 0 ((n.toNat : Nat) : Int) := by unfold rgV; rw [show ((n.toNat : Nat) : Int) - 0 = max n 0 by omega, show (max n 0).toNat = (n - 0).toNat by omega]
        rw [e3]
        have rr := rg_rds (ρ := ρ1) (K := X.K) (H := H1) n.toNat
        refine sn_fin x1 rs1 rr ?_ hq k
        rw [rgV_length, sizeLine_eq]; omega
    · cases h2
  · cases h2
theorem is_lrange {is : List Ir.Ex} : ∀ env st v st', Ir.eval C (.blt .lrange is) env st = .ok v st' → ∃ xs, v = .d (.lst xs) := fun env st v st' ev => by
  simp only [Ir.eval] at ev
  obtain ⟨vs, s1, e1, ev⟩ := bok ev
  obtain ⟨_, ds, r, _, h2, rfl⟩ := not_len (by decide) ev
  simp only [Ir.D.blt] at h2
  unfold Ir.D.bLrange at h2
  split at h2
  · split at h2
    · cases h2; exact ⟨_, rfl⟩
    · cases h2
  · cases h2
theorem bv_sorted : bootBuiltins (Str.ofString "sorted") = some (.builtin "sorted") := by decide +kernel
/-! ### sorted, of ints -/
theorem ins_perm (x : Int) : ∀ l : List Int, (Ir.insI x l).Perm (x :: l)
  | [] => .refl _
  | y :: l => by
    unfold Ir.insI
    split
    · exact .refl _
    · exact ((ins_perm x l).cons y).trans (.swap x y l)
theorem ins_sorted (x : Int) : ∀ l : List Int, l.Pairwise (· ≤ ·) → (Ir.insI x l).Pairwise (· ≤ ·)
  | [], _ => by simp [Ir.insI]
  | y :: l, h => by
    unfold Ir.insI
    rw [List.pairwise_cons] at h
    split
    · rename_i c
      refine List.pairwise_cons.mpr ⟨fun z hz => ?_, List.pairwise_cons.mpr h⟩
      rcases List.mem_cons.mp hz with rfl | hz
      · exact c
      · exact Int.le_trans c (h.1 z hz)
    · rename_i c
      refine List.pairwise_cons.mpr ⟨fun z hz => ?_, ins_sorted x l h.2⟩
      rcases List.mem_cons.mp ((ins_perm x l).mem_iff.mp hz) with rfl | hz
      · omega
      · exact h.1 z hz
theorem sort_perm : ∀ l : List Int, (Ir.sortI l).Perm l
  | [] => .refl _
  | x :: l => (ins_perm x _).trans ((sort_perm l).cons x)
theorem sort_sorted : ∀ l : List Int, (Ir.sortI l).Pairwise (· ≤ ·)
  | [] => .nil
  | x :: l => ins_sorted x _ (sort_sorted l)
theorem ints_ok2 {ρ : Rho} {K : PySem.W.Frag} {H : Hp} : ∀ {xs : List Ir.D} {ys : List V} {l : List Int}, RDs ρ K H xs ys → Ir.D.ints xs = some l → ys = l.map V.int
  | _, _, _, .nil, h => by simp [Ir.D.ints] at h; subst h; rfl
  | _, _, _, .cons (x := x) h r, e => by
    cases x with
    | int i =>
      simp only [Ir.D.ints, Option.map_eq_some_iff] at e
      obtain ⟨l', e1, rfl⟩ := e
      rw [RD.int_inv h, ints_ok2 r e1]; rfl
    | _ => simp [Ir.D.ints] at e
theorem ints_rds {ρ : Rho} {K : PySem.W.Frag} {H : Hp} : ∀ l : List Int, RDs ρ K H (l.map .int) (l.map V.int)
  | [] => .nil
  | i :: l => .cons (.int i) (ints_rds l)
theorem sn_sorted {e : Expr} {i : Ir.Ex} {p pos : Pos} (h : SE X C e i) (hm : X.mg (Str.ofString "sorted") = none) (hv : bootBuiltins (Str.ofString "sorted") = some (.builtin "sorted")) (hg : Gl X (Str.ofString "sorted") := by rfl)
    (he : starEach [e] X.env = (false, eval e X.env) :: starEach [] X.env := by rfl) (hpl : (backTo pos (starEach [] X.env)).any (·.1) = false := by rfl) :
    SN X C (.Call (.Name (Str.ofString "sorted") p) [e] [] pos) (.blt .sorted [i]) := by
  refine pe_imp (pe_callB cr_sortedI hg hm hv (pa_cons h pa_nil he) (by decide) (by decide) he hpl) fun σ H Q ⟨ρ, env, st, xs, st', rs, re, ev, k⟩ => ?_
  simp only [Ir.eval, Ir.evals] at ev
  obtain ⟨vs, s1, e1, ev⟩ := bok ev
  obtain ⟨v, s2, e2, e1⟩ := bok e1
  simp only [Ir.Res.bind_ok] at e1
  cases e1
  obtain ⟨rfl, ds, r, h1, h2, h3⟩ := not_len (by decide) ev
  cases h3
  refine ⟨ρ, env, st, v, _, rs, re, e2, fun ρ1 H1 V1 x1 rs1 rv => ?_⟩
  have vd := VDs.derefs rs1 (.cons rv .nil) h1
  simp only [Ir.D.blt] at h2
  unfold Ir.D.bSorted at h2
  split at h2
  · rename_i ys
    simp only [Option.map_eq_some_iff] at h2
    obtain ⟨l, hl, h2⟩ := h2
    cases h2
    cases vd with
    | cons vd t =>
      cases t
      obtain ⟨a, zs, rfl, t, z, r⟩ := vd
      have hz := ints_ok2 r hl
      subst hz
      refine ⟨a, l, rfl, SqL.of t, fun ns' q hp hs hq => ?_⟩
      have hu : ns' = Ir.sortI l := List.Perm.eq_of_pairwise (fun a b _ _ h1 h2 => Int.le_antisymm h1 h2) hs (sort_sorted l) (hp.trans (sort_perm l).symm)
      subst hu
      refine sn_fin x1 rs1 (ints_rds _) ?_ hq k
      rw [List.length_map, (sort_perm l).length_eq]
      simpa using z
  · cases h2
theorem is_sorted {is : List Ir.Ex} : ∀ env st v st', Ir.eval C (.blt .sorted is) env st = .ok v st' → ∃ xs, v = .d (.lst xs) := fun env st v st' ev => by
  simp only [Ir.eval] at ev
  obtain ⟨vs, s1, e1, ev⟩ := bok ev
  obtain ⟨_, ds, r, _, h2, rfl⟩ := not_len (by decide) ev
  simp only [Ir.D.blt] at h2
  unfold Ir.D.bSorted at h2
  split at h2
  · simp only [Option.map_eq_some_iff] at h2
    obtain ⟨l, hl, h2⟩ := h2
    exact ⟨_, by rw [← h2]⟩
  · cases h2
/-! ### range by steps of two -/
theorem wk_rangeS {K : PySem.W.Frag} {ρ : Rho} {H : Hp} (lo : Int) (n : Nat) (z : n ≤ sizeLine) : Wk K ρ H (Itc lo 2 n) (Ir.rangeS lo n) where
  len := by simpa [Ir.rangeS] using z
  go := fun i x ρ1 H1 st e rs hx => by
    have hi : i < n := by
      have := (List.getElem?_eq_some_iff.mp hx).1
      simpa [Ir.rangeS] using this
    have ex : x = .int (lo + (i : Nat) * 2) := by
      simp only [Ir.rangeS, List.getElem?_map, List.getElem?_range hi, Option.map_some, Option.some.injEq] at hx
      exact hx.symm
    subst ex
    refine ⟨hi, fun w H' hy => ?_⟩
    obtain ⟨rfl, rfl⟩ := hy
    exact ⟨.refl _ _, rs, .int _⟩
  stop := fun i ρ1 H1 st e rs hl => by
    have : n ≤ i := by simpa [Ir.rangeS] using hl
    exact this
theorem step_size (i j : Int) : Builtin.Range.rangeSize i j 2 = ((Ir.stepN i j : Nat) : Int) := by
  unfold Builtin.Range.rangeSize Ir.stepN
  rw [if_pos (by decide)]
  split <;> omega
theorem step_ok {i j : Int} (h1 : 0 ≤ i) (h2 : i ≤ 16777216) (h3 : -16777216 ≤ j) (h4 : j ≤ 16777216) : RgC i j 2 (Ir.stepN i j) := by
  refine ⟨by decide, by decide, ?_, step_size i j⟩
  unfold Builtin.Range.small
  rw [step_size]
  simp only [Builtin.Range.rangeFitsLong, Bool.and_eq_true, Bool.or_eq_true, decide_eq_true_eq, beq_iff_eq, show (2 : Int) > 0 by decide, if_true]
  unfold Ir.stepN
  split <;> omega
theorem si_range3 {tg e f g : Expr} {i j l : Ir.Ex} {p pos : Pos} (h : SE X C e i) (h' : SE X C f j) (h'' : SE X C g l) (hm : X.mg (Str.ofString "range") = none) (hg : Gl X (Str.ofString "range") := by rfl) (hs : starEach [e, f, g] X.env = (false, eval e X.env) :: starEach [f, g] X.env := by rfl) (hs2 : starEach [f, g] X.env = (false, eval f X.env) :: starEach [g] X.env := by rfl) (hs3 : starEach [g] X.env = (false, eval g X.env) :: starEach [] X.env := by rfl) (hpl : (backTo pos (starEach [f, g] X.env)).any (·.1) = false := by rfl) : SI X C tg (.Call (.Name (Str.ofString "range") p) [e, f, g] [] pos) (.blt .rngS [i, j, l]) := by
  refine pi_imp (pi_range3 hg hm (pa_cons h (pa_cons h' (pa_cons h'' pa_nil hs3) hs2) hs) hs hpl) fun σ H R ⟨ρ, env, st, q, xs, st', rs, re, ev, hseq, k⟩ => ?_
  simp only [Ir.eval, Ir.evals] at ev
  obtain ⟨vs, s1, e1, ev⟩ := bok ev
  obtain ⟨v, s2, e2, e1⟩ := bok e1
  obtain ⟨ws, s3, e3, e1⟩ := bok e1
  obtain ⟨w, s4, e4, e3⟩ := bok e3
  obtain ⟨us, s5, e5, e3⟩ := bok e3
  obtain ⟨u, s6, e6, e5⟩ := bok e5
  simp only [Ir.Res.bind_ok] at e5
  cases e5
  cases e3
  cases e1
  obtain ⟨rfl, ds, r, h1, h2, h3⟩ := not_len (by decide) ev
  cases h3
  refine ⟨ρ, env, st, v, _, rs, re, e2, fun ρ1 H1 V1 x1 rs1 rv => ⟨ρ1, env, _, w, _, rs1, re.mono x1, e4, fun ρ2 H2 W1 x2 rs2 rw' => ⟨ρ2, env, _, u, _, rs2, re.mono (x1.trans x2), e6, fun ρ3 H3 U1 x3 rs3 ru => ?_⟩⟩⟩
  have vd := VDs.derefs rs3 (.cons (rv.mono (x2.trans x3)) (.cons (rw'.mono x3) (.cons ru .nil))) h1
  simp only [Ir.D.blt] at h2
  unfold Ir.D.bRngS at h2
  split at h2
  · rename_i a b c
    split at h2
    · rename_i hn
      cases h2
      simp only [Ir.D.seq, Option.some.injEq] at hseq
      subst hseq
      cases vd with
      | cons vd t =>
        cases t with
        | cons vd2 t =>
          cases t with
          | cons vd3 t =>
            cases t
            have e0 : (Ir.LIM : Int) = 16777216 := by rw [Ir.LIM_eq]; rfl
            have e1 : sizeLine = 16777216 := by decide
            obtain ⟨rfl, g1, g2, g3, g4⟩ := hn
            refine ⟨a, b, 2, Ir.stepN a b, by rw [RD.int_inv vd, RD.int_inv vd2, RD.int_inv vd3], step_ok g1 (by omega) (by omega) (by omega), k ρ3 H3 _ ((x1.trans x2).trans x3) rs3 (wk_rangeS a (Ir.stepN a b) ?_)⟩
            unfold Ir.stepN
            split <;> omega
    · cases h2
  · cases h2
/-! ### d.get(k) -/
theorem se_get1 {o e : Expr} {io ie : Ir.Ex} {apos cpos : Pos} {n0 : Nat} (hr : Room n0 X.A) (ho : SE X C o io) (he : SE X C e ie) (m : M1 X o (Str.ofString "get") apos e cpos := by exact ⟨rfl, rfl, rfl, rfl⟩) :
    SE X C (.Call (.Attribute o (Str.ofString "get") apos) [e] [] cpos) (.mth .get io [ie, .con .non]) := by
  refine pe_imp (pe_dget1 (hu_of hr) ho he m) fun σ H Q ⟨ρ, env, st, v, st', rs, re, ev, k⟩ => ?_
  obtain ⟨x, s1, vs, s2, e1, hk, e2, ev⟩ := mth_ev ev
  obtain ⟨n, ys, rfl, hn⟩ := mthOk_dic (.inr rfl) hk
  simp only [Ir.evals] at e2
  obtain ⟨y, s3, f2, e3⟩ := bok e2
  simp only [Ir.eval, Ir.Res.bind_ok] at e3
  cases e3
  refine ⟨ρ, env, st, _, s1, rs, re, e1, fun ρ1 H1 X1 x1 rs1 rx => ?_⟩
  obtain ⟨a, rfl, h1, ks, h2, h3, h4⟩ := RV.cell rs1 rx hn (by simp)
  refine ⟨a, rfl, .inl ⟨ks, .inl h2⟩, ρ1, env, s1, y, _, rs1, re.mono x1, f2, fun ρ2 H2 Y x2 rs2 ry => ?_⟩
  have w0 : Ir.mGet n s2 [y, .d .non] = .ok v st' := ev
  clear ev
  unfold Ir.mGet at w0
  split at w0
  · rename_i kd vd hd
    cases hd
    split at w0
    · rename_i kvs hx
      split at w0
      · rename_i hc
        cases w0
        obtain ⟨a', e', h1', ks', h2', h3', h4'⟩ := RV.cell rs2 (rx.mono x2) hx (by simp)
        cases e'
        obtain ⟨k', hk1, rfl⟩ := RK.kv ry hc
        refine ⟨_, .k h2', ?_⟩
        rcases RKs.look hk1 h4' with ⟨z1, z2⟩ | ⟨u, q, z1, z2, z3⟩
        · rw [z2]; rw [z1] at k
          exact k ρ2 H2 _ (x1.trans x2) rs2 RD.non
        · rw [z2]; rw [z1] at k
          exact k ρ2 H2 _ (x1.trans x2) rs2 z3
      · cases w0
    · cases w0
  · cases w0
end Snd

namespace Snd
open PySem PySem.Spec PyProof.Rows L2
variable {X : Cx} {C : Ir.Calls} {W : WX}
/-! ### expressions that may raise -/
def tX (C : Ir.Calls) (K : PySem.W.Frag) (mg : Str → Option Value) (W : WX) (e : Ir.EX) : TE := fun σ H Q => ∃ ρ env st r, RS ρ K st H ∧ REnv ρ K H env σ ∧ Ir.evalX C e env st = r ∧ GX K mg ρ H Q (WE W σ) r
def GXs (K : PySem.W.Frag) (mg : Str → Option Value) (ρ : Rho) (H : Hp) (Q : List V → Hp → Prop) (E : XK) : Ir.Res (List Ir.Val) → Prop
  | .ok v st' => ∀ ρ' H' x, Ext ρ H ρ' H' → RS ρ' K st' H' → RVs ρ' K H' v x → Q x H'
  | .exc c as st' => ∀ ρ' H' cls d, Ext ρ H ρ' H' → RS ρ' K st' H' → RXc mg c as cls d → E cls d H'
  | .bad => False
def tXs (C : Ir.Calls) (K : PySem.W.Frag) (mg : Str → Option Value) (W : WX) (es : List Ir.EX) : TA := fun σ H Q => ∃ ρ env st r, RS ρ K st H ∧ REnv ρ K H env σ ∧ Ir.evalXs C es env st = r ∧ GXs K mg ρ H Q (WE W σ) r
abbrev SX (X : Cx) (C : Ir.Calls) (W : WX) (e : Expr) (ir : Ir.EX) : Prop := PE X e (tX C X.K X.mg W ir)
abbrev SXs (X : Cx) (C : Ir.Calls) (W : WX) (es : List Expr) (ir : List Ir.EX) : Prop := PA X es (tXs C X.K X.mg W ir)
theorem sx_p {e : Expr} {i : Ir.Ex} (h : SE X C e i) : SX X C W e (.p i) := pe_imp h fun σ H Q ⟨ρ, env, st, r, rs, re, ev, k⟩ => by
  simp only [Ir.evalX] at ev
  cases r with
  | ok v s => exact ⟨ρ, env, st, v, s, rs, re, Ir.noexc_inv ev, k⟩
  | exc c as s => exact (Ir.noexc_not ev).elim
  | bad => exact k.elim
theorem sxs_nil : SXs X C W [] [] := pa_imp pa_nil fun σ H Q ⟨ρ, env, st, r, rs, re, ev, k⟩ => by
  simp only [Ir.evalXs] at ev; subst ev; exact k ρ H _ (.refl _ _) rs .nil
theorem sxs_cons {e : Expr} {es : List Expr} {i : Ir.EX} {is : List Ir.EX} (h : SX X C W e i) (hs : SXs X C W es is) (hst : starEach (e :: es) X.env = (false, eval e X.env) :: starEach es X.env := by rfl) : SXs X C W (e :: es) (i :: is) := by
  refine pa_imp (pa_cons h hs hst) fun σ H Q ⟨ρ, env, st, r, rs, re, ev, k⟩ => ?_
  simp only [Ir.evalXs] at ev
  cases e1 : Ir.evalX C i env st with
  | bad => rw [e1] at ev; simp only [Ir.Res.bind_bad] at ev; subst ev; exact k.elim
  | exc c as s1 =>
    rw [e1] at ev; simp only [Ir.Res.bind_exc] at ev; subst ev
    exact ⟨ρ, env, st, _, rs, re, e1, k⟩
  | ok x s1 =>
    rw [e1] at ev
    simp only [Ir.Res.bind_ok] at ev
    refine ⟨ρ, env, st, _, rs, re, e1, fun ρ1 H1 X1 x1 rs1 rx => ?_⟩
    cases e2 : Ir.evalXs C is env s1 with
    | bad => rw [e2] at ev; simp only [Ir.Res.bind_bad] at ev; subst ev; exact k.elim
    | exc c as s2 =>
      rw [e2] at ev; simp only [Ir.Res.bind_exc] at ev; subst ev
      exact ⟨ρ1, env, s1, _, rs1, re.mono x1, e2, fun ρ2 H2 cls d x2 rs2 r2 => k ρ2 H2 cls d (x1.trans x2) rs2 r2⟩
    | ok xs s2 =>
      rw [e2] at ev; simp only [Ir.Res.bind_ok] at ev; subst ev
      exact ⟨ρ1, env, s1, _, rs1, re.mono x1, e2, fun ρ2 H2 XS x2 rs2 rxs => k ρ2 H2 (X1 :: XS) (x1.trans x2) rs2 (.cons (rx.mono x2) rxs)⟩
theorem sx_call {T : Ir.Tab} {KW : List Kw} {n : Nat} {f : String} {fn : Ir.Fn} {e : Expr} {es : List Expr} {is : List Ir.EX} {p pos : Pos} (tk : Takes X W) (ft : FT T KW n X.prog X.w X.K X.mg X.base) (hT : T f = some fn) (hr : Room n X.A) (hs : SXs X (Ir.callN T n) W (e :: es) is) (hg : Gl X (Str.ofString f) := by rfl) (hx : fn.x = true := by rfl)
    (hdb : (Str.ofString f == ("__debug__" : Str)) = false := by decide) (he : starEach (e :: es) X.env = (false, eval e X.env) :: starEach es X.env := by rfl) (hpl : (backTo pos (starEach es X.env)).any (·.1) = false := by rfl) :
    SX X (Ir.callN T n) W (.Call (.Name (Str.ofString f) p) (e :: es) [] pos) (.call f is) := by
  obtain ⟨a, fd, ps, F, hm, hk, hb, _⟩ := ft.okX f fn hT hx
  refine pe_imp (pe_callS F hr hg hm hk hb (fun σ => passAt tk σ) hs hdb he hpl) fun σ H Q ⟨ρ, env, st, r, rs, re, ev, k⟩ => ?_
  simp only [Ir.evalX] at ev
  cases e1 : Ir.evalXs (Ir.callN T n) is env st with
  | bad => rw [e1] at ev; simp only [Ir.Res.bind_bad] at ev; subst ev; exact k.elim
  | exc c as s1 =>
    rw [e1] at ev; simp only [Ir.Res.bind_exc] at ev; subst ev
    exact ⟨ρ, env, st, _, rs, re, e1, k⟩
  | ok vs s1 =>
    rw [e1] at ev
    simp only [Ir.Res.bind_ok] at ev
    refine ⟨ρ, env, st, _, rs, re, e1, fun ρ1 H1 XS x1 rs1 rx => ?_⟩
    exact ⟨ρ1, s1, vs, r, rs1, rx, ev, k.mono x1⟩
theorem sx_ite {c a b : Expr} {ic : Ir.Ex} {ia ib : Ir.EX} {pos : Pos} (hc : ST X C c ic) (ha : SX X C W a ia) (hb : SX X C W b ib) : SX X C W (.IfExp c a b pos) (.ite ic ia ib) := by
  refine pe_imp (pe_ifExp hc ha hb) fun σ H Q ⟨ρ, env, st, r, rs, re, ev, k⟩ => ?_
  simp only [Ir.evalX] at ev
  cases e1 : Ir.noexc (Ir.eval C ic env st) with
  | bad => rw [e1] at ev; simp only [Ir.Res.bind_bad] at ev; subst ev; exact k.elim
  | exc c as s1 => exact (Ir.noexc_not e1).elim
  | ok x s1 =>
    rw [e1] at ev
    simp only [Ir.Res.bind_ok] at ev
    have e1 := Ir.noexc_inv e1
    cases e2 : Ir.asB x with
    | none => rw [e2] at ev; have : r = .bad := ev.symm; subst this; exact k.elim
    | some c =>
      rw [e2] at ev
      simp only [Ir.optR_some, Ir.Res.bind_ok] at ev
      obtain rfl := asB_ok e2
      refine ⟨ρ, env, st, c, s1, rs, re, e1, fun ρ1 H1 x1 rs1 => ?_⟩
      cases c with
      | false =>
        simp only [Bool.false_eq_true, if_false] at ev ⊢
        exact ⟨ρ1, env, s1, r, rs1, re.mono x1, ev, k.mono x1⟩
      | true =>
        simp only [if_true] at ev ⊢
        exact ⟨ρ1, env, s1, r, rs1, re.mono x1, ev, k.mono x1⟩
/-! ### statements -/
theorem catch_ok {α : Type} {r : Ir.Res α} {σ : Ir.Env} {f : α → Ir.Store → Ir.Res Ir.Out} {o : Ir.Out} {st' : Ir.Store} (h : Ir.catchX r σ f = .ok o st') : (∃ a s, r = .ok a s ∧ f a s = .ok o st') ∨ ∃ c as, r = .exc c as st' ∧ o = .thr c as σ := by
  cases r with
  | ok a s => exact .inl ⟨a, s, rfl, h⟩
  | exc c as s => cases h; exact .inr ⟨c, as, rfl, rfl⟩
  | bad => cases h
theorem ss_exX {e : Expr} {i : Ir.EX} {pos : Pos} (h : SX X C W e i) (hs : swapsWith e none pos.line X.env = pure false := by rfl) : SS X C W (.Expr e pos) (.exX i) := ps_imp (ps_expr h hs) fun D σ H ⟨ρ, env, st, o, st', rs, re, ev, k⟩ => by
  simp only [Ir.exec] at ev
  rcases catch_ok ev with ⟨v, s1, e1, ev⟩ | ⟨c, as, e1, rfl⟩
  · cases ev
    exact ⟨ρ, env, st, _, rs, re, e1, fun ρ1 H1 x x1 rs1 rx => k ρ1 H1 σ x1 rs1 (re.mono x1)⟩
  · exact ⟨ρ, env, st, _, rs, re, e1, fun ρ1 H1 cls d x1 rs1 rx => k ρ1 H1 σ cls d x1 rs1 (re.mono x1) rx⟩
theorem ss_retX {e : Expr} {i : Ir.EX} {pos : Pos} (h : SX X C W e i) : SS X C W (.Return (some e) pos) (.retX i) := ps_imp (ps_ret h) fun D σ H ⟨ρ, env, st, o, st', rs, re, ev, k⟩ => by
  simp only [Ir.exec] at ev
  rcases catch_ok ev with ⟨v, s1, e1, ev⟩ | ⟨c, as, e1, rfl⟩
  · cases ev
    exact ⟨ρ, env, st, _, rs, re, e1, fun ρ1 H1 x x1 rs1 rx => k ρ1 H1 x x1 rs1 rx⟩
  · exact ⟨ρ, env, st, _, rs, re, e1, fun ρ1 H1 cls d x1 rs1 rx => k ρ1 H1 σ cls d x1 rs1 (re.mono x1) rx⟩
theorem ss_setX (i : Nat) {x : Str} {e : Expr} {ie : Ir.EX} {pos pos' : Pos} (hN : X.N.Nodup) (he : SX X C W e ie) (hx : Loc X.env.scope x := by first | exact .inl rfl | exact .inr rfl) (hi : X.N[i]? = some x := by rfl) (hs : swapsWith e (some (.Name x pos')) pos.line X.env = pure false := by rfl) (hf : X.fn x = true ∨ X.env.scope.names.lookup x = some .local := by first | exact .inl rfl | exact .inr rfl | assumption) :
    SS X C W (.Assign [.Name x pos'] e pos) (.asgX (.name i) ie) := by
  refine ps_imp (ps_set hN hi hx he hs hf) fun D σ H ⟨ρ, env, st, o, st', rs, re, ev, k⟩ => ?_
  simp only [Ir.exec] at ev
  rcases catch_ok ev with ⟨v, s1, e1, ev⟩ | ⟨c, as, e1, rfl⟩
  · obtain ⟨env1, e2, ev⟩ := ook ev
    cases ev
    simp only [Ir.Tg.putV, Option.some.injEq] at e2
    subst e2
    exact ⟨ρ, env, st, _, rs, re, e1, fun ρ1 H1 x x1 rs1 rx => k ρ1 H1 _ x1 rs1 ((re.mono x1).set rx i)⟩
  · exact ⟨ρ, env, st, _, rs, re, e1, fun ρ1 H1 cls d x1 rs1 rx => k ρ1 H1 σ cls d x1 rs1 (re.mono x1) rx⟩
/-- the facts of a class of errors -/
def ExcF (K : PySem.W.Frag) (mg : Str → Option Value) (c : String) (bm : List Value) (newId : String) : Prop := ∃ C : Addr, mg (Str.ofString c) = some (.ref C) ∧ PySem.W.excIn K C bm newId = true ∧ PySem.W.keepIn K (.ref C) = true ∧
  PySem.W.subIn K (.ref C) (.type "BaseException") = some true ∧ PySem.W.typeIn K (.ref C) = some (.type "type") ∧ PySem.W.exmOne K (.ref C) (.ref C) = some true
theorem exm_refl {K : PySem.W.Frag} {S : Addr} (hb : PySem.W.subIn K (.ref S) (.type "BaseException") = some true) (hi : PySem.W.isClsIn K S = true) (ht : PySem.W.typeIn K (.ref S) = some (.type "type")) (hs : PySem.W.subIn K (.ref S) (.ref S) = some true) : PySem.W.exmOne K (.ref S) (.ref S) = some true := by
  have hi' : (PySem.W.clsIn K S).isSome = true := hi
  have c1 : (PySem.W.subIn K (.ref S) (.type "BaseException") == some true) = true := by rw [hb] <;> rfl
  have c2 : ((PySem.W.clsIn K S).isSome && PySem.W.typeIn K (.ref S) == some (.type "type")) = true := by rw [hi', ht] <;> rfl
  unfold PySem.W.exmOne
  first
    | rw [if_pos c1, if_pos c2]; exact hs
    | simp only [c1, c2, if_true]; exact hs
    | exact (if_pos c1).trans ((if_pos c2).trans hs)
/-- raise C("..") of a class of one's own without __init__ -/
theorem ss_raise {bmB : List Value} {B newId initId : String} {c : String} {m : Str} {j : Nat} {p p2 pos pos2 : Pos} (hc : X.calm = true) (tk : Takes X W) (hB : ExcBaseFacts B newId initId bmB) (hf : ExcF X.K X.mg c bmB newId) (hg : Gl X (Str.ofString c) := by rfl) (hdb : (Str.ofString c == ("__debug__" : Str)) = false := by decide) :
    SS X C W (.Raise (some (.Call (.Name (Str.ofString c) p) [.Constant (.str m) j p2] [] pos)) none pos2) (.raise c) := by
  obtain ⟨Cc, hm, hx, hk, hb, ht, _⟩ := hf
  refine ps_imp (ps_raise hc tk (pmk_own hB hx hm hk (raises_own hb ht) hg hdb)) fun D σ H ⟨ρ, env, st, o, st', rs, re, ev, k⟩ => ?_
  simp only [Ir.exec] at ev
  cases ev
  exact k ρ H σ _ _ (.refl _ _) rs re ⟨rfl, hm, rfl⟩
/-- try: .. except C: .. -/
theorem ss_try {c : String} {bm : List Value} {newId : String} {body suite : List Stmt} {b₀ : Stmt} {np pos pos' : Pos} {ib ih : List Ir.Stm} (tk : Takes X W) (hF : ExcF X.K X.mg c bm newId)
    (hb : ∀ (W' : WX) (pn : List (Addr × Obj)) (xe : Value → Shared → Prop), Takes (X.tr pn xe) W' → PassesOwn (model X.prog X.w) X.A X.env xe → SSs (X.tr pn xe) C W' body ib)
    (hh : ∀ (a : Addr) (oe : Obj) (cls : Value) (d : Option Addr) (pn : List (Addr × Obj)), SSs (X.suite a ((a, oe) :: pn)) C (fun _ _ _ _ => False) (b₀ :: suite) ih)
    (hg : Gl X (Str.ofString c) := by rfl) (hdb : (Str.ofString c == ("__debug__" : Str)) = false := by decide) (hs : X.stack = X.env :: X.outer := by rfl) (hf : X.env.frame = some X.env.locals := by rfl) :
    SS X C W (.Try body [.ExceptHandler (some (.Name (Str.ofString c) np)) none (b₀ :: suite) pos'] [] [] pos) (.tryX ib c ih) := by
  obtain ⟨Cc, hm, _, _, _, _, he⟩ := hF
  refine ps_imp (ps_try_only (Wout := W) (tb := fun W' => tS C X.K X.mg W' ib) (ts := fun _ _ _ => tS C X.K X.mg (fun _ _ _ _ => False) ih) hs hf ⟨hg, hdb, .inl hm⟩ tk (fun W' pn xe tk' hp => hb W' pn xe tk' hp) (fun a oe cls d pn _ _ => hh a oe cls d pn)) fun D σ H ⟨ρ, env, st, o, st', rs, re, ev, k⟩ => ?_
  simp only [Ir.exec] at ev
  obtain ⟨o1, s1, e1, ev1⟩ := bok ev
  clear ev
  refine ⟨ρ, env, st, o1, s1, rs, re, e1, ?_⟩
  cases o1 with
  | nx v => simp only at ev1; cases ev1; exact k
  | ret v => simp only at ev1; cases ev1; exact k
  | brk v => simp only at ev1; cases ev1; exact k
  | cnt v => simp only at ev1; cases ev1; exact k
  | thr c' as v =>
    simp only at ev1
    split at ev1
    · rename_i hc
      subst hc
      intro ρ1 H1 σ1 cls d x1 rs1 re1 rx
      obtain ⟨_, rx2, _⟩ := rx
      rw [hm] at rx2
      cases rx2
      refine ⟨true, he, fun _ a ha => ?_, fun q => Bool.noConfusion q⟩
      obtain ⟨o2, s2, e2, ev2⟩ := bok ev1
      have ho : o2 = o ∧ s2 = st' ∧ ∀ c as e, o ≠ .thr c as e := by
        cases o2 with
        | thr c as e => cases ev2
        | _ => cases ev2; exact ⟨rfl, rfl, fun _ _ _ z => by cases z⟩
      obtain ⟨rfl, rfl, hno⟩ := ho
      refine ⟨ρ1, v, s1, o2, s2, rs1, re1, e2, ?_⟩
      cases o2 with
      | nx e => exact fun ρ2 H2 σ2 x2 rs2 re2 => k ρ2 H2 σ2 (x1.trans x2) rs2 re2
      | ret e => exact fun ρ2 H2 σ2 x2 rs2 re2 => k ρ2 H2 σ2 (x1.trans x2) rs2 re2
      | brk e => exact fun ρ2 H2 σ2 x2 rs2 re2 => k ρ2 H2 σ2 (x1.trans x2) rs2 re2
      | cnt e => exact fun ρ2 H2 σ2 x2 rs2 re2 => k ρ2 H2 σ2 (x1.trans x2) rs2 re2
      | thr c2 as2 e => exact absurd rfl (hno _ _ _)
    · cases ev1
/-! ### a list turned round -/
theorem RDs.reverse {ρ : Rho} {K : PySem.W.Frag} {H : Hp} : ∀ {xs : List Ir.D} {ys : List V}, RDs ρ K H xs ys → RDs ρ K H xs.reverse ys.reverse
  | _, _, .nil => .nil
  | _, _, .cons h r => by
    simp only [List.reverse_cons]
    exact (RDs.reverse r).append (.cons h .nil)
theorem sn_rev {e : Expr} {ie : Ir.Ex} {k : Nat} {p1 p2 p3 pos : Pos} (h : SE X C e ie) : SN X C (.Subscript e (.Slice none none (some (.UnaryOp .USub (.Constant (.int 1) k p1) p2)) p3) pos) (.rev ie) := by
  refine pe_imp (pe_revL h) fun σ H Q ⟨ρ, env, st, xs, st', rs, re, ev, k⟩ => ?_
  simp only [Ir.eval] at ev
  obtain ⟨x, s1, e1, ev⟩ := bok ev
  obtain ⟨q, e2, ev⟩ := ook ev
  obtain ⟨r, e3, ev⟩ := ook ev
  cases ev
  refine ⟨ρ, env, st, x, _, rs, re, e1, fun ρ1 H1 X1 x1 rs1 rx => ?_⟩
  have vd := VD.deref rs1 rx e2
  cases q <;> simp only [Ir.revV, reduceCtorEq] at e3
  · rename_i zs
    cases e3
    obtain ⟨a, ys, rfl, t, z, r⟩ := vd
    exact ⟨a, ys, rfl, SqL.of t, fun p hp => sn_fin x1 rs1 r.reverse (by rw [List.length_reverse]; exact z) hp k⟩
theorem is_rev {ie : Ir.Ex} : ∀ env st v st', Ir.eval C (.rev ie) env st = .ok v st' → ∃ xs, v = .d (.lst xs) := fun env st v st' ev => by
  simp only [Ir.eval] at ev
  obtain ⟨x, s1, e1, ev⟩ := bok ev
  obtain ⟨q, e2, ev⟩ := ook ev
  obtain ⟨r, e3, ev⟩ := ook ev
  cases ev
  cases q <;> simp only [Ir.revV, reduceCtorEq] at e3
  cases e3
  exact ⟨_, rfl⟩
end Snd

namespace Snd
open PySem PySem.Spec PyProof.Rows L2
/-! ### set(x), x a list of ints -/
abbrev eS (w : World) : Obj := { cls := .type "set", dict := none, data := .set #[] 0 (.fresh 0 0 (!w.params.followText "set-order")) }
abbrev withS (w : World) (t : Shared) : Shared := { t with heap := t.heap.push (eS w) }
abbrev Kept (g h : Heap) : Prop := ∀ b u, g.get? b = some u → h.get? b = some u
section
variable {P : Program} {w : World} {A : Around} {E : Value → Shared → Prop} {t : Shared}
set_option maxHeartbeats 3200000 in
theorem init_setL {l : Addr} {its : Array Value} {ks : List Int} {R : Value → Shared → Prop} (hd : A.handled = none) (il : t.heap.IsList l its) (ia : IntsAre its.toList ks) (few : ks.length + 1 < scanBound)
    (fin : ∀ h' tk c, SetR w h' t.heap.objs.size (fun j => decide (j ∈ ks)) c → c ≤ ks.length → Kept t.heap h' → R .none { t with heap := h', toks := tk }) :
    codeAny (model P w) A (.call (.builtin "set.__init__") ⟨[.ref t.heap.objs.size, .ref l], []⟩) (wants R E) (withS w t) := by
  have many : its.size = ks.length := by
    rw [← Array.length_toList]; exact IntsAre.length ia
  have at0 : (withS w t).heap.get? t.heap.objs.size = some (eS w) := Heap.get?_push_size _ rfl
  have ty : Shared.TypeIs (withS w t) (.ref t.heap.objs.size) "set" := ⟨_, at0, rfl⟩
  refine codeAny_call_builtin F.called_set.init.plain F.entry_set_init (check_set_init_1 ty ?_)
  obtain ⟨⟨oc, od, oda, osl⟩, lo, ec, nl, ed⟩ := il
  dsimp only at ec ed
  subst ec ed
  have lt : l < t.heap.objs.size := Heap.lt_size lo
  have lo2 : (withS w t).heap.get? l = some { cls := .type "list", dict := od, data := .seq its nl, slots := osl } := Heap.get?_push_of_some _ lo
  have il2 : (withS w t).heap.IsList l its := ⟨_, lo2, rfl, nl, rfl⟩
  have s1 := F.sub_list_set
  have s2 := F.sub_list_frozenset
  have nd : (Value.type "list" == Value.type "dict") = false := by decide
  unfold Builtin.«set.__init__» noKeywords Builtin.Frozenset.updateFrom
  generalize ePI : pyIter = PI
  wp_walk
  subst ePI
  refine wpAny_pyIter_list il2 ?_
  refine wpAny_bind (wpAny_runValue ?_)
  have sz : (withS w t).heap.objs.size = t.heap.objs.size + 1 := Heap.size_push ..
  have lI : l ≠ (withS w t).heap.objs.size := fun h => Nat.ne_of_lt (Nat.lt_succ_of_lt lt) (h.trans sz)
  have off : t.heap.objs.size ∉ [(withS w t).heap.objs.size, l] := by
    intro h
    rcases List.mem_cons.mp h with h | h
    · exact Nat.ne_of_lt (Nat.lt_succ_self _) (h.trans sz)
    · exact Nat.ne_of_gt lt (List.mem_singleton.mp h)
  have each : ∀ (i : Nat) (v : Value), its[i]? = some v → ∃ k u, ks[i]? = some k ∧ v = .int k u := fun i v e => by
    have hi : i < ks.length := by rw [← many]; exact (Array.getElem?_eq_some_iff.mp e).1
    obtain ⟨u, eu⟩ := PyProof.Rows.IntsAre.int_at ia i v (by rw [Array.getElem?_toList]; exact e)
    refine ⟨ks[i], u, List.getElem?_eq_getElem hi, ?_⟩
    rw [eu, List.getD_eq_getElem?_getD, List.getElem?_eq_getElem hi] <;> rfl
  refine set_update_ints ((Walks.list (by simp [hd]) _ l lI its).toS) t.heap.objs.size off ks many few each (its.size - 0) 0 _ (by omega) (Nat.zero_le _) ⟨⟨_, Heap.get?_push_size _ rfl, rfl, rfl⟩, il2.push _⟩ ⟨0, Nat.le_refl 0, setR_new_at (Heap.get?_push_of_some _ at0)⟩ fun t' c mv hc R' => ?_
  obtain ⟨h', g', d', tk', o'⟩ := t'
  have e1 : g' = t.gens := mv.gens
  have e2 : d' = t.drawn := mv.drawn
  have e3 : o' = t.os := mv.os
  subst e1 e2 e3
  refine wpAny_pure ?_
  show wpAny _ _ (ret Value.none) _ _ _
  refine wpAny_pure (fin h' tk' c R' (by omega) fun b u e => ?_)
  have hb := Heap.lt_size e
  refine mv.heap b u (fun h => ?_) (Heap.get?_push_of_some _ (Heap.get?_push_of_some _ e))
  simp only [List.mem_cons, List.mem_singleton, List.not_mem_nil, or_false] at h
  rcases h with h | h
  · exact Nat.ne_of_lt hb h
  · exact Nat.ne_of_lt (Nat.lt_succ_of_lt hb) (h.trans sz)
set_option maxHeartbeats 3200000 in
theorem make_setL {l : Addr} {its : Array Value} {ks : List Int} {Q : Value → Shared → Prop} (hd : A.handled = none) (il : t.heap.IsList l its) (ia : IntsAre its.toList ks) (few : ks.length + 1 < scanBound)
    (fin : ∀ h' tk c, SetR w h' t.heap.objs.size (fun j => decide (j ∈ ks)) c → c ≤ ks.length → Kept t.heap h' → Q (.ref t.heap.objs.size) { t with heap := h', toks := tk }) :
    wpAny (model P w) A (call (.type "set") [.ref l]) Q E t := by
  obtain ⟨_, _, hM⟩ := F.called_set.mro
  have m1 := F.called_set.made
  have m2 := F.called_set.sub
  have m3 := F.called_set.notType
  have m4 := F.called_set.canCreate
  have m5 := F.typeCall_set_1 (.ref l)
  refine wpAny_call (codeAny_of_tree (wpAny_pure ⟨Code.quiet_builtin _ (by decide +kernel), codeAny_builtin F.entry_type_call ?_⟩))
  rw [Around.under_plain (weight_type_call_type "set" [.ref l] []) rfl]
  repeat (any_goals (first | assumption | wp_step))
  refine codeAny_mono (code_set_led1 (.ref l) (E := E) (Q₁ := fun v u => v = .ref t.heap.objs.size ∧ u = withS w t) ⟨rfl, rfl⟩) fun r u hr => ?_
  rcases r with e | fl
  · exact hr
  cases fl with
  | ret v =>
    obtain ⟨rfl, rfl⟩ := hr
    have at0 : (withS w t).heap.get? t.heap.objs.size = some (eS w) := Heap.get?_push_size _ rfl
    have ty : Shared.TypeIs (withS w t) (.ref t.heap.objs.size) "set" := ⟨_, at0, rfl⟩
    have m6 := F.called_set.init.lookup
    have m7 := F.called_set.init.bind (.ref t.heap.objs.size)
    repeat (any_goals (first | assumption | wp_step))
    refine codeAny_mono (init_setL (E := E) (R := fun v u => v = .none ∧ Q (.ref t.heap.objs.size) u) (by simp [hd]) il ia few fun h' tk c R1 hc kp => ⟨rfl, fin h' tk c R1 hc kp⟩) fun r u hr => ?_
    rcases r with e | fl
    · exact hr
    cases fl with
    | ret v =>
      obtain ⟨rfl, q⟩ := hr
      repeat (any_goals (first | assumption | wp_step))
    | _ => exact hr.elim
  | _ => exact hr.elim
end
section
variable {X : Cx} {C : Ir.Calls}
def rSetL (K : PySem.W.Frag) (w : World) : List V → Hp → VK → Prop := fun vs H Q => ∃ (a : Addr) (ks : List Int), vs = [V.ref a] ∧ SqL K H a (ks.map V.int) ∧ ks.length ≤ 1000 ∧
  ∀ (p : Addr) (S : Int → Bool) (n : Nat) (us : List Int), (∀ k, S k = true ↔ k ∈ ks) → us.Nodup → (∀ k, k ∈ us ↔ k ∈ ks) → us.length = n → H p = none → Q (.ref p) (upd H p (SetO w p S n))
theorem cr_setL (hc : X.calm = true) : CallR X (.type "set") (rSetL X.K X.w) := by
  intro pins t σ H vs us Q I r h
  obtain ⟨a, ks, rfl, hs, few, q⟩ := h
  obtain ⟨its, rv, il, hz⟩ := I.list hs
  rw [Vals.ref1 r]
  have ia : IntsAre its.toArray.toList ks := ints_of_vals rv
  refine make_setL (I.ok.hd hc) il.isList ia (by unfold scanBound; omega) fun h' tk c R1 hcn kp => ?_
  have fr : H t.heap.objs.size = none := I.hok.fresh (Nat.le_refl _)
  have J : Inv X pins σ (upd H t.heap.objs.size (SetO X.w t.heap.objs.size (fun j => decide (j ∈ ks)) c)) { t with heap := h', toks := tk } := I.laid (t' := tk) kp (Nat.le_refl _) (setO_new R1)
  refine ⟨.ref _, _, J, rfl, ?_⟩
  obtain ⟨o, es, ep, tb, ho, hex, hdt, g, nd, hm, hb, hf, hn, hr, hl⟩ := R1
  refine q _ _ _ (es.toList.map keyOf) (fun k => by simp) nd (fun k => ?_) (by rw [List.length_map, Array.length_toList]; exact hn) fr
  rw [← hm k]; simp
theorem bv_set : bootBuiltins (Str.ofString "set") = some (.type "set") := by decide +kernel
theorem insD_mem (x : Int) : ∀ l : List Int, ∀ k, k ∈ Ir.insD x l ↔ k = x ∨ k ∈ l
  | [], k => by simp [Ir.insD]
  | y :: l, k => by
    unfold Ir.insD
    split
    · simp
    · split
      · rename_i _ e; subst e; simp
      · rw [List.mem_cons, insD_mem x l, List.mem_cons]
        constructor
        · rintro (h | h | h) <;> simp [h]
        · rintro (h | h | h) <;> simp [h]
theorem insD_up (x : Int) : ∀ l : List Int, l.Pairwise (· < ·) → (Ir.insD x l).Pairwise (· < ·)
  | [], _ => by simp [Ir.insD]
  | y :: l, h => by
    unfold Ir.insD
    have h' := List.pairwise_cons.mp h
    split
    · rename_i c
      refine List.pairwise_cons.mpr ⟨fun z hz => ?_, h⟩
      rcases List.mem_cons.mp hz with rfl | hz
      · exact c
      · exact Int.lt_trans c (h'.1 z hz)
    · split
      · exact h
      · rename_i c e
        refine List.pairwise_cons.mpr ⟨fun z hz => ?_, insD_up x l h'.2⟩
        rcases (insD_mem x l z).mp hz with rfl | hz
        · omega
        · exact h'.1 z hz
theorem sset_mem : ∀ (l : List Int) k, k ∈ Ir.ssetI l ↔ k ∈ l
  | [], k => by simp [Ir.ssetI]
  | x :: l, k => by unfold Ir.ssetI; rw [insD_mem, sset_mem l, List.mem_cons]
theorem sset_up : ∀ l : List Int, (Ir.ssetI l).Pairwise (· < ·)
  | [] => by simp [Ir.ssetI]
  | x :: l => insD_up x _ (sset_up l)
theorem up_one {xs ys : List Int} (h1 : xs.Pairwise (· < ·)) (h2 : ys.Pairwise (· < ·)) (h : ∀ k, k ∈ xs ↔ k ∈ ys) : xs = ys := by
  have n1 : xs.Nodup := h1.imp fun h => Int.ne_of_lt h
  have n2 : ys.Nodup := h2.imp fun h => Int.ne_of_lt h
  have p : xs.Perm ys := (List.perm_ext_iff_of_nodup n1 n2).mpr h
  exact List.Perm.eq_of_pairwise (fun a b _ _ h1 h2 => by omega) h1 h2 p
theorem sn_sset {e : Expr} {i : Ir.Ex} {p p2 pos pos2 : Pos} (hc : X.calm = true) (h : SE X C e i) (hm : X.mg (Str.ofString "sorted") = none) (hm2 : X.mg (Str.ofString "set") = none) (hg : Gl X (Str.ofString "sorted") := by rfl) (hg2 : Gl X (Str.ofString "set") := by rfl)
    (he : starEach [e] X.env = (false, eval e X.env) :: starEach [] X.env := by rfl) (hpl : (backTo pos (starEach [] X.env)).any (·.1) = false := by rfl)
    (he2 : starEach [.Call (.Name (Str.ofString "set") p) [e] [] pos] X.env = (false, eval (.Call (.Name (Str.ofString "set") p) [e] [] pos) X.env) :: starEach [] X.env := by rfl) (hpl2 : (backTo pos2 (starEach [] X.env)).any (·.1) = false := by rfl) :
    SN X C (.Call (.Name (Str.ofString "sorted") p2) [.Call (.Name (Str.ofString "set") p) [e] [] pos] [] pos2) (.blt .sset [i]) := by
  have hi := pe_callTy (p := p) (cr_setL hc) hg2 hm2 bv_set (pa_cons h pa_nil he) (by decide) (by decide) he hpl
  refine pe_imp (pe_callB (cr_sortedSet hc) hg hm bv_sorted (pa_cons hi pa_nil he2) (by decide) (by decide) he2 hpl2) fun σ H Q ⟨ρ, env, st, xs, st', rs, re, ev, k⟩ => ?_
  simp only [Ir.eval, Ir.evals] at ev
  obtain ⟨vs, s1, e1, ev⟩ := bok ev
  obtain ⟨v, s2, e2, e1⟩ := bok e1
  simp only [Ir.Res.bind_ok] at e1
  cases e1
  obtain ⟨rfl, ds, r, h1, h2, h3⟩ := not_len (by decide) ev
  cases h3
  refine ⟨ρ, env, st, v, _, rs, re, e2, fun ρ1 H1 V1 x1 rs1 rv => ?_⟩
  have vd := VDs.derefs rs1 (.cons rv .nil) h1
  simp only [Ir.D.blt] at h2
  unfold Ir.D.bSset at h2
  split at h2
  · rename_i ys
    simp only [Option.bind_eq_some_iff] at h2
    obtain ⟨l, hl, h2⟩ := h2
    split at h2
    · rename_i lim
      cases h2
      cases vd with
      | cons vd t =>
        cases t
        obtain ⟨a, zs, rfl, t, z, r⟩ := vd
        have hz := ints_ok2 r hl
        subst hz
        refine ⟨a, l, rfl, SqL.of t, lim.1, fun q S n us hS hnd hus hn hq => ?_⟩
        have hperm : us.Perm (Ir.ssetI l) := (List.perm_ext_iff_of_nodup hnd ((sset_up l).imp fun h => Int.ne_of_lt h)).mpr fun k => by rw [hus, sset_mem]
        have hn2 : n = (Ir.ssetI l).length := by rw [← hn, hperm.length_eq]
        have kp := Ext.keep rs1 hq (SetO X.w q S n)
        refine ⟨q, S, n, rfl, upd_same, by omega, fun ns p hs hm hln hp => ?_⟩
        have : ns = Ir.ssetI l := up_one hs (sset_up l) fun k => by rw [hm, hS, sset_mem]
        subst this
        refine sn_fin (x1.trans kp) (rs1.keep hq _) (ints_rds _) ?_ hp k
        rw [List.length_map, sizeLine_eq]; omega
    · cases h2
  · cases h2
theorem is_sset {is : List Ir.Ex} : ∀ env st v st', Ir.eval C (.blt .sset is) env st = .ok v st' → ∃ xs, v = .d (.lst xs) := fun env st v st' ev => by
  simp only [Ir.eval] at ev
  obtain ⟨vs, s1, e1, ev⟩ := bok ev
  obtain ⟨_, ds, r, _, h2, rfl⟩ := not_len (by decide) ev
  simp only [Ir.D.blt] at h2
  unfold Ir.D.bSset at h2
  split at h2
  · simp only [Option.bind_eq_some_iff] at h2
    obtain ⟨l, hl, h2⟩ := h2
    split at h2
    · cases h2; exact ⟨_, rfl⟩
    · cases h2
  · cases h2
/-! ### a raising function called where it does not raise -/
theorem run_kwX {CX : CXT} {k : Nat} {f : Addr} {fd : FuncData} {ps : List Str} {sp : Sp} {pins : List (Addr × Obj)} {σ : L2.St} {H : Hp} {s : Shared} {Q : VK} {us ws : List Value} {vs zs : List V} {q : Kw} (hq : q.2.2.2.2 = []) (F : FnOk X.prog X.w X.K X.mg X.base CX k f fd ps sp) (hr : Room k X.A) (hx : PassesAt CX X σ E0) (hb : KwOk X.K fd ps q) (h1 : us.length = q.2.1) (h2 : ws.length = q.2.2.1.length)
    (I : Inv X pins σ H s) (r : Vals vs us) (rz : Vals zs ws) (h : sp (permV q.2.2.2.1 (vs ++ zs)) H Q E0) : wpAny (model X.prog X.w) X.A (call (.ref f) us (q.2.2.1.zip ws)) (EP X pins σ Q) X.xe s := by
  obtain ⟨dv, dvs, rd, rds, hb⟩ := hb
  have ed := rds ⟨[], []⟩ H
  rw [hq] at ed
  cases ed
  have h' : sp (permV q.2.2.2.1 (vs ++ zs ++ [])) H Q E0 := by rw [List.append_nil]; exact h
  have r2 := permV_vals ((r.append rz).append rd) q.2.2.2.1
  refine wpAny_call (codeAny_mono (F.run X.A X.stack s H ⟨us, q.2.2.1.zip ws⟩ _ _ Q E0 hr I.env0 (hb s us ws I.kIn h1 h2) r2 h') fun r s' hq => ?_)
  rcases r with e | fl
  · exact hx pins H s e s' I hq
  cases fl with
  | ret u => exact I.after hq
  | _ => exact False.elim hq
theorem se_callXK0 {T : Ir.Tab} {KW : List Kw} {n : Nat} {f : String} {fn : Ir.Fn} {ks : List Str} {perm : List Nat} {kws : List Keyword} {is : List Ir.Ex} {p pos : Pos} (ft : FT T KW n X.prog X.w X.K X.mg X.base) (hT : T f = some fn) (hq : (f, 0, ks, perm, []) ∈ KW) (hr : Room n X.A) (hs : SKs X (Ir.callN T n) kws is) (hl : is.length = ks.length := by rfl) (hg : Gl X (Str.ofString f) := by rfl)
    (hx : fn.x = true := by rfl) (hdb : (Str.ofString f == ("__debug__" : Str)) = false := by decide) (hall : (backToKw pos (keywordEach kws X.env)).all (·.1.isSome) = true := by rfl) (hks : (backToKw pos (keywordEach kws X.env)).filterMap (·.1) = ks := by rfl)
    (hpl : ((backTo pos (starEach [] X.env)).any (·.1) || (backToKw pos (keywordEach kws X.env)).any (·.1.isNone)) = false := by rfl) :
    SE X (Ir.callN T n) (.Call (.Name (Str.ofString f) p) [] kws pos) (.callP f is perm) := by
  obtain ⟨a, fd, ps, F, hm, hk, hb, hkw⟩ := ft.okX f fn hT hx
  refine ⟨fun pins s σ H Q I h => ?_⟩
  obtain ⟨ρ, env, st, v, st', rs, re, ev, k⟩ := h
  simp only [Ir.eval] at ev
  obtain ⟨vs, s1, e1, ev⟩ := bok ev
  refine wpAny_Call_Name_kw (ld_glob I hg hm ?_ hdb)
  refine PySem.W.callWith_KW0 (h₀ := X.base) I.ok.mod.kin hk hall ?_ hpl
  have go := hs.run pos pins s σ H (fun zs H2 => zs.length = ks.length ∧ spX T n X.K X.mg f (permV perm zs) H2 Q E0) I ⟨ρ, env, st, vs, s1, rs, re, e1, fun ρ1 H1 XS x1 rs1 rx => ⟨by rw [← rx.length, evals_len _ _ _ _ _ e1, hl], ρ1, s1, _, _, rs1, permV_rvs rx perm, ev, fun ρ' H' x x2 rs2 r2 => k ρ' H' x (x1.trans x2) rs2 r2⟩⟩
  refine thn go fun ws s2 ⟨zs, H2, I2, rz, hzl, q2⟩ => ⟨I2.kIn, ?_⟩
  rw [hks]
  exact run_kwX (q := (f, 0, ks, perm, [])) rfl (us := []) (vs := []) F hr (passAt takes0 σ) (hkw _ hq rfl) rfl (by rw [← rz.length]; exact hzl) I2 .nil rz q2
end
end Snd

namespace HT
open PySem PySem.Spec PyProof.Rows
/-! ### t[::-1] -/
section
variable {prog : Program} {w : World} {A : Around} {E : Value → Shared → Prop} {s : Shared}
theorem fm_some {α β : Type} {f : α → Option β} {g : α → β} : ∀ {l : List α}, (∀ a ∈ l, f a = some (g a)) → l.filterMap f = l.map g
  | [], _ => rfl
  | a :: l, h => by
    rw [List.filterMap_cons, h a (by simp), List.map_cons, fm_some fun b hb => h b (List.mem_cons_of_mem _ hb)]
theorem rev_pick (xs : Array Value) : ((List.range xs.size).filterMap fun (m : Nat) => xs[(((xs.size : Int) - 1) + (m : Int) * (-1)).toNat]?) = xs.toList.reverse := by
  apply List.ext_getElem?
  intro i
  have h : (List.range xs.size).filterMap (fun (m : Nat) => xs[(((xs.size : Int) - 1) + (m : Int) * (-1)).toNat]?) = (List.range xs.size).map fun m => xs.getD (xs.size - 1 - m) .none := by
    refine fm_some fun m hm => ?_
    have hm := List.mem_range.mp hm
    have e : (((xs.size : Int) - 1) + (m : Int) * (-1)).toNat = xs.size - 1 - m := by omega
    rw [e]
    have hl : xs.size - 1 - m < xs.size := by omega
    simp [Array.getD, hl]
  rw [h, List.getElem?_map]
  by_cases hi : i < xs.size
  · rw [List.getElem?_range hi, List.getElem?_reverse (by rw [Array.length_toList]; exact hi)]
    have hl : xs.size - 1 - i < xs.size := by omega
    simp [Array.getD, hl]
  · rw [List.getElem?_eq_none (by simp; omega), List.getElem?_eq_none (by simp; omega)]; rfl
theorem rev_applied {sl : Addr} {vl vu vs : Value} {n : Nat} {Q : Int × Int × Nat → Shared → Prop} (hs : s.heap.IsSliceOf sl vl vu vs) (pl : IsPart vl none) (pu : IsPart vu none) (ps : IsPart vs (some (-1)))
    (h : Q ((n : Int) - 1, -1, n) s) : wpAny (model prog w) A (Builtin.Slice.sliceApplied (.ref sl) (pure (n : Int))) Q E s := by
  obtain ⟨o, ho, _, ed⟩ := hs
  unfold Builtin.Slice.sliceApplied Builtin.Slice.sliceFields
  refine wpAny_bind (wpAny_bind (wpAny_field ho ed (x := vl) rfl (wpAny_bind (wpAny_field ho ed (x := vu) rfl (wpAny_bind (wpAny_field ho ed (x := vs) rfl (wpAny_pure ?_)))))))
  refine wpAny_bind (slicePart_ ps ?_)
  show wpAny _ _ (if ((-1 : Int) == 0) = true then _ else _) _ _ s
  rw [if_neg (by decide)]
  refine wpAny_bind (slicePart_ pl (wpAny_bind (slicePart_ pu (wpAny_bind (wpAny_pure ?_)))))
  have ea : Builtin.Slice.sliceAdjust none none (-1) (n : Int) = ((n : Int) - 1, -1) := by
    simp [Builtin.Slice.sliceAdjust]
  show wpAny _ _ (match Builtin.Slice.sliceAdjust none none (-1) (n : Int) with | (lo, hi) => pure (lo, (-1 : Int), Builtin.Slice.slicePlaces lo hi (-1))) _ _ s
  rw [ea]
  have ep : Builtin.Slice.slicePlaces ((n : Int) - 1) (-1) (-1) = n := by
    simp [Builtin.Slice.slicePlaces]
    try omega
  show wpAny _ _ (pure ((n : Int) - 1, (-1 : Int), Builtin.Slice.slicePlaces ((n : Int) - 1) (-1) (-1))) _ _ s
  rw [ep]
  exact wpAny_pure h
theorem getItem_tuple_rev {t sl : Addr} {items : Array Value} {vl vu vs : Value} {Q : Value → Shared → Prop} (ht : IsTup s.heap t items) (hs : s.heap.IsSliceOf sl vl vu vs) (pl : IsPart vl none) (pu : IsPart vu none) (ps : IsPart vs (some (-1)))
    (h : Q (.ref s.heap.objs.size) { s with heap := s.heap.push { cls := .type "tuple", data := .seq items.toList.reverse.toArray } }) (fit : items.size ≤ sizeLine) : wpAny (model prog w) A (getItem (.ref t) (.ref sl)) Q E s := by
  have ok : sizeOk (.seq items.toList.reverse.toArray) := by
    show items.toList.reverse.toArray.size ≤ sizeLine
    simpa using fit
  obtain ⟨o, ho, ec, ed⟩ := id hs
  have ty : s.TypeIs (.ref sl) "slice" := ⟨o, ho, ec⟩
  unfold getItem
  try with_reducible refine wpAny_holding ?_
  first | refine wpAny_bind (wpAny_pure ?_) | skip
  refine wpAny_bind (wpAny_sequenceKey ht.typeIs (by decide) (wpAny_bind (wpAny_callSpecial?_slot (name := Str.ofString "__getitem__") ht.typeIs PyProof.Rows.slot_tuple_getitem (wpAny_call_entry PyProof.Rows.slot_tuple_getitem ht.typeIs entry_tuple_getitem ?_ (args_tuple_getitem _ _)))))
  show wpAny _ _ (Builtin.Tuple.tupleItemsOf (.ref t) >>= _) _ _ s
  refine wpAny_bind (tupleItemsOf_ ht (wpAny_bind (wpAny_typeOf ty ?_)))
  rw [if_pos (by decide)]
  refine wpAny_bind (rev_applied hs pl pu ps ?_)
  have no : ¬ ((((items.size : Int) - 1) == 0 && (-1 : Int) == 1 && items.size == items.size) = true) := by simp
  show wpAny _ _ (if ((((items.size : Int) - 1) == 0 && (-1 : Int) == 1 && items.size == items.size) = true) then _ else _) _ _ s
  rw [if_neg no, rev_pick]
  first
    | exact wpAny_bind (m := Builtin.Tuple.tupleExact _) (wpAny_newObj_type (wpAny_pure ⟨_, rfl, wpAny_pure h⟩) ok)
    | exact wpAny_bind (m := Builtin.Tuple.tupleExact _) (wpAny_newObj_type (wpAny_bind (wpAny_pure (wpAny_pure ⟨_, rfl, wpAny_pure h⟩))) ok)
    | exact wpAny_bind (wpAny_bind (m := Builtin.Tuple.tupleExact _) (wpAny_newObj_type (wpAny_pure (wpAny_pure ⟨_, rfl, wpAny_pure h⟩)) ok))
    | exact wpAny_bind (wpAny_bind (m := Builtin.Tuple.tupleExact _) (wpAny_newObj_type (wpAny_pure ⟨_, rfl, wpAny_pure h⟩) ok))
end
end HT
namespace Snd
open PySem PySem.Spec PyProof.Rows L2
variable {X : Cx} {C : Ir.Calls}
def tRevT (K : PySem.W.Frag) (te : TE) : TE := fun σ H Q => te σ H fun x H1 => ∃ a xs, x = .ref a ∧ SqT K H1 a xs ∧ ∀ p, H1 p = none → Q (.ref p) (upd H1 p (.tup xs.reverse))
theorem pe_revT {e : Expr} {te : TE} {k : Nat} {p1 p2 p3 pos : Pos} (he : PE X e te) : PE X (.Subscript e (.Slice none none (some (.UnaryOp .USub (.Constant (.int 1) k p1) p2)) p3) pos) (tRevT X.K te) := by
  refine ⟨fun pins t σ H Q I h => Subscript_ (thn (he.run pins t σ H _ I h) fun v t1 ⟨x, H1, I1, r1, a, xs, ex, hx, q⟩ => ?_)⟩
  subst ex; cases r1
  have hm : PO X (some (.UnaryOp .USub (.Constant (.int 1) k p1) p2)) (tPart (tUn (rU fun i => .int (-i)) (tC (.int 1)))) := po_some (pe_un un_neg pe_int)
  refine wpAny_Slice (thn (po_none.run pins t1 σ H1 (fun o G => o = none ∧ G = H1) I1 ⟨rfl, rfl⟩) fun vl t2 ⟨l, G2, I2, pl, el, e2⟩ => ?_)
  subst el e2
  refine thn (po_none.run pins t2 σ G2 (fun o G => o = none ∧ G = G2) I2 ⟨rfl, rfl⟩) fun vu t3 ⟨u, G3, I3, pu, eu, e3⟩ => ?_
  subst eu e3
  refine thn (hm.run pins t3 σ G3 (fun o G => o = some (-1) ∧ G = G3) I3 ⟨1, rfl, -1, rfl, rfl, rfl⟩) fun vs t4 ⟨o, G4, I4, ps, eo, e4⟩ => ?_
  subst eo e4
  have I5 : Inv X pins σ G4 { t4 with heap := t4.heap.push { cls := .type "slice", data := .fields #[vl, vu, vs] } } := I4.kept (t' := t4.toks) fun b ob q => Heap.get?_push_of_some _ q
  obtain ⟨its, r, ht, hz⟩ := I5.tuple hx
  have hlen := r.length
  show wpAny (model X.prog X.w) X.A (subscriptTail e (.Slice none none (some (.UnaryOp .USub (.Constant (.int 1) k p1) p2)) p3) (.ref a) (.ref t4.heap.objs.size)) (EP X pins σ Q) X.xe { t4 with heap := t4.heap.push { cls := .type "slice", data := .fields #[vl, vu, vs] } }
  refine tail_any (ops := [.ref a, .ref t4.heap.objs.size]) ht.typeIs (PyProof.Rows.slot_tuple_getitem.lookup) ?_ (by with_unfolding_all rfl)
  refine HT.getItem_tuple_rev ht (Heap.IsSliceOf.new _ vl vu vs) pl pu ps ?_ (by rw [List.size_toArray]; omega)
  refine ⟨.ref _, _, I5.laid (t' := t4.toks) (o := .tup xs.reverse) (fun b ob q => Heap.get?_push_of_some _ q) (Nat.le_refl _) ?_, rfl, q _ (I5.hok.fresh (Nat.le_refl _))⟩
  exact ⟨by rw [List.length_reverse]; exact hz, _, r.reverse, IsTup.new _ _⟩
theorem se_revT {e : Expr} {ie : Ir.Ex} {k : Nat} {p1 p2 p3 pos : Pos} (h : SE X C e ie) : SE X C (.Subscript e (.Slice none none (some (.UnaryOp .USub (.Constant (.int 1) k p1) p2)) p3) pos) (.blt .revT [ie]) := by
  refine pe_imp (pe_revT h) fun σ H Q ⟨ρ, env, st, xs, st', rs, re, ev, k⟩ => ?_
  simp only [Ir.eval, Ir.evals] at ev
  obtain ⟨vs, s1, e1, ev⟩ := bok ev
  obtain ⟨v, s2, e2, e1⟩ := bok e1
  simp only [Ir.Res.bind_ok] at e1
  cases e1
  obtain ⟨rfl, ds, r, h1, h2, h3⟩ := not_len (by decide) ev
  cases h3
  refine ⟨ρ, env, st, v, _, rs, re, e2, fun ρ1 H1 V1 x1 rs1 rv => ?_⟩
  have vd := VDs.derefs rs1 (.cons rv .nil) h1
  simp only [Ir.D.blt] at h2
  unfold Ir.D.bRevT at h2
  split at h2
  · cases h2
    cases vd with
    | cons vd t =>
      cases t
      obtain ⟨a, ys, rfl, t, z, r⟩ := RD.tup_inv vd
      refine ⟨a, ys, rfl, t.sq, fun p hp => ?_⟩
      exact k _ _ _ (x1.trans (.grow rs1 hp _)) (rs1.grow hp _) (grow_tup rs1 r.reverse (by rw [List.length_reverse]; exact z) hp)
  · cases h2
/-! ### max(xs, default=d) -/
def mxI (ns : List Int) (d : Int) : Int := match ns with
  | [] => d
  | b :: r => r.foldl (fun m x => if x > m then x else m) b
theorem mx_fold : ∀ (r : List Int) (b : Int), r.foldl max b = r.foldl (fun m x => if x > m then x else m) b
  | [], _ => rfl
  | x :: r, b => by
    rw [List.foldl_cons, List.foldl_cons, mx_fold r]
    congr 1
    rw [Int.max_def]
    split <;> split <;> omega
theorem depth_ints : ∀ ns : List Int, PyData.depthAll (ns.map PyData.int) ≤ 1
  | [] => by simp [PyData.depthAll]
  | n :: ns => by
    have := depth_ints ns
    simp only [List.map_cons, PyData.depthAll, PyData.depth]
    omega
theorem alike_intsP (ns : List Int) : PySem.W.AlikeAll (ns.map PyData.int) := by
  refine ⟨fun x hx y hy => ?_, fun x hx => ?_⟩
  · obtain ⟨i, _, rfl⟩ := List.mem_map.mp hx
    obtain ⟨j, _, rfl⟩ := List.mem_map.mp hy
    first | rfl | simp [PySem.W.alike]
  · obtain ⟨i, _, rfl⟩ := List.mem_map.mp hx
    simp
def rMaxd (K : PySem.W.Frag) : List V → List V → Hp → VK → Prop := fun vs zs H Q => ∃ (a : Addr) (ns : List Int) (d : Int), vs = [V.ref a] ∧ zs = [V.int d] ∧ SqL K H a (ns.map V.int) ∧ Q (.int (mxI ns d)) H
theorem cr_maxd (hc : X.calm = true) (hu : X.A.units + 65 < cLine) : CallRK X (.builtin "max") [Str.ofString "default"] (rMaxd X.K) := by
  intro pins t σ H vs zs us ws Q I r rz h
  obtain ⟨a, ns, d, rfl, rfl, hs, q⟩ := h
  obtain ⟨its, rv, il, hz⟩ := I.list hs
  rw [Vals.ref1 r]
  cases rz with
  | cons r1 r2 =>
    cases r2
    obtain ⟨tk, rfl⟩ := r1
    have ia : IntsAre its.toArray.toList ns := ints_of_vals rv
    have hd := depth_ints ns
    refine PySem.W.max_list_default (I.ok.hd hc) il.isList (PyProof.Rows.ints_readAll _ ia) (alike_intsP ns) (by omega) (fun e h' tk' kp => ?_) fun y ys i v h' tk' bs e hi rd kp => ?_
    · have : ns = [] := by simpa using e
      subst this
      exact ⟨.int d, H, I.kept (t' := tk') kp, ⟨_, rfl⟩, q⟩
    · cases ns with
      | nil => simp at e
      | cons n ns =>
        simp only [List.map_cons, List.cons.injEq] at e
        obtain ⟨rfl, rfl⟩ := e
        rw [PySem.W.maxD_ints] at rd
        obtain ⟨u, rfl, _⟩ := PyProof.Rows.reads_int_inv rd
        refine ⟨.int _, H, I.kept (t' := tk') kp, ⟨u, rfl⟩, ?_⟩
        rw [mx_fold]; exact q
theorem bv_max' : bootBuiltins (Str.ofString "max") = some (.builtin "max") := by decide +kernel
theorem se_maxd {n : Nat} {e : Expr} {d : Expr} {i j : Ir.Ex} {p pos kpos : Pos} (hc : X.calm = true) (hr : Room n X.A) (h : SE X C e i) (h2 : SE X C d j) (hm : X.mg (Str.ofString "max") = none) (hg : Gl X (Str.ofString "max") := by rfl)
    (he : backTo pos (starEach (e :: []) X.env) = (false, eval e X.env) :: backTo pos (starEach [] X.env) := by rfl) (hpl : (backTo pos (starEach (e :: []) X.env)).any (·.1) = false := by rfl)
    (hall : (backToKw pos (keywordEach [⟨some (Str.ofString "default"), d, kpos⟩] X.env)).all (·.1.isSome) = true := by rfl) (hnone : (backToKw pos (keywordEach [⟨some (Str.ofString "default"), d, kpos⟩] X.env)).any (·.1.isNone) = false := by rfl) (hks : (backToKw pos (keywordEach [⟨some (Str.ofString "default"), d, kpos⟩] X.env)).filterMap (·.1) = [Str.ofString "default"] := by rfl)
    (he2 : starEach [e] X.env = (false, eval e X.env) :: starEach [] X.env := by rfl) :
    SE X C (.Call (.Name (Str.ofString "max") p) [e] [⟨some (Str.ofString "default"), d, kpos⟩] pos) (.blt .maxd [i, j]) := by
  refine pe_imp (pe_callBK (cr_maxd hc (units65 hr)) hg hm bv_max' (pa_cons h pa_nil he2) (pk_cons h2 pk_nil) (by decide) (by decide) he hpl hall hnone hks) fun σ H Q ⟨ρ, env, st, xs, st', rs, re, ev, k⟩ => ?_
  simp only [Ir.eval, Ir.evals] at ev
  obtain ⟨vs, s1, e1, ev⟩ := bok ev
  obtain ⟨v, s2, e2, e1⟩ := bok e1
  obtain ⟨ws, s3, e3, e1⟩ := bok e1
  obtain ⟨w, s4, e4, e3⟩ := bok e3
  simp only [Ir.Res.bind_ok] at e3 e1
  cases e3
  cases e1
  obtain ⟨rfl, ds, r, h1, h2, h3⟩ := not_len (by decide) ev
  cases h3
  refine ⟨ρ, env, st, v, _, rs, re, e2, fun ρ1 H1 V1 x1 rs1 rv => ⟨ρ1, env, s2, w, _, rs1, re.mono x1, e4, fun ρ2 H2 V2 x2 rs2 rw => ?_⟩⟩
  have vd := VDs.derefs rs2 (.cons (rv.mono x2) (.cons rw .nil)) h1
  simp only [Ir.D.blt] at h2
  unfold Ir.D.bMaxd at h2
  split at h2
  · rename_i ys dd
    simp only [Option.map_eq_some_iff] at h2
    obtain ⟨l, hl, h2⟩ := h2
    cases h2
    cases vd with
    | cons vd t =>
      cases t with
      | cons vd2 t =>
        cases t
        obtain ⟨a, zs, rfl, t, z, r⟩ := vd
        have hz := ints_ok2 r hl
        subst hz
        have hd2 := RD.int_inv vd2
        subst hd2
        refine ⟨a, l, dd, rfl, rfl, SqL.of t, k _ _ _ (x1.trans x2) rs2 ?_⟩
        cases l with
        | nil => exact RD.int dd
        | cons b l => exact RD.int _
  · cases h2
end Snd

namespace Prog
abbrev f_is_name_c0 : Ir.Ex := .cmp .sin (.var 1) (.con (.str "abcdefghijklmnopqrstuvwxyz"))
def f_is_name : Ir.Fn := ⟨2, 1, [.ite (.or (.not (.isi (.var 0) [.str])) (.or (.not (.chain .le .le (.con (.int 1)) (.blt .len [.var 0]) (.con (.int 8)))) (.or (.kd .isin [("num", .str "n"), ("truth", .str "b"), ("name", .str "x"), ("fn", .str "xp"), ("rec", .str "xxp"), ("call", .str "pp"), ("let", .str "xpp"), ("if", .str "ppp"), ("plus", .str "pp"), ("less", .str "pp"), ("pair", .str "pp"), ("first", .str "p"), ("second", .str "p"), ("nil", .str ""), ("cons", .str "pp"), ("head", .str "p"), ("tail", .str "p"), ("none", .str "p"), ("off", .str "p")] (.var 0)) (.cmp .isin (.var 0) (.con (.tup [.str "true", .str "false", .str "int", .str "bool", .str "list"])))))) [.ret (.con (.bool false))] [],
    .ret (.blt .all [.comp (f_is_name_c0) (.name 1) (.blt .chars [.var 0]) []])], false⟩
def f_fits : Ir.Fn := ⟨2, 2, [.ite (.cmp .eq (.var 1) (.con (.str "n"))) [.ret (.and (.isi (.var 0) [.int]) (.not (.isi (.var 0) [.bool])))] [],
    .ite (.cmp .eq (.var 1) (.con (.str "b"))) [.ret (.isi (.var 0) [.bool])] [],
    .ite (.cmp .eq (.var 1) (.con (.str "x"))) [.ret (.call "is_name" [.var 0])] [],
    .ret (.and (.isi (.var 0) [.tuple]) (.cmp .gt (.blt .len [.var 0]) (.con (.int 0))))], false⟩
abbrev f_bound_at_c0 : Ir.Ex := .var 5
abbrev f_bound_at_k0 : List Ir.Ex := [.isi (.var 5) [.str]]
def f_bound_at : Ir.Fn := ⟨6, 3, [.asg (.star [3] 4 []) (.var 0),
    .ite (.or (.cmp .isin (.var 3) (.tup [.con (.str "fn"), .con (.str "rec")])) (.and (.cmp .eq (.var 3) (.con (.str "let"))) (.cmp .eq (.var 1) (.con (.int 3))))) [.ret (.bin .add (.var 2) (.comp (f_bound_at_c0) (.name 5) (.var 4) f_bound_at_k0))] [],
    .ret (.var 2)], false⟩
abbrev f_formed_here_c0 : Ir.Ex := .call "fits" [.var 7, .var 8]
abbrev f_formed_here_c1 : Ir.Ex := .var 6
abbrev f_formed_here_k0 : List Ir.Ex := [.isi (.var 7) [.tuple]]
abbrev f_formed_here_c2 : Ir.Ex := .call "formed_here" [.idx (.var 0) (.var 6), .call "bound_at" [.var 0, .var 6, .var 1]]
def f_formed_here : Ir.Fn := ⟨9, 2, [.ite (.or (.not (.isi (.var 0) [.tuple])) (.or (.cmp .eq (.blt .len [.var 0]) (.con (.int 0))) (.not (.isi (.idx (.var 0) (.con (.int 0))) [.str])))) [.ret (.con (.bool false))] [],
    .asg (.star [2] 3 []) (.var 0),
    .asg (.name 4) (.kd .get [("num", .str "n"), ("truth", .str "b"), ("name", .str "x"), ("fn", .str "xp"), ("rec", .str "xxp"), ("call", .str "pp"), ("let", .str "xpp"), ("if", .str "ppp"), ("plus", .str "pp"), ("less", .str "pp"), ("pair", .str "pp"), ("first", .str "p"), ("second", .str "p"), ("nil", .str ""), ("cons", .str "pp"), ("head", .str "p"), ("tail", .str "p"), ("none", .str "p"), ("off", .str "p")] (.var 2)),
    .ite (.or (.cmp .is (.var 4) (.con .non)) (.or (.cmp .ne (.blt .len [.var 3]) (.blt .len [.var 4])) (.not (.blt .all [.comp (f_formed_here_c0) (.tup [.name 7, .name 8]) (.blt .zipS [.var 3, .var 4]) []])))) [.ret (.con (.bool false))] [],
    .ite (.or (.and (.cmp .eq (.var 2) (.con (.str "name"))) (.cmp .notin (.idx (.var 3) (.con (.int 0))) (.var 1))) (.and (.cmp .eq (.var 2) (.con (.str "off"))) (.cmp .eq (.idx (.idx (.var 3) (.con (.int 0))) (.con (.int 0))) (.con (.str "off"))))) [.ret (.con (.bool false))] [],
    .ite (.and (.cmp .eq (.var 2) (.con (.str "rec"))) (.cmp .eq (.idx (.var 3) (.con (.int 0))) (.idx (.var 3) (.con (.int 1))))) [.ret (.con (.bool false))] [],
    .asg (.name 5) (.comp (f_formed_here_c1) (.tup [.name 6, .name 7]) (.blt .enum [.var 0]) f_formed_here_k0),
    .ret (.blt .all [.comp (f_formed_here_c2) (.name 6) (.var 5) []])], false⟩
def f_formed : Ir.Fn := ⟨1, 1, [.ret (.call "formed_here" [.var 0, .lst []])], false⟩
abbrev f_law_bag_b0 : List Ir.Stm := [.asg (.name 1) (.bin .mod (.bin .add (.bin .add (.bin .mul (.var 1) (.con (.int 48271))) (.bin .mod (.var 2) (.con (.int 2147483629)))) (.con (.int 1))) (.con (.int 2147483647)))]
abbrev f_law_bag_c0 : Ir.Ex := .bin .mod (.blt .abs [.var 2]) (.bin .pow (.bin .pow (.con (.int 10)) (.con (.int 60))) (.con (.int 10)))
def f_law_bag : Ir.Fn := ⟨3, 1, [.asg (.name 1) (.con (.int 19)),
    .loop (.name 2) (.sli (.var 0) none (some (.con (.int 63)))) f_law_bag_b0,
    .ret (.newL (.lst [.comp (f_law_bag_c0) (.name 2) (.sli (.var 0) none (some (.con (.int 63)))) [], .con (.int 0), .con (.int 0), .var 1, .con (.int 0)]))], false⟩
abbrev f_law_stirred_b0 : List Ir.Stm := [.set (.var 0) (.con (.int 4)) (.bin .add (.idx (.var 0) (.con (.int 4))) (.con (.int 1))),
    .set (.var 0) (.con (.int 3)) (.bin .mod (.bin .add (.bin .add (.bin .add (.bin .pow (.idx (.var 0) (.con (.int 3))) (.con (.int 3))) (.bin .mul (.con (.int 69621)) (.idx (.var 0) (.con (.int 3))))) (.bin .mul (.con (.int 1031)) (.idx (.var 0) (.con (.int 4))))) (.con (.int 1))) (.con (.int 2147483647))),
    .asg (.name 2) (.bin .add (.bin .mul (.var 2) (.con (.int 134217728))) (.bin .fdiv (.idx (.var 0) (.con (.int 3))) (.con (.int 16))))]
def f_law_stirred : Ir.Fn := ⟨4, 2, [.asg (.name 2) (.con (.int 0)),
    .loop (.name 3) (.blt .range [.bin .add (.con (.int 1)) (.bin .fdiv (.mth .bit_length (.var 1) []) (.con (.int 27)))]) f_law_stirred_b0,
    .ret (.bin .mod (.var 2) (.var 1))], false⟩
def f_law_draw : Ir.Fn := ⟨3, 2, [.ite (.and (.cmp .eq (.idx (.var 0) (.con (.int 2))) (.con (.int 0))) (.cmp .lt (.idx (.var 0) (.con (.int 1))) (.blt .len [.idx (.var 0) (.con (.int 0))]))) [.set (.var 0) (.con (.int 2)) (.idx (.idx (.var 0) (.con (.int 0))) (.idx (.var 0) (.con (.int 1)))),
    .set (.var 0) (.con (.int 1)) (.bin .add (.idx (.var 0) (.con (.int 1))) (.con (.int 1)))] [.ite (.cmp .eq (.idx (.var 0) (.con (.int 2))) (.con (.int 0))) [.ret (.call "_law_stirred" [.var 0, .var 1])] []],
    .asg (.name 2) (.bin .mod (.idx (.var 0) (.con (.int 2))) (.var 1)),
    .set (.var 0) (.con (.int 2)) (.bin .fdiv (.idx (.var 0) (.con (.int 2))) (.var 1)),
    .ret (.var 2)], false⟩
abbrev f_law_pool_c0 : Ir.Ex := .idx (.var 1) (.call "_law_draw" [.var 0, .con (.int 26)])
abbrev f_law_pool_b0 : List Ir.Stm := [.asg (.name 8) (.bin .add (.var 9) (.idx (.var 1) (.var 10))),
    .asg (.name 10) (.bin .add (.var 10) (.con (.int 1)))]
abbrev f_law_pool_w0 : Ir.Ex := .or (.cmp .isin (.var 8) (.var 6)) (.cmp .isin (.var 8) (.var 2))
abbrev f_law_pool_b1 : List Ir.Stm := [.asg (.name 8) (.mth .join (.con (.str "")) [.comp (f_law_pool_c0) (.name 11) (.blt .range [.bin .add (.con (.int 1)) (.call "_law_draw" [.var 0, .con (.int 8)])]) []]),
    .ite (.cmp .eq (.var 3) (.con (.int 1))) [.asg (.name 8) (.bin .add (.bin .add (.sli (.var 4) none (some (.var 5))) (.sli (.var 8) none (some (.con (.int 1))))) (.sli (.var 4) (some (.bin .add (.var 5) (.con (.int 1)))) none))] [],
    .ite (.cmp .eq (.var 3) (.con (.int 2))) [.asg (.name 8) (.sli (.bin .add (.var 4) (.var 8)) none (some (.bin .add (.con (.int 1)) (.call "_law_draw" [.var 0, .con (.int 8)]))))] [],
    .asg (.name 9) (.sli (.var 8) none (some (.con (.int 7)))),
    .asg (.name 10) (.con (.int 0)),
    .while (f_law_pool_w0) f_law_pool_b0,
    .ex (.mth .append (.var 6) [.var 8])]
def f_law_pool : Ir.Fn := ⟨12, 1, [.asg (.name 1) (.con (.str "abcdefghijklmnopqrstuvwxyz")),
    .asg (.name 2) (.lst [.con (.str "num"), .con (.str "truth"), .con (.str "name"), .con (.str "fn"), .con (.str "rec"), .con (.str "call"), .con (.str "let"), .con (.str "if"), .con (.str "plus"), .con (.str "less"), .con (.str "pair"), .con (.str "first"), .con (.str "second"), .con (.str "nil")]),
    .asg (.name 2) (.bin .add (.var 2) (.lst [.con (.str "cons"), .con (.str "head"), .con (.str "tail"), .con (.str "none"), .con (.str "off"), .con (.str "true"), .con (.str "false"), .con (.str "int"), .con (.str "bool"), .con (.str "list")])),
    .asg (.name 3) (.call "_law_draw" [.var 0, .con (.int 3)]),
    .asg (.name 4) (.mth .join (.con (.str "")) [.comp (f_law_pool_c0) (.name 7) (.blt .range [.bin .add (.con (.int 1)) (.call "_law_draw" [.var 0, .con (.int 8)])]) []]),
    .asg (.name 5) (.call "_law_draw" [.var 0, .blt .len [.var 4]]),
    .asg (.name 6) (.newL (.lst [])),
    .loop (.name 7) (.blt .range [.bin .add (.con (.int 4)) (.call "_law_draw" [.var 0, .con (.int 5)])]) f_law_pool_b1,
    .ret (.frz (.var 6))], false⟩
def f_law_names : Ir.Fn := ⟨1, 1, [.ret (.sli (.call "_law_pool" [.var 0]) none (some (.con (.int 3))))], false⟩
abbrev f_law_shape_b0 : List Ir.Stm := [.set (.var 1) (.var 2) (.con (.str "pp"))]
abbrev f_law_shape_b1 : List Ir.Stm := [.set (.var 1) (.var 2) (.con (.str "p"))]
def f_law_shape : Ir.Fn := ⟨3, 1, [.asg (.name 1) (.newDd [.con (.str "num"), .con (.str "n"), .con (.str "truth"), .con (.str "b"), .con (.str "name"), .con (.str "x"), .con (.str "fn"), .con (.str "xp"), .con (.str "rec"), .con (.str "xxp"), .con (.str "call"), .con (.str "pp"), .con (.str "let"), .con (.str "xpp"), .con (.str "if"), .con (.str "ppp")]),
    .loop (.name 2) (.lst [.con (.str "plus"), .con (.str "less"), .con (.str "pair"), .con (.str "cons")]) f_law_shape_b0,
    .loop (.name 2) (.lst [.con (.str "first"), .con (.str "second"), .con (.str "head"), .con (.str "tail"), .con (.str "none"), .con (.str "off")]) f_law_shape_b1,
    .set (.var 1) (.con (.str "nil")) (.con (.str "")),
    .ret (.mth .get (.var 1) [.var 0, .con .non])], false⟩
def f_law_atom : Ir.Fn := ⟨3, 2, [.asg (.name 2) (.call "_law_draw" [.var 0, .con (.int 8)]),
    .ite (.and (.cmp .lt (.var 2) (.con (.int 4))) (.cmp .ne (.var 1) (.lst []))) [.ret (.tup [.con (.str "name"), .idx (.var 1) (.call "_law_draw" [.var 0, .blt .len [.var 1]])])] [],
    .ite (.cmp .lt (.var 2) (.con (.int 6))) [.ret (.tup [.con (.str "num"), .idx (.lst [.call "_law_draw" [.var 0, .con (.int 10)], .bin .sub (.con (.int 0)) (.call "_law_draw" [.var 0, .con (.int 1000)]), .call "_law_draw" [.var 0, .bin .pow (.con (.int 10)) (.con (.int 60))]]) (.call "_law_draw" [.var 0, .con (.int 3)])])] [],
    .ret (.ite (.cmp .eq (.var 2) (.con (.int 6))) (.tup [.con (.str "truth"), .cmp .eq (.call "_law_draw" [.var 0, .con (.int 2)]) (.con (.int 1))]) (.tup [.con (.str "nil")]))], false⟩
abbrev f_law_prog_c0 : Ir.Ex := .var 22
abbrev f_law_prog_k0 : List Ir.Ex := [.cmp .ne (.var 22) (.var 13)]
abbrev f_law_prog_b0 : List Ir.Stm := [.asg (.name 19) (.ite (.cmp .lt (.var 18) (.bin .sub (.var 8) (.con (.int 1)))) (.call "_law_draw" [.var 0, .bin .add (.var 16) (.con (.int 1))]) (.var 16)),
    .asg (.name 16) (.bin .sub (.var 16) (.var 19)),
    .asg (.name 20) (.ite (.and (.cmp .eq (.var 11) (.con (.str "let"))) (.cmp .eq (.var 18) (.con (.int 0)))) (.var 2) (.bin .add (.var 2) (.var 15))),
    .asg (.name 21) (.ite (.and (.cmp .eq (.var 6) (.con (.int 1))) (.and (.cmp .eq (.var 11) (.con (.str "let"))) (.cmp .eq (.var 18) (.con (.int 0))))) (.con (.int 2)) (.var 6)),
    .ex (.mth .append (.var 17) [.call "_law_prog" [.var 0, .var 1, .var 20, .bin .add (.con (.int 1)) (.var 19), .bin .sub (.var 4) (.con (.int 1)), .var 5, .var 21]])]
def f_law_prog : Ir.Fn := ⟨23, 7, [.asg (.name 7) (.cmp .lt (.call "_law_draw" [.var 0, .con (.int 32)]) (.var 5)),
    .asg (.name 8) (.ite (.cmp .gt (.var 4) (.con (.int 1))) (.blt .min [.bin .sub (.var 3) (.con (.int 1)), .idx (.lst [.con (.int 1), .con (.int 2), .con (.int 2), .con (.int 3)]) (.call "_law_draw" [.var 0, .con (.int 4)])]) (.con (.int 0))),
    .asg (.name 9) (.sli (.lst [.con (.str "first"), .con (.str "second"), .con (.str "head"), .con (.str "tail"), .con (.str "none"), .con (.str "fn"), .con (.str "rec"), .con (.str "fn")]) none (some (.ite (.cmp .eq (.var 6) (.con (.int 2))) (.con (.int 5)) (.con (.int 8))))),
    .asg (.name 10) (.idx (.lst [.lst [.con (.str "num")], .var 9, .lst [.con (.str "call"), .con (.str "let"), .con (.str "plus"), .con (.str "less"), .con (.str "pair"), .con (.str "cons"), .con (.str "call"), .con (.str "let")], .lst [.con (.str "if")]]) (.var 8)),
    .asg (.name 11) (.idx (.var 10) (.call "_law_draw" [.var 0, .blt .len [.var 10]])),
    .asg (.name 12) (.call "_law_atom" [.var 0, .var 2]),
    .asg (.name 13) (.idx (.var 1) (.call "_law_draw" [.var 0, .con (.int 3)])),
    .asg (.name 14) (.idx (.comp (f_law_prog_c0) (.name 22) (.var 1) f_law_prog_k0) (.call "_law_draw" [.var 0, .con (.int 2)])),
    .asg (.name 15) (.mth .get (.newDd [.con (.str "fn"), .lst [.var 13], .con (.str "rec"), .lst [.var 14, .var 13], .con (.str "let"), .lst [.var 13]]) [.var 11, .lst []]),
    .asg (.name 16) (.bin .sub (.bin .sub (.var 3) (.con (.int 1))) (.var 8)),
    .asg (.name 17) (.newL (.lst [])),
    .loop (.name 18) (.blt .range [.var 8]) f_law_prog_b0,
    .ite (.cmp .gt (.var 8) (.con (.int 0))) [.asg (.name 12) (.bin .add (.bin .add (.tup [.var 11]) (.blt .tuple [.var 15])) (.blt .tuple [.var 17]))] [],
    .ret (.ite (.var 7) (.tup [.con (.str "off"), .var 12]) (.var 12))], false⟩
def f_law_any_prog : Ir.Fn := ⟨4, 2, [.asg (.name 2) (.idx (.lst [.con (.int 0), .con (.int 3), .con (.int 8), .con (.int 20)]) (.call "_law_draw" [.var 0, .con (.int 4)])),
    .asg (.name 3) (.bin .add (.con (.int 1)) (.call "_law_draw" [.var 0, .idx (.lst [.con (.int 5), .con (.int 10), .con (.int 10), .con (.int 16), .con (.int 16), .con (.int 24), .con (.int 40), .con (.int 40)]) (.call "_law_draw" [.var 0, .con (.int 8)])])),
    .ret (.call "_law_prog" [.var 0, .var 1, .lst [], .var 3, .idx (.lst [.con (.int 4), .con (.int 12), .con (.int 25)]) (.call "_law_draw" [.var 0, .con (.int 3)]), .var 2, .blt .int [.cmp .gt (.var 3) (.con (.int 16))]])], false⟩
abbrev f_law_is_name_c0 : Ir.Ex := .var 1
abbrev f_law_is_name_k0 : List Ir.Ex := [.cmp .snin (.var 1) (.con (.str "abcdefghijklmnopqrstuvwxyz"))]
def f_law_is_name : Ir.Fn := ⟨2, 1, [.ite (.or (.not (.isi (.var 0) [.str])) (.or (.cmp .lt (.blt .len [.var 0]) (.con (.int 1))) (.cmp .gt (.blt .len [.var 0]) (.con (.int 8))))) [.ret (.con (.bool false))] [],
    .ite (.or (.cmp .isnot (.call "_law_shape" [.var 0]) (.con .non)) (.cmp .isin (.var 0) (.lst [.con (.str "true"), .con (.str "false"), .con (.str "int"), .con (.str "bool"), .con (.str "list")]))) [.ret (.con (.bool false))] [],
    .ret (.cmp .eq (.comp (f_law_is_name_c0) (.name 1) (.blt .chars [.var 0]) f_law_is_name_k0) (.lst []))], false⟩
def f_law_fits : Ir.Fn := ⟨2, 2, [.ite (.cmp .eq (.var 1) (.con (.str "n"))) [.ret (.and (.isi (.var 0) [.int]) (.not (.isi (.var 0) [.bool])))] [],
    .ite (.cmp .eq (.var 1) (.con (.str "b"))) [.ret (.isi (.var 0) [.bool])] [],
    .ret (.ite (.cmp .eq (.var 1) (.con (.str "x"))) (.call "_law_is_name" [.var 0]) (.isi (.var 0) [.tuple]))], false⟩
abbrev f_law_formed_c0 : Ir.Ex := .call "_law_fits" [.idx (.var 0) (.bin .add (.var 5) (.con (.int 1))), .idx (.var 2) (.var 5)]
abbrev f_law_formed_c1 : Ir.Ex := .var 6
abbrev f_law_formed_k0 : List Ir.Ex := [.isi (.var 6) [.str]]
abbrev f_law_formed_c2 : Ir.Ex := .var 5
abbrev f_law_formed_k1 : List Ir.Ex := [.isi (.idx (.var 0) (.var 5)) [.tuple]]
abbrev f_law_formed_c3 : Ir.Ex := .call "_law_formed" [.idx (.var 0) (.var 5), .ite (.and (.cmp .eq (.idx (.var 0) (.con (.int 0))) (.con (.str "let"))) (.cmp .eq (.var 5) (.con (.int 2)))) (.var 1) (.var 3)]
def f_law_formed : Ir.Fn := ⟨7, 2, [.ite (.or (.not (.isi (.var 0) [.tuple])) (.or (.cmp .eq (.var 0) (.tup [])) (.not (.isi (.idx (.var 0) (.con (.int 0))) [.str])))) [.ret (.con (.bool false))] [],
    .asg (.name 2) (.call "_law_shape" [.idx (.var 0) (.con (.int 0))]),
    .ite (.or (.cmp .is (.var 2) (.con .non)) (.cmp .ne (.blt .len [.var 0]) (.bin .add (.blt .len [.var 2]) (.con (.int 1))))) [.ret (.con (.bool false))] [],
    .ite (.not (.blt .all [.comp (f_law_formed_c0) (.name 5) (.blt .range [.blt .len [.var 2]]) []])) [.ret (.con (.bool false))] [],
    .ite (.cmp .eq (.idx (.var 0) (.con (.int 0))) (.con (.str "name"))) [.ret (.cmp .isin (.idx (.var 0) (.con (.int 1))) (.var 1))] [],
    .ite (.or (.and (.cmp .eq (.idx (.var 0) (.con (.int 0))) (.con (.str "off"))) (.cmp .eq (.sli (.idx (.var 0) (.con (.int 1))) none (some (.con (.int 1)))) (.tup [.con (.str "off")]))) (.and (.cmp .eq (.idx (.var 0) (.con (.int 0))) (.con (.str "rec"))) (.cmp .eq (.idx (.var 0) (.con (.int 1))) (.idx (.var 0) (.con (.int 2)))))) [.ret (.con (.bool false))] [],
    .asg (.name 3) (.bin .add (.var 1) (.comp (f_law_formed_c1) (.name 6) (.sli (.var 0) (some (.con (.int 1))) none) f_law_formed_k0)),
    .asg (.name 4) (.comp (f_law_formed_c2) (.name 5) (.blt .range [.con (.int 1), .blt .len [.var 0]]) f_law_formed_k1),
    .ret (.blt .all [.comp (f_law_formed_c3) (.name 5) (.var 4) []])], false⟩
abbrev f_law_size_c0 : Ir.Ex := .call "_law_size" [.var 2]
abbrev f_law_size_k0 : List Ir.Ex := [.isi (.var 2) [.tuple]]
abbrev f_law_size_c1 : Ir.Ex := .var 3
abbrev f_law_size_c2 : Ir.Ex := .var 4
def f_law_size : Ir.Fn := ⟨5, 1, [.asg (.name 1) (.comp (f_law_size_c0) (.name 2) (.var 0) f_law_size_k0),
    .ret (.tup [.bin .add (.con (.int 1)) (.blt .sum [.comp (f_law_size_c1) (.tup [.name 3, .name 4]) (.var 1) []]), .bin .add (.con (.int 1)) (.blt .maxd [.comp (f_law_size_c2) (.tup [.name 3, .name 4]) (.var 1) [], .con (.int 0)])])], false⟩
def f_law_thing : Ir.Fn := ⟨4, 2, [.asg (.name 2) (.call "_law_draw" [.var 0, .con (.int 10)]),
    .asg (.name 3) (.lst [.con (.int 0), .con (.bool true), .con (.str "a"), .con (.str "fn"), .con (.str "abcdefghi"), .call "_law_odd_text" [.var 0, .con (.str "ab")], .con (.str ""), .tup [.con (.str "nil")], .tup []]),
    .ret (.idx (.bin .add (.var 3) (.lst [.tup [.con (.str "name"), .idx (.var 1) (.call "_law_draw" [.var 0, .con (.int 3)])]])) (.var 2))], false⟩
def f_law_odd_text : Ir.Fn := ⟨4, 2, [.asg (.name 2) (.con (.str " !\"#$&'()*+,-./0123456789:;<=>?@ABCDEFGHIJKLMNOPQRSTUVWXYZ[\\]^_`{|}~\nabcxyz")),
    .asg (.name 3) (.call "_law_draw" [.var 0, .bin .add (.blt .len [.var 1]) (.con (.int 1))]),
    .ret (.sli (.bin .add (.bin .add (.sli (.var 1) none (some (.var 3))) (.idx (.var 2) (.call "_law_draw" [.var 0, .blt .len [.var 2]]))) (.sli (.var 1) (some (.bin .add (.var 3) (.call "_law_draw" [.var 0, .con (.int 2)]))) none)) none (some (.con (.int 9))))], false⟩
abbrev f_law_all_named_c0 : Ir.Ex := .call "_law_all_named" [.var 3, .var 1, .var 2]
def f_law_all_named : Ir.Fn := ⟨4, 3, [.ite (.not (.isi (.var 0) [.tuple])) [.ret (.ite (.and (.cmp .eq (.var 0) (.var 1)) (.isi (.var 0) [.str])) (.var 2) (.var 0))] [],
    .ret (.bin .add (.sli (.var 0) none (some (.con (.int 1)))) (.blt .tuple [.comp (f_law_all_named_c0) (.name 3) (.sli (.var 0) (some (.con (.int 1))) none) []]))], false⟩
def f_law_bent : Ir.Fn := ⟨8, 3, [.asg (.name 3) (.call "_law_draw" [.var 0, .con (.int 9)]),
    .asg (.name 4) (.lst [.con (.str "num"), .con (.str "truth"), .con (.str "name"), .con (.str "fn"), .con (.str "rec"), .con (.str "call"), .con (.str "let"), .con (.str "if"), .con (.str "plus"), .con (.str "less"), .con (.str "pair"), .con (.str "first"), .con (.str "second"), .con (.str "nil")]),
    .asg (.name 4) (.bin .add (.var 4) (.lst [.con (.str "cons"), .con (.str "head"), .con (.str "tail"), .con (.str "none"), .con (.str "off"), .con (.str "int"), .con (.str "list"), .con (.str "true"), .con (.str ""), .con (.str "Fn")])),
    .asg (.name 5) (.call "_law_draw" [.var 0, .blt .max [.con (.int 1), .blt .len [.var 1]]]),
    .asg (.name 6) (.call "_law_thing" [.var 0, .var 2]),
    .ite (.cmp .eq (.var 3) (.con (.int 0))) [.ret (.bin .add (.tup [.idx (.var 4) (.call "_law_draw" [.var 0, .con (.int 24)])]) (.sli (.var 1) (some (.con (.int 1))) none))] [],
    .ite (.cmp .eq (.var 3) (.con (.int 1))) [.ret (.bin .add (.sli (.var 1) none (some (.var 5))) (.sli (.var 1) (some (.bin .add (.var 5) (.con (.int 1)))) none))] [],
    .ite (.cmp .eq (.var 3) (.con (.int 2))) [.ret (.bin .add (.bin .add (.sli (.var 1) none (some (.var 5))) (.sli (.var 1) (some (.var 5)) (some (.bin .add (.var 5) (.con (.int 1)))))) (.sli (.var 1) (some (.var 5)) none))] [],
    .ite (.cmp .eq (.var 3) (.con (.int 3))) [.ret (.bin .add (.bin .add (.sli (.var 1) none (some (.var 5))) (.tup [.var 6])) (.sli (.var 1) (some (.var 5)) none))] [],
    .ite (.cmp .eq (.var 3) (.con (.int 4))) [.ret (.bin .add (.sli (.var 1) none (some (.con (.int 1)))) (.blt .revT [.sli (.var 1) (some (.con (.int 1))) none]))] [],
    .ite (.cmp .eq (.var 3) (.con (.int 5))) [.ret (.tup [.con (.str "off"), .var 1])] [],
    .ite (.cmp .eq (.var 3) (.con (.int 6))) [.ret (.tup [.con (.str "fn"), .idx (.var 2) (.bin .mod (.var 5) (.con (.int 3))), .var 1])] [],
    .ite (.and (.cmp .eq (.var 3) (.con (.int 7))) (.and (.cmp .gt (.blt .len [.var 1]) (.con (.int 1))) (.isi (.idx (.var 1) (.con (.int 1))) [.str]))) [.asg (.name 7) (.ite (.cmp .eq (.call "_law_draw" [.var 0, .con (.int 2)]) (.con (.int 0))) (.idx (.var 2) (.call "_law_draw" [.var 0, .con (.int 3)])) (.call "_law_odd_text" [.var 0, .idx (.var 1) (.con (.int 1))])),
    .ret (.ite (.cmp .eq (.call "_law_draw" [.var 0, .con (.int 4)]) (.con (.int 0))) (.bin .add (.bin .add (.sli (.var 1) none (some (.con (.int 1)))) (.tup [.var 7])) (.sli (.var 1) (some (.con (.int 2))) none)) (.call "_law_all_named" [.var 1, .idx (.var 1) (.con (.int 1)), .var 7]))] [],
    .ret (.bin .add (.bin .add (.sli (.var 1) none (some (.var 5))) (.tup [.var 6])) (.sli (.var 1) (some (.bin .add (.var 5) (.con (.int 1)))) none))], false⟩
abbrev f_law_within_c0 : Ir.Ex := .var 11
abbrev f_law_within_k0 : List Ir.Ex := [.isi (.idx (.var 4) (.var 11)) [.tuple]]
abbrev f_law_within_b0 : List Ir.Stm := [.asg (.name 9) (.comp (f_law_within_c0) (.name 11) (.blt .range [.blt .len [.var 4]]) f_law_within_k0),
    .ite (.cmp .ne (.var 9) (.lst [])) [.ex (.mth .append (.var 3) [.idx (.var 9) (.call "_law_draw" [.var 0, .blt .len [.var 9]])]),
    .asg (.name 4) (.idx (.var 4) (.idx (.var 3) (.neg (.con (.int 1)))))] []]
abbrev f_law_within_b1 : List Ir.Stm := [.asg (.name 10) (.idx (.var 10) (.var 11))]
abbrev f_law_within_b2 : List Ir.Stm := [.asg (.name 10) (.var 1),
    .loop (.name 11) (.sli (.var 3) none (some (.var 5))) f_law_within_b1,
    .asg (.name 6) (.bin .add (.bin .add (.sli (.var 10) none (some (.idx (.var 3) (.var 5)))) (.tup [.var 6])) (.sli (.var 10) (some (.bin .add (.idx (.var 3) (.var 5)) (.con (.int 1)))) none))]
def f_law_within : Ir.Fn := ⟨12, 3, [.asg (.name 3) (.newL (.lst [])),
    .asg (.name 4) (.var 1),
    .loop (.name 5) (.blt .range [.call "_law_draw" [.var 0, .con (.int 12)]]) f_law_within_b0,
    .asg (.name 6) (.call "_law_bent" [.var 0, .var 4, .var 2]),
    .loop (.name 5) (.blt .revR [.blt .len [.var 3]]) f_law_within_b2,
    .asg (.tup [.name 7, .name 8]) (.call "_law_size" [.var 6]),
    .ret (.ite (.and (.cmp .le (.var 7) (.con (.int 240))) (.cmp .le (.var 8) (.con (.int 60)))) (.var 6) (.var 1))], false⟩
abbrev f_law_b0 : List Ir.Stm := [.asg (.name 6) (.call "formed" [.var 4]),
    .ite (.or (.not (.isi (.var 6) [.bool])) (.or (.cmp .ne (.var 6) (.call "_law_formed" [.var 4, .lst []])) (.cmp .ne (.callP "formed" [.var 4] [0]) (.var 6)))) [.ret (.con (.bool false))] [],
    .asg (.name 4) (.call "_law_within" [.var 1, .var 4, .var 3])]
def f_law : Ir.Fn := ⟨7, 1, [.asg (.name 1) (.call "_law_bag" [.var 0]),
    .asg (.name 2) (.call "_law_draw" [.var 1, .con (.int 6)]),
    .asg (.name 3) (.call "_law_names" [.var 1]),
    .asg (.name 4) (.call "_law_any_prog" [.var 1, .var 3]),
    .loop (.name 5) (.blt .range [.bin .add (.var 2) (.con (.int 1))]) f_law_b0,
    .ret (.con (.bool true))], false⟩
def tab : List (String × Ir.Fn) := [("is_name", f_is_name), ("fits", f_fits), ("bound_at", f_bound_at), ("formed_here", f_formed_here), ("formed", f_formed), ("_law_bag", f_law_bag), ("_law_stirred", f_law_stirred), ("_law_draw", f_law_draw), ("_law_pool", f_law_pool), ("_law_names", f_law_names), ("_law_shape", f_law_shape), ("_law_atom", f_law_atom), ("_law_prog", f_law_prog), ("_law_any_prog", f_law_any_prog), ("_law_is_name", f_law_is_name), ("_law_fits", f_law_fits), ("_law_formed", f_law_formed), ("_law_size", f_law_size), ("_law_thing", f_law_thing), ("_law_odd_text", f_law_odd_text), ("_law_all_named", f_law_all_named), ("_law_bent", f_law_bent), ("_law_within", f_law_within), ("law", f_law)]
def T : Ir.Tab := Ir.tabOf tab
theorem T_f_is_name : T "is_name" = some f_is_name := by simp [T, Ir.tabOf, tab, List.lookup]
theorem T_f_fits : T "fits" = some f_fits := by simp [T, Ir.tabOf, tab, List.lookup]
theorem T_f_bound_at : T "bound_at" = some f_bound_at := by simp [T, Ir.tabOf, tab, List.lookup]
theorem T_f_formed_here : T "formed_here" = some f_formed_here := by simp [T, Ir.tabOf, tab, List.lookup]
theorem T_f_formed : T "formed" = some f_formed := by simp [T, Ir.tabOf, tab, List.lookup]
theorem T_f_law_bag : T "_law_bag" = some f_law_bag := by simp [T, Ir.tabOf, tab, List.lookup]
theorem T_f_law_stirred : T "_law_stirred" = some f_law_stirred := by simp [T, Ir.tabOf, tab, List.lookup]
theorem T_f_law_draw : T "_law_draw" = some f_law_draw := by simp [T, Ir.tabOf, tab, List.lookup]
theorem T_f_law_pool : T "_law_pool" = some f_law_pool := by simp [T, Ir.tabOf, tab, List.lookup]
theorem T_f_law_names : T "_law_names" = some f_law_names := by simp [T, Ir.tabOf, tab, List.lookup]
theorem T_f_law_shape : T "_law_shape" = some f_law_shape := by simp [T, Ir.tabOf, tab, List.lookup]
theorem T_f_law_atom : T "_law_atom" = some f_law_atom := by simp [T, Ir.tabOf, tab, List.lookup]
theorem T_f_law_prog : T "_law_prog" = some f_law_prog := by simp [T, Ir.tabOf, tab, List.lookup]
theorem T_f_law_any_prog : T "_law_any_prog" = some f_law_any_prog := by simp [T, Ir.tabOf, tab, List.lookup]
theorem T_f_law_is_name : T "_law_is_name" = some f_law_is_name := by simp [T, Ir.tabOf, tab, List.lookup]
theorem T_f_law_fits : T "_law_fits" = some f_law_fits := by simp [T, Ir.tabOf, tab, List.lookup]
theorem T_f_law_formed : T "_law_formed" = some f_law_formed := by simp [T, Ir.tabOf, tab, List.lookup]
theorem T_f_law_size : T "_law_size" = some f_law_size := by simp [T, Ir.tabOf, tab, List.lookup]
theorem T_f_law_thing : T "_law_thing" = some f_law_thing := by simp [T, Ir.tabOf, tab, List.lookup]
theorem T_f_law_odd_text : T "_law_odd_text" = some f_law_odd_text := by simp [T, Ir.tabOf, tab, List.lookup]
theorem T_f_law_all_named : T "_law_all_named" = some f_law_all_named := by simp [T, Ir.tabOf, tab, List.lookup]
theorem T_f_law_bent : T "_law_bent" = some f_law_bent := by simp [T, Ir.tabOf, tab, List.lookup]
theorem T_f_law_within : T "_law_within" = some f_law_within := by simp [T, Ir.tabOf, tab, List.lookup]
theorem T_f_law : T "law" = some f_law := by simp [T, Ir.tabOf, tab, List.lookup]
end Prog

namespace Prog
open PySem PySem.Spec PyProof.Rows L2 Snd
/-! ### the text by places -/
def topS (i : Nat) : Stmt := PySem.Challenge.pw_leastmends_k01_formed.main.body.getD i (.Pass ⟨0, 0, 0, 0⟩)
abbrev sf_is_name : Stmt := topS 5
abbrev sf_fits : Stmt := topS 6
abbrev sf_bound_at : Stmt := topS 7
abbrev sf_formed_here : Stmt := topS 8
abbrev sf_formed : Stmt := topS 9
abbrev sf_law_bag : Stmt := topS 11
abbrev sf_law_stirred : Stmt := topS 12
abbrev sf_law_draw : Stmt := topS 13
abbrev sf_law_pool : Stmt := topS 14
abbrev sf_law_names : Stmt := topS 15
abbrev sf_law_shape : Stmt := topS 16
abbrev sf_law_atom : Stmt := topS 17
abbrev sf_law_prog : Stmt := topS 18
abbrev sf_law_any_prog : Stmt := topS 19
abbrev sf_law_is_name : Stmt := topS 20
abbrev sf_law_fits : Stmt := topS 21
abbrev sf_law_formed : Stmt := topS 22
abbrev sf_law_size : Stmt := topS 23
abbrev sf_law_thing : Stmt := topS 24
abbrev sf_law_odd_text : Stmt := topS 25
abbrev sf_law_all_named : Stmt := topS 26
abbrev sf_law_bent : Stmt := topS 27
abbrev sf_law_within : Stmt := topS 28
abbrev sf_law : Stmt := topS 29
def bn : List String := ["abs", "all", "bool", "enumerate", "int", "isinstance", "len", "max", "min", "range", "reversed", "str", "sum", "tuple", "zip"]
def KW : List Kw := [("formed", 0, ["program"], [0], [])]
structure GC (w : World) (K : PySem.W.Frag) (mg : Str → Option Value) : Prop where
  tt : True
  c_MOST_SIGNS : ∃ u, mg (Str.ofString "MOST_SIGNS") = some u ∧ KV K (.int 8) u
  c_SHAPES : ∃ p, mg (Str.ofString "SHAPES") = some (.ref p) ∧ KD K w [("num", .str "n"), ("truth", .str "b"), ("name", .str "x"), ("fn", .str "xp"), ("rec", .str "xxp"), ("call", .str "pp"), ("let", .str "xpp"), ("if", .str "ppp"), ("plus", .str "pp"), ("less", .str "pp"), ("pair", .str "pp"), ("first", .str "p"), ("second", .str "p"), ("nil", .str ""), ("cons", .str "pp"), ("head", .str "p"), ("tail", .str "p"), ("none", .str "p"), ("off", .str "p")] p
  c_OTHERS : ∃ u, mg (Str.ofString "OTHERS") = some u ∧ KV K (.tup [.str "true", .str "false", .str "int", .str "bool", .str "list"]) u
  c_LETTERS : ∃ u, mg (Str.ofString "LETTERS") = some u ∧ KV K (.str "abcdefghijklmnopqrstuvwxyz") u
end Prog

namespace Prog
open PySem PySem.Spec PyProof.Rows L2 Snd
section
variable {P : Program} {w : World} {K : PySem.W.Frag} {mg : Str → Option Value} {base : Heap}
theorem scf_is_name : FnScope ["text", "sign"] ["text"] (defScope sf_is_name) := ⟨rfl, rfl, rfl, by decide +kernel, rfl, by decide +kernel, by decide +kernel⟩
theorem okf_is_name {n : Nat} {a : Addr} {fd : FuncData} (F : Fun K "is_name" "is_name" sf_is_name a fd) (ft : FT T KW n P w K mg base) (mb : ∀ s ∈ bn, mg (Str.ofString s) = none) (gc : GC w K mg) : FnOk P w K mg base CX0 (n + 1) a fd ["text"] (spI T (n + 1) K "is_name") :=
  have nd := (scf_is_name).nd
  fn_ok F scf_is_name T_f_is_name rfl rfl fun cdv A outer s H E hr =>
    (ss_cons (ss_if (st_w (sw_or (st_not (st_val (se_isi (t := .str) (se_var 0) (sty_cons (t := .str) sty_nil (mb "str" (by decide)) bv_str) (mb "isinstance" (by decide))))) (sw_or (st_not (st_chain cmp_le cmp_le se_int (se_blt blt_len (ses_cons (se_var 0) ses_nil) (mb "len" (by decide)) bv_len) (se_glb gc.c_MOST_SIGNS))) (sw_or (st_kdin gc.c_SHAPES (se_var 0)) (sw_or1 (st_in hr (se_var 0) (se_glb gc.c_OTHERS))))))) (ss_cons (ss_ret se_bool)
      ss_nil) ss_nil)
      (ss_cons (ss_ret (se_blt (blt_all rfl) (ses_cons (se_list is_comp (sn_comp [("sign", 1)] rfl nd (si_chars (se_var 0)) (blkOk_by (N := ["text", "sign"]) (sc := defScope sf_is_name) (by decide +kernel)) (fun _ _ _ _ _ => (sg_name 1 nd)) (fun _ _ _ _ _ => sc_nil) (fun _ _ _ _ _ => (se_cmp cmp_sin (se_var 1) (se_glb gc.c_LETTERS))))) ses_nil) (mb "all" (by decide)) bv_all))
      ss_nil))
end
end Prog

namespace Prog
open PySem PySem.Spec PyProof.Rows L2 Snd
section
variable {P : Program} {w : World} {K : PySem.W.Frag} {mg : Str → Option Value} {base : Heap}
theorem scf_fits : FnScope ["part", "letter"] ["part", "letter"] (defScope sf_fits) := ⟨rfl, rfl, rfl, by decide +kernel, rfl, by decide +kernel, by decide +kernel⟩
theorem okf_fits {n : Nat} {a : Addr} {fd : FuncData} (F : Fun K "fits" "fits" sf_fits a fd) (ft : FT T KW n P w K mg base) (mb : ∀ s ∈ bn, mg (Str.ofString s) = none) (gc : GC w K mg) : FnOk P w K mg base CX0 (n + 1) a fd ["part", "letter"] (spI T (n + 1) K "fits") :=
  have nd := (scf_fits).nd
  fn_ok F scf_fits T_f_fits rfl rfl fun cdv A outer s H E hr =>
    (ss_cons (ss_if (st_cmp (cmp_eq hr) (se_var 1) se_str) (ss_cons (ss_ret (se_and (se_isi (t := .int) (se_var 0) (sty_cons (t := .int) sty_nil (mb "int" (by decide)) bv_int) (mb "isinstance" (by decide))) (se_one (se_not (se_isi (t := .bool) (se_var 0) (sty_cons (t := .bool) sty_nil (mb "bool" (by decide)) bv_bool) (mb "isinstance" (by decide)))))))
      ss_nil) ss_nil)
      (ss_cons (ss_if (st_cmp (cmp_eq hr) (se_var 1) se_str) (ss_cons (ss_ret (se_isi (t := .bool) (se_var 0) (sty_cons (t := .bool) sty_nil (mb "bool" (by decide)) bv_bool) (mb "isinstance" (by decide))))
      ss_nil) ss_nil)
      (ss_cons (ss_if (st_cmp (cmp_eq hr) (se_var 1) se_str) (ss_cons (ss_ret (se_call ft T_f_is_name hr (ses_cons (se_var 0) ses_nil)))
      ss_nil) ss_nil)
      (ss_cons (ss_ret (se_and (se_isi (t := .tuple) (se_var 0) (sty_cons (t := .tuple) sty_nil (mb "tuple" (by decide)) bv_tuple) (mb "isinstance" (by decide))) (se_one (se_cmp cmp_gt (se_blt blt_len (ses_cons (se_var 0) ses_nil) (mb "len" (by decide)) bv_len) se_int))))
      ss_nil))))
end
end Prog

namespace Prog
open PySem PySem.Spec PyProof.Rows L2 Snd
section
variable {P : Program} {w : World} {K : PySem.W.Frag} {mg : Str → Option Value} {base : Heap}
theorem scf_bound_at : FnScope ["program", "k", "bound", "head", "parts", "part"] ["program", "k", "bound"] (defScope sf_bound_at) := ⟨rfl, rfl, rfl, by decide +kernel, rfl, by decide +kernel, by decide +kernel⟩
theorem okf_bound_at {n : Nat} {a : Addr} {fd : FuncData} (F : Fun K "bound_at" "bound_at" sf_bound_at a fd) (ft : FT T KW n P w K mg base) (mb : ∀ s ∈ bn, mg (Str.ofString s) = none) (gc : GC w K mg) : FnOk P w K mg base CX0 (n + 1) a fd ["program", "k", "bound"] (spI T (n + 1) K "bound_at") :=
  have nd := (scf_bound_at).nd
  fn_ok F scf_bound_at T_f_bound_at rfl rfl fun cdv A outer s H E hr =>
    (ss_cons (ss_asg (se_var 0) (sg_star (pre := [3]) (post := []) rfl (sns_cons 3 nd (sns_star 4 nd sns_nil))))
      (ss_cons (ss_if (st_w (sw_or (st_in hr (se_var 3) (se_tup (ses_cons se_str (ses_cons se_str ses_nil)))) (sw_or1 (st_w (sw_and (st_cmp (cmp_eq hr) (se_var 3) se_str) (sw_and1 (st_cmp (cmp_eq hr) (se_var 1) se_int))))))) (ss_cons (ss_ret (se_bin bin_add (se_var 2) (se_list is_comp (sn_comp [("part", 5)] rfl nd (si_seq (se_var 4)) (blkOk_by (N := ["program", "k", "bound", "head", "parts", "part"]) (sc := defScope sf_bound_at) (by decide +kernel)) (fun _ _ _ _ _ => (sg_name 5 nd)) (fun _ _ _ _ _ => (sc_one (st_val (se_isi (t := .str) (se_var 5) (sty_cons (t := .str) sty_nil (mb "str" (by decide)) bv_str) (mb "isinstance" (by decide)))))) (fun _ _ _ _ _ => (se_var 5))))))
      ss_nil) ss_nil)
      (ss_cons (ss_ret (se_var 2))
      ss_nil)))
end
end Prog

namespace Prog
open PySem PySem.Spec PyProof.Rows L2 Snd
section
variable {P : Program} {w : World} {K : PySem.W.Frag} {mg : Str → Option Value} {base : Heap}
theorem scf_formed_here : FnScope ["program", "bound", "head", "parts", "shape", "inner", "k", "part", "sign"] ["program", "bound"] (defScope sf_formed_here) := ⟨rfl, rfl, rfl, by decide +kernel, rfl, by decide +kernel, by decide +kernel⟩
theorem okf_formed_here {n : Nat} {a : Addr} {fd : FuncData} (F : Fun K "formed_here" "formed_here" sf_formed_here a fd) (ft : FT T KW n P w K mg base) (mb : ∀ s ∈ bn, mg (Str.ofString s) = none) (gc : GC w K mg) : FnOk P w K mg base CX0 (n + 1) a fd ["program", "bound"] (spI T (n + 1) K "formed_here") :=
  have nd := (scf_formed_here).nd
  fn_ok F scf_formed_here T_f_formed_here rfl rfl fun cdv A outer s H E hr =>
    (ss_cons (ss_if (st_w (sw_or (st_not (st_val (se_isi (t := .tuple) (se_var 0) (sty_cons (t := .tuple) sty_nil (mb "tuple" (by decide)) bv_tuple) (mb "isinstance" (by decide))))) (sw_or (st_cmp (cmp_eq hr) (se_blt blt_len (ses_cons (se_var 0) ses_nil) (mb "len" (by decide)) bv_len) se_int) (sw_or1 (st_not (st_val (se_isi (t := .str) (se_idx hr (se_var 0) se_int) (sty_cons (t := .str) sty_nil (mb "str" (by decide)) bv_str) (mb "isinstance" (by decide))))))))) (ss_cons (ss_ret se_bool)
      ss_nil) ss_nil)
      (ss_cons (ss_asg (se_var 0) (sg_star (pre := [2]) (post := []) rfl (sns_cons 2 nd (sns_star 3 nd sns_nil))))
      (ss_cons (ss_set 4 nd (se_kdget gc.c_SHAPES (se_var 2)))
      (ss_cons (ss_if (st_w (sw_or (st_cmp cmp_is (se_var 4) se_non) (sw_or (st_cmp (cmp_ne hr) (se_blt blt_len (ses_cons (se_var 3) ses_nil) (mb "len" (by decide)) bv_len) (se_blt blt_len (ses_cons (se_var 4) ses_nil) (mb "len" (by decide)) bv_len)) (sw_or1 (st_not (st_val (se_blt (blt_all rfl) (ses_cons (se_list is_comp (sn_comp [("part", 7), ("sign", 8)] rfl nd (si_zipS (se_var 3) (se_var 4) (mb "zip" (by decide))) (blkOk_by (N := ["program", "bound", "head", "parts", "shape", "inner", "k", "part", "sign"]) (sc := defScope sf_formed_here) (by decide +kernel)) (fun _ _ _ _ _ => (sg_tup rfl (sgs_cons (sg_name 7 nd) (sgs_cons (sg_name 8 nd) sgs_nil)) (puts_len _))) (fun _ _ _ _ _ => sc_nil) (fun _ _ _ _ _ => (se_call ft T_f_fits hr (ses_cons (se_var 7) (ses_cons (se_var 8) ses_nil)))))) ses_nil) (mb "all" (by decide)) bv_all))))))) (ss_cons (ss_ret se_bool)
      ss_nil) ss_nil)
      (ss_cons (ss_if (st_w (sw_or (st_w (sw_and (st_cmp (cmp_eq hr) (se_var 2) se_str) (sw_and1 (st_notin hr (se_idx hr (se_var 3) se_int) (se_var 1))))) (sw_or1 (st_w (sw_and (st_cmp (cmp_eq hr) (se_var 2) se_str) (sw_and1 (st_cmp (cmp_eq hr) (se_idx hr (se_idx hr (se_var 3) se_int) se_int) se_str))))))) (ss_cons (ss_ret se_bool)
      ss_nil) ss_nil)
      (ss_cons (ss_if (st_w (sw_and (st_cmp (cmp_eq hr) (se_var 2) se_str) (sw_and1 (st_cmp (cmp_eq hr) (se_idx hr (se_var 3) se_int) (se_idx hr (se_var 3) se_int))))) (ss_cons (ss_ret se_bool)
      ss_nil) ss_nil)
      (ss_cons (ss_setLc 5 [("k", 6), ("part", 7)] (tI_list is_comp) rfl nd (si_enum (se_var 0) (mb "enumerate" (by decide))) (blkOk_by (N := ["program", "bound", "head", "parts", "shape", "inner", "k", "part", "sign"]) (sc := defScope sf_formed_here) (by decide +kernel)) (fun _ _ _ _ _ => (sg_tup rfl (sgs_cons (sg_name 6 nd) (sgs_cons (sg_name 7 nd) sgs_nil)) (puts_len _))) (fun _ _ _ _ _ => (sc_one (st_val (se_isi (t := .tuple) (se_var 7) (sty_cons (t := .tuple) sty_nil (mb "tuple" (by decide)) bv_tuple) (mb "isinstance" (by decide)))))) (fun _ _ _ _ _ => (se_var 6)) (sw_true rfl rfl rfl (by decide +kernel)))
      (ss_cons (ss_ret (se_blt (blt_all rfl) (ses_cons (se_list is_comp (sn_comp [("k", 6)] rfl nd (si_seq (se_var 5)) (blkOk_by (N := ["program", "bound", "head", "parts", "shape", "inner", "k", "part", "sign"]) (sc := defScope sf_formed_here) (by decide +kernel)) (fun _ _ _ _ _ => (sg_name 6 nd)) (fun _ _ _ _ _ => sc_nil) (fun _ _ _ _ _ => (se_call ft T_f_formed_here hr (ses_cons (se_idx hr (se_var 0) (se_var 6)) (ses_cons (se_call ft T_f_bound_at hr (ses_cons (se_var 0) (ses_cons (se_var 6) (ses_cons (se_var 1) ses_nil)))) ses_nil)))))) ses_nil) (mb "all" (by decide)) bv_all))
      ss_nil))))))))
end
end Prog

namespace Prog
open PySem PySem.Spec PyProof.Rows L2 Snd
section
variable {P : Program} {w : World} {K : PySem.W.Frag} {mg : Str → Option Value} {base : Heap}
theorem scf_formed : FnScope ["program"] ["program"] (defScope sf_formed) := ⟨rfl, rfl, rfl, by decide +kernel, rfl, by decide +kernel, by decide +kernel⟩
theorem okf_formed {n : Nat} {a : Addr} {fd : FuncData} (F : Fun K "formed" "formed" sf_formed a fd) (ft : FT T KW n P w K mg base) (mb : ∀ s ∈ bn, mg (Str.ofString s) = none) (gc : GC w K mg) : FnOk P w K mg base CX0 (n + 1) a fd ["program"] (spI T (n + 1) K "formed") :=
  have nd := (scf_formed).nd
  fn_ok F scf_formed T_f_formed rfl rfl fun cdv A outer s H E hr =>
    (ss_cons (ss_ret (se_call ft T_f_formed_here hr (ses_cons (se_var 0) (ses_cons (se_list is_lst (sn_lst ses_nil)) ses_nil))))
      ss_nil)
end
end Prog

namespace Prog
open PySem PySem.Spec PyProof.Rows L2 Snd
section
variable {P : Program} {w : World} {K : PySem.W.Frag} {mg : Str → Option Value} {base : Heap}
theorem scf_law_bag : FnScope ["_law_script", "_law_stir", "_law_cell"] ["_law_script"] (defScope sf_law_bag) := ⟨rfl, rfl, rfl, by decide +kernel, rfl, by decide +kernel, by decide +kernel⟩
theorem okf_law_bag {n : Nat} {a : Addr} {fd : FuncData} (F : Fun K "_law_bag" "_law_bag" sf_law_bag a fd) (ft : FT T KW n P w K mg base) (mb : ∀ s ∈ bn, mg (Str.ofString s) = none) (gc : GC w K mg) : FnOk P w K mg base CX0 (n + 1) a fd ["_law_script"] (spI T (n + 1) K "_law_bag") :=
  have nd := (scf_law_bag).nd
  fn_ok F scf_law_bag T_f_law_bag rfl rfl fun cdv A outer s H E hr =>
    (ss_cons (ss_set 1 nd se_int)
      (ss_cons (ss_for PassesOwn.never rfl (si_seq (se_sli (se_var 0) so_none (so_some se_int))) (sg_name 2 nd) (ss_cons (ss_set 1 nd (se_bin bin_mod (se_bin bin_add (se_bin bin_add (se_bin bin_mul (se_var 1) se_int) (se_bin bin_mod (se_var 2) se_int)) se_int) se_int))
      ss_nil))
      (ss_cons (ss_ret (se_newL (sn_lst (ses_cons (se_list is_comp (sn_comp [("_law_cell", 2)] rfl nd (si_seq (se_sli (se_var 0) so_none (so_some se_int))) (blkOk_by (N := ["_law_script", "_law_stir", "_law_cell"]) (sc := defScope sf_law_bag) (by decide +kernel)) (fun _ _ _ _ _ => (sg_name 2 nd)) (fun _ _ _ _ _ => sc_nil) (fun _ _ _ _ _ => (se_bin bin_mod (se_blt blt_abs (ses_cons (se_var 2) ses_nil) (mb "abs" (by decide)) bv_abs) (se_bin bin_pow (se_bin bin_pow se_int se_int) se_int))))) (ses_cons se_int (ses_cons se_int (ses_cons (se_var 1) (ses_cons se_int ses_nil))))))))
      ss_nil)))
end
end Prog

namespace Prog
open PySem PySem.Spec PyProof.Rows L2 Snd
section
variable {P : Program} {w : World} {K : PySem.W.Frag} {mg : Str → Option Value} {base : Heap}
theorem scf_law_stirred : FnScope ["_law_bag_here", "_law_many", "_law_found", "_law_k"] ["_law_bag_here", "_law_many"] (defScope sf_law_stirred) := ⟨rfl, rfl, rfl, by decide +kernel, rfl, by decide +kernel, by decide +kernel⟩
theorem okf_law_stirred {n : Nat} {a : Addr} {fd : FuncData} (F : Fun K "_law_stirred" "_law_stirred" sf_law_stirred a fd) (ft : FT T KW n P w K mg base) (mb : ∀ s ∈ bn, mg (Str.ofString s) = none) (gc : GC w K mg) : FnOk P w K mg base CX0 (n + 1) a fd ["_law_bag_here", "_law_many"] (spI T (n + 1) K "_law_stirred") :=
  have nd := (scf_law_stirred).nd
  fn_ok F scf_law_stirred T_f_law_stirred rfl rfl fun cdv A outer s H E hr =>
    (ss_cons (ss_set 2 nd se_int)
      (ss_cons (ss_for PassesOwn.never rfl (si_range1 (se_bin bin_add se_int (se_bin bin_fdiv (se_bits (se_var 1)) se_int)) (mb "range" (by decide))) (sg_name 3 nd) (ss_cons (ss_sub hr (se_bin bin_add (se_idx hr (se_var 0) se_int) se_int) (se_var 0) se_int)
      (ss_cons (ss_sub hr (se_bin bin_mod (se_bin bin_add (se_bin bin_add (se_bin bin_add (se_bin bin_pow (se_idx hr (se_var 0) se_int) se_int) (se_bin bin_mul se_int (se_idx hr (se_var 0) se_int))) (se_bin bin_mul se_int (se_idx hr (se_var 0) se_int))) se_int) se_int) (se_var 0) se_int)
      (ss_cons (ss_set 2 nd (se_bin bin_add (se_bin bin_mul (se_var 2) se_int) (se_bin bin_fdiv (se_idx hr (se_var 0) se_int) se_int)))
      ss_nil))))
      (ss_cons (ss_ret (se_bin bin_mod (se_var 2) (se_var 1)))
      ss_nil)))
end
end Prog

namespace Prog
open PySem PySem.Spec PyProof.Rows L2 Snd
section
variable {P : Program} {w : World} {K : PySem.W.Frag} {mg : Str → Option Value} {base : Heap}
theorem scf_law_draw : FnScope ["_law_bag_here", "_law_many", "_law_found"] ["_law_bag_here", "_law_many"] (defScope sf_law_draw) := ⟨rfl, rfl, rfl, by decide +kernel, rfl, by decide +kernel, by decide +kernel⟩
theorem okf_law_draw {n : Nat} {a : Addr} {fd : FuncData} (F : Fun K "_law_draw" "_law_draw" sf_law_draw a fd) (ft : FT T KW n P w K mg base) (mb : ∀ s ∈ bn, mg (Str.ofString s) = none) (gc : GC w K mg) : FnOk P w K mg base CX0 (n + 1) a fd ["_law_bag_here", "_law_many"] (spI T (n + 1) K "_law_draw") :=
  have nd := (scf_law_draw).nd
  fn_ok F scf_law_draw T_f_law_draw rfl rfl fun cdv A outer s H E hr =>
    (ss_cons (ss_if (st_w (sw_and (st_cmp (cmp_eq hr) (se_idx hr (se_var 0) se_int) se_int) (sw_and1 (st_cmp cmp_lt (se_idx hr (se_var 0) se_int) (se_blt blt_len (ses_cons (se_idx hr (se_var 0) se_int) ses_nil) (mb "len" (by decide)) bv_len))))) (ss_cons (ss_sub hr (se_idx hr (se_idx hr (se_var 0) se_int) (se_idx hr (se_var 0) se_int)) (se_var 0) se_int)
      (ss_cons (ss_sub hr (se_bin bin_add (se_idx hr (se_var 0) se_int) se_int) (se_var 0) se_int)
      ss_nil)) (ss_cons (ss_if (st_cmp (cmp_eq hr) (se_idx hr (se_var 0) se_int) se_int) (ss_cons (ss_ret (se_call ft T_f_law_stirred hr (ses_cons (se_var 0) (ses_cons (se_var 1) ses_nil))))
      ss_nil) ss_nil)
      ss_nil))
      (ss_cons (ss_set 2 nd (se_bin bin_mod (se_idx hr (se_var 0) se_int) (se_var 1)))
      (ss_cons (ss_sub hr (se_bin bin_fdiv (se_idx hr (se_var 0) se_int) (se_var 1)) (se_var 0) se_int)
      (ss_cons (ss_ret (se_var 2))
      ss_nil))))
end
end Prog

namespace Prog
open PySem PySem.Spec PyProof.Rows L2 Snd
section
variable {P : Program} {w : World} {K : PySem.W.Frag} {mg : Str → Option Value} {base : Heap}
theorem scf_law_pool : FnScope ["_law_bag_here", "_law_letters", "_law_words", "_law_style", "_law_base", "_law_at", "_law_found", "_law_k", "_law_name", "_law_start", "_law_step", "_law_j"] ["_law_bag_here"] (defScope sf_law_pool) := ⟨rfl, rfl, rfl, by decide +kernel, rfl, by decide +kernel, by decide +kernel⟩
theorem okf_law_pool {n : Nat} {a : Addr} {fd : FuncData} (F : Fun K "_law_pool" "_law_pool" sf_law_pool a fd) (ft : FT T KW n P w K mg base) (mb : ∀ s ∈ bn, mg (Str.ofString s) = none) (gc : GC w K mg) : FnOk P w K mg base CX0 (n + 1) a fd ["_law_bag_here"] (spI T (n + 1) K "_law_pool") :=
  have nd := (scf_law_pool).nd
  fn_ok F scf_law_pool T_f_law_pool rfl rfl fun cdv A outer s H E hr =>
    (ss_cons (ss_set 1 nd se_str)
      (ss_cons (ss_set 2 nd (se_list is_lst (sn_lst (ses_cons se_str (ses_cons se_str (ses_cons se_str (ses_cons se_str (ses_cons se_str (ses_cons se_str (ses_cons se_str (ses_cons se_str (ses_cons se_str (ses_cons se_str (ses_cons se_str (ses_cons se_str (ses_cons se_str (ses_cons se_str ses_nil)))))))))))))))))
      (ss_cons (ss_set 2 nd (se_bin bin_add (se_var 2) (se_list is_lst (sn_lst (ses_cons se_str (ses_cons se_str (ses_cons se_str (ses_cons se_str (ses_cons se_str (ses_cons se_str (ses_cons se_str (ses_cons se_str (ses_cons se_str (ses_cons se_str ses_nil))))))))))))))
      (ss_cons (ss_set 3 nd (se_call ft T_f_law_draw hr (ses_cons (se_var 0) (ses_cons se_int ses_nil))))
      (ss_cons (ss_set 4 nd (se_join se_str (se_list is_comp (sn_comp [("_law_k", 7)] rfl nd (si_range1 (se_bin bin_add se_int (se_call ft T_f_law_draw hr (ses_cons (se_var 0) (ses_cons se_int ses_nil)))) (mb "range" (by decide))) (blkOk_by (N := ["_law_bag_here", "_law_letters", "_law_words", "_law_style", "_law_base", "_law_at", "_law_found", "_law_k", "_law_name", "_law_start", "_law_step", "_law_j"]) (sc := defScope sf_law_pool) (by decide +kernel)) (fun _ _ _ _ _ => (sg_name 7 nd)) (fun _ _ _ _ _ => sc_nil) (fun _ _ _ _ _ => (se_idx hr (se_var 1) (se_call ft T_f_law_draw hr (ses_cons (se_var 0) (ses_cons se_int ses_nil)))))))))
      (ss_cons (ss_set 5 nd (se_call ft T_f_law_draw hr (ses_cons (se_var 0) (ses_cons (se_blt blt_len (ses_cons (se_var 4) ses_nil) (mb "len" (by decide)) bv_len) ses_nil))))
      (ss_cons (ss_set 6 nd (se_newL (sn_lst ses_nil)))
      (ss_cons (ss_for PassesOwn.never rfl (si_range1 (se_bin bin_add se_int (se_call ft T_f_law_draw hr (ses_cons (se_var 0) (ses_cons se_int ses_nil)))) (mb "range" (by decide))) (sg_name 7 nd) (ss_cons (ss_set 8 nd (se_join se_str (se_list is_comp (sn_comp [("_law_j", 11)] rfl nd (si_range1 (se_bin bin_add se_int (se_call ft T_f_law_draw hr (ses_cons (se_var 0) (ses_cons se_int ses_nil)))) (mb "range" (by decide))) (blkOk_by (N := ["_law_bag_here", "_law_letters", "_law_words", "_law_style", "_law_base", "_law_at", "_law_found", "_law_k", "_law_name", "_law_start", "_law_step", "_law_j"]) (sc := defScope sf_law_pool) (by decide +kernel)) (fun _ _ _ _ _ => (sg_name 11 nd)) (fun _ _ _ _ _ => sc_nil) (fun _ _ _ _ _ => (se_idx hr (se_var 1) (se_call ft T_f_law_draw hr (ses_cons (se_var 0) (ses_cons se_int ses_nil)))))))))
      (ss_cons (ss_if (st_cmp (cmp_eq hr) (se_var 3) se_int) (ss_cons (ss_set 8 nd (se_bin bin_add (se_bin bin_add (se_sli (se_var 4) so_none (so_some (se_var 5))) (se_sli (se_var 8) so_none (so_some se_int))) (se_sli (se_var 4) (so_some (se_bin bin_add (se_var 5) se_int)) so_none)))
      ss_nil) ss_nil)
      (ss_cons (ss_if (st_cmp (cmp_eq hr) (se_var 3) se_int) (ss_cons (ss_set 8 nd (se_sli (se_bin bin_add (se_var 4) (se_var 8)) so_none (so_some (se_bin bin_add se_int (se_call ft T_f_law_draw hr (ses_cons (se_var 0) (ses_cons se_int ses_nil)))))))
      ss_nil) ss_nil)
      (ss_cons (ss_set 9 nd (se_sli (se_var 8) so_none (so_some se_int)))
      (ss_cons (ss_set 10 nd se_int)
      (ss_cons (ss_while PassesOwn.never (st_w (sw_or (st_in hr (se_var 8) (se_var 6)) (sw_or1 (st_in hr (se_var 8) (se_var 2))))) (ss_cons (ss_set 8 nd (se_bin bin_add (se_var 9) (se_idx hr (se_var 1) (se_var 10))))
      (ss_cons (ss_set 10 nd (se_bin bin_add (se_var 10) se_int))
      ss_nil)))
      (ss_cons (ss_ex (se_append (se_var 6) (se_var 8)))
      ss_nil))))))))
      (ss_cons (ss_ret (se_frz (se_var 6)))
      ss_nil)))))))))
end
end Prog

namespace Prog
open PySem PySem.Spec PyProof.Rows L2 Snd
section
variable {P : Program} {w : World} {K : PySem.W.Frag} {mg : Str → Option Value} {base : Heap}
theorem scf_law_names : FnScope ["_law_bag_here"] ["_law_bag_here"] (defScope sf_law_names) := ⟨rfl, rfl, rfl, by decide +kernel, rfl, by decide +kernel, by decide +kernel⟩
theorem okf_law_names {n : Nat} {a : Addr} {fd : FuncData} (F : Fun K "_law_names" "_law_names" sf_law_names a fd) (ft : FT T KW n P w K mg base) (mb : ∀ s ∈ bn, mg (Str.ofString s) = none) (gc : GC w K mg) : FnOk P w K mg base CX0 (n + 1) a fd ["_law_bag_here"] (spI T (n + 1) K "_law_names") :=
  have nd := (scf_law_names).nd
  fn_ok F scf_law_names T_f_law_names rfl rfl fun cdv A outer s H E hr =>
    (ss_cons (ss_ret (se_sli (se_call ft T_f_law_pool hr (ses_cons (se_var 0) ses_nil)) so_none (so_some se_int)))
      ss_nil)
end
end Prog

namespace Prog
open PySem PySem.Spec PyProof.Rows L2 Snd
section
variable {P : Program} {w : World} {K : PySem.W.Frag} {mg : Str → Option Value} {base : Heap}
theorem scf_law_shape : FnScope ["_law_head", "_law_shapes", "_law_word"] ["_law_head"] (defScope sf_law_shape) := ⟨rfl, rfl, rfl, by decide +kernel, rfl, by decide +kernel, by decide +kernel⟩
theorem okf_law_shape {n : Nat} {a : Addr} {fd : FuncData} (F : Fun K "_law_shape" "_law_shape" sf_law_shape a fd) (ft : FT T KW n P w K mg base) (mb : ∀ s ∈ bn, mg (Str.ofString s) = none) (gc : GC w K mg) : FnOk P w K mg base CX0 (n + 1) a fd ["_law_head"] (spI T (n + 1) K "_law_shape") :=
  have nd := (scf_law_shape).nd
  fn_ok F scf_law_shape T_f_law_shape rfl rfl fun cdv A outer s H E hr =>
    (ss_cons (ss_set 1 nd (se_disp (sps_cons se_str se_str (sps_cons se_str se_str (sps_cons se_str se_str (sps_cons se_str se_str (sps_cons se_str se_str (sps_cons se_str se_str (sps_cons se_str se_str (sps_cons se_str se_str sps_nil))))))))))
      (ss_cons (ss_for PassesOwn.never rfl (si_seq (se_list is_lst (sn_lst (ses_cons se_str (ses_cons se_str (ses_cons se_str (ses_cons se_str ses_nil))))))) (sg_name 2 nd) (ss_cons (ss_sub hr se_str (se_var 1) (se_var 2))
      ss_nil))
      (ss_cons (ss_for PassesOwn.never rfl (si_seq (se_list is_lst (sn_lst (ses_cons se_str (ses_cons se_str (ses_cons se_str (ses_cons se_str (ses_cons se_str (ses_cons se_str ses_nil))))))))) (sg_name 2 nd) (ss_cons (ss_sub hr se_str (se_var 1) (se_var 2))
      ss_nil))
      (ss_cons (ss_sub hr se_str (se_var 1) se_str)
      (ss_cons (ss_ret (se_get1 hr (se_var 1) (se_var 0)))
      ss_nil)))))
end
end Prog

namespace Prog
open PySem PySem.Spec PyProof.Rows L2 Snd
section
variable {P : Program} {w : World} {K : PySem.W.Frag} {mg : Str → Option Value} {base : Heap}
theorem scf_law_atom : FnScope ["_law_bag_here", "_law_env", "_law_way"] ["_law_bag_here", "_law_env"] (defScope sf_law_atom) := ⟨rfl, rfl, rfl, by decide +kernel, rfl, by decide +kernel, by decide +kernel⟩
theorem okf_law_atom {n : Nat} {a : Addr} {fd : FuncData} (F : Fun K "_law_atom" "_law_atom" sf_law_atom a fd) (ft : FT T KW n P w K mg base) (mb : ∀ s ∈ bn, mg (Str.ofString s) = none) (gc : GC w K mg) : FnOk P w K mg base CX0 (n + 1) a fd ["_law_bag_here", "_law_env"] (spI T (n + 1) K "_law_atom") :=
  have nd := (scf_law_atom).nd
  fn_ok F scf_law_atom T_f_law_atom rfl rfl fun cdv A outer s H E hr =>
    (ss_cons (ss_set 2 nd (se_call ft T_f_law_draw hr (ses_cons (se_var 0) (ses_cons se_int ses_nil))))
      (ss_cons (ss_if (st_w (sw_and (st_cmp cmp_lt (se_var 2) se_int) (sw_and1 (st_cmp (cmp_ne hr) (se_var 1) (se_list is_lst (sn_lst ses_nil)))))) (ss_cons (ss_ret (se_tup (ses_cons se_str (ses_cons (se_idx hr (se_var 1) (se_call ft T_f_law_draw hr (ses_cons (se_var 0) (ses_cons (se_blt blt_len (ses_cons (se_var 1) ses_nil) (mb "len" (by decide)) bv_len) ses_nil)))) ses_nil))))
      ss_nil) ss_nil)
      (ss_cons (ss_if (st_cmp cmp_lt (se_var 2) se_int) (ss_cons (ss_ret (se_tup (ses_cons se_str (ses_cons (se_idx hr (se_list is_lst (sn_lst (ses_cons (se_call ft T_f_law_draw hr (ses_cons (se_var 0) (ses_cons se_int ses_nil))) (ses_cons (se_bin bin_sub se_int (se_call ft T_f_law_draw hr (ses_cons (se_var 0) (ses_cons se_int ses_nil)))) (ses_cons (se_call ft T_f_law_draw hr (ses_cons (se_var 0) (ses_cons (se_bin bin_pow se_int se_int) ses_nil))) ses_nil))))) (se_call ft T_f_law_draw hr (ses_cons (se_var 0) (ses_cons se_int ses_nil)))) ses_nil))))
      ss_nil) ss_nil)
      (ss_cons (ss_ret (se_ite (st_cmp (cmp_eq hr) (se_var 2) se_int) (se_tup (ses_cons se_str (ses_cons (se_cmp (cmp_eq hr) (se_call ft T_f_law_draw hr (ses_cons (se_var 0) (ses_cons se_int ses_nil))) se_int) ses_nil))) (se_tup (ses_cons se_str ses_nil))))
      ss_nil))))
end
end Prog

namespace Prog
open PySem PySem.Spec PyProof.Rows L2 Snd
section
variable {P : Program} {w : World} {K : PySem.W.Frag} {mg : Str → Option Value} {base : Heap}
theorem scf_law_prog : FnScope ["_law_bag_here", "_law_names_here", "_law_env", "_law_many", "_law_deep", "_law_odd", "_law_calm", "_law_off", "_law_arms", "_law_ones", "_law_heads", "_law_head", "_law_found", "_law_one", "_law_two", "_law_bound", "_law_left", "_law_parts", "_law_k", "_law_more", "_law_within_here", "_law_care", "_law_name"] ["_law_bag_here", "_law_names_here", "_law_env", "_law_many", "_law_deep", "_law_odd", "_law_calm"] (defScope sf_law_prog) := ⟨rfl, rfl, rfl, by decide +kernel, rfl, by decide +kernel, by decide +kernel⟩
theorem okf_law_prog {n : Nat} {a : Addr} {fd : FuncData} (F : Fun K "_law_prog" "_law_prog" sf_law_prog a fd) (ft : FT T KW n P w K mg base) (mb : ∀ s ∈ bn, mg (Str.ofString s) = none) (gc : GC w K mg) : FnOk P w K mg base CX0 (n + 1) a fd ["_law_bag_here", "_law_names_here", "_law_env", "_law_many", "_law_deep", "_law_odd", "_law_calm"] (spI T (n + 1) K "_law_prog") :=
  have nd := (scf_law_prog).nd
  fn_ok F scf_law_prog T_f_law_prog rfl rfl fun cdv A outer s H E hr =>
    (ss_cons (ss_set 7 nd (se_cmp cmp_lt (se_call ft T_f_law_draw hr (ses_cons (se_var 0) (ses_cons se_int ses_nil))) (se_var 5)))
      (ss_cons (ss_set 8 nd (se_ite (st_cmp cmp_gt (se_var 4) se_int) (se_blt (blt_min rfl) (ses_cons (se_bin bin_sub (se_var 3) se_int) (ses_cons (se_idx hr (se_list is_lst (sn_lst (ses_cons se_int (ses_cons se_int (ses_cons se_int (ses_cons se_int ses_nil)))))) (se_call ft T_f_law_draw hr (ses_cons (se_var 0) (ses_cons se_int ses_nil)))) ses_nil)) (mb "min" (by decide)) bv_min) se_int))
      (ss_cons (ss_set 9 nd (se_sli (se_list is_lst (sn_lst (ses_cons se_str (ses_cons se_str (ses_cons se_str (ses_cons se_str (ses_cons se_str (ses_cons se_str (ses_cons se_str (ses_cons se_str ses_nil)))))))))) so_none (so_some (se_ite (st_cmp (cmp_eq hr) (se_var 6) se_int) se_int se_int))))
      (ss_cons (ss_set 10 nd (se_idx hr (se_list is_lst (sn_lst (ses_cons (se_list is_lst (sn_lst (ses_cons se_str ses_nil))) (ses_cons (se_var 9) (ses_cons (se_list is_lst (sn_lst (ses_cons se_str (ses_cons se_str (ses_cons se_str (ses_cons se_str (ses_cons se_str (ses_cons se_str (ses_cons se_str (ses_cons se_str ses_nil)))))))))) (ses_cons (se_list is_lst (sn_lst (ses_cons se_str ses_nil))) ses_nil)))))) (se_var 8)))
      (ss_cons (ss_set 11 nd (se_idx hr (se_var 10) (se_call ft T_f_law_draw hr (ses_cons (se_var 0) (ses_cons (se_blt blt_len (ses_cons (se_var 10) ses_nil) (mb "len" (by decide)) bv_len) ses_nil)))))
      (ss_cons (ss_set 12 nd (se_call ft T_f_law_atom hr (ses_cons (se_var 0) (ses_cons (se_var 2) ses_nil))))
      (ss_cons (ss_set 13 nd (se_idx hr (se_var 1) (se_call ft T_f_law_draw hr (ses_cons (se_var 0) (ses_cons se_int ses_nil)))))
      (ss_cons (ss_set 14 nd (se_idx hr (se_list is_comp (sn_comp [("_law_name", 22)] rfl nd (si_seq (se_var 1)) (blkOk_by (N := ["_law_bag_here", "_law_names_here", "_law_env", "_law_many", "_law_deep", "_law_odd", "_law_calm", "_law_off", "_law_arms", "_law_ones", "_law_heads", "_law_head", "_law_found", "_law_one", "_law_two", "_law_bound", "_law_left", "_law_parts", "_law_k", "_law_more", "_law_within_here", "_law_care", "_law_name"]) (sc := defScope sf_law_prog) (by decide +kernel)) (fun _ _ _ _ _ => (sg_name 22 nd)) (fun _ _ _ _ _ => (sc_one (st_cmp (cmp_ne hr) (se_var 22) (se_var 13)))) (fun _ _ _ _ _ => (se_var 22)))) (se_call ft T_f_law_draw hr (ses_cons (se_var 0) (ses_cons se_int ses_nil)))))
      (ss_cons (ss_set 15 nd (se_get hr (se_disp (sps_cons se_str (se_list is_lst (sn_lst (ses_cons (se_var 13) ses_nil))) (sps_cons se_str (se_list is_lst (sn_lst (ses_cons (se_var 14) (ses_cons (se_var 13) ses_nil)))) (sps_cons se_str (se_list is_lst (sn_lst (ses_cons (se_var 13) ses_nil))) sps_nil)))) (se_var 11) (se_list is_lst (sn_lst ses_nil))))
      (ss_cons (ss_set 16 nd (se_bin bin_sub (se_bin bin_sub (se_var 3) se_int) (se_var 8)))
      (ss_cons (ss_set 17 nd (se_newL (sn_lst ses_nil)))
      (ss_cons (ss_for PassesOwn.never rfl (si_range1 (se_var 8) (mb "range" (by decide))) (sg_name 18 nd) (ss_cons (ss_set 19 nd (se_ite (st_cmp cmp_lt (se_var 18) (se_bin bin_sub (se_var 8) se_int)) (se_call ft T_f_law_draw hr (ses_cons (se_var 0) (ses_cons (se_bin bin_add (se_var 16) se_int) ses_nil))) (se_var 16)))
      (ss_cons (ss_set 16 nd (se_bin bin_sub (se_var 16) (se_var 19)))
      (ss_cons (ss_set 20 nd (se_ite (st_w (sw_and (st_cmp (cmp_eq hr) (se_var 11) se_str) (sw_and1 (st_cmp (cmp_eq hr) (se_var 18) se_int)))) (se_var 2) (se_bin bin_add (se_var 2) (se_var 15))))
      (ss_cons (ss_set 21 nd (se_ite (st_w (sw_and (st_cmp (cmp_eq hr) (se_var 6) se_int) (sw_and (st_cmp (cmp_eq hr) (se_var 11) se_str) (sw_and1 (st_cmp (cmp_eq hr) (se_var 18) se_int))))) se_int (se_var 6)))
      (ss_cons (ss_ex (se_append (se_var 17) (se_call ft T_f_law_prog hr (ses_cons (se_var 0) (ses_cons (se_var 1) (ses_cons (se_var 20) (ses_cons (se_bin bin_add se_int (se_var 19)) (ses_cons (se_bin bin_sub (se_var 4) se_int) (ses_cons (se_var 5) (ses_cons (se_var 21) ses_nil))))))))))
      ss_nil))))))
      (ss_cons (ss_if (st_cmp cmp_gt (se_var 8) se_int) (ss_cons (ss_set 12 nd (se_bin bin_add (se_bin bin_add (se_tup (ses_cons (se_var 11) ses_nil)) (se_bltT blt_tuple (ses_cons (se_var 15) ses_nil) (mb "tuple" (by decide)) bv_tuple)) (se_bltT blt_tuple (ses_cons (se_var 17) ses_nil) (mb "tuple" (by decide)) bv_tuple)))
      ss_nil) ss_nil)
      (ss_cons (ss_ret (se_ite (st_val (se_var 7)) (se_tup (ses_cons se_str (ses_cons (se_var 12) ses_nil))) (se_var 12)))
      ss_nil))))))))))))))
end
end Prog

namespace Prog
open PySem PySem.Spec PyProof.Rows L2 Snd
section
variable {P : Program} {w : World} {K : PySem.W.Frag} {mg : Str → Option Value} {base : Heap}
theorem scf_law_any_prog : FnScope ["_law_bag_here", "_law_names_here", "_law_odd", "_law_many"] ["_law_bag_here", "_law_names_here"] (defScope sf_law_any_prog) := ⟨rfl, rfl, rfl, by decide +kernel, rfl, by decide +kernel, by decide +kernel⟩
theorem okf_law_any_prog {n : Nat} {a : Addr} {fd : FuncData} (F : Fun K "_law_any_prog" "_law_any_prog" sf_law_any_prog a fd) (ft : FT T KW n P w K mg base) (mb : ∀ s ∈ bn, mg (Str.ofString s) = none) (gc : GC w K mg) : FnOk P w K mg base CX0 (n + 1) a fd ["_law_bag_here", "_law_names_here"] (spI T (n + 1) K "_law_any_prog") :=
  have nd := (scf_law_any_prog).nd
  fn_ok F scf_law_any_prog T_f_law_any_prog rfl rfl fun cdv A outer s H E hr =>
    (ss_cons (ss_set 2 nd (se_idx hr (se_list is_lst (sn_lst (ses_cons se_int (ses_cons se_int (ses_cons se_int (ses_cons se_int ses_nil)))))) (se_call ft T_f_law_draw hr (ses_cons (se_var 0) (ses_cons se_int ses_nil)))))
      (ss_cons (ss_set 3 nd (se_bin bin_add se_int (se_call ft T_f_law_draw hr (ses_cons (se_var 0) (ses_cons (se_idx hr (se_list is_lst (sn_lst (ses_cons se_int (ses_cons se_int (ses_cons se_int (ses_cons se_int (ses_cons se_int (ses_cons se_int (ses_cons se_int (ses_cons se_int ses_nil)))))))))) (se_call ft T_f_law_draw hr (ses_cons (se_var 0) (ses_cons se_int ses_nil)))) ses_nil)))))
      (ss_cons (ss_ret (se_call ft T_f_law_prog hr (ses_cons (se_var 0) (ses_cons (se_var 1) (ses_cons (se_list is_lst (sn_lst ses_nil)) (ses_cons (se_var 3) (ses_cons (se_idx hr (se_list is_lst (sn_lst (ses_cons se_int (ses_cons se_int (ses_cons se_int ses_nil))))) (se_call ft T_f_law_draw hr (ses_cons (se_var 0) (ses_cons se_int ses_nil)))) (ses_cons (se_var 2) (ses_cons (se_bltT blt_int (ses_cons (se_cmp cmp_gt (se_var 3) se_int) ses_nil) (mb "int" (by decide)) bv_int) ses_nil)))))))))
      ss_nil)))
end
end Prog

namespace Prog
open PySem PySem.Spec PyProof.Rows L2 Snd
section
variable {P : Program} {w : World} {K : PySem.W.Frag} {mg : Str → Option Value} {base : Heap}
theorem scf_law_is_name : FnScope ["_law_part", "_law_sign"] ["_law_part"] (defScope sf_law_is_name) := ⟨rfl, rfl, rfl, by decide +kernel, rfl, by decide +kernel, by decide +kernel⟩
theorem okf_law_is_name {n : Nat} {a : Addr} {fd : FuncData} (F : Fun K "_law_is_name" "_law_is_name" sf_law_is_name a fd) (ft : FT T KW n P w K mg base) (mb : ∀ s ∈ bn, mg (Str.ofString s) = none) (gc : GC w K mg) : FnOk P w K mg base CX0 (n + 1) a fd ["_law_part"] (spI T (n + 1) K "_law_is_name") :=
  have nd := (scf_law_is_name).nd
  fn_ok F scf_law_is_name T_f_law_is_name rfl rfl fun cdv A outer s H E hr =>
    (ss_cons (ss_if (st_w (sw_or (st_not (st_val (se_isi (t := .str) (se_var 0) (sty_cons (t := .str) sty_nil (mb "str" (by decide)) bv_str) (mb "isinstance" (by decide))))) (sw_or (st_cmp cmp_lt (se_blt blt_len (ses_cons (se_var 0) ses_nil) (mb "len" (by decide)) bv_len) se_int) (sw_or1 (st_cmp cmp_gt (se_blt blt_len (ses_cons (se_var 0) ses_nil) (mb "len" (by decide)) bv_len) se_int))))) (ss_cons (ss_ret se_bool)
      ss_nil) ss_nil)
      (ss_cons (ss_if (st_w (sw_or (st_cmp cmp_isnot (se_call ft T_f_law_shape hr (ses_cons (se_var 0) ses_nil)) se_non) (sw_or1 (st_in hr (se_var 0) (se_list is_lst (sn_lst (ses_cons se_str (ses_cons se_str (ses_cons se_str (ses_cons se_str (ses_cons se_str ses_nil))))))))))) (ss_cons (ss_ret se_bool)
      ss_nil) ss_nil)
      (ss_cons (ss_ret (se_cmp (cmp_eq hr) (se_list is_comp (sn_comp [("_law_sign", 1)] rfl nd (si_chars (se_var 0)) (blkOk_by (N := ["_law_part", "_law_sign"]) (sc := defScope sf_law_is_name) (by decide +kernel)) (fun _ _ _ _ _ => (sg_name 1 nd)) (fun _ _ _ _ _ => (sc_one (st_cmp cmp_snin (se_var 1) se_str))) (fun _ _ _ _ _ => (se_var 1)))) (se_list is_lst (sn_lst ses_nil))))
      ss_nil)))
end
end Prog

namespace Prog
open PySem PySem.Spec PyProof.Rows L2 Snd
section
variable {P : Program} {w : World} {K : PySem.W.Frag} {mg : Str → Option Value} {base : Heap}
theorem scf_law_fits : FnScope ["_law_part", "_law_letter"] ["_law_part", "_law_letter"] (defScope sf_law_fits) := ⟨rfl, rfl, rfl, by decide +kernel, rfl, by decide +kernel, by decide +kernel⟩
theorem okf_law_fits {n : Nat} {a : Addr} {fd : FuncData} (F : Fun K "_law_fits" "_law_fits" sf_law_fits a fd) (ft : FT T KW n P w K mg base) (mb : ∀ s ∈ bn, mg (Str.ofString s) = none) (gc : GC w K mg) : FnOk P w K mg base CX0 (n + 1) a fd ["_law_part", "_law_letter"] (spI T (n + 1) K "_law_fits") :=
  have nd := (scf_law_fits).nd
  fn_ok F scf_law_fits T_f_law_fits rfl rfl fun cdv A outer s H E hr =>
    (ss_cons (ss_if (st_cmp (cmp_eq hr) (se_var 1) se_str) (ss_cons (ss_ret (se_and (se_isi (t := .int) (se_var 0) (sty_cons (t := .int) sty_nil (mb "int" (by decide)) bv_int) (mb "isinstance" (by decide))) (se_one (se_not (se_isi (t := .bool) (se_var 0) (sty_cons (t := .bool) sty_nil (mb "bool" (by decide)) bv_bool) (mb "isinstance" (by decide)))))))
      ss_nil) ss_nil)
      (ss_cons (ss_if (st_cmp (cmp_eq hr) (se_var 1) se_str) (ss_cons (ss_ret (se_isi (t := .bool) (se_var 0) (sty_cons (t := .bool) sty_nil (mb "bool" (by decide)) bv_bool) (mb "isinstance" (by decide))))
      ss_nil) ss_nil)
      (ss_cons (ss_ret (se_ite (st_cmp (cmp_eq hr) (se_var 1) se_str) (se_call ft T_f_law_is_name hr (ses_cons (se_var 0) ses_nil)) (se_isi (t := .tuple) (se_var 0) (sty_cons (t := .tuple) sty_nil (mb "tuple" (by decide)) bv_tuple) (mb "isinstance" (by decide)))))
      ss_nil)))
end
end Prog

namespace Prog
open PySem PySem.Spec PyProof.Rows L2 Snd
section
variable {P : Program} {w : World} {K : PySem.W.Frag} {mg : Str → Option Value} {base : Heap}
theorem scf_law_formed : FnScope ["_law_prog_here", "_law_env", "_law_shape_here", "_law_bound", "_law_within_here", "_law_k", "_law_part"] ["_law_prog_here", "_law_env"] (defScope sf_law_formed) := ⟨rfl, rfl, rfl, by decide +kernel, rfl, by decide +kernel, by decide +kernel⟩
theorem okf_law_formed {n : Nat} {a : Addr} {fd : FuncData} (F : Fun K "_law_formed" "_law_formed" sf_law_formed a fd) (ft : FT T KW n P w K mg base) (mb : ∀ s ∈ bn, mg (Str.ofString s) = none) (gc : GC w K mg) : FnOk P w K mg base CX0 (n + 1) a fd ["_law_prog_here", "_law_env"] (spI T (n + 1) K "_law_formed") :=
  have nd := (scf_law_formed).nd
  fn_ok F scf_law_formed T_f_law_formed rfl rfl fun cdv A outer s H E hr =>
    (ss_cons (ss_if (st_w (sw_or (st_not (st_val (se_isi (t := .tuple) (se_var 0) (sty_cons (t := .tuple) sty_nil (mb "tuple" (by decide)) bv_tuple) (mb "isinstance" (by decide))))) (sw_or (st_cmp (cmp_eq hr) (se_var 0) (se_tup ses_nil)) (sw_or1 (st_not (st_val (se_isi (t := .str) (se_idx hr (se_var 0) se_int) (sty_cons (t := .str) sty_nil (mb "str" (by decide)) bv_str) (mb "isinstance" (by decide))))))))) (ss_cons (ss_ret se_bool)
      ss_nil) ss_nil)
      (ss_cons (ss_set 2 nd (se_call ft T_f_law_shape hr (ses_cons (se_idx hr (se_var 0) se_int) ses_nil)))
      (ss_cons (ss_if (st_w (sw_or (st_cmp cmp_is (se_var 2) se_non) (sw_or1 (st_cmp (cmp_ne hr) (se_blt blt_len (ses_cons (se_var 0) ses_nil) (mb "len" (by decide)) bv_len) (se_bin bin_add (se_blt blt_len (ses_cons (se_var 2) ses_nil) (mb "len" (by decide)) bv_len) se_int))))) (ss_cons (ss_ret se_bool)
      ss_nil) ss_nil)
      (ss_cons (ss_if (st_not (st_val (se_blt (blt_all rfl) (ses_cons (se_list is_comp (sn_comp [("_law_k", 5)] rfl nd (si_range1 (se_blt blt_len (ses_cons (se_var 2) ses_nil) (mb "len" (by decide)) bv_len) (mb "range" (by decide))) (blkOk_by (N := ["_law_prog_here", "_law_env", "_law_shape_here", "_law_bound", "_law_within_here", "_law_k", "_law_part"]) (sc := defScope sf_law_formed) (by decide +kernel)) (fun _ _ _ _ _ => (sg_name 5 nd)) (fun _ _ _ _ _ => sc_nil) (fun _ _ _ _ _ => (se_call ft T_f_law_fits hr (ses_cons (se_idx hr (se_var 0) (se_bin bin_add (se_var 5) se_int)) (ses_cons (se_idx hr (se_var 2) (se_var 5)) ses_nil)))))) ses_nil) (mb "all" (by decide)) bv_all))) (ss_cons (ss_ret se_bool)
      ss_nil) ss_nil)
      (ss_cons (ss_if (st_cmp (cmp_eq hr) (se_idx hr (se_var 0) se_int) se_str) (ss_cons (ss_ret (se_in hr (se_idx hr (se_var 0) se_int) (se_var 1)))
      ss_nil) ss_nil)
      (ss_cons (ss_if (st_w (sw_or (st_w (sw_and (st_cmp (cmp_eq hr) (se_idx hr (se_var 0) se_int) se_str) (sw_and1 (st_cmp (cmp_eq hr) (se_sli (se_idx hr (se_var 0) se_int) so_none (so_some se_int)) (se_tup (ses_cons se_str ses_nil)))))) (sw_or1 (st_w (sw_and (st_cmp (cmp_eq hr) (se_idx hr (se_var 0) se_int) se_str) (sw_and1 (st_cmp (cmp_eq hr) (se_idx hr (se_var 0) se_int) (se_idx hr (se_var 0) se_int)))))))) (ss_cons (ss_ret se_bool)
      ss_nil) ss_nil)
      (ss_cons (ss_set 3 nd (se_bin bin_add (se_var 1) (se_list is_comp (sn_comp [("_law_part", 6)] rfl nd (si_seq (se_sli (se_var 0) (so_some se_int) so_none)) (blkOk_by (N := ["_law_prog_here", "_law_env", "_law_shape_here", "_law_bound", "_law_within_here", "_law_k", "_law_part"]) (sc := defScope sf_law_formed) (by decide +kernel)) (fun _ _ _ _ _ => (sg_name 6 nd)) (fun _ _ _ _ _ => (sc_one (st_val (se_isi (t := .str) (se_var 6) (sty_cons (t := .str) sty_nil (mb "str" (by decide)) bv_str) (mb "isinstance" (by decide)))))) (fun _ _ _ _ _ => (se_var 6))))))
      (ss_cons (ss_setLc 4 [("_law_k", 5)] (tI_list is_comp) rfl nd (si_range2 se_int (se_blt blt_len (ses_cons (se_var 0) ses_nil) (mb "len" (by decide)) bv_len) (mb "range" (by decide))) (blkOk_by (N := ["_law_prog_here", "_law_env", "_law_shape_here", "_law_bound", "_law_within_here", "_law_k", "_law_part"]) (sc := defScope sf_law_formed) (by decide +kernel)) (fun _ _ _ _ _ => (sg_name 5 nd)) (fun _ _ _ _ _ => (sc_one (st_val (se_isi (t := .tuple) (se_idx hr (se_var 0) (se_var 5)) (sty_cons (t := .tuple) sty_nil (mb "tuple" (by decide)) bv_tuple) (mb "isinstance" (by decide)))))) (fun _ _ _ _ _ => (se_var 5)) (sw_true rfl rfl rfl (by decide +kernel)))
      (ss_cons (ss_ret (se_blt (blt_all rfl) (ses_cons (se_list is_comp (sn_comp [("_law_k", 5)] rfl nd (si_seq (se_var 4)) (blkOk_by (N := ["_law_prog_here", "_law_env", "_law_shape_here", "_law_bound", "_law_within_here", "_law_k", "_law_part"]) (sc := defScope sf_law_formed) (by decide +kernel)) (fun _ _ _ _ _ => (sg_name 5 nd)) (fun _ _ _ _ _ => sc_nil) (fun _ _ _ _ _ => (se_call ft T_f_law_formed hr (ses_cons (se_idx hr (se_var 0) (se_var 5)) (ses_cons (se_ite (st_w (sw_and (st_cmp (cmp_eq hr) (se_idx hr (se_var 0) se_int) se_str) (sw_and1 (st_cmp (cmp_eq hr) (se_var 5) se_int)))) (se_var 1) (se_var 3)) ses_nil)))))) ses_nil) (mb "all" (by decide)) bv_all))
      ss_nil)))))))))
end
end Prog

namespace Prog
open PySem PySem.Spec PyProof.Rows L2 Snd
section
variable {P : Program} {w : World} {K : PySem.W.Frag} {mg : Str → Option Value} {base : Heap}
theorem scf_law_size : FnScope ["_law_prog_here", "_law_parts", "_law_part", "_law_many", "_law_low"] ["_law_prog_here"] (defScope sf_law_size) := ⟨rfl, rfl, rfl, by decide +kernel, rfl, by decide +kernel, by decide +kernel⟩
theorem okf_law_size {n : Nat} {a : Addr} {fd : FuncData} (F : Fun K "_law_size" "_law_size" sf_law_size a fd) (ft : FT T KW n P w K mg base) (mb : ∀ s ∈ bn, mg (Str.ofString s) = none) (gc : GC w K mg) : FnOk P w K mg base CX0 (n + 1) a fd ["_law_prog_here"] (spI T (n + 1) K "_law_size") :=
  have nd := (scf_law_size).nd
  fn_ok F scf_law_size T_f_law_size rfl rfl fun cdv A outer s H E hr =>
    (ss_cons (ss_setLc 1 [("_law_part", 2)] (tI_list is_comp) rfl nd (si_seq (se_var 0)) (blkOk_by (N := ["_law_prog_here", "_law_parts", "_law_part", "_law_many", "_law_low"]) (sc := defScope sf_law_size) (by decide +kernel)) (fun _ _ _ _ _ => (sg_name 2 nd)) (fun _ _ _ _ _ => (sc_one (st_val (se_isi (t := .tuple) (se_var 2) (sty_cons (t := .tuple) sty_nil (mb "tuple" (by decide)) bv_tuple) (mb "isinstance" (by decide)))))) (fun _ _ _ _ _ => (se_call ft T_f_law_size hr (ses_cons (se_var 2) ses_nil))) (sw_true rfl rfl rfl (by decide +kernel)))
      (ss_cons (ss_ret (se_tup (ses_cons (se_bin bin_add se_int (se_blt (blt_sum rfl) (ses_cons (se_list is_comp (sn_comp [("_law_many", 3), ("_law_low", 4)] rfl nd (si_seq (se_var 1)) (blkOk_by (N := ["_law_prog_here", "_law_parts", "_law_part", "_law_many", "_law_low"]) (sc := defScope sf_law_size) (by decide +kernel)) (fun _ _ _ _ _ => (sg_tup rfl (sgs_cons (sg_name 3 nd) (sgs_cons (sg_name 4 nd) sgs_nil)) (puts_len _))) (fun _ _ _ _ _ => sc_nil) (fun _ _ _ _ _ => (se_var 3)))) ses_nil) (mb "sum" (by decide)) bv_sum)) (ses_cons (se_bin bin_add se_int (se_maxd rfl hr (se_list is_comp (sn_comp [("_law_many", 3), ("_law_low", 4)] rfl nd (si_seq (se_var 1)) (blkOk_by (N := ["_law_prog_here", "_law_parts", "_law_part", "_law_many", "_law_low"]) (sc := defScope sf_law_size) (by decide +kernel)) (fun _ _ _ _ _ => (sg_tup rfl (sgs_cons (sg_name 3 nd) (sgs_cons (sg_name 4 nd) sgs_nil)) (puts_len _))) (fun _ _ _ _ _ => sc_nil) (fun _ _ _ _ _ => (se_var 4)))) se_int (mb "max" (by decide)))) ses_nil))))
      ss_nil))
end
end Prog

namespace Prog
open PySem PySem.Spec PyProof.Rows L2 Snd
section
variable {P : Program} {w : World} {K : PySem.W.Frag} {mg : Str → Option Value} {base : Heap}
theorem scf_law_thing : FnScope ["_law_bag_here", "_law_names_here", "_law_way", "_law_some"] ["_law_bag_here", "_law_names_here"] (defScope sf_law_thing) := ⟨rfl, rfl, rfl, by decide +kernel, rfl, by decide +kernel, by decide +kernel⟩
theorem okf_law_thing {n : Nat} {a : Addr} {fd : FuncData} (F : Fun K "_law_thing" "_law_thing" sf_law_thing a fd) (ft : FT T KW n P w K mg base) (mb : ∀ s ∈ bn, mg (Str.ofString s) = none) (gc : GC w K mg) : FnOk P w K mg base CX0 (n + 1) a fd ["_law_bag_here", "_law_names_here"] (spI T (n + 1) K "_law_thing") :=
  have nd := (scf_law_thing).nd
  fn_ok F scf_law_thing T_f_law_thing rfl rfl fun cdv A outer s H E hr =>
    (ss_cons (ss_set 2 nd (se_call ft T_f_law_draw hr (ses_cons (se_var 0) (ses_cons se_int ses_nil))))
      (ss_cons (ss_set 3 nd (se_list is_lst (sn_lst (ses_cons se_int (ses_cons se_bool (ses_cons se_str (ses_cons se_str (ses_cons se_str (ses_cons (se_call ft T_f_law_odd_text hr (ses_cons (se_var 0) (ses_cons se_str ses_nil))) (ses_cons se_str (ses_cons (se_tup (ses_cons se_str ses_nil)) (ses_cons (se_tup ses_nil) ses_nil))))))))))))
      (ss_cons (ss_ret (se_idx hr (se_bin bin_add (se_var 3) (se_list is_lst (sn_lst (ses_cons (se_tup (ses_cons se_str (ses_cons (se_idx hr (se_var 1) (se_call ft T_f_law_draw hr (ses_cons (se_var 0) (ses_cons se_int ses_nil)))) ses_nil))) ses_nil)))) (se_var 2)))
      ss_nil)))
end
end Prog

namespace Prog
open PySem PySem.Spec PyProof.Rows L2 Snd
section
variable {P : Program} {w : World} {K : PySem.W.Frag} {mg : Str → Option Value} {base : Heap}
theorem scf_law_odd_text : FnScope ["_law_bag_here", "_law_name", "_law_signs", "_law_at"] ["_law_bag_here", "_law_name"] (defScope sf_law_odd_text) := ⟨rfl, rfl, rfl, by decide +kernel, rfl, by decide +kernel, by decide +kernel⟩
theorem okf_law_odd_text {n : Nat} {a : Addr} {fd : FuncData} (F : Fun K "_law_odd_text" "_law_odd_text" sf_law_odd_text a fd) (ft : FT T KW n P w K mg base) (mb : ∀ s ∈ bn, mg (Str.ofString s) = none) (gc : GC w K mg) : FnOk P w K mg base CX0 (n + 1) a fd ["_law_bag_here", "_law_name"] (spI T (n + 1) K "_law_odd_text") :=
  have nd := (scf_law_odd_text).nd
  fn_ok F scf_law_odd_text T_f_law_odd_text rfl rfl fun cdv A outer s H E hr =>
    (ss_cons (ss_set 2 nd se_str)
      (ss_cons (ss_set 3 nd (se_call ft T_f_law_draw hr (ses_cons (se_var 0) (ses_cons (se_bin bin_add (se_blt blt_len (ses_cons (se_var 1) ses_nil) (mb "len" (by decide)) bv_len) se_int) ses_nil))))
      (ss_cons (ss_ret (se_sli (se_bin bin_add (se_bin bin_add (se_sli (se_var 1) so_none (so_some (se_var 3))) (se_idx hr (se_var 2) (se_call ft T_f_law_draw hr (ses_cons (se_var 0) (ses_cons (se_blt blt_len (ses_cons (se_var 2) ses_nil) (mb "len" (by decide)) bv_len) ses_nil))))) (se_sli (se_var 1) (so_some (se_bin bin_add (se_var 3) (se_call ft T_f_law_draw hr (ses_cons (se_var 0) (ses_cons se_int ses_nil))))) so_none)) so_none (so_some se_int)))
      ss_nil)))
end
end Prog

namespace Prog
open PySem PySem.Spec PyProof.Rows L2 Snd
section
variable {P : Program} {w : World} {K : PySem.W.Frag} {mg : Str → Option Value} {base : Heap}
theorem scf_law_all_named : FnScope ["_law_here", "_law_old", "_law_new", "_law_part"] ["_law_here", "_law_old", "_law_new"] (defScope sf_law_all_named) := ⟨rfl, rfl, rfl, by decide +kernel, rfl, by decide +kernel, by decide +kernel⟩
theorem okf_law_all_named {n : Nat} {a : Addr} {fd : FuncData} (F : Fun K "_law_all_named" "_law_all_named" sf_law_all_named a fd) (ft : FT T KW n P w K mg base) (mb : ∀ s ∈ bn, mg (Str.ofString s) = none) (gc : GC w K mg) : FnOk P w K mg base CX0 (n + 1) a fd ["_law_here", "_law_old", "_law_new"] (spI T (n + 1) K "_law_all_named") :=
  have nd := (scf_law_all_named).nd
  fn_ok F scf_law_all_named T_f_law_all_named rfl rfl fun cdv A outer s H E hr =>
    (ss_cons (ss_if (st_not (st_val (se_isi (t := .tuple) (se_var 0) (sty_cons (t := .tuple) sty_nil (mb "tuple" (by decide)) bv_tuple) (mb "isinstance" (by decide))))) (ss_cons (ss_ret (se_ite (st_w (sw_and (st_cmp (cmp_eq hr) (se_var 0) (se_var 1)) (sw_and1 (st_val (se_isi (t := .str) (se_var 0) (sty_cons (t := .str) sty_nil (mb "str" (by decide)) bv_str) (mb "isinstance" (by decide))))))) (se_var 2) (se_var 0)))
      ss_nil) ss_nil)
      (ss_cons (ss_ret (se_bin bin_add (se_sli (se_var 0) so_none (so_some se_int)) (se_bltT blt_tuple (ses_cons (se_list is_comp (sn_comp [("_law_part", 3)] rfl nd (si_seq (se_sli (se_var 0) (so_some se_int) so_none)) (blkOk_by (N := ["_law_here", "_law_old", "_law_new", "_law_part"]) (sc := defScope sf_law_all_named) (by decide +kernel)) (fun _ _ _ _ _ => (sg_name 3 nd)) (fun _ _ _ _ _ => sc_nil) (fun _ _ _ _ _ => (se_call ft T_f_law_all_named hr (ses_cons (se_var 3) (ses_cons (se_var 1) (ses_cons (se_var 2) ses_nil))))))) ses_nil) (mb "tuple" (by decide)) bv_tuple)))
      ss_nil))
end
end Prog

namespace Prog
open PySem PySem.Spec PyProof.Rows L2 Snd
section
variable {P : Program} {w : World} {K : PySem.W.Frag} {mg : Str → Option Value} {base : Heap}
theorem scf_law_bent : FnScope ["_law_bag_here", "_law_here", "_law_names_here", "_law_way", "_law_heads", "_law_at", "_law_thing_here", "_law_other"] ["_law_bag_here", "_law_here", "_law_names_here"] (defScope sf_law_bent) := ⟨rfl, rfl, rfl, by decide +kernel, rfl, by decide +kernel, by decide +kernel⟩
theorem okf_law_bent {n : Nat} {a : Addr} {fd : FuncData} (F : Fun K "_law_bent" "_law_bent" sf_law_bent a fd) (ft : FT T KW n P w K mg base) (mb : ∀ s ∈ bn, mg (Str.ofString s) = none) (gc : GC w K mg) : FnOk P w K mg base CX0 (n + 1) a fd ["_law_bag_here", "_law_here", "_law_names_here"] (spI T (n + 1) K "_law_bent") :=
  have nd := (scf_law_bent).nd
  fn_ok F scf_law_bent T_f_law_bent rfl rfl fun cdv A outer s H E hr =>
    (ss_cons (ss_set 3 nd (se_call ft T_f_law_draw hr (ses_cons (se_var 0) (ses_cons se_int ses_nil))))
      (ss_cons (ss_set 4 nd (se_list is_lst (sn_lst (ses_cons se_str (ses_cons se_str (ses_cons se_str (ses_cons se_str (ses_cons se_str (ses_cons se_str (ses_cons se_str (ses_cons se_str (ses_cons se_str (ses_cons se_str (ses_cons se_str (ses_cons se_str (ses_cons se_str (ses_cons se_str ses_nil)))))))))))))))))
      (ss_cons (ss_set 4 nd (se_bin bin_add (se_var 4) (se_list is_lst (sn_lst (ses_cons se_str (ses_cons se_str (ses_cons se_str (ses_cons se_str (ses_cons se_str (ses_cons se_str (ses_cons se_str (ses_cons se_str (ses_cons se_str (ses_cons se_str ses_nil))))))))))))))
      (ss_cons (ss_set 5 nd (se_call ft T_f_law_draw hr (ses_cons (se_var 0) (ses_cons (se_blt (blt_max rfl) (ses_cons se_int (ses_cons (se_blt blt_len (ses_cons (se_var 1) ses_nil) (mb "len" (by decide)) bv_len) ses_nil)) (mb "max" (by decide)) bv_max) ses_nil))))
      (ss_cons (ss_set 6 nd (se_call ft T_f_law_thing hr (ses_cons (se_var 0) (ses_cons (se_var 2) ses_nil))))
      (ss_cons (ss_if (st_cmp (cmp_eq hr) (se_var 3) se_int) (ss_cons (ss_ret (se_bin bin_add (se_tup (ses_cons (se_idx hr (se_var 4) (se_call ft T_f_law_draw hr (ses_cons (se_var 0) (ses_cons se_int ses_nil)))) ses_nil)) (se_sli (se_var 1) (so_some se_int) so_none)))
      ss_nil) ss_nil)
      (ss_cons (ss_if (st_cmp (cmp_eq hr) (se_var 3) se_int) (ss_cons (ss_ret (se_bin bin_add (se_sli (se_var 1) so_none (so_some (se_var 5))) (se_sli (se_var 1) (so_some (se_bin bin_add (se_var 5) se_int)) so_none)))
      ss_nil) ss_nil)
      (ss_cons (ss_if (st_cmp (cmp_eq hr) (se_var 3) se_int) (ss_cons (ss_ret (se_bin bin_add (se_bin bin_add (se_sli (se_var 1) so_none (so_some (se_var 5))) (se_sli (se_var 1) (so_some (se_var 5)) (so_some (se_bin bin_add (se_var 5) se_int)))) (se_sli (se_var 1) (so_some (se_var 5)) so_none)))
      ss_nil) ss_nil)
      (ss_cons (ss_if (st_cmp (cmp_eq hr) (se_var 3) se_int) (ss_cons (ss_ret (se_bin bin_add (se_bin bin_add (se_sli (se_var 1) so_none (so_some (se_var 5))) (se_tup (ses_cons (se_var 6) ses_nil))) (se_sli (se_var 1) (so_some (se_var 5)) so_none)))
      ss_nil) ss_nil)
      (ss_cons (ss_if (st_cmp (cmp_eq hr) (se_var 3) se_int) (ss_cons (ss_ret (se_bin bin_add (se_sli (se_var 1) so_none (so_some se_int)) (se_revT (se_sli (se_var 1) (so_some se_int) so_none))))
      ss_nil) ss_nil)
      (ss_cons (ss_if (st_cmp (cmp_eq hr) (se_var 3) se_int) (ss_cons (ss_ret (se_tup (ses_cons se_str (ses_cons (se_var 1) ses_nil))))
      ss_nil) ss_nil)
      (ss_cons (ss_if (st_cmp (cmp_eq hr) (se_var 3) se_int) (ss_cons (ss_ret (se_tup (ses_cons se_str (ses_cons (se_idx hr (se_var 2) (se_bin bin_mod (se_var 5) se_int)) (ses_cons (se_var 1) ses_nil)))))
      ss_nil) ss_nil)
      (ss_cons (ss_if (st_w (sw_and (st_cmp (cmp_eq hr) (se_var 3) se_int) (sw_and (st_cmp cmp_gt (se_blt blt_len (ses_cons (se_var 1) ses_nil) (mb "len" (by decide)) bv_len) se_int) (sw_and1 (st_val (se_isi (t := .str) (se_idx hr (se_var 1) se_int) (sty_cons (t := .str) sty_nil (mb "str" (by decide)) bv_str) (mb "isinstance" (by decide)))))))) (ss_cons (ss_set 7 nd (se_ite (st_cmp (cmp_eq hr) (se_call ft T_f_law_draw hr (ses_cons (se_var 0) (ses_cons se_int ses_nil))) se_int) (se_idx hr (se_var 2) (se_call ft T_f_law_draw hr (ses_cons (se_var 0) (ses_cons se_int ses_nil)))) (se_call ft T_f_law_odd_text hr (ses_cons (se_var 0) (ses_cons (se_idx hr (se_var 1) se_int) ses_nil)))))
      (ss_cons (ss_ret (se_ite (st_cmp (cmp_eq hr) (se_call ft T_f_law_draw hr (ses_cons (se_var 0) (ses_cons se_int ses_nil))) se_int) (se_bin bin_add (se_bin bin_add (se_sli (se_var 1) so_none (so_some se_int)) (se_tup (ses_cons (se_var 7) ses_nil))) (se_sli (se_var 1) (so_some se_int) so_none)) (se_call ft T_f_law_all_named hr (ses_cons (se_var 1) (ses_cons (se_idx hr (se_var 1) se_int) (ses_cons (se_var 7) ses_nil))))))
      ss_nil)) ss_nil)
      (ss_cons (ss_ret (se_bin bin_add (se_bin bin_add (se_sli (se_var 1) so_none (so_some (se_var 5))) (se_tup (ses_cons (se_var 6) ses_nil))) (se_sli (se_var 1) (so_some (se_bin bin_add (se_var 5) se_int)) so_none)))
      ss_nil))))))))))))))
end
end Prog

namespace Prog
open PySem PySem.Spec PyProof.Rows L2 Snd
section
variable {P : Program} {w : World} {K : PySem.W.Frag} {mg : Str → Option Value} {base : Heap}
theorem scf_law_within : FnScope ["_law_bag_here", "_law_prog_here", "_law_names_here", "_law_path", "_law_here", "_law_k", "_law_found", "_law_many", "_law_low", "_law_some", "_law_above", "_law_at"] ["_law_bag_here", "_law_prog_here", "_law_names_here"] (defScope sf_law_within) := ⟨rfl, rfl, rfl, by decide +kernel, rfl, by decide +kernel, by decide +kernel⟩
theorem okf_law_within {n : Nat} {a : Addr} {fd : FuncData} (F : Fun K "_law_within" "_law_within" sf_law_within a fd) (ft : FT T KW n P w K mg base) (mb : ∀ s ∈ bn, mg (Str.ofString s) = none) (gc : GC w K mg) : FnOk P w K mg base CX0 (n + 1) a fd ["_law_bag_here", "_law_prog_here", "_law_names_here"] (spI T (n + 1) K "_law_within") :=
  have nd := (scf_law_within).nd
  fn_ok F scf_law_within T_f_law_within rfl rfl fun cdv A outer s H E hr =>
    (ss_cons (ss_set 3 nd (se_newL (sn_lst ses_nil)))
      (ss_cons (ss_set 4 nd (se_var 1))
      (ss_cons (ss_for PassesOwn.never rfl (si_range1 (se_call ft T_f_law_draw hr (ses_cons (se_var 0) (ses_cons se_int ses_nil))) (mb "range" (by decide))) (sg_name 5 nd) (ss_cons (ss_setLc 9 [("_law_at", 11)] (tI_list is_comp) rfl nd (si_range1 (se_blt blt_len (ses_cons (se_var 4) ses_nil) (mb "len" (by decide)) bv_len) (mb "range" (by decide))) (blkOk_by (N := ["_law_bag_here", "_law_prog_here", "_law_names_here", "_law_path", "_law_here", "_law_k", "_law_found", "_law_many", "_law_low", "_law_some", "_law_above", "_law_at"]) (sc := defScope sf_law_within) (by decide +kernel)) (fun _ _ _ _ _ => (sg_name 11 nd)) (fun _ _ _ _ _ => (sc_one (st_val (se_isi (t := .tuple) (se_idx hr (se_var 4) (se_var 11)) (sty_cons (t := .tuple) sty_nil (mb "tuple" (by decide)) bv_tuple) (mb "isinstance" (by decide)))))) (fun _ _ _ _ _ => (se_var 11)) (sw_true rfl rfl rfl (by decide +kernel)))
      (ss_cons (ss_if (st_cmp (cmp_ne hr) (se_var 9) (se_list is_lst (sn_lst ses_nil))) (ss_cons (ss_ex (se_append (se_var 3) (se_idx hr (se_var 9) (se_call ft T_f_law_draw hr (ses_cons (se_var 0) (ses_cons (se_blt blt_len (ses_cons (se_var 9) ses_nil) (mb "len" (by decide)) bv_len) ses_nil))))))
      (ss_cons (ss_set 4 nd (se_idx hr (se_var 4) (se_idx hr (se_var 3) (se_neg se_int))))
      ss_nil)) ss_nil)
      ss_nil)))
      (ss_cons (ss_set 6 nd (se_call ft T_f_law_bent hr (ses_cons (se_var 0) (ses_cons (se_var 4) (ses_cons (se_var 2) ses_nil)))))
      (ss_cons (ss_for PassesOwn.never rfl (si_rev1 (se_blt blt_len (ses_cons (se_var 3) ses_nil) (mb "len" (by decide)) bv_len) (mb "reversed" (by decide)) (mb "range" (by decide))) (sg_name 5 nd) (ss_cons (ss_set 10 nd (se_var 1))
      (ss_cons (ss_for PassesOwn.never rfl (si_seq (se_sli (se_var 3) so_none (so_some (se_var 5)))) (sg_name 11 nd) (ss_cons (ss_set 10 nd (se_idx hr (se_var 10) (se_var 11)))
      ss_nil))
      (ss_cons (ss_set 6 nd (se_bin bin_add (se_bin bin_add (se_sli (se_var 10) so_none (so_some (se_idx hr (se_var 3) (se_var 5)))) (se_tup (ses_cons (se_var 6) ses_nil))) (se_sli (se_var 10) (so_some (se_bin bin_add (se_idx hr (se_var 3) (se_var 5)) se_int)) so_none)))
      ss_nil))))
      (ss_cons (ss_asg (se_call ft T_f_law_size hr (ses_cons (se_var 6) ses_nil)) (sg_tup rfl (sgs_cons (sg_name 7 nd) (sgs_cons (sg_name 8 nd) sgs_nil)) (puts_len _)))
      (ss_cons (ss_ret (se_ite (st_w (sw_and (st_cmp cmp_le (se_var 7) se_int) (sw_and1 (st_cmp cmp_le (se_var 8) se_int)))) (se_var 6) (se_var 1)))
      ss_nil)))))))
end
end Prog

namespace Prog
open PySem PySem.Spec PyProof.Rows L2 Snd
section
variable {P : Program} {w : World} {K : PySem.W.Frag} {mg : Str → Option Value} {base : Heap}
theorem scf_law : FnScope ["_law_script", "_law_bag_here", "_law_spoils", "_law_names_here", "_law_prog_here", "_law_k", "_law_found"] ["_law_script"] (defScope sf_law) := ⟨rfl, rfl, rfl, by decide +kernel, rfl, by decide +kernel, by decide +kernel⟩
theorem okf_law {n : Nat} {a : Addr} {fd : FuncData} (F : Fun K "law" "law" sf_law a fd) (ft : FT T KW n P w K mg base) (mb : ∀ s ∈ bn, mg (Str.ofString s) = none) (gc : GC w K mg) : FnOk P w K mg base CX0 (n + 1) a fd ["_law_script"] (spI T (n + 1) K "law") :=
  have nd := (scf_law).nd
  fn_ok F scf_law T_f_law rfl rfl fun cdv A outer s H E hr =>
    (ss_cons (ss_set 1 nd (se_call ft T_f_law_bag hr (ses_cons (se_var 0) ses_nil)))
      (ss_cons (ss_set 2 nd (se_call ft T_f_law_draw hr (ses_cons (se_var 1) (ses_cons se_int ses_nil))))
      (ss_cons (ss_set 3 nd (se_call ft T_f_law_names hr (ses_cons (se_var 1) ses_nil)))
      (ss_cons (ss_set 4 nd (se_call ft T_f_law_any_prog hr (ses_cons (se_var 1) (ses_cons (se_var 3) ses_nil))))
      (ss_cons (ss_for PassesOwn.never rfl (si_range1 (se_bin bin_add (se_var 2) se_int) (mb "range" (by decide))) (sg_name 5 nd) (ss_cons (ss_set 6 nd (se_call ft T_f_formed hr (ses_cons (se_var 4) ses_nil)))
      (ss_cons (ss_if (st_w (sw_or (st_not (st_val (se_isi (t := .bool) (se_var 6) (sty_cons (t := .bool) sty_nil (mb "bool" (by decide)) bv_bool) (mb "isinstance" (by decide))))) (sw_or (st_cmp (cmp_ne hr) (se_var 6) (se_call ft T_f_law_formed hr (ses_cons (se_var 4) (ses_cons (se_list is_lst (sn_lst ses_nil)) ses_nil)))) (sw_or1 (st_cmp (cmp_ne hr) (se_callK0 (ks := ["program"]) (perm := [0]) ft T_f_formed (by simp [KW]) hr (sks_cons (se_var 4) sks_nil)) (se_var 6)))))) (ss_cons (ss_ret se_bool)
      ss_nil) ss_nil)
      (ss_cons (ss_set 4 nd (se_call ft T_f_law_within hr (ses_cons (se_var 1) (ses_cons (se_var 4) (ses_cons (se_var 3) ses_nil)))))
      ss_nil))))
      (ss_cons (ss_ret se_bool)
      ss_nil))))))
end
end Prog

namespace Prog
open PySem PySem.Spec PyProof.Rows L2 Snd
set_option maxHeartbeats 8000000 in
theorem ft_all {P : Program} {w : World} {K : PySem.W.Frag} {mg : Str → Option Value} {base : Heap} {a0 : Addr} {fd0 : FuncData} {a1 : Addr} {fd1 : FuncData} {a2 : Addr} {fd2 : FuncData} {a3 : Addr} {fd3 : FuncData} {a4 : Addr} {fd4 : FuncData} {a5 : Addr} {fd5 : FuncData} {a6 : Addr} {fd6 : FuncData} {a7 : Addr} {fd7 : FuncData} {a8 : Addr} {fd8 : FuncData} {a9 : Addr} {fd9 : FuncData} {a10 : Addr} {fd10 : FuncData} {a11 : Addr} {fd11 : FuncData} {a12 : Addr} {fd12 : FuncData} {a13 : Addr} {fd13 : FuncData} {a14 : Addr} {fd14 : FuncData} {a15 : Addr} {fd15 : FuncData} {a16 : Addr} {fd16 : FuncData} {a17 : Addr} {fd17 : FuncData} {a18 : Addr} {fd18 : FuncData} {a19 : Addr} {fd19 : FuncData} {a20 : Addr} {fd20 : FuncData} {a21 : Addr} {fd21 : FuncData} {a22 : Addr} {fd22 : FuncData} {a23 : Addr} {fd23 : FuncData}
    (F0 : Fun K "is_name" "is_name" sf_is_name a0 fd0) (m0 : mg (Str.ofString "is_name") = some (.ref a0)) (b0 : Binds K fd0 ["text"] [])
    (F1 : Fun K "fits" "fits" sf_fits a1 fd1) (m1 : mg (Str.ofString "fits") = some (.ref a1)) (b1 : Binds K fd1 ["part", "letter"] [])
    (F2 : Fun K "bound_at" "bound_at" sf_bound_at a2 fd2) (m2 : mg (Str.ofString "bound_at") = some (.ref a2)) (b2 : Binds K fd2 ["program", "k", "bound"] [])
    (F3 : Fun K "formed_here" "formed_here" sf_formed_here a3 fd3) (m3 : mg (Str.ofString "formed_here") = some (.ref a3)) (b3 : Binds K fd3 ["program", "bound"] [])
    (F4 : Fun K "formed" "formed" sf_formed a4 fd4) (m4 : mg (Str.ofString "formed") = some (.ref a4)) (b4 : Binds K fd4 ["program"] [])
    (F5 : Fun K "_law_bag" "_law_bag" sf_law_bag a5 fd5) (m5 : mg (Str.ofString "_law_bag") = some (.ref a5)) (b5 : Binds K fd5 ["_law_script"] [])
    (F6 : Fun K "_law_stirred" "_law_stirred" sf_law_stirred a6 fd6) (m6 : mg (Str.ofString "_law_stirred") = some (.ref a6)) (b6 : Binds K fd6 ["_law_bag_here", "_law_many"] [])
    (F7 : Fun K "_law_draw" "_law_draw" sf_law_draw a7 fd7) (m7 : mg (Str.ofString "_law_draw") = some (.ref a7)) (b7 : Binds K fd7 ["_law_bag_here", "_law_many"] [])
    (F8 : Fun K "_law_pool" "_law_pool" sf_law_pool a8 fd8) (m8 : mg (Str.ofString "_law_pool") = some (.ref a8)) (b8 : Binds K fd8 ["_law_bag_here"] [])
    (F9 : Fun K "_law_names" "_law_names" sf_law_names a9 fd9) (m9 : mg (Str.ofString "_law_names") = some (.ref a9)) (b9 : Binds K fd9 ["_law_bag_here"] [])
    (F10 : Fun K "_law_shape" "_law_shape" sf_law_shape a10 fd10) (m10 : mg (Str.ofString "_law_shape") = some (.ref a10)) (b10 : Binds K fd10 ["_law_head"] [])
    (F11 : Fun K "_law_atom" "_law_atom" sf_law_atom a11 fd11) (m11 : mg (Str.ofString "_law_atom") = some (.ref a11)) (b11 : Binds K fd11 ["_law_bag_here", "_law_env"] [])
    (F12 : Fun K "_law_prog" "_law_prog" sf_law_prog a12 fd12) (m12 : mg (Str.ofString "_law_prog") = some (.ref a12)) (b12 : Binds K fd12 ["_law_bag_here", "_law_names_here", "_law_env", "_law_many", "_law_deep", "_law_odd", "_law_calm"] [])
    (F13 : Fun K "_law_any_prog" "_law_any_prog" sf_law_any_prog a13 fd13) (m13 : mg (Str.ofString "_law_any_prog") = some (.ref a13)) (b13 : Binds K fd13 ["_law_bag_here", "_law_names_here"] [])
    (F14 : Fun K "_law_is_name" "_law_is_name" sf_law_is_name a14 fd14) (m14 : mg (Str.ofString "_law_is_name") = some (.ref a14)) (b14 : Binds K fd14 ["_law_part"] [])
    (F15 : Fun K "_law_fits" "_law_fits" sf_law_fits a15 fd15) (m15 : mg (Str.ofString "_law_fits") = some (.ref a15)) (b15 : Binds K fd15 ["_law_part", "_law_letter"] [])
    (F16 : Fun K "_law_formed" "_law_formed" sf_law_formed a16 fd16) (m16 : mg (Str.ofString "_law_formed") = some (.ref a16)) (b16 : Binds K fd16 ["_law_prog_here", "_law_env"] [])
    (F17 : Fun K "_law_size" "_law_size" sf_law_size a17 fd17) (m17 : mg (Str.ofString "_law_size") = some (.ref a17)) (b17 : Binds K fd17 ["_law_prog_here"] [])
    (F18 : Fun K "_law_thing" "_law_thing" sf_law_thing a18 fd18) (m18 : mg (Str.ofString "_law_thing") = some (.ref a18)) (b18 : Binds K fd18 ["_law_bag_here", "_law_names_here"] [])
    (F19 : Fun K "_law_odd_text" "_law_odd_text" sf_law_odd_text a19 fd19) (m19 : mg (Str.ofString "_law_odd_text") = some (.ref a19)) (b19 : Binds K fd19 ["_law_bag_here", "_law_name"] [])
    (F20 : Fun K "_law_all_named" "_law_all_named" sf_law_all_named a20 fd20) (m20 : mg (Str.ofString "_law_all_named") = some (.ref a20)) (b20 : Binds K fd20 ["_law_here", "_law_old", "_law_new"] [])
    (F21 : Fun K "_law_bent" "_law_bent" sf_law_bent a21 fd21) (m21 : mg (Str.ofString "_law_bent") = some (.ref a21)) (b21 : Binds K fd21 ["_law_bag_here", "_law_here", "_law_names_here"] [])
    (F22 : Fun K "_law_within" "_law_within" sf_law_within a22 fd22) (m22 : mg (Str.ofString "_law_within") = some (.ref a22)) (b22 : Binds K fd22 ["_law_bag_here", "_law_prog_here", "_law_names_here"] [])
    (F23 : Fun K "law" "law" sf_law a23 fd23) (m23 : mg (Str.ofString "law") = some (.ref a23)) (b23 : Binds K fd23 ["_law_script"] [])
    (kw0 : KwOk K fd4 ["program"] ("formed", 0, ["program"], [0], []))
    (mb : ∀ s ∈ bn, mg (Str.ofString s) = none) (gc : GC w K mg) : ∀ n : Nat, FT T KW n P w K mg base
  | 0 => ft_zero fun f fn hT => by
    have hm := Ir.tab_mem hT
    simp only [tab, List.mem_cons, List.not_mem_nil, or_false] at hm
    rcases hm with hm | hm | hm | hm | hm | hm | hm | hm | hm | hm | hm | hm | hm | hm | hm | hm | hm | hm | hm | hm | hm | hm | hm | hm
    · simp only [Prod.mk.injEq] at hm
      obtain ⟨rfl, rfl⟩ := hm
      exact ⟨a0, fd0, _, m0, F0.kp, b0, (fun q hq e => by
        simp only [KW, List.mem_cons, List.not_mem_nil, or_false] at hq
        rcases hq with rfl
        · exact absurd e (by decide))⟩
    · simp only [Prod.mk.injEq] at hm
      obtain ⟨rfl, rfl⟩ := hm
      exact ⟨a1, fd1, _, m1, F1.kp, b1, (fun q hq e => by
        simp only [KW, List.mem_cons, List.not_mem_nil, or_false] at hq
        rcases hq with rfl
        · exact absurd e (by decide))⟩
    · simp only [Prod.mk.injEq] at hm
      obtain ⟨rfl, rfl⟩ := hm
      exact ⟨a2, fd2, _, m2, F2.kp, b2, (fun q hq e => by
        simp only [KW, List.mem_cons, List.not_mem_nil, or_false] at hq
        rcases hq with rfl
        · exact absurd e (by decide))⟩
    · simp only [Prod.mk.injEq] at hm
      obtain ⟨rfl, rfl⟩ := hm
      exact ⟨a3, fd3, _, m3, F3.kp, b3, (fun q hq e => by
        simp only [KW, List.mem_cons, List.not_mem_nil, or_false] at hq
        rcases hq with rfl
        · exact absurd e (by decide))⟩
    · simp only [Prod.mk.injEq] at hm
      obtain ⟨rfl, rfl⟩ := hm
      exact ⟨a4, fd4, _, m4, F4.kp, b4, (fun q hq e => by
        simp only [KW, List.mem_cons, List.not_mem_nil, or_false] at hq
        rcases hq with rfl
        · exact kw0)⟩
    · simp only [Prod.mk.injEq] at hm
      obtain ⟨rfl, rfl⟩ := hm
      exact ⟨a5, fd5, _, m5, F5.kp, b5, (fun q hq e => by
        simp only [KW, List.mem_cons, List.not_mem_nil, or_false] at hq
        rcases hq with rfl
        · exact absurd e (by decide))⟩
    · simp only [Prod.mk.injEq] at hm
      obtain ⟨rfl, rfl⟩ := hm
      exact ⟨a6, fd6, _, m6, F6.kp, b6, (fun q hq e => by
        simp only [KW, List.mem_cons, List.not_mem_nil, or_false] at hq
        rcases hq with rfl
        · exact absurd e (by decide))⟩
    · simp only [Prod.mk.injEq] at hm
      obtain ⟨rfl, rfl⟩ := hm
      exact ⟨a7, fd7, _, m7, F7.kp, b7, (fun q hq e => by
        simp only [KW, List.mem_cons, List.not_mem_nil, or_false] at hq
        rcases hq with rfl
        · exact absurd e (by decide))⟩
    · simp only [Prod.mk.injEq] at hm
      obtain ⟨rfl, rfl⟩ := hm
      exact ⟨a8, fd8, _, m8, F8.kp, b8, (fun q hq e => by
        simp only [KW, List.mem_cons, List.not_mem_nil, or_false] at hq
        rcases hq with rfl
        · exact absurd e (by decide))⟩
    · simp only [Prod.mk.injEq] at hm
      obtain ⟨rfl, rfl⟩ := hm
      exact ⟨a9, fd9, _, m9, F9.kp, b9, (fun q hq e => by
        simp only [KW, List.mem_cons, List.not_mem_nil, or_false] at hq
        rcases hq with rfl
        · exact absurd e (by decide))⟩
    · simp only [Prod.mk.injEq] at hm
      obtain ⟨rfl, rfl⟩ := hm
      exact ⟨a10, fd10, _, m10, F10.kp, b10, (fun q hq e => by
        simp only [KW, List.mem_cons, List.not_mem_nil, or_false] at hq
        rcases hq with rfl
        · exact absurd e (by decide))⟩
    · simp only [Prod.mk.injEq] at hm
      obtain ⟨rfl, rfl⟩ := hm
      exact ⟨a11, fd11, _, m11, F11.kp, b11, (fun q hq e => by
        simp only [KW, List.mem_cons, List.not_mem_nil, or_false] at hq
        rcases hq with rfl
        · exact absurd e (by decide))⟩
    · simp only [Prod.mk.injEq] at hm
      obtain ⟨rfl, rfl⟩ := hm
      exact ⟨a12, fd12, _, m12, F12.kp, b12, (fun q hq e => by
        simp only [KW, List.mem_cons, List.not_mem_nil, or_false] at hq
        rcases hq with rfl
        · exact absurd e (by decide))⟩
    · simp only [Prod.mk.injEq] at hm
      obtain ⟨rfl, rfl⟩ := hm
      exact ⟨a13, fd13, _, m13, F13.kp, b13, (fun q hq e => by
        simp only [KW, List.mem_cons, List.not_mem_nil, or_false] at hq
        rcases hq with rfl
        · exact absurd e (by decide))⟩
    · simp only [Prod.mk.injEq] at hm
      obtain ⟨rfl, rfl⟩ := hm
      exact ⟨a14, fd14, _, m14, F14.kp, b14, (fun q hq e => by
        simp only [KW, List.mem_cons, List.not_mem_nil, or_false] at hq
        rcases hq with rfl
        · exact absurd e (by decide))⟩
    · simp only [Prod.mk.injEq] at hm
      obtain ⟨rfl, rfl⟩ := hm
      exact ⟨a15, fd15, _, m15, F15.kp, b15, (fun q hq e => by
        simp only [KW, List.mem_cons, List.not_mem_nil, or_false] at hq
        rcases hq with rfl
        · exact absurd e (by decide))⟩
    · simp only [Prod.mk.injEq] at hm
      obtain ⟨rfl, rfl⟩ := hm
      exact ⟨a16, fd16, _, m16, F16.kp, b16, (fun q hq e => by
        simp only [KW, List.mem_cons, List.not_mem_nil, or_false] at hq
        rcases hq with rfl
        · exact absurd e (by decide))⟩
    · simp only [Prod.mk.injEq] at hm
      obtain ⟨rfl, rfl⟩ := hm
      exact ⟨a17, fd17, _, m17, F17.kp, b17, (fun q hq e => by
        simp only [KW, List.mem_cons, List.not_mem_nil, or_false] at hq
        rcases hq with rfl
        · exact absurd e (by decide))⟩
    · simp only [Prod.mk.injEq] at hm
      obtain ⟨rfl, rfl⟩ := hm
      exact ⟨a18, fd18, _, m18, F18.kp, b18, (fun q hq e => by
        simp only [KW, List.mem_cons, List.not_mem_nil, or_false] at hq
        rcases hq with rfl
        · exact absurd e (by decide))⟩
    · simp only [Prod.mk.injEq] at hm
      obtain ⟨rfl, rfl⟩ := hm
      exact ⟨a19, fd19, _, m19, F19.kp, b19, (fun q hq e => by
        simp only [KW, List.mem_cons, List.not_mem_nil, or_false] at hq
        rcases hq with rfl
        · exact absurd e (by decide))⟩
    · simp only [Prod.mk.injEq] at hm
      obtain ⟨rfl, rfl⟩ := hm
      exact ⟨a20, fd20, _, m20, F20.kp, b20, (fun q hq e => by
        simp only [KW, List.mem_cons, List.not_mem_nil, or_false] at hq
        rcases hq with rfl
        · exact absurd e (by decide))⟩
    · simp only [Prod.mk.injEq] at hm
      obtain ⟨rfl, rfl⟩ := hm
      exact ⟨a21, fd21, _, m21, F21.kp, b21, (fun q hq e => by
        simp only [KW, List.mem_cons, List.not_mem_nil, or_false] at hq
        rcases hq with rfl
        · exact absurd e (by decide))⟩
    · simp only [Prod.mk.injEq] at hm
      obtain ⟨rfl, rfl⟩ := hm
      exact ⟨a22, fd22, _, m22, F22.kp, b22, (fun q hq e => by
        simp only [KW, List.mem_cons, List.not_mem_nil, or_false] at hq
        rcases hq with rfl
        · exact absurd e (by decide))⟩
    · simp only [Prod.mk.injEq] at hm
      obtain ⟨rfl, rfl⟩ := hm
      exact ⟨a23, fd23, _, m23, F23.kp, b23, (fun q hq e => by
        simp only [KW, List.mem_cons, List.not_mem_nil, or_false] at hq
        rcases hq with rfl
        · exact absurd e (by decide))⟩
  | n + 1 => ⟨fun f fn hT hx => by
    have ih := ft_all (P := P) (w := w) (base := base) F0 m0 b0 F1 m1 b1 F2 m2 b2 F3 m3 b3 F4 m4 b4 F5 m5 b5 F6 m6 b6 F7 m7 b7 F8 m8 b8 F9 m9 b9 F10 m10 b10 F11 m11 b11 F12 m12 b12 F13 m13 b13 F14 m14 b14 F15 m15 b15 F16 m16 b16 F17 m17 b17 F18 m18 b18 F19 m19 b19 F20 m20 b20 F21 m21 b21 F22 m22 b22 F23 m23 b23 kw0 mb gc n
    have hm := Ir.tab_mem hT
    simp only [tab, List.mem_cons, List.not_mem_nil, or_false] at hm
    rcases hm with hm | hm | hm | hm | hm | hm | hm | hm | hm | hm | hm | hm | hm | hm | hm | hm | hm | hm | hm | hm | hm | hm | hm | hm
    · simp only [Prod.mk.injEq] at hm
      obtain ⟨rfl, rfl⟩ := hm
      exact ⟨a0, fd0, _, okf_is_name F0 ih mb gc, m0, F0.kp, b0, (fun q hq e => by
        simp only [KW, List.mem_cons, List.not_mem_nil, or_false] at hq
        rcases hq with rfl
        · exact absurd e (by decide))⟩
    · simp only [Prod.mk.injEq] at hm
      obtain ⟨rfl, rfl⟩ := hm
      exact ⟨a1, fd1, _, okf_fits F1 ih mb gc, m1, F1.kp, b1, (fun q hq e => by
        simp only [KW, List.mem_cons, List.not_mem_nil, or_false] at hq
        rcases hq with rfl
        · exact absurd e (by decide))⟩
    · simp only [Prod.mk.injEq] at hm
      obtain ⟨rfl, rfl⟩ := hm
      exact ⟨a2, fd2, _, okf_bound_at F2 ih mb gc, m2, F2.kp, b2, (fun q hq e => by
        simp only [KW, List.mem_cons, List.not_mem_nil, or_false] at hq
        rcases hq with rfl
        · exact absurd e (by decide))⟩
    · simp only [Prod.mk.injEq] at hm
      obtain ⟨rfl, rfl⟩ := hm
      exact ⟨a3, fd3, _, okf_formed_here F3 ih mb gc, m3, F3.kp, b3, (fun q hq e => by
        simp only [KW, List.mem_cons, List.not_mem_nil, or_false] at hq
        rcases hq with rfl
        · exact absurd e (by decide))⟩
    · simp only [Prod.mk.injEq] at hm
      obtain ⟨rfl, rfl⟩ := hm
      exact ⟨a4, fd4, _, okf_formed F4 ih mb gc, m4, F4.kp, b4, (fun q hq e => by
        simp only [KW, List.mem_cons, List.not_mem_nil, or_false] at hq
        rcases hq with rfl
        · exact kw0)⟩
    · simp only [Prod.mk.injEq] at hm
      obtain ⟨rfl, rfl⟩ := hm
      exact ⟨a5, fd5, _, okf_law_bag F5 ih mb gc, m5, F5.kp, b5, (fun q hq e => by
        simp only [KW, List.mem_cons, List.not_mem_nil, or_false] at hq
        rcases hq with rfl
        · exact absurd e (by decide))⟩
    · simp only [Prod.mk.injEq] at hm
      obtain ⟨rfl, rfl⟩ := hm
      exact ⟨a6, fd6, _, okf_law_stirred F6 ih mb gc, m6, F6.kp, b6, (fun q hq e => by
        simp only [KW, List.mem_cons, List.not_mem_nil, or_false] at hq
        rcases hq with rfl
        · exact absurd e (by decide))⟩
    · simp only [Prod.mk.injEq] at hm
      obtain ⟨rfl, rfl⟩ := hm
      exact ⟨a7, fd7, _, okf_law_draw F7 ih mb gc, m7, F7.kp, b7, (fun q hq e => by
        simp only [KW, List.mem_cons, List.not_mem_nil, or_false] at hq
        rcases hq with rfl
        · exact absurd e (by decide))⟩
    · simp only [Prod.mk.injEq] at hm
      obtain ⟨rfl, rfl⟩ := hm
      exact ⟨a8, fd8, _, okf_law_pool F8 ih mb gc, m8, F8.kp, b8, (fun q hq e => by
        simp only [KW, List.mem_cons, List.not_mem_nil, or_false] at hq
        rcases hq with rfl
        · exact absurd e (by decide))⟩
    · simp only [Prod.mk.injEq] at hm
      obtain ⟨rfl, rfl⟩ := hm
      exact ⟨a9, fd9, _, okf_law_names F9 ih mb gc, m9, F9.kp, b9, (fun q hq e => by
        simp only [KW, List.mem_cons, List.not_mem_nil, or_false] at hq
        rcases hq with rfl
        · exact absurd e (by decide))⟩
    · simp only [Prod.mk.injEq] at hm
      obtain ⟨rfl, rfl⟩ := hm
      exact ⟨a10, fd10, _, okf_law_shape F10 ih mb gc, m10, F10.kp, b10, (fun q hq e => by
        simp only [KW, List.mem_cons, List.not_mem_nil, or_false] at hq
        rcases hq with rfl
        · exact absurd e (by decide))⟩
    · simp only [Prod.mk.injEq] at hm
      obtain ⟨rfl, rfl⟩ := hm
      exact ⟨a11, fd11, _, okf_law_atom F11 ih mb gc, m11, F11.kp, b11, (fun q hq e => by
        simp only [KW, List.mem_cons, List.not_mem_nil, or_false] at hq
        rcases hq with rfl
        · exact absurd e (by decide))⟩
    · simp only [Prod.mk.injEq] at hm
      obtain ⟨rfl, rfl⟩ := hm
      exact ⟨a12, fd12, _, okf_law_prog F12 ih mb gc, m12, F12.kp, b12, (fun q hq e => by
        simp only [KW, List.mem_cons, List.not_mem_nil, or_false] at hq
        rcases hq with rfl
        · exact absurd e (by decide))⟩
    · simp only [Prod.mk.injEq] at hm
      obtain ⟨rfl, rfl⟩ := hm
      exact ⟨a13, fd13, _, okf_law_any_prog F13 ih mb gc, m13, F13.kp, b13, (fun q hq e => by
        simp only [KW, List.mem_cons, List.not_mem_nil, or_false] at hq
        rcases hq with rfl
        · exact absurd e (by decide))⟩
    · simp only [Prod.mk.injEq] at hm
      obtain ⟨rfl, rfl⟩ := hm
      exact ⟨a14, fd14, _, okf_law_is_name F14 ih mb gc, m14, F14.kp, b14, (fun q hq e => by
        simp only [KW, List.mem_cons, List.not_mem_nil, or_false] at hq
        rcases hq with rfl
        · exact absurd e (by decide))⟩
    · simp only [Prod.mk.injEq] at hm
      obtain ⟨rfl, rfl⟩ := hm
      exact ⟨a15, fd15, _, okf_law_fits F15 ih mb gc, m15, F15.kp, b15, (fun q hq e => by
        simp only [KW, List.mem_cons, List.not_mem_nil, or_false] at hq
        rcases hq with rfl
        · exact absurd e (by decide))⟩
    · simp only [Prod.mk.injEq] at hm
      obtain ⟨rfl, rfl⟩ := hm
      exact ⟨a16, fd16, _, okf_law_formed F16 ih mb gc, m16, F16.kp, b16, (fun q hq e => by
        simp only [KW, List.mem_cons, List.not_mem_nil, or_false] at hq
        rcases hq with rfl
        · exact absurd e (by decide))⟩
    · simp only [Prod.mk.injEq] at hm
      obtain ⟨rfl, rfl⟩ := hm
      exact ⟨a17, fd17, _, okf_law_size F17 ih mb gc, m17, F17.kp, b17, (fun q hq e => by
        simp only [KW, List.mem_cons, List.not_mem_nil, or_false] at hq
        rcases hq with rfl
        · exact absurd e (by decide))⟩
    · simp only [Prod.mk.injEq] at hm
      obtain ⟨rfl, rfl⟩ := hm
      exact ⟨a18, fd18, _, okf_law_thing F18 ih mb gc, m18, F18.kp, b18, (fun q hq e => by
        simp only [KW, List.mem_cons, List.not_mem_nil, or_false] at hq
        rcases hq with rfl
        · exact absurd e (by decide))⟩
    · simp only [Prod.mk.injEq] at hm
      obtain ⟨rfl, rfl⟩ := hm
      exact ⟨a19, fd19, _, okf_law_odd_text F19 ih mb gc, m19, F19.kp, b19, (fun q hq e => by
        simp only [KW, List.mem_cons, List.not_mem_nil, or_false] at hq
        rcases hq with rfl
        · exact absurd e (by decide))⟩
    · simp only [Prod.mk.injEq] at hm
      obtain ⟨rfl, rfl⟩ := hm
      exact ⟨a20, fd20, _, okf_law_all_named F20 ih mb gc, m20, F20.kp, b20, (fun q hq e => by
        simp only [KW, List.mem_cons, List.not_mem_nil, or_false] at hq
        rcases hq with rfl
        · exact absurd e (by decide))⟩
    · simp only [Prod.mk.injEq] at hm
      obtain ⟨rfl, rfl⟩ := hm
      exact ⟨a21, fd21, _, okf_law_bent F21 ih mb gc, m21, F21.kp, b21, (fun q hq e => by
        simp only [KW, List.mem_cons, List.not_mem_nil, or_false] at hq
        rcases hq with rfl
        · exact absurd e (by decide))⟩
    · simp only [Prod.mk.injEq] at hm
      obtain ⟨rfl, rfl⟩ := hm
      exact ⟨a22, fd22, _, okf_law_within F22 ih mb gc, m22, F22.kp, b22, (fun q hq e => by
        simp only [KW, List.mem_cons, List.not_mem_nil, or_false] at hq
        rcases hq with rfl
        · exact absurd e (by decide))⟩
    · simp only [Prod.mk.injEq] at hm
      obtain ⟨rfl, rfl⟩ := hm
      exact ⟨a23, fd23, _, okf_law F23 ih mb gc, m23, F23.kp, b23, (fun q hq e => by
        simp only [KW, List.mem_cons, List.not_mem_nil, or_false] at hq
        rcases hq with rfl
        · exact absurd e (by decide))⟩, fun f fn hT hx => by
    have ih := ft_all (P := P) (w := w) (base := base) F0 m0 b0 F1 m1 b1 F2 m2 b2 F3 m3 b3 F4 m4 b4 F5 m5 b5 F6 m6 b6 F7 m7 b7 F8 m8 b8 F9 m9 b9 F10 m10 b10 F11 m11 b11 F12 m12 b12 F13 m13 b13 F14 m14 b14 F15 m15 b15 F16 m16 b16 F17 m17 b17 F18 m18 b18 F19 m19 b19 F20 m20 b20 F21 m21 b21 F22 m22 b22 F23 m23 b23 kw0 mb gc n
    have hm := Ir.tab_mem hT
    simp only [tab, List.mem_cons, List.not_mem_nil, or_false] at hm
    rcases hm with hm | hm | hm | hm | hm | hm | hm | hm | hm | hm | hm | hm | hm | hm | hm | hm | hm | hm | hm | hm | hm | hm | hm | hm
    · simp only [Prod.mk.injEq] at hm
      obtain ⟨rfl, rfl⟩ := hm
      cases hx
    · simp only [Prod.mk.injEq] at hm
      obtain ⟨rfl, rfl⟩ := hm
      cases hx
    · simp only [Prod.mk.injEq] at hm
      obtain ⟨rfl, rfl⟩ := hm
      cases hx
    · simp only [Prod.mk.injEq] at hm
      obtain ⟨rfl, rfl⟩ := hm
      cases hx
    · simp only [Prod.mk.injEq] at hm
      obtain ⟨rfl, rfl⟩ := hm
      cases hx
    · simp only [Prod.mk.injEq] at hm
      obtain ⟨rfl, rfl⟩ := hm
      cases hx
    · simp only [Prod.mk.injEq] at hm
      obtain ⟨rfl, rfl⟩ := hm
      cases hx
    · simp only [Prod.mk.injEq] at hm
      obtain ⟨rfl, rfl⟩ := hm
      cases hx
    · simp only [Prod.mk.injEq] at hm
      obtain ⟨rfl, rfl⟩ := hm
      cases hx
    · simp only [Prod.mk.injEq] at hm
      obtain ⟨rfl, rfl⟩ := hm
      cases hx
    · simp only [Prod.mk.injEq] at hm
      obtain ⟨rfl, rfl⟩ := hm
      cases hx
    · simp only [Prod.mk.injEq] at hm
      obtain ⟨rfl, rfl⟩ := hm
      cases hx
    · simp only [Prod.mk.injEq] at hm
      obtain ⟨rfl, rfl⟩ := hm
      cases hx
    · simp only [Prod.mk.injEq] at hm
      obtain ⟨rfl, rfl⟩ := hm
      cases hx
    · simp only [Prod.mk.injEq] at hm
      obtain ⟨rfl, rfl⟩ := hm
      cases hx
    · simp only [Prod.mk.injEq] at hm
      obtain ⟨rfl, rfl⟩ := hm
      cases hx
    · simp only [Prod.mk.injEq] at hm
      obtain ⟨rfl, rfl⟩ := hm
      cases hx
    · simp only [Prod.mk.injEq] at hm
      obtain ⟨rfl, rfl⟩ := hm
      cases hx
    · simp only [Prod.mk.injEq] at hm
      obtain ⟨rfl, rfl⟩ := hm
      cases hx
    · simp only [Prod.mk.injEq] at hm
      obtain ⟨rfl, rfl⟩ := hm
      cases hx
    · simp only [Prod.mk.injEq] at hm
      obtain ⟨rfl, rfl⟩ := hm
      cases hx
    · simp only [Prod.mk.injEq] at hm
      obtain ⟨rfl, rfl⟩ := hm
      cases hx
    · simp only [Prod.mk.injEq] at hm
      obtain ⟨rfl, rfl⟩ := hm
      cases hx
    · simp only [Prod.mk.injEq] at hm
      obtain ⟨rfl, rfl⟩ := hm
      cases hx⟩
def spLaw (n : Nat) (K : PySem.W.Frag) : Sp := spI T n K "law"
set_option maxHeartbeats 8000000 in
theorem all_mk {l : PySem.W.OpenLaw} {w : World} {K : PySem.W.Frag} {h : Heap} {mg : Str → Option Value} {fa f0 f1 f2 f3 f4 f5 f6 f7 f8 f9 f10 f11 f12 f13 f14 f15 f16 f17 f18 f19 f20 f21 f22 f23 : Addr} (X : K.In h) (G : h.Ns mainGlobals mg) (hfa : mg "law" = some (.ref fa))
    {gv_MOST_SIGNS : Value} {ga_SHAPES : Addr} {ge_SHAPES : Array DictEntry} {gn_SHAPES : Nat} {ga_OTHERS : Addr} {gd_OTHERS : Option Addr} {gu_OTHERS : List Value} {gn_OTHERS : Nat} {gs_OTHERS : Array (Option Value)} {gv_LETTERS : Value}  
    {od0 an0 od1 an1 od2 an2 od3 an3 od4 an4 od5 an5 od6 an6 od7 an7 od8 an8 od9 an9 od10 an10 od11 an11 od12 an12 od13 an13 od14 an14 od15 an15 od16 an16 od17 an17 od18 an18 od19 an19 od20 an20 od21 an21 od22 an22 od23 an23 : Option Addr} {sl0 sl1 sl2 sl3 sl4 sl5 sl6 sl7 sl8 sl9 sl10 sl11 sl12 sl13 sl14 sl15 sl16 sl17 sl18 sl19 sl20 sl21 sl22 sl23 : Array (Option Value)} {oc0 kV0 dc0 pm0 cd0 ct0 oc1 kV1 dc1 pm1 cd1 ct1 oc2 kV2 dc2 pm2 cd2 ct2 oc3 kV3 dc3 pm3 cd3 ct3 oc4 kV4 dc4 pm4 cd4 ct4 oc5 kV5 dc5 pm5 cd5 ct5 oc6 kV6 dc6 pm6 cd6 ct6 oc7 kV7 dc7 pm7 cd7 ct7 oc8 kV8 dc8 pm8 cd8 ct8 oc9 kV9 dc9 pm9 cd9 ct9 oc10 kV10 dc10 pm10 cd10 ct10 oc11 kV11 dc11 pm11 cd11 ct11 oc12 kV12 dc12 pm12 cd12 ct12 oc13 kV13 dc13 pm13 cd13 ct13 oc14 kV14 dc14 pm14 cd14 ct14 oc15 kV15 dc15 pm15 cd15 ct15 oc16 kV16 dc16 pm16 cd16 ct16 oc17 kV17 dc17 pm17 cd17 ct17 oc18 kV18 dc18 pm18 cd18 ct18 oc19 kV19 dc19 pm19 cd19 ct19 oc20 kV20 dc20 pm20 cd20 ct20 oc21 kV21 dc21 pm21 cd21 ct21 oc22 kV22 dc22 pm22 cd22 ct22 oc23 kV23 dc23 pm23 cd23 ct23 : Value}
    (x0 : PySem.W.nsIn K mainGlobals "is_name" = some (some (.ref f0))) (l0 : K.lookup f0 = some ⟨oc0, od0, .func (PySem.W.fnOf "is_name" "is_name" (defArgs sf_is_name) (defBody sf_is_name) (defScope sf_is_name) .none kV0 dc0 pm0 an0 cd0 ct0), sl0⟩) (c0 : PySem.W.codeIn K cd0 "is_name" = true) (k0 : PySem.W.keepIn K (.ref f0) = true)
    (x1 : PySem.W.nsIn K mainGlobals "fits" = some (some (.ref f1))) (l1 : K.lookup f1 = some ⟨oc1, od1, .func (PySem.W.fnOf "fits" "fits" (defArgs sf_fits) (defBody sf_fits) (defScope sf_fits) .none kV1 dc1 pm1 an1 cd1 ct1), sl1⟩) (c1 : PySem.W.codeIn K cd1 "fits" = true) (k1 : PySem.W.keepIn K (.ref f1) = true)
    (x2 : PySem.W.nsIn K mainGlobals "bound_at" = some (some (.ref f2))) (l2 : K.lookup f2 = some ⟨oc2, od2, .func (PySem.W.fnOf "bound_at" "bound_at" (defArgs sf_bound_at) (defBody sf_bound_at) (defScope sf_bound_at) .none kV2 dc2 pm2 an2 cd2 ct2), sl2⟩) (c2 : PySem.W.codeIn K cd2 "bound_at" = true) (k2 : PySem.W.keepIn K (.ref f2) = true)
    (x3 : PySem.W.nsIn K mainGlobals "formed_here" = some (some (.ref f3))) (l3 : K.lookup f3 = some ⟨oc3, od3, .func (PySem.W.fnOf "formed_here" "formed_here" (defArgs sf_formed_here) (defBody sf_formed_here) (defScope sf_formed_here) .none kV3 dc3 pm3 an3 cd3 ct3), sl3⟩) (c3 : PySem.W.codeIn K cd3 "formed_here" = true) (k3 : PySem.W.keepIn K (.ref f3) = true)
    (x4 : PySem.W.nsIn K mainGlobals "formed" = some (some (.ref f4))) (l4 : K.lookup f4 = some ⟨oc4, od4, .func (PySem.W.fnOf "formed" "formed" (defArgs sf_formed) (defBody sf_formed) (defScope sf_formed) .none kV4 dc4 pm4 an4 cd4 ct4), sl4⟩) (c4 : PySem.W.codeIn K cd4 "formed" = true) (k4 : PySem.W.keepIn K (.ref f4) = true)
    (x5 : PySem.W.nsIn K mainGlobals "_law_bag" = some (some (.ref f5))) (l5 : K.lookup f5 = some ⟨oc5, od5, .func (PySem.W.fnOf "_law_bag" "_law_bag" (defArgs sf_law_bag) (defBody sf_law_bag) (defScope sf_law_bag) .none kV5 dc5 pm5 an5 cd5 ct5), sl5⟩) (c5 : PySem.W.codeIn K cd5 "_law_bag" = true) (k5 : PySem.W.keepIn K (.ref f5) = true)
    (x6 : PySem.W.nsIn K mainGlobals "_law_stirred" = some (some (.ref f6))) (l6 : K.lookup f6 = some ⟨oc6, od6, .func (PySem.W.fnOf "_law_stirred" "_law_stirred" (defArgs sf_law_stirred) (defBody sf_law_stirred) (defScope sf_law_stirred) .none kV6 dc6 pm6 an6 cd6 ct6), sl6⟩) (c6 : PySem.W.codeIn K cd6 "_law_stirred" = true) (k6 : PySem.W.keepIn K (.ref f6) = true)
    (x7 : PySem.W.nsIn K mainGlobals "_law_draw" = some (some (.ref f7))) (l7 : K.lookup f7 = some ⟨oc7, od7, .func (PySem.W.fnOf "_law_draw" "_law_draw" (defArgs sf_law_draw) (defBody sf_law_draw) (defScope sf_law_draw) .none kV7 dc7 pm7 an7 cd7 ct7), sl7⟩) (c7 : PySem.W.codeIn K cd7 "_law_draw" = true) (k7 : PySem.W.keepIn K (.ref f7) = true)
    (x8 : PySem.W.nsIn K mainGlobals "_law_pool" = some (some (.ref f8))) (l8 : K.lookup f8 = some ⟨oc8, od8, .func (PySem.W.fnOf "_law_pool" "_law_pool" (defArgs sf_law_pool) (defBody sf_law_pool) (defScope sf_law_pool) .none kV8 dc8 pm8 an8 cd8 ct8), sl8⟩) (c8 : PySem.W.codeIn K cd8 "_law_pool" = true) (k8 : PySem.W.keepIn K (.ref f8) = true)
    (x9 : PySem.W.nsIn K mainGlobals "_law_names" = some (some (.ref f9))) (l9 : K.lookup f9 = some ⟨oc9, od9, .func (PySem.W.fnOf "_law_names" "_law_names" (defArgs sf_law_names) (defBody sf_law_names) (defScope sf_law_names) .none kV9 dc9 pm9 an9 cd9 ct9), sl9⟩) (c9 : PySem.W.codeIn K cd9 "_law_names" = true) (k9 : PySem.W.keepIn K (.ref f9) = true)
    (x10 : PySem.W.nsIn K mainGlobals "_law_shape" = some (some (.ref f10))) (l10 : K.lookup f10 = some ⟨oc10, od10, .func (PySem.W.fnOf "_law_shape" "_law_shape" (defArgs sf_law_shape) (defBody sf_law_shape) (defScope sf_law_shape) .none kV10 dc10 pm10 an10 cd10 ct10), sl10⟩) (c10 : PySem.W.codeIn K cd10 "_law_shape" = true) (k10 : PySem.W.keepIn K (.ref f10) = true)
    (x11 : PySem.W.nsIn K mainGlobals "_law_atom" = some (some (.ref f11))) (l11 : K.lookup f11 = some ⟨oc11, od11, .func (PySem.W.fnOf "_law_atom" "_law_atom" (defArgs sf_law_atom) (defBody sf_law_atom) (defScope sf_law_atom) .none kV11 dc11 pm11 an11 cd11 ct11), sl11⟩) (c11 : PySem.W.codeIn K cd11 "_law_atom" = true) (k11 : PySem.W.keepIn K (.ref f11) = true)
    (x12 : PySem.W.nsIn K mainGlobals "_law_prog" = some (some (.ref f12))) (l12 : K.lookup f12 = some ⟨oc12, od12, .func (PySem.W.fnOf "_law_prog" "_law_prog" (defArgs sf_law_prog) (defBody sf_law_prog) (defScope sf_law_prog) .none kV12 dc12 pm12 an12 cd12 ct12), sl12⟩) (c12 : PySem.W.codeIn K cd12 "_law_prog" = true) (k12 : PySem.W.keepIn K (.ref f12) = true)
    (x13 : PySem.W.nsIn K mainGlobals "_law_any_prog" = some (some (.ref f13))) (l13 : K.lookup f13 = some ⟨oc13, od13, .func (PySem.W.fnOf "_law_any_prog" "_law_any_prog" (defArgs sf_law_any_prog) (defBody sf_law_any_prog) (defScope sf_law_any_prog) .none kV13 dc13 pm13 an13 cd13 ct13), sl13⟩) (c13 : PySem.W.codeIn K cd13 "_law_any_prog" = true) (k13 : PySem.W.keepIn K (.ref f13) = true)
    (x14 : PySem.W.nsIn K mainGlobals "_law_is_name" = some (some (.ref f14))) (l14 : K.lookup f14 = some ⟨oc14, od14, .func (PySem.W.fnOf "_law_is_name" "_law_is_name" (defArgs sf_law_is_name) (defBody sf_law_is_name) (defScope sf_law_is_name) .none kV14 dc14 pm14 an14 cd14 ct14), sl14⟩) (c14 : PySem.W.codeIn K cd14 "_law_is_name" = true) (k14 : PySem.W.keepIn K (.ref f14) = true)
    (x15 : PySem.W.nsIn K mainGlobals "_law_fits" = some (some (.ref f15))) (l15 : K.lookup f15 = some ⟨oc15, od15, .func (PySem.W.fnOf "_law_fits" "_law_fits" (defArgs sf_law_fits) (defBody sf_law_fits) (defScope sf_law_fits) .none kV15 dc15 pm15 an15 cd15 ct15), sl15⟩) (c15 : PySem.W.codeIn K cd15 "_law_fits" = true) (k15 : PySem.W.keepIn K (.ref f15) = true)
    (x16 : PySem.W.nsIn K mainGlobals "_law_formed" = some (some (.ref f16))) (l16 : K.lookup f16 = some ⟨oc16, od16, .func (PySem.W.fnOf "_law_formed" "_law_formed" (defArgs sf_law_formed) (defBody sf_law_formed) (defScope sf_law_formed) .none kV16 dc16 pm16 an16 cd16 ct16), sl16⟩) (c16 : PySem.W.codeIn K cd16 "_law_formed" = true) (k16 : PySem.W.keepIn K (.ref f16) = true)
    (x17 : PySem.W.nsIn K mainGlobals "_law_size" = some (some (.ref f17))) (l17 : K.lookup f17 = some ⟨oc17, od17, .func (PySem.W.fnOf "_law_size" "_law_size" (defArgs sf_law_size) (defBody sf_law_size) (defScope sf_law_size) .none kV17 dc17 pm17 an17 cd17 ct17), sl17⟩) (c17 : PySem.W.codeIn K cd17 "_law_size" = true) (k17 : PySem.W.keepIn K (.ref f17) = true)
    (x18 : PySem.W.nsIn K mainGlobals "_law_thing" = some (some (.ref f18))) (l18 : K.lookup f18 = some ⟨oc18, od18, .func (PySem.W.fnOf "_law_thing" "_law_thing" (defArgs sf_law_thing) (defBody sf_law_thing) (defScope sf_law_thing) .none kV18 dc18 pm18 an18 cd18 ct18), sl18⟩) (c18 : PySem.W.codeIn K cd18 "_law_thing" = true) (k18 : PySem.W.keepIn K (.ref f18) = true)
    (x19 : PySem.W.nsIn K mainGlobals "_law_odd_text" = some (some (.ref f19))) (l19 : K.lookup f19 = some ⟨oc19, od19, .func (PySem.W.fnOf "_law_odd_text" "_law_odd_text" (defArgs sf_law_odd_text) (defBody sf_law_odd_text) (defScope sf_law_odd_text) .none kV19 dc19 pm19 an19 cd19 ct19), sl19⟩) (c19 : PySem.W.codeIn K cd19 "_law_odd_text" = true) (k19 : PySem.W.keepIn K (.ref f19) = true)
    (x20 : PySem.W.nsIn K mainGlobals "_law_all_named" = some (some (.ref f20))) (l20 : K.lookup f20 = some ⟨oc20, od20, .func (PySem.W.fnOf "_law_all_named" "_law_all_named" (defArgs sf_law_all_named) (defBody sf_law_all_named) (defScope sf_law_all_named) .none kV20 dc20 pm20 an20 cd20 ct20), sl20⟩) (c20 : PySem.W.codeIn K cd20 "_law_all_named" = true) (k20 : PySem.W.keepIn K (.ref f20) = true)
    (x21 : PySem.W.nsIn K mainGlobals "_law_bent" = some (some (.ref f21))) (l21 : K.lookup f21 = some ⟨oc21, od21, .func (PySem.W.fnOf "_law_bent" "_law_bent" (defArgs sf_law_bent) (defBody sf_law_bent) (defScope sf_law_bent) .none kV21 dc21 pm21 an21 cd21 ct21), sl21⟩) (c21 : PySem.W.codeIn K cd21 "_law_bent" = true) (k21 : PySem.W.keepIn K (.ref f21) = true)
    (x22 : PySem.W.nsIn K mainGlobals "_law_within" = some (some (.ref f22))) (l22 : K.lookup f22 = some ⟨oc22, od22, .func (PySem.W.fnOf "_law_within" "_law_within" (defArgs sf_law_within) (defBody sf_law_within) (defScope sf_law_within) .none kV22 dc22 pm22 an22 cd22 ct22), sl22⟩) (c22 : PySem.W.codeIn K cd22 "_law_within" = true) (k22 : PySem.W.keepIn K (.ref f22) = true)
    (x23 : PySem.W.nsIn K mainGlobals "law" = some (some (.ref f23))) (l23 : K.lookup f23 = some ⟨oc23, od23, .func (PySem.W.fnOf "law" "law" (defArgs sf_law) (defBody sf_law) (defScope sf_law) .none kV23 dc23 pm23 an23 cd23 ct23), sl23⟩) (c23 : PySem.W.codeIn K cd23 "law" = true) (k23 : PySem.W.keepIn K (.ref f23) = true)
    
    (g_MOST_SIGNS : PySem.W.nsIn K mainGlobals "MOST_SIGNS" = some (some gv_MOST_SIGNS)) (gk_MOST_SIGNS : KV K (.int 8) gv_MOST_SIGNS) (g_SHAPES : PySem.W.nsIn K mainGlobals "SHAPES" = some (some (.ref ga_SHAPES))) (gl_SHAPES : K.lookup ga_SHAPES = some ⟨.type "dict", none, .dict ge_SHAPES gn_SHAPES, #[]⟩) (gk_SHAPES : KEs K w.params [("num", .str "n"), ("truth", .str "b"), ("name", .str "x"), ("fn", .str "xp"), ("rec", .str "xxp"), ("call", .str "pp"), ("let", .str "xpp"), ("if", .str "ppp"), ("plus", .str "pp"), ("less", .str "pp"), ("pair", .str "pp"), ("first", .str "p"), ("second", .str "p"), ("nil", .str ""), ("cons", .str "pp"), ("head", .str "p"), ("tail", .str "p"), ("none", .str "p"), ("off", .str "p")] ge_SHAPES.toList) (go_SHAPES : (ga_SHAPES == sysModules) = false) (g_OTHERS : PySem.W.nsIn K mainGlobals "OTHERS" = some (some (.ref ga_OTHERS))) (gl_OTHERS : K.lookup ga_OTHERS = some ⟨.type "tuple", gd_OTHERS, .seq gu_OTHERS.toArray gn_OTHERS, gs_OTHERS⟩) (gz_OTHERS : gu_OTHERS.length ≤ sizeLine) (gk_OTHERS : KVs K [.str "true", .str "false", .str "int", .str "bool", .str "list"] gu_OTHERS) (g_LETTERS : PySem.W.nsIn K mainGlobals "LETTERS" = some (some gv_LETTERS)) (gk_LETTERS : KV K (.str "abcdefghijklmnopqrstuvwxyz") gv_LETTERS)
    (z0 : PySem.W.nsIn K mainGlobals "abs" = some none) (z1 : PySem.W.nsIn K mainGlobals "all" = some none) (z2 : PySem.W.nsIn K mainGlobals "bool" = some none) (z3 : PySem.W.nsIn K mainGlobals "enumerate" = some none) (z4 : PySem.W.nsIn K mainGlobals "int" = some none) (z5 : PySem.W.nsIn K mainGlobals "isinstance" = some none) (z6 : PySem.W.nsIn K mainGlobals "len" = some none) (z7 : PySem.W.nsIn K mainGlobals "max" = some none) (z8 : PySem.W.nsIn K mainGlobals "min" = some none) (z9 : PySem.W.nsIn K mainGlobals "range" = some none) (z10 : PySem.W.nsIn K mainGlobals "reversed" = some none) (z11 : PySem.W.nsIn K mainGlobals "str" = some none) (z12 : PySem.W.nsIn K mainGlobals "sum" = some none) (z13 : PySem.W.nsIn K mainGlobals "tuple" = some none) (z14 : PySem.W.nsIn K mainGlobals "zip" = some none) :
    ∃ fd : FuncData, (∀ (s : Shared) (v : Value), BindsTo s fd ⟨[v], []⟩ [("_law_script", v)]) ∧ ∀ base : Heap, K.In base → base.Ns mainGlobals mg → FnOk l.prog w K mg base CX0 120 fa fd ["_law_script"] (spLaw 120 K) := by
  have e := hfa.symm.trans (PySem.W.mg_of X G x23)
  cases e
  have F0 := fun_mk (st := sf_is_name) l0 c0 k0
  have b0 := F0.binds (ps := ["text"]) fun _ _ _ _ _ _ us hl => match us, hl with | [_], _ => rfl
  have F1 := fun_mk (st := sf_fits) l1 c1 k1
  have b1 := F1.binds (ps := ["part", "letter"]) fun _ _ _ _ _ _ us hl => match us, hl with | [_, _], _ => rfl
  have F2 := fun_mk (st := sf_bound_at) l2 c2 k2
  have b2 := F2.binds (ps := ["program", "k", "bound"]) fun _ _ _ _ _ _ us hl => match us, hl with | [_, _, _], _ => rfl
  have F3 := fun_mk (st := sf_formed_here) l3 c3 k3
  have b3 := F3.binds (ps := ["program", "bound"]) fun _ _ _ _ _ _ us hl => match us, hl with | [_, _], _ => rfl
  have F4 := fun_mk (st := sf_formed) l4 c4 k4
  have b4 := F4.binds (ps := ["program"]) fun _ _ _ _ _ _ us hl => match us, hl with | [_], _ => rfl
  have F5 := fun_mk (st := sf_law_bag) l5 c5 k5
  have b5 := F5.binds (ps := ["_law_script"]) fun _ _ _ _ _ _ us hl => match us, hl with | [_], _ => rfl
  have F6 := fun_mk (st := sf_law_stirred) l6 c6 k6
  have b6 := F6.binds (ps := ["_law_bag_here", "_law_many"]) fun _ _ _ _ _ _ us hl => match us, hl with | [_, _], _ => rfl
  have F7 := fun_mk (st := sf_law_draw) l7 c7 k7
  have b7 := F7.binds (ps := ["_law_bag_here", "_law_many"]) fun _ _ _ _ _ _ us hl => match us, hl with | [_, _], _ => rfl
  have F8 := fun_mk (st := sf_law_pool) l8 c8 k8
  have b8 := F8.binds (ps := ["_law_bag_here"]) fun _ _ _ _ _ _ us hl => match us, hl with | [_], _ => rfl
  have F9 := fun_mk (st := sf_law_names) l9 c9 k9
  have b9 := F9.binds (ps := ["_law_bag_here"]) fun _ _ _ _ _ _ us hl => match us, hl with | [_], _ => rfl
  have F10 := fun_mk (st := sf_law_shape) l10 c10 k10
  have b10 := F10.binds (ps := ["_law_head"]) fun _ _ _ _ _ _ us hl => match us, hl with | [_], _ => rfl
  have F11 := fun_mk (st := sf_law_atom) l11 c11 k11
  have b11 := F11.binds (ps := ["_law_bag_here", "_law_env"]) fun _ _ _ _ _ _ us hl => match us, hl with | [_, _], _ => rfl
  have F12 := fun_mk (st := sf_law_prog) l12 c12 k12
  have b12 := F12.binds (ps := ["_law_bag_here", "_law_names_here", "_law_env", "_law_many", "_law_deep", "_law_odd", "_law_calm"]) fun _ _ _ _ _ _ us hl => match us, hl with | [_, _, _, _, _, _, _], _ => rfl
  have F13 := fun_mk (st := sf_law_any_prog) l13 c13 k13
  have b13 := F13.binds (ps := ["_law_bag_here", "_law_names_here"]) fun _ _ _ _ _ _ us hl => match us, hl with | [_, _], _ => rfl
  have F14 := fun_mk (st := sf_law_is_name) l14 c14 k14
  have b14 := F14.binds (ps := ["_law_part"]) fun _ _ _ _ _ _ us hl => match us, hl with | [_], _ => rfl
  have F15 := fun_mk (st := sf_law_fits) l15 c15 k15
  have b15 := F15.binds (ps := ["_law_part", "_law_letter"]) fun _ _ _ _ _ _ us hl => match us, hl with | [_, _], _ => rfl
  have F16 := fun_mk (st := sf_law_formed) l16 c16 k16
  have b16 := F16.binds (ps := ["_law_prog_here", "_law_env"]) fun _ _ _ _ _ _ us hl => match us, hl with | [_, _], _ => rfl
  have F17 := fun_mk (st := sf_law_size) l17 c17 k17
  have b17 := F17.binds (ps := ["_law_prog_here"]) fun _ _ _ _ _ _ us hl => match us, hl with | [_], _ => rfl
  have F18 := fun_mk (st := sf_law_thing) l18 c18 k18
  have b18 := F18.binds (ps := ["_law_bag_here", "_law_names_here"]) fun _ _ _ _ _ _ us hl => match us, hl with | [_, _], _ => rfl
  have F19 := fun_mk (st := sf_law_odd_text) l19 c19 k19
  have b19 := F19.binds (ps := ["_law_bag_here", "_law_name"]) fun _ _ _ _ _ _ us hl => match us, hl with | [_, _], _ => rfl
  have F20 := fun_mk (st := sf_law_all_named) l20 c20 k20
  have b20 := F20.binds (ps := ["_law_here", "_law_old", "_law_new"]) fun _ _ _ _ _ _ us hl => match us, hl with | [_, _, _], _ => rfl
  have F21 := fun_mk (st := sf_law_bent) l21 c21 k21
  have b21 := F21.binds (ps := ["_law_bag_here", "_law_here", "_law_names_here"]) fun _ _ _ _ _ _ us hl => match us, hl with | [_, _, _], _ => rfl
  have F22 := fun_mk (st := sf_law_within) l22 c22 k22
  have b22 := F22.binds (ps := ["_law_bag_here", "_law_prog_here", "_law_names_here"]) fun _ _ _ _ _ _ us hl => match us, hl with | [_, _, _], _ => rfl
  have F23 := fun_mk (st := sf_law) l23 c23 k23
  have b23 := F23.binds (ps := ["_law_script"]) fun _ _ _ _ _ _ us hl => match us, hl with | [_], _ => rfl
  have kw0 := fun_kw (ps := ["program"]) F4 ("formed", 0, ["program"], [0], []) rfl fun _ _ _ _ _ _ us ws h1 h2 => match us, ws, h1, h2 with | [], [_], _, _ => rfl
  have mb : ∀ s ∈ bn, mg (Str.ofString s) = none := by
    intro s hs
    simp only [bn, List.mem_cons, List.not_mem_nil, or_false] at hs
    rcases hs with rfl | rfl | rfl | rfl | rfl | rfl | rfl | rfl | rfl | rfl | rfl | rfl | rfl | rfl | rfl
    · exact PySem.W.mg_none_of X G z0
    · exact PySem.W.mg_none_of X G z1
    · exact PySem.W.mg_none_of X G z2
    · exact PySem.W.mg_none_of X G z3
    · exact PySem.W.mg_none_of X G z4
    · exact PySem.W.mg_none_of X G z5
    · exact PySem.W.mg_none_of X G z6
    · exact PySem.W.mg_none_of X G z7
    · exact PySem.W.mg_none_of X G z8
    · exact PySem.W.mg_none_of X G z9
    · exact PySem.W.mg_none_of X G z10
    · exact PySem.W.mg_none_of X G z11
    · exact PySem.W.mg_none_of X G z12
    · exact PySem.W.mg_none_of X G z13
    · exact PySem.W.mg_none_of X G z14
  have gc : GC w K mg := ⟨trivial, ⟨_, PySem.W.mg_of X G g_MOST_SIGNS, gk_MOST_SIGNS⟩, ⟨_, PySem.W.mg_of X G g_SHAPES, ⟨_, _, gl_SHAPES, gk_SHAPES, go_SHAPES⟩⟩, ⟨_, PySem.W.mg_of X G g_OTHERS, .tup gl_OTHERS gz_OTHERS gk_OTHERS⟩, ⟨_, PySem.W.mg_of X G g_LETTERS, gk_LETTERS⟩⟩
  refine ⟨PySem.W.fnOf "law" "law" (defArgs sf_law) (defBody sf_law) (defScope sf_law) .none kV23 dc23 pm23 an23 cd23 ct23, fun s v => .of_eq rfl, fun base _ _ => ?_⟩
  have B := ft_all (P := l.prog) (w := w) (base := base) F0 (PySem.W.mg_of X G x0) b0 F1 (PySem.W.mg_of X G x1) b1 F2 (PySem.W.mg_of X G x2) b2 F3 (PySem.W.mg_of X G x3) b3 F4 (PySem.W.mg_of X G x4) b4 F5 (PySem.W.mg_of X G x5) b5 F6 (PySem.W.mg_of X G x6) b6 F7 (PySem.W.mg_of X G x7) b7 F8 (PySem.W.mg_of X G x8) b8 F9 (PySem.W.mg_of X G x9) b9 F10 (PySem.W.mg_of X G x10) b10 F11 (PySem.W.mg_of X G x11) b11 F12 (PySem.W.mg_of X G x12) b12 F13 (PySem.W.mg_of X G x13) b13 F14 (PySem.W.mg_of X G x14) b14 F15 (PySem.W.mg_of X G x15) b15 F16 (PySem.W.mg_of X G x16) b16 F17 (PySem.W.mg_of X G x17) b17 F18 (PySem.W.mg_of X G x18) b18 F19 (PySem.W.mg_of X G x19) b19 F20 (PySem.W.mg_of X G x20) b20 F21 (PySem.W.mg_of X G x21) b21 F22 (PySem.W.mg_of X G x22) b22 F23 (PySem.W.mg_of X G x23) b23 kw0 mb gc 119
  exact okf_law F23 B mb gc
end Prog

namespace Prog
open Ir
theorem set_at {st : Store} {B : Nat} {c : Cell} (h : st[B]? = some c) (c' : Cell) : (st.set B c')[B]? = some c' := List.getElem?_set_self (List.getElem?_eq_some_iff.mp h).1
theorem take_set (st : Store) (B : Nat) (c : Cell) : (st.set B c).take st.length = st.set B c := List.take_of_length_le (by simp)
theorem take_all (st : Store) : st.take st.length = st := List.take_of_length_le (Nat.le_refl _)
theorem set_same {st : Store} {B : Nat} {c : Cell} (h : st[B]? = some c) : st.set B c = st := by
  apply List.ext_getElem?
  intro i
  by_cases e : B = i
  · subst e; rw [set_at h, h]
  · rw [List.getElem?_set_ne e]
theorem set_push (st : Store) (c c' : Cell) : (st ++ [c]).set st.length c' = st ++ [c'] := by simp
theorem get_push (st : Store) (c : Cell) : (st ++ [c])[st.length]? = some c := by simp
theorem push_get {st : Store} {B : Nat} {b : Cell} (h : st[B]? = some b) (c : Cell) : (st ++ [c])[B]? = some b := by
  rw [List.getElem?_append_left (List.getElem?_eq_some_iff.mp h).1]; exact h
theorem comp_const {α : Type} {f : D → Store → Res (Option D)} {st : Store} (p q : α → D) : ∀ l : List α, (∀ a ∈ l, f (p a) st = .ok (some (q a)) st) → compL f (l.map p) st = .ok (l.map q) st
  | [], _ => by simp [compL]
  | a :: l, h => by
    have e := comp_const (f := f) (st := st) p q l fun a' h' => h a' (List.mem_cons_of_mem _ h')
    simp [compL, h a (by simp), e]
/-! ### alike -/
theorem range_nat (n : Nat) : rangeL 0 n = (List.range n).map fun i => D.int (i : Nat) := by simp [rangeL]
theorem bools_true {α : Type} : ∀ l : List α, D.bools (l.map fun _ => D.bool true) = some (l.map fun _ => true)
  | [] => rfl
  | a :: l => by simp [D.bools, bools_true l]
theorem all_true {α : Type} (l : List α) : D.bAll [.lst (l.map fun _ => D.bool true)] = some (.bool true) := by
  simp [D.bAll, bools_true]
theorem atI_of {xs : List D} {i : Nat} (h : i < xs.length) : atI xs (i : Int) = some xs[i] := by
  simp [atI, ixN, h]
theorem atI_nat {α : Type} {xs : List α} {d : Int} (h0 : 0 ≤ d) (h1 : d < xs.length) : ∃ x, xs[d.toNat]? = some x ∧ atI xs d = some x := by
  have hd : d.toNat < xs.length := by omega
  refine ⟨xs[d.toNat], List.getElem?_eq_getElem hd, ?_⟩
  simp [atI, ixN, h0, h1, hd]
theorem bRange_nat {n : Nat} (h : n ≤ LIM) : D.bRange [.int (n : Int)] = some (.lst (rangeL 0 n)) := by
  simp only [D.bRange]
  rw [if_pos ⟨by omega, by omega⟩]
  simp
/-! ### the free numbers -/
theorem pick4 {a b c d i : Int} (h0 : 0 ≤ i) (h1 : i < 4) : ∃ x, (x = a ∨ x = b ∨ x = c ∨ x = d) ∧ atI [D.int a, .int b, .int c, .int d] i = some (.int x) := by
  have : i = 0 ∨ i = 1 ∨ i = 2 ∨ i = 3 := by omega
  rcases this with rfl | rfl | rfl | rfl
  · exact ⟨a, by simp, by simp [atI, ixN]⟩
  · exact ⟨b, by simp, by simp [atI, ixN]⟩
  · exact ⟨c, by simp, by simp [atI, ixN]⟩
  · exact ⟨d, by simp, by simp [atI, ixN]⟩
theorem pick8 {a b i : Int} (h0 : 0 ≤ i) (h1 : i < 8) : ∃ x, (x = a ∨ x = b) ∧ atI [D.int a, .int a, .int a, .int a, .int a, .int a, .int a, .int b] i = some (.int x) := by
  have : i = 0 ∨ i = 1 ∨ i = 2 ∨ i = 3 ∨ i = 4 ∨ i = 5 ∨ i = 6 ∨ i = 7 := by omega
  rcases this with rfl | rfl | rfl | rfl | rfl | rfl | rfl | rfl
  iterate 7 exact ⟨a, by simp, by simp [atI, ixN]⟩
  exact ⟨b, by simp, by simp [atI, ixN]⟩
theorem big_of_small {i : Int} (h0 : 0 ≤ i) (h : i < 2147483647) : bigOk i = true := by
  unfold bigOk
  have h1 : i.natAbs < 2147483647 := by omega
  have h2 : (2147483647 : Nat) < 2 ^ 4000 := by decide +kernel
  exact decide_eq_true (Nat.lt_trans h1 h2)
theorem big_le {i : Int} (h0 : 0 ≤ i) (h : i < 2147483647) : bigOk i = true := big_of_small h0 h
theorem bigOk_lit : bigOk 16 = true ∧ bigOk 27 = true := by constructor <;> decide +kernel
theorem smallOk_lit : smallOk 69621 = true ∧ smallOk 1031 = true ∧ smallOk 134217728 = true ∧ smallOk 48271 = true := by decide
theorem big_50 : bigOk (10 ^ 50) = true := by decide +kernel
theorem pow_lits : bigOk 10 = true ∧ bigOk (10 ^ 60) = true ∧ (0 : Int) < (10 ^ 60) ^ 10 := by
  refine ⟨by decide +kernel, by decide +kernel, by decide +kernel⟩
theorem bigOk_60 : bigOk 1000000000000000000000000000000000000000000000000000000000000 = true := by decide +kernel
theorem smallOk_of {i : Int} (h0 : 0 ≤ i) (h : i < 2147483647) : smallOk i = true := by
  unfold smallOk
  exact decide_eq_true ⟨by omega, by omega⟩
mutual
theorem eqv_refl : ∀ x : D, x.dep ≤ 64 → x.eqv x = true
  | .non, _ => by simp [D.eqv]
  | .bool b, _ => by simp [D.eqv]
  | .int i, _ => by simp [D.eqv]
  | .str s, _ => by simp [D.eqv]
  | .tup xs, h => by
    simp only [D.dep] at h
    simp only [D.eqv]
    exact eqvAll_refl xs (by omega)
  | .lst xs, h => by
    simp only [D.dep] at h
    simp only [D.eqv]
    exact eqvAll_refl xs (by omega)
  | .ro xs, h => by simp [D.dep] at h
theorem eqvAll_refl : ∀ xs : List D, D.depAll xs ≤ 64 → D.eqvAll xs xs = true
  | [], _ => by simp [D.eqvAll]
  | x :: xs, h => by
    simp only [D.depAll] at h
    simp [D.eqvAll, eqv_refl x (by omega), eqvAll_refl xs (by omega)]
end
theorem depAll_int (fs : List Int) : D.depAll (fs.map .int) = 0 := by
  induction fs with
  | nil => rfl
  | cons i r ih => simp [D.depAll, D.dep, ih]
theorem fine_intlist (l : List Int) : fine (.lst (l.map .int)) = true := by simp [fine, D.dep, depAll_int]
theorem any_ints (l : List Int) (i : Int) : ((l.map D.int).any fun y => y.eqv (.int i)) = decide (i ∈ l) := by
  induction l with
  | nil => rfl
  | cons j l ih =>
    simp only [List.map_cons, List.any_cons, D.eqv, ih]
    by_cases e : j = i
    · subst e; simp
    · have : (j == i) = false := by simpa using e
      simp [this, Ne.symm e]
theorem len_dic {st : Store} {d : Nat} {kvs : List (D × D)} (h : st[d]? = some (.dic kvs)) : bltV .len [.ref d] st = .ok (.d (.int kvs.length)) st := by
  simp [bltV, lenDic, h]
theorem setdefault_new {st : Store} {d : Nat} {kvs : List (D × D)} {i : Int} {v : D} (h : st[d]? = some (.dic kvs)) (hl : kvs.length < LIM) (hn : lookK kvs (.int i) = none) : mSetdefault d st [.d (.int i), .d v] = .ok (.d v) (st.set d (.dic (putK kvs (.int i) v))) := by
  simp [mSetdefault, h, hl, hn, D.key]
theorem setdefault_old {st : Store} {d : Nat} {kvs : List (D × D)} {i : Int} {v w : D} (h : st[d]? = some (.dic kvs)) (hl : kvs.length < LIM) (hn : lookK kvs (.int i) = some w) : mSetdefault d st [.d (.int i), .d v] = .ok (.d w) st := by
  simp [mSetdefault, h, hl, hn, D.key]
end Prog

namespace Ir
/-- what is wanted behind a run; as an instance, so that it is left as it is until the run is there -/
class Post (α : Type) where
  q : α → Store → Prop
@[simp] theorem post_mk {α : Type} (f : α → Store → Prop) : (Post.mk f).q = f := rfl
/-- a run ends well, and so -/
def Wp {α : Type} (r : Res α) [p : Post α] : Prop := match r with | .ok a st => p.q a st | _ => False
@[simp] theorem wp_ok {α : Type} (a : α) (st : Store) {p : Post α} : @Wp _ (.ok a st) p = p.q a st := rfl
@[simp] theorem wp_bad {α : Type} {p : Post α} : @Wp _ .bad p = False := rfl
@[simp ↓] theorem wp_bind {α β : Type} (r : Res α) (f : α → Store → Res β) {p : Post β} : @Wp _ (r.bind f) p = @Wp _ r ⟨fun a s => @Wp _ (f a s) p⟩ := by
  cases r <;> rfl
@[simp ↓ high] theorem wp_if_t {α : Type} {c : Prop} [Decidable c] (a b : Res α) {p : Post α} (h : c) : @Wp _ (if c then a else b) p = @Wp _ a p := by rw [if_pos h]
@[simp ↓ high] theorem wp_if_f {α : Type} {c : Prop} [Decidable c] (a b : Res α) {p : Post α} (h : ¬ c) : @Wp _ (if c then a else b) p = @Wp _ b p := by rw [if_neg h]
@[simp ↓ low] theorem wp_if {α : Type} {c : Prop} [Decidable c] (a b : Res α) {p : Post α} : @Wp _ (if c then a else b) p = ((c → @Wp _ a p) ∧ (¬ c → @Wp _ b p)) := by
  by_cases h : c <;> simp [h]
@[simp] theorem wp_oif {α : Type} {c : Prop} [Decidable c] (a b : Option α) (s : Store) {p : Post α} : @Wp _ (optR (if c then a else b) s) p = ((c → @Wp _ (optR a s) p) ∧ (¬ c → @Wp _ (optR b s) p)) := by
  by_cases h : c <;> simp [h]
theorem wp_iff {α : Type} {r : Res α} {p : Post α} : @Wp _ r p ↔ ∃ a s, r = .ok a s ∧ p.q a s := by
  cases r with
  | ok a s => exact ⟨fun h => ⟨a, s, rfl, h⟩, fun ⟨a', s', e, h⟩ => by cases e; exact h⟩
  | exc c as s => exact ⟨fun h => h.elim, fun ⟨_, _, e, _⟩ => by cases e⟩
  | bad => exact ⟨fun h => h.elim, fun ⟨_, _, e, _⟩ => by cases e⟩
theorem Wp.mono {α : Type} {r : Res α} {p p' : Post α} (h : @Wp _ r p) (k : ∀ a s, p.q a s → p'.q a s) : @Wp _ r p' := by
  cases r with
  | ok a s => exact k a s h
  | exc c as s => exact h
  | bad => exact h
theorem Wp.of {α : Type} {r : Res α} {a : α} {s : Store} {p : Post α} (e : r = .ok a s) (h : p.q a s) : @Wp _ r p := by rw [e]; exact h
theorem wpb {α β : Type} {r : Res α} {f : α → Store → Res β} {pp : Post β} {q : α → Store → Prop} (h : ∀ a s, @Wp _ (f a s) pp = q a s) : @Wp _ (r.bind f) pp = @Wp _ r ⟨q⟩ := by
  rw [wp_bind]
  exact congrArg (fun z => @Wp _ r ⟨z⟩) (funext fun a => funext fun s => h a s)
/-! ### the equations -/
set_option autoImplicit true in
@[simp ↓] theorem w_eval_var {C : Calls} {σ : Env} {st : Store} {pp : Post Val} : @Wp _ (eval C (Ex.var i) σ st) pp = (@Wp _ (match σ[i]? with
    | some (some v) => .ok v st
    | _ => .bad) pp) := by
  rw [eval_var]
  repeat (refine wpb fun _ _ => ?_)
  try rfl
set_option autoImplicit true in
@[simp ↓] theorem w_eval_con {C : Calls} {σ : Env} {st : Store} {pp : Post Val} : @Wp _ (eval C (Ex.con d) σ st) pp = (@Wp _ (.ok (.d d) st) pp) := by
  rw [eval_con]
  repeat (refine wpb fun _ _ => ?_)
  try rfl
set_option autoImplicit true in
@[simp ↓] theorem w_eval_tup {C : Calls} {σ : Env} {st : Store} {pp : Post Val} : @Wp _ (eval C (Ex.tup es) σ st) pp = (@Wp _ (evals C es σ st) ⟨fun vs s1 => @Wp _ (optR (asDs vs) s1) ⟨fun ds s2 => @Wp _ (.ok (.d (.tup ds)) s2) pp⟩⟩) := by
  rw [eval_tup]
  repeat (refine wpb fun _ _ => ?_)
  try rfl
set_option autoImplicit true in
@[simp ↓] theorem w_eval_lst {C : Calls} {σ : Env} {st : Store} {pp : Post Val} : @Wp _ (eval C (Ex.lst es) σ st) pp = (@Wp _ (evals C es σ st) ⟨fun vs s1 => @Wp _ (optR (asDs vs) s1) ⟨fun ds s2 => @Wp _ (.ok (.d (.lst ds)) s2) pp⟩⟩) := by
  rw [eval_lst]
  repeat (refine wpb fun _ _ => ?_)
  try rfl
set_option autoImplicit true in
@[simp ↓] theorem w_eval_newL {C : Calls} {σ : Env} {st : Store} {pp : Post Val} : @Wp _ (eval C (Ex.newL e) σ st) pp = (@Wp _ (eval C e σ st) ⟨fun v s1 => @Wp _ (match v with
    | .d (.lst xs) => .ok (.ref s1.length) (s1 ++ [.lst xs])
    | _ => .bad) pp⟩) := by
  rw [eval_newL]
  repeat (refine wpb fun _ _ => ?_)
  try rfl
set_option autoImplicit true in
@[simp ↓] theorem w_eval_newD {C : Calls} {σ : Env} {st : Store} {pp : Post Val} : @Wp _ (eval C (Ex.newD) σ st) pp = (@Wp _ (.ok (.ref st.length) (st ++ [.dic []])) pp) := by
  rw [eval_newD]
  repeat (refine wpb fun _ _ => ?_)
  try rfl
set_option autoImplicit true in
@[simp ↓] theorem w_eval_newDP {C : Calls} {σ : Env} {st : Store} {pp : Post Val} : @Wp _ (eval C (Ex.newDP e) σ st) pp = (@Wp _ (eval C e σ st) ⟨fun v s1 => @Wp _ (match v with
    | .d (.lst xs) => match mergeP [] xs with
      | some kvs => .ok (.ref s1.length) (s1 ++ [.dic kvs])
      | none => .bad
    | _ => .bad) pp⟩) := by
  rw [eval_newDP]
  repeat (refine wpb fun _ _ => ?_)
  try rfl
set_option autoImplicit true in
@[simp ↓] theorem w_eval_newDd {C : Calls} {σ : Env} {st : Store} {pp : Post Val} : @Wp _ (eval C (Ex.newDd es) σ st) pp = (@Wp _ (evals C es σ st) ⟨fun us s1 => @Wp _ (optR (asDs us) s1) ⟨fun ds s2 => @Wp _ (match mergeF [] ds with
    | some kvs => .ok (.ref s2.length) (s2 ++ [.dic kvs])
    | none => .bad) pp⟩⟩) := by
  rw [eval_newDd]
  repeat (refine wpb fun _ _ => ?_)
  try rfl
set_option autoImplicit true in
@[simp ↓] theorem w_eval_frz {C : Calls} {σ : Env} {st : Store} {pp : Post Val} : @Wp _ (eval C (Ex.frz e) σ st) pp = (@Wp _ (eval C e σ st) ⟨fun v s1 => @Wp _ (match v with
    | .ref n => match s1[n]? with
      | some (.lst xs) => .ok (.d (.lst xs)) (s1.set n .dead)
      | _ => .bad
    | _ => .bad) pp⟩) := by
  rw [eval_frz]
  repeat (refine wpb fun _ _ => ?_)
  try rfl
set_option autoImplicit true in
@[simp ↓] theorem w_eval_bin {C : Calls} {σ : Env} {st : Store} {pp : Post Val} : @Wp _ (eval C (Ex.bin o a b) σ st) pp = (@Wp _ (eval C a σ st) ⟨fun x s1 => @Wp _ (eval C b σ s1) ⟨fun y s2 => @Wp _ (optR (deref s2 x) s2) ⟨fun p s3 => @Wp _ (optR (deref s2 y) s3) ⟨fun q s4 => @Wp _ (optR (D.bin o p q) s4) ⟨fun r s5 => @Wp _ (.ok (.d r) s5) pp⟩⟩⟩⟩⟩) := by
  rw [eval_bin]
  repeat (refine wpb fun _ _ => ?_)
  try rfl
set_option autoImplicit true in
@[simp ↓] theorem w_eval_neg {C : Calls} {σ : Env} {st : Store} {pp : Post Val} : @Wp _ (eval C (Ex.neg a) σ st) pp = (@Wp _ (eval C a σ st) ⟨fun x s1 => @Wp _ (optR (asI x) s1) ⟨fun i s2 => @Wp _ (.ok (.d (.int (-i))) s2) pp⟩⟩) := by
  rw [eval_neg]
  repeat (refine wpb fun _ _ => ?_)
  try rfl
set_option autoImplicit true in
@[simp ↓] theorem w_eval_cmp {C : Calls} {σ : Env} {st : Store} {pp : Post Val} : @Wp _ (eval C (Ex.cmp o a b) σ st) pp = (@Wp _ (eval C a σ st) ⟨fun x s1 => @Wp _ (eval C b σ s1) ⟨fun y s2 => @Wp _ (optR (cmpV o s2 x y) s2) ⟨fun r s3 => @Wp _ (.ok (.d (.bool r)) s3) pp⟩⟩⟩) := by
  rw [eval_cmp]
  repeat (refine wpb fun _ _ => ?_)
  try rfl
set_option autoImplicit true in
@[simp ↓] theorem w_eval_chain {C : Calls} {σ : Env} {st : Store} {pp : Post Val} : @Wp _ (eval C (Ex.chain o o' a b c) σ st) pp = (@Wp _ (eval C a σ st) ⟨fun x s1 => @Wp _ (eval C b σ s1) ⟨fun y s2 => @Wp _ (optR (cmpV o s2 x y) s2) ⟨fun r s3 => @Wp _ (if r then (eval C c σ s3).bind fun z s4 => (optR (cmpV o' s4 y z) s4).bind fun q s5 => .ok (.d (.bool q)) s5 else .ok (.d (.bool false)) s3) pp⟩⟩⟩) := by
  rw [eval_chain]
  repeat (refine wpb fun _ _ => ?_)
  try rfl
set_option autoImplicit true in
@[simp ↓] theorem w_eval_and {C : Calls} {σ : Env} {st : Store} {pp : Post Val} : @Wp _ (eval C (Ex.and a b) σ st) pp = (@Wp _ (eval C a σ st) ⟨fun x s1 => @Wp _ (optR (asB x) s1) ⟨fun c s2 => @Wp _ (if c then eval C b σ s2 else .ok (.d (.bool false)) s2) pp⟩⟩) := by
  rw [eval_and]
  repeat (refine wpb fun _ _ => ?_)
  try rfl
set_option autoImplicit true in
@[simp ↓] theorem w_eval_or {C : Calls} {σ : Env} {st : Store} {pp : Post Val} : @Wp _ (eval C (Ex.or a b) σ st) pp = (@Wp _ (eval C a σ st) ⟨fun x s1 => @Wp _ (optR (asB x) s1) ⟨fun c s2 => @Wp _ (if c then .ok (.d (.bool true)) s2 else eval C b σ s2) pp⟩⟩) := by
  rw [eval_or]
  repeat (refine wpb fun _ _ => ?_)
  try rfl
set_option autoImplicit true in
@[simp ↓] theorem w_eval_not {C : Calls} {σ : Env} {st : Store} {pp : Post Val} : @Wp _ (eval C (Ex.not a) σ st) pp = (@Wp _ (eval C a σ st) ⟨fun x s1 => @Wp _ (optR (asB x) s1) ⟨fun c s2 => @Wp _ (.ok (.d (.bool (!c))) s2) pp⟩⟩) := by
  rw [eval_not]
  repeat (refine wpb fun _ _ => ?_)
  try rfl
set_option autoImplicit true in
@[simp ↓] theorem w_eval_ite {C : Calls} {σ : Env} {st : Store} {pp : Post Val} : @Wp _ (eval C (Ex.ite c a b) σ st) pp = (@Wp _ (eval C c σ st) ⟨fun x s1 => @Wp _ (optR (asB x) s1) ⟨fun c s2 => @Wp _ (if c then eval C a σ s2 else eval C b σ s2) pp⟩⟩) := by
  rw [eval_ite]
  repeat (refine wpb fun _ _ => ?_)
  try rfl
set_option autoImplicit true in
@[simp ↓] theorem w_eval_idx {C : Calls} {σ : Env} {st : Store} {pp : Post Val} : @Wp _ (eval C (Ex.idx a b) σ st) pp = (@Wp _ (eval C a σ st) ⟨fun x s1 => @Wp _ (eval C b σ s1) ⟨fun y s2 => @Wp _ (optR (indexV s2 x y) s2) ⟨fun r s3 => @Wp _ (.ok (.d r) s3) pp⟩⟩⟩) := by
  rw [eval_idx]
  repeat (refine wpb fun _ _ => ?_)
  try rfl
set_option autoImplicit true in
@[simp ↓] theorem w_eval_sli {C : Calls} {σ : Env} {st : Store} {pp : Post Val} : @Wp _ (eval C (Ex.sli a lo hi) σ st) pp = (@Wp _ (eval C a σ st) ⟨fun x s1 => @Wp _ (evalO C lo σ s1) ⟨fun l s2 => @Wp _ (evalO C hi σ s2) ⟨fun h s3 => @Wp _ (optR (deref s3 x) s3) ⟨fun p s4 => @Wp _ (optR (p.slice l h) s4) ⟨fun r s5 => @Wp _ (.ok (.d r) s5) pp⟩⟩⟩⟩⟩) := by
  rw [eval_sli]
  repeat (refine wpb fun _ _ => ?_)
  try rfl
set_option autoImplicit true in
@[simp ↓] theorem w_eval_call {C : Calls} {σ : Env} {st : Store} {pp : Post Val} : @Wp _ (eval C (Ex.call f es) σ st) pp = (@Wp _ (evals C es σ st) ⟨fun vs s1 => @Wp _ (C f vs s1) pp⟩) := by
  rw [eval_call]
  repeat (refine wpb fun _ _ => ?_)
  try rfl
set_option autoImplicit true in
@[simp ↓] theorem w_eval_callP {C : Calls} {σ : Env} {st : Store} {pp : Post Val} : @Wp _ (eval C (Ex.callP f es perm) σ st) pp = (@Wp _ (evals C es σ st) ⟨fun vs s1 => @Wp _ (C f (perm.filterMap fun i => vs[i]?) s1) pp⟩) := by
  rw [eval_callP]
  repeat (refine wpb fun _ _ => ?_)
  try rfl
set_option autoImplicit true in
@[simp ↓] theorem w_eval_blt {C : Calls} {σ : Env} {st : Store} {pp : Post Val} : @Wp _ (eval C (Ex.blt f es) σ st) pp = (@Wp _ (evals C es σ st) ⟨fun vs s1 => @Wp _ (bltV f vs s1) pp⟩) := by
  rw [eval_blt]
  repeat (refine wpb fun _ _ => ?_)
  try rfl
set_option autoImplicit true in
@[simp ↓] theorem w_eval_mth {C : Calls} {σ : Env} {st : Store} {pp : Post Val} : @Wp _ (eval C (Ex.mth m o es) σ st) pp = (@Wp _ (eval C o σ st) ⟨fun x s1 => @Wp _ (if mthOk m x s1 then (evals C es σ s1).bind fun vs s2 => mthV m x vs s2 else .bad) pp⟩) := by
  rw [eval_mth]
  repeat (refine wpb fun _ _ => ?_)
  try rfl
set_option autoImplicit true in
@[simp ↓] theorem w_eval_isi {C : Calls} {σ : Env} {st : Store} {pp : Post Val} : @Wp _ (eval C (Ex.isi e ts) σ st) pp = (@Wp _ (eval C e σ st) ⟨fun x s1 => @Wp _ (optR (deref s1 x) s1) ⟨fun p s2 => @Wp _ (.ok (.d (.bool (ts.any fun t => p.tyOk t))) s2) pp⟩⟩) := by
  rw [eval_isi]
  repeat (refine wpb fun _ _ => ?_)
  try rfl
set_option autoImplicit true in
@[simp ↓] theorem w_eval_fs {C : Calls} {σ : Env} {st : Store} {pp : Post Val} : @Wp _ (eval C (Ex.fs es) σ st) pp = (@Wp _ (evals C es σ st) ⟨fun vs s1 => @Wp _ (optR (asDs vs) s1) ⟨fun ds s2 => @Wp _ (optR (D.strs ds) s2) ⟨fun ys s3 => @Wp _ (if (ys.map (·.length)).sum ≤ LIM then .ok (.d (.str (joinS "" ys))) s3 else .bad) pp⟩⟩⟩) := by
  rw [eval_fs]
  repeat (refine wpb fun _ _ => ?_)
  try rfl
set_option autoImplicit true in
@[simp ↓] theorem w_eval_kd {C : Calls} {σ : Env} {st : Store} {pp : Post Val} : @Wp _ (eval C (Ex.kd o kvs e) σ st) pp = (@Wp _ (eval C e σ st) ⟨fun x s1 => @Wp _ (optR (kdV o kvs x) s1) ⟨fun r s2 => @Wp _ (.ok (.d r) s2) pp⟩⟩) := by
  rw [eval_kd]
  repeat (refine wpb fun _ _ => ?_)
  try rfl
set_option autoImplicit true in
@[simp ↓] theorem w_eval_rev {C : Calls} {σ : Env} {st : Store} {pp : Post Val} : @Wp _ (eval C (Ex.rev e) σ st) pp = (@Wp _ (eval C e σ st) ⟨fun x s1 => @Wp _ (optR (deref s1 x) s1) ⟨fun p s2 => @Wp _ (optR (revV p) s2) ⟨fun r s3 => @Wp _ (.ok (.d r) s3) pp⟩⟩⟩) := by
  rw [eval_rev]
  repeat (refine wpb fun _ _ => ?_)
  try rfl
set_option autoImplicit true in
@[simp ↓] theorem w_eval_comp {C : Calls} {σ : Env} {st : Store} {pp : Post Val} : @Wp _ (eval C (Ex.comp elt tg it cs) σ st) pp = (@Wp _ (eval C it σ st) ⟨fun x s1 => @Wp _ (optR (asD x) s1) ⟨fun p s2 => @Wp _ (optR p.seq s2) ⟨fun xs s3 => @Wp _ (compL (compStep (eval C elt) (conds C cs) tg (wipe σ tg.slots)) xs s3) ⟨fun ys s8 => @Wp _ (.ok (.d (.lst ys)) s8) pp⟩⟩⟩⟩) := by
  rw [eval_comp]
  repeat (refine wpb fun _ _ => ?_)
  try rfl
set_option autoImplicit true in
@[simp ↓] theorem w_evals_nil {C : Calls} {σ : Env} {st : Store} {pp : Post (List Val)} : @Wp _ (evals C ([]) σ st) pp = (@Wp _ (.ok [] st) pp) := by
  rw [evals_nil]
  repeat (refine wpb fun _ _ => ?_)
  try rfl
set_option autoImplicit true in
@[simp ↓] theorem w_evals_cons {C : Calls} {σ : Env} {st : Store} {pp : Post (List Val)} : @Wp _ (evals C (e :: es) σ st) pp = (@Wp _ (eval C e σ st) ⟨fun v s1 => @Wp _ (evals C es σ s1) ⟨fun vs s2 => @Wp _ (.ok (v :: vs) s2) pp⟩⟩) := by
  rw [evals_cons]
  repeat (refine wpb fun _ _ => ?_)
  try rfl
set_option autoImplicit true in
@[simp ↓] theorem w_evalO_none {C : Calls} {σ : Env} {st : Store} {pp : Post (Option Int)} : @Wp _ (evalO C (none) σ st) pp = (@Wp _ (.ok none st) pp) := by
  rw [evalO_none]
  repeat (refine wpb fun _ _ => ?_)
  try rfl
set_option autoImplicit true in
@[simp ↓] theorem w_evalO_some {C : Calls} {σ : Env} {st : Store} {pp : Post (Option Int)} : @Wp _ (evalO C (some e) σ st) pp = (@Wp _ (eval C e σ st) ⟨fun v s1 => @Wp _ (optR (asI v) s1) ⟨fun i s2 => @Wp _ (.ok (some i) s2) pp⟩⟩) := by
  rw [evalO_some]
  repeat (refine wpb fun _ _ => ?_)
  try rfl
set_option autoImplicit true in
@[simp ↓] theorem w_conds_nil {C : Calls} {σ : Env} {st : Store} {pp : Post Bool} : @Wp _ (conds C ([]) σ st) pp = (@Wp _ (.ok true st) pp) := by
  rw [conds_nil]
  repeat (refine wpb fun _ _ => ?_)
  try rfl
set_option autoImplicit true in
@[simp ↓] theorem w_conds_cons {C : Calls} {σ : Env} {st : Store} {pp : Post Bool} : @Wp _ (conds C (e :: es) σ st) pp = (@Wp _ (eval C e σ st) ⟨fun v s1 => @Wp _ (optR (asB v) s1) ⟨fun c s2 => @Wp _ (if c then conds C es σ s2 else .ok false s2) pp⟩⟩) := by
  rw [conds_cons]
  repeat (refine wpb fun _ _ => ?_)
  try rfl
set_option autoImplicit true in
@[simp ↓] theorem w_exec_asg {C : Calls} {σ : Env} {st : Store} {pp : Post Out} : @Wp _ (exec C (Stm.asg t e) σ st) pp = (@Wp _ (eval C e σ st) ⟨fun v s1 => @Wp _ (optR (t.putV v σ) s1) ⟨fun σ1 s2 => @Wp _ (.ok (.nx σ1) s2) pp⟩⟩) := by
  rw [exec_asg]
  repeat (refine wpb fun _ _ => ?_)
  try rfl
set_option autoImplicit true in
@[simp ↓] theorem w_exec_par {C : Calls} {σ : Env} {st : Store} {pp : Post Out} : @Wp _ (exec C (Stm.par i j a b) σ st) pp = (@Wp _ (eval C a σ st) ⟨fun x s1 => @Wp _ (eval C b σ s1) ⟨fun y s2 => @Wp _ (.ok (.nx ((σ.set i (some x)).set j (some y))) s2) pp⟩⟩) := by
  rw [exec_par]
  repeat (refine wpb fun _ _ => ?_)
  try rfl
set_option autoImplicit true in
@[simp ↓] theorem w_exec_set {C : Calls} {σ : Env} {st : Store} {pp : Post Out} : @Wp _ (exec C (Stm.set o i e) σ st) pp = (@Wp _ (eval C e σ st) ⟨fun v s1 => @Wp _ (eval C o σ s1) ⟨fun x s2 => @Wp _ (eval C i σ s2) ⟨fun k s3 => @Wp _ (optR (asD v) s3) ⟨fun d s4 => @Wp _ (optR (setV x k d s4) s4) ⟨fun s5 _ => @Wp _ (.ok (.nx σ) s5) pp⟩⟩⟩⟩⟩) := by
  rw [exec_set]
  repeat (refine wpb fun _ _ => ?_)
  try rfl
set_option autoImplicit true in
@[simp ↓] theorem w_exec_ex {C : Calls} {σ : Env} {st : Store} {pp : Post Out} : @Wp _ (exec C (Stm.ex e) σ st) pp = (@Wp _ (eval C e σ st) ⟨fun _ s1 => @Wp _ (.ok (.nx σ) s1) pp⟩) := by
  rw [exec_ex]
  repeat (refine wpb fun _ _ => ?_)
  try rfl
set_option autoImplicit true in
@[simp ↓] theorem w_exec_ret {C : Calls} {σ : Env} {st : Store} {pp : Post Out} : @Wp _ (exec C (Stm.ret e) σ st) pp = (@Wp _ (eval C e σ st) ⟨fun v s1 => @Wp _ (.ok (.ret v) s1) pp⟩) := by
  rw [exec_ret]
  repeat (refine wpb fun _ _ => ?_)
  try rfl
set_option autoImplicit true in
@[simp ↓] theorem w_exec_ite {C : Calls} {σ : Env} {st : Store} {pp : Post Out} : @Wp _ (exec C (Stm.ite c a b) σ st) pp = (@Wp _ (eval C c σ st) ⟨fun x s1 => @Wp _ (optR (asB x) s1) ⟨fun c s2 => @Wp _ (if c then execs C a σ s2 else execs C b σ s2) pp⟩⟩) := by
  rw [exec_ite]
  repeat (refine wpb fun _ _ => ?_)
  try rfl
set_option autoImplicit true in
@[simp ↓] theorem w_exec_loop {C : Calls} {σ : Env} {st : Store} {pp : Post Out} : @Wp _ (exec C (Stm.loop t it body) σ st) pp = (@Wp _ (eval C it σ st) ⟨fun x s1 => @Wp _ (optR (asD x) s1) ⟨fun p s2 => @Wp _ (optR p.seq s2) ⟨fun xs s3 => @Wp _ (loopL t.putF (execs C body) xs σ s3) pp⟩⟩⟩) := by
  rw [exec_loop]
  repeat (refine wpb fun _ _ => ?_)
  try rfl
set_option autoImplicit true in
@[simp ↓] theorem w_exec_while {C : Calls} {σ : Env} {st : Store} {pp : Post Out} : @Wp _ (exec C (Stm.while c body) σ st) pp = (@Wp _ (whileU (condB (eval C c)) (execs C body) σ st) pp) := by
  rw [exec_while]
  repeat (refine wpb fun _ _ => ?_)
  try rfl
set_option autoImplicit true in
@[simp ↓] theorem w_exec_aug {C : Calls} {σ : Env} {st : Store} {pp : Post Out} : @Wp _ (exec C (Stm.aug i o e) σ st) pp = (@Wp _ (match σ[i]? with
    | some (some x) => (eval C e σ st).bind fun y s1 => (optR (asI x) s1).bind fun p s2 => (optR (asI y) s2).bind fun q s3 => (optR (augI o p q) s3).bind fun r s4 => .ok (.nx (σ.set i (some (.d (.int r))))) s4
    | _ => .bad) pp) := by
  rw [exec_aug]
  repeat (refine wpb fun _ _ => ?_)
  try rfl
set_option autoImplicit true in
@[simp ↓] theorem w_exec_pass {C : Calls} {σ : Env} {st : Store} {pp : Post Out} : @Wp _ (exec C (Stm.pass) σ st) pp = (@Wp _ (.ok (.nx σ) st) pp) := by
  rw [exec_pass]
  repeat (refine wpb fun _ _ => ?_)
  try rfl
set_option autoImplicit true in
@[simp ↓] theorem w_exec_brk {C : Calls} {σ : Env} {st : Store} {pp : Post Out} : @Wp _ (exec C (Stm.brk) σ st) pp = (@Wp _ (.ok (.brk σ) st) pp) := by
  rw [exec_brk]
  repeat (refine wpb fun _ _ => ?_)
  try rfl
set_option autoImplicit true in
@[simp ↓] theorem w_exec_cnt {C : Calls} {σ : Env} {st : Store} {pp : Post Out} : @Wp _ (exec C (Stm.cnt) σ st) pp = (@Wp _ (.ok (.cnt σ) st) pp) := by
  rw [exec_cnt]
  repeat (refine wpb fun _ _ => ?_)
  try rfl
set_option autoImplicit true in
@[simp ↓] theorem w_exec_never {C : Calls} {σ : Env} {st : Store} {pp : Post Out} : @Wp _ (exec C (Stm.never) σ st) pp = (@Wp _ (.bad) pp) := by
  rw [exec_never]
  repeat (refine wpb fun _ _ => ?_)
  try rfl
set_option autoImplicit true in
@[simp ↓] theorem w_execs_nil {C : Calls} {σ : Env} {st : Store} {pp : Post Out} : @Wp _ (execs C ([]) σ st) pp = (@Wp _ (.ok (.nx σ) st) pp) := by
  rw [execs_nil]
  repeat (refine wpb fun _ _ => ?_)
  try rfl
set_option autoImplicit true in
@[simp ↓] theorem w_execs_cons {C : Calls} {σ : Env} {st : Store} {pp : Post Out} : @Wp _ (execs C (s :: r) σ st) pp = (@Wp _ (exec C s σ st) ⟨fun o s1 => @Wp _ (match o with
    | .nx σ1 => execs C r σ1 s1
    | o => .ok o s1) pp⟩) := by
  rw [execs_cons]
  repeat (refine wpb fun _ _ => ?_)
  try rfl
@[simp ↓] theorem w_compL_nil {f : D → Store → Res (Option D)} {st : Store} {p : Post (List D)} : @Wp _ (compL f [] st) p = p.q [] st := rfl
@[simp ↓] theorem w_compL_cons {f : D → Store → Res (Option D)} {x : D} {r : List D} {st : Store} {p : Post (List D)} : @Wp _ (compL f (x :: r) st) p = @Wp _ (f x st) ⟨fun y s1 => @Wp _ (compL f r s1) ⟨fun ys s2 => p.q (match y with | some y => y :: ys | none => ys) s2⟩⟩ := by
  rw [compL]; repeat (refine wpb fun _ _ => ?_)
  rfl
@[simp ↓] theorem w_compStep {f : Env → Store → Res Val} {g : Env → Store → Res Bool} {tg : Tg} {σ : Env} {y : D} {s : Store} {p : Post (Option D)} : @Wp _ (compStep f g tg σ y s) p =
    @Wp _ (optR (tg.put y σ) s) ⟨fun σ1 s4 => @Wp _ (g σ1 s4) ⟨fun b s5 => @Wp _ (if b then (f σ1 s5).bind fun z s6 => (optR (asD z) s6).bind fun d s7 => .ok (some d) s7 else .ok none s5) p⟩⟩ := by
  rw [compStep]; repeat (refine wpb fun _ _ => ?_)
  rfl
@[simp ↓] theorem w_condB {f : Env → Store → Res Val} {σ : Env} {s : Store} {p : Post Bool} : @Wp _ (condB f σ s) p = @Wp _ (f σ s) ⟨fun x s1 => @Wp _ (optR (asB x) s1) p⟩ := by
  rw [condB]; repeat (refine wpb fun _ _ => ?_)
  rfl
@[simp ↓] theorem w_loopL_nil {g : D → Env → Option Env} {f : Env → Store → Res Out} {σ : Env} {st : Store} {p : Post Out} : @Wp _ (loopL g f [] σ st) p = p.q (.nx σ) st := rfl
@[simp ↓] theorem w_loopL_cons {g : D → Env → Option Env} {f : Env → Store → Res Out} {x : D} {r : List D} {σ : Env} {st : Store} {p : Post Out} : @Wp _ (loopL g f (x :: r) σ st) p =
    @Wp _ (optR (g x σ) st) ⟨fun σ1 s1 => @Wp _ (f σ1 s1) ⟨fun o s2 => @Wp _ (match o with
    | .nx σ2 => loopL g f r σ2 s2
    | .cnt σ2 => loopL g f r σ2 s2
    | .brk σ2 => .ok (.nx σ2) s2
    | .ret v => .ok (.ret v) s2
    | .thr c as σ2 => .ok (.thr c as σ2) s2) p⟩⟩ := by
  rw [loopL]; repeat (refine wpb fun _ _ => ?_)
  rfl
@[simp ↓] theorem w_noexc {α : Type} (r : Res α) {p : Post α} : @Wp _ (noexc r) p = @Wp _ r p := by cases r <;> rfl
@[simp ↓] theorem w_runFn {C : Calls} {f : Fn} {vs : List Val} {st : Store} {p : Post Val} : @Wp _ (runFn C f vs st) p = ((vs.length = f.pars ∧ f.pars ≤ f.many) ∧
    @Wp _ (execs C f.body (vs.map some ++ List.replicate (f.many - f.pars) none) st) ⟨fun o s1 => @Wp _ (match o with
      | .nx _ => leave st.length (.d .non) s1
      | .ret v => leave st.length v s1
      | .thr c as _ => .exc c as (s1.take st.length)
      | _ => .bad) p⟩) := by
  unfold runFn
  by_cases h : vs.length = f.pars ∧ f.pars ≤ f.many
  · rw [if_pos h, wp_bind, w_noexc]
    simp only [h, true_and]
  · rw [if_neg h]
    simp [h]
/-! ### what may be raised -/
class PostX (α : Type) where
  ok : α → Store → Prop
  ex : String → List D → Store → Prop
@[simp] theorem postx_ok {α : Type} (f : α → Store → Prop) (g) : (PostX.mk f g).ok = f := rfl
@[simp] theorem postx_ex {α : Type} (f : α → Store → Prop) (g) : (PostX.mk f g).ex = g := rfl
def WpX {α : Type} (r : Res α) [p : PostX α] : Prop := match r with | .ok a st => p.ok a st | .exc c as st => p.ex c as st | .bad => False
@[simp] theorem wx_ok {α : Type} (a : α) (st : Store) {p : PostX α} : @WpX _ (.ok a st) p = p.ok a st := rfl
@[simp] theorem wx_exc {α : Type} (c as) (st : Store) {p : PostX α} : @WpX α (.exc c as st) p = p.ex c as st := rfl
@[simp] theorem wx_bad {α : Type} {p : PostX α} : @WpX _ .bad p = False := rfl
@[simp ↓] theorem wx_bind {α β : Type} (r : Res α) (f : α → Store → Res β) {p : PostX β} : @WpX _ (r.bind f) p = @WpX _ r ⟨fun a s => @WpX _ (f a s) p, p.ex⟩ := by
  cases r <;> rfl
theorem wxb {α : Type} {r : Res α} {f g : α → Store → Prop} {e : String → List D → Store → Prop} (h : ∀ a s, f a s = g a s) : @WpX _ r ⟨f, e⟩ = @WpX _ r ⟨g, e⟩ := by
  have : f = g := funext fun a => funext fun s => h a s
  rw [this]
theorem wx_iff {α : Type} {r : Res α} {p : PostX α} : @WpX _ r p ↔ (∃ a s, r = .ok a s ∧ p.ok a s) ∨ ∃ c as s, r = .exc c as s ∧ p.ex c as s := by
  cases r with
  | ok a s => exact ⟨fun h => .inl ⟨a, s, rfl, h⟩, fun h => by rcases h with ⟨a', s', e, h⟩ | ⟨_, _, _, e, _⟩ <;> cases e; exact h⟩
  | exc c as s => exact ⟨fun h => .inr ⟨c, as, s, rfl, h⟩, fun h => by rcases h with ⟨a', s', e, h⟩ | ⟨_, _, _, e, h⟩ <;> cases e; exact h⟩
  | bad => exact ⟨fun h => h.elim, fun h => by rcases h with ⟨a', s', e, h⟩ | ⟨_, _, _, e, h⟩ <;> cases e⟩
theorem WpX.mono {α : Type} {r : Res α} {p p' : PostX α} (h : @WpX _ r p) (k : ∀ a s, p.ok a s → p'.ok a s) (k2 : ∀ c as s, p.ex c as s → p'.ex c as s) : @WpX _ r p' := by
  cases r with
  | ok a s => exact k a s h
  | exc c as s => exact k2 c as s h
  | bad => exact h
theorem WpX.of {α : Type} {r : Res α} {a : α} {s : Store} {p : PostX α} (e : r = .ok a s) (h : p.ok a s) : @WpX _ r p := by rw [e]; exact h
theorem WpX.ofX {α : Type} {r : Res α} {c as} {s : Store} {p : PostX α} (e : r = .exc c as s) (h : p.ex c as s) : @WpX _ r p := by rw [e]; exact h
theorem WpX.wp {α : Type} {r : Res α} {p : PostX α} (h : @Wp _ r ⟨p.ok⟩) : @WpX _ r p := by
  cases r with
  | ok a s => exact h
  | exc c as s => exact h.elim
  | bad => exact h
@[simp ↓] theorem wx_noexc {α : Type} (r : Res α) {p : PostX α} : @WpX _ (noexc r) p = @Wp _ r ⟨p.ok⟩ := by cases r <;> rfl
@[simp ↓] theorem wx_optR {α : Type} (o : Option α) (s : Store) {p : PostX α} : @WpX _ (optR o s) p = @Wp _ (optR o s) ⟨p.ok⟩ := by cases o <;> rfl
@[simp ↓] theorem w_catchX {α : Type} (r : Res α) (σ : Env) (f : α → Store → Res Out) {p : Post Out} : @Wp _ (catchX r σ f) p = @WpX _ r ⟨fun a s => @Wp _ (f a s) p, fun c as s => p.q (.thr c as σ) s⟩ := by cases r <;> rfl
@[simp ↓ high] theorem wx_if_t {α : Type} {c : Prop} [Decidable c] (a b : Res α) {p : PostX α} (h : c) : @WpX _ (if c then a else b) p = @WpX _ a p := by rw [if_pos h]
@[simp ↓ high] theorem wx_if_f {α : Type} {c : Prop} [Decidable c] (a b : Res α) {p : PostX α} (h : ¬ c) : @WpX _ (if c then a else b) p = @WpX _ b p := by rw [if_neg h]
@[simp ↓ low] theorem wx_if {α : Type} {c : Prop} [Decidable c] (a b : Res α) {p : PostX α} : @WpX _ (if c then a else b) p = ((c → @WpX _ a p) ∧ (¬ c → @WpX _ b p)) := by
  by_cases h : c <;> simp [h]
set_option autoImplicit true in
@[simp ↓] theorem w_exec_asgX {C : Calls} {σ : Env} {st : Store} {pp : Post Out} : @Wp _ (exec C (Stm.asgX t e) σ st) pp = @WpX _ (evalX C e σ st) ⟨fun v s1 => @Wp _ (optR (t.putV v σ) s1) ⟨fun σ1 s2 => pp.q (.nx σ1) s2⟩, fun c as s => pp.q (.thr c as σ) s⟩ := by
  rw [exec_asgX, w_catchX]
  exact wxb fun a s => by rw [wp_bind]; rfl
set_option autoImplicit true in
@[simp ↓] theorem w_exec_exX {C : Calls} {σ : Env} {st : Store} {pp : Post Out} : @Wp _ (exec C (Stm.exX e) σ st) pp = @WpX _ (evalX C e σ st) ⟨fun _ s1 => pp.q (.nx σ) s1, fun c as s => pp.q (.thr c as σ) s⟩ := by
  rw [exec_exX, w_catchX]
  rfl
set_option autoImplicit true in
@[simp ↓] theorem w_exec_retX {C : Calls} {σ : Env} {st : Store} {pp : Post Out} : @Wp _ (exec C (Stm.retX e) σ st) pp = @WpX _ (evalX C e σ st) ⟨fun v s1 => pp.q (.ret v) s1, fun c as s => pp.q (.thr c as σ) s⟩ := by
  rw [exec_retX, w_catchX]
  rfl
set_option autoImplicit true in
@[simp ↓] theorem w_exec_raise {C : Calls} {σ : Env} {st : Store} {pp : Post Out} : @Wp _ (exec C (Stm.raise c) σ st) pp = pp.q (.thr c [] σ) st := by
  rw [exec_raise]; rfl
set_option autoImplicit true in
@[simp ↓] theorem w_exec_tryX {C : Calls} {σ : Env} {st : Store} {pp : Post Out} : @Wp _ (exec C (Stm.tryX body c h) σ st) pp = @Wp _ (execs C body σ st) ⟨fun o s1 => @Wp _ (match o with
    | .thr c' as σ1 => if c' = c then (execs C h σ1 s1).bind noThr else .bad
    | o => .ok o s1) pp⟩ := by
  rw [exec_tryX, wp_bind]
set_option autoImplicit true in
@[simp ↓] theorem wx_evalX_p {C : Calls} {σ : Env} {st : Store} {p : PostX Val} : @WpX _ (evalX C (EX.p e) σ st) p = @Wp _ (eval C e σ st) ⟨p.ok⟩ := by rw [evalX_p, wx_noexc]
set_option autoImplicit true in
@[simp ↓] theorem wx_evalX_call {C : Calls} {σ : Env} {st : Store} {p : PostX Val} : @WpX _ (evalX C (EX.call f es) σ st) p = @WpX _ (evalXs C es σ st) ⟨fun vs s1 => @WpX _ (C f vs s1) p, p.ex⟩ := by rw [evalX_call, wx_bind]
set_option autoImplicit true in
@[simp ↓] theorem wx_evalX_callP {C : Calls} {σ : Env} {st : Store} {p : PostX Val} : @WpX _ (evalX C (EX.callP f es perm) σ st) p = @WpX _ (evalXs C es σ st) ⟨fun vs s1 => @WpX _ (C f (perm.filterMap fun i => vs[i]?) s1) p, p.ex⟩ := by rw [evalX_callP, wx_bind]
set_option autoImplicit true in
@[simp ↓] theorem wx_evalX_ite {C : Calls} {σ : Env} {st : Store} {p : PostX Val} {c : Ex} {ea eb : EX} : @WpX _ (evalX C (EX.ite c ea eb) σ st) p = @Wp _ (eval C c σ st) ⟨fun x s1 => @Wp _ (optR (asB x) s1) ⟨fun c s2 => @WpX _ (if c then evalX C ea σ s2 else evalX C eb σ s2) p⟩⟩ := by
  rw [evalX_ite, wx_bind, wx_noexc]
  have : (fun (a : Val) s => @WpX _ ((optR (asB a) s).bind fun c s2 => if c = true then evalX C ea σ s2 else evalX C eb σ s2) p) = (fun x s1 => @Wp _ (optR (asB x) s1) ⟨fun c s2 => @WpX _ (if c then evalX C ea σ s2 else evalX C eb σ s2) p⟩) := funext fun a => funext fun s => by rw [wx_bind, wx_optR]
  exact congrArg (fun z => @Wp _ (eval C c σ st) ⟨z⟩) this
set_option autoImplicit true in
@[simp ↓] theorem wx_evalXs_nil {C : Calls} {σ : Env} {st : Store} {p : PostX (List Val)} : @WpX _ (evalXs C [] σ st) p = p.ok [] st := by rw [evalXs_nil]; rfl
set_option autoImplicit true in
@[simp ↓] theorem wx_evalXs_cons {C : Calls} {σ : Env} {st : Store} {p : PostX (List Val)} : @WpX _ (evalXs C (e :: es) σ st) p = @WpX _ (evalX C e σ st) ⟨fun v s1 => @WpX _ (evalXs C es σ s1) ⟨fun vs s2 => p.ok (v :: vs) s2, p.ex⟩, p.ex⟩ := by
  rw [evalXs_cons, wx_bind]
  exact wxb fun a s => by rw [wx_bind]; rfl
@[simp ↓] theorem wx_runFn {C : Calls} {f : Fn} {vs : List Val} {st : Store} {p : PostX Val} : @WpX _ (runFn C f vs st) p = ((vs.length = f.pars ∧ f.pars ≤ f.many) ∧
    @Wp _ (execs C f.body (vs.map some ++ List.replicate (f.many - f.pars) none) st) ⟨fun o s1 => @WpX _ (match o with
      | .nx _ => leave st.length (.d .non) s1
      | .ret v => leave st.length v s1
      | .thr c as _ => .exc c as (s1.take st.length)
      | _ => .bad) p⟩) := by
  unfold runFn
  by_cases h : vs.length = f.pars ∧ f.pars ≤ f.many
  · rw [if_pos h, wx_bind, wx_noexc]
    simp only [h, true_and]
  · rw [if_neg h]
    simp [h]
/-! ### loops -/
theorem wp_loop {g : D → Env → Option Env} {f : Env → Store → Res Out} {pp : Post Out} (I : List D → Env → Store → Prop)
    (hs : ∀ x xs σ st, I (x :: xs) σ st → ∃ σ1, g x σ = some σ1 ∧ @Wp _ (f σ1 st) ⟨fun o s => match o with
      | .nx σ2 => I xs σ2 s | .cnt σ2 => I xs σ2 s | .brk σ2 => pp.q (.nx σ2) s | .ret v => pp.q (.ret v) s | .thr c as σ2 => pp.q (.thr c as σ2) s⟩)
    (hz : ∀ σ st, I [] σ st → pp.q (.nx σ) st) : ∀ (xs : List D) (σ : Env) (st : Store), I xs σ st → @Wp _ (loopL g f xs σ st) pp
  | [], σ, st, h => by rw [w_loopL_nil]; exact hz σ st h
  | x :: xs, σ, st, h => by
    obtain ⟨σ1, e, w⟩ := hs x xs σ st h
    rw [w_loopL_cons, e]
    simp only [optR_some, wp_ok]
    refine w.mono fun o s q => ?_
    cases o with
    | nx σ2 => exact wp_loop I hs hz xs σ2 s q
    | cnt σ2 => exact wp_loop I hs hz xs σ2 s q
    | brk σ2 => exact q
    | ret v => exact q
    | thr c as σ2 => exact q
theorem wp_whileW {α : Type} {lt : α → α → Prop} (wf : WellFounded lt) {c : Env → Store → Res Bool} {f : Env → Store → Res Out} {pp : Post Out} (I : α → Env → Store → Prop)
    (hs : ∀ m σ st, I m σ st → @Wp _ (c σ st) ⟨fun b s1 => (b = true → @Wp _ (f σ s1) ⟨fun o s => match o with
      | .nx σ2 => ∃ m', lt m' m ∧ I m' σ2 s | .cnt σ2 => ∃ m', lt m' m ∧ I m' σ2 s | .brk σ2 => pp.q (.nx σ2) s | .ret v => pp.q (.ret v) s | .thr c as σ2 => pp.q (.thr c as σ2) s⟩) ∧ (b = false → pp.q (.nx σ) s1)⟩)
    (m : α) (σ : Env) (st : Store) (i : I m σ st) : @Wp _ (whileU c f σ st) pp := by
  have key : ∀ m σ st, I m σ st → ∃ n, @Wp _ (whileL c f n σ st) pp := by
    intro m
    induction m using wf.induction with
    | _ m ih =>
      intro σ st i
      obtain ⟨b, s1, e1, q⟩ := wp_iff.mp (hs m σ st i)
      cases b with
      | false => exact ⟨1, by rw [whileL, e1]; exact q.2 rfl⟩
      | true =>
        obtain ⟨o, s2, e2, q2⟩ := wp_iff.mp (q.1 rfl)
        cases o with
        | nx σ2 => obtain ⟨m', hm, i'⟩ := q2; obtain ⟨n, w⟩ := ih m' hm σ2 s2 i'; exact ⟨n + 1, by rw [whileL, e1]; simp only [Res.bind_ok, if_true, e2]; exact w⟩
        | cnt σ2 => obtain ⟨m', hm, i'⟩ := q2; obtain ⟨n, w⟩ := ih m' hm σ2 s2 i'; exact ⟨n + 1, by rw [whileL, e1]; simp only [Res.bind_ok, if_true, e2]; exact w⟩
        | brk σ2 => exact ⟨1, by rw [whileL, e1]; simp only [Res.bind_ok, if_true, e2]; exact q2⟩
        | ret v => exact ⟨1, by rw [whileL, e1]; simp only [Res.bind_ok, if_true, e2]; exact q2⟩
        | thr c as σ2 => exact ⟨1, by rw [whileL, e1]; simp only [Res.bind_ok, if_true, e2]; exact q2⟩
  obtain ⟨n, w⟩ := key m σ st i
  obtain ⟨r, s, e, q⟩ := wp_iff.mp w
  rw [whileU_of e]
  exact q
theorem wp_while {c : Env → Store → Res Bool} {f : Env → Store → Res Out} {pp : Post Out} (I : Nat → Env → Store → Prop)
    (hs : ∀ m σ st, I m σ st → @Wp _ (c σ st) ⟨fun b s1 => (b = true → @Wp _ (f σ s1) ⟨fun o s => match o with
      | .nx σ2 => ∃ m', m' < m ∧ I m' σ2 s | .cnt σ2 => ∃ m', m' < m ∧ I m' σ2 s | .brk σ2 => pp.q (.nx σ2) s | .ret v => pp.q (.ret v) s | .thr c as σ2 => pp.q (.thr c as σ2) s⟩) ∧ (b = false → pp.q (.nx σ) s1)⟩)
    (m : Nat) (σ : Env) (st : Store) (i : I m σ st) : @Wp _ (whileU c f σ st) pp := wp_whileW Nat.lt_wfRel.wf I hs m σ st i
/-- a comprehension's turns: what is left, what is made so far -/
theorem wp_comp' {f : D → Store → Res (Option D)} {pp : Post (List D)} (I : List D → List D → Store → Prop)
    (hs : ∀ x xs ys st, I (x :: xs) ys st → @Wp _ (f x st) ⟨fun o s => match o with | some y => I xs (ys ++ [y]) s | none => I xs ys s⟩)
    (hz : ∀ ys st, I [] ys st → pp.q ys st) : ∀ (xs ys : List D) (st : Store), I xs ys st → @Wp _ (compL f xs st) ⟨fun zs s => pp.q (ys ++ zs) s⟩
  | [], ys, st, h => by rw [w_compL_nil]; simpa using hz ys st h
  | x :: xs, ys, st, h => by
    have w := hs x xs ys st h
    rw [w_compL_cons]
    refine w.mono fun o s q => ?_
    cases o with
    | none => exact (wp_comp' I hs hz xs ys s q).mono fun zs s' q' => q'
    | some y => exact (wp_comp' I hs hz xs (ys ++ [y]) s q).mono fun zs s' q' => by simpa using q'
theorem wp_comp {f : D → Store → Res (Option D)} {pp : Post (List D)} (I : List D → List D → Store → Prop) {xs : List D} {st : Store} (h0 : I xs [] st)
    (hs : ∀ x xs ys st, I (x :: xs) ys st → @Wp _ (f x st) ⟨fun o s => match o with | some y => I xs (ys ++ [y]) s | none => I xs ys s⟩)
    (hz : ∀ ys st, I [] ys st → pp.q ys st) : @Wp _ (compL f xs st) pp := (wp_comp' I hs hz xs [] st h0).mono fun zs s q => by simpa using q
/-! ### comparisons -/
theorem ci_eq (a b : Int) : D.cmp .eq (.int a) (.int b) = some (decide (a = b)) := by simp [D.cmp, fine, D.dep, D.eqv]; rfl
theorem ci_ne (a b : Int) : D.cmp .ne (.int a) (.int b) = some (!decide (a = b)) := by simp [D.cmp, fine, D.dep, D.eqv]; rfl
theorem ci_lt (a b : Int) : D.cmp .lt (.int a) (.int b) = some (decide (a < b)) := rfl
theorem ci_le (a b : Int) : D.cmp .le (.int a) (.int b) = some (decide (a ≤ b)) := rfl
theorem ci_gt (a b : Int) : D.cmp .gt (.int a) (.int b) = some (decide (a > b)) := rfl
theorem ci_ge (a b : Int) : D.cmp .ge (.int a) (.int b) = some (decide (a ≥ b)) := rfl
theorem cs_eq (a b : String) : D.cmp .eq (.str a) (.str b) = some (decide (a = b)) := by simp [D.cmp, fine, D.dep, D.eqv]
theorem cs_ne (a b : String) : D.cmp .ne (.str a) (.str b) = some (!decide (a = b)) := by simp [D.cmp, fine, D.dep, D.eqv]
theorem cb_eq (a b : Bool) : D.cmp .eq (.bool a) (.bool b) = some (decide (a = b)) := by cases a <;> cases b <;> simp [D.cmp, fine, D.dep, D.eqv]
theorem cb_ne (a b : Bool) : D.cmp .ne (.bool a) (.bool b) = some (!decide (a = b)) := by cases a <;> cases b <;> simp [D.cmp, fine, D.dep, D.eqv]
/-! ### stores -/
/-- all cells of the one stand in the other, but for one -/
def Keep (B : Nat) (st s : Store) : Prop := st.length ≤ s.length ∧ ∀ i, i < st.length → i ≠ B → s[i]? = st[i]?
theorem Keep.refl (B : Nat) (st : Store) : Keep B st st := ⟨Nat.le_refl _, fun _ _ _ => rfl⟩
theorem Keep.trans {B : Nat} {a b c : Store} (h : Keep B a b) (k : Keep B b c) : Keep B a c :=
  ⟨Nat.le_trans h.1 k.1, fun i hi hn => (k.2 i (by have := h.1; omega) hn).trans (h.2 i hi hn)⟩
theorem Keep.take {B : Nat} {a b : Store} (h : Keep B a b) : Keep B a (b.take a.length) :=
  ⟨by have := h.1; simp; omega, fun i hi hn => by rw [List.getElem?_take, if_pos hi]; exact h.2 i hi hn⟩
theorem Keep.set {B : Nat} {a b : Store} (h : Keep B a b) (c : Cell) : Keep B a (b.set B c) :=
  ⟨by simpa using h.1, fun i hi hn => by rw [List.getElem?_set_ne (Ne.symm hn)]; exact h.2 i hi hn⟩
theorem Keep.push {B : Nat} {a b : Store} (h : Keep B a b) (c : Cell) : Keep B a (b ++ [c]) :=
  ⟨by have := h.1; simp; omega, fun i hi hn => by rw [List.getElem?_append_left (by have := h.1; omega)]; exact h.2 i hi hn⟩
theorem Keep.get {B : Nat} {a b : Store} (h : Keep B a b) {i : Nat} {c : Cell} (hc : a[i]? = some c) (hn : i ≠ B) : b[i]? = some c := by
  rw [h.2 i (List.getElem?_eq_some_iff.mp hc).1 hn]; exact hc
theorem Keep.len {B : Nat} {a b : Store} (h : Keep B a b) : (b.take a.length).length = a.length := by have := h.1; simp; omega
/-- what is handed back as data -/
@[simp] theorem leave_d (m : Nat) (x : D) (st : Store) : leave m (.d x) st = .ok (.d x) (st.take m) := rfl
end Ir

namespace Prog
open Ir
/-! ### programs -/
inductive Pg where
  | num (i : Int) | truth (b : Bool) | name (x : String) | nil | off (p : Pg)
  | one (h : String) (xs : List String) (p : Pg) | two (h : String) (xs : List String) (p q : Pg) | thr (h : String) (xs : List String) (p q r : Pg)
def Pg.d : Pg → D
  | .num i => .tup [.str "num", .int i]
  | .truth b => .tup [.str "truth", .bool b]
  | .name x => .tup [.str "name", .str x]
  | .nil => .tup [.str "nil"]
  | .off p => .tup [.str "off", p.d]
  | .one h xs p => .tup (.str h :: (xs.map .str ++ [p.d]))
  | .two h xs p q => .tup (.str h :: (xs.map .str ++ [p.d, q.d]))
  | .thr h xs p q r => .tup (.str h :: (xs.map .str ++ [p.d, q.d, r.d]))
/-- tuples in all -/
def Pg.sz : Pg → Nat
  | .num _ | .truth _ | .name _ | .nil => 1
  | .off p => p.sz + 1
  | .one _ _ p => p.sz + 1
  | .two _ _ p q => p.sz + q.sz + 1
  | .thr _ _ p q r => p.sz + q.sz + r.sz + 1
/-- how deep -/
def Pg.h : Pg → Nat
  | .num _ | .truth _ | .name _ | .nil => 0
  | .off p => p.h + 1
  | .one _ _ p => p.h + 1
  | .two _ _ p q => max p.h q.h + 1
  | .thr _ _ p q r => max p.h (max q.h r.h) + 1
theorem Pg.sz_pos (p : Pg) : 1 ≤ p.sz := by cases p <;> simp [Pg.sz]
/-- the words with parts -/
def HdOk (h : String) : Prop := h ∉ ["off", "truth", "num", "name", "nil"] ∧ h.length ≤ 8
def Pg.fit : Pg → Prop
  | .num i => i.natAbs < 10 ^ 60
  | .name x => x.length ≤ 8
  | .truth _ | .nil => True
  | .off p => p.fit
  | .one h xs p => HdOk h ∧ xs.length ≤ 2 ∧ (∀ x ∈ xs, x.length ≤ 8) ∧ p.fit
  | .two h xs p q => HdOk h ∧ xs.length ≤ 2 ∧ (∀ x ∈ xs, x.length ≤ 8) ∧ p.fit ∧ q.fit
  | .thr h xs p q r => HdOk h ∧ xs.length ≤ 2 ∧ (∀ x ∈ xs, x.length ≤ 8) ∧ p.fit ∧ q.fit ∧ r.fit
def nodeD (h : String) (xs : List String) (ps : List Pg) : D := .tup (.str h :: (xs.map .str ++ ps.map Pg.d))
/-- a program as it is written -/
def Pg.txt : Pg → String
  | .num i => toString i
  | .truth b => if b then "true" else "false"
  | .name x => x
  | .nil => "nil"
  | .off p => "?" ++ p.txt
  | .one h xs p => "(" ++ joinS " " (h :: (xs ++ [p.txt])) ++ ")"
  | .two h xs p q => "(" ++ joinS " " (h :: (xs ++ [p.txt, q.txt])) ++ ")"
  | .thr h xs p q r => "(" ++ joinS " " (h :: (xs ++ [p.txt, q.txt, r.txt])) ++ ")"
theorem joinS_len (a : String) : ∀ ys : List String, (joinS a ys).length ≤ (ys.map (·.length)).sum + ys.length * a.length
  | [] => by simp [joinS]
  | [x] => by simp [joinS]
  | x :: y :: r => by
    have := joinS_len a (y :: r)
    simp only [joinS, String.length_append, List.map_cons, List.sum_cons, List.length_cons, Nat.add_mul] at this ⊢
    omega
theorem sum_le {k : Nat} : ∀ ys : List String, (∀ y ∈ ys, y.length ≤ k) → (ys.map (·.length)).sum ≤ ys.length * k
  | [], _ => by simp
  | y :: ys, h => by
    have := sum_le ys fun z hz => h z (List.mem_cons_of_mem _ hz)
    have := h y (by simp)
    simp only [List.map_cons, List.sum_cons, List.length_cons, Nat.add_mul]
    omega
theorem log_60 {i : Int} (h : i.natAbs < 10 ^ 60) : i.natAbs.log2 < 1920 := by
  by_cases c : i.natAbs = 0
  · rw [c]; decide
  · exact (Nat.log2_lt c).mpr (Nat.lt_trans h (by decide +kernel))
theorem digits_len : ∀ (k n : Nat), n < 10 ^ (k + 1) → (Nat.toDigits 10 n).length ≤ k + 1 := by
  intro k
  induction k with
  | zero => intro n h; rw [Nat.toDigits_of_lt_base (by simpa using h)]; simp
  | succ k ih =>
    intro n h
    by_cases c : n < 10
    · rw [Nat.toDigits_of_lt_base c]; simp
    · rw [Nat.toDigits_of_base_le (by decide) (by omega)]
      have := ih (n / 10) (by rw [Nat.pow_succ] at h; omega)
      simp; omega
theorem str_60 {i : Int} (h : i.natAbs < 10 ^ 60) : (toString i).length ≤ 61 := by
  have hd : ∀ n : Nat, n < 10 ^ 60 → (toString n).length ≤ 60 := fun n hn => by
    have := digits_len 59 n hn
    show (Nat.repr n).length ≤ 60
    simp only [Nat.repr, String.length_ofList]
    exact this
  cases i with
  | ofNat n => have := hd n (by simpa using h); show (toString n).length ≤ 61; omega
  | negSucc n =>
    have := hd (n + 1) (by simpa using h)
    show ("-" ++ toString (n + 1)).length ≤ 61
    rw [String.length_append]
    have : "-".length = 1 := by decide
    omega
end Prog

namespace Prog
open Ir
/-! ### the bag of draws -/
def bagC (ns : List Int) (p r s c : Int) : Cell := .lst [.lst (ns.map .int), .int p, .int r, .int s, .int c]
def isBag (b : Cell) : Prop := ∃ (ns : List Int) (p : Nat) (r s c : Int), b = bagC ns p r s c ∧ (∀ x ∈ ns, 0 ≤ x) ∧ 0 ≤ r ∧ 0 ≤ s ∧ s < 2147483647
set_option maxHeartbeats 1000000 in
theorem draw_mid {T : Tab} (hT : T "_law_draw" = some f_law_draw) {n : Nat} {st : Store} {B : Nat} {ns : List Int} {p r s c many : Int} (hB : st[B]? = some (bagC ns p r s c)) (hr : r ≠ 0) (hm : 0 < many) (hb : bigOk many = true) :
    callN T (n + 1) "_law_draw" [.ref B, .d (.int many)] st = .ok (.d (.int (r % many))) (st.set B (bagC ns p (r / many) s c)) := by
  have hs := set_at hB
  unfold bagC at hB ⊢
  simp [callN, hT, runFn, f_law_draw, indexV, hB, hs, D.index, atI, ixN, cmpV, deref, D.cmp, fine, D.dep, D.eqv, asB, hr, hm, hb, D.bin, Tg.putV, setV, asD, leave, take_set]
set_option maxHeartbeats 1000000 in
theorem draw_next {T : Tab} (hT : T "_law_draw" = some f_law_draw) {n : Nat} {st : Store} {B : Nat} {ns : List Int} {s c many : Int} {p : Nat} (hB : st[B]? = some (bagC ns p 0 s c)) (hp : p < ns.length) (hm : 0 < many) (hb : bigOk many = true) :
    callN T (n + 1) "_law_draw" [.ref B, .d (.int many)] st = .ok (.d (.int (ns[p] % many))) (st.set B (bagC ns (p + 1) (ns[p] / many) s c)) := by
  have hs := set_at hB
  unfold bagC at hB ⊢
  simp [callN, hT, runFn, f_law_draw, indexV, hB, hs, D.index, atI, ixN, cmpV, deref, D.cmp, fine, D.dep, D.eqv, asB, hp, hm, hb, D.bin, Tg.putV, setV, asD, leave, take_set, bltV, lenDic, bltD, derefs, D.blt, D.bLen]
def stirBody : List Stm := [.set (.var 0) (.con (.int 4)) (.bin .add (.idx (.var 0) (.con (.int 4))) (.con (.int 1))),
    .set (.var 0) (.con (.int 3)) (.bin .mod (.bin .add (.bin .add (.bin .add (.bin .pow (.idx (.var 0) (.con (.int 3))) (.con (.int 3))) (.bin .mul (.con (.int 69621)) (.idx (.var 0) (.con (.int 3))))) (.bin .mul (.con (.int 1031)) (.idx (.var 0) (.con (.int 4))))) (.con (.int 1))) (.con (.int 2147483647))),
    .asg (.name 2) (.bin .add (.bin .mul (.var 2) (.con (.int 134217728))) (.bin .fdiv (.idx (.var 0) (.con (.int 3))) (.con (.int 16))))]
set_option maxHeartbeats 2000000 in
theorem stir_turn {C : Calls} {st : Store} {B : Nat} {ns : List Int} {p r s c many found : Int} {x : D} (hB : st[B]? = some (bagC ns p r s c)) (h0 : 0 ≤ s) (h1 : s < 2147483647) :
    ∃ s', (0 ≤ s' ∧ s' < 2147483647) ∧ execs C stirBody [some (.ref B), some (.d (.int many)), some (.d (.int found)), some (.d x)] st = .ok (.nx [some (.ref B), some (.d (.int many)), some (.d (.int (found * 134217728 + s' / 16))), some (.d x)]) (st.set B (bagC ns p r s' (c + 1))) := by
  refine ⟨(s ^ 3 + 69621 * s + 1031 * (c + 1) + 1) % 2147483647, ⟨Int.emod_nonneg _ (by decide), Int.emod_lt_of_pos _ (by decide)⟩, ?_⟩
  have hs := set_at hB
  have hbs := big_of_small h0 h1
  unfold bagC at hB ⊢
  simp [stirBody, indexV, hB, hs, D.index, atI, ixN, deref, D.bin, Tg.putV, setV, asD, smallOk_lit, bigOk_lit, hbs]
theorem stir_loop {C : Calls} {B : Nat} {ns : List Int} {p r many : Int} : ∀ (xs : List D) (st : Store) (s c found : Int) (k : Option Val), st[B]? = some (bagC ns p r s c) → 0 ≤ s → s < 2147483647 →
    ∃ s' c' found' k', (0 ≤ s' ∧ s' < 2147483647) ∧ loopL (Tg.name 3).putF (execs C stirBody) xs [some (.ref B), some (.d (.int many)), some (.d (.int found)), k] st = .ok (.nx [some (.ref B), some (.d (.int many)), some (.d (.int found')), k']) (st.set B (bagC ns p r s' c'))
  | [], st, s, c, found, k, hB, h0, h1 => by
    refine ⟨s, c, found, k, ⟨h0, h1⟩, ?_⟩
    have : st.set B (bagC ns p r s c) = st := by
      apply List.ext_getElem?
      intro i
      by_cases e : B = i
      · subst e; rw [set_at hB, hB]
      · rw [List.getElem?_set_ne e]
    simp [loopL, this]
  | x :: xs, st, s, c, found, k, hB, h0, h1 => by
    obtain ⟨s1, ⟨g0, g1⟩, e⟩ := stir_turn (C := C) (many := many) (found := found) (x := x) hB h0 h1
    obtain ⟨s', c', f', k', hs', e2⟩ := stir_loop (C := C) (many := many) xs (st.set B (bagC ns p r s1 (c + 1))) s1 (c + 1) (found * 134217728 + s1 / 16) (some (.d x)) (set_at hB _) g0 g1
    refine ⟨s', c', f', k', hs', ?_⟩
    simp [loopL, Tg.putF_eq, Tg.put, e, e2]
theorem bits_le {i : Int} (h : bigOk i = true) : intBits i ≤ 4000 := by
  unfold bigOk at h
  have h1 := of_decide_eq_true h
  unfold intBits
  split
  · omega
  · rename_i h0
    exact (Nat.log2_lt h0).mpr h1
theorem range_ok {a : Nat} (h : a ≤ 4000) : D.bRange [.int (1 + (a : Int) / 27)] = some (.lst (rangeL 0 (1 + (a : Int) / 27).toNat)) := by
  have hL : (LIM : Int) = 16777216 := by rw [LIM_eq]; rfl
  simp only [D.bRange]
  rw [if_pos (by omega)]
set_option maxHeartbeats 2000000 in
theorem stirred_ok {T : Tab} (hT : T "_law_stirred" = some f_law_stirred) {n : Nat} {st : Store} {B : Nat} {ns : List Int} {p r s c many : Int} (hB : st[B]? = some (bagC ns p r s c)) (h0 : 0 ≤ s) (h1 : s < 2147483647) (hm : 0 < many) (hb : bigOk many = true) :
    ∃ s' c' d, (0 ≤ s' ∧ s' < 2147483647) ∧ (0 ≤ d ∧ d < many) ∧ callN T (n + 1) "_law_stirred" [.ref B, .d (.int many)] st = .ok (.d (.int d)) (st.set B (bagC ns p r s' c')) := by
  have hbits := bits_le hb
  obtain ⟨s', c', f', k', hs', e⟩ := stir_loop (C := callN T n) (many := many) (rangeL 0 (1 + ((intBits many : Nat) : Int) / 27).toNat) st s c 0 none hB h0 h1
  refine ⟨s', c', f' % many, hs', ⟨Int.emod_nonneg _ (by omega), Int.emod_lt_of_pos _ hm⟩, ?_⟩
  unfold stirBody at e
  simp [callN, hT, runFn, f_law_stirred, mthOk, mthV, mBits, deref, D.bin, Tg.putV, bltV, bltD, derefs, D.blt, range_ok hbits, asD, D.seq, bigOk_lit, e, hm, leave, take_set]
theorem draw_ok {T : Tab} (hT : T "_law_draw" = some f_law_draw) (hT2 : T "_law_stirred" = some f_law_stirred) {n : Nat} {st : Store} {B : Nat} {b : Cell} {many : Int} (hB : st[B]? = some b) (ib : isBag b) (hm : 0 < many) (hb : bigOk many = true) :
    ∃ d b', (0 ≤ d ∧ d < many) ∧ isBag b' ∧ callN T (n + 2) "_law_draw" [.ref B, .d (.int many)] st = .ok (.d (.int d)) (st.set B b') := by
  obtain ⟨ns, p, r, s, c, rfl, hns, hr, h0, h1⟩ := ib
  by_cases hr0 : r = 0
  · subst hr0
    by_cases hp : p < ns.length
    · refine ⟨_, _, ⟨Int.emod_nonneg _ (by omega), Int.emod_lt_of_pos _ hm⟩, ⟨ns, p + 1, ns[p] / many, s, c, by simp, hns, Int.ediv_nonneg (hns _ (List.getElem_mem hp)) (by omega), h0, h1⟩, draw_next hT hB hp hm hb⟩
    · obtain ⟨s', c', d, hs', hd, e⟩ := stirred_ok hT2 (n := n) hB h0 h1 hm hb
      refine ⟨d, _, hd, ⟨ns, p, 0, s', c', rfl, hns, by omega, hs'⟩, ?_⟩
      have hs := set_at hB
      unfold bagC at hB e ⊢
      have hp' : ¬ ((p : Int) < (ns.length : Int)) := by omega
      rw [show n + 2 = (n + 1) + 1 from rfl, callN]
      simp [hT, runFn, f_law_draw, indexV, hB, hs, D.index, atI, ixN, cmpV, deref, D.cmp, fine, D.dep, D.eqv, asB, hp, hp', hm, hb, D.bin, Tg.putV, setV, asD, leave, take_set, bltV, lenDic, bltD, derefs, D.blt, D.bLen, e]
  · exact ⟨_, _, ⟨Int.emod_nonneg _ (by omega), Int.emod_lt_of_pos _ hm⟩, ⟨ns, p, r / many, s, c, rfl, hns, Int.ediv_nonneg hr (by omega), h0, h1⟩, draw_mid hT hB hr0 hm hb⟩
/-! ### the bag at its start -/
def bagBody : List Stm := [.asg (.name 1) (.bin .mod (.bin .add (.bin .add (.bin .mul (.var 1) (.con (.int 48271))) (.bin .mod (.var 2) (.con (.int 2147483629)))) (.con (.int 1))) (.con (.int 2147483647)))]
theorem bag_loop {C : Calls} {st : Store} {x0 : Option Val} : ∀ (l : List Int) (s : Int) (x2 : Option Val), 0 ≤ s → s < 2147483647 →
    ∃ s' x2', (0 ≤ s' ∧ s' < 2147483647) ∧ loopL (Tg.name 2).putF (execs C bagBody) (l.map .int) [x0, some (.d (.int s)), x2] st = .ok (.nx [x0, some (.d (.int s')), x2']) st
  | [], s, x2, h0, h1 => ⟨s, x2, ⟨h0, h1⟩, by simp [loopL]⟩
  | i :: l, s, x2, h0, h1 => by
    obtain ⟨s', x2', hs, e⟩ := bag_loop (C := C) (st := st) (x0 := x0) l ((s * 48271 + i % 2147483629 + 1) % 2147483647) (some (.d (.int i))) (Int.emod_nonneg _ (by decide)) (Int.emod_lt_of_pos _ (by decide))
    refine ⟨s', x2', hs, ?_⟩
    simp [loopL, Tg.putF_eq, Tg.put, bagBody, deref, D.bin, smallOk_lit, Tg.putV]
    simpa [bagBody] using e
set_option maxHeartbeats 2000000 in
theorem bag_ok {T : Tab} (hT : T "_law_bag" = some f_law_bag) {n : Nat} {st : Store} (ns : List Int) :
    ∃ b, isBag b ∧ callN T (n + 1) "_law_bag" [.d (.ro (ns.map .int))] st = .ok (.ref st.length) (st ++ [b]) := by
  obtain ⟨ms, hms⟩ : ∃ ms, ms = ns.take 63 := ⟨_, rfl⟩
  obtain ⟨s, x2, ⟨h0, h1⟩, e⟩ := bag_loop (C := callN T n) (st := st) (x0 := some (.d (.ro (ns.map .int)))) ms 19 none (by decide) (by decide)
  have hcut : cut (ns.map D.int) none (some 63) = ms.map .int := by
    rw [hms]
    simp [cut, sIx, List.map_take]
  have hpow : (0 : Int) < (10 ^ 60) ^ 10 := pow_lits.2.2
  have ec := comp_const (f := compStep (eval (callN T n) (.bin .mod (.blt .abs [.var 2]) (.bin .pow (.bin .pow (.con (.int 10)) (.con (.int 60))) (.con (.int 10))))) (conds (callN T n) []) (.name 2) [some (.d (.ro (ns.map .int))), some (.d (.int s)), none]) (st := st) D.int (fun i => D.int ((if i < 0 then -i else i) % (10 ^ 60) ^ 10)) ms (fun i hi => by
    simp [compStep, Tg.put, bltV, bltD, derefs, deref, D.blt, D.bAbs, D.bin, pow_lits.1, bigOk_60, asD])
  refine ⟨bagC (ms.map fun i => (if i < 0 then -i else i) % (10 ^ 60) ^ 10) (0 : Nat) 0 s 0, ⟨_, 0, 0, s, 0, rfl, ?_, by omega, h0, h1⟩, ?_⟩
  · intro x hx
    obtain ⟨i, _, rfl⟩ := List.mem_map.mp hx
    exact Int.emod_nonneg _ (by omega)
  · rw [callN_run hT]
    unfold bagBody at e
    simp [runFn, f_law_bag, Tg.putV, asI, deref, D.slice, hcut, asD, D.seq, e, Tg.slots, wipe, ec, asDs, leave, bagC]
end Prog

namespace Prog
open Ir
def Bag (st : Store) (B : Nat) : Prop := ∃ b, st[B]? = some b ∧ isBag b
/-- the same cells, but for the bag's -/
def Kp (B : Nat) (st s : Store) : Prop := s.length = st.length ∧ ∀ i, i ≠ B → s[i]? = st[i]?
theorem Kp.refl (B : Nat) (st : Store) : Kp B st st := ⟨rfl, fun _ _ => rfl⟩
theorem Kp.trans {B : Nat} {a b c : Store} (h : Kp B a b) (k : Kp B b c) : Kp B a c := ⟨k.1.trans h.1, fun i hn => (k.2 i hn).trans (h.2 i hn)⟩
theorem Kp.keep {B : Nat} {a b : Store} (h : Kp B a b) : Keep B a b := ⟨by rw [h.1]; exact Nat.le_refl _, fun i _ hn => h.2 i hn⟩
theorem Kp.of {B : Nat} {a b : Store} (h : Keep B a b) : Kp B a (b.take a.length) :=
  ⟨h.len, fun i hn => by
    by_cases hi : i < a.length
    · exact h.take.2 i hi hn
    · rw [List.getElem?_eq_none (by rw [h.len]; omega), List.getElem?_eq_none (by omega)]⟩
theorem Kp.take {B : Nat} {a b : Store} (h : Kp B a b) : b.take a.length = b := List.take_of_length_le (by rw [h.1]; exact Nat.le_refl _)
theorem Kp.set {B : Nat} (a : Store) (c : Cell) : Kp B a (a.set B c) := ⟨by simp, fun i hn => List.getElem?_set_ne (Ne.symm hn)⟩
theorem Bag.lt {st : Store} {B : Nat} (h : Bag st B) : B < st.length := let ⟨_, e, _⟩ := h; (List.getElem?_eq_some_iff.mp e).1
theorem Bag.take {s : Store} {B m : Nat} (h : Bag s B) (hm : B < m) : Bag (s.take m) B := let ⟨b, e, i⟩ := h; ⟨b, by rw [List.getElem?_take, if_pos hm]; exact e, i⟩
theorem Bag.push {s : Store} {B : Nat} (h : Bag s B) (c : Cell) : Bag (s ++ [c]) B := let ⟨b, e, i⟩ := h; ⟨b, push_get e c, i⟩
theorem Bag.pushes {s : Store} {B : Nat} (h : Bag s B) (c : Store) : Bag (s ++ c) B := let ⟨b, e, i⟩ := h; ⟨b, by rw [List.getElem?_append_left (List.getElem?_eq_some_iff.mp e).1]; exact e, i⟩
theorem Bag.keep {a s : Store} {B X : Nat} (h : Bag a B) (k : Kp X a s) (hn : B ≠ X) : Bag s B := let ⟨b, e, i⟩ := h; ⟨b, by rw [k.2 B hn]; exact e, i⟩
theorem draw_wp {n : Nat} {st : Store} {B : Nat} {many : Int} {pp : Post Val} (hB : Bag st B) (hm : 0 < many) (hb : bigOk many = true) (hn : 2 ≤ n)
    (k : ∀ d s, 0 ≤ d → d < many → Bag s B → Kp B st s → pp.q (.d (.int d)) s) : @Wp _ (callN T n "_law_draw" [.ref B, .d (.int many)] st) pp := by
  obtain ⟨n, rfl⟩ : ∃ n', n = n' + 2 := ⟨n - 2, by omega⟩
  obtain ⟨b, e, ib⟩ := hB
  obtain ⟨d, b', ⟨d0, d1⟩, ib', e'⟩ := draw_ok T_f_law_draw T_f_law_stirred (n := n) e ib hm hb
  rw [e', wp_ok]
  exact k d _ d0 d1 ⟨b', set_at e b', ib'⟩ (.set st b')
theorem big_of {i : Int} (h0 : 0 ≤ i) (h : i < 2147483647) : bigOk i = true := big_of_small h0 h
theorem bag_wp {n : Nat} {st : Store} {pp : Post Val} (ns : List Int) (hn : 1 ≤ n)
    (k : ∀ s, Bag s st.length → s.length = st.length + 1 → Keep st.length st s → pp.q (.ref st.length) s) : @Wp _ (callN T n "_law_bag" [.d (.ro (ns.map .int))] st) pp := by
  obtain ⟨n, rfl⟩ : ∃ n', n = n' + 1 := ⟨n - 1, by omega⟩
  obtain ⟨b, ib, e⟩ := bag_ok T_f_law_bag (n := n) (st := st) ns
  rw [e, wp_ok]
  exact k _ ⟨b, get_push st b, ib⟩ (by simp) ((Keep.refl _ st).push b)
end Prog

namespace Prog
open Ir
def azS : String := "abcdefghijklmnopqrstuvwxyz"
def wordsL : List String := ["num", "truth", "name", "fn", "rec", "call", "let", "if", "plus", "less", "pair", "first", "second", "nil", "cons", "head", "tail", "none", "off", "true", "false", "int", "bool", "list"]
/-- a name as the pool gives it -/
structure NameOk (x : String) : Prop where
  pos : 1 ≤ x.length
  most : x.length ≤ 8
  az : ∀ c ∈ x.toList, c ∈ azS.toList
  word : x ∉ wordsL
theorem strs_sgn (cs : List Char) : D.strs (cs.map sgn) = some (cs.map String.singleton) := by
  induction cs with
  | nil => rfl
  | cons c cs ih => simp [D.strs, sgn, ih]
theorem joinE (y : String) (ys : List String) : joinS "" (y :: ys) = y ++ joinS "" ys := by cases ys <;> simp [joinS]
theorem join_sgn (cs : List Char) : joinS "" (cs.map String.singleton) = String.ofList cs := by
  induction cs with
  | nil => rfl
  | cons c cs ih =>
    rw [List.map_cons, joinE, ih]
    apply String.toList_inj.mp
    simp
theorem sum_sgn (cs : List Char) : ((cs.map String.singleton).map (·.length)).sum = cs.length := by
  induction cs with
  | nil => rfl
  | cons c cs ih => simp at ih ⊢; omega
theorem join_ok {st : Store} (cs : List Char) (h : cs.length ≤ 1000) : mJoin st (.str "") [.d (.lst (cs.map sgn))] = .ok (.d (.str (String.ofList cs))) st := by
  have hs := sum_sgn cs
  simp only [mJoin, strs_sgn, hs, join_sgn]
  rw [if_pos (by simp only [LIM_eq]; simp; omega)]
theorem lt26 {d : Int} (h : d < 26) : d < (azS.toList.length : Int) := by
  have : azS.toList.length = 26 := by decide
  omega
theorem az_at {d : Int} (h0 : 0 ≤ d) (h1 : d < 26) : ∃ c ∈ azS.toList, D.index (.str azS) (.int d) = some (sgn c) := by
  have hl : azS.length ≤ LIM := by (rw [LIM_eq]; decide)
  obtain ⟨c, h2, h3⟩ := atI_nat (xs := azS.toList) h0 (lt26 h1)
  exact ⟨c, List.mem_of_getElem? h2, by simp only [D.index, if_pos hl, h3]; rfl⟩
/-- some letters drawn -/
theorem letters_wp {B n j : Nat} {σ : Env} {st : Store} {pp : Post (List D)} (hn : 2 ≤ n) (hB : Bag st B) (s0 : ∀ x, (σ.set j x)[0]? = some (some (.ref B))) (s1 : ∀ x, (σ.set j x)[1]? = some (some (.d (.str azS)))) (xs : List D)
    (k : ∀ (cs : List Char) s, cs.length = xs.length → (∀ c ∈ cs, c ∈ azS.toList) → Bag s B → Kp B st s → pp.q (cs.map sgn) s) :
    @Wp _ (compL (compStep (eval (callN T n) f_law_pool_c0) (conds (callN T n) []) (.name j) σ) xs st) pp := by
  refine wp_comp (fun zs ys s => ∃ cs : List Char, ys = cs.map sgn ∧ cs.length + zs.length = xs.length ∧ (∀ c ∈ cs, c ∈ azS.toList) ∧ Bag s B ∧ Kp B st s) ⟨[], rfl, by simp, by simp, hB, .refl _ _⟩ ?_ ?_
  · rintro x zs ys s ⟨cs, rfl, hl, hc, hB1, k1⟩
    simp [Tg.put, s0, s1]
    refine draw_wp hB1 (by decide) (by decide +kernel) (by omega) fun d s2 d0 d1 hB2 k2 => ?_
    obtain ⟨c, hc2, e⟩ := az_at d0 d1
    simp [indexV, e, asD]
    refine ⟨cs ++ [c], by simp, by simp at hl ⊢; omega, fun c' h' => ?_, hB2, k1.trans k2⟩
    rcases List.mem_append.mp h' with h' | h'
    · exact hc c' h'
    · simp at h'; rw [h']; exact hc2
  · rintro ys s ⟨cs, rfl, hl, hc, hB1, k1⟩
    exact k cs s (by simpa using hl) hc hB1 k1
theorem mem_strs (x : String) (l : List String) : D.mem (.str x) (.lst (l.map .str)) = some (decide (x ∈ l)) := by
  have hf : fine (.lst (l.map .str)) = true := by
    have : D.depAll (l.map .str) = 0 := by induction l with | nil => rfl | cons y l ih => simp [D.depAll, D.dep, ih]
    simp [fine, D.dep, this]
  have ha : ((l.map D.str).any fun y => y.eqv (.str x)) = decide (x ∈ l) := by
    induction l with
    | nil => rfl
    | cons y l ih =>
      have hf' : fine (.lst (l.map .str)) = true := by
        have : D.depAll (l.map .str) = 0 := by clear ih hf; induction l with | nil => rfl | cons y l ih => simp [D.depAll, D.dep, ih]
        simp [fine, D.dep, this]
      have ih := ih hf'
      simp only [List.map_cons, List.any_cons, D.eqv, ih]
      by_cases e : y = x
      · subst e; simp
      · simp [e, Ne.symm e]
  simp only [D.mem, hf, ha]
  simp [fine, D.dep]
theorem nodupS : ∀ {l V : List String}, l.Nodup → (∀ x ∈ l, x ∈ V) → l.length ≤ V.length
  | [], V, _, _ => Nat.zero_le _
  | x :: l, V, h, hs => by
    have hx := hs x (by simp)
    have h' := List.nodup_cons.mp h
    have := nodupS (V := V.erase x) h'.2 fun y hy => (List.mem_erase_of_ne fun e => h'.1 (by rw [← e]; exact hy)).mpr (hs y (List.mem_cons_of_mem _ hy))
    rw [List.length_erase_of_mem hx] at this
    have : 0 < V.length := List.length_pos_of_mem hx
    simp; omega
/-- letters that end no word -/
def safeL : List Char := ['a', 'b', 'g', 'i', 'j', 'k', 'o', 'p', 'q', 'u', 'v', 'w', 'x', 'y', 'z']
theorem safe_word (cs : List Char) {c : Char} (h : c ∈ safeL) : String.ofList (cs ++ [c]) ∉ wordsL := by
  have key : ∀ w ∈ wordsL, ∀ c ∈ safeL, w.toList.getLast? ≠ some c := by decide
  intro hw
  have := key _ hw c h
  simp at this
def azC (j : Nat) : Char := azS.toList.getD j 'a'
theorem safe_az : ∀ c ∈ safeL, ∃ j, j < 26 ∧ azC j = c := by decide
/-- not all of the 26 are taken -/
theorem some_free {found : List String} (hf : found.length ≤ 8) (cs : List Char) : ¬ ∀ j, j < 26 → (String.ofList (cs ++ [azC j]) ∈ found ∨ String.ofList (cs ++ [azC j]) ∈ wordsL) := by
  intro h
  have hn : (safeL.map fun c => String.ofList (cs ++ [c])).Nodup := by
    have : safeL.Nodup := by decide
    refine List.Pairwise.map _ (fun a b hab e => hab ?_) this
    have := String.ofList_injective e
    simpa using this
  have := nodupS (V := found) hn fun x hx => by
    obtain ⟨c, hc, rfl⟩ := List.mem_map.mp hx
    obtain ⟨j, hj, rfl⟩ := safe_az c hc
    exact (h j hj).resolve_right (safe_word cs hc)
  have h15 : (safeL.map fun c => String.ofList (cs ++ [c])).length = 15 := by simp [safeL]
  omega
def cand (cs : List Char) (j : Nat) : String := String.ofList cs ++ String.singleton (azC j)
theorem cand_eq (cs : List Char) (j : Nat) : cand cs j = String.ofList (cs ++ [azC j]) := by apply String.toList_inj.mp; simp [cand]
theorem cand_len (cs : List Char) (j : Nat) : (cand cs j).length = cs.length + 1 := by rw [cand_eq]; simp
/-- the loop's word -/
def FrI (c : Nat) (found : List String) (cs : List Char) (st : Store) (x0 x3 x4 x5 x7 x11 : Option Val) (m : Nat) (σ : Env) (s : Store) : Prop :=
  s = st ∧ ∃ (x : String) (t : Nat), m + t = 26 ∧ 1 ≤ x.length ∧ x.length ≤ 8 ∧ (∀ c ∈ x.toList, c ∈ azS.toList) ∧ (1 ≤ t → x = cand cs (t - 1)) ∧ (∀ j, j + 1 < t → (cand cs j ∈ found ∨ cand cs j ∈ wordsL)) ∧
    σ = [x0, some (.d (.str azS)), some (.d (.lst (wordsL.map .str))), x3, x4, x5, some (.ref c), x7, some (.d (.str x)), some (.d (.str (String.ofList cs))), some (.d (.int t)), x11]
/-- the loop that looks for a name that is not taken -/
theorem free_wp {n c : Nat} {found : List String} {name : String} {st : Store} {x0 x3 x4 x5 x7 x11 : Option Val} {pp : Post Out} {cs : List Char} (hf : found.length ≤ 8) (hl : cs.length ≤ 7) (hcs : ∀ c ∈ cs, c ∈ azS.toList) (hn1 : 1 ≤ name.length) (hn8 : name.length ≤ 8) (haz : ∀ c ∈ name.toList, c ∈ azS.toList) (hc : st[c]? = some (.lst (found.map .str)))
    (k : ∀ x x9 x10, NameOk x → x ∉ found → pp.q (.nx [x0, some (.d (.str azS)), some (.d (.lst (wordsL.map .str))), x3, x4, x5, some (.ref c), x7, some (.d (.str x)), x9, x10, x11]) st) :
    @Wp _ (whileU (condB (eval (callN T n) f_law_pool_w0)) (execs (callN T n) f_law_pool_b0) [x0, some (.d (.str azS)), some (.d (.lst (wordsL.map .str))), x3, x4, x5, some (.ref c), x7, some (.d (.str name)), some (.d (.str (String.ofList cs))), some (.d (.int 0)), x11] st) pp := by
  refine wp_while (FrI c found cs st x0 x3 x4 x5 x7 x11) ?_ 26 _ _ ⟨rfl, name, 0, rfl, hn1, hn8, haz, by omega, by omega, rfl⟩
  rintro m σ s ⟨rfl, x, t, hm, h1, h8, ha, hx, hb, rfl⟩
  have ew := mem_strs x wordsL
  have ef := mem_strs x found
  have hl26 : azS.toList.length = 26 := by decide
  generalize hW : (wordsL.map D.str) = W at ew k
  generalize hF : (found.map D.str) = F at ef hc
  by_cases hbl : x ∈ found ∨ x ∈ wordsL
  · have all : ∀ j, j < t → (cand cs j ∈ found ∨ cand cs j ∈ wordsL) := fun j hj => by
      by_cases e : j + 1 < t
      · exact hb j e
      · have : j = t - 1 := by omega
        rw [this, ← hx (by omega)]; exact hbl
    have ht : t < 26 := by
      by_cases e : t < 26
      · exact e
      · refine absurd (fun j hj => ?_) (some_free hf cs)
        rw [← cand_eq]
        exact all j (by omega)
    have hi : D.index (.str azS) (.int (t : Int)) = some (.str (String.singleton (azC t))) := by
      have hle : azS.length ≤ LIM := by (rw [LIM_eq]; decide)
      obtain ⟨c, h2, h3⟩ := atI_nat (xs := azS.toList) (d := (t : Int)) (by omega) (by omega)
      simp only [D.index, if_pos hle, h3]
      simp only [Int.toNat_natCast] at h2
      simp only [azC, List.getD_eq_getElem?_getD, h2]
      rfl
    have hadd : D.bin .add (.str (String.ofList cs)) (.str (String.singleton (azC t))) = some (.str (cand cs t)) := by
      simp only [D.bin]
      rw [if_pos (by simp [LIM_eq]; omega)]
      rfl
    have hint : D.bin .add (.int (t : Int)) (.int 1) = some (.int ((t : Int) + 1)) := rfl
    have fin : ∃ m', m' < m ∧ FrI c found cs s x0 x3 x4 x5 x7 x11 m' [x0, some (.d (.str azS)), some (.d (.lst W)), x3, x4, x5, some (.ref c), x7, some (.d (.str (cand cs t))), some (.d (.str (String.ofList cs))), some (.d (.int ((t : Int) + 1))), x11] s := by
      refine ⟨m - 1, by omega, rfl, cand cs t, t + 1, by omega, by rw [cand_len]; omega, by rw [cand_len]; omega, fun c hc => ?_, fun _ => by simp, fun j hj => all j (by omega), by rw [hW]; simp⟩
      rw [cand_eq] at hc
      simp at hc
      rcases hc with hc | hc
      · exact hcs c hc
      · rw [hc]
        have : ∀ j, j < 26 → azC j ∈ azS.toList := by decide
        exact this t ht
    generalize String.ofList cs = nm at hadd fin
    generalize azS = az at hi fin
    rcases hbl with hb1 | hb1
    · simp [cmpV, inB, hc, ef, hb1, asB, indexV, hi, deref, hadd, hint, Tg.putV]
      exact fin
    · by_cases hb0 : x ∈ found
      · simp [cmpV, inB, hc, ef, hb0, asB, indexV, hi, deref, hadd, hint, Tg.putV]
        exact fin
      · simp [cmpV, inB, hc, ef, ew, hb0, hb1, asB, indexV, hi, deref, hadd, hint, Tg.putV]
        exact fin
  · have hb1 : x ∉ found := fun h => hbl (.inl h)
    have hb2 : x ∉ wordsL := fun h => hbl (.inr h)
    simp [cmpV, inB, hc, ef, ew, hb1, hb2, asB]
    exact k x _ _ ⟨h1, h8, ha, hb2⟩ hb1
end Prog

namespace Prog
open Ir
theorem range_d {d : Int} {m : Int} (h0 : 0 ≤ m + d) (h1 : m + d ≤ 1000) : D.bRange [.int (m + d)] = some (.lst (rangeL 0 (m + d).toNat)) := by
  have := bRange_nat (n := (m + d).toNat) (by simp only [LIM_eq]; omega)
  rwa [show (((m + d).toNat : Nat) : Int) = m + d by omega] at this
theorem rangeL_len (n : Nat) : (rangeL 0 n).length = n := by simp [rangeL]
theorem sli_ofList (cs : List Char) (lo hi : Option Int) (h : cs.length ≤ 1000) : D.slice (.str (String.ofList cs)) lo hi = some (.str (String.ofList (cut cs lo hi))) := by
  simp only [D.slice]
  rw [if_pos (by simp [LIM_eq]; omega)]
  simp
theorem add_ofList (a b : List Char) (h : a.length + b.length ≤ 1000) : D.bin .add (.str (String.ofList a)) (.str (String.ofList b)) = some (.str (String.ofList (a ++ b))) := by
  simp only [D.bin]
  rw [if_pos (by simp [LIM_eq]; omega)]
  congr 2
  apply String.toList_inj.mp; simp
theorem cut_mem {α : Type} {xs : List α} {lo hi : Option Int} {x : α} (h : x ∈ cut xs lo hi) : x ∈ xs := List.mem_of_mem_drop (List.mem_of_mem_take h)
theorem cut_head {α : Type} (xs : List α) (k : Int) (h : 0 ≤ k) : cut xs none (some k) = xs.take k.toNat := by
  simp only [cut, sIx, List.drop_zero, Nat.sub_zero]
  rw [if_neg (by omega)]
  exact List.take_eq_take_iff.mpr (by simp)
theorem cut_tail {α : Type} (xs : List α) (k : Int) (h : 0 ≤ k) : cut xs (some k) none = xs.drop k.toNat := by
  simp only [cut, sIx]
  rw [if_neg (by omega)]
  apply List.ext_getElem?
  intro i
  simp only [List.getElem?_take, List.getElem?_drop]
  split
  · by_cases c : k.toNat ≤ xs.length
    · rw [Nat.min_eq_left c]
    · rw [List.getElem?_eq_none (by omega), List.getElem?_eq_none (by omega)]
  · rw [List.getElem?_eq_none (by omega)]
/-- the loop's word -/
def PoI (B c : Nat) (st : Store) (style at' : Int) (bs : List Char) (xs : List D) (σ : Env) (s : Store) : Prop :=
  ∃ (found : List String) (x7 x8 x9 x10 x11 : Option Val), σ = [some (.ref B), some (.d (.str azS)), some (.d (.lst (wordsL.map .str))), some (.d (.int style)), some (.d (.str (String.ofList bs))), some (.d (.int at')), some (.ref c), x7, x8, x9, x10, x11] ∧
    4 ≤ found.length + xs.length ∧ found.length + xs.length ≤ 8 ∧ found.Nodup ∧ (∀ x ∈ found, NameOk x) ∧ s[c]? = some (.lst (found.map .str)) ∧ Bag s B ∧ Keep B st s
theorem pool_end {B c n : Nat} {st s : Store} {style at' : Int} {bs cs : List Char} {xs : List D} {found : List String} {x7 x11 : Option Val} {pp : Post Out} (hst : st.length ≤ c) (hbc : B ≠ c) (hcs1 : 1 ≤ cs.length) (hcs : cs.length ≤ 8) (haz : ∀ c ∈ cs, c ∈ azS.toList)
    (h4 : 4 ≤ found.length + (xs.length + 1)) (h8 : found.length + (xs.length + 1) ≤ 8) (nd : found.Nodup) (hok : ∀ x ∈ found, NameOk x) (hc : s[c]? = some (.lst (found.map .str))) (hB : Bag s B) (kp : Keep B st s)
    (k : ∀ σ s, PoI B c st style at' bs xs σ s → pp.q (.nx σ) s) :
    @Wp _ (whileU (condB (eval (callN T n) f_law_pool_w0)) (execs (callN T n) f_law_pool_b0) [some (.ref B), some (.d (.str azS)), some (.d (.lst (wordsL.map .str))), some (.d (.int style)), some (.d (.str (String.ofList bs))), some (.d (.int at')), some (.ref c), x7, some (.d (.str (String.ofList cs))), some (.d (.str (String.ofList (cs.take 7)))), some (.d (.int 0)), x11] s)
      ⟨fun o s1 => @Wp _ (match o with
    | .nx σ1 => execs (callN T n) [.ex (.mth .append (.var 6) [.var 8])] σ1 s1
    | o => .ok o s1) pp⟩ := by
  refine free_wp (by omega) (by simp; omega) (fun c h => haz c (List.mem_of_mem_take h)) (by simpa using hcs1) (by simpa using hcs) (by simpa using haz) hc fun x x9 x10 hx hxf => ?_
  have happ : mAppend c s [.d (.str x)] = .ok (.d .non) (s.set c (.lst (found.map .str ++ [.str x]))) := by
    simp only [mAppend, hc]
    rw [if_pos (by simp [LIM_eq]; omega)]
  simp [mthOk, hc, mthV, happ]
  refine k _ _ ⟨found ++ [x], x7, _, x9, x10, x11, rfl, by simp; omega, by simp; omega, ?_, ?_, ?_, ?_, ?_⟩
  · exact List.nodup_append.mpr ⟨nd, by simp, fun a ha b hb e => by simp at hb; subst hb; exact hxf (e ▸ ha)⟩
  · intro y hy
    rcases List.mem_append.mp hy with hy | hy
    · exact hok y hy
    · simp at hy; rw [hy]; exact hx
  · rw [set_at hc]; simp
  · obtain ⟨b, e, ib⟩ := hB
    exact ⟨b, by rw [List.getElem?_set_ne (Ne.symm hbc)]; exact e, ib⟩
  · exact ⟨by simpa using kp.1, fun i hi hn => by rw [List.getElem?_set_ne (by omega)]; exact kp.2 i hi hn⟩
theorem sli7 (cs : List Char) (h : cs.length ≤ 1000) : D.slice (.str (String.ofList cs)) none (some 7) = some (.str (String.ofList (cs.take 7))) := by rw [sli_ofList _ _ _ h, cut_head _ _ (by decide)]; rfl
theorem sli1 (cs : List Char) (h : cs.length ≤ 1000) : D.slice (.str (String.ofList cs)) none (some 1) = some (.str (String.ofList (cs.take 1))) := by rw [sli_ofList _ _ _ h, cut_head _ _ (by decide)]; rfl
set_option maxHeartbeats 8000000 in
theorem pool_turn {B c n : Nat} {st s : Store} {style at' : Int} {bs : List Char} {x : D} {xs : List D} {σ : Env} {pp : Post Out} (hst : st.length ≤ c) (hbc : B ≠ c) (hn : 2 ≤ n) (hb1 : 1 ≤ bs.length) (hb8 : bs.length ≤ 8) (hbz : ∀ c ∈ bs, c ∈ azS.toList) (ha0 : 0 ≤ at') (ha1 : at' < bs.length)
    (i : PoI B c st style at' bs (x :: xs) σ s) (k : ∀ σ s, PoI B c st style at' bs xs σ s → pp.q (.nx σ) s) : @Wp _ (execs (callN T n) f_law_pool_b1 (σ.set 7 (some (.d x))) s) pp := by
  obtain ⟨found, x7, x8, x9, x10, x11, rfl, h4, h8, nd, hok, hc, hB, kp⟩ := i
  simp only [List.length_cons] at h4 h8
  simp [mthOk]
  refine draw_wp hB (by decide) (by decide +kernel) (by omega) fun d s1 d0 d1 hB1 k1 => ?_
  have hr := range_d (m := 1) (d := d) (by omega) (by omega)
  simp [Tg.putV, Tg.put, Tg.puts, Tg.putF_eq, setAll, Tg.slots, Tg.slotss, wipe, indexV, D.index, atI, ixN, cmpV, deref, asB, asD, asDs, asI, bltV, lenDic, bltD, derefs, D.blt, D.bLen, D.bTuple, D.bList, D.seq, mthV, mthOk, setV, ci_eq, ci_ne, ci_lt, ci_le, ci_gt, ci_ge, cs_eq, cs_ne, cb_eq, cb_ne, D.bin, D.slice, cut, sIx, isNon, hr]
  refine letters_wp (by omega) hB1 (fun x => rfl) (fun x => rfl) _ fun cs s2 hl hz hB2 k2 => ?_
  rw [rangeL_len] at hl
  have hj := join_ok (st := s2) cs (by omega)
  have hc2 : s2[c]? = some (.lst (found.map .str)) := by rw [(k1.trans k2).2 c (Ne.symm hbc)]; exact hc
  have kp2 := kp.trans (k1.trans k2).keep
  by_cases c1 : style = 1
  · have e1 : D.slice (.str (String.ofList bs)) none (some at') = some (.str (String.ofList (bs.take at'.toNat))) := by rw [sli_ofList _ _ _ (by omega), cut_head _ _ ha0]
    have e2 : D.slice (.str (String.ofList bs)) (some (at' + 1)) none = some (.str (String.ofList (bs.drop (at' + 1).toNat))) := by rw [sli_ofList _ _ _ (by omega), cut_tail _ _ (by omega)]
    have e3 := sli1 cs (by omega)
    have e4 := add_ofList (bs.take at'.toNat) (cs.take 1) (by simp; omega)
    have e5 := add_ofList (bs.take at'.toNat ++ cs.take 1) (bs.drop (at' + 1).toNat) (by simp; omega)
    obtain ⟨ns, hns⟩ : ∃ ns, ns = bs.take at'.toNat ++ cs.take 1 ++ bs.drop (at' + 1).toNat := ⟨_, rfl⟩
    rw [← hns] at e5
    have hnl : ns.length = bs.length := by rw [hns]; simp; omega
    have hnz : ∀ c ∈ ns, c ∈ azS.toList := fun c h => by
      rw [hns] at h
      simp only [List.mem_append] at h
      rcases h with (h | h) | h
      · exact hbz c (List.mem_of_mem_take h)
      · exact hz c (List.mem_of_mem_take h)
      · exact hbz c (List.mem_of_mem_drop h)
    have e6 := sli7 ns (by omega)
    have hadd : ∀ a b : Int, D.bin .add (.int a) (.int b) = some (.int (a + b)) := fun _ _ => rfl
    generalize String.ofList (bs.take at'.toNat ++ cs.take 1) = S12 at e4 e5
    generalize String.ofList (bs.take at'.toNat) = S1 at e1 e4
    generalize String.ofList (cs.take 1) = S2 at e3 e4
    generalize String.ofList (bs.drop (at' + 1).toNat) = S3 at e2 e5
    have hs1 : style = 1 := c1
    subst hs1
    simp [mthV, hj, Tg.putV, cmpV, deref, ci_eq, asB, asI, e1, e2, e3, e4, e5, e6, hadd]
    exact pool_end hst hbc (by omega) (by omega) hnz h4 h8 nd hok hc2 hB2 kp2 k
  · by_cases c2 : style = 2
    · have e4 := add_ofList bs cs (by omega)
      have e5' : ∀ e : Int, 0 ≤ e → D.slice (.str (String.ofList (bs ++ cs))) none (some (1 + e)) = some (.str (String.ofList ((bs ++ cs).take (1 + e).toNat))) := fun e he => by rw [sli_ofList _ _ _ (by simp; omega), cut_head _ _ (by omega)]
      generalize String.ofList (bs ++ cs) = S12 at e4 e5'
      have hs2 : style = 2 := c2
      subst hs2
      simp [mthV, hj, Tg.putV, cmpV, deref, ci_eq, asB, e4]
      refine draw_wp hB2 (by decide) (by decide +kernel) (by omega) fun e s3 f0 f1 hB3 k3 => ?_
      have hc3 : s3[c]? = some (.lst (found.map .str)) := by rw [k3.2 c (Ne.symm hbc)]; exact hc2
      have hadd : ∀ a b : Int, D.bin .add (.int a) (.int b) = some (.int (a + b)) := fun _ _ => rfl
      have e5 := e5' e f0
      obtain ⟨ns, hns⟩ : ∃ ns, ns = (bs ++ cs).take (1 + e).toNat := ⟨_, rfl⟩
      rw [← hns] at e5
      have hnl : 1 ≤ ns.length ∧ ns.length ≤ 8 := by rw [hns]; simp; omega
      have hnz : ∀ c ∈ ns, c ∈ azS.toList := fun c h => by
        rw [hns] at h
        rcases List.mem_append.mp (List.mem_of_mem_take h) with h | h
        · exact hbz c h
        · exact hz c h
      have e6 := sli7 ns (by omega)
      simp [deref, asI, hadd, e5, e6, Tg.putV]
      exact pool_end hst hbc (by omega) (by omega) hnz h4 h8 nd hok hc3 hB3 (kp2.trans k3.keep) k
    · have e6 := sli7 cs (by omega)
      simp [mthV, hj, Tg.putV, cmpV, deref, ci_eq, asB, c1, c2, asI, e6]
      exact pool_end hst hbc (by omega) (by omega) hz h4 h8 nd hok hc2 hB2 kp2 k
set_option maxHeartbeats 8000000 in
theorem pool_wp {n B : Nat} {st : Store} {pp : Post Val} (hB : Bag st B) (hn : 3 ≤ n)
    (k : ∀ (xs : List String) s, 4 ≤ xs.length → xs.length ≤ 8 → xs.Nodup → (∀ x ∈ xs, NameOk x) → Bag s B → Kp B st s → pp.q (.d (.lst (xs.map .str))) s) : @Wp _ (callN T n "_law_pool" [.ref B] st) pp := by
  obtain ⟨n, rfl⟩ : ∃ n', n = n' + 1 := ⟨n - 1, by omega⟩
  rw [callN_run T_f_law_pool]
  simp [Tg.putV, Tg.put, Tg.puts, Tg.putF_eq, setAll, Tg.slots, Tg.slotss, wipe, indexV, D.index, atI, ixN, cmpV, deref, asB, asD, asDs, asI, bltV, lenDic, bltD, derefs, D.blt, D.bLen, D.bTuple, D.bList, D.seq, mthV, mthOk, setV, ci_eq, ci_ne, ci_lt, ci_le, ci_gt, ci_ge, cs_eq, cs_ne, cb_eq, cb_ne, D.bin, D.slice, cut, sIx, isNon, f_law_pool]
  refine ⟨?_, by simp [LIM_eq]⟩
  intro _
  refine draw_wp hB (by decide) (by decide +kernel) (by omega) fun style s1 _ _ hB1 k1 => ?_
  simp [Tg.putV, Tg.put, Tg.puts, Tg.putF_eq, setAll, Tg.slots, Tg.slotss, wipe, indexV, D.index, atI, ixN, cmpV, deref, asB, asD, asDs, asI, bltV, lenDic, bltD, derefs, D.blt, D.bLen, D.bTuple, D.bList, D.seq, mthV, mthOk, setV, ci_eq, ci_ne, ci_lt, ci_le, ci_gt, ci_ge, cs_eq, cs_ne, cb_eq, cb_ne, D.bin, D.slice, cut, sIx, isNon]
  refine draw_wp hB1 (by decide) (by decide +kernel) (by omega) fun d s2 d0 d1 hB2 k2 => ?_
  have hr := range_d (m := 1) (d := d) (by omega) (by omega)
  simp [Tg.putV, Tg.put, Tg.puts, Tg.putF_eq, setAll, Tg.slots, Tg.slotss, wipe, indexV, D.index, atI, ixN, cmpV, deref, asB, asD, asDs, asI, bltV, lenDic, bltD, derefs, D.blt, D.bLen, D.bTuple, D.bList, D.seq, mthV, mthOk, setV, ci_eq, ci_ne, ci_lt, ci_le, ci_gt, ci_ge, cs_eq, cs_ne, cb_eq, cb_ne, D.bin, D.slice, cut, sIx, isNon, hr]
  refine letters_wp (by omega) hB2 (fun x => rfl) (fun x => rfl) _ fun bs s3 hl hz hB3 k3 => ?_
  rw [rangeL_len] at hl
  have hj := join_ok (st := s3) bs (by omega)
  have hlen : D.bLen [.str (String.ofList bs)] = some (.int bs.length) := by
    simp only [D.bLen]
    rw [if_pos (by simp [LIM_eq]; omega)]
    simp
  have hbL : bs.length ≤ LIM := by simp only [LIM_eq]; omega
  simp [mthV, hj, Tg.putV, bltV, lenDic, bltD, derefs, deref, D.blt, hlen, hbL]
  have hbp : (0 : Int) < (bs.length : Int) := by omega
  have hbb : bigOk (bs.length : Int) = true := big_of (by omega) (by omega)
  refine draw_wp (many := (bs.length : Int)) hB3 hbp hbb (by omega) fun at' s4 a0 a1 hB4 k4 => ?_
  simp [Tg.putV, Tg.put, Tg.puts, Tg.putF_eq, setAll, Tg.slots, Tg.slotss, wipe, indexV, D.index, atI, ixN, cmpV, deref, asB, asD, asDs, asI, bltV, lenDic, bltD, derefs, D.blt, D.bLen, D.bTuple, D.bList, D.seq, mthV, mthOk, setV, ci_eq, ci_ne, ci_lt, ci_le, ci_gt, ci_ge, cs_eq, cs_ne, cb_eq, cb_ne, D.bin, D.slice, cut, sIx, isNon]
  refine draw_wp (hB4.push _) (by decide) (by decide +kernel) (by omega) fun m s5 m0 m1 hB5 k5 => ?_
  have hr2 := range_d (m := 4) (d := m) (by omega) (by omega)
  simp [Tg.putV, Tg.put, Tg.puts, Tg.putF_eq, setAll, Tg.slots, Tg.slotss, wipe, indexV, D.index, atI, ixN, cmpV, deref, asB, asD, asDs, asI, bltV, lenDic, bltD, derefs, D.blt, D.bLen, D.bTuple, D.bList, D.seq, mthV, mthOk, setV, ci_eq, ci_ne, ci_lt, ci_le, ci_gt, ci_ge, cs_eq, cs_ne, cb_eq, cb_ne, D.bin, D.slice, cut, sIx, isNon, hr2]
  have kk := ((k1.trans k2).trans k3).trans k4
  have hBl := hB.lt
  have h4l := kk.1
  refine wp_loop (PoI B s4.length st style at' bs) ?_ ?_ _ _ _ ⟨[], none, none, none, none, none, rfl, by simp [rangeL]; omega, by simp [rangeL]; omega, by simp, by simp, by rw [k5.2 _ (by omega), get_push]; rfl, hB5, (kk.keep.push _).trans k5.keep⟩
  · intro x xs σ s i
    obtain ⟨found, x7, x8, x9, x10, x11, e, rest⟩ := id i
    refine ⟨σ.set 7 (some (.d x)), rfl, ?_⟩
    exact pool_turn (by omega) (by omega) (by omega) (by omega) (by omega) hz a0 a1 i fun σ s q => q
  · rintro σ s ⟨found, x7, x8, x9, x10, x11, rfl, h4, h8, nd, hok, hc, hB6, kp⟩
    simp only [List.length_nil, Nat.add_zero] at h4 h8
    simp [hc]
    have kp2 : Keep B st (s.set s4.length .dead) := ⟨by simpa using kp.1, fun i hi hn => by rw [List.getElem?_set_ne (by omega)]; exact kp.2 i hi hn⟩
    have hB7 : Bag (s.set s4.length .dead) B := by
      obtain ⟨b, e, ib⟩ := hB6
      exact ⟨b, by rw [List.getElem?_set_ne (by omega)]; exact e, ib⟩
    exact k found _ h4 h8 nd hok (hB7.take hBl) (.of kp2)
theorem names_wp {n B : Nat} {st : Store} {pp : Post Val} (hB : Bag st B) (hn : 4 ≤ n)
    (k : ∀ (x y z : String) s, x ≠ y → x ≠ z → y ≠ z → NameOk x → NameOk y → NameOk z → Bag s B → Kp B st s → pp.q (.d (.lst [.str x, .str y, .str z])) s) : @Wp _ (callN T n "_law_names" [.ref B] st) pp := by
  obtain ⟨n, rfl⟩ : ∃ n', n = n' + 1 := ⟨n - 1, by omega⟩
  rw [callN_run T_f_law_names]
  simp [f_law_names]
  refine pool_wp hB (by omega) fun xs s h4 h8 nd hok hB1 k1 => ?_
  match xs, h4, nd, hok with
  | x :: y :: z :: w :: r, _, nd, hok =>
    have hs : D.slice (.lst ((x :: y :: z :: w :: r).map .str)) none (some 3) = some (.lst [.str x, .str y, .str z]) := by
      simp only [D.slice]; rw [cut_head _ _ (by decide)]; rfl
    simp [deref, asI] at hs ⊢
    simp [hs, k1.take]
    simp only [List.nodup_cons, List.mem_cons, not_or] at nd
    exact k x y z s nd.1.1 nd.1.2.1 nd.2.1.1 (hok x (by simp)) (hok y (by simp)) (hok z (by simp)) hB1 k1
end Prog

namespace Prog
open Ir
/-! ### programs: their form and their names -/
def ONES : List String := ["first", "second", "head", "tail", "none"]
def TWOS : List String := ["call", "plus", "less", "pair", "cons"]
def Pg.isOff : Pg → Bool
  | .off _ => true
  | _ => false
/-- the form: words with what they bear -/
def Pg.sk : Pg → Prop
  | .num _ | .truth _ | .nil => True
  | .name x => NameOk x
  | .off p => p.sk ∧ p.isOff = false
  | .one h xs p => ((h ∈ ONES ∧ xs = []) ∨ (h = "fn" ∧ ∃ x, xs = [x] ∧ NameOk x) ∨ (h = "rec" ∧ ∃ f x, xs = [f, x] ∧ NameOk f ∧ NameOk x ∧ f ≠ x)) ∧ p.sk
  | .two h xs p q => ((h ∈ TWOS ∧ xs = []) ∨ (h = "let" ∧ ∃ x, xs = [x] ∧ NameOk x)) ∧ p.sk ∧ q.sk
  | .thr h xs p q r => h = "if" ∧ xs = [] ∧ p.sk ∧ q.sk ∧ r.sk
/-- all names are bound -/
def Pg.cl (env : List String) : Pg → Bool
  | .num _ | .truth _ | .nil => true
  | .name x => decide (x ∈ env)
  | .off p => p.cl env
  | .one _ xs p => p.cl (env ++ xs)
  | .two _ xs p q => p.cl env && q.cl (env ++ xs)
  | .thr _ _ p q r => p.cl env && q.cl env && r.cl env
/-- numbers of at most sixty figures -/
def Pg.nb : Pg → Prop
  | .num i => i.natAbs < 10 ^ 60
  | .truth _ | .nil | .name _ => True
  | .off p => p.nb
  | .one _ _ p => p.nb
  | .two _ _ p q => p.nb ∧ q.nb
  | .thr _ _ p q r => p.nb ∧ q.nb ∧ r.nb
/-- places -/
def Pg.pl : Pg → Nat
  | .num _ | .truth _ | .name _ | .nil => 1
  | .off p => p.pl
  | .one _ _ p => p.pl + 1
  | .two _ _ p q => p.pl + q.pl + 1
  | .thr _ _ p q r => p.pl + q.pl + r.pl + 1
/-- places one within another -/
def Pg.dp : Pg → Nat
  | .num _ | .truth _ | .name _ | .nil => 1
  | .off p => p.dp
  | .one _ _ p => p.dp + 1
  | .two _ _ p q => max p.dp q.dp + 1
  | .thr _ _ p q r => max p.dp (max q.dp r.dp) + 1
theorem Pg.pl_pos : ∀ p : Pg, 1 ≤ p.pl
  | .num _ | .truth _ | .name _ | .nil => Nat.le_refl _
  | .off p => p.pl_pos
  | .one _ _ p => by simp only [Pg.pl]; omega
  | .two _ _ p q => by simp only [Pg.pl]; omega
  | .thr _ _ p q r => by simp only [Pg.pl]; omega
theorem Pg.dp_pos : ∀ p : Pg, 1 ≤ p.dp
  | .num _ | .truth _ | .name _ | .nil => Nat.le_refl _
  | .off p => p.dp_pos
  | .one _ _ p => by simp only [Pg.dp]; omega
  | .two _ _ p q => by simp only [Pg.dp]; omega
  | .thr _ _ p q r => by simp only [Pg.dp]; omega
theorem Pg.sz_pl : ∀ p : Pg, p.sk → p.sz ≤ 2 * p.pl ∧ (p.isOff = false → p.sz + 1 ≤ 2 * p.pl)
  | .num _, _ | .truth _, _ | .name _, _ | .nil, _ => by simp [Pg.sz, Pg.pl, Pg.isOff]
  | .off p, h => by
    have := (p.sz_pl h.1).2 h.2
    simp only [Pg.sz, Pg.pl, Pg.isOff]
    exact ⟨by omega, fun z => by cases z⟩
  | .one _ _ p, h => by
    have := (p.sz_pl h.2).1
    simp only [Pg.sz, Pg.pl]; omega
  | .two _ _ p q, h => by
    have := (p.sz_pl h.2.1).1
    have := (q.sz_pl h.2.2).1
    simp only [Pg.sz, Pg.pl]; omega
  | .thr _ _ p q r, h => by
    have := (p.sz_pl h.2.2.1).1
    have := (q.sz_pl h.2.2.2.1).1
    have := (r.sz_pl h.2.2.2.2).1
    simp only [Pg.sz, Pg.pl]; omega
theorem Pg.h_dp : ∀ p : Pg, p.sk → p.h + 1 ≤ 2 * p.dp ∧ (p.isOff = false → p.h + 2 ≤ 2 * p.dp)
  | .num _, _ | .truth _, _ | .name _, _ | .nil, _ => by simp [Pg.h, Pg.dp, Pg.isOff]
  | .off p, h => by
    have := (p.h_dp h.1).2 h.2
    simp only [Pg.h, Pg.dp, Pg.isOff]
    exact ⟨by omega, fun z => by cases z⟩
  | .one _ _ p, h => by
    have := (p.h_dp h.2).1
    simp only [Pg.h, Pg.dp]; omega
  | .two _ _ p q, h => by
    have := (p.h_dp h.2.1).1
    have := (q.h_dp h.2.2).1
    simp only [Pg.h, Pg.dp]; omega
  | .thr _ _ p q r, h => by
    have := (p.h_dp h.2.2.1).1
    have := (q.h_dp h.2.2.2.1).1
    have := (r.h_dp h.2.2.2.2).1
    simp only [Pg.h, Pg.dp]; omega
theorem Pg.dp_pl : ∀ p : Pg, p.dp ≤ p.pl
  | .num _ | .truth _ | .name _ | .nil => Nat.le_refl _
  | .off p => p.dp_pl
  | .one _ _ p => by have := p.dp_pl; simp only [Pg.dp, Pg.pl]; omega
  | .two _ _ p q => by have := p.dp_pl; have := q.dp_pl; simp only [Pg.dp, Pg.pl]; omega
  | .thr _ _ p q r => by have := p.dp_pl; have := q.dp_pl; have := r.dp_pl; simp only [Pg.dp, Pg.pl]; omega
theorem ones_ok {h : String} (m : h ∈ ONES) : HdOk h := by
  simp only [ONES, List.mem_cons, List.not_mem_nil, or_false] at m
  rcases m with rfl | rfl | rfl | rfl | rfl <;> exact ⟨by decide, by decide⟩
theorem twos_ok {h : String} (m : h ∈ TWOS) : HdOk h := by
  simp only [TWOS, List.mem_cons, List.not_mem_nil, or_false] at m
  rcases m with rfl | rfl | rfl | rfl | rfl <;> exact ⟨by decide, by decide⟩
theorem Pg.sk_fit : ∀ p : Pg, p.sk → p.nb → p.fit
  | .num _, _, h => h
  | .truth _, _, _ | .nil, _, _ => trivial
  | .name _, h, _ => h.most
  | .off p, h, n => p.sk_fit h.1 n
  | .one h xs p, ⟨h1, h2⟩, n => by
    have hp := p.sk_fit h2 n
    rcases h1 with ⟨m, rfl⟩ | ⟨rfl, x, rfl, hx⟩ | ⟨rfl, f, x, rfl, hf, hx, _⟩
    · exact ⟨ones_ok m, by simp, by simp, hp⟩
    · exact ⟨⟨by decide, by decide⟩, by simp, by simpa using hx.most, hp⟩
    · exact ⟨⟨by decide, by decide⟩, by simp, by simpa using ⟨hf.most, hx.most⟩, hp⟩
  | .two h xs p q, ⟨h1, h2, h3⟩, n => by
    have hp := p.sk_fit h2 n.1
    have hq := q.sk_fit h3 n.2
    rcases h1 with ⟨m, rfl⟩ | ⟨rfl, x, rfl, hx⟩
    · exact ⟨twos_ok m, by simp, by simp, hp, hq⟩
    · exact ⟨⟨by decide, by decide⟩, by simp, by simpa using hx.most, hp, hq⟩
  | .thr h xs p q r, ⟨h1, h0, h2, h3, h4⟩, n => by
    have hp := p.sk_fit h2 n.1
    have hq := q.sk_fit h3 n.2.1
    have hr := r.sk_fit h4 n.2.2
    subst h0 h1
    exact ⟨⟨by decide, by decide⟩, by simp, by simp, hp, hq, hr⟩
/-- no function -/
def Pg.nofn : Pg → Bool
  | .num _ | .truth _ | .name _ | .nil => true
  | .off p => p.nofn
  | .one h _ p => h != "fn" && h != "rec" && p.nofn
  | .two _ _ p q => p.nofn && q.nofn
  | .thr _ _ p q r => p.nofn && q.nofn && r.nofn
/-- no function within the first part of a let -/
def Pg.light : Pg → Bool
  | .num _ | .truth _ | .name _ | .nil => true
  | .off p => p.light
  | .one _ _ p => p.light
  | .two h _ p q => (h != "let" || p.nofn) && p.light && q.light
  | .thr _ _ p q r => p.light && q.light && r.light
theorem Pg.nofn_light : ∀ p : Pg, p.nofn = true → p.light = true
  | .num _, _ | .truth _, _ | .name _, _ | .nil, _ => rfl
  | .off p, h => p.nofn_light h
  | .one _ _ p, h => by
    simp only [Pg.nofn, Bool.and_eq_true] at h
    exact p.nofn_light h.2
  | .two _ _ p q, h => by
    simp only [Pg.nofn, Bool.and_eq_true] at h
    simp [Pg.light, h.1, p.nofn_light h.1, q.nofn_light h.2]
  | .thr _ _ p q r, h => by
    simp only [Pg.nofn, Bool.and_eq_true] at h
    simp [Pg.light, p.nofn_light h.1.1, q.nofn_light h.1.2, r.nofn_light h.2]
/-- the law's care: 2 no functions, 1 none within a let's first part -/
def Pg.cm (c : Int) (p : Pg) : Prop := (c = 2 → p.nofn = true) ∧ (c = 1 → p.light = true)
/-- what is bound within is among some names -/
def Pg.bin (N : List String) : Pg → Prop
  | .num _ | .truth _ | .name _ | .nil => True
  | .off p => p.bin N
  | .one _ xs p => (∀ x ∈ xs, x ∈ N) ∧ p.bin N
  | .two _ xs p q => (∀ x ∈ xs, x ∈ N) ∧ p.bin N ∧ q.bin N
  | .thr _ xs p q r => (∀ x ∈ xs, x ∈ N) ∧ p.bin N ∧ q.bin N ∧ r.bin N
/-- what the laws draw -/
structure Pg.Ok (N env : List String) (p : Pg) : Prop where
  sk : p.sk
  nb : p.nb
  cl : p.cl env = true
  bn : p.bin N
theorem Pg.Ok.fit {N env : List String} {p : Pg} (h : p.Ok N env) : p.fit := p.sk_fit h.sk h.nb
theorem Pg.Ok.off {N env : List String} {p : Pg} (h : p.Ok N env) (n : p.isOff = false) : (Pg.off p).Ok N env := ⟨⟨h.sk, n⟩, h.nb, h.cl, h.bn⟩
end Prog

namespace Prog
open Ir
/-! ### whether any tuple is a program -/
def tbl : List (String × String) := [("num", "n"), ("truth", "b"), ("name", "x"), ("fn", "xp"), ("rec", "xxp"), ("call", "pp"), ("let", "xpp"), ("if", "ppp"), ("plus", "pp"), ("less", "pp"), ("pair", "pp"), ("first", "p"), ("second", "p"), ("nil", ""), ("cons", "pp"), ("head", "p"), ("tail", "p"), ("none", "p"), ("off", "p")]
def shp (h : String) : Option String := tbl.lookup h
theorem shp_d (z : String) : List.lookup z [("num", D.str "n"), ("truth", .str "b"), ("name", .str "x"), ("fn", .str "xp"), ("rec", .str "xxp"), ("call", .str "pp"), ("let", .str "xpp"), ("if", .str "ppp"), ("plus", .str "pp"), ("less", .str "pp"), ("pair", .str "pp"), ("first", .str "p"), ("second", .str "p"), ("nil", .str ""), ("cons", .str "pp"), ("head", .str "p"), ("tail", .str "p"), ("none", .str "p"), ("off", .str "p")] = (shp z).map .str := by
  have : ∀ l : List (String × String), List.lookup z (l.map fun p => (p.1, D.str p.2)) = (l.lookup z).map .str := by
    intro l
    induction l with
    | nil => rfl
    | cons p l ih =>
      simp only [List.map_cons, List.lookup]
      cases z == p.1 <;> simp [ih]
  exact this tbl
def OTH : List String := ["true", "false", "int", "bool", "list"]
def isNm : D → Bool
  | .str z => decide (1 ≤ z.length) && decide (z.length ≤ 8) && (shp z).isNone && decide (z ∉ OTH) && z.toList.all fun c => decide (c ∈ azS.toList)
  | _ => false
mutual
/-- texts and tuples that are not too long -/
def sm : D → Bool
  | .non | .bool _ | .int _ => true
  | .str s => decide (s.length ≤ 1000)
  | .tup xs => sms xs
  | .lst _ => false
  | .ro _ => false
def sms : List D → Bool
  | [] => true
  | x :: xs => sm x && sms xs
end
theorem sms_mem {xs : List D} (h : sms xs = true) : ∀ x ∈ xs, sm x = true := by
  induction xs with
  | nil => intro x hx; cases hx
  | cons y ys ih =>
    simp only [sms, Bool.and_eq_true] at h
    intro x hx
    rcases List.mem_cons.mp hx with rfl | hx
    · exact h.1
    · exact ih h.2 x hx
theorem sms_of {xs : List D} (h : ∀ x ∈ xs, sm x = true) : sms xs = true := by
  induction xs with
  | nil => rfl
  | cons y ys ih => simp [sms, h y (by simp), ih fun x hx => h x (by simp [hx])]
theorem depAll_le {xs : List D} {m : Nat} : D.depAll xs ≤ m ↔ ∀ x ∈ xs, x.dep ≤ m := by
  induction xs with
  | nil => simp [D.depAll]
  | cons y ys ih => simp only [D.depAll, List.mem_cons, forall_eq_or_imp]; rw [← ih]; omega
/-- a comprehension that draws nothing -/
theorem comp_pure {f : D → Store → Res (Option D)} {st : Store} {g : D → Option D} : ∀ l : List D, (∀ a ∈ l, f a st = .ok (g a) st) → compL f l st = .ok (l.filterMap g) st
  | [], _ => by simp [compL]
  | a :: l, h => by
    have e := comp_pure (f := f) (st := st) (g := g) l fun a' h' => h a' (List.mem_cons_of_mem _ h')
    simp only [compL, h a (by simp), Res.bind_ok, e, List.filterMap_cons]
    cases g a <;> rfl
theorem comp_map {α : Type} {f : D → Store → Res (Option D)} {st : Store} (p : α → D) (g : α → Option D) : ∀ l : List α, (∀ a ∈ l, f (p a) st = .ok (g a) st) → compL f (l.map p) st = .ok (l.filterMap g) st
  | [], _ => by simp [compL]
  | a :: l, h => by
    have e := comp_map (f := f) (st := st) p g l fun a' h' => h a' (List.mem_cons_of_mem _ h')
    simp only [List.map_cons, compL, h a (by simp), Res.bind_ok, e, List.filterMap_cons]
    cases g a <;> rfl
theorem bools_map {α : Type} (f : α → Bool) : ∀ l : List α, D.bools (l.map fun a => D.bool (f a)) = some (l.map f)
  | [] => rfl
  | a :: l => by simp [D.bools, bools_map f l]
theorem all_map {α : Type} (f : α → Bool) (l : List α) : D.bAll [.lst (l.map fun a => D.bool (f a))] = some (.bool (l.all f)) := by
  simp [D.bAll, bools_map]
theorem sin_az (c : Char) : strIn (.d (sgn c)) (.d (.str "abcdefghijklmnopqrstuvwxyz")) = some (decide (c ∈ azS.toList)) := by
  have : ("abcdefghijklmnopqrstuvwxyz").length ≤ LIM := by (rw [LIM_eq]; decide)
  simp only [strIn, sgn]
  simp [this, azS]
theorem flat_oth (z : String) : D.mem (.str z) (.tup [.str "true", .str "false", .str "int", .str "bool", .str "list"]) = some (decide (z ∈ OTH)) := by
  simp only [D.mem, flat, List.all_cons, List.all_nil, Bool.and_true, if_true, OTH, List.any_cons, List.any_nil, D.eqv]
  congr 1
  by_cases h1 : z = "true" <;> by_cases h2 : z = "false" <;> by_cases h3 : z = "int" <;> by_cases h4 : z = "bool" <;> by_cases h5 : z = "list" <;> simp [h1, h2, h3, h4, h5, eq_comm, *]
set_option maxHeartbeats 4000000 in
theorem is_name_ok {n : Nat} {st : Store} (x : D) (h : sm x = true) : callN T (n + 1) "is_name" [.d x] st = .ok (.d (.bool (isNm x))) st := by
  have hne : ∀ x : D, (∀ z, x ≠ .str z) → callN T (n + 1) "is_name" [.d x] st = .ok (.d (.bool false)) st := by
    intro x hx
    have : x.tyOk .str = false := by cases x <;> first | rfl | exact absurd rfl (hx _)
    simp [callN, T_f_is_name, runFn, f_is_name, deref, this, asB, take_all]
  cases x with
  | str z =>
    simp only [sm, decide_eq_true_eq] at h
    have hL : z.length ≤ LIM := by simp only [LIM_eq]; omega
    have e2 := flat_oth z
    have ec : compL (compStep (eval (callN T n) f_is_name_c0) (conds (callN T n) []) (.name 1) [some (.d (.str z)), none]) (z.toList.map sgn) st = .ok (z.toList.map fun c => .bool (decide (c ∈ azS.toList))) st := by
      rw [comp_map sgn (fun c => some (.bool (decide (c ∈ azS.toList))))]
      · simp
      · intro c _
        simp [compStep, Tg.put, cmpV, sin_az, asD]
    have ea := all_map (fun c => decide (c ∈ azS.toList)) z.toList
    by_cases c1 : 1 ≤ z.length
    · have c1i : (1 : Int) ≤ z.length := by omega
      by_cases c2 : z.length ≤ 8
      · have c2i : (z.length : Int) ≤ 8 := by omega
        cases e1 : shp z with
        | some v => simp [callN, T_f_is_name, runFn, f_is_name, deref, D.tyOk, asB, bltV, lenDic, bltD, derefs, D.blt, D.bLen, hL, cmpV, ci_le, c1i, c2i, kdV, shp_d, e1, isNm, take_all]
        | none =>
          by_cases c3 : z ∈ OTH
          · simp [callN, T_f_is_name, runFn, f_is_name, deref, D.tyOk, asB, bltV, lenDic, bltD, derefs, D.blt, D.bLen, hL, cmpV, ci_le, c1i, c2i, kdV, shp_d, e1, isNm, take_all, inB, e2, c3]
          · have e3 : isNm (.str z) = z.toList.all fun c => decide (c ∈ azS.toList) := by simp [isNm, c1, c2, c3, e1]
            rw [e3]
            generalize (z.toList.all fun c => decide (c ∈ azS.toList)) = bb at ea
            generalize (z.toList.map fun c => D.bool (decide (c ∈ azS.toList))) = ll at ec ea
            simp [callN, T_f_is_name, runFn, f_is_name, deref, D.tyOk, asB, bltV, lenDic, bltD, derefs, D.blt, D.bLen, D.bChars, hL, cmpV, ci_le, c1i, c2i, kdV, shp_d, e1, take_all, inB, e2, c3, asD, D.seq, Tg.slots, wipe, ec, ea]
      · have c2i : ¬ ((z.length : Int) ≤ 8) := by omega
        simp [callN, T_f_is_name, runFn, f_is_name, deref, D.tyOk, asB, bltV, lenDic, bltD, derefs, D.blt, D.bLen, hL, cmpV, ci_le, c1i, c2i, c2, isNm, take_all]
    · have c1i : ¬ ((1 : Int) ≤ z.length) := by omega
      simp [callN, T_f_is_name, runFn, f_is_name, deref, D.tyOk, asB, bltV, lenDic, bltD, derefs, D.blt, D.bLen, hL, cmpV, ci_le, c1i, c1, isNm, take_all]
  | non => exact hne _ (by simp)
  | bool b => exact hne _ (by simp)
  | int b => exact hne _ (by simp)
  | tup b => exact hne _ (by simp)
  | lst b => exact hne _ (by simp)
  | ro b => exact hne _ (by simp)
def fitsD (x : D) (c : Char) : Bool :=
  if c = 'n' then x.tyOk .int && !x.tyOk .bool else if c = 'b' then x.tyOk .bool else if c = 'x' then isNm x else match x with
    | .tup (_ :: _) => true
    | _ => false
end Prog

namespace Prog
open Ir
theorem sgn_eq (c : Char) (d : Char) : D.cmp .eq (sgn c) (.str (String.singleton d)) = some (decide (c = d)) := by
  simp only [sgn, cs_eq]
  congr 1
  by_cases h : c = d
  · subst h; simp
  · have : String.singleton c ≠ String.singleton d := fun e => h (by
      have := congrArg String.toList e
      simpa using this)
    simp [h, this]
theorem sgn_n (c : Char) : D.cmp .eq (sgn c) (.str "n") = some (decide (c = 'n')) := sgn_eq c 'n'
theorem sgn_b (c : Char) : D.cmp .eq (sgn c) (.str "b") = some (decide (c = 'b')) := sgn_eq c 'b'
theorem sgn_x (c : Char) : D.cmp .eq (sgn c) (.str "x") = some (decide (c = 'x')) := sgn_eq c 'x'
set_option maxHeartbeats 4000000 in
theorem fits_ok {n : Nat} {st : Store} (x : D) (c : Char) (h : sm x = true) : callN T (n + 2) "fits" [.d x, .d (sgn c)] st = .ok (.d (.bool (fitsD x c))) st := by
  have e1 := is_name_ok (n := n) (st := st) x h
  rw [show n + 2 = (n + 1) + 1 from rfl, callN_run T_f_fits]
  unfold fitsD
  by_cases c1 : c = 'n'
  · cases hx : x.tyOk .int <;> simp [runFn, f_fits, cmpV, deref, sgn_n, sgn_b, sgn_x, c1, asB, hx, take_all]
  · by_cases c2 : c = 'b'
    · simp [runFn, f_fits, cmpV, deref, sgn_n, sgn_b, sgn_x, c1, c2, asB, take_all]
    · by_cases c3 : c = 'x'
      · simp [runFn, f_fits, cmpV, deref, sgn_n, sgn_b, sgn_x, c1, c2, c3, asB, take_all, e1]
      · cases x with
        | tup xs => cases xs <;> simp [runFn, f_fits, cmpV, deref, sgn_n, sgn_b, sgn_x, c1, c2, c3, asB, take_all, D.tyOk, bltV, lenDic, bltD, derefs, D.blt, D.bLen, ci_gt] <;> omega
        | _ => simp [runFn, f_fits, cmpV, deref, sgn_n, sgn_b, sgn_x, c1, c2, c3, asB, take_all, D.tyOk]
def strsOf (ps : List D) : List String := ps.filterMap fun | .str s => some s | _ => none
/-- the names at the part of a number (from 1 on) -/
def bndAt (h : String) (k : Int) (ps : List D) (env : List String) : List String := if h = "fn" ∨ h = "rec" ∨ (h = "let" ∧ k = 3) then env ++ strsOf ps else env
theorem strs_comp (σ : Env) (j : Nat) (hj : j < σ.length) (C : Calls) (st : Store) (ps : List D) (hps : ∀ p ∈ ps, sm p = true) : compL (compStep (eval C (.var j)) (conds C [.isi (.var j) [.str]]) (.name j) σ) ps st = .ok ((strsOf ps).map .str) st := by
  rw [comp_pure (g := fun | .str s => some (.str s) | _ => none)]
  · congr 1
    unfold strsOf
    induction ps with
    | nil => rfl
    | cons p ps ih =>
      have := ih fun q hq => hps q (List.mem_cons_of_mem _ hq)
      cases p <;> simp [List.filterMap_cons] <;> exact this
  · intro p hp
    have g : (σ.set j (some (.d p)))[j]? = some (some (.d p)) := List.getElem?_set_self hj
    cases p <;> simp [compStep, Tg.put, g, deref, D.tyOk, asB, asD]
theorem mem_fnrec (h : String) : D.mem (.str h) (.tup [.str "fn", .str "rec"]) = some (decide (h = "fn" ∨ h = "rec")) := by
  simp only [D.mem, flat, List.all_cons, List.all_nil, Bool.and_true, if_true, List.any_cons, List.any_nil, D.eqv]
  congr 1
  by_cases h1 : h = "fn" <;> by_cases h2 : h = "rec" <;> simp [h1, h2, eq_comm, *]
set_option maxHeartbeats 4000000 in
theorem bound_at_ok {n : Nat} {st : Store} (h : String) (ps : List D) (k : Int) (env : List String) (hps : ∀ p ∈ ps, sm p = true) (hl : env.length + ps.length ≤ LIM) :
    callN T (n + 1) "bound_at" [.d (.tup (.str h :: ps)), .d (.int k), .d (.lst (env.map .str))] st = .ok (.d (.lst ((bndAt h k ps env).map .str))) st := by
  have em := mem_fnrec h
  have ec := strs_comp [some (.d (.tup (.str h :: ps))), some (.d (.int k)), some (.d (.lst (env.map .str))), some (.d (.str h)), some (.d (.lst ps)), none] 5 (by simp) (callN T n) st ps hps
  have hls : (strsOf ps).length ≤ ps.length := List.length_filterMap_le _ _
  have hcat : D.bin .add (.lst (env.map .str)) (.lst ((strsOf ps).map .str)) = some (.lst ((env ++ strsOf ps).map .str)) := by
    simp only [D.bin]; rw [if_pos (by simp; omega)]; simp
  have hstar : Tg.putV (.star [3] 4 []) (.d (.tup (.str h :: ps))) [some (.d (.tup (.str h :: ps))), some (.d (.int k)), some (.d (.lst (env.map .str))), none, none, none] = some [some (.d (.tup (.str h :: ps))), some (.d (.int k)), some (.d (.lst (env.map .str))), some (.d (.str h)), some (.d (.lst ps)), none] := by
    simp [Tg.putV, Tg.put, D.seq, setAll]
  rw [callN_run T_f_bound_at]
  unfold bndAt
  by_cases c1 : h = "fn" ∨ h = "rec"
  · have c1' : h = "fn" ∨ h = "rec" ∨ (h = "let" ∧ k = 3) := by rcases c1 with c | c <;> simp [c]
    rw [if_pos c1']
    simp [runFn, f_bound_at, hstar, asDs, cmpV, inB, em, c1, asB, asD, D.seq, Tg.slots, wipe, ec, deref]
    simp at hcat
    simp [hcat, take_all]
  · by_cases c2 : h = "let"
    · subst c2
      by_cases c3 : k = 3
      · rw [if_pos (by simp [c3])]
        subst c3
        simp [runFn, f_bound_at, hstar, asDs, cmpV, inB, em, asB, asD, D.seq, Tg.slots, wipe, ec, deref, cs_eq, ci_eq]
        simp at hcat
        simp [hcat, take_all]
      · rw [if_neg (by simp [c3])]
        simp [runFn, f_bound_at, hstar, asDs, cmpV, inB, em, asB, deref, cs_eq, ci_eq, c3, take_all]
    · rw [if_neg (by simp [c2]; simpa using c1)]
      simp [runFn, f_bound_at, hstar, asDs, cmpV, inB, em, c1, asB, deref, cs_eq, c2, take_all]
/-- what is asked of a tuple by itself -/
def hereOk (h : String) (ps : List D) (env : List String) : Bool :=
  !(decide (h = "name") && !(match ps with | .str x :: _ => decide (x ∈ env) | _ => false)) && !(decide (h = "off") && (match ps with | .tup (.str z :: _) :: _ => decide (z = "off") | _ => false)) && !(decide (h = "rec") && (match ps with | .str x :: .str y :: _ => decide (x = y) | _ => false))
def isTup : D → Bool
  | .tup _ => true
  | _ => false
theorem isTup_ty (x : D) : x.tyOk .tuple = isTup x := by cases x <;> rfl
/-- the tuples of a row with their numbers -/
def tps (xs : List D) : List (Nat × D) := ((List.range xs.length).zip xs).filter fun q => isTup q.2
def fm : Nat → D → List String → Bool
  | n + 1, .tup (.str h :: ps), env => match shp h with
    | none => false
    | some sh => decide (ps.length = sh.length) && ((ps.zip sh.toList).all fun q => fitsD q.1 q.2) && hereOk h ps env && ((tps (.str h :: ps)).all fun q => fm n q.2 (bndAt h q.1 ps env))
  | _, _, _ => false
theorem filterMap_if {α β : Type} (p : α → Bool) (f : α → β) (l : List α) : (l.filterMap fun a => if p a then some (f a) else none) = (l.filter p).map f := by
  induction l with
  | nil => rfl
  | cons a l ih =>
    simp only [List.filterMap_cons, List.filter_cons]
    cases p a <;> simp [ih]
theorem zip_range {α : Type} {xs : List α} {q : Nat × α} (h : q ∈ (List.range xs.length).zip xs) : xs[q.1]? = some q.2 := by
  obtain ⟨i, hi⟩ := List.getElem?_of_mem h
  rw [List.getElem?_zip_eq_some] at hi
  obtain ⟨h1, h2⟩ := hi
  rw [List.getElem?_range (by
    have := (List.getElem?_eq_some_iff.mp h1).1
    simpa using this)] at h1
  cases h1
  exact h2
theorem tps_get {xs : List D} {q : Nat × D} (h : q ∈ tps xs) : xs[q.1]? = some q.2 ∧ isTup q.2 = true := by
  unfold tps at h
  rw [List.mem_filter] at h
  exact ⟨zip_range h.1, h.2⟩
theorem atI_get {xs : List D} {i : Nat} {x : D} (h : xs[i]? = some x) : atI xs (i : Int) = some x := by
  obtain ⟨h1, h2⟩ := List.getElem?_eq_some_iff.mp h
  simp [atI, ixN, h1, h2]
theorem fits_x {x : D} (h : fitsD x 'x' = true) : ∃ s, x = .str s := by
  cases x <;> first | exact ⟨_, rfl⟩ | (simp [fitsD, isNm] at h)
theorem fits_p {x : D} (h : fitsD x 'p' = true) : ∃ y ys, x = .tup (y :: ys) := by
  cases x with
  | tup xs => cases xs with
    | nil => simp [fitsD] at h
    | cons y ys => exact ⟨_, _, rfl⟩
  | _ => simp [fitsD] at h
theorem fits_n {x : D} (h : fitsD x 'n' = true) : ∃ i, x = .int i := by
  cases x <;> first | exact ⟨_, rfl⟩ | (simp [fitsD, D.tyOk] at h)
theorem fits_b {x : D} (h : fitsD x 'b' = true) : ∃ i, x = .bool i := by
  cases x <;> first | exact ⟨_, rfl⟩ | (simp [fitsD, D.tyOk] at h)
theorem mem_fine {x : D} {l : List D} {m : Nat} (h : D.depAll l ≤ m) (hx : x ∈ l) : x.dep ≤ m := depAll_le.mp h x hx
theorem cs_off {x : D} (h : x.dep ≤ 64) : D.cmp .eq x (.str "off") = some (match x with | .str z => decide (z = "off") | _ => false) := by
  have hf : fine x = true := by simp [fine, h]
  have hf2 : fine (.str "off") = true := by simp [fine, D.dep]
  simp only [D.cmp, hf, hf2]
  cases x <;> simp [D.eqv]
end Prog

namespace Prog
open Ir
/-- the slots of formed_here -/
def fE (h : String) (ps : List D) (env : List String) (tl : Env) : Env := [some (.d (.tup (.str h :: ps))), some (.d (.lst (env.map .str))), some (.d (.str h)), some (.d (.lst ps))] ++ tl
set_option maxHeartbeats 4000000 in
theorem fh_tail {n m : Nat} {st : Store} {h : String} {ps : List D} {env : List String} {sv : Option Val} (hsm : ∀ p ∈ ps, sm p = true) (hl : env.length + ps.length ≤ LIM)
    (ih : ∀ q ∈ tps (.str h :: ps), ∀ e : List String, e.length ≤ env.length + ps.length → callN T (n + 1) "formed_here" [.d q.2, .d (.lst (e.map .str))] st = .ok (.d (.bool (fm m q.2 e))) st) :
    execs (callN T (n + 1)) (f_formed_here.body.drop 6) (fE h ps env [sv, none, none, none, none]) st = .ok (.ret (.d (.bool ((tps (.str h :: ps)).all fun q => fm m q.2 (bndAt h q.1 ps env))))) st := by
  have e1 : compL (compStep (eval (callN T (n + 1)) f_formed_here_c1) (conds (callN T (n + 1)) f_formed_here_k0) (.tup [.name 6, .name 7]) (fE h ps env [sv, none, none, none, none])) (enumL (.str h :: ps)) st = .ok ((tps (.str h :: ps)).map fun q => .int q.1) st := by
    unfold enumL tps
    rw [comp_map _ (fun q => if isTup q.2 then some (D.int q.1) else none), filterMap_if (fun q : Nat × D => isTup q.2)]
    intro q hq
    simp [compStep, Tg.put, Tg.puts, fE, deref, isTup_ty, asB, asD]
    cases isTup q.2 <;> simp [asD]
  obtain ⟨inn, hinn⟩ : ∃ inn, inn = ((tps (.str h :: ps)).map fun q => D.int q.1) := ⟨_, rfl⟩
  have e2 : compL (compStep (eval (callN T (n + 1)) f_formed_here_c2) (conds (callN T (n + 1)) []) (.name 6) (fE h ps env [sv, some (.d (.lst inn)), none, none, none])) inn st = .ok ((tps (.str h :: ps)).map fun q => .bool (fm m q.2 (bndAt h q.1 ps env))) st := by
    conv => lhs; rw [hinn]
    rw [comp_map _ (fun q => some (.bool (fm m q.2 (bndAt h q.1 ps env))))]
    · simp
    · intro q hq
      obtain ⟨g1, g2⟩ := tps_get hq
      have g3 := atI_get g1
      have eb := bound_at_ok (n := n) (st := st) h ps q.1 env hsm hl
      have ei := ih q hq (bndAt h q.1 ps env) (by
        unfold bndAt
        have : (strsOf ps).length ≤ ps.length := List.length_filterMap_le _ _
        split
        · simp; omega
        · omega)
      simp [compStep, Tg.put, fE, indexV, D.index, g3, eb, ei, asD]
  have e3 := all_map (fun q : Nat × D => fm m q.2 (bndAt h q.1 ps env)) (tps (.str h :: ps))
  rw [← hinn] at e1
  generalize ((tps (.str h :: ps)).map fun q => D.bool (fm m q.2 (bndAt h q.1 ps env))) = bl at e2 e3
  generalize ((tps (.str h :: ps)).all fun q => fm m q.2 (bndAt h q.1 ps env)) = bb at e3
  simp [fE] at e1 e2
  simp [f_formed_here, fE, bltV, asDs, bltD, derefs, deref, D.blt, D.bEnum, asD, D.seq, Tg.slots, Tg.slotss, wipe, e1, Tg.putV, e2, e3]
end Prog

namespace Prog
open Ir
theorem shp_mem {h sh : String} (e : shp h = some sh) : (h, sh) ∈ tbl := by
  unfold shp at e
  generalize tbl = l at e ⊢
  induction l with
  | nil => cases e
  | cons p l ih =>
    obtain ⟨a, b⟩ := p
    simp only [List.lookup] at e
    split at e
    · rename_i q
      cases e
      rw [eq_of_beq q]
      exact List.mem_cons_self
    · exact List.mem_cons_of_mem _ (ih e)
theorem shp_len {h sh : String} (e : shp h = some sh) : sh.length ≤ 3 := by
  have := shp_mem e
  simp only [tbl, List.mem_cons, List.not_mem_nil, or_false, Prod.mk.injEq] at this
  rcases this with ⟨_, rfl⟩ | ⟨_, rfl⟩ | ⟨_, rfl⟩ | ⟨_, rfl⟩ | ⟨_, rfl⟩ | ⟨_, rfl⟩ | ⟨_, rfl⟩ | ⟨_, rfl⟩ | ⟨_, rfl⟩ | ⟨_, rfl⟩ | ⟨_, rfl⟩ | ⟨_, rfl⟩ | ⟨_, rfl⟩ | ⟨_, rfl⟩ | ⟨_, rfl⟩ | ⟨_, rfl⟩ | ⟨_, rfl⟩ | ⟨_, rfl⟩ | ⟨_, rfl⟩ <;> decide
theorem not_in (x : String) (env : List String) : inB ([] : Store) (.d (.str x)) (.d (.lst (env.map .str))) = some (decide (x ∈ env)) := mem_strs x env
set_option maxHeartbeats 4000000 in
/-- behind the shape: what is asked here -/
theorem fh_mid {C : Calls} {st : Store} {h sh : String} {ps : List D} {env : List String} (e : shp h = some sh) (hl : ps.length = sh.length) (hf : ((ps.zip sh.toList).all fun q => fitsD q.1 q.2) = true) (hd : D.depAll ps ≤ 64) :
    execs C ((f_formed_here.body.drop 4).take 2) (fE h ps env [some (.d (.str sh)), none, none, none, none]) st = .ok (if hereOk h ps env then .nx (fE h ps env [some (.d (.str sh)), none, none, none, none]) else .ret (.d (.bool false))) st := by
  have hmem := shp_mem e
  by_cases c1 : h = "name"
  · subst c1
    have hs : sh = "x" := by simpa [shp, tbl, List.lookup] using e.symm
    subst hs
    match ps, hl, hf with
    | [a], _, hf =>
      simp at hf
      obtain ⟨x, rfl⟩ := fits_x hf
      have hm := mem_strs x env
      by_cases c : x ∈ env <;> simp [f_formed_here, fE, cmpV, deref, cs_eq, asB, indexV, D.index, atI, ixN, inB, hm, hereOk, c]
  · by_cases c2 : h = "off"
    · subst c2
      have hs : sh = "p" := by simpa [shp, tbl, List.lookup] using e.symm
      subst hs
      match ps, hl, hf with
      | [a], _, hf =>
        simp at hf
        obtain ⟨y, ys, rfl⟩ := fits_p hf
        have hy : y.dep ≤ 64 := by simp only [D.depAll, D.dep] at hd; omega
        have hc := cs_off hy
        cases y with
        | str z => by_cases c : z = "off" <;> simp [f_formed_here, fE, cmpV, deref, cs_eq, asB, indexV, D.index, atI, ixN, hereOk, c]
        | _ => simp at hc; simp [f_formed_here, fE, cmpV, deref, cs_eq, asB, indexV, D.index, atI, ixN, hereOk, hc]
    · by_cases c3 : h = "rec"
      · subst c3
        have hs : sh = "xxp" := by simpa [shp, tbl, List.lookup] using e.symm
        subst hs
        match ps, hl, hf with
        | [a, b, c], _, hf =>
          simp at hf
          obtain ⟨x, rfl⟩ := fits_x hf.1
          obtain ⟨y, rfl⟩ := fits_x hf.2.1
          by_cases c : x = y <;> simp [f_formed_here, fE, cmpV, deref, cs_eq, asB, indexV, D.index, atI, ixN, hereOk, c]
      · simp [f_formed_here, fE, cmpV, deref, cs_eq, asB, hereOk, c1, c2, c3]
set_option maxHeartbeats 4000000 in
theorem fh_head {C : Calls} {st : Store} {h sh : String} {ps : List D} {env : List String} (e : shp h = some sh) (hC : ∀ q ∈ ps.zip sh.toList, C "fits" [.d q.1, .d (sgn q.2)] st = .ok (.d (.bool (fitsD q.1 q.2))) st) :
    execs C (f_formed_here.body.take 4) [some (.d (.tup (.str h :: ps))), some (.d (.lst (env.map .str))), none, none, none, none, none, none, none] st = .ok (if decide (ps.length = sh.length) && ((ps.zip sh.toList).all fun q => fitsD q.1 q.2) then .nx (fE h ps env [some (.d (.str sh)), none, none, none, none]) else .ret (.d (.bool false))) st := by
  have hsl := shp_len e
  have hL : sh.length ≤ LIM := by simp only [LIM_eq]; omega
  have hnl : ¬ ((ps.length : Int) + 1 = 0) := by omega
  have hnl2 : ¬ ((sh.length : Int) + 1 = 0) := by omega
  have e1 : compL (compStep (eval C f_formed_here_c0) (conds C []) (.tup [.name 7, .name 8]) (fE h ps env [some (.d (.str sh)), none, none, none, none])) (zipL ps (sh.toList.map sgn)) st = .ok ((ps.zip sh.toList).map fun q => .bool (fitsD q.1 q.2)) st := by
    unfold zipL
    rw [List.zip_map_right, List.map_map, comp_map _ (fun q => some (.bool (fitsD q.1 q.2)))]
    · simp
    · intro q hq
      have := hC q hq
      simp [compStep, Tg.put, Tg.puts, fE, this, asD]
  have e3 := all_map (fun q : D × Char => fitsD q.1 q.2) (ps.zip sh.toList)
  generalize ((ps.zip sh.toList).map fun q => D.bool (fitsD q.1 q.2)) = bl at e1 e3
  generalize ((ps.zip sh.toList).all fun q => fitsD q.1 q.2) = bb at e3
  simp [fE] at e1
  by_cases c : ps.length = sh.length
  · have ci : (ps.length : Int) = (sh.length : Int) := by omega
    rw [show decide (ps.length = sh.length) = true from decide_eq_true c]
    cases bb <;> simp [f_formed_here, fE, hnl2, deref, D.tyOk, asB, bltV, lenDic, bltD, derefs, D.blt, D.bLen, cmpV, ci_eq, ci_ne, hnl, indexV, D.index, atI, ixN, Tg.putV, Tg.put, D.seq, setAll, kdV, shp_d, e, isNon, hL, ci, asDs, D.bZipS, asD, Tg.slots, Tg.slotss, wipe, e1, e3]
  · have ci : ¬ (ps.length : Int) = (sh.length : Int) := by omega
    simp [f_formed_here, fE, deref, D.tyOk, asB, bltV, lenDic, bltD, derefs, D.blt, D.bLen, cmpV, ci_eq, ci_ne, hnl, indexV, D.index, atI, ixN, Tg.putV, Tg.put, D.seq, setAll, kdV, shp_d, e, isNon, hL, c, ci]
theorem execs_app {C : Calls} (b : List Stm) : ∀ (a : List Stm) (σ : Env) (st : Store), execs C (a ++ b) σ st = (execs C a σ st).bind fun o s1 => match o with | .nx σ1 => execs C b σ1 s1 | o => .ok o s1
  | [], σ, st => by simp
  | s :: a, σ, st => by
    rw [List.cons_append, execs_cons, execs_cons]
    cases e : exec C s σ st with
    | ok o s1 =>
      cases o with
      | nx σ1 => simp only [Res.bind_ok]; exact execs_app b a σ1 s1
      | ret v => rfl
      | brk v => rfl
      | cnt v => rfl
      | thr c as v => rfl
    | exc c as s1 => rfl
    | bad => rfl
set_option maxHeartbeats 8000000 in
theorem formed_here_ok : ∀ (m : Nat) (d : D) (n : Nat) (env : List String) (st : Store), sm d = true → d.dep ≤ m → m ≤ 64 → env.length + 3 * m ≤ 1000 → m + 4 ≤ n → callN T n "formed_here" [.d d, .d (.lst (env.map .str))] st = .ok (.d (.bool (fm (m + 1) d env))) st := by
  intro m
  induction m with
  | zero =>
    intro d n env st hs hd _ _ hn
    obtain ⟨n, rfl⟩ : ∃ n', n = n' + 1 := ⟨n - 1, by omega⟩
    cases d with
    | tup xs => simp [D.dep] at hd
    | _ => simp [callN_run T_f_formed_here, runFn, f_formed_here, deref, D.tyOk, asB, fm, take_all]
  | succ m ih =>
    intro d n env st hs hd hm he hn
    obtain ⟨n, rfl⟩ : ∃ n', n = n' + 3 := ⟨n - 3, by omega⟩
    cases d with
    | tup xs =>
      cases xs with
      | nil => simp [callN_run T_f_formed_here, runFn, f_formed_here, deref, D.tyOk, asB, fm, take_all, bltV, lenDic, bltD, derefs, D.blt, D.bLen, cmpV, ci_eq]
      | cons y ps =>
        cases y with
        | str h =>
          simp only [D.dep, D.depAll] at hd
          simp only [sm, sms, Bool.and_eq_true] at hs
          have hsm := sms_mem hs.2
          have hdp : D.depAll ps ≤ m := by omega
          have hnl : ¬ ((ps.length : Int) + 1 = 0) := by omega
          cases e : shp h with
          | none =>
            simp [callN_run T_f_formed_here, runFn, f_formed_here, deref, D.tyOk, asB, fm, take_all, bltV, lenDic, bltD, derefs, D.blt, D.bLen, cmpV, ci_eq, hnl, indexV, D.index, atI, ixN, Tg.putV, Tg.put, D.seq, setAll, kdV, shp_d, e, isNon]
          | some sh =>
            have hb : f_formed_here.body = f_formed_here.body.take 4 ++ ((f_formed_here.body.drop 4).take 2 ++ f_formed_here.body.drop 6) := rfl
            have hsl := shp_len e
            have e1 := fh_head (C := callN T (n + 2)) (st := st) (env := env) e fun q hq => fits_ok (n := n) (st := st) q.1 q.2 (hsm q.1 (List.of_mem_zip hq).1)
            have hE : (([.d (.tup (.str h :: ps)), .d (.lst (env.map .str))] : List Val).map some ++ List.replicate (f_formed_here.many - f_formed_here.pars) none) = [some (.d (.tup (.str h :: ps))), some (.d (.lst (env.map .str))), none, none, none, none, none, none, none] := rfl
            rw [callN_run T_f_formed_here, runFn, if_pos ⟨rfl, by decide⟩, hE, hb, execs_app, e1]
            by_cases c1 : ps.length = sh.length
            · cases c2 : (ps.zip sh.toList).all fun q => fitsD q.1 q.2 with
              | false => simp [fm, e, c1, c2, take_all]
              | true =>
                have e2 := fh_mid (C := callN T (n + 2)) (st := st) (env := env) e c1 c2 (by omega)
                have e3 := fh_tail (n := n + 1) (m := m + 1) (st := st) (h := h) (ps := ps) (env := env) (sv := some (.d (.str sh))) hsm (by simp only [LIM_eq]; omega) fun q hq en hen => by
                  have g := tps_get hq
                  have hq1 : q.1 ≠ 0 := fun z => by rw [z] at g; simp at g; rw [← g.1] at g; simp [isTup] at g
                  have hq2 : q.2 ∈ ps := by
                    obtain ⟨k, hk⟩ : ∃ k, q.1 = k + 1 := ⟨q.1 - 1, by omega⟩
                    rw [hk] at g
                    exact List.mem_of_getElem? (by simpa using g.1)
                  exact ih q.2 (n + 2) en st (hsm _ hq2) (mem_fine hdp hq2) (by omega) (by omega) (by omega)
                simp only [c1, c2, decide_true, Bool.and_true, if_true, Res.bind_ok, execs_app, e2]
                cases c3 : hereOk h ps env with
                | false => simp [fm, e, c1, c2, c3, take_all]
                | true =>
                  simp only [if_true, Res.bind_ok, e3]
                  simp [fm, e, c1, c2, c3, take_all]
            · simp [fm, e, c1, take_all]
        | _ => 
          have hnl : ¬ ((ps.length : Int) + 1 = 0) := by omega
          simp [callN_run T_f_formed_here, runFn, f_formed_here, deref, D.tyOk, asB, fm, take_all, bltV, lenDic, bltD, derefs, D.blt, D.bLen, cmpV, ci_eq, hnl, indexV, D.index, atI, ixN]
    | _ => simp [callN_run T_f_formed_here, runFn, f_formed_here, deref, D.tyOk, asB, fm, take_all]
end Prog

namespace Prog
open Ir
theorem shp_none {x : String} (h : x ∉ wordsL) : shp x = none ∧ x ∉ OTH := by
  simp only [wordsL, List.mem_cons, List.not_mem_nil, or_false, not_or] at h
  obtain ⟨h1, h2, h3, h4, h5, h6, h7, h8, h9, h10, h11, h12, h13, h14, h15, h16, h17, h18, h19, h20, h21, h22, h23, h24⟩ := h
  constructor
  · have b : ∀ a : String, x ≠ a → (x == a) = false := fun a q => by simpa using q
    simp only [shp, tbl, List.lookup, b _ h1, b _ h2, b _ h3, b _ h4, b _ h5, b _ h6, b _ h7, b _ h8, b _ h9, b _ h10, b _ h11, b _ h12, b _ h13, b _ h14, b _ h15, b _ h16, b _ h17, b _ h18, b _ h19]
  · simp [OTH, h20, h21, h22, h23, h24]
theorem NameOk.isNm {x : String} (h : NameOk x) : isNm (.str x) = true := by
  obtain ⟨h1, h2⟩ := shp_none h.word
  have h3 : (x.toList.all fun c => decide (c ∈ azS.toList)) = true := List.all_eq_true.mpr fun c hc => decide_eq_true (h.az c hc)
  simp only [Prog.isNm, h.pos, h.most, h1, h2, h3]; rfl
theorem shp_some {x sh : String} (h : shp x = some sh) : x ∈ wordsL := by
  have := shp_mem h
  simp only [tbl, List.mem_cons, List.not_mem_nil, or_false, Prod.mk.injEq] at this
  rcases this with ⟨rfl, _⟩ | ⟨rfl, _⟩ | ⟨rfl, _⟩ | ⟨rfl, _⟩ | ⟨rfl, _⟩ | ⟨rfl, _⟩ | ⟨rfl, _⟩ | ⟨rfl, _⟩ | ⟨rfl, _⟩ | ⟨rfl, _⟩ | ⟨rfl, _⟩ | ⟨rfl, _⟩ | ⟨rfl, _⟩ | ⟨rfl, _⟩ | ⟨rfl, _⟩ | ⟨rfl, _⟩ | ⟨rfl, _⟩ | ⟨rfl, _⟩ | ⟨rfl, _⟩ <;> decide
theorem isNm_name {x : String} (h : isNm (.str x) = true) : NameOk x := by
  simp only [isNm, Bool.and_eq_true, decide_eq_true_eq] at h
  obtain ⟨⟨⟨⟨h1, h2⟩, h3⟩, h4⟩, h5⟩ := h
  refine ⟨h1, h2, fun c hc => of_decide_eq_true (List.all_eq_true.mp h5 c hc), fun hw => ?_⟩
  have hn : shp x = none := by simpa using h3
  have key : x ∈ OTH ∨ (shp x).isSome = true := by
    simp only [wordsL, List.mem_cons, List.not_mem_nil, or_false] at hw
    rcases hw with rfl | rfl | rfl | rfl | rfl | rfl | rfl | rfl | rfl | rfl | rfl | rfl | rfl | rfl | rfl | rfl | rfl | rfl | rfl | rfl | rfl | rfl | rfl | rfl <;> decide
  rcases key with k | k
  · exact h4 k
  · rw [hn] at k; cases k
theorem Pg.d_tup (p : Pg) : ∃ y ys, p.d = .tup (.str y :: ys) ∧ (y = "off" ↔ p.isOff = true ∨ ∃ xs q, p = .one "off" xs q ∨ (∃ r, p = .two "off" xs q r) ∨ ∃ r s, p = .thr "off" xs q r s) := by
  cases p <;> simp [Pg.d, Pg.isOff]
theorem Pg.tupd (p : Pg) : isTup p.d = true := by cases p <;> rfl
theorem Pg.fitp (p : Pg) : fitsD p.d 'p' = true := by cases p <;> rfl
theorem sk_off {p : Pg} (h : p.sk) (n : p.isOff = false) : (match p.d with | .tup (.str z :: _) => decide (z = "off") | _ => false) = false := by
  cases p with
  | off p => simp [Pg.isOff] at n
  | one w xs p =>
    have : w ≠ "off" := by
      rcases h.1 with ⟨m, _⟩ | ⟨rfl, _⟩ | ⟨rfl, _⟩
      · rintro rfl; simp [ONES] at m
      · decide
      · decide
    simp [Pg.d, this]
  | two w xs p q =>
    have : w ≠ "off" := by
      rcases h.1 with ⟨m, _⟩ | ⟨rfl, _⟩
      · rintro rfl; simp [TWOS] at m
      · decide
    simp [Pg.d, this]
  | thr w xs p q r =>
    have : w ≠ "off" := by rw [h.1]; decide
    simp [Pg.d, this]
  | _ => simp [Pg.d]
theorem fm_node {m : Nat} {h sh : String} {ps : List D} {env : List String} (e : shp h = some sh) (hl : ps.length = sh.length) (hf : ((ps.zip sh.toList).all fun q => fitsD q.1 q.2) = true) (hh : hereOk h ps env = true) : fm (m + 1) (.tup (.str h :: ps)) env = (tps (.str h :: ps)).all fun q => fm m q.2 (bndAt h q.1 ps env) := by
  simp only [fm, e, hl, hf, hh, decide_true, Bool.true_and]
theorem here_plain {h : String} {ps : List D} {env : List String} (h1 : h ≠ "name") (h2 : h ≠ "off") (h3 : h ≠ "rec") : hereOk h ps env = true := by simp [hereOk, h1, h2, h3]
theorem one_sh {h : String} (m : h ∈ ONES) : shp h = some "p" ∧ h ≠ "name" ∧ h ≠ "off" ∧ h ≠ "rec" ∧ h ≠ "fn" ∧ h ≠ "let" := by
  simp only [ONES, List.mem_cons, List.not_mem_nil, or_false] at m
  rcases m with rfl | rfl | rfl | rfl | rfl <;> decide
theorem two_sh {h : String} (m : h ∈ TWOS) : shp h = some "pp" ∧ h ≠ "name" ∧ h ≠ "off" ∧ h ≠ "rec" ∧ h ≠ "fn" ∧ h ≠ "let" := by
  simp only [TWOS, List.mem_cons, List.not_mem_nil, or_false] at m
  rcases m with rfl | rfl | rfl | rfl | rfl <;> decide
theorem it_str (x : String) : isTup (.str x) = false := rfl
theorem tps_1 (h : String) (p : Pg) : tps [.str h, p.d] = [(1, p.d)] := by simp [tps, List.range, List.range.loop, it_str, p.tupd]
theorem tps_2 (h : String) (p q : Pg) : tps [.str h, p.d, q.d] = [(1, p.d), (2, q.d)] := by simp [tps, List.range, List.range.loop, it_str, p.tupd, q.tupd]
theorem tps_3 (h : String) (p q r : Pg) : tps [.str h, p.d, q.d, r.d] = [(1, p.d), (2, q.d), (3, r.d)] := by simp [tps, List.range, List.range.loop, it_str, p.tupd, q.tupd, r.tupd]
theorem tps_x1 (h x : String) (p : Pg) : tps [.str h, .str x, p.d] = [(2, p.d)] := by simp [tps, List.range, List.range.loop, it_str, p.tupd]
theorem tps_xx1 (h f x : String) (p : Pg) : tps [.str h, .str f, .str x, p.d] = [(3, p.d)] := by simp [tps, List.range, List.range.loop, it_str, p.tupd]
theorem tps_x2 (h x : String) (p q : Pg) : tps [.str h, .str x, p.d, q.d] = [(2, p.d), (3, q.d)] := by simp [tps, List.range, List.range.loop, it_str, p.tupd, q.tupd]
theorem strs_pg (ps : List Pg) (xs : List String) : strsOf (xs.map .str ++ ps.map Pg.d) = xs := by
  induction xs with
  | nil =>
    simp only [List.map_nil, List.nil_append]
    induction ps with
    | nil => rfl
    | cons p ps ih => simp only [strsOf, List.map_cons, List.filterMap_cons] at ih ⊢; cases p <;> simpa [Pg.d] using ih
  | cons x xs ih => simp only [strsOf, List.map_cons, List.cons_append, List.filterMap_cons] at ih ⊢; rw [ih]
theorem fits_nm {x : String} (h : NameOk x) : fitsD (.str x) 'x' = true := by simp [fitsD, h.isNm]
theorem l_n : "n".length = 1 := by decide
theorem l_b : "b".length = 1 := by decide
theorem l_x : "x".length = 1 := by decide
set_option maxHeartbeats 2000000 in
theorem fm_pg : ∀ (p : Pg) (m : Nat) (env : List String), p.sk → p.h ≤ m → fm (m + 1) p.d env = p.cl env
  | .num i, m, env, _, _ => by simp [Pg.d, fm, shp, tbl, List.lookup, fitsD, D.tyOk, hereOk, tps, isTup, Pg.cl, List.range, List.range.loop, l_n, l_b, l_x]
  | .truth i, m, env, _, _ => by simp [Pg.d, fm, shp, tbl, List.lookup, fitsD, D.tyOk, hereOk, tps, isTup, Pg.cl, List.range, List.range.loop, l_n, l_b, l_x]
  | .nil, m, env, _, _ => by simp [Pg.d, fm, shp, tbl, List.lookup, fitsD, D.tyOk, hereOk, tps, isTup, Pg.cl, List.range, List.range.loop, l_n, l_b, l_x]
  | .name x, m, env, h, _ => by
    have := NameOk.isNm h
    simp [Pg.d, fm, shp, tbl, List.lookup, fitsD, this, hereOk, tps, isTup, Pg.cl, List.range, List.range.loop, l_n, l_b, l_x]
  | .off p, m, env, h, hh => by
    simp only [Pg.h] at hh
    obtain ⟨m, rfl⟩ : ∃ m', m = m' + 1 := ⟨m - 1, by omega⟩
    have := fm_pg p m env h.1 (by omega)
    have hk : hereOk "off" [p.d] env = true := by
      have := sk_off h.1 h.2
      simp only [hereOk]
      cases hd : p.d with
      | tup xs =>
        rw [hd] at this
        cases xs with
        | nil => simp
        | cons y ys => cases y <;> simp at this ⊢ <;> exact this
      | _ => simp
    rw [Pg.d, fm_node (sh := "p") (by decide) (by rfl) (by simp [p.fitp]) hk, tps_1]
    simpa [bndAt, Pg.cl] using this
  | .one h xs p, m, env, ⟨h1, h2⟩, hh => by
    simp only [Pg.h] at hh
    obtain ⟨m, rfl⟩ : ∃ m', m = m' + 1 := ⟨m - 1, by omega⟩
    have ih := fun e => fm_pg p m e h2 (by omega)
    rcases h1 with ⟨hm, rfl⟩ | ⟨rfl, x, rfl, hx⟩ | ⟨rfl, f, x, rfl, hf, hx, hne⟩
    · obtain ⟨e, n1, n2, n3, n4, n5⟩ := one_sh hm
      simp only [Pg.d, List.map_nil, List.nil_append]
      rw [fm_node e (by rfl) (by simp [p.fitp]) (here_plain n1 n2 n3), tps_1]
      simp [bndAt, n3, n4, n5, Pg.cl, ih]
    · simp only [Pg.d, List.map_cons, List.map_nil, List.cons_append, List.nil_append]
      rw [fm_node (sh := "xp") (by decide) (by rfl) (by simp [p.fitp, fits_nm hx]) (here_plain (by decide) (by decide) (by decide)), tps_x1]
      have := strs_pg [p] [x]
      simp at this
      simp [bndAt, Pg.cl, ih, this]
    · simp only [Pg.d, List.map_cons, List.map_nil, List.cons_append, List.nil_append]
      rw [fm_node (sh := "xxp") (by decide) (by rfl) (by simp [p.fitp, fits_nm hx, fits_nm hf]) (by simp [hereOk, hne]), tps_xx1]
      have := strs_pg [p] [f, x]
      simp at this
      simp [bndAt, Pg.cl, ih, this]
  | .two h xs p q, m, env, ⟨h1, h2, h3⟩, hh => by
    simp only [Pg.h] at hh
    obtain ⟨m, rfl⟩ : ∃ m', m = m' + 1 := ⟨m - 1, by omega⟩
    have ih := fun e => fm_pg p m e h2 (by omega)
    have ih2 := fun e => fm_pg q m e h3 (by omega)
    rcases h1 with ⟨hm, rfl⟩ | ⟨rfl, x, rfl, hx⟩
    · obtain ⟨e, n1, n2, n3, n4, n5⟩ := two_sh hm
      simp only [Pg.d, List.map_nil, List.nil_append]
      rw [fm_node e (by rfl) (by simp [p.fitp, q.fitp]) (here_plain n1 n2 n3), tps_2]
      simp [bndAt, n3, n4, n5, Pg.cl, ih, ih2]
    · simp only [Pg.d, List.map_cons, List.map_nil, List.cons_append, List.nil_append]
      rw [fm_node (sh := "xpp") (by decide) (by rfl) (by simp [p.fitp, q.fitp, fits_nm hx]) (here_plain (by decide) (by decide) (by decide)), tps_x2]
      have := strs_pg [p, q] [x]
      simp at this
      simp [bndAt, Pg.cl, ih, ih2, this]
  | .thr h xs p q r, m, env, ⟨h1, h0, h2, h3, h4⟩, hh => by
    simp only [Pg.h] at hh
    obtain ⟨m, rfl⟩ : ∃ m', m = m' + 1 := ⟨m - 1, by omega⟩
    have ih := fun e => fm_pg p m e h2 (by omega)
    have ih2 := fun e => fm_pg q m e h3 (by omega)
    have ih3 := fun e => fm_pg r m e h4 (by omega)
    subst h0 h1
    simp only [Pg.d, List.map_nil, List.nil_append]
    rw [fm_node (sh := "ppp") (by decide) (by rfl) (by simp [p.fitp, q.fitp, r.fitp]) (here_plain (by decide) (by decide) (by decide)), tps_3]
    simp [bndAt, Pg.cl, ih, ih2, ih3, Bool.and_assoc]
theorem Pg.dep_d : ∀ p : Pg, p.d.dep = p.h + 1
  | .num _ | .truth _ | .name _ | .nil => rfl
  | .off p => by have := p.dep_d; simp only [Pg.d, D.dep, D.depAll, Pg.h]; omega
  | .one h xs p => by
    have := p.dep_d
    have hx : D.depAll (xs.map .str ++ [p.d]) = p.d.dep := by
      induction xs with
      | nil => simp [D.depAll]
      | cons x xs ih => simp only [List.map_cons, List.cons_append, D.depAll, D.dep, ih]; omega
    simp only [Pg.d, D.dep, D.depAll, Pg.h, hx]; omega
  | .two h xs p q => by
    have := p.dep_d
    have := q.dep_d
    have hx : D.depAll (xs.map .str ++ [p.d, q.d]) = max p.d.dep q.d.dep := by
      induction xs with
      | nil => simp [D.depAll]
      | cons x xs ih => simp only [List.map_cons, List.cons_append, D.depAll, D.dep, ih]; omega
    simp only [Pg.d, D.dep, D.depAll, Pg.h, hx]; omega
  | .thr h xs p q r => by
    have := p.dep_d
    have := q.dep_d
    have := r.dep_d
    have hx : D.depAll (xs.map .str ++ [p.d, q.d, r.d]) = max p.d.dep (max q.d.dep r.d.dep) := by
      induction xs with
      | nil => simp [D.depAll]
      | cons x xs ih => simp only [List.map_cons, List.cons_append, D.depAll, D.dep, ih]; omega
    simp only [Pg.d, D.dep, D.depAll, Pg.h, hx]; omega
theorem sms_app (xs ys : List D) : sms (xs ++ ys) = (sms xs && sms ys) := by
  induction xs with
  | nil => rfl
  | cons x xs ih => simp [sms, ih, Bool.and_assoc]
theorem sms_str {xs : List String} (h : ∀ x ∈ xs, x.length ≤ 1000) : sms (xs.map .str) = true := sms_of fun x hx => by
  obtain ⟨y, hy, rfl⟩ := List.mem_map.mp hx
  simpa [sm] using h y hy
theorem Pg.sm_d : ∀ p : Pg, p.fit → Prog.sm p.d = true
  | .num _, _ | .truth _, _ | .nil, _ => by simp [Pg.d, sm, sms] <;> decide
  | .name x, h => by simp only [Pg.fit] at h; simp [Pg.d, sm, sms]; exact ⟨by decide, by omega⟩
  | .off p, h => by simp [Pg.d, sm, sms, p.sm_d h]; decide
  | .one h xs p, ⟨h1, h2, h3, h4⟩ => by
    have := h1.2
    have := sms_str (xs := xs) fun x hx => by have := h3 x hx; omega
    simp [Pg.d, sm, sms, sms_app, this, p.sm_d h4]; omega
  | .two h xs p q, ⟨h1, h2, h3, h4, h5⟩ => by
    have := h1.2
    have := sms_str (xs := xs) fun x hx => by have := h3 x hx; omega
    simp [Pg.d, sm, sms, sms_app, this, p.sm_d h4, q.sm_d h5]; omega
  | .thr h xs p q r, ⟨h1, h2, h3, h4, h5, h6⟩ => by
    have := h1.2
    have := sms_str (xs := xs) fun x hx => by have := h3 x hx; omega
    simp [Pg.d, sm, sms, sms_app, this, p.sm_d h4, q.sm_d h5, r.sm_d h6]; omega
/-- formed, of a program by its form -/
theorem formed_pg {p : Pg} {n : Nat} {st : Store} (hs : p.sk) (hb : p.nb) (hh : p.h ≤ 60) (hn : p.h + 7 ≤ n) : callN T n "formed" [.d p.d] st = .ok (.d (.bool (p.cl []))) st := by
  obtain ⟨n, rfl⟩ : ∃ n', n = n' + 1 := ⟨n - 1, by omega⟩
  have e := formed_here_ok (p.h + 1) p.d n [] st (p.sm_d (p.sk_fit hs hb)) (by rw [p.dep_d]; exact Nat.le_refl _) (by omega) (by simp; omega) (by omega)
  rw [fm_pg p (p.h + 1) [] hs (by omega)] at e
  simp at e
  rw [callN_run T_f_formed]
  simp [runFn, f_formed, asDs, e, take_all]
end Prog

namespace Prog
open Ir
/-! ### the law's own view of a program's form -/
def shD : List (D × D) := [(.str "num", .str "n"), (.str "truth", .str "b"), (.str "name", .str "x"), (.str "fn", .str "xp"), (.str "rec", .str "xxp"), (.str "call", .str "pp"), (.str "let", .str "xpp"), (.str "if", .str "ppp"), (.str "plus", .str "pp"), (.str "less", .str "pp"), (.str "pair", .str "pp"), (.str "cons", .str "pp"), (.str "first", .str "p"), (.str "second", .str "p"), (.str "head", .str "p"), (.str "tail", .str "p"), (.str "none", .str "p"), (.str "off", .str "p"), (.str "nil", .str "")]
def shW : List (String × String) := [("num", "n"), ("truth", "b"), ("name", "x"), ("fn", "xp"), ("rec", "xxp"), ("call", "pp"), ("let", "xpp"), ("if", "ppp"), ("plus", "pp"), ("less", "pp"), ("pair", "pp"), ("cons", "pp"), ("first", "p"), ("second", "p"), ("head", "p"), ("tail", "p"), ("none", "p"), ("off", "p"), ("nil", "")]
theorem look_map (h : String) : ∀ l : List (String × String), lookK (l.map fun p => (D.str p.1, D.str p.2)) (.str h) = (l.lookup h).map .str
  | [] => rfl
  | p :: l => by
    have ih := look_map h l
    unfold lookK at ih ⊢
    simp only [List.map_cons, List.find?_cons, List.lookup, D.eqv]
    by_cases c : p.1 = h
    · subst c; simp
    · have c2 : (h == p.1) = false := by simpa using fun e => c e.symm
      simp [c, c2]
      simpa using ih
theorem shW_perm (h : String) : shW.lookup h = shp h := by
  by_cases hm : h ∈ ["num", "truth", "name", "fn", "rec", "call", "let", "if", "plus", "less", "pair", "cons", "first", "second", "head", "tail", "none", "off", "nil"]
  · simp only [List.mem_cons, List.not_mem_nil, or_false] at hm
    rcases hm with rfl | rfl | rfl | rfl | rfl | rfl | rfl | rfl | rfl | rfl | rfl | rfl | rfl | rfl | rfl | rfl | rfl | rfl | rfl <;> decide
  · simp only [List.mem_cons, List.not_mem_nil, or_false, not_or] at hm
    obtain ⟨h1, h2, h3, h4, h5, h6, h7, h8, h9, h10, h11, h12, h13, h14, h15, h16, h17, h18, h19⟩ := hm
    have b : ∀ a : String, h ≠ a → (h == a) = false := fun a q => by simpa using q
    simp only [shW, shp, tbl, List.lookup, b _ h1, b _ h2, b _ h3, b _ h4, b _ h5, b _ h6, b _ h7, b _ h8, b _ h9, b _ h10, b _ h11, b _ h12, b _ h13, b _ h14, b _ h15, b _ h16, b _ h17, b _ h18, b _ h19]
def dO : Option String → D
  | some s => .str s
  | none => .non
set_option maxHeartbeats 8000000 in
theorem shape_ok {n : Nat} {st : Store} (h : String) : callN T (n + 1) "_law_shape" [.d (.str h)] st = .ok (.d (dO (shp h))) st := by
  have key : execs (callN T n) (f_law_shape.body.take 4) [some (.d (.str h)), none, none] st = .ok (.nx [some (.d (.str h)), some (.ref st.length), some (.d (.str "off"))]) (st ++ [.dic shD]) := by
    have hm : mergeF [] [.str "num", .str "n", .str "truth", .str "b", .str "name", .str "x", .str "fn", .str "xp", .str "rec", .str "xxp", .str "call", .str "pp", .str "let", .str "xpp", .str "if", .str "ppp"] = some (shD.take 8) := by simp [mergeF, D.key, putK, D.eqv, shD]
    have set1 : ∀ (m : Nat) (k v : String), m < 19 → putK (shD.take m) (.str k) (.str v) = shD.take (m + 1) → setV (.ref st.length) (.d (.str k)) (.str v) (st ++ [.dic (shD.take m)]) = some (st ++ [.dic (shD.take (m + 1))]) := by
      intro m k v hm hp
      have hl : (shD.take m).length < LIM := by rw [LIM_eq, List.length_take]; omega
      simp only [setV, get_push, hl, if_true, hp, set_push]
    have p8 := set1 8 "plus" "pp" (by decide) (by simp [putK, shD, D.eqv])
    have p9 := set1 9 "less" "pp" (by decide) (by simp [putK, shD, D.eqv])
    have p10 := set1 10 "pair" "pp" (by decide) (by simp [putK, shD, D.eqv])
    have p11 := set1 11 "cons" "pp" (by decide) (by simp [putK, shD, D.eqv])
    have p12 := set1 12 "first" "p" (by decide) (by simp [putK, shD, D.eqv])
    have p13 := set1 13 "second" "p" (by decide) (by simp [putK, shD, D.eqv])
    have p14 := set1 14 "head" "p" (by decide) (by simp [putK, shD, D.eqv])
    have p15 := set1 15 "tail" "p" (by decide) (by simp [putK, shD, D.eqv])
    have p16 := set1 16 "none" "p" (by decide) (by simp [putK, shD, D.eqv])
    have p17 := set1 17 "off" "p" (by decide) (by simp [putK, shD, D.eqv])
    have p18 := set1 18 "nil" "" (by decide) (by simp [putK, shD, D.eqv])
    have hall : shD.take 19 = shD := rfl
    have hset : ∀ (m : Nat) (k v : String) (x2 : Option Val), setV (.ref st.length) (.d (.str k)) (.str v) (st ++ [.dic (shD.take m)]) = some (st ++ [.dic (shD.take (m + 1))]) → ∀ b, b = [Stm.set (.var 1) (.var 2) (.con (.str v))] → execs (callN T n) b [some (.d (.str h)), some (.ref st.length), some (.d (.str k))] (st ++ [.dic (shD.take m)]) = .ok (.nx [some (.d (.str h)), some (.ref st.length), some (.d (.str k))]) (st ++ [.dic (shD.take (m + 1))]) := by
      intro m k v x2 hv b hb
      subst hb
      simp [asD, hv]
    have q8 := hset 8 "plus" "pp" none p8 f_law_shape_b0 rfl
    have q9 := hset 9 "less" "pp" none p9 f_law_shape_b0 rfl
    have q10 := hset 10 "pair" "pp" none p10 f_law_shape_b0 rfl
    have q11 := hset 11 "cons" "pp" none p11 f_law_shape_b0 rfl
    have q12 := hset 12 "first" "p" none p12 f_law_shape_b1 rfl
    have q13 := hset 13 "second" "p" none p13 f_law_shape_b1 rfl
    have q14 := hset 14 "head" "p" none p14 f_law_shape_b1 rfl
    have q15 := hset 15 "tail" "p" none p15 f_law_shape_b1 rfl
    have q16 := hset 16 "none" "p" none p16 f_law_shape_b1 rfl
    have q17 := hset 17 "off" "p" none p17 f_law_shape_b1 rfl
    simp only [Nat.reduceAdd] at q8 q9 q10 q11 q12 q13 q14 q15 q16 q17 p18
    rw [hall] at p18
    generalize shD.take 8 = S8 at *
    generalize shD.take 9 = S9 at *
    generalize shD.take 10 = S10 at *
    generalize shD.take 11 = S11 at *
    generalize shD.take 12 = S12 at *
    generalize shD.take 13 = S13 at *
    generalize shD.take 14 = S14 at *
    generalize shD.take 15 = S15 at *
    generalize shD.take 16 = S16 at *
    generalize shD.take 17 = S17 at *
    generalize shD.take 18 = S18 at *
    generalize shD = SA at *
    have l1 : exec (callN T n) (.loop (.name 2) (.lst [.con (.str "plus"), .con (.str "less"), .con (.str "pair"), .con (.str "cons")]) f_law_shape_b0) [some (.d (.str h)), some (.ref st.length), none] (st ++ [.dic S8]) = .ok (.nx [some (.d (.str h)), some (.ref st.length), some (.d (.str "cons"))]) (st ++ [.dic S12]) := by
      generalize f_law_shape_b0 = B0 at *
      simp [asDs, asD, D.seq, loopL, Tg.putF_eq, Tg.put, q8, q9, q10, q11]
    have l2 : exec (callN T n) (.loop (.name 2) (.lst [.con (.str "first"), .con (.str "second"), .con (.str "head"), .con (.str "tail"), .con (.str "none"), .con (.str "off")]) f_law_shape_b1) [some (.d (.str h)), some (.ref st.length), some (.d (.str "cons"))] (st ++ [.dic S12]) = .ok (.nx [some (.d (.str h)), some (.ref st.length), some (.d (.str "off"))]) (st ++ [.dic S18]) := by
      generalize f_law_shape_b1 = B1 at *
      simp [asDs, asD, D.seq, loopL, Tg.putF_eq, Tg.put, q12, q13, q14, q15, q16, q17]
    show execs (callN T n) [_, _, _, _] _ _ = _
    rw [execs_cons, exec_asg]
    simp only [eval_newDd, evals_cons, evals_nil, eval_con, Res.bind_ok, asDs, Option.map_some, optR_some, hm, Tg.putV, List.set]
    rw [execs_cons, l1]
    simp only [Res.bind_ok]
    rw [execs_cons, l2]
    simp only [Res.bind_ok]
    simp [asD, p18]
  have hlook : lookK shD (.str h) = (shp h).map .str := by
    have := look_map h shW
    rw [shW_perm] at this
    exact this
  have hb : f_law_shape.body = f_law_shape.body.take 4 ++ f_law_shape.body.drop 4 := rfl
  rw [callN_run T_f_law_shape, runFn, if_pos ⟨rfl, by decide⟩, hb, execs_app]
  have hE : (([.d (.str h)] : List Val).map some ++ List.replicate (f_law_shape.many - f_law_shape.pars) none) = [some (.d (.str h)), none, none] := rfl
  rw [hE, key]
  simp only [Res.bind_ok]
  have hget : mGet st.length (st ++ [.dic shD]) [.d (.str h), .d .non] = .ok (.d (dO (shp h))) (st ++ [.dic shD]) := by
    simp only [mGet, get_push, D.key, if_true, hlook]
    cases shp h <;> rfl
  generalize shD = SA at *
  simp [f_law_shape, mthOk, get_push, mthV, hget]
end Prog

namespace Prog
open Ir
theorem snin_az (c : Char) : strIn (.d (sgn c)) (.d (.str "abcdefghijklmnopqrstuvwxyz")) = some (decide (c ∈ azS.toList)) := sin_az c
theorem depAll_sgn (l : List Char) : D.depAll (l.map sgn) = 0 := by
  induction l with
  | nil => rfl
  | cons c l ih => simp only [List.map_cons, D.depAll, sgn, D.dep] at ih ⊢; rw [ih]; rfl
theorem eq_sgns (l : List Char) : D.cmp .eq (.lst (l.map sgn)) (.lst []) = some l.isEmpty := by
  have h1 : fine (.lst (l.map sgn)) = true := by simp [fine, D.dep, depAll_sgn]
  have h2 : fine (.lst []) = true := by simp [fine, D.dep, D.depAll]
  simp only [D.cmp, h1, h2]
  cases l <;> simp [D.eqv, D.eqvAll]
theorem mem_oth (z : String) : D.mem (.str z) (.lst [.str "true", .str "false", .str "int", .str "bool", .str "list"]) = some (decide (z ∈ OTH)) := mem_strs z OTH
theorem dO_is (o : Option String) : isNon (.d (dO o)) (.d .non) = some o.isNone := by cases o <;> rfl
set_option maxHeartbeats 4000000 in
theorem lis_name_ok {n : Nat} {st : Store} (x : D) (h : sm x = true) : callN T (n + 2) "_law_is_name" [.d x] st = .ok (.d (.bool (isNm x))) st := by
  have hne : ∀ x : D, (∀ z, x ≠ .str z) → callN T (n + 2) "_law_is_name" [.d x] st = .ok (.d (.bool false)) st := by
    intro x hx
    have : x.tyOk .str = false := by cases x <;> first | rfl | exact absurd rfl (hx _)
    simp [callN_run T_f_law_is_name, runFn, f_law_is_name, deref, this, asB, take_all]
  cases x with
  | str z =>
    simp only [sm, decide_eq_true_eq] at h
    have hL : z.length ≤ LIM := by simp only [LIM_eq]; omega
    have hlen : ∀ s, bltV .len [.d (.str z)] s = .ok (.d (.int (z.length : Int))) s := fun s => by simp [bltV, lenDic, bltD, derefs, deref, D.blt, D.bLen, hL]
    have hch : ∀ s, bltV .chars [.d (.str z)] s = .ok (.d (.lst (z.toList.map sgn))) s := fun s => by simp [bltV, bltD, derefs, deref, D.blt, D.bChars, hL]
    have es := fun s => shape_ok (n := n) (st := s) z
    have e2 := mem_oth z
    have ec : compL (compStep (eval (callN T (n + 1)) f_law_is_name_c0) (conds (callN T (n + 1)) f_law_is_name_k0) (.name 1) [some (.d (.str z)), none]) (z.toList.map sgn) st = .ok ((z.toList.filter fun c => !decide (c ∈ azS.toList)).map sgn) st := by
      rw [comp_map sgn (fun c => if (!decide (c ∈ azS.toList)) then some (sgn c) else none), filterMap_if (fun c => !decide (c ∈ azS.toList))]
      intro c _
      have hs := sin_az c
      cases hc : decide (c ∈ azS.toList) <;> rw [hc] at hs <;> simp [compStep, Tg.put, cmpV, hs, asB, asD]
    have ee := eq_sgns (z.toList.filter fun c => !decide (c ∈ azS.toList))
    have hfil : (z.toList.filter fun c => !decide (c ∈ azS.toList)).isEmpty = z.toList.all fun c => decide (c ∈ azS.toList) := by
      have : ∀ l : List Char, (l.filter fun c => !decide (c ∈ azS.toList)).isEmpty = l.all fun c => decide (c ∈ azS.toList) := by
        intro l
        induction l with
        | nil => rfl
        | cons c l ih => cases hc : decide (c ∈ azS.toList) <;> simp [List.filter_cons, hc] at ih ⊢; exact ih
      exact this _
    rw [hfil] at ee
    have hd := dO_is (shp z)
    have hnm : isNm (.str z) = (decide (1 ≤ z.length) && decide (z.length ≤ 8) && (shp z).isNone && decide (z ∉ OTH) && z.toList.all fun c => decide (c ∈ azS.toList)) := rfl
    rw [hnm]
    generalize (z.toList.filter fun c => !decide (c ∈ azS.toList)).map sgn = FL at ec ee
    generalize (z.toList.all fun c => decide (c ∈ azS.toList)) = AB at ee
    generalize z.toList.map sgn = ZL at hch ec
    generalize dO (shp z) = DS at es hd
    generalize (shp z).isNone = SN at hd
    rw [callN_run T_f_law_is_name]
    by_cases c1 : 1 ≤ z.length
    · have c1i : ¬ ((z.length : Int) < 1) := by omega
      by_cases c2 : z.length ≤ 8
      · have c2i : ¬ ((z.length : Int) > 8) := by omega
        cases SN with
        | false => simp [runFn, f_law_is_name, deref, D.tyOk, asB, hlen, cmpV, ci_lt, ci_gt, c1i, c2i, es, hd, take_all]
        | true =>
          by_cases c3 : z ∈ OTH
          · simp [runFn, f_law_is_name, deref, D.tyOk, asB, hlen, cmpV, ci_lt, ci_gt, c1i, c2i, es, hd, asDs, inB, e2, c3, take_all]
          · simp [runFn, f_law_is_name, deref, D.tyOk, asB, hlen, cmpV, ci_lt, ci_gt, c1i, c2i, c1, c2, es, hd, asDs, inB, e2, c3, hch, asD, D.seq, Tg.slots, wipe, ec, ee, take_all]
      · have c2i : (z.length : Int) > 8 := by omega
        simp [runFn, f_law_is_name, deref, D.tyOk, asB, hlen, cmpV, ci_lt, ci_gt, c1i, c2i, c2, take_all]
    · have c1i : (z.length : Int) < 1 := by omega
      simp [runFn, f_law_is_name, deref, D.tyOk, asB, hlen, cmpV, ci_lt, c1i, c1, take_all]
  | non => exact hne _ (by simp)
  | bool b => exact hne _ (by simp)
  | int b => exact hne _ (by simp)
  | tup b => exact hne _ (by simp)
  | lst b => exact hne _ (by simp)
  | ro b => exact hne _ (by simp)
/-- as fitsD, but for tuples of none -/
def lfitsD (x : D) (c : Char) : Bool :=
  if c = 'n' then x.tyOk .int && !x.tyOk .bool else if c = 'b' then x.tyOk .bool else if c = 'x' then isNm x else isTup x
set_option maxHeartbeats 4000000 in
theorem lfits_ok {n : Nat} {st : Store} (x : D) (c : Char) (h : sm x = true) : callN T (n + 3) "_law_fits" [.d x, .d (sgn c)] st = .ok (.d (.bool (lfitsD x c))) st := by
  have e1 := lis_name_ok (n := n) (st := st) x h
  rw [show n + 3 = (n + 2) + 1 from rfl, callN_run T_f_law_fits]
  unfold lfitsD
  by_cases c1 : c = 'n'
  · cases hx : x.tyOk .int <;> simp [runFn, f_law_fits, cmpV, deref, sgn_n, sgn_b, sgn_x, c1, asB, hx, take_all]
  · by_cases c2 : c = 'b'
    · simp [runFn, f_law_fits, cmpV, deref, sgn_n, sgn_b, sgn_x, c1, c2, asB, take_all]
    · by_cases c3 : c = 'x'
      · simp [runFn, f_law_fits, cmpV, deref, sgn_n, sgn_b, sgn_x, c1, c2, c3, asB, take_all, e1]
      · simp [runFn, f_law_fits, cmpV, deref, sgn_n, sgn_b, sgn_x, c1, c2, c3, asB, take_all, isTup_ty]
end Prog

namespace Prog
open Ir
/-! ### the places of a program -/
structure Spot where
  path : List Nat
  pg : Pg
  off : Bool
def Pg.go : Pg → Bool → List Nat → List Nat → List Spot
  | .off p, false, path, deeper => p.go true path (deeper ++ [1])
  | .off p, true, path, deeper => ⟨path, .off p, true⟩ :: p.go false (deeper ++ [1]) (deeper ++ [1])
  | .one h xs p, b, path, deeper => ⟨path, .one h xs p, b⟩ :: p.go false (deeper ++ [xs.length + 1]) (deeper ++ [xs.length + 1])
  | .two h xs p q, b, path, deeper => ⟨path, .two h xs p q, b⟩ :: (p.go false (deeper ++ [xs.length + 1]) (deeper ++ [xs.length + 1]) ++ q.go false (deeper ++ [xs.length + 2]) (deeper ++ [xs.length + 2]))
  | .thr h xs p q r, b, path, deeper => ⟨path, .thr h xs p q r, b⟩ :: (p.go false (deeper ++ [xs.length + 1]) (deeper ++ [xs.length + 1]) ++ (q.go false (deeper ++ [xs.length + 2]) (deeper ++ [xs.length + 2]) ++ r.go false (deeper ++ [xs.length + 3]) (deeper ++ [xs.length + 3])))
  | p, b, path, _ => [⟨path, p, b⟩]
/-- all places -/
def Pg.spots (p : Pg) : List Spot := p.go false [] []
def natsD (l : List Nat) : List D := l.map fun k => .int (k : Nat)
def Spot.d (s : Spot) : D := .tup [.tup (natsD s.path), s.pg.d, .bool s.off]
theorem go_len : ∀ (p : Pg) (b : Bool) (path deeper : List Nat), p.sk → (b = true → p.isOff = false) → (p.go b path deeper).length = p.pl
  | .num _, _, _, _, _, _ | .truth _, _, _, _, _, _ | .name _, _, _, _, _, _ | .nil, _, _, _, _, _ => by simp [Pg.go, Pg.pl]
  | .off p, b, path, deeper, h, hb => by
    cases b with
    | true => have := hb rfl; simp [Pg.isOff] at this
    | false => simp only [Pg.go, Pg.pl]; exact go_len p true path _ h.1 fun _ => h.2
  | .one _ _ p, b, path, deeper, h, hb => by simp [Pg.go, Pg.pl, go_len p false _ _ h.2]
  | .two _ _ p q, b, path, deeper, h, hb => by simp [Pg.go, Pg.pl, go_len p false _ _ h.2.1, go_len q false _ _ h.2.2]
  | .thr _ _ p q r, b, path, deeper, h, hb => by simp [Pg.go, Pg.pl, go_len p false _ _ h.2.2.1, go_len q false _ _ h.2.2.2.1, go_len r false _ _ h.2.2.2.2]; omega
theorem spots_len {p : Pg} (h : p.sk) : p.spots.length = p.pl := go_len p false [] [] h (by simp)
theorem natsD_snoc (l : List Nat) (k : Nat) : natsD (l ++ [k]) = natsD l ++ [.int (k : Nat)] := by simp [natsD]
end Prog

namespace Prog
open Ir
theorem sk_head_one {h : String} {xs : List String} {p : Pg} (hs : (Pg.one h xs p).sk) : h ≠ "off" ∧ xs.length ≤ 2 := by
  rcases hs.1 with ⟨m, rfl⟩ | ⟨rfl, x, rfl, _⟩ | ⟨rfl, f, x, rfl, _⟩
  · exact ⟨(one_sh m).2.2.1, by simp⟩
  · exact ⟨by decide, by simp⟩
  · exact ⟨by decide, by simp⟩
theorem sk_head_two {h : String} {xs : List String} {p q : Pg} (hs : (Pg.two h xs p q).sk) : h ≠ "off" ∧ xs.length ≤ 2 := by
  rcases hs.1 with ⟨m, rfl⟩ | ⟨rfl, x, rfl, _⟩
  · exact ⟨(two_sh m).2.2.1, by simp⟩
  · exact ⟨by decide, by simp⟩
theorem tps_pre (h : D) (hh : isTup h = false) (xs : List String) (ps : List Pg) : tps (h :: (xs.map .str ++ ps.map Pg.d)) = (((List.range ps.length).zip (ps.map Pg.d)).map fun q => (q.1 + (xs.length + 1), q.2)) := by
  have key : ∀ (l : List D), (∀ x ∈ l, isTup x = false) → ∀ r : List D, (∀ x ∈ r, isTup x = true) → ((List.range (l ++ r).length).zip (l ++ r)).filter (fun q => isTup q.2) = ((List.range r.length).zip r).map fun q => (q.1 + l.length, q.2) := by
    intro l hl r hr
    rw [List.length_append, List.range_add, List.zip_append (by simp), List.filter_append]
    have h1 : ((List.range l.length).zip l).filter (fun q => isTup q.2) = [] := by
      rw [List.filter_eq_nil_iff]
      intro q hq
      rw [hl q.2 (List.of_mem_zip hq).2]; simp
    have h2 : (((List.range r.length).map (l.length + ·)).zip r).filter (fun q => isTup q.2) = ((List.range r.length).map (l.length + ·)).zip r := by
      rw [List.filter_eq_self]
      intro q hq
      exact hr q.2 (List.of_mem_zip hq).2
    rw [h1, h2, List.nil_append, List.zip_map_left]
    apply List.map_congr_left
    rintro ⟨a, b⟩ _
    simp [Nat.add_comm]
  unfold tps
  have := key (h :: xs.map .str) (by intro x hx; rcases List.mem_cons.mp hx with rfl | hx; exact hh; obtain ⟨y, _, rfl⟩ := List.mem_map.mp hx; rfl) (ps.map Pg.d) (by intro x hx; obtain ⟨y, _, rfl⟩ := List.mem_map.mp hx; exact y.tupd)
  simpa using this
theorem goD_len {p : Pg} {b : Bool} {a c : List Nat} (h : p.sk) (hb : b = true → p.isOff = false) : ((p.go b a c).map Spot.d).length = p.pl := by rw [List.length_map, go_len p b a c h hb]
/-- both: by itself, and with an off around it -/
def StOk (p : Pg) : Prop := ∀ (b : Bool) (n : Nat) (path : List Nat) (st : Store), (b = true → p.isOff = false) → p.dp ≤ n → path.length + 2 * p.dp ≤ 900 → p.pl ≤ 900 →
  callN T n "standing" [.d (if b then .tup [.str "off", p.d] else p.d), .d (.tup (natsD path))] st = .ok (.d (.lst ((p.go b path (if b then path ++ [1] else path)).map Spot.d))) st
/-- the numbers of those that are off -/
def offsAt (l : List Spot) : List Nat := (((List.range l.length).zip l).filter fun q => q.2.off).map (·.1)
end Prog

namespace Prog
open Ir
/-- the parts of a program, with their numbers -/
def Pg.kids : Pg → List (Nat × Pg)
  | .one _ xs p => [(xs.length + 1, p)]
  | .two _ xs p q => [(xs.length + 1, p), (xs.length + 2, q)]
  | .thr _ xs p q r => [(xs.length + 1, p), (xs.length + 2, q), (xs.length + 3, r)]
  | .off p => [(1, p)]
  | _ => []
theorem kids_tps {p : Pg} {h : String} {its : List D} (e : p.d = .tup (.str h :: its)) : tps (.str h :: its) = p.kids.map fun q => (q.1, q.2.d) := by
  cases p with
  | num i => simp only [Pg.d, D.tup.injEq] at e; rw [← e]; rfl
  | truth i => simp only [Pg.d, D.tup.injEq] at e; rw [← e]; rfl
  | name i => simp only [Pg.d, D.tup.injEq] at e; rw [← e]; rfl
  | nil => simp only [Pg.d, D.tup.injEq] at e; rw [← e]; rfl
  | off p => simp only [Pg.d, D.tup.injEq] at e; rw [← e, tps_1]; rfl
  | one w xs p =>
    simp only [Pg.d, D.tup.injEq] at e; rw [← e]
    have := tps_pre (.str w) rfl xs [p]
    simpa [List.range, List.range.loop, Pg.kids] using this
  | two w xs p q =>
    simp only [Pg.d, D.tup.injEq] at e; rw [← e]
    have := tps_pre (.str w) rfl xs [p, q]
    simpa [List.range, List.range.loop, Pg.kids, Nat.add_comm, Nat.add_left_comm] using this
  | thr w xs p q r =>
    simp only [Pg.d, D.tup.injEq] at e; rw [← e]
    have := tps_pre (.str w) rfl xs [p, q, r]
    simpa [List.range, List.range.loop, Pg.kids, Nat.add_comm, Nat.add_left_comm] using this
theorem go_kids (p : Pg) (b : Bool) (path dr : List Nat) (hb : b = false → p.isOff = false) : p.go b path dr = ⟨path, p, b⟩ :: p.kids.flatMap fun q => q.2.go false (dr ++ [q.1]) (dr ++ [q.1]) := by
  cases p with
  | off p => cases b with
    | true => simp [Pg.go, Pg.kids]
    | false => have := hb rfl; simp [Pg.isOff] at this
  | _ => simp [Pg.go, Pg.kids]
theorem kids_sk {p : Pg} (h : p.sk) : ∀ q ∈ p.kids, q.2.sk ∧ q.2.h ≤ p.h := by
  cases p with
  | off p => intro q hq; simp [Pg.kids] at hq; subst hq; exact ⟨h.1, by simp [Pg.h]⟩
  | one _ xs p => intro q hq; simp [Pg.kids] at hq; subst hq; exact ⟨h.2, by simp [Pg.h]⟩
  | two _ xs p q =>
    intro z hz; simp [Pg.kids] at hz
    rcases hz with rfl | rfl
    · exact ⟨h.2.1, by simp [Pg.h]; omega⟩
    · exact ⟨h.2.2, by simp [Pg.h]; omega⟩
  | thr _ xs p q r =>
    intro z hz; simp [Pg.kids] at hz
    rcases hz with rfl | rfl | rfl
    · exact ⟨h.2.2.1, by simp [Pg.h]; omega⟩
    · exact ⟨h.2.2.2.1, by simp [Pg.h]; omega⟩
    · exact ⟨h.2.2.2.2, by simp [Pg.h]; omega⟩
  | _ => intro q hq; simp [Pg.kids] at hq
theorem kids_pl {p : Pg} (h : p.isOff = false) : (p.kids.map fun q => q.2.pl).sum + 1 = p.pl := by
  cases p with
  | off p => simp [Pg.isOff] at h
  | _ => simp [Pg.kids, Pg.pl] <;> omega
theorem kids_len (p : Pg) : p.kids.length ≤ 3 := by cases p <;> simp [Pg.kids]
theorem d_list (p : Pg) (h : p.sk) : ∃ w its, p.d = .tup (.str w :: its) ∧ its.length ≤ 5 ∧ (p.isOff = false → w ≠ "off") := by
  cases p with
  | num i => exact ⟨_, _, rfl, by simp, fun _ => by decide⟩
  | truth i => exact ⟨_, _, rfl, by simp, fun _ => by decide⟩
  | name i => exact ⟨_, _, rfl, by simp, fun _ => by decide⟩
  | nil => exact ⟨_, _, rfl, by simp, fun _ => by decide⟩
  | off p => exact ⟨_, _, rfl, by simp, fun h => by simp [Pg.isOff] at h⟩
  | one w xs p => have := sk_head_one h; exact ⟨_, _, rfl, by simp; omega, fun _ => this.1⟩
  | two w xs p q => have := sk_head_two h; exact ⟨_, _, rfl, by simp; omega, fun _ => this.1⟩
  | thr w xs p q r => exact ⟨_, _, rfl, by rw [h.2.1]; simp, fun _ => by rw [h.1]; decide⟩
def Pg.xs : Pg → List String
  | .one _ xs _ | .two _ xs _ _ | .thr _ xs _ _ _ => xs
  | _ => []
def Pg.hd : Pg → String
  | .num _ => "num" | .truth _ => "truth" | .name _ => "name" | .nil => "nil" | .off _ => "off"
  | .one h _ _ | .two h _ _ _ | .thr h _ _ _ _ => h
def envK (h : String) (xs : List String) (k : Nat) (env : List String) : List String := if h = "let" ∧ k = 2 then env else env ++ xs
theorem cl_kids {p : Pg} (hs : p.sk) (hn : ∀ x, p ≠ .name x) (env : List String) : p.cl env = p.kids.all fun q => q.2.cl (envK p.hd p.xs q.1 env) := by
  cases p with
  | name x => exact absurd rfl (hn x)
  | off p => simp [Pg.cl, Pg.kids, envK, Pg.hd, Pg.xs]
  | one h xs p =>
    have hl : h ≠ "let" := by
      rcases hs.1 with ⟨m, _⟩ | ⟨rfl, _⟩ | ⟨rfl, _⟩
      · exact (one_sh m).2.2.2.2.2
      · decide
      · decide
    simp [Pg.cl, Pg.kids, envK, Pg.hd, Pg.xs, hl]
  | two h xs p q =>
    rcases hs.1 with ⟨m, rfl⟩ | ⟨rfl, x, rfl, _⟩
    · simp [Pg.cl, Pg.kids, envK, Pg.hd, Pg.xs]
    · simp [Pg.cl, Pg.kids, envK, Pg.hd, Pg.xs]
  | thr h xs p q r =>
    obtain ⟨rfl, rfl, _⟩ := hs
    simp [Pg.cl, Pg.kids, envK, Pg.hd, Pg.xs, Bool.and_assoc]
  | _ => simp [Pg.cl, Pg.kids]
theorem d_parts (p : Pg) (hs : p.sk) : ∃ its, p.d = .tup (.str p.hd :: its) ∧ its.length ≤ 5 ∧ ((∀ x, p ≠ .name x) → strsOf its = p.xs) := by
  cases p with
  | num i => exact ⟨_, rfl, by simp, fun _ => rfl⟩
  | truth i => exact ⟨_, rfl, by simp, fun _ => rfl⟩
  | name x => exact ⟨_, rfl, by simp, fun h => absurd rfl (h x)⟩
  | nil => exact ⟨_, rfl, by simp, fun _ => rfl⟩
  | off p => exact ⟨_, rfl, by simp, fun _ => by have := strs_pg [p] []; simpa [Pg.xs] using this⟩
  | one h xs p => have := sk_head_one hs; exact ⟨_, rfl, by simp; omega, fun _ => strs_pg [p] xs⟩
  | two h xs p q => have := sk_head_two hs; exact ⟨_, rfl, by simp; omega, fun _ => strs_pg [p, q] xs⟩
  | thr h xs p q r => exact ⟨_, rfl, by rw [hs.2.1]; simp, fun _ => strs_pg [p, q, r] xs⟩
theorem hd_name {p : Pg} (hs : p.sk) (h : p.hd = "name") : ∃ x, p = .name x := by
  cases p with
  | name x => exact ⟨x, rfl⟩
  | one w xs p =>
    rcases hs.1 with ⟨m, _⟩ | ⟨rfl, _⟩ | ⟨rfl, _⟩
    · exact absurd h (one_sh m).2.1
    · simp [Pg.hd] at h
    · simp [Pg.hd] at h
  | two w xs p q =>
    rcases hs.1 with ⟨m, _⟩ | ⟨rfl, _⟩
    · exact absurd h (two_sh m).2.1
    · simp [Pg.hd] at h
  | thr w xs p q r => rw [hs.1] at h; simp [Pg.hd, hs.1] at h
  | _ => simp [Pg.hd] at h
theorem kids_h {p : Pg} : ∀ q ∈ p.kids, q.2.h < p.h := by
  cases p with
  | off p => intro q hq; simp [Pg.kids] at hq; subst hq; simp [Pg.h]
  | one _ xs p => intro q hq; simp [Pg.kids] at hq; subst hq; simp [Pg.h]
  | two _ xs p q =>
    intro z hz; simp [Pg.kids] at hz
    rcases hz with rfl | rfl <;> simp [Pg.h] <;> omega
  | thr _ xs p q r =>
    intro z hz; simp [Pg.kids] at hz
    rcases hz with rfl | rfl | rfl <;> simp [Pg.h] <;> omega
  | _ => intro q hq; simp [Pg.kids] at hq
theorem kids_nb {p : Pg} (h : p.nb) : ∀ q ∈ p.kids, q.2.nb := by
  cases p with
  | off p => intro q hq; simp [Pg.kids] at hq; subst hq; exact h
  | one _ xs p => intro q hq; simp [Pg.kids] at hq; subst hq; exact h
  | two _ xs p q =>
    intro z hz; simp [Pg.kids] at hz
    rcases hz with rfl | rfl
    · exact h.1
    · exact h.2
  | thr _ xs p q r =>
    intro z hz; simp [Pg.kids] at hz
    rcases hz with rfl | rfl | rfl
    · exact h.1
    · exact h.2.1
    · exact h.2.2
  | _ => intro q hq; simp [Pg.kids] at hq
theorem xs_le {p : Pg} (hs : p.sk) : p.xs.length ≤ 2 := by
  cases p with
  | one h xs p => exact (sk_head_one hs).2
  | two h xs p q => exact (sk_head_two hs).2
  | thr h xs p q r => simp [Pg.xs, hs.2.1]
  | _ => simp [Pg.xs]
theorem kids_sz {p : Pg} : ∀ q ∈ p.kids, q.2.sz + 1 ≤ p.sz := by
  cases p with
  | off p => intro q hq; simp [Pg.kids] at hq; subst hq; simp [Pg.sz]
  | one _ xs p => intro q hq; simp [Pg.kids] at hq; subst hq; simp [Pg.sz]
  | two _ xs p q =>
    intro z hz; simp [Pg.kids] at hz
    rcases hz with rfl | rfl <;> simp [Pg.sz]
  | thr _ xs p q r =>
    intro z hz; simp [Pg.kids] at hz
    rcases hz with rfl | rfl | rfl <;> simp [Pg.sz] <;> omega
  | _ => intro q hq; simp [Pg.kids] at hq
end Prog

namespace Prog
open Ir
theorem eq_nil_tup {xs : List D} (h : D.depAll xs ≤ 63) : D.cmp .eq (.tup xs) (.tup []) = some xs.isEmpty := by
  have h1 : fine (.tup xs) = true := by simp [fine, D.dep]; omega
  have h2 : fine (.tup []) = true := by simp [fine, D.dep, D.depAll]
  simp only [D.cmp, h1, h2]
  cases xs <;> simp [D.eqv, D.eqvAll]
theorem ix_0 (h : D) (ps : List D) (s : Store) : indexV s (.d (.tup (h :: ps))) (.d (.int 0)) = some h := atI_get (i := 0) rfl
theorem ix_s {h : D} {ps : List D} {k : Nat} {x : D} (e : ps[k]? = some x) (s : Store) : indexV s (.d (.tup (h :: ps))) (.d (.int ((k : Int) + 1))) = some x := by
  have := atI_get (xs := h :: ps) (i := k + 1) (x := x) (by simpa using e)
  simpa [indexV, D.index] using this
theorem str_ix {sh : String} {k : Nat} {c : Char} (hl : sh.length ≤ 1000) (e : sh.toList[k]? = some c) (s : Store) : indexV s (.d (.str sh)) (.d (.int (k : Int))) = some (sgn c) := by
  have hL : sh.length ≤ LIM := by rw [LIM_eq]; omega
  obtain ⟨h1, h2⟩ := List.getElem?_eq_some_iff.mp e
  simp only [indexV, D.index, hL, if_true]
  simp [atI, ixN, h1, h2]
theorem rng0V {n : Nat} (h : n ≤ 1000) (s : Store) : bltV .range [.d (.int (n : Int))] s = .ok (.d (.lst (rangeL 0 n))) s := by
  have := bRange_nat (n := n) (by rw [LIM_eq]; omega)
  simp [bltV, bltD, derefs, deref, D.blt, this]
/-- the slots of the law's formed -/
def lE (h : String) (ps : List D) (env : List String) (tl : Env) : Env := [some (.d (.tup (.str h :: ps))), some (.d (.lst (env.map .str)))] ++ tl
set_option maxHeartbeats 4000000 in
theorem lf_head {n : Nat} {st : Store} {h sh : String} {ps : List D} {env : List String} (e : shp h = some sh) (hsm : ∀ p ∈ ps, sm p = true) (hd : D.depAll ps ≤ 63) :
    execs (callN T (n + 3)) (f_law_formed.body.take 4) (lE h ps env [none, none, none, none, none]) st = .ok (if decide (ps.length = sh.length) && ((ps.zip sh.toList).all fun q => lfitsD q.1 q.2) then .nx (lE h ps env [some (.d (.str sh)), none, none, none, none]) else .ret (.d (.bool false))) st := by
  have hsl := shp_len e
  have hL : sh.length ≤ LIM := by simp only [LIM_eq]; omega
  have e0 := eq_nil_tup (xs := .str h :: ps) (by simp only [D.depAll, D.dep]; omega)
  have es := fun s => shape_ok (n := n + 2) (st := s) h
  rw [e] at es
  have i0 := fun s => ix_0 (.str h) ps s
  have hlen : ∀ s, bltV .len [.d (.tup (.str h :: ps))] s = .ok (.d (.int ((ps.length : Int) + 1))) s := fun s => by
    have : bltV .len [.d (.tup (.str h :: ps))] s = .ok (.d (.int ((D.str h :: ps).length : Int))) s := rfl
    rw [this]; simp
  have hlen2 : ∀ s, bltV .len [.d (.str sh)] s = .ok (.d (.int (sh.length : Int))) s := fun s => by simp [bltV, lenDic, bltD, derefs, deref, D.blt, D.bLen, hL]
  have hrg := rng0V (n := sh.length) (by omega)
  have hadd : D.bin .add (.int (sh.length : Int)) (.int 1) = some (.int ((sh.length : Int) + 1)) := rfl
  by_cases c : ps.length = sh.length
  · have ci : (ps.length : Int) + 1 = (sh.length : Int) + 1 := by omega
    have hzl : (ps.zip sh.toList).length = sh.length := by rw [List.length_zip, String.length_toList]; omega
    have e1 : compL (compStep (eval (callN T (n + 3)) f_law_formed_c0) (conds (callN T (n + 3)) []) (.name 5) (lE h ps env [some (.d (.str sh)), none, none, none, none])) (rangeL 0 sh.length) st = .ok ((ps.zip sh.toList).map fun q => .bool (lfitsD q.1 q.2)) st := by
      have er : rangeL 0 sh.length = ((List.range (ps.zip sh.toList).length).zip (ps.zip sh.toList)).map fun q => D.int (q.1 : Int) := by
        rw [range_nat, hzl, show (fun q : Nat × D × Char => D.int (q.1 : Int)) = (fun i : Nat => D.int (i : Nat)) ∘ Prod.fst from rfl, ← List.map_map, List.map_fst_zip (by rw [hzl]; simp)]
      have er2 : ((ps.zip sh.toList).map fun q => D.bool (lfitsD q.1 q.2)) = ((List.range (ps.zip sh.toList).length).zip (ps.zip sh.toList)).filterMap fun q => some (D.bool (lfitsD q.2.1 q.2.2)) := by
        rw [List.filterMap_eq_map', show (fun q : Nat × D × Char => D.bool (lfitsD q.2.1 q.2.2)) = (fun q : D × Char => D.bool (lfitsD q.1 q.2)) ∘ Prod.snd from rfl, ← List.map_map, List.map_snd_zip (by simp)]
      rw [er, er2, comp_map]
      intro q hq
      have hq2 := zip_range hq
      obtain ⟨h1, h2⟩ := List.getElem?_zip_eq_some.mp hq2
      have j1 := fun s => ix_s (h := .str h) h1 s
      have j2 := fun s => str_ix (sh := sh) (by omega) h2 s
      have j3 := fun s => lfits_ok (n := n) (st := s) q.2.1 q.2.2 (hsm _ (List.mem_of_getElem? h1))
      have ja : D.bin .add (.int (q.1 : Int)) (.int 1) = some (.int ((q.1 : Int) + 1)) := rfl
      simp [compStep, Tg.put, lE, deref, ja, j1, j2, j3, asD]
    have e3 := all_map (fun q : D × Char => lfitsD q.1 q.2) (ps.zip sh.toList)
    have e3V : ∀ s, bltV .all [.d (.lst ((ps.zip sh.toList).map fun q => D.bool (lfitsD q.1 q.2)))] s = .ok (.d (.bool ((ps.zip sh.toList).all fun q => lfitsD q.1 q.2))) s := fun s => by simp [bltV, bltD, derefs, deref, D.blt, e3]
    rw [show decide (ps.length = sh.length) = true from decide_eq_true c]
    generalize ((ps.zip sh.toList).map fun q => D.bool (lfitsD q.1 q.2)) = bl at e1 e3V
    generalize ((ps.zip sh.toList).all fun q => lfitsD q.1 q.2) = bb at e3V
    simp [lE] at e1
    cases bb <;> simp [f_law_formed, lE, deref, D.tyOk, asB, cmpV, asDs, e0, i0, es, dO, Tg.putV, isNon, hlen, hlen2, hadd, ci_ne, ci, hrg, asD, D.seq, Tg.slots, wipe, e1, e3V]
  · have ci : ¬ ((ps.length : Int) + 1 = (sh.length : Int) + 1) := by omega
    simp [f_law_formed, lE, deref, D.tyOk, asB, cmpV, asDs, e0, i0, es, dO, Tg.putV, isNon, hlen, hlen2, hadd, ci_ne, ci, c]
end Prog

namespace Prog
open Ir
theorem lfits_x {x : D} (h : lfitsD x 'x' = true) : ∃ s, x = .str s := by
  cases x <;> first | exact ⟨_, rfl⟩ | (simp [lfitsD, isNm] at h)
theorem lfits_p {x : D} (h : lfitsD x 'p' = true) : ∃ ys, x = .tup ys := by
  cases x <;> first | exact ⟨_, rfl⟩ | (simp [lfitsD, isTup] at h)
def offIn : D → Bool
  | .tup (.str z :: _) => decide (z = "off")
  | _ => false
theorem off1 {ys : List D} (h : D.depAll ys ≤ 62) : D.cmp .eq (.tup (ys.take 1)) (.tup [.str "off"]) = some (offIn (.tup ys)) := by
  have h1 : fine (.tup (ys.take 1)) = true := by
    have : D.depAll (ys.take 1) ≤ 62 := depAll_le.mpr fun x hx => depAll_le.mp h x (List.mem_of_mem_take hx)
    simp [fine, D.dep]; omega
  have h2 : fine (.tup [.str "off"]) = true := by simp [fine, D.dep, D.depAll]
  simp only [D.cmp, h1, h2]
  cases ys with
  | nil => simp [D.eqv, D.eqvAll, offIn]
  | cons y ys => cases y <;> simp [D.eqv, D.eqvAll, offIn]
set_option maxHeartbeats 4000000 in
theorem lf_mid {C : Calls} {st : Store} {h sh : String} {ps : List D} {env : List String} (e : shp h = some sh) (hl : ps.length = sh.length) (hf : ((ps.zip sh.toList).all fun q => lfitsD q.1 q.2) = true) (hd : D.depAll ps ≤ 62) :
    execs C ((f_law_formed.body.drop 4).take 2) (lE h ps env [some (.d (.str sh)), none, none, none, none]) st = .ok (if h = "name" then .ret (.d (.bool (hereOk h ps env))) else if hereOk h ps env then .nx (lE h ps env [some (.d (.str sh)), none, none, none, none]) else .ret (.d (.bool false))) st := by
  have i0 := fun s => ix_0 (.str h) ps s
  by_cases c1 : h = "name"
  · subst c1
    have hs : sh = "x" := by simpa [shp, tbl, List.lookup] using e.symm
    subst hs
    match ps, hl, hf with
    | [a], _, hf =>
      simp at hf
      obtain ⟨x, rfl⟩ := lfits_x hf
      have hm := mem_strs x env
      simp [f_law_formed, lE, cmpV, deref, cs_eq, asB, indexV, D.index, atI, ixN, inB, hm, hereOk]
  · by_cases c2 : h = "off"
    · subst c2
      have hs : sh = "p" := by simpa [shp, tbl, List.lookup] using e.symm
      subst hs
      match ps, hl, hf with
      | [a], _, hf =>
        simp at hf
        obtain ⟨ys, rfl⟩ := lfits_p hf
        have hy : D.depAll ys ≤ 62 := by simp only [D.depAll, D.dep] at hd; omega
        have hc := off1 hy
        have hsl : D.slice (.tup ys) none (some 1) = some (.tup (ys.take 1)) := by simp only [D.slice]; rw [cut_head _ _ (by decide)]; rfl
        have i1 : ∀ s, indexV s (.d (.tup [.str "off", .tup ys])) (.d (.int 1)) = some (.tup ys) := fun s => by simp [indexV, D.index, atI, ixN]
        have hh : hereOk "off" [.tup ys] env = !offIn (.tup ys) := by
          cases ys with
          | nil => simp [hereOk, offIn]
          | cons y ys => cases y <;> simp [hereOk, offIn]
        rw [hh]
        cases ho : offIn (.tup ys) <;> rw [ho] at hc <;> simp [f_law_formed, lE, cmpV, deref, cs_eq, asB, i0, i1, asI, hsl, asDs, hc]
    · by_cases c3 : h = "rec"
      · subst c3
        have hs : sh = "xxp" := by simpa [shp, tbl, List.lookup] using e.symm
        subst hs
        match ps, hl, hf with
        | [a, b, c], _, hf =>
          simp at hf
          obtain ⟨x, rfl⟩ := lfits_x hf.1
          obtain ⟨y, rfl⟩ := lfits_x hf.2.1
          have i1 : ∀ s, indexV s (.d (.tup [.str "rec", .str x, .str y, c])) (.d (.int 1)) = some (.str x) := fun s => by simp [indexV, D.index, atI, ixN]
          have i2 : ∀ s, indexV s (.d (.tup [.str "rec", .str x, .str y, c])) (.d (.int 2)) = some (.str y) := fun s => by simp [indexV, D.index, atI, ixN]
          by_cases c : x = y
          · subst c; simp [f_law_formed, lE, cmpV, deref, cs_eq, asB, i0, i1, i2, hereOk]
          · simp [f_law_formed, lE, cmpV, deref, cs_eq, asB, i0, i1, i2, hereOk, c]
      · simp [f_law_formed, lE, cmpV, deref, cs_eq, asB, i0, hereOk, c1, c2, c3]
/-- the names at the part of a number, as the law has them -/
def lbnd (h : String) (k : Nat) (ps : List D) (env : List String) : List String := if h = "let" ∧ k = 2 then env else env ++ strsOf ps
theorem rng1V {n : Nat} (h : n ≤ 1000) (s : Store) : bltV .range [.d (.int 1), .d (.int ((n : Int) + 1))] s = .ok (.d (.lst (rangeL 1 n))) s := by
  have hL : (LIM : Int) = 16777216 := by rw [LIM_eq]; rfl
  have : D.bRange [.int 1, .int ((n : Int) + 1)] = some (.lst (rangeL 1 n)) := by
    simp only [D.bRange]
    rw [if_pos (by omega), show ((n : Int) + 1 - 1).toNat = n by omega]
  simp [bltV, bltD, derefs, deref, D.blt, this]
theorem rng1_pairs (its : List D) : rangeL 1 its.length = ((List.range its.length).zip its).map fun q => D.int ((q.1 + 1 : Nat) : Int) := by
  rw [show (fun q : Nat × D => D.int ((q.1 + 1 : Nat) : Int)) = (fun i : Nat => D.int ((i + 1 : Nat) : Int)) ∘ Prod.fst from rfl, ← List.map_map, List.map_fst_zip (by simp)]
  simp only [rangeL]
  apply List.map_congr_left
  intro i _
  congr 1
  omega
theorem tps_tl (h : D) (hh : isTup h = false) (its : List D) : tps (h :: its) = (((List.range its.length).zip its).filter fun q => isTup q.2).map fun q => (q.1 + 1, q.2) := by
  unfold tps
  rw [List.length_cons, List.range_succ_eq_map, List.zip_cons_cons, List.filter_cons]
  simp only [hh]
  rw [List.zip_map_left, List.filter_map]
  rfl
set_option maxHeartbeats 4000000 in
theorem lf_tail {n m : Nat} {st : Store} {h : String} {ps : List D} {env : List String} {sv : Option Val} (hsm : ∀ p ∈ ps, sm p = true) (hl : env.length + ps.length ≤ 2000) (hpl : ps.length ≤ 900)
    (ih : ∀ q ∈ tps (.str h :: ps), ∀ e : List String, e.length ≤ env.length + ps.length → callN T n "_law_formed" [.d q.2, .d (.lst (e.map .str))] st = .ok (.d (.bool (fm m q.2 e))) st) :
    execs (callN T n) (f_law_formed.body.drop 6) (lE h ps env [sv, none, none, none, none]) st = .ok (.ret (.d (.bool ((tps (.str h :: ps)).all fun q => fm m q.2 (lbnd h q.1 ps env))))) st := by
  have hcut : D.slice (.tup (.str h :: ps)) (some 1) none = some (.tup ps) := by simp only [D.slice]; rw [cut_tail _ _ (by decide)]; rfl
  have e1 := strs_comp (lE h ps env [sv, none, none, none, none]) 6 (by simp [lE]) (callN T n) st ps hsm
  have hsl : (strsOf ps).length ≤ ps.length := List.length_filterMap_le _ _
  have hcat : D.bin .add (.lst (env.map .str)) (.lst ((strsOf ps).map .str)) = some (.lst ((env ++ strsOf ps).map .str)) := by
    simp only [D.bin]; rw [if_pos (by simp [LIM_eq]; omega)]; simp
  have hlen : ∀ s, bltV .len [.d (.tup (.str h :: ps))] s = .ok (.d (.int ((ps.length : Int) + 1))) s := fun s => by
    have : bltV .len [.d (.tup (.str h :: ps))] s = .ok (.d (.int ((D.str h :: ps).length : Int))) s := rfl
    rw [this]; simp
  have hrg := rng1V (n := ps.length) (by omega)
  have e2 : compL (compStep (eval (callN T n) f_law_formed_c2) (conds (callN T n) f_law_formed_k1) (.name 5) (lE h ps env [sv, some (.d (.lst ((env ++ strsOf ps).map .str))), none, none, none])) (rangeL 1 ps.length) st = .ok ((tps (.str h :: ps)).map fun q => .int (q.1 : Int)) st := by
    rw [rng1_pairs, comp_map _ (fun q : Nat × D => if isTup q.2 then some (D.int ((q.1 + 1 : Nat) : Int)) else none), filterMap_if (fun q : Nat × D => isTup q.2)]
    · rw [tps_tl (.str h) rfl ps, List.map_map]
      rfl
    · intro q hq
      have hg := fun s => ix_s (h := .str h) (zip_range hq) s
      simp only [Int.natCast_add, Int.natCast_one]
      simp [compStep, Tg.put, lE, hg, deref, isTup_ty, asB]
      cases isTup q.2 <;> simp [asD]
  obtain ⟨inn, hinn⟩ : ∃ inn, inn = ((tps (.str h :: ps)).map fun q => D.int (q.1 : Int)) := ⟨_, rfl⟩
  have e3 : compL (compStep (eval (callN T n) f_law_formed_c3) (conds (callN T n) []) (.name 5) (lE h ps env [sv, some (.d (.lst ((env ++ strsOf ps).map .str))), some (.d (.lst inn)), none, none])) inn st = .ok ((tps (.str h :: ps)).map fun q => .bool (fm m q.2 (lbnd h q.1 ps env))) st := by
    conv => lhs; rw [hinn]
    rw [comp_map _ (fun q => some (.bool (fm m q.2 (lbnd h q.1 ps env))))]
    · simp
    · intro q hq
      obtain ⟨g1, g2⟩ := tps_get hq
      have g3 : ∀ s, indexV s (.d (.tup (.str h :: ps))) (.d (.int (q.1 : Int))) = some q.2 := fun s => atI_get g1
      have i0 := fun s => ix_0 (.str h) ps s
      have c1 := ih q hq env (by omega)
      have c2 := ih q hq (env ++ strsOf ps) (by simp; omega)
      generalize (env ++ strsOf ps).map D.str = EX at *
      unfold lbnd
      by_cases k1 : h = "let"
      · subst k1
        by_cases k2 : (q.1 : Int) = 2
        · have k2' : q.1 = 2 := by omega
          rw [show (if "let" = "let" ∧ q.1 = 2 then env else env ++ strsOf ps) = env from if_pos ⟨rfl, k2'⟩]
          rw [k2] at g3
          simp [compStep, Tg.put, lE, i0, g3, cmpV, deref, cs_eq, ci_eq, k2, asB, c1, asD]
        · rw [show (if "let" = "let" ∧ q.1 = 2 then env else env ++ strsOf ps) = env ++ strsOf ps from if_neg (by omega)]
          simp [compStep, Tg.put, lE, i0, g3, cmpV, deref, cs_eq, ci_eq, k2, asB, c2, asD]
      · rw [show (if h = "let" ∧ q.1 = 2 then env else env ++ strsOf ps) = env ++ strsOf ps from if_neg (by simp [k1])]
        simp [compStep, Tg.put, lE, i0, g3, cmpV, deref, cs_eq, ci_eq, k1, asB, c2, asD]
  have e4 := all_map (fun q : Nat × D => fm m q.2 (lbnd h q.1 ps env)) (tps (.str h :: ps))
  have e4V : ∀ s, bltV .all [.d (.lst ((tps (.str h :: ps)).map fun q => D.bool (fm m q.2 (lbnd h q.1 ps env))))] s = .ok (.d (.bool ((tps (.str h :: ps)).all fun q => fm m q.2 (lbnd h q.1 ps env)))) s := fun s => by simp [bltV, bltD, derefs, deref, D.blt, e4]
  rw [← hinn] at e2
  generalize ((tps (.str h :: ps)).map fun q => D.bool (fm m q.2 (lbnd h q.1 ps env))) = bl at e3 e4V
  generalize ((tps (.str h :: ps)).all fun q => fm m q.2 (lbnd h q.1 ps env)) = bb at e4V
  generalize (env ++ strsOf ps).map D.str = EX at *
  simp [lE] at e1 e2 e3
  simp [f_law_formed, lE, asI, deref, hcut, asD, D.seq, Tg.slots, wipe, e1, hcat, Tg.putV, hlen, hrg, e2, e3, e4V]
end Prog

namespace Prog
open Ir
theorem fm_nil (m : Nat) (env : List String) : fm m (.tup []) env = false := by cases m <;> rfl
theorem lfits_n {x : D} (h : lfitsD x 'n' = true) : ∃ i, x = .int i := by
  cases x <;> first | exact ⟨_, rfl⟩ | (simp [lfitsD, D.tyOk] at h)
theorem lfits_b {x : D} (h : lfitsD x 'b' = true) : ∃ i, x = .bool i := by
  cases x <;> first | exact ⟨_, rfl⟩ | (simp [lfitsD, D.tyOk] at h)
theorem no_str {ps : List D} {cs : List Char} (hl : ps.length = cs.length) (hf : ((ps.zip cs).all fun q => lfitsD q.1 q.2) = true) (hx : ∀ c ∈ cs, c ≠ 'x') : strsOf ps = [] := by
  unfold strsOf
  rw [List.filterMap_eq_nil_iff]
  intro p hp
  obtain ⟨i, hi⟩ := List.getElem?_of_mem hp
  have hil := (List.getElem?_eq_some_iff.mp hi).1
  obtain ⟨c, hc⟩ : ∃ c, cs[i]? = some c := ⟨cs[i]'(by omega), List.getElem?_eq_getElem (by omega)⟩
  have hm : (p, c) ∈ ps.zip cs := List.mem_of_getElem? (i := i) (List.getElem?_zip_eq_some.mpr ⟨hi, hc⟩)
  have h1 := List.all_eq_true.mp hf _ hm
  have h2 := hx c (List.mem_of_getElem? hc)
  cases p with
  | str s => simp [lfitsD, D.tyOk, h2, isTup] at h1
  | _ => rfl
theorem lbnd_eq {h sh : String} {ps : List D} {env : List String} (e : shp h = some sh) (hl : ps.length = sh.length) (hf : ((ps.zip sh.toList).all fun q => lfitsD q.1 q.2) = true) {q : Nat × D} (hq : q ∈ tps (.str h :: ps)) : lbnd h q.1 ps env = bndAt h q.1 ps env := by
  obtain ⟨g1, g2⟩ := tps_get hq
  by_cases c1 : h = "fn"
  · subst c1; simp [lbnd, bndAt]
  · by_cases c2 : h = "rec"
    · subst c2; simp [lbnd, bndAt]
    · by_cases c3 : h = "let"
      · subst c3
        have hs : sh = "xpp" := by simpa [shp, tbl, List.lookup] using e.symm
        subst hs
        match ps, hl, hf with
        | [a, b, c], _, hf =>
          simp at hf
          obtain ⟨x, rfl⟩ := lfits_x hf.1
          obtain ⟨k, y⟩ := q
          have hk : k < 4 := (List.getElem?_eq_some_iff.mp g1).1
          have : k = 0 ∨ k = 1 ∨ k = 2 ∨ k = 3 := by omega
          rcases this with rfl | rfl | rfl | rfl
          · simp at g1; subst g1; simp [isTup] at g2
          · simp at g1; subst g1; simp [isTup] at g2
          · simp [lbnd, bndAt]
          · simp [lbnd, bndAt]
      · have hb : bndAt h q.1 ps env = env := by simp [bndAt, c1, c2, c3]
        have hlb : lbnd h q.1 ps env = env ++ strsOf ps := by simp [lbnd, c3]
        rw [hb, hlb]
        by_cases c4 : h = "name"
        · subst c4
          have hs : sh = "x" := by simpa [shp, tbl, List.lookup] using e.symm
          subst hs
          match ps, hl, hf with
          | [a], _, hf =>
            simp at hf
            obtain ⟨x, rfl⟩ := lfits_x hf
            simp [tps, List.range, List.range.loop, isTup] at hq
        · have hm := shp_mem e
          have : ∀ c ∈ sh.toList, c ≠ 'x' := by
            simp only [tbl, List.mem_cons, List.not_mem_nil, or_false, Prod.mk.injEq] at hm
            rcases hm with ⟨_, rfl⟩ | ⟨_, rfl⟩ | ⟨hh, _⟩ | ⟨hh, _⟩ | ⟨hh, _⟩ | ⟨_, rfl⟩ | ⟨hh, _⟩ | ⟨_, rfl⟩ | ⟨_, rfl⟩ | ⟨_, rfl⟩ | ⟨_, rfl⟩ | ⟨_, rfl⟩ | ⟨_, rfl⟩ | ⟨_, rfl⟩ | ⟨_, rfl⟩ | ⟨_, rfl⟩ | ⟨_, rfl⟩ | ⟨_, rfl⟩ | ⟨_, rfl⟩ <;> first | decide | exact absurd hh c4 | exact absurd hh c1 | exact absurd hh c2 | exact absurd hh c3
          rw [no_str (by rw [hl, String.length_toList]) hf this, List.append_nil]
/-- fm, in the law's words -/
theorem fm_law {m : Nat} {h sh : String} {ps : List D} {env : List String} (e : shp h = some sh) (hl : ps.length = sh.length) (hf : ((ps.zip sh.toList).all fun q => lfitsD q.1 q.2) = true) :
    fm (m + 1) (.tup (.str h :: ps)) env = (hereOk h ps env && (tps (.str h :: ps)).all fun q => fm m q.2 (lbnd h q.1 ps env)) := by
  have hb : ∀ q ∈ tps (.str h :: ps), lbnd h q.1 ps env = bndAt h q.1 ps env := fun q hq => lbnd_eq e hl hf hq
  have hk : ((tps (.str h :: ps)).all fun q => fm m q.2 (lbnd h q.1 ps env)) = (tps (.str h :: ps)).all fun q => fm m q.2 (bndAt h q.1 ps env) := by
    rw [Bool.eq_iff_iff, List.all_eq_true, List.all_eq_true]
    exact ⟨fun z q hq => by rw [← hb q hq]; exact z q hq, fun z q hq => by rw [hb q hq]; exact z q hq⟩
  rw [hk]
  by_cases hn : ∃ q ∈ tps (.str h :: ps), q.2 = .tup []
  · obtain ⟨q, hq, e2⟩ := hn
    have f1 : ((tps (.str h :: ps)).all fun q => fm m q.2 (bndAt h q.1 ps env)) = false := by
      rw [List.all_eq_false]
      exact ⟨q, hq, by rw [e2, fm_nil]; simp⟩
    simp only [fm, e, f1, Bool.and_false]
  · have hfit : ((ps.zip sh.toList).all fun q => fitsD q.1 q.2) = true := by
      rw [List.all_eq_true] at hf ⊢
      intro q hq
      have h1 := hf q hq
      unfold lfitsD at h1
      unfold fitsD
      by_cases c1 : q.2 = 'n'
      · simpa [c1] using h1
      · by_cases c2 : q.2 = 'b'
        · simpa [c1, c2] using h1
        · by_cases c3 : q.2 = 'x'
          · simpa [c1, c2, c3] using h1
          · simp only [c1, c2, c3, if_false] at h1 ⊢
            obtain ⟨x, c⟩ := q
            cases x with
            | tup ys =>
              cases ys with
              | nil =>
                exfalso
                apply hn
                have hm : D.tup [] ∈ ps := (List.of_mem_zip hq).1
                obtain ⟨i, hi⟩ := List.getElem?_of_mem hm
                refine ⟨(i + 1, .tup []), ?_, rfl⟩
                rw [tps_tl (.str h) rfl]
                refine List.mem_map.mpr ⟨(i, .tup []), List.mem_filter.mpr ⟨?_, rfl⟩, rfl⟩
                have hil := (List.getElem?_eq_some_iff.mp hi).1
                refine List.mem_of_getElem? (i := i) ?_
                rw [List.getElem?_zip_eq_some]
                exact ⟨by rw [List.getElem?_range hil], hi⟩
              | cons y ys => rfl
            | _ => simp [isTup] at h1
    simp only [fm, e, hl, hfit, decide_true, Bool.true_and]
set_option maxHeartbeats 8000000 in
theorem lformed_ok : ∀ (m : Nat) (d : D) (n : Nat) (env : List String) (st : Store), sm d = true → d.dep ≤ m → m ≤ 62 → env.length + 3 * m ≤ 1000 → m + 5 ≤ n → callN T n "_law_formed" [.d d, .d (.lst (env.map .str))] st = .ok (.d (.bool (fm (m + 1) d env))) st := by
  intro m
  induction m with
  | zero =>
    intro d n env st hs hd _ _ hn
    obtain ⟨n, rfl⟩ : ∃ n', n = n' + 1 := ⟨n - 1, by omega⟩
    cases d with
    | tup xs => simp [D.dep] at hd
    | _ => simp [callN_run T_f_law_formed, runFn, f_law_formed, deref, D.tyOk, asB, fm, take_all]
  | succ m ih =>
    intro d n env st hs hd hm he hn
    obtain ⟨n, rfl⟩ : ∃ n', n = n' + 4 := ⟨n - 4, by omega⟩
    cases d with
    | tup xs =>
      have hdx : D.depAll xs ≤ m := by simp only [D.dep] at hd; omega
      have e0 := eq_nil_tup (xs := xs) (by omega)
      cases xs with
      | nil =>
        simp at e0
        simp [callN_run T_f_law_formed, runFn, f_law_formed, deref, D.tyOk, asB, fm, take_all, cmpV, asDs, e0]
      | cons y ps =>
        simp at e0
        cases y with
        | str h =>
          simp only [sm, sms, Bool.and_eq_true] at hs
          have hsm := sms_mem hs.2
          have hdp : D.depAll ps ≤ m := by simp only [D.depAll, D.dep] at hdx; omega
          have i0 := fun s => ix_0 (.str h) ps s
          cases e : shp h with
          | none =>
            have es := fun s => shape_ok (n := n + 2) (st := s) h
            rw [e] at es
            simp [callN_run T_f_law_formed, runFn, f_law_formed, deref, D.tyOk, asB, fm, take_all, cmpV, asDs, e0, i0, es, dO, Tg.putV, isNon, e]
          | some sh =>
            have hb : f_law_formed.body = f_law_formed.body.take 4 ++ ((f_law_formed.body.drop 4).take 2 ++ f_law_formed.body.drop 6) := rfl
            have hsl := shp_len e
            have e1 := lf_head (n := n) (st := st) (env := env) e hsm (by omega)
            have hE : (([.d (.tup (.str h :: ps)), .d (.lst (env.map .str))] : List Val).map some ++ List.replicate (f_law_formed.many - f_law_formed.pars) none) = lE h ps env [none, none, none, none, none] := rfl
            rw [callN_run T_f_law_formed, runFn, if_pos ⟨rfl, by decide⟩, hE, hb, execs_app, e1]
            by_cases c1 : ps.length = sh.length
            · cases c2 : (ps.zip sh.toList).all fun q => lfitsD q.1 q.2 with
              | false =>
                have : fm (m + 1 + 1) (.tup (.str h :: ps)) env = false := by
                  have hf : ((ps.zip sh.toList).all fun q => fitsD q.1 q.2) = false := by
                    rw [List.all_eq_false] at c2 ⊢
                    obtain ⟨q, hq, hv⟩ := c2
                    refine ⟨q, hq, fun z => hv ?_⟩
                    unfold fitsD at z
                    unfold lfitsD
                    split at z
                    · rename_i c; simpa [c] using z
                    · rename_i c; split at z
                      · rename_i c'; simpa [c, c'] using z
                      · rename_i c'; split at z
                        · rename_i c''; simpa [c, c', c''] using z
                        · rename_i c''; simp only [c, c', c'', if_false]
                          split at z
                          · rename_i hx; rw [hx]; rfl
                          · cases z
                  simp [fm, e, hf]
                rw [this]
                simp [take_all]
              | true =>
                have e2 := lf_mid (C := callN T (n + 3)) (st := st) (env := env) e c1 c2 (by omega)
                have e3 := lf_tail (n := n + 3) (m := m + 1) (st := st) (h := h) (ps := ps) (env := env) (sv := some (.d (.str sh))) hsm (by omega) (by omega) fun q hq en hen => by
                  have g := tps_get hq
                  have hq1 : q.1 ≠ 0 := fun z => by rw [z] at g; simp at g; rw [← g.1] at g; simp [isTup] at g
                  have hq2 : q.2 ∈ ps := by
                    obtain ⟨k, hk⟩ : ∃ k, q.1 = k + 1 := ⟨q.1 - 1, by omega⟩
                    rw [hk] at g
                    exact List.mem_of_getElem? (by simpa using g.1)
                  exact ih q.2 (n + 3) en st (hsm _ hq2) (mem_fine hdp hq2) (by omega) (by omega) (by omega)
                rw [fm_law e c1 c2]
                simp only [c1, c2, decide_true, Bool.and_true, if_true, Res.bind_ok, execs_app, e2]
                by_cases c3 : h = "name"
                · have ht : ((tps (.str h :: ps)).all fun q => fm (m + 1) q.2 (lbnd h q.1 ps env)) = true := by
                    subst c3
                    have hs2 : sh = "x" := by simpa [shp, tbl, List.lookup] using e.symm
                    subst hs2
                    match ps, c1, c2 with
                    | [a], _, hf =>
                      simp at hf
                      obtain ⟨x, rfl⟩ := lfits_x hf
                      simp [tps, List.range, List.range.loop, isTup]
                  rw [ht]
                  simp [c3, take_all]
                · cases c4 : hereOk h ps env with
                  | false => simp [c3, take_all]
                  | true =>
                    simp only [c3, if_false, if_true, Res.bind_ok, e3]
                    simp [take_all]
            · simp [fm, e, c1, take_all]
        | _ =>
          simp [callN_run T_f_law_formed, runFn, f_law_formed, deref, D.tyOk, asB, fm, take_all, cmpV, asDs, e0, ix_0]
    | _ => simp [callN_run T_f_law_formed, runFn, f_law_formed, deref, D.tyOk, asB, fm, take_all]
end Prog

namespace Prog
open Ir
mutual
/-- trees of tuples of numbers, truths and texts: no tuple longer than w, no text longer than 100 signs -/
def okT (w : Nat) : D → Bool
  | .bool _ | .int _ => true
  | .str s => decide (s.length ≤ 100)
  | .tup xs => decide (xs.length ≤ w) && okTs w xs
  | _ => false
def okTs (w : Nat) : List D → Bool
  | [] => true
  | x :: xs => okT w x && okTs w xs
end
theorem okTs_iff {w : Nat} : ∀ xs : List D, okTs w xs = true ↔ ∀ x ∈ xs, okT w x = true
  | [] => by simp [okTs]
  | x :: xs => by simp [okTs, okTs_iff xs]
theorem okT_tup {w : Nat} {xs : List D} : okT w (.tup xs) = true ↔ xs.length ≤ w ∧ ∀ x ∈ xs, okT w x = true := by
  simp [okT, okTs_iff]
mutual
theorem okT_sm {w : Nat} : ∀ d : D, okT w d = true → sm d = true
  | .bool _, _ => rfl
  | .int _, _ => rfl
  | .str s, h => by simp only [okT, decide_eq_true_eq] at h; simp only [sm, decide_eq_true_eq]; omega
  | .tup xs, h => by
    simp only [okT, Bool.and_eq_true] at h
    simp only [sm]
    exact okTs_sm xs h.2
  | .non, h => by simp [okT] at h
  | .lst _, h => by simp [okT] at h
  | .ro _, h => by simp [okT] at h
theorem okTs_sm {w : Nat} : ∀ xs : List D, okTs w xs = true → sms xs = true
  | [], _ => rfl
  | x :: xs, h => by
    simp only [okTs, Bool.and_eq_true] at h
    simp only [sms, Bool.and_eq_true]
    exact ⟨okT_sm x h.1, okTs_sm xs h.2⟩
end
mutual
theorem okT_mono {w v : Nat} (hw : w ≤ v) : ∀ d : D, okT w d = true → okT v d = true
  | .bool _, _ => rfl
  | .int _, _ => rfl
  | .str s, h => h
  | .tup xs, h => by
    simp only [okT, Bool.and_eq_true, decide_eq_true_eq] at h ⊢
    exact ⟨by omega, okTs_mono hw xs h.2⟩
  | .non, h => by simp [okT] at h
  | .lst _, h => by simp [okT] at h
  | .ro _, h => by simp [okT] at h
theorem okTs_mono {w v : Nat} (hw : w ≤ v) : ∀ xs : List D, okTs w xs = true → okTs v xs = true
  | [], _ => rfl
  | x :: xs, h => by
    simp only [okTs, Bool.and_eq_true] at h ⊢
    exact ⟨okT_mono hw x h.1, okTs_mono hw xs h.2⟩
end
theorem okT_atom {w : Nat} {d : D} (h : okT w d = true) (ht : isTup d = false) : d.dep = 0 := by
  cases d <;> simp_all [okT, isTup, D.dep]
theorem isTup_iff {d : D} : isTup d = true ↔ ∃ xs, d = .tup xs := by
  cases d <;> simp [isTup]
/-! ### how many tuples, how deep -/
mutual
def cntT : D → Nat
  | .tup xs => cntTs xs + 1
  | _ => 0
def cntTs : List D → Nat
  | [] => 0
  | x :: xs => cntT x + cntTs xs
end
theorem cnt_atom {d : D} (ht : isTup d = false) : cntT d = 0 := by cases d <;> simp_all [cntT, isTup]
theorem cnt_sum : ∀ xs : List D, (((xs.filter isTup).map fun a => (cntT a : Int)).sum) = (cntTs xs : Nat)
  | [] => by simp [cntTs]
  | x :: xs => by
    have ih := cnt_sum xs
    cases h : isTup x with
    | true => rw [List.filter_cons_of_pos h]; simp only [List.map_cons, List.sum_cons, cntTs]; omega
    | false => rw [List.filter_cons_of_neg (by simp [h])]; simp only [cntTs, cnt_atom h]; omega
def mxd (l : List Int) : Int := match l with | [] => 0 | b :: r => r.foldl (fun m x => if x > m then x else m) b
theorem mxd_fold : ∀ (r : List Nat) (b : Nat), (r.map fun k : Nat => (k : Int)).foldl (fun m x => if x > m then x else m) (b : Int) = ((max b (r.foldr max 0) : Nat) : Int)
  | [], b => by simp
  | x :: r, b => by
    have e : (if (x : Int) > (b : Int) then (x : Int) else (b : Int)) = ((max b x : Nat) : Int) := by
      split <;> omega
    rw [List.map_cons, List.foldl_cons, e, mxd_fold r (max b x), List.foldr_cons]
    omega
theorem mxd_eq (l : List Nat) : mxd (l.map fun k : Nat => (k : Int)) = ((l.foldr max 0 : Nat) : Int) := by
  cases l with
  | nil => rfl
  | cons b r => simp only [mxd, List.map_cons]; rw [mxd_fold, List.foldr_cons]
theorem dep_fold {w : Nat} : ∀ xs : List D, (∀ x ∈ xs, okT w x = true) → ((xs.filter isTup).map D.dep).foldr max 0 = D.depAll xs
  | [], _ => rfl
  | x :: xs, h => by
    have ih := dep_fold xs fun y hy => h y (List.mem_cons_of_mem _ hy)
    cases hx : isTup x with
    | true => rw [List.filter_cons_of_pos hx, List.map_cons, List.foldr_cons, ih, D.depAll]
    | false =>
      rw [List.filter_cons_of_neg (by simp [hx]), ih, D.depAll, okT_atom (h x (by simp)) hx]
      omega
theorem ints_of (l : List Int) : D.ints (l.map .int) = some l := by
  induction l with
  | nil => rfl
  | cons i l ih => simp [D.ints, ih]
def szD (a : D) : D := .tup [.int (cntT a : Nat), .int (a.dep : Nat)]
mutual
theorem size_ok {w : Nat} {st : Store} : ∀ (d : D), isTup d = true → okT w d = true → ∀ n, d.dep ≤ n → callN T n "_law_size" [.d d] st = .ok (.d (szD d)) st
  | .tup xs, _, h, n, hn => by
    rw [okT_tup] at h
    simp only [D.dep] at hn
    obtain ⟨n, rfl⟩ : ∃ n', n = n' + 1 := ⟨n - 1, by omega⟩
    have hs := sizes_ok (st := st) xs h.2 n (by omega)
    have e1 : compL (compStep (eval (callN T n) f_law_size_c0) (conds (callN T n) f_law_size_k0) (.name 2) [some (.d (.tup xs)), none, none, none, none]) xs st = .ok ((xs.filter isTup).map szD) st := by
      rw [comp_pure (g := fun a => if isTup a then some (szD a) else none) xs, filterMap_if]
      intro a ha
      cases hx : isTup a with
      | true => have := hs a ha hx; simp [compStep, Tg.put, deref, isTup_ty, hx, asB, this, asD]
      | false => simp [compStep, Tg.put, deref, isTup_ty, hx, asB]
    have hst : ∀ xs, D.seq (.tup xs) = some xs := fun _ => rfl
    have hsq : ∀ xs, D.seq (.lst xs) = some xs := fun _ => rfl
    have e2 : ∀ x2 x3 x4, compL (compStep (eval (callN T n) f_law_size_c1) (conds (callN T n) []) (.tup [.name 3, .name 4]) [some (.d (.tup xs)), some (.d (.lst ((xs.filter isTup).map szD))), x2, x3, x4]) ((xs.filter isTup).map szD) st = .ok (((xs.filter isTup).map fun a => (cntT a : Int)).map .int) st := fun x2 x3 x4 => by
      rw [comp_map szD (fun a => some (.int (cntT a : Nat))), List.map_map, List.filterMap_eq_map']
      · rfl
      · intro a _
        simp [compStep, Tg.put, Tg.puts, szD, hst, asD]
    have e3 : ∀ x2 x3 x4, compL (compStep (eval (callN T n) f_law_size_c2) (conds (callN T n) []) (.tup [.name 3, .name 4]) [some (.d (.tup xs)), some (.d (.lst ((xs.filter isTup).map szD))), x2, x3, x4]) ((xs.filter isTup).map szD) st = .ok ((((xs.filter isTup).map D.dep).map fun k : Nat => (k : Int)).map .int) st := fun x2 x3 x4 => by
      rw [comp_map szD (fun a => some (.int (a.dep : Nat))), List.map_map, List.map_map, List.filterMap_eq_map']
      · rfl
      · intro a _
        simp [compStep, Tg.put, Tg.puts, szD, hst, asD]
    have b1 : ∀ s, bltV .sum [.d (.lst (((xs.filter isTup).map fun a => (cntT a : Int)).map .int))] s = .ok (.d (.int ((cntTs xs : Nat) : Int))) s := fun s => by
      have : D.bSum [.lst (((xs.filter isTup).map fun a => (cntT a : Int)).map .int)] = some (.int ((cntTs xs : Nat) : Int)) := by
        simp only [D.bSum]; rw [ints_of, Option.map_some, cnt_sum]
      simp only [bltV, bltD, derefs, deref, D.blt, this]
    have b2 : ∀ s, bltV .maxd [.d (.lst ((((xs.filter isTup).map D.dep).map fun k : Nat => (k : Int)).map .int)), .d (.int 0)] s = .ok (.d (.int ((D.depAll xs : Nat) : Int))) s := fun s => by
      have : D.bMaxd [.lst ((((xs.filter isTup).map D.dep).map fun k : Nat => (k : Int)).map .int), .int 0] = some (.int ((D.depAll xs : Nat) : Int)) := by
        have := mxd_eq ((xs.filter isTup).map D.dep)
        rw [dep_fold xs h.2] at this
        simp only [D.bMaxd]; rw [ints_of, Option.map_some, ← this]
        rfl
      simp only [bltV, bltD, derefs, deref, D.blt, this]
    have a1 : D.bin .add (.int 1) (.int ((cntTs xs : Nat) : Int)) = some (.int ((cntT (.tup xs) : Nat) : Int)) := by
      simp only [D.bin, cntT]; congr 2; omega
    have a2 : D.bin .add (.int 1) (.int ((D.depAll xs : Nat) : Int)) = some (.int (((D.tup xs).dep : Nat) : Int)) := by
      simp only [D.bin, D.dep]; congr 2; omega
    have hgoal : szD (.tup xs) = .tup [.int ((cntT (.tup xs) : Nat) : Int), .int (((D.tup xs).dep : Nat) : Int)] := rfl
    rw [hgoal, callN_run T_f_law_size]
    generalize ((cntT (.tup xs) : Nat) : Int) = CN at *
    generalize (((D.tup xs).dep : Nat) : Int) = DP at *
    generalize ((cntTs xs : Nat) : Int) = C1 at *
    generalize ((D.depAll xs : Nat) : Int) = D1 at *
    generalize (((xs.filter isTup).map fun a => (cntT a : Int)).map D.int) = L1 at *
    generalize ((((xs.filter isTup).map D.dep).map fun k : Nat => (k : Int)).map D.int) = L2 at *
    generalize (xs.filter isTup).map szD = L0 at *
    simp [runFn, f_law_size, asD, hst, hsq, Tg.slots, Tg.slotss, wipe, e1, Tg.putV, e2, e3, b1, b2, deref, a1, a2, asDs, take_all]
  | .bool _, ht, _, _, _ => by simp [isTup] at ht
  | .int _, ht, _, _, _ => by simp [isTup] at ht
  | .str _, ht, _, _, _ => by simp [isTup] at ht
  | .non, ht, _, _, _ => by simp [isTup] at ht
  | .lst _, ht, _, _, _ => by simp [isTup] at ht
  | .ro _, ht, _, _, _ => by simp [isTup] at ht
theorem sizes_ok {w : Nat} {st : Store} : ∀ (xs : List D), (∀ x ∈ xs, okT w x = true) → ∀ n, D.depAll xs ≤ n → ∀ x ∈ xs, isTup x = true → callN T n "_law_size" [.d x] st = .ok (.d (szD x)) st
  | [], _, _, _, x, hx, _ => by cases hx
  | y :: ys, h, n, hn, x, hx, ht => by
    simp only [D.depAll] at hn
    rcases List.mem_cons.mp hx with e | hx
    · rw [e] at ht ⊢; exact size_ok y ht (h y (by simp)) n (by omega)
    · exact sizes_ok ys (fun z hz => h z (List.mem_cons_of_mem _ hz)) n (by omega) x hx ht
end
/-! ### names put to another text -/
mutual
def renT (o n : String) : D → D
  | .str s => .str (if s = o then n else s)
  | .tup (x :: xs) => .tup (x :: renTs o n xs)
  | d => d
def renTs (o n : String) : List D → List D
  | [] => []
  | x :: xs => renT o n x :: renTs o n xs
end
theorem renTs_map (o n : String) : ∀ xs, renTs o n xs = xs.map (renT o n)
  | [] => rfl
  | x :: xs => by simp [renTs, renTs_map o n xs]
mutual
theorem ren_ok {w : Nat} {o n : String} (hn : n.length ≤ 100) : ∀ d, okT w d = true → okT w (renT o n d) = true ∧ (renT o n d).dep = d.dep ∧ isTup (renT o n d) = isTup d
  | .bool _, h => ⟨h, rfl, rfl⟩
  | .int _, h => ⟨h, rfl, rfl⟩
  | .str s, h => by
    refine ⟨?_, rfl, rfl⟩
    simp only [renT, okT, decide_eq_true_eq] at h ⊢
    split <;> assumption
  | .tup [], h => ⟨h, rfl, rfl⟩
  | .tup (x :: xs), h => by
    simp only [okT, okTs, List.length_cons, Bool.and_eq_true, decide_eq_true_eq] at h
    obtain ⟨h1, h2, h3⟩ := rens_ok hn xs h.2.2
    refine ⟨?_, ?_, rfl⟩
    · simp only [renT, okT, okTs, List.length_cons, Bool.and_eq_true, decide_eq_true_eq]
      exact ⟨by omega, h.2.1, h1⟩
    · simp only [renT, D.dep, D.depAll, h2]
  | .non, h => by simp [okT] at h
  | .lst _, h => by simp [okT] at h
  | .ro _, h => by simp [okT] at h
theorem rens_ok {w : Nat} {o n : String} (hn : n.length ≤ 100) : ∀ xs, okTs w xs = true → okTs w (renTs o n xs) = true ∧ D.depAll (renTs o n xs) = D.depAll xs ∧ (renTs o n xs).length = xs.length
  | [], _ => ⟨rfl, rfl, rfl⟩
  | x :: xs, h => by
    simp only [okTs, Bool.and_eq_true] at h
    obtain ⟨h1, h2, _⟩ := ren_ok hn x h.1
    obtain ⟨g1, g2, g3⟩ := rens_ok hn xs h.2
    simp only [renTs, okTs, D.depAll, List.length_cons, Bool.and_eq_true]
    exact ⟨⟨h1, g1⟩, by rw [h2, g2], by rw [g3]⟩
end
theorem eq_is (i : Int) (s : String) : D.cmp .eq (.int i) (.str s) = some false := by simp [D.cmp, fine, D.dep, D.eqv]
theorem eq_bs (i : Bool) (s : String) : D.cmp .eq (.bool i) (.str s) = some false := by simp [D.cmp, fine, D.dep, D.eqv]
mutual
theorem all_named_ok {w : Nat} {st : Store} {o nw : String} (hw : w ≤ 1000) : ∀ (d : D), okT w d = true → ∀ n, d.dep + 1 ≤ n → callN T n "_law_all_named" [.d d, .d (.str o), .d (.str nw)] st = .ok (.d (renT o nw d)) st
  | .bool b, _, n, hn => by
    obtain ⟨n, rfl⟩ : ∃ n', n = n' + 1 := ⟨n - 1, by omega⟩
    have h1 := eq_bs b o
    rw [callN_run T_f_law_all_named]
    simp [runFn, f_law_all_named, deref, D.tyOk, asB, cmpV, h1, renT, take_all]
  | .int i, _, n, hn => by
    obtain ⟨n, rfl⟩ : ∃ n', n = n' + 1 := ⟨n - 1, by omega⟩
    have h1 := eq_is i o
    rw [callN_run T_f_law_all_named]
    simp [runFn, f_law_all_named, deref, D.tyOk, asB, cmpV, h1, renT, take_all]
  | .str s, _, n, hn => by
    obtain ⟨n, rfl⟩ : ∃ n', n = n' + 1 := ⟨n - 1, by omega⟩
    rw [callN_run T_f_law_all_named]
    by_cases c : s = o <;> simp [runFn, f_law_all_named, deref, D.tyOk, asB, cmpV, cs_eq, c, renT, take_all]
  | .tup [], _, n, hn => by
    obtain ⟨n, rfl⟩ : ∃ n', n = n' + 1 := ⟨n - 1, by omega⟩
    rw [callN_run T_f_law_all_named]
    simp [runFn, f_law_all_named, deref, D.tyOk, asB, renT, take_all, asI, D.slice, cut, sIx, asD, D.seq, Tg.slots, wipe, compL, bltV, bltD, derefs, D.blt, D.bTuple, D.bin]
  | .tup (x :: xs), h, n, hn => by
    simp only [okT, okTs, List.length_cons, Bool.and_eq_true, decide_eq_true_eq] at h
    simp only [D.dep, D.depAll] at hn
    obtain ⟨n, rfl⟩ : ∃ n', n = n' + 1 := ⟨n - 1, by omega⟩
    have hs := all_nameds_ok (st := st) (o := o) (nw := nw) hw xs h.2.2 n (by omega)
    have e1 : ∀ x3, compL (compStep (eval (callN T n) f_law_all_named_c0) (conds (callN T n) []) (.name 3) [some (.d (.tup (x :: xs))), some (.d (.str o)), some (.d (.str nw)), x3]) xs st = .ok (renTs o nw xs) st := fun x3 => by
      rw [comp_pure (g := fun a => some (renT o nw a)) xs, renTs_map, List.filterMap_eq_map']
      intro a ha
      have := hs a ha
      simp [compStep, Tg.put, this, asD]
    have s1 : D.slice (.tup (x :: xs)) none (some 1) = some (.tup [x]) := by simp [D.slice, cut, sIx]
    have s2 : D.slice (.tup (x :: xs)) (some 1) none = some (.tup xs) := by simp [D.slice, cut, sIx]
    have hl : (renTs o nw xs).length = xs.length := by rw [renTs_map, List.length_map]
    have s3 : D.bin .add (.tup [x]) (.tup (renTs o nw xs)) = some (.tup (x :: renTs o nw xs)) := by
      simp only [D.bin]; rw [if_pos (by rw [hl, LIM_eq]; simp; omega)]; rfl
    have hst : ∀ xs, D.seq (.tup xs) = some xs := fun _ => rfl
    have htl : ∀ L s, bltV .tuple [.d (.lst L)] s = .ok (.d (.tup L)) s := fun L s => by simp [bltV, bltD, derefs, deref, D.blt, D.bTuple]
    have hty : D.tyOk (.tup (x :: xs)) .tuple = true := rfl
    rw [callN_run T_f_law_all_named]
    simp only [renT]
    generalize renTs o nw xs = RX at *
    generalize D.tup (x :: xs) = DX at *
    simp [runFn, f_law_all_named, deref, hty, asB, asI, s1, s2, asD, hst, Tg.slots, wipe, e1, htl, s3, take_all]
  | .non, h, _, _ => by simp [okT] at h
  | .lst _, h, _, _ => by simp [okT] at h
  | .ro _, h, _, _ => by simp [okT] at h
theorem all_nameds_ok {w : Nat} {st : Store} {o nw : String} (hw : w ≤ 1000) : ∀ (xs : List D), okTs w xs = true → ∀ n, D.depAll xs + 1 ≤ n → ∀ x ∈ xs, callN T n "_law_all_named" [.d x, .d (.str o), .d (.str nw)] st = .ok (.d (renT o nw x)) st
  | [], _, _, _, x, hx => by cases hx
  | y :: ys, h, n, hn, x, hx => by
    simp only [D.depAll] at hn
    simp only [okTs, Bool.and_eq_true] at h
    rcases List.mem_cons.mp hx with e | hx
    · rw [e]; exact all_named_ok hw y h.1 n (by omega)
    · exact all_nameds_ok hw ys h.2 n (by omega) x hx
end
end Prog

namespace Prog
open Ir
theorem pick_str {xs : List String} {d : Int} (h0 : 0 ≤ d) (h1 : d < xs.length) : ∃ x, x ∈ xs ∧ D.index (.lst (xs.map .str)) (.int d) = some (.str x) := by
  obtain ⟨y, hy, hy2⟩ := atI_nat (xs := xs.map D.str) h0 (by simpa using h1)
  rw [List.getElem?_map] at hy
  obtain ⟨x, hx, rfl⟩ := Option.map_eq_some_iff.mp hy
  exact ⟨x, List.mem_of_getElem? hx, by simp only [D.index]; exact hy2⟩
theorem depAll_str (l : List String) : D.depAll (l.map .str) = 0 := by induction l with | nil => rfl | cons y l ih => simp [D.depAll, D.dep, ih]
theorem ne_strs (l : List String) : D.cmp .ne (.lst (l.map .str)) (.lst []) = some (!l.isEmpty) := by
  have h1 : fine (.lst (l.map .str)) = true := by simp [fine, D.dep, depAll_str]
  have h2 : fine (.lst []) = true := by simp [fine, D.dep, D.depAll]
  cases l <;> simp [D.cmp, h1, h2, D.eqv, D.eqvAll]
  simpa using h1
theorem len_strs (l : List String) : D.bLen [.lst (l.map .str)] = some (.int l.length) := by simp [D.bLen]
/-- names that are bound -/
def EnvOk (env : List String) : Prop := ∀ x ∈ env, NameOk x
set_option maxHeartbeats 4000000 in
theorem atom_wp {n B : Nat} {st : Store} {N env : List String} {pp : Post Val} (hB : Bag st B) (he : EnvOk env) (hl : env.length ≤ 1000) (hn : 3 ≤ n)
    (k : ∀ (p : Pg) s, p.Ok N env → p.isOff = false → p.pl = 1 → p.dp = 1 → Bag s B → Kp B st s → pp.q (.d p.d) s) : @Wp _ (callN T n "_law_atom" [.ref B, .d (.lst (env.map .str))] st) pp := by
  obtain ⟨n, rfl⟩ : ∃ n', n = n' + 1 := ⟨n - 1, by omega⟩
  have hp10 : bigOk 10 = true := pow_lits.1
  have hp60 : bigOk (10 ^ 60) = true := pow_lits.2.1
  have hne := ne_strs env
  have hlen := len_strs env
  rw [callN_run T_f_law_atom]
  simp [f_law_atom]
  refine draw_wp hB (by decide) (by decide +kernel) (by omega) fun w s1 w0 w1 hB1 k1 => ?_
  have rest : @Wp _ (execs (callN T n) (f_law_atom.body.drop 2) [some (.ref B), some (.d (.lst (env.map .str))), some (.d (.int w))] s1) ⟨fun o s1 => @Wp _ (match o with
      | .nx _ => leave st.length (.d .non) s1
      | .ret v => leave st.length v s1
      | _ => .bad) pp⟩ := by
    simp [f_law_atom, cmpV, deref, ci_lt, ci_eq, asB]
    refine ⟨fun c => ?_, fun c => ⟨fun c2 => ?_, fun c2 => ?_⟩⟩
    · refine draw_wp hB1 (by decide) (by decide +kernel) (by omega) fun a s2 a0 a1 hB2 k2 => ?_
      simp
      refine draw_wp hB2 (by decide) (by decide +kernel) (by omega) fun b s3 b0 b1 hB3 k3 => ?_
      simp [deref, D.bin, hp10]
      refine draw_wp hB3 (by decide) hp60 (by omega) fun c' s4 c0 c1 hB4 k4 => ?_
      simp [asDs]
      refine draw_wp hB4 (by decide) (by decide +kernel) (by omega) fun d s5 d0 d1 hB5 k5 => ?_
      have kk := (((k1.trans k2).trans k3).trans k4).trans k5
      have : d = 0 ∨ d = 1 ∨ d = 2 := by omega
      have hbig : (1000 : Nat) < 10 ^ 60 := by decide
      rcases this with rfl | rfl | rfl
      · simp [indexV, D.index, atI, ixN, asDs, kk.take]
        exact k (.num a) s5 ⟨trivial, (by show a.natAbs < 10 ^ 60; omega), rfl, trivial⟩ rfl rfl rfl hB5 kk
      · simp [indexV, D.index, atI, ixN, asDs, kk.take]
        exact k (.num (-b)) s5 ⟨trivial, (by show (-b).natAbs < 10 ^ 60; omega), rfl, trivial⟩ rfl rfl rfl hB5 kk
      · simp [indexV, D.index, atI, ixN, asDs, kk.take]
        exact k (.num c') s5 ⟨trivial, (by
          show c'.natAbs < 10 ^ 60
          have h2 : ((c'.natAbs : Nat) : Int) < ((10 ^ 60 : Nat) : Int) := by rw [show ((10 ^ 60 : Nat) : Int) = (10 : Int) ^ 60 by decide]; omega
          exact Int.ofNat_lt.mp h2), rfl, trivial⟩ rfl rfl rfl hB5 kk
    · refine draw_wp hB1 (by decide) (by decide +kernel) (by omega) fun b s2 b0 b1 hB2 k2 => ?_
      have kk := k1.trans k2
      simp [deref, ci_eq, asDs, kk.take]
      exact k (.truth _) s2 ⟨trivial, trivial, rfl, trivial⟩ rfl rfl rfl hB2 kk
    · simp [asDs, k1.take]
      exact k .nil s1 ⟨trivial, trivial, rfl, trivial⟩ rfl rfl rfl hB1 k1
  simp [f_law_atom, Tg.putV, cmpV, deref, ci_lt, asB, asDs, hne] at rest
  simp [Tg.putV, cmpV, deref, ci_lt, asB, asDs, hne]
  refine ⟨fun c => ⟨fun c2 => ?_, fun c2 => ?_⟩, fun c => ?_⟩
  · have hel : 0 < env.length := by cases env <;> simp_all
    simp [bltV, lenDic, bltD, derefs, deref, D.blt, hlen]
    refine draw_wp (many := (env.length : Int)) hB1 (by omega) (big_of (by omega) (by omega)) (by omega) fun d s2 d0 d1 hB2 k2 => ?_
    obtain ⟨x, hx, e⟩ := pick_str d0 d1
    simp [indexV, e, asDs, (k1.trans k2).take]
    exact k (.name x) s2 ⟨he x hx, trivial, by simp only [Pg.cl]; exact decide_eq_true hx, trivial⟩ rfl rfl rfl hB2 (k1.trans k2)
  · exact rest
  · exact rest
def Pg.pls : List Pg → Nat
  | [] => 0
  | p :: ps => p.pl + Pg.pls ps
theorem pls_snoc (ps : List Pg) (p : Pg) : Pg.pls (ps ++ [p]) = Pg.pls ps + p.pl := by
  induction ps with
  | nil => simp [Pg.pls]
  | cons q ps ih => simp [Pg.pls, ih]; omega
/-- what a word of so many arms binds -/
def HB (h : String) (xs : List String) (a : Int) : Prop :=
  (a = 1 ∧ h ∈ ONES ∧ xs = []) ∨ (a = 1 ∧ h = "fn" ∧ ∃ x, xs = [x] ∧ NameOk x) ∨ (a = 1 ∧ h = "rec" ∧ ∃ f x, xs = [f, x] ∧ NameOk f ∧ NameOk x ∧ f ≠ x) ∨
  (a = 2 ∧ h ∈ TWOS ∧ xs = []) ∨ (a = 2 ∧ h = "let" ∧ ∃ x, xs = [x] ∧ NameOk x) ∨ (a = 3 ∧ h = "if" ∧ xs = [])
/-- the names at a part -/
def envAt (h : String) (env xs : List String) (i : Nat) : List String := if h = "let" ∧ i = 0 then env else env ++ xs
theorem not_let_of_one {h : String} (m : h ∈ ONES) : h ≠ "let" := by rintro rfl; simp [ONES] at m
theorem not_let_of_two {h : String} (m : h ∈ TWOS) : h ≠ "let" := by rintro rfl; simp [TWOS] at m
theorem not_fn_of_one {h : String} (m : h ∈ ONES) : h ≠ "fn" ∧ h ≠ "rec" := by constructor <;> (rintro rfl; simp [ONES] at m)
/-- the care at a part -/
def careAt (h : String) (c : Int) (i : Nat) : Int := if c = 1 ∧ h = "let" ∧ i = 0 then 2 else c
/-- a node of one to three parts -/
theorem node_of {h : String} {N env xs : List String} {ps : List Pg} {a calm : Int} {S H : Nat} (ha : (ps.length : Int) = a) (hb : HB h xs a) (hN : ∀ x ∈ xs, x ∈ N) (hc : calm = 2 → a = 1 → h ∈ ONES) (hf : ∀ (i : Nat) (p : Pg), ps[i]? = some p → p.Ok N (envAt h env xs i) ∧ p.cm (careAt h calm i) ∧ p.dp ≤ H) (hs : Pg.pls ps ≤ S) : ∃ p : Pg, p.d = nodeD h xs ps ∧ p.Ok N env ∧ p.cm calm ∧ p.isOff = false ∧ p.pl ≤ S + 1 ∧ p.dp ≤ H + 1 := by
  match ps, ha, hf, hs with
  | [], ha, _, _ => rcases hb with hb | hb | hb | hb | hb | hb <;> (have := hb.1; simp at ha; omega)
  | [p], ha, hf, hs =>
    obtain ⟨hp, hpc, hpd⟩ := hf 0 p rfl
    simp only [Pg.pls] at hs
    have h1 : a = 1 := by simpa using ha.symm
    have hl : h ≠ "let" := by
      rcases hb with hb | hb | hb | hb | hb | hb
      · exact not_let_of_one hb.2.1
      · rw [hb.2.1]; decide
      · rw [hb.2.1]; decide
      all_goals (have := hb.1; omega)
    have e : envAt h env xs 0 = env ++ xs := by simp [envAt, hl]
    have ec : careAt h calm 0 = calm := by simp [careAt, hl]
    rw [e] at hp
    rw [ec] at hpc
    refine ⟨.one h xs p, rfl, ⟨⟨?_, hp.sk⟩, hp.nb, hp.cl, hN, hp.bn⟩, ⟨fun c => ?_, fun c => hpc.2 c⟩, rfl, by simp only [Pg.pl]; omega, by simp only [Pg.dp]; omega⟩
    · rcases hb with hb | hb | hb | hb | hb | hb
      · exact .inl hb.2
      · exact .inr (.inl hb.2)
      · exact .inr (.inr hb.2)
      all_goals (have := hb.1; omega)
    · have := not_fn_of_one (hc c h1)
      simp [Pg.nofn, this.1, this.2, hpc.1 c]
  | [p, q], ha, hf, hs =>
    obtain ⟨hp, hpc, hpd⟩ := hf 0 p rfl
    obtain ⟨hq, hqc, hqd⟩ := hf 1 q rfl
    simp only [Pg.pls] at hs
    have h2 : a = 2 := by simpa using ha.symm
    have e : envAt h env xs 1 = env ++ xs := by simp [envAt]
    have ec : careAt h calm 1 = calm := by simp [careAt]
    rw [e] at hq
    rw [ec] at hqc
    have hb' : (h ∈ TWOS ∧ xs = []) ∨ (h = "let" ∧ ∃ x, xs = [x] ∧ NameOk x) := by
      rcases hb with hb | hb | hb | hb | hb | hb
      · have := hb.1; omega
      · have := hb.1; omega
      · have := hb.1; omega
      · exact .inl hb.2
      · exact .inr hb.2
      · have := hb.1; omega
    have hp0 : p.Ok N env := by
      rcases hb' with ⟨_, rfl⟩ | ⟨rfl, _⟩
      · simpa [envAt] using hp
      · simpa [envAt] using hp
    have hc2 : calm = 2 → p.nofn = true := fun c => hpc.1 (by simp [careAt, c])
    refine ⟨.two h xs p q, rfl, ⟨⟨hb', hp0.sk, hq.sk⟩, ⟨hp0.nb, hq.nb⟩, (by simp only [Pg.cl, hp0.cl, hq.cl]; rfl), hN, hp0.bn, hq.bn⟩, ⟨fun c => ?_, fun c => ?_⟩, rfl, by simp only [Pg.pl]; omega, by simp only [Pg.dp]; omega⟩
    · simp [Pg.nofn, hc2 c, hqc.1 c]
    · by_cases hl : h = "let"
      · have := hpc.1 (by simp [careAt, c, hl])
        simp [Pg.light, this, p.nofn_light this, hqc.2 c]
      · have := hpc.2 (by simp [careAt, c, hl])
        simp [Pg.light, hl, this, hqc.2 c]
  | [p, q, r], ha, hf, hs =>
    obtain ⟨hp, hpc, hpd⟩ := hf 0 p rfl
    obtain ⟨hq, hqc, hqd⟩ := hf 1 q rfl
    obtain ⟨hr, hrc, hrd⟩ := hf 2 r rfl
    simp only [Pg.pls] at hs
    have h3 : a = 3 := by simpa using ha.symm
    have hb' : h = "if" ∧ xs = [] := by
      rcases hb with hb | hb | hb | hb | hb | hb
      · have := hb.1; omega
      · have := hb.1; omega
      · have := hb.1; omega
      · have := hb.1; omega
      · have := hb.1; omega
      · exact hb.2
    obtain ⟨rfl, rfl⟩ := hb'
    have c0 : ∀ i, careAt "if" calm i = calm := fun i => by simp [careAt]
    rw [c0] at hpc hqc hrc
    have hp : p.Ok N env := by simpa [envAt] using hp
    have hq : q.Ok N env := by simpa [envAt] using hq
    have hr : r.Ok N env := by simpa [envAt] using hr
    refine ⟨.thr "if" [] p q r, rfl, ⟨⟨rfl, rfl, hp.sk, hq.sk, hr.sk⟩, ⟨hp.nb, hq.nb, hr.nb⟩, (by simp only [Pg.cl, hp.cl, hq.cl, hr.cl]; rfl), hN, hp.bn, hq.bn, hr.bn⟩, ⟨fun c => ?_, fun c => ?_⟩, rfl, by simp only [Pg.pl]; omega, by simp only [Pg.dp]; omega⟩
    · simp [Pg.nofn, hpc.1 c, hqc.1 c, hrc.1 c]
    · simp [Pg.light, hpc.2 c, hqc.2 c, hrc.2 c]
  | _ :: _ :: _ :: _ :: _, ha, _, _ => rcases hb with hb | hb | hb | hb | hb | hb <;> (have := hb.1; simp at ha; omega)
/-- what prog promises, at a depth -/
def ProgW (B deep : Nat) (x y z : String) : Prop := ∀ (n : Nat) (st : Store) (env : List String) (many odd calm : Int) (pp : Post Val), Bag st B → EnvOk env → env.length + 2 * deep ≤ 500 → 1 ≤ many → many ≤ 1000 → deep + 5 ≤ n →
  (∀ (p : Pg) s, p.Ok [x, y, z] env → p.cm calm → (p.pl : Int) ≤ many → p.dp ≤ deep → Bag s B → Kp B st s → pp.q (.d p.d) s) →
  @Wp _ (callN T n "_law_prog" [.ref B, .d (.lst [.str x, .str y, .str z]), .d (.lst (env.map .str)), .d (.int many), .d (.int deep), .d (.int odd), .d (.int calm)] st) pp
/-- the loop's word -/
def PrI (B c : Nat) (st : Store) (x y z : String) (env bd : List String) (many odd calm arms : Int) (deep : Nat) (h : String) (offB : Bool) (v9 v10 v12 v13 v14 : Option Val) (xs : List D) (σ : Env) (s : Store) : Prop :=
  ∃ (left : Int) (ps : List Pg) (x18 x19 x20 x21 x22 : Option Val), σ = [some (.ref B), some (.d (.lst [.str x, .str y, .str z])), some (.d (.lst (env.map .str))), some (.d (.int many)), some (.d (.int deep)), some (.d (.int odd)), some (.d (.int calm)), some (.d (.bool offB)), some (.d (.int arms)), v9, v10, some (.d (.str h)), v12, v13, v14, some (.d (.lst (bd.map .str))), some (.d (.int left)), some (.ref c), x18, x19, x20, x21, x22] ∧
    0 ≤ left ∧ xs = rangeL ps.length xs.length ∧ (ps.length : Int) + xs.length = arms ∧ (Pg.pls ps : Int) + left + xs.length ≤ many - 1 ∧ (∀ (i : Nat) (p : Pg), ps[i]? = some p → p.Ok [x, y, z] (envAt h env bd i) ∧ p.cm (careAt h calm i) ∧ p.dp ≤ deep - 1) ∧ s[c]? = some (.lst (ps.map Pg.d)) ∧ Bag s B ∧ Keep B st s
theorem range_cons {x : D} {a : Int} {n : Nat} {xs : List D} (h : x :: xs = rangeL a n) : x = .int a ∧ xs = rangeL (a + 1) xs.length := by
  cases n with
  | zero => simp [rangeL] at h
  | succ n =>
    have e : xs.length = n := by have := congrArg List.length h; simpa [rangeL] using this
    simp only [rangeL, List.range_succ_eq_map, List.map_cons, List.map_map, List.cons.injEq] at h
    refine ⟨by simpa using h.1, ?_⟩
    rw [e]
    refine h.2.trans (List.map_congr_left fun i _ => ?_)
    simp only [Function.comp]
    congr 1
    push_cast
    omega
end Prog

namespace Prog
open Ir
set_option maxHeartbeats 8000000 in
theorem prog_turn {B c n deep : Nat} {st s : Store} {x y z : String} {env bd : List String} {many odd calm arms : Int} {h : String} {offB : Bool} {v9 v10 v12 v13 v14 : Option Val} {w : D} {xs : List D} {σ : Env} {pp : Post Out} (hst : st.length ≤ c) (hbc : B ≠ c) (hn : deep + 4 ≤ n) (hd : 2 ≤ deep) (he : EnvOk env) (hbd : EnvOk bd) (hb2 : bd.length ≤ 2) (hel : env.length + 2 * deep ≤ 500) (hm1 : many ≤ 1000) (ha3 : arms ≤ 3)
    (ih : ProgW B (deep - 1) x y z) (i : PrI B c st x y z env bd many odd calm arms deep h offB v9 v10 v12 v13 v14 (w :: xs) σ s)
    (k : ∀ σ s, PrI B c st x y z env bd many odd calm arms deep h offB v9 v10 v12 v13 v14 xs σ s → pp.q (.nx σ) s) : @Wp _ (execs (callN T n) f_law_prog_b0 (σ.set 18 (some (.d w))) s) pp := by
  obtain ⟨left, ps, x18, x19, x20, x21, x22, rfl, hl0, hxs, hpl, hsz, hps, hc, hB, kp⟩ := i
  obtain ⟨rfl, hxs2⟩ := range_cons hxs
  obtain ⟨kk, hkk⟩ : ∃ kk : Int, kk = ps.length := ⟨_, rfl⟩
  rw [← hkk]
  simp only [List.length_cons, Int.natCast_add, Int.natCast_one] at hpl hsz
  have hcast : ((deep - 1 : Nat) : Int) = (deep : Int) - 1 := by omega
  have hadd : ∀ a b : Int, D.bin .add (.int a) (.int b) = some (.int (a + b)) := fun _ _ => rfl
  have hsub : ∀ a b : Int, D.bin .sub (.int a) (.int b) = some (.int (a - b)) := fun _ _ => rfl
  have hcat : D.bin .add (.lst (env.map .str)) (.lst (bd.map .str)) = some (.lst ((env ++ bd).map .str)) := by
    simp only [D.bin]; rw [if_pos (by simp [LIM_eq]; omega)]; simp
  have heb : EnvOk (env ++ bd) := fun v hv => (List.mem_append.mp hv).elim (he v) (hbd v)
  -- behind the part made
  have fin : ∀ (more : Int) (s1 s2 : Store) (p : Pg) (y18 y19 y20 y21 : Option Val), 0 ≤ more → more ≤ left → s1[c]? = some (.lst (ps.map Pg.d)) → Keep B st s1 → p.Ok [x, y, z] (envAt h env bd ps.length) → p.cm (careAt h calm ps.length) → (p.pl : Int) ≤ 1 + more → p.dp ≤ deep - 1 → Bag s2 B → Kp B s1 s2 →
      (mAppend c s2 [.d p.d] = .ok (.d .non) (s2.set c (.lst (ps.map Pg.d ++ [p.d])))) ∧ pp.q (.nx [some (.ref B), some (.d (.lst [.str x, .str y, .str z])), some (.d (.lst (env.map .str))), some (.d (.int many)), some (.d (.int deep)), some (.d (.int odd)), some (.d (.int calm)), some (.d (.bool offB)), some (.d (.int arms)), v9, v10, some (.d (.str h)), v12, v13, v14, some (.d (.lst (bd.map .str))), some (.d (.int (left - more))), some (.ref c), y18, y19, y20, y21, x22]) (s2.set c (.lst (ps.map Pg.d ++ [p.d]))) := by
    intro more s1 s2 p y18 y19 y20 y21 m0 m1 hc1 kp1 hf hcm hs hh hB2 k2
    have hc2 : s2[c]? = some (.lst (ps.map Pg.d)) := by rw [k2.2 c (Ne.symm hbc)]; exact hc1
    refine ⟨?_, k _ _ ⟨left - more, ps ++ [p], y18, y19, y20, y21, x22, rfl, by omega, by rw [hxs2]; simp [rangeL], by simp; omega, by rw [pls_snoc]; omega, fun i q hq => ?_, by rw [set_at hc2]; simp, ?_, ?_⟩⟩
    · simp only [mAppend, hc2]
      rw [if_pos (by simp [LIM_eq]; omega)]
    · by_cases hi : i < ps.length
      · rw [List.getElem?_append_left hi] at hq
        exact hps i q hq
      · have hi2 : i = ps.length := by
          have := (List.getElem?_eq_some_iff.mp hq).1
          simp at this; omega
        subst hi2
        rw [List.getElem?_append_right (Nat.le_refl _)] at hq
        simp at hq; rw [← hq]; exact ⟨hf, hcm, hh⟩
    · obtain ⟨b, e, ib⟩ := hB2
      exact ⟨b, by rw [List.getElem?_set_ne (Ne.symm hbc)]; exact e, ib⟩
    · have k3 := kp1.trans k2.keep
      exact ⟨by simpa using k3.1, fun i hi hn => by rw [List.getElem?_set_ne (by omega)]; exact k3.2 i hi hn⟩
  have hk0 : (ps.length = 0) = (kk = 0) := by rw [hkk]; apply propext; omega
  have hcond1 : (h = "let" ∧ ps.length = 0) = (h = "let" ∧ kk = 0) := by rw [hk0]
  have hcond2 : (calm = 1 ∧ h = "let" ∧ ps.length = 0) = (calm = 1 ∧ h = "let" ∧ kk = 0) := by rw [hk0]
  obtain ⟨EB, hEB⟩ : ∃ EB, EB = (env ++ bd).map D.str := ⟨_, rfl⟩
  rw [← hEB] at hcat
  have run : ∀ (more : Int) (s1 : Store), 0 ≤ more → more ≤ left → s1[c]? = some (.lst (ps.map Pg.d)) → Bag s1 B → Keep B st s1 → ∀ pq : Post Out, pq = pp →
      @Wp _ (execs (callN T n) (f_law_prog_b0.drop 1) [some (.ref B), some (.d (.lst [.str x, .str y, .str z])), some (.d (.lst (env.map .str))), some (.d (.int many)), some (.d (.int deep)), some (.d (.int odd)), some (.d (.int calm)), some (.d (.bool offB)), some (.d (.int arms)), v9, v10, some (.d (.str h)), v12, v13, v14, some (.d (.lst (bd.map .str))), some (.d (.int left)), some (.ref c), some (.d (.int kk)), some (.d (.int more)), x20, x21, x22] s1) pq := by
    intro more s1 m0 m1 hc1 hB1 kp1 pq hpq
    subst hpq
    have ih1 := fun (cm : Int) (pq : Post Val) k => ih n s1 env (1 + more) odd cm pq hB1 he (by omega) (by omega) (by omega) (by omega) k
    have ih2 := fun (cm : Int) (pq : Post Val) k => ih n s1 (env ++ bd) (1 + more) odd cm pq hB1 heb (by simp; omega) (by omega) (by omega) (by omega) k
    rw [hcast] at ih1 ih2
    rw [← hEB] at ih2
    by_cases c1 : h = "let" <;> by_cases c2 : kk = 0 <;> by_cases c3 : calm = 1 <;>
      (simp [c1, c2, c3, deref, hadd, hsub, hcat, cmpV, ci_eq, cs_eq, asB, Tg.putV, mthOk, hc1]
       first
        | (refine ih1 _ _ fun p s2 hf hcm hs hh hB2 k2 => ?_)
        | (refine ih2 _ _ fun p s2 hf hcm hs hh hB2 k2 => ?_)
       obtain ⟨g1, g2⟩ := fin more s1 s2 p _ _ _ _ m0 m1 hc1 kp1 (by simp only [envAt, hk0]; simpa [c1, c2] using hf) (by simp only [careAt, hk0]; simpa [c1, c2, c3] using hcm) hs hh hB2 k2
       simp [mthV, g1]
       try simp only [c1, c2, c3] at g2
       exact g2)
  have first : @Wp _ (exec (callN T n) (.asg (.name 19) (.ite (.cmp .lt (.var 18) (.bin .sub (.var 8) (.con (.int 1)))) (.call "_law_draw" [.var 0, .bin .add (.var 16) (.con (.int 1))]) (.var 16))) [some (.ref B), some (.d (.lst [.str x, .str y, .str z])), some (.d (.lst (env.map .str))), some (.d (.int many)), some (.d (.int deep)), some (.d (.int odd)), some (.d (.int calm)), some (.d (.bool offB)), some (.d (.int arms)), v9, v10, some (.d (.str h)), v12, v13, v14, some (.d (.lst (bd.map .str))), some (.d (.int left)), some (.ref c), some (.d (.int kk)), x19, x20, x21, x22] s)
      ⟨fun o s1 => ∃ more : Int, 0 ≤ more ∧ more ≤ left ∧ s1[c]? = some (.lst (ps.map Pg.d)) ∧ Bag s1 B ∧ Keep B st s1 ∧ o = .nx [some (.ref B), some (.d (.lst [.str x, .str y, .str z])), some (.d (.lst (env.map .str))), some (.d (.int many)), some (.d (.int deep)), some (.d (.int odd)), some (.d (.int calm)), some (.d (.bool offB)), some (.d (.int arms)), v9, v10, some (.d (.str h)), v12, v13, v14, some (.d (.lst (bd.map .str))), some (.d (.int left)), some (.ref c), some (.d (.int kk)), some (.d (.int more)), x20, x21, x22]⟩ := by
    simp [deref, hadd, hsub, cmpV, ci_lt, asB]
    refine ⟨fun _ => ?_, fun _ => ?_⟩
    · refine draw_wp hB (by omega) (big_of (by omega) (by omega)) (by omega) fun d s2 d0 d1 hB2 k2 => ?_
      simp [Tg.putV]
      exact ⟨d, d0, by omega, by rw [k2.2 c (Ne.symm hbc)]; exact hc, hB2, kp.trans k2.keep, rfl⟩
    · simp [Tg.putV]
      exact ⟨left, hl0, Int.le_refl _, hc, hB, kp, rfl⟩
  show @Wp _ (execs (callN T n) (_ :: f_law_prog_b0.drop 1) _ s) pp
  rw [w_execs_cons]
  refine first.mono fun o s1 q => ?_
  obtain ⟨more, q1, q2, q3, q4, q5, rfl⟩ := q
  exact run more s1 q1 q2 q3 q4 q5 pp rfl
theorem w_execs_app {C : Calls} {b : List Stm} {pp : Post Out} : ∀ (a : List Stm) (σ : Env) (st : Store), @Wp _ (execs C a σ st) ⟨fun o s1 => @Wp _ (match o with | .nx σ1 => execs C b σ1 s1 | o => .ok o s1) pp⟩ → @Wp _ (execs C (a ++ b) σ st) pp
  | [], σ, st, h => by
    simp only [execs_nil, wp_ok] at h
    exact h
  | s :: a, σ, st, h => by
    rw [List.cons_append, w_execs_cons]
    rw [w_execs_cons] at h
    refine h.mono fun o s1 q => ?_
    cases o with
    | nx σ1 => exact w_execs_app a σ1 s1 q
    | ret v => exact q
    | brk v => exact q
    | cnt v => exact q
    | thr c as v => exact q
/-- prog's slots -/
def pE (B : Nat) (x y z : String) (env : List String) (many odd calm : Int) (deep : Nat) (tl : Env) : Env := [some (.ref B), some (.d (.lst [.str x, .str y, .str z])), some (.d (.lst (env.map .str))), some (.d (.int many)), some (.d (.int deep)), some (.d (.int odd)), some (.d (.int calm))] ++ tl
def N15 : Env := [none, none, none, none, none, none, none, none, none, none, none, none, none, none]
section
variable {B n deep : Nat} {st : Store} {x y z : String} {env : List String} {many odd calm : Int}
set_option maxHeartbeats 8000000 in
/-- whether it is off, and how many arms -/
theorem pr_arms {pp : Post Out} (hB : Bag st B) (hn : 4 ≤ n) (hm : 1 ≤ many)
    (k : ∀ (offB : Bool) (arms : Int) s, 0 ≤ arms → arms ≤ 3 → arms ≤ many - 1 → (0 < arms → 2 ≤ deep) → Bag s B → Kp B st s → pp.q (.nx (pE B x y z env many odd calm deep ([some (.d (.bool offB)), some (.d (.int arms))] ++ N15))) s) :
    @Wp _ (execs (callN T n) (f_law_prog.body.take 2) (pE B x y z env many odd calm deep ([none, none] ++ N15)) st) pp := by
  simp only [pE, N15] at k
  simp [f_law_prog, pE, N15]
  refine draw_wp hB (by decide) (by decide +kernel) (by omega) fun d s1 d0 d1 hB1 k1 => ?_
  simp [Tg.putV, Tg.put, Tg.puts, Tg.putF_eq, setAll, Tg.slots, Tg.slotss, wipe, indexV, D.index, atI, ixN, cmpV, deref, asB, asD, asDs, asI, bltV, lenDic, bltD, derefs, D.blt, D.bLen, D.bTuple, D.bList, D.seq, mthV, mthOk, setV, ci_eq, ci_ne, ci_lt, ci_le, ci_gt, ci_ge, cs_eq, cs_ne, cb_eq, cb_ne, D.bin, D.slice, cut, sIx, isNon]
  refine ⟨fun c => ?_, fun c => ?_⟩
  · refine draw_wp hB1 (by decide) (by decide +kernel) (by omega) fun e s2 e0 e1 hB2 k2 => ?_
    obtain ⟨v, hv, hp⟩ := pick4 (a := 1) (b := 2) (c := 2) (d := 3) e0 e1
    unfold atI ixN at hp
    simp at hp
    simp [indexV, D.index, atI, ixN, hp, bltV, bltD, derefs, deref, D.blt, D.bMin, Tg.putV]
    exact k _ (if v < many - 1 then v else many - 1) _ (by split <;> omega) (by split <;> omega) (by split <;> omega) (fun _ => by omega) hB2 (k1.trans k2)
  · exact k _ 0 _ (by omega) (by omega) (by omega) (fun h => by omega) hB1 k1
end
end Prog

namespace Prog
open Ir
/-- a word for so many arms -/
def HdA (calm arms : Int) (h : String) : Prop := arms = 0 ∨ (arms = 1 ∧ (h ∈ ONES ∨ ((h = "fn" ∨ h = "rec") ∧ calm ≠ 2))) ∨ (arms = 2 ∧ (h ∈ TWOS ∨ h = "let")) ∨ (arms = 3 ∧ h = "if")
section
variable {B n deep : Nat} {st : Store} {x y z : String} {env : List String} {many odd calm : Int}
set_option maxHeartbeats 8000000 in
/-- the word -/
theorem pr_head {pp : Post Out} {offB : Bool} {arms : Int} (hB : Bag st B) (hn : 4 ≤ n) (a0 : 0 ≤ arms) (a3 : arms ≤ 3)
    (k : ∀ (h : String) (v9 v10 : Option Val) s, HdA calm arms h → Bag s B → Kp B st s → pp.q (.nx (pE B x y z env many odd calm deep [some (.d (.bool offB)), some (.d (.int arms)), v9, v10, some (.d (.str h)), none, none, none, none, none, none, none, none, none, none, none])) s) :
    @Wp _ (execs (callN T n) ((f_law_prog.body.drop 2).take 3) (pE B x y z env many odd calm deep ([some (.d (.bool offB)), some (.d (.int arms))] ++ N15)) st) pp := by
  simp only [pE] at k
  have go : ∀ (hs : List String) (v9 : Option Val), 0 < hs.length → hs.length ≤ 8 → (∀ h ∈ hs, HdA calm arms h) → @Wp _ (callN T n "_law_draw" [.ref B, .d (.int hs.length)] st) ⟨fun v s => ∃ d, v = .d (.int d) ∧ ∃ h, D.index (.lst (hs.map .str)) (.int d) = some (.str h) ∧ HdA calm arms h ∧ Bag s B ∧ Kp B st s⟩ := by
    intro hs v9 h0 h8 hh
    refine draw_wp hB (by omega) (big_of (by omega) (by omega)) (by omega) fun d s d0 d1 hB1 k1 => ?_
    obtain ⟨h, hm, e⟩ := pick_str d0 d1
    exact ⟨d, rfl, h, e, hh h hm, hB1, k1⟩
  have hc : arms = 0 ∨ arms = 1 ∨ arms = 2 ∨ arms = 3 := by omega
  by_cases c2 : calm = 2
  · subst c2
    rcases hc with rfl | rfl | rfl | rfl
    · simp [f_law_prog, pE, N15, Tg.putV, Tg.put, Tg.puts, Tg.putF_eq, setAll, Tg.slots, Tg.slotss, wipe, indexV, D.index, atI, ixN, cmpV, deref, asB, asD, asDs, asI, bltV, lenDic, bltD, derefs, D.blt, D.bLen, D.bTuple, D.bList, D.seq, mthV, mthOk, setV, ci_eq, ci_ne, ci_lt, ci_le, ci_gt, ci_ge, cs_eq, cs_ne, cb_eq, cb_ne, D.bin, D.slice, cut, sIx, isNon]
      refine (go ["num"] none (by simp) (by simp) (by simp [HdA])).mono ?_
      rintro _ s ⟨d, rfl, h, e, hh, hB1, k1⟩
      simp [D.index, atI, ixN] at e
      simp [indexV, D.index, atI, ixN, e, Tg.putV]
      exact k h _ _ s hh hB1 k1
    · simp [f_law_prog, pE, N15, Tg.putV, Tg.put, Tg.puts, Tg.putF_eq, setAll, Tg.slots, Tg.slotss, wipe, indexV, D.index, atI, ixN, cmpV, deref, asB, asD, asDs, asI, bltV, lenDic, bltD, derefs, D.blt, D.bLen, D.bTuple, D.bList, D.seq, mthV, mthOk, setV, ci_eq, ci_ne, ci_lt, ci_le, ci_gt, ci_ge, cs_eq, cs_ne, cb_eq, cb_ne, D.bin, D.slice, cut, sIx, isNon]
      refine (go ["first", "second", "head", "tail", "none"] none (by simp) (by simp) (by simp [HdA, ONES, TWOS])).mono ?_
      rintro _ s ⟨d, rfl, h, e, hh, hB1, k1⟩
      simp [D.index, atI, ixN] at e
      simp [indexV, D.index, atI, ixN, e, Tg.putV]
      exact k h _ _ s hh hB1 k1
    · simp [f_law_prog, pE, N15, Tg.putV, Tg.put, Tg.puts, Tg.putF_eq, setAll, Tg.slots, Tg.slotss, wipe, indexV, D.index, atI, ixN, cmpV, deref, asB, asD, asDs, asI, bltV, lenDic, bltD, derefs, D.blt, D.bLen, D.bTuple, D.bList, D.seq, mthV, mthOk, setV, ci_eq, ci_ne, ci_lt, ci_le, ci_gt, ci_ge, cs_eq, cs_ne, cb_eq, cb_ne, D.bin, D.slice, cut, sIx, isNon]
      refine (go ["call", "let", "plus", "less", "pair", "cons", "call", "let"] none (by simp) (by simp) (by simp [HdA, ONES, TWOS])).mono ?_
      rintro _ s ⟨d, rfl, h, e, hh, hB1, k1⟩
      simp [D.index, atI, ixN] at e
      simp [indexV, D.index, atI, ixN, e, Tg.putV]
      exact k h _ _ s hh hB1 k1
    · simp [f_law_prog, pE, N15, Tg.putV, Tg.put, Tg.puts, Tg.putF_eq, setAll, Tg.slots, Tg.slotss, wipe, indexV, D.index, atI, ixN, cmpV, deref, asB, asD, asDs, asI, bltV, lenDic, bltD, derefs, D.blt, D.bLen, D.bTuple, D.bList, D.seq, mthV, mthOk, setV, ci_eq, ci_ne, ci_lt, ci_le, ci_gt, ci_ge, cs_eq, cs_ne, cb_eq, cb_ne, D.bin, D.slice, cut, sIx, isNon]
      refine (go ["if"] none (by simp) (by simp) (by simp [HdA, ONES, TWOS])).mono ?_
      rintro _ s ⟨d, rfl, h, e, hh, hB1, k1⟩
      simp [D.index, atI, ixN] at e
      simp [indexV, D.index, atI, ixN, e, Tg.putV]
      exact k h _ _ s hh hB1 k1
  · rcases hc with rfl | rfl | rfl | rfl
    · simp [f_law_prog, pE, N15, Tg.putV, Tg.put, Tg.puts, Tg.putF_eq, setAll, Tg.slots, Tg.slotss, wipe, indexV, D.index, atI, ixN, cmpV, deref, asB, asD, asDs, asI, bltV, lenDic, bltD, derefs, D.blt, D.bLen, D.bTuple, D.bList, D.seq, mthV, mthOk, setV, ci_eq, ci_ne, ci_lt, ci_le, ci_gt, ci_ge, cs_eq, cs_ne, cb_eq, cb_ne, D.bin, D.slice, cut, sIx, isNon, c2]
      refine (go ["num"] none (by simp) (by simp) (by simp [HdA])).mono ?_
      rintro _ s ⟨d, rfl, h, e, hh, hB1, k1⟩
      simp [D.index, atI, ixN] at e
      simp [indexV, D.index, atI, ixN, e, Tg.putV]
      exact k h _ _ s hh hB1 k1
    · simp [f_law_prog, pE, N15, Tg.putV, Tg.put, Tg.puts, Tg.putF_eq, setAll, Tg.slots, Tg.slotss, wipe, indexV, D.index, atI, ixN, cmpV, deref, asB, asD, asDs, asI, bltV, lenDic, bltD, derefs, D.blt, D.bLen, D.bTuple, D.bList, D.seq, mthV, mthOk, setV, ci_eq, ci_ne, ci_lt, ci_le, ci_gt, ci_ge, cs_eq, cs_ne, cb_eq, cb_ne, D.bin, D.slice, cut, sIx, isNon, c2]
      refine (go ["first", "second", "head", "tail", "none", "fn", "rec", "fn"] none (by simp) (by simp) (by simp [HdA, ONES, TWOS, c2])).mono ?_
      rintro _ s ⟨d, rfl, h, e, hh, hB1, k1⟩
      simp [D.index, atI, ixN] at e
      simp [indexV, D.index, atI, ixN, e, Tg.putV]
      exact k h _ _ s hh hB1 k1
    · simp [f_law_prog, pE, N15, Tg.putV, Tg.put, Tg.puts, Tg.putF_eq, setAll, Tg.slots, Tg.slotss, wipe, indexV, D.index, atI, ixN, cmpV, deref, asB, asD, asDs, asI, bltV, lenDic, bltD, derefs, D.blt, D.bLen, D.bTuple, D.bList, D.seq, mthV, mthOk, setV, ci_eq, ci_ne, ci_lt, ci_le, ci_gt, ci_ge, cs_eq, cs_ne, cb_eq, cb_ne, D.bin, D.slice, cut, sIx, isNon, c2]
      refine (go ["call", "let", "plus", "less", "pair", "cons", "call", "let"] none (by simp) (by simp) (by simp [HdA, ONES, TWOS, c2])).mono ?_
      rintro _ s ⟨d, rfl, h, e, hh, hB1, k1⟩
      simp [D.index, atI, ixN] at e
      simp [indexV, D.index, atI, ixN, e, Tg.putV]
      exact k h _ _ s hh hB1 k1
    · simp [f_law_prog, pE, N15, Tg.putV, Tg.put, Tg.puts, Tg.putF_eq, setAll, Tg.slots, Tg.slotss, wipe, indexV, D.index, atI, ixN, cmpV, deref, asB, asD, asDs, asI, bltV, lenDic, bltD, derefs, D.blt, D.bLen, D.bTuple, D.bList, D.seq, mthV, mthOk, setV, ci_eq, ci_ne, ci_lt, ci_le, ci_gt, ci_ge, cs_eq, cs_ne, cb_eq, cb_ne, D.bin, D.slice, cut, sIx, isNon, c2]
      refine (go ["if"] none (by simp) (by simp) (by simp [HdA, ONES, TWOS, c2])).mono ?_
      rintro _ s ⟨d, rfl, h, e, hh, hB1, k1⟩
      simp [D.index, atI, ixN] at e
      simp [indexV, D.index, atI, ixN, e, Tg.putV]
      exact k h _ _ s hh hB1 k1
end
/-- the names bound by a word -/
def bdOf (h one two : String) : List String := if h = "fn" then [one] else if h = "rec" then [two, one] else if h = "let" then [one] else []
theorem get_bd {s : Store} {h one two : String} : mGet s.length (s ++ [.dic [(.str "fn", .lst [.str one]), (.str "rec", .lst [.str two, .str one]), (.str "let", .lst [.str one])]]) [.d (.str h), .d (.lst [])] = .ok (.d (.lst ((bdOf h one two).map .str))) (s ++ [.dic [(.str "fn", .lst [.str one]), (.str "rec", .lst [.str two, .str one]), (.str "let", .lst [.str one])]]) := by
  simp only [mGet, get_push, D.key, if_true]
  congr 2
  simp only [lookK, List.find?_cons, D.eqv, bdOf]
  by_cases c1 : h = "fn"
  · subst c1; simp
  · by_cases c2 : h = "rec"
    · subst c2; simp
    · by_cases c3 : h = "let"
      · subst c3; simp
      · simp [c1, c2, c3, Ne.symm c1, Ne.symm c2, Ne.symm c3]
theorem bd_ok {h one two : String} {calm arms : Int} (hh : HdA calm arms h) (h1 : NameOk one) (h2 : NameOk two) (hne : two ≠ one) : EnvOk (bdOf h one two) ∧ (bdOf h one two).length ≤ 2 ∧ (0 < arms → HB h (bdOf h one two) arms) := by
  refine ⟨?_, ?_, fun ha => ?_⟩
  · unfold bdOf EnvOk
    split
    · simpa using h1
    · split
      · simp; exact ⟨h2, h1⟩
      · split
        · simpa using h1
        · simp
  · unfold bdOf
    split
    · simp
    · split
      · simp
      · split <;> simp
  · rcases hh with h0 | ⟨rfl, m | ⟨rfl | rfl, _⟩⟩ | ⟨rfl, m | rfl⟩ | ⟨rfl, rfl⟩
    · omega
    · refine .inl ⟨rfl, m, ?_⟩
      simp only [ONES, List.mem_cons, List.not_mem_nil, or_false] at m
      rcases m with rfl | rfl | rfl | rfl | rfl <;> rfl
    · exact .inr (.inl ⟨rfl, rfl, one, rfl, h1⟩)
    · exact .inr (.inr (.inl ⟨rfl, rfl, two, one, rfl, h2, h1, hne⟩))
    · refine .inr (.inr (.inr (.inl ⟨rfl, m, ?_⟩)))
      simp only [TWOS, List.mem_cons, List.not_mem_nil, or_false] at m
      rcases m with rfl | rfl | rfl | rfl | rfl <;> rfl
    · exact .inr (.inr (.inr (.inr (.inl ⟨rfl, rfl, one, rfl, h1⟩))))
    · exact .inr (.inr (.inr (.inr (.inr ⟨rfl, rfl, rfl⟩))))
theorem bd_in {h one two : String} {N : List String} (m1 : one ∈ N) (m2 : two ∈ N) : ∀ w ∈ bdOf h one two, w ∈ N := by
  unfold bdOf
  split
  · simpa using m1
  · split
    · simp; exact ⟨m2, m1⟩
    · split
      · simpa using m1
      · simp
theorem merge_bd (one two : String) : mergeF [] [.str "fn", .lst [.str one], .str "rec", .lst [.str two, .str one], .str "let", .lst [.str one]] = some [(.str "fn", .lst [.str one]), (.str "rec", .lst [.str two, .str one]), (.str "let", .lst [.str one])] := by
  simp [mergeF, D.key, putK, D.eqv]
section
variable {B n deep : Nat} {st : Store} {x y z : String} {env : List String} {many odd calm : Int}
set_option maxHeartbeats 8000000 in
theorem pr_mid {pp : Post Out} {offB : Bool} {arms : Int} {h : String} {v9 v10 : Option Val} (hB : Bag st B) (hn : 4 ≤ n) (he : EnvOk env) (hel : env.length ≤ 1000) (xy : x ≠ y) (xz : x ≠ z) (yz : y ≠ z) (hx : NameOk x) (hy : NameOk y) (hz : NameOk z) (hh : HdA calm arms h)
    (k : ∀ (p : Pg) (bd : List String) (v13 v14 : Option Val) s, p.Ok [x, y, z] env → p.isOff = false → p.pl = 1 → p.dp = 1 → EnvOk bd → bd.length ≤ 2 → (∀ w ∈ bd, w ∈ [x, y, z]) → (0 < arms → HB h bd arms) → Bag s B → Keep B st s → st.length < s.length → s[s.length - 1]? = some (.lst []) → pp.q (.nx (pE B x y z env many odd calm deep [some (.d (.bool offB)), some (.d (.int arms)), v9, v10, some (.d (.str h)), some (.d p.d), v13, v14, some (.d (.lst (bd.map .str))), some (.d (.int (many - 1 - arms))), some (.ref (s.length - 1)), none, none, none, none, none])) s) :
    @Wp _ (execs (callN T n) ((f_law_prog.body.drop 5).take 6) (pE B x y z env many odd calm deep [some (.d (.bool offB)), some (.d (.int arms)), v9, v10, some (.d (.str h)), none, none, none, none, none, none, none, none, none, none, none]) st) pp := by
  simp only [pE] at k
  simp [f_law_prog, pE]
  refine atom_wp (N := [x, y, z]) hB he hel (by omega) fun p s1 hp hno hs hdp hB1 k1 => ?_
  simp [Tg.putV]
  refine draw_wp hB1 (by decide) (by decide +kernel) (by omega) fun d s2 d0 d1 hB2 k2 => ?_
  have tail : ∀ (one two : String) (v14 : Option Val) s3, NameOk one → NameOk two → two ≠ one → one ∈ [x, y, z] → two ∈ [x, y, z] → Bag s3 B → Kp B s2 s3 → @Wp _ (execs (callN T n) [.asg (.name 15) (.mth .get (.newDd [.con (.str "fn"), .lst [.var 13], .con (.str "rec"), .lst [.var 14, .var 13], .con (.str "let"), .lst [.var 13]]) [.var 11, .lst []]),
    .asg (.name 16) (.bin .sub (.bin .sub (.var 3) (.con (.int 1))) (.var 8)),
    .asg (.name 17) (.newL (.lst []))] [some (.ref B), some (.d (.lst [.str x, .str y, .str z])), some (.d (.lst (env.map .str))), some (.d (.int many)), some (.d (.int deep)), some (.d (.int odd)), some (.d (.int calm)), some (.d (.bool offB)), some (.d (.int arms)), v9, v10, some (.d (.str h)), some (.d p.d), some (.d (.str one)), some (.d (.str two)), none, none, none, none, none, none, none, none] s3) pp := by
    intro one two v14 s3 o1 o2 o3 m1 m2 hB3 k3
    obtain ⟨b1, b2, b3⟩ := bd_ok hh o1 o2 o3
    have hm := merge_bd one two
    have hg := get_bd (s := s3) (h := h) (one := one) (two := two)
    have kk := (k1.trans k2).trans k3
    simp [asDs, hm, mthOk, mthV, hg, Tg.putV, deref, D.bin]
    have := k p (bdOf h one two) (some (.d (.str one))) (some (.d (.str two))) (s3 ++ [.dic [(.str "fn", .lst [.str one]), (.str "rec", .lst [.str two, .str one]), (.str "let", .lst [.str one])], .lst []]) hp hno hs hdp b1 b2 (bd_in m1 m2) b3 (hB3.pushes _) ⟨by have := kk.1; simp; omega, fun i hi hn => by rw [List.getElem?_append_left (by have := kk.1; omega)]; exact kk.2 i hn⟩ (by have := kk.1; simp; omega) (by simp)
    simpa using this
  have hd : d = 0 ∨ d = 1 ∨ d = 2 := by omega
  rcases hd with rfl | rfl | rfl
  · simp [indexV, D.index, atI, ixN, Tg.putV, asD, D.seq, Tg.slots, wipe, Tg.put, cmpV, deref, cs_ne, asB, Ne.symm xy, Ne.symm xz]
    refine draw_wp hB2 (by decide) (by decide +kernel) (by omega) fun e s3 e0 e1 hB3 k3 => ?_
    have he : e = 0 ∨ e = 1 := by omega
    rcases he with rfl | rfl
    · have t := tail x y none s3 hx hy (Ne.symm xy) (by simp) (by simp) hB3 k3
      simp at t
      simp [indexV, D.index, atI, ixN, Tg.putV]
      exact t
    · have t := tail x z none s3 hx hz (Ne.symm xz) (by simp) (by simp) hB3 k3
      simp at t
      simp [indexV, D.index, atI, ixN, Tg.putV]
      exact t
  · simp [indexV, D.index, atI, ixN, Tg.putV, asD, D.seq, Tg.slots, wipe, Tg.put, cmpV, deref, cs_ne, asB, xy, Ne.symm yz]
    refine draw_wp hB2 (by decide) (by decide +kernel) (by omega) fun e s3 e0 e1 hB3 k3 => ?_
    have he : e = 0 ∨ e = 1 := by omega
    rcases he with rfl | rfl
    · have t := tail y x none s3 hy hx xy (by simp) (by simp) hB3 k3
      simp at t
      simp [indexV, D.index, atI, ixN, Tg.putV]
      exact t
    · have t := tail y z none s3 hy hz (Ne.symm yz) (by simp) (by simp) hB3 k3
      simp at t
      simp [indexV, D.index, atI, ixN, Tg.putV]
      exact t
  · simp [indexV, D.index, atI, ixN, Tg.putV, asD, D.seq, Tg.slots, wipe, Tg.put, cmpV, deref, cs_ne, asB, xz, yz]
    refine draw_wp hB2 (by decide) (by decide +kernel) (by omega) fun e s3 e0 e1 hB3 k3 => ?_
    have he : e = 0 ∨ e = 1 := by omega
    rcases he with rfl | rfl
    · have t := tail z x none s3 hz hx xz (by simp) (by simp) hB3 k3
      simp at t
      simp [indexV, D.index, atI, ixN, Tg.putV]
      exact t
    · have t := tail z y none s3 hz hy yz (by simp) (by simp) hB3 k3
      simp at t
      simp [indexV, D.index, atI, ixN, Tg.putV]
      exact t
end
end Prog

namespace Prog
open Ir
theorem tupD (h : String) (bd : List String) (ps : List Pg) (hl : bd.length ≤ 2) (hp : ps.length ≤ 3) : D.bin .add (.tup [.str h]) (.tup (bd.map .str)) = some (.tup (.str h :: bd.map .str)) ∧ D.bin .add (.tup (.str h :: bd.map .str)) (.tup (ps.map Pg.d)) = some (nodeD h bd ps) := by
  constructor
  · simp only [D.bin]; rw [if_pos (by simp [LIM_eq]; omega)]; rfl
  · simp only [D.bin]; rw [if_pos (by simp [LIM_eq]; omega)]; rfl
set_option maxHeartbeats 8000000 in
theorem prog_all {B : Nat} {x y z : String} (xy : x ≠ y) (xz : x ≠ z) (yz : y ≠ z) (hx : NameOk x) (hy : NameOk y) (hz : NameOk z) : ∀ deep : Nat, 1 ≤ deep → ProgW B deep x y z := by
  intro deep
  induction deep with
  | zero => intro h; omega
  | succ deep ih =>
    intro _ n st env many odd calm pp hB he hel hm1 hm2 hn k
    obtain ⟨n, rfl⟩ : ∃ n', n = n' + 1 := ⟨n - 1, by omega⟩
    have hBl := hB.lt
    rw [callN_run T_f_law_prog, w_runFn]
    refine ⟨⟨rfl, by decide⟩, ?_⟩
    have hb : f_law_prog.body = f_law_prog.body.take 2 ++ ((f_law_prog.body.drop 2).take 3 ++ ((f_law_prog.body.drop 5).take 6 ++ f_law_prog.body.drop 11)) := rfl
    have hE : (([.ref B, .d (.lst [.str x, .str y, .str z]), .d (.lst (env.map .str)), .d (.int many), .d (.int ((deep + 1 : Nat) : Int)), .d (.int odd), .d (.int calm)] : List Val).map some ++ List.replicate (f_law_prog.many - f_law_prog.pars) none) = pE B x y z env many odd calm (deep + 1) ([none, none] ++ N15) := rfl
    rw [hE, hb]
    refine w_execs_app _ _ _ (pr_arms hB (by omega) hm1 fun offB arms s1 a0 a3 am ad hB1 k1 => ?_)
    dsimp only
    refine w_execs_app _ _ _ (pr_head hB1 (by omega) a0 a3 fun h v9 v10 s2 hh hB2 k2 => ?_)
    dsimp only
    refine w_execs_app _ _ _ (pr_mid hB2 (by omega) he (by omega) xy xz yz hx hy hz hh fun p bd v13 v14 s3 hpf hpo hps hph hbd hb2 hbN hHB hB3 k3 hlt hlast => ?_)
    dsimp only
    have kk := k1.trans k2
    have hkl := kk.1
    have kp3 : Keep B st s3 := kk.keep.trans k3
    have hr : D.bRange [.int arms] = some (.lst (rangeL 0 arms.toNat)) := by
      have := bRange_nat (n := arms.toNat) (by simp only [LIM_eq]; omega)
      rwa [show ((arms.toNat : Nat) : Int) = arms by omega] at this
    simp [f_law_prog, pE, bltV, bltD, derefs, deref, D.blt, hr, asD, D.seq]
    refine wp_loop (PrI B (s3.length - 1) st x y z env bd many odd calm arms (deep + 1) h offB v9 v10 (some (.d p.d)) v13 v14) ?_ ?_ _ _ _ ⟨many - 1 - arms, [], none, none, none, none, none, rfl, by omega, by simp [rangeL], by simp [rangeL]; omega, by simp [Pg.pls, rangeL]; omega, by simp, by simpa using hlast, hB3, kp3⟩
    · intro w xs σ s i
      obtain ⟨left, ps, x18, x19, x20, x21, x22, e, rest⟩ := id i
      have harm : 0 < arms := by
        have := rest.2.2.1
        simp at this
        omega
      have hdeep := ad harm
      refine ⟨σ.set 18 (some (.d w)), by rw [e]; rfl, ?_⟩
      exact prog_turn (by omega) (by omega) (by omega) hdeep he hbd hb2 hel hm2 a3 (by
        have := ih (by omega)
        simpa using this) i fun σ s q => q
    · rintro σ s ⟨left, ps, x18, x19, x20, x21, x22, rfl, l0, _, hpl, hsz, hpp, hc, hB4, kp4⟩
      simp only [List.length_nil, Int.natCast_zero, Int.mul_zero, Int.add_zero] at hpl hsz
      have fin : ∀ q : Pg, q.Ok [x, y, z] env → q.cm calm → q.isOff = false → (q.pl : Int) ≤ many → q.dp ≤ deep + 1 → (offB = true → pp.q (.d (.tup [.str "off", q.d])) (s.take st.length)) ∧ (offB = false → pp.q (.d q.d) (s.take st.length)) := fun q hf hc ho hs hh =>
        ⟨fun _ => k (.off q) _ (hf.off ho) hc (by simp only [Pg.pl]; omega) (by simp only [Pg.dp]; omega) (hB4.take hBl) (.of kp4), fun _ => k q _ hf hc (by omega) (by omega) (hB4.take hBl) (.of kp4)⟩
      by_cases c : 0 < arms
      · have hdeep := ad c
        have hc1 : calm = 2 → arms = 1 → h ∈ ONES := fun c2 a1 => by
          rcases hh with hh | ⟨_, hh | ⟨_, hh⟩⟩ | ⟨hh, _⟩ | ⟨hh, _⟩
          · omega
          · exact hh
          · exact absurd c2 hh
          · omega
          · omega
        obtain ⟨q, hqd, hqf, hqc, hqo, hqs, hqh⟩ := node_of (h := h) (env := env) (xs := bd) (ps := ps) (calm := calm) (S := Pg.pls ps) (H := deep) hpl (hHB c) hbN hc1 (fun i p hp => ⟨(hpp i p hp).1, (hpp i p hp).2.1, by have := (hpp i p hp).2.2; omega⟩) (Nat.le_refl _)
        obtain ⟨f1, f2⟩ := fin q hqf hqc hqo (by omega) (by omega)
        obtain ⟨t1, t2⟩ := tupD h bd ps hb2 (by omega)
        rw [← hqd] at t2
        simp [cmpV, deref, ci_gt, c, asB, asDs, bltV, bltD, derefs, D.blt, D.bTuple, hc, t1, t2, Tg.putV]
        cases offB with
        | true => simpa using f1 rfl
        | false => simpa using f2 rfl
      · have hcm : p.cm calm := by
          have : p.nofn = true := by
            cases p with
            | num _ => rfl
            | truth _ => rfl
            | name _ => rfl
            | nil => rfl
            | off p => simp [Pg.isOff] at hpo
            | one _ _ p => have := p.pl_pos; simp only [Pg.pl] at hps; omega
            | two _ _ p q => have := p.pl_pos; simp only [Pg.pl] at hps; omega
            | thr _ _ p q r => have := p.pl_pos; simp only [Pg.pl] at hps; omega
          exact ⟨fun _ => this, fun _ => p.nofn_light this⟩
        obtain ⟨f1, f2⟩ := fin p hpf hcm hpo (by omega) (by omega)
        simp [cmpV, deref, ci_gt, c, asB, asDs]
        cases offB with
        | true => simpa using f1 rfl
        | false => simpa using f2 rfl
end Prog

namespace Prog
open Ir
theorem pick8i {i : Int} (h0 : 0 ≤ i) (h1 : i < 8) : ∃ x : Int, 1 ≤ x ∧ x ≤ 40 ∧ atI [D.int 5, .int 10, .int 10, .int 16, .int 16, .int 24, .int 40, .int 40] i = some (.int x) := by
  have : i = 0 ∨ i = 1 ∨ i = 2 ∨ i = 3 ∨ i = 4 ∨ i = 5 ∨ i = 6 ∨ i = 7 := by omega
  rcases this with rfl | rfl | rfl | rfl | rfl | rfl | rfl | rfl
  · exact ⟨5, by decide, by decide, by simp [atI, ixN]⟩
  · exact ⟨10, by decide, by decide, by simp [atI, ixN]⟩
  · exact ⟨10, by decide, by decide, by simp [atI, ixN]⟩
  · exact ⟨16, by decide, by decide, by simp [atI, ixN]⟩
  · exact ⟨16, by decide, by decide, by simp [atI, ixN]⟩
  · exact ⟨24, by decide, by decide, by simp [atI, ixN]⟩
  · exact ⟨40, by decide, by decide, by simp [atI, ixN]⟩
  · exact ⟨40, by decide, by decide, by simp [atI, ixN]⟩
theorem pick3i {i : Int} (h0 : 0 ≤ i) (h1 : i < 3) : ∃ x : Nat, 1 ≤ x ∧ x ≤ 25 ∧ atI [D.int 4, .int 12, .int 25] i = some (.int (x : Int)) := by
  have : i = 0 ∨ i = 1 ∨ i = 2 := by omega
  rcases this with rfl | rfl | rfl
  · exact ⟨4, by decide, by decide, by simp [atI, ixN]⟩
  · exact ⟨12, by decide, by decide, by simp [atI, ixN]⟩
  · exact ⟨25, by decide, by decide, by simp [atI, ixN]⟩
set_option maxHeartbeats 8000000 in
theorem any_prog_wp {n B : Nat} {st : Store} {x y z : String} {pp : Post Val} (hB : Bag st B) (xy : x ≠ y) (xz : x ≠ z) (yz : y ≠ z) (hx : NameOk x) (hy : NameOk y) (hz : NameOk z) (hn : 40 ≤ n)
    (k : ∀ (p : Pg) s, p.Ok [x, y, z] [] → (16 < p.pl → p.light = true) → p.pl ≤ 40 → p.dp ≤ 25 → Bag s B → Kp B st s → pp.q (.d p.d) s) : @Wp _ (callN T n "_law_any_prog" [.ref B, .d (.lst [.str x, .str y, .str z])] st) pp := by
  obtain ⟨n, rfl⟩ : ∃ n', n = n' + 1 := ⟨n - 1, by omega⟩
  rw [callN_run T_f_law_any_prog]
  simp [f_law_any_prog, asDs]
  refine draw_wp hB (by decide) (by decide +kernel) (by omega) fun d s2 d0 d1 hB2 k2 => ?_
  obtain ⟨odd, _, ho⟩ := pick4 (a := 0) (b := 3) (c := 8) (d := 20) d0 d1
  have ho : D.index (.lst [.int 0, .int 3, .int 8, .int 20]) (.int d) = some (.int odd) := ho
  generalize D.lst [.int 0, .int 3, .int 8, .int 20] = OL at ho
  simp [indexV, ho, Tg.putV, asDs]
  refine draw_wp hB2 (by decide) (by decide +kernel) (by omega) fun e s3 e0 e1 hB3 k3 => ?_
  obtain ⟨v, v1, v40, hv⟩ := pick8i e0 e1
  have hv : D.index (.lst [.int 5, .int 10, .int 10, .int 16, .int 16, .int 24, .int 40, .int 40]) (.int e) = some (.int v) := hv
  simp [indexV, hv]
  refine draw_wp hB3 (by omega) (big_of (by omega) (by omega)) (by omega) fun m s4 m0 m1 hB4 k4 => ?_
  simp [deref, D.bin, Tg.putV, asDs]
  refine draw_wp hB4 (by decide) (by decide +kernel) (by omega) fun g s5 g0 g1 hB5 k5 => ?_
  obtain ⟨dp, dp1, dp25, hd⟩ := pick3i g0 g1
  have hd : D.index (.lst [.int 4, .int 12, .int 25]) (.int g) = some (.int (dp : Int)) := hd
  have kk := ((k2.trans k3).trans k4).trans k5
  have hgt : ∀ b : Bool, D.bInt [.bool b] = some (.int (if b then 1 else 0)) := fun _ => rfl
  simp [indexV, hd, cmpV, deref, ci_gt, bltV, bltD, derefs, D.blt, hgt]
  refine prog_all xy xz yz hx hy hz dp dp1 n s5 [] (1 + m) odd _ _ hB5 (by intro v hv; cases hv) (by simp; omega) (by omega) (by omega) (by omega) fun p s6 hf hc hs hh hB6 k6 => ?_
  simp [(kk.trans k6).take]
  exact k p s6 hf (fun h => hc.2 (by simp; omega)) (by omega) (by omega) hB6 (kk.trans k6)
end Prog

namespace Prog
open Ir
theorem pick_D {l : List D} {d : Int} (h0 : 0 ≤ d) (h1 : d < l.length) : ∃ x ∈ l, ∀ s, indexV s (.d (.lst l)) (.d (.int d)) = some x := by
  obtain ⟨k, rfl⟩ : ∃ k : Nat, d = k := ⟨d.toNat, by omega⟩
  have hk : k < l.length := by omega
  refine ⟨l[k], List.getElem_mem hk, fun s => ?_⟩
  simp only [indexV, D.index]
  exact atI_get (List.getElem?_eq_getElem hk)
theorem str_sl (z : String) (lo hi : Option Int) (h : z.length ≤ 300) : ∃ y, D.slice (.str z) lo hi = some (.str y) ∧ y.length ≤ z.length := by
  refine ⟨String.ofList (cut z.toList lo hi), ?_, ?_⟩
  · simp only [D.slice]; rw [if_pos (by rw [LIM_eq]; omega)]
  · have h1 : (cut z.toList lo hi).length ≤ z.toList.length := by unfold cut; rw [List.length_take, List.length_drop]; omega
    simpa [String.length_toList] using h1
theorem str_sl9 (z : String) (h : z.length ≤ 300) : ∃ y, D.slice (.str z) none (some 9) = some (.str y) ∧ y.length ≤ 9 := by
  refine ⟨String.ofList (cut z.toList none (some 9)), ?_, ?_⟩
  · simp only [D.slice]; rw [if_pos (by rw [LIM_eq]; omega)]
  · rw [cut_head _ _ (by omega)]
    simp [List.length_take]
    omega
theorem str_add (x y : String) (h1 : x.length ≤ 1000) (h2 : y.length ≤ 1000) : D.bin .add (.str x) (.str y) = some (.str (x ++ y)) := by
  simp only [D.bin]; rw [if_pos (by rw [LIM_eq]; omega)]
def SG : String := " !\"#$&'()*+,-./0123456789:;<=>?@ABCDEFGHIJKLMNOPQRSTUVWXYZ[\\]^_`{|}~\nabcxyz"
theorem SG_len : SG.length = 73 + (SG.length - 73) ∧ 1 ≤ SG.length ∧ SG.length ≤ 100 := by decide +kernel
theorem odd_wp {n : Nat} {s : Store} {z : String} {pp : Post Val} (hB : Bag s 0) (hz : z.length ≤ 100) (hn : 3 ≤ n)
    (k : ∀ (r : String) s', r.length ≤ 9 → Bag s' 0 → Kp 0 s s' → pp.q (.d (.str r)) s') : @Wp _ (callN T n "_law_odd_text" [.ref 0, .d (.str z)] s) pp := by
  obtain ⟨n, rfl⟩ : ∃ n', n = n' + 1 := ⟨n - 1, by omega⟩
  obtain ⟨_, g1, g2⟩ := SG_len
  have hlz : ∀ s, bltV .len [.d (.str z)] s = .ok (.d (.int (z.length : Int))) s := fun s => by
    simp only [bltV, lenDic, bltD, derefs, deref, D.blt, D.bLen]; rw [if_pos (by rw [LIM_eq]; omega)]
  have hlg : ∀ s, bltV .len [.d (.str SG)] s = .ok (.d (.int (SG.length : Int))) s := fun s => by
    simp only [bltV, lenDic, bltD, derefs, deref, D.blt, D.bLen]; rw [if_pos (by rw [LIM_eq]; omega)]
  have hix : ∀ j : Int, 0 ≤ j → j < SG.length → ∃ c, ∀ s, indexV s (.d (.str SG)) (.d (.int j)) = some (.str (String.singleton c)) := fun j h0 h1 => by
    obtain ⟨i, rfl⟩ : ∃ i : Nat, j = i := ⟨j.toNat, by omega⟩
    have hi : i < SG.toList.length := by rw [String.length_toList]; omega
    refine ⟨SG.toList[i], fun s => ?_⟩
    have ha : atI SG.toList (i : Int) = some SG.toList[i] := by
      unfold atI ixN
      simp [hi]
    simp only [indexV, D.index]
    rw [if_pos (by rw [LIM_eq]; omega), ha]
    rfl
  have hadd : D.bin .add (.int (z.length : Int)) (.int 1) = some (.int ((z.length : Int) + 1)) := rfl
  rw [callN_run T_f_law_odd_text]
  unfold f_law_odd_text
  have hSG : (" !\"#$&'()*+,-./0123456789:;<=>?@ABCDEFGHIJKLMNOPQRSTUVWXYZ[\\]^_`{|}~\nabcxyz" : String) = SG := rfl
  rw [hSG]
  generalize SG = G at *
  simp [Tg.putV, hlz, hlg, deref, hadd]
  refine draw_wp hB (by omega) (big_of (by omega) (by omega)) (by omega) fun d s1 d0 d1 hB1 t1 => ?_
  obtain ⟨y1, e1, l1⟩ := str_sl z none (some d) (by omega)
  simp [Tg.putV, asI, e1, hlg]
  refine draw_wp hB1 (by omega) (big_of (by omega) (by omega)) (by omega) fun j s2 j0 j1 hB2 t2 => ?_
  obtain ⟨c, ec⟩ := hix j j0 j1
  have lc : (String.singleton c).length = 1 := by simp
  generalize String.singleton c = cs at ec lc
  have e2 := str_add y1 cs (by omega) (by omega)
  have l3 : (y1 ++ cs).length ≤ 101 := by rw [String.length_append]; omega
  generalize y1 ++ cs = Y3 at e2 l3
  simp [ec, deref, e2]
  refine draw_wp hB2 (by decide) (by decide +kernel) (by omega) fun g s3 g0 g1' hB3 t3 => ?_
  have e3 : D.bin .add (.int d) (.int g) = some (.int (d + g)) := rfl
  obtain ⟨y4, e4, l4⟩ := str_sl z (some (d + g)) none (by omega)
  have e5 := str_add Y3 y4 (by omega) (by omega)
  obtain ⟨y6, e6, l6⟩ := str_sl9 (Y3 ++ y4) (by rw [String.length_append]; omega)
  generalize Y3 ++ y4 = Y5 at *
  simp [deref, e3, asI, e4, e5, e6, ((t1.trans t2).trans t3).take]
  exact k y6 s3 l6 hB3 ((t1.trans t2).trans t3)
theorem thing_wp {n : Nat} {s : Store} {x y z : String} {pp : Post Val} (hB : Bag s 0) (hx : x.length ≤ 8) (hy : y.length ≤ 8) (hz : z.length ≤ 8) (hn : 5 ≤ n)
    (k : ∀ (r : D) s', okT 4 r = true → r.dep ≤ 1 → Bag s' 0 → Kp 0 s s' → pp.q (.d r) s') : @Wp _ (callN T n "_law_thing" [.ref 0, .d (.lst [.str x, .str y, .str z])] s) pp := by
  obtain ⟨n, rfl⟩ : ∃ n', n = n' + 1 := ⟨n - 1, by omega⟩
  rw [callN_run T_f_law_thing]
  simp [f_law_thing]
  refine draw_wp hB (by decide) (by decide +kernel) (by omega) fun way s1 w0 w1 hB1 t1 => ?_
  simp [Tg.putV]
  refine odd_wp hB1 (by decide) (by omega) fun r s2 hr hB2 t2 => ?_
  simp [asDs, Tg.putV]
  refine draw_wp hB2 (by decide) (by decide +kernel) (by omega) fun d s3 d0 d1 hB3 t3 => ?_
  obtain ⟨v, hv, ev⟩ := pick_D (l := [.str x, .str y, .str z]) d0 (by simpa using d1)
  have hv' : ∃ u : String, v = .str u ∧ u.length ≤ 8 := by
    simp only [List.mem_cons, List.not_mem_nil, or_false] at hv
    rcases hv with rfl | rfl | rfl
    · exact ⟨_, rfl, hx⟩
    · exact ⟨_, rfl, hy⟩
    · exact ⟨_, rfl, hz⟩
  obtain ⟨u, rfl, hu⟩ := hv'
  have hadd : D.bin .add (.lst [.int 0, .bool true, .str "a", .str "fn", .str "abcdefghi", .str r, .str "", .tup [.str "nil"], .tup []]) (.lst [.tup [.str "name", .str u]]) = some (.lst [.int 0, .bool true, .str "a", .str "fn", .str "abcdefghi", .str r, .str "", .tup [.str "nil"], .tup [], .tup [.str "name", .str u]]) := by
    simp only [D.bin]; rw [if_pos (by simp [LIM_eq])]; rfl
  obtain ⟨g, hg, eg⟩ := pick_D (l := [.int 0, .bool true, .str "a", .str "fn", .str "abcdefghi", .str r, .str "", .tup [.str "nil"], .tup [], .tup [.str "name", .str u]]) w0 (by simpa using w1)
  have hgood : okT 4 g = true ∧ g.dep ≤ 1 := by
    simp only [List.mem_cons, List.not_mem_nil, or_false] at hg
    have q1 : "a".length = 1 := by decide
    have q2 : "fn".length = 2 := by decide
    have q3 : "abcdefghi".length = 9 := by decide
    have q4 : "".length = 0 := by decide
    have q5 : "nil".length = 3 := by decide
    have q6 : "name".length = 4 := by decide
    rcases hg with rfl | rfl | rfl | rfl | rfl | rfl | rfl | rfl | rfl | rfl <;> simp [okT, okTs, D.dep, D.depAll, q1, q2, q3, q4, q5, q6] <;> (try omega)
  simp [ev, asDs, deref, hadd, eg, ((t1.trans t2).trans t3).take]
  exact k g s3 hgood.1 hgood.2 hB3 ((t1.trans t2).trans t3)
/-! ### a tuple otherwise by one step -/
/-- what a result's parts are -/
def El (w m : Nat) (e : D) : Prop := okT w e = true ∧ e.dep ≤ m
theorem tr_tup {w m : Nat} {l : List D} (hl : l.length ≤ w) (h : ∀ e ∈ l, El w m e) : okT w (.tup l) = true ∧ (D.tup l).dep ≤ m + 1 := by
  refine ⟨okT_tup.mpr ⟨hl, fun x hx => (h x hx).1⟩, ?_⟩
  have : D.depAll l ≤ m := depAll_le.mpr fun x hx => (h x hx).2
  simp only [D.dep]; omega
theorem tadd {xs ys : List D} (h : xs.length + ys.length ≤ 1000) : D.bin .add (.tup xs) (.tup ys) = some (.tup (xs ++ ys)) := by
  simp only [D.bin]; rw [if_pos (by rw [LIM_eq]; omega)]
theorem sl_to {xs : List D} {k : Int} (h : 0 ≤ k) : D.slice (.tup xs) none (some k) = some (.tup (xs.take k.toNat)) := by
  simp only [D.slice]; rw [cut_head _ _ h]
theorem sl_from {xs : List D} {k : Int} (h : 0 ≤ k) : D.slice (.tup xs) (some k) none = some (.tup (xs.drop k.toNat)) := by
  simp only [D.slice]; rw [cut_tail _ _ h]
theorem sl_mid {xs : List D} {k : Int} (h : 0 ≤ k) : ∃ ys, D.slice (.tup xs) (some k) (some (k + 1)) = some (.tup ys) ∧ ys.length ≤ 1 ∧ ∀ y ∈ ys, y ∈ xs := by
  refine ⟨cut xs (some k) (some (k + 1)), rfl, ?_, fun y hy => cut_mem hy⟩
  unfold cut sIx
  rw [List.length_take]
  simp only
  split <;> split <;> omega
end Prog

namespace Prog
open Ir
/-- a way chosen by a number -/
theorem w_way {C : Calls} {σ : Env} {s : Store} {A R : List Stm} {pp : Post Out} {way c : Int} (hσ : σ[3]? = some (some (.d (.int way))))
    (h1 : way = c → @Wp _ (execs C A σ s) ⟨fun o s' => ∃ v, o = .ret v ∧ pp.q (.ret v) s'⟩) (h2 : way ≠ c → @Wp _ (execs C R σ s) pp) :
    @Wp _ (execs C (.ite (.cmp .eq (.var 3) (.con (.int c))) A [] :: R) σ s) pp := by
  have hc : @Wp _ (exec C (.ite (.cmp .eq (.var 3) (.con (.int c))) A []) σ s) ⟨fun o s1 => @Wp _ (match o with
    | .nx σ1 => execs C R σ1 s1
    | o => .ok o s1) pp⟩ := by
    by_cases e : way = c
    · simp [hσ, cmpV, deref, ci_eq, asB, e]
      refine (h1 e).mono fun o s' ⟨v, e1, e2⟩ => ?_
      subst e1
      exact e2
    · simp [hσ, cmpV, deref, ci_eq, asB, e]
      exact h2 e
  rw [w_execs_cons]
  exact hc
/-- what the ways find -/
abbrev bE (xs : List D) (nm : Val) (way : Int) (hs : List D) (j : Nat) (th : D) : Env := [some (.ref 0), some (.d (.tup xs)), some nm, some (.d (.int way)), some (.d (.lst hs)), some (.d (.int (j : Int))), some (.d th), none]
section
variable {C : Calls} {s : Store} {xs : List D} {nm : Val} {way : Int} {hs : List D} {j : Nat} {th : D} (hx : xs.length ≤ 50)
theorem ax_1 (j : Nat) : D.bin .add (.int (j : Int)) (.int 1) = some (.int ((j : Int) + 1)) := rfl
theorem ax_to (xs : List D) (j : Nat) : D.slice (.tup xs) none (some (j : Int)) = some (.tup (xs.take j)) := by rw [sl_to (by omega)]; rfl
theorem ax_from (xs : List D) (j : Nat) : D.slice (.tup xs) (some (j : Int)) none = some (.tup (xs.drop j)) := by rw [sl_from (by omega)]; rfl
theorem ax_from1 (xs : List D) (j : Nat) : D.slice (.tup xs) (some ((j : Int) + 1)) none = some (.tup (xs.drop (j + 1))) := by rw [sl_from (by omega)]; rfl
include hx in
theorem lt_50 : (xs.take j).length ≤ 50 ∧ (xs.drop j).length ≤ 50 ∧ (xs.drop (j + 1)).length ≤ 50 := by
  simp only [List.length_take, List.length_drop]; omega
include hx in
theorem be_last : eval C (.bin .add (.bin .add (.sli (.var 1) none (some (.var 5))) (.tup [.var 6])) (.sli (.var 1) (some (.bin .add (.var 5) (.con (.int 1)))) none)) (bE xs nm way hs j th) s = .ok (.d (.tup (xs.take j ++ [th] ++ xs.drop (j + 1)))) s := by
  obtain ⟨l1, l2, l3⟩ := lt_50 (j := j) hx
  have e1 := tadd (xs := xs.take j) (ys := [th]) (by simp; omega)
  have e2 := tadd (xs := xs.take j ++ [th]) (ys := xs.drop (j + 1)) (by rw [List.length_append]; simp; omega)
  have p1 := ax_1 j; have p2 := ax_to xs j; have p3 := ax_from1 xs j
  generalize xs.take j ++ [th] ++ xs.drop (j + 1) = Z at *
  generalize xs.take j ++ [th] = Y at *
  generalize xs.take j = A at *
  generalize xs.drop (j + 1) = B at *
  simp [asI, deref, p1, p2, p3, asDs, e1, e2]
include hx in
theorem be_1 : eval C (.bin .add (.sli (.var 1) none (some (.var 5))) (.sli (.var 1) (some (.bin .add (.var 5) (.con (.int 1)))) none)) (bE xs nm way hs j th) s = .ok (.d (.tup (xs.take j ++ xs.drop (j + 1)))) s := by
  obtain ⟨l1, l2, l3⟩ := lt_50 (j := j) hx
  have e1 := tadd (xs := xs.take j) (ys := xs.drop (j + 1)) (by omega)
  have p1 := ax_1 j; have p2 := ax_to xs j; have p3 := ax_from1 xs j
  generalize xs.take j ++ xs.drop (j + 1) = Z at *
  generalize xs.take j = A at *
  generalize xs.drop (j + 1) = B at *
  simp [asI, deref, p1, p2, p3, e1]
include hx in
theorem be_2 : ∃ ms : List D, ms.length ≤ 1 ∧ (∀ m ∈ ms, m ∈ xs) ∧ eval C (.bin .add (.bin .add (.sli (.var 1) none (some (.var 5))) (.sli (.var 1) (some (.var 5)) (some (.bin .add (.var 5) (.con (.int 1)))))) (.sli (.var 1) (some (.var 5)) none)) (bE xs nm way hs j th) s = .ok (.d (.tup (xs.take j ++ ms ++ xs.drop j))) s := by
  obtain ⟨l1, l2, l3⟩ := lt_50 (j := j) hx
  obtain ⟨ms, sM, lM, eM⟩ := sl_mid (xs := xs) (k := (j : Int)) (by omega)
  refine ⟨ms, lM, eM, ?_⟩
  have e1 := tadd (xs := xs.take j) (ys := ms) (by omega)
  have e2 := tadd (xs := xs.take j ++ ms) (ys := xs.drop j) (by rw [List.length_append]; omega)
  have p1 := ax_1 j; have p2 := ax_to xs j; have p3 := ax_from xs j
  generalize xs.take j ++ ms ++ xs.drop j = Z at *
  generalize xs.take j ++ ms = Y at *
  generalize xs.take j = A at *
  generalize xs.drop j = B at *
  simp [asI, deref, p1, p2, p3, sM, e1, e2]
include hx in
theorem be_3 : eval C (.bin .add (.bin .add (.sli (.var 1) none (some (.var 5))) (.tup [.var 6])) (.sli (.var 1) (some (.var 5)) none)) (bE xs nm way hs j th) s = .ok (.d (.tup (xs.take j ++ [th] ++ xs.drop j))) s := by
  obtain ⟨l1, l2, l3⟩ := lt_50 (j := j) hx
  have e1 := tadd (xs := xs.take j) (ys := [th]) (by simp; omega)
  have e2 := tadd (xs := xs.take j ++ [th]) (ys := xs.drop j) (by rw [List.length_append]; simp; omega)
  have p2 := ax_to xs j; have p3 := ax_from xs j
  generalize xs.take j ++ [th] ++ xs.drop j = Z at *
  generalize xs.take j ++ [th] = Y at *
  generalize xs.take j = A at *
  generalize xs.drop j = B at *
  simp [asI, deref, p2, p3, asDs, e1, e2]
include hx in
theorem be_4 : eval C (.bin .add (.sli (.var 1) none (some (.con (.int 1)))) (.blt .revT [.sli (.var 1) (some (.con (.int 1))) none])) (bE xs nm way hs j th) s = .ok (.d (.tup (xs.take 1 ++ (xs.drop 1).reverse))) s := by
  obtain ⟨l1, l2, l3⟩ := lt_50 (j := 1) hx
  have e1 := tadd (xs := xs.take 1) (ys := (xs.drop 1).reverse) (by rw [List.length_reverse]; omega)
  have p2 : D.slice (.tup xs) none (some 1) = some (.tup (xs.take 1)) := ax_to xs 1
  have p3 : D.slice (.tup xs) (some 1) none = some (.tup (xs.drop 1)) := ax_from xs 1
  have hr : bltV .revT [.d (.tup (xs.drop 1))] s = .ok (.d (.tup (xs.drop 1).reverse)) s := by simp only [bltV, bltD, derefs, deref, D.blt, D.bRevT]
  generalize xs.take 1 ++ (xs.drop 1).reverse = Z at *
  generalize (xs.drop 1).reverse = Y at *
  generalize xs.take 1 = A at *
  generalize xs.drop 1 = B at *
  simp [asI, deref, p2, p3, hr, e1]
theorem be_5 : eval C (.tup [.con (.str "off"), .var 1]) (bE xs nm way hs j th) s = .ok (.d (.tup [.str "off", .tup xs])) s := by
  simp [asDs]
end
theorem bw_ret {C : Calls} {e : Ex} {σ : Env} {s : Store} {r : D} {pp : Post Out} (h : eval C e σ s = .ok (.d r) s) (k : pp.q (.ret (.d r)) s) : @Wp _ (execs C [.ret e] σ s) ⟨fun o s' => ∃ v, o = .ret v ∧ pp.q (.ret v) s'⟩ := by
  rw [w_execs_cons, w_exec_ret, h]
  exact ⟨_, rfl, k⟩
theorem bw_0 {n : Nat} {s : Store} {xs : List D} {nm : Val} {way : Int} {hs : List D} {j : Nat} {th : D} {pp : Post Out} (hB : Bag s 0) (hn : 3 ≤ n) (hx : xs.length ≤ 50) (hl : hs.length = 24)
    (k : ∀ h ∈ hs, ∀ s', Bag s' 0 → Kp 0 s s' → pp.q (.ret (.d (.tup (h :: xs.drop 1)))) s') :
    @Wp _ (execs (callN T n) [.ret (.bin .add (.tup [.idx (.var 4) (.call "_law_draw" [.var 0, .con (.int 24)])]) (.sli (.var 1) (some (.con (.int 1))) none))] (bE xs nm way hs j th) s) ⟨fun o s' => ∃ v, o = .ret v ∧ pp.q (.ret v) s'⟩ := by
  obtain ⟨l1, l2, l3⟩ := lt_50 (j := 1) hx
  have p3 : D.slice (.tup xs) (some 1) none = some (.tup (xs.drop 1)) := ax_from xs 1
  have hk : ∀ h, D.bin .add (.tup [h]) (.tup (xs.drop 1)) = some (.tup (h :: xs.drop 1)) := fun h => tadd (xs := [h]) (by simp only [List.length_singleton]; omega)
  generalize xs.drop 1 = B at *
  simp
  refine draw_wp hB (by decide) (by decide +kernel) (by omega) fun d s1 d0 d1 hB1 t1 => ?_
  obtain ⟨v, hv, ev⟩ := pick_D (l := hs) d0 (by omega)
  simp [ev, asDs, asI, deref, p3, hk]
  exact k v hv s1 hB1 t1
theorem bw_6 {C : Calls} {s : Store} {xs : List D} {x y z : String} {way : Int} {hs : List D} {j : Nat} {th : D} {pp : Post Out}
    (k : ∀ u, (u = x ∨ u = y ∨ u = z) → pp.q (.ret (.d (.tup [.str "fn", .str u, .tup xs]))) s) :
    @Wp _ (execs C [.ret (.tup [.con (.str "fn"), .idx (.var 2) (.bin .mod (.var 5) (.con (.int 3))), .var 1])] (bE xs (.d (.lst [.str x, .str y, .str z])) way hs j th) s) ⟨fun o s' => ∃ v, o = .ret v ∧ pp.q (.ret v) s'⟩ := by
  have hm : D.bin .mod (.int (j : Int)) (.int 3) = some (.int ((j : Int) % 3)) := rfl
  obtain ⟨v, hv, ev⟩ := pick_D (l := [.str x, .str y, .str z]) (d := (j : Int) % 3) (by omega) (by simp; omega)
  simp only [List.mem_cons, List.not_mem_nil, or_false] at hv
  simp [deref, hm, ev, asDs]
  rcases hv with rfl | rfl | rfl
  · exact k x (.inl rfl)
  · exact k y (.inr (.inl rfl))
  · exact k z (.inr (.inr rfl))
abbrev e7 : Ex := .bin .add (.bin .add (.sli (.var 1) none (some (.con (.int 1)))) (.tup [.var 7])) (.sli (.var 1) (some (.con (.int 2))) none)
theorem be_7 {C : Calls} {s : Store} {xs : List D} {r : D} {v0 v2 v3 v4 v5 v6 : Option Val} (hx : xs.length ≤ 50) : eval C e7 [v0, some (.d (.tup xs)), v2, v3, v4, v5, v6, some (.d r)] s = .ok (.d (.tup (xs.take 1 ++ [r] ++ xs.drop 2))) s := by
  have p1 : D.slice (.tup xs) none (some 1) = some (.tup (xs.take 1)) := ax_to xs 1
  have p2 : D.slice (.tup xs) (some 2) none = some (.tup (xs.drop 2)) := ax_from xs 2
  have l1 : (xs.take 1).length ≤ 50 := by simp only [List.length_take]; omega
  have l2 : (xs.drop 2).length ≤ 50 := by simp only [List.length_drop]; omega
  have e1 := tadd (xs := xs.take 1) (ys := [r]) (by simp; omega)
  have e2 := tadd (xs := xs.take 1 ++ [r]) (ys := xs.drop 2) (by rw [List.length_append]; simp; omega)
  generalize xs.take 1 ++ [r] ++ xs.drop 2 = Z at *
  generalize xs.take 1 ++ [r] = Y at *
  generalize xs.take 1 = A at *
  generalize xs.drop 2 = B at *
  simp [asI, deref, p1, p2, asDs, e1, e2]
abbrev b7 : List Stm := [.asg (.name 7) (.ite (.cmp .eq (.call "_law_draw" [.var 0, .con (.int 2)]) (.con (.int 0))) (.idx (.var 2) (.call "_law_draw" [.var 0, .con (.int 3)])) (.call "_law_odd_text" [.var 0, .idx (.var 1) (.con (.int 1))])),
    .ret (.ite (.cmp .eq (.call "_law_draw" [.var 0, .con (.int 4)]) (.con (.int 0))) e7 (.call "_law_all_named" [.var 1, .idx (.var 1) (.con (.int 1)), .var 7]))]
theorem bw_7a {n w m : Nat} {s : Store} {xs : List D} {x y z : String} {way : Int} {hs : List D} {j : Nat} {th : D} {o r : String} {pp : Post Out} (hB : Bag s 0) (hn : m + 8 ≤ n) (hx : xs.length ≤ 50) (hw : w ≤ 50) (hok : okT w (.tup xs) = true) (hdp : (D.tup xs).dep ≤ m) (ho : xs[1]? = some (.str o)) (hr : r.length ≤ 100)
    (k1 : ∀ s', Bag s' 0 → Kp 0 s s' → pp.q (.ret (.d (.tup (xs.take 1 ++ [.str r] ++ xs.drop 2)))) s')
    (k2 : ∀ s', Bag s' 0 → Kp 0 s s' → pp.q (.ret (.d (renT o r (.tup xs)))) s') :
    @Wp _ (execs (callN T n) [.ret (.ite (.cmp .eq (.call "_law_draw" [.var 0, .con (.int 4)]) (.con (.int 0))) e7 (.call "_law_all_named" [.var 1, .idx (.var 1) (.con (.int 1)), .var 7]))] [some (.ref 0), some (.d (.tup xs)), some (.d (.lst [.str x, .str y, .str z])), some (.d (.int way)), some (.d (.lst hs)), some (.d (.int (j : Int))), some (.d th), some (.d (.str r))] s) ⟨fun o s' => ∃ v, o = .ret v ∧ pp.q (.ret v) s'⟩ := by
  have pi : D.index (.tup xs) (.int 1) = some (.str o) := by
    simp only [D.index]; exact atI_get (i := 1) ho
  have e3 : ∀ st, callN T n "_law_all_named" [.d (.tup xs), .d (.str o), .d (.str r)] st = .ok (.d (renT o r (.tup xs))) st := fun st => all_named_ok (by omega) _ hok n (by omega)
  have e4 := fun s => be_7 (C := callN T n) (s := s) (r := .str r) (v0 := some (.ref 0)) (v2 := some (.d (.lst [.str x, .str y, .str z]))) (v3 := some (.d (.int way))) (v4 := some (.d (.lst hs))) (v5 := some (.d (.int (j : Int)))) (v6 := some (.d th)) hx
  generalize renT o r (.tup xs) = RR at *
  generalize xs.take 1 ++ [.str r] ++ xs.drop 2 = Z at *
  generalize D.tup xs = DX at *
  generalize e7 = E7 at *
  simp
  refine draw_wp hB (by decide) (by decide +kernel) (by omega) fun d s1 d0 d1 hB1 t1 => ?_
  by_cases c : d = 0
  · simp [cmpV, deref, ci_eq, c, asB]
    rw [e4]
    exact ⟨_, rfl, k1 s1 hB1 t1⟩
  · simp [cmpV, deref, ci_eq, c, asB, indexV, pi, e3]
    exact k2 s1 hB1 t1
theorem bw_7 {n w m : Nat} {s : Store} {xs : List D} {x y z : String} {way : Int} {hs : List D} {j : Nat} {th : D} {o : String} {pp : Post Out} (hB : Bag s 0) (hn : m + 8 ≤ n) (hx : xs.length ≤ 50) (hw : w ≤ 50) (hok : okT w (.tup xs) = true) (hdp : (D.tup xs).dep ≤ m) (ho : xs[1]? = some (.str o)) (hol : o.length ≤ 100)
    (h1 : x.length ≤ 8) (h2 : y.length ≤ 8) (h3 : z.length ≤ 8)
    (k1 : ∀ (r : String) s', r.length ≤ 9 → Bag s' 0 → Kp 0 s s' → pp.q (.ret (.d (.tup (xs.take 1 ++ [.str r] ++ xs.drop 2)))) s')
    (k2 : ∀ (r : String) s', r.length ≤ 9 → Bag s' 0 → Kp 0 s s' → pp.q (.ret (.d (renT o r (.tup xs)))) s') :
    @Wp _ (execs (callN T n) b7 (bE xs (.d (.lst [.str x, .str y, .str z])) way hs j th) s) ⟨fun o s' => ∃ v, o = .ret v ∧ pp.q (.ret v) s'⟩ := by
  have pi : D.index (.tup xs) (.int 1) = some (.str o) := by
    simp only [D.index]; exact atI_get (i := 1) ho
  have fin : ∀ (r : String) s1, r.length ≤ 9 → Bag s1 0 → Kp 0 s s1 → @Wp _ (execs (callN T n) [.ret (.ite (.cmp .eq (.call "_law_draw" [.var 0, .con (.int 4)]) (.con (.int 0))) e7 (.call "_law_all_named" [.var 1, .idx (.var 1) (.con (.int 1)), .var 7]))] [some (.ref 0), some (.d (.tup xs)), some (.d (.lst [.str x, .str y, .str z])), some (.d (.int way)), some (.d (.lst hs)), some (.d (.int (j : Int))), some (.d th), some (.d (.str r))] s1) ⟨fun o s' => ∃ v, o = .ret v ∧ pp.q (.ret v) s'⟩ := fun r s1 hr hB1 t1 =>
    bw_7a hB1 hn hx hw hok hdp ho (by omega) (fun s' b t => k1 r s' hr b (t1.trans t)) (fun s' b t => k2 r s' hr b (t1.trans t))
  rw [w_execs_cons]
  obtain ⟨R, hR⟩ : ∃ R : List Stm, R = [.ret (.ite (.cmp .eq (.call "_law_draw" [.var 0, .con (.int 4)]) (.con (.int 0))) e7 (.call "_law_all_named" [.var 1, .idx (.var 1) (.con (.int 1)), .var 7]))] := ⟨_, rfl⟩
  rw [← hR] at fin ⊢
  simp
  refine draw_wp hB (by decide) (by decide +kernel) (by omega) fun d s1 d0 d1 hB1 t1 => ?_
  by_cases c : d = 0
  · simp [cmpV, deref, ci_eq, c, asB]
    refine draw_wp hB1 (by decide) (by decide +kernel) (by omega) fun e s2 e0 e1 hB2 t2 => ?_
    obtain ⟨v, hv, ev⟩ := pick_D (l := [.str x, .str y, .str z]) (d := e) e0 (by simpa using e1)
    simp only [List.mem_cons, List.not_mem_nil, or_false] at hv
    simp [ev, Tg.putV]
    rcases hv with rfl | rfl | rfl
    · exact fin x s2 (by omega) hB2 (t1.trans t2)
    · exact fin y s2 (by omega) hB2 (t1.trans t2)
    · exact fin z s2 (by omega) hB2 (t1.trans t2)
  · simp [cmpV, deref, ci_eq, c, asB, indexV, pi]
    refine odd_wp hB1 hol (by omega) fun r s2 hr hB2 t2 => ?_
    simp [Tg.putV]
    exact fin r s2 hr hB2 (t1.trans t2)
end Prog

namespace Prog
open Ir
def HS1 : List String := ["num", "truth", "name", "fn", "rec", "call", "let", "if", "plus", "less", "pair", "first", "second", "nil"]
def HS2 : List String := ["cons", "head", "tail", "none", "off", "int", "list", "true", "", "Fn"]
theorem HS_all : (HS1 ++ HS2).length = 24 ∧ (∀ u ∈ HS1 ++ HS2, u.length ≤ 100) := by decide +kernel
theorem HS_add : D.bin .add (.lst (HS1.map .str)) (.lst (HS2.map .str)) = some (.lst ((HS1 ++ HS2).map .str)) := by
  have h1 : HS1.length = 14 ∧ HS2.length = 10 := by decide
  simp only [D.bin]
  rw [if_pos (by simp only [List.length_map, LIM_eq]; omega), ← List.map_append]
theorem HS1_ev {C : Calls} {σ : Env} {s : Store} : eval C (.lst [.con (.str "num"), .con (.str "truth"), .con (.str "name"), .con (.str "fn"), .con (.str "rec"), .con (.str "call"), .con (.str "let"), .con (.str "if"), .con (.str "plus"), .con (.str "less"), .con (.str "pair"), .con (.str "first"), .con (.str "second"), .con (.str "nil")]) σ s = .ok (.d (.lst (HS1.map .str))) s := by
  simp [asDs, HS1]
theorem HS2_ev {C : Calls} {σ : Env} {s : Store} : eval C (.lst [.con (.str "cons"), .con (.str "head"), .con (.str "tail"), .con (.str "none"), .con (.str "off"), .con (.str "int"), .con (.str "list"), .con (.str "true"), .con (.str ""), .con (.str "Fn")]) σ s = .ok (.d (.lst (HS2.map .str))) s := by
  simp [asDs, HS2]
abbrev b5 : List Stm := [.asg (.name 3) (.call "_law_draw" [.var 0, .con (.int 9)]),
    .asg (.name 4) (.lst [.con (.str "num"), .con (.str "truth"), .con (.str "name"), .con (.str "fn"), .con (.str "rec"), .con (.str "call"), .con (.str "let"), .con (.str "if"), .con (.str "plus"), .con (.str "less"), .con (.str "pair"), .con (.str "first"), .con (.str "second"), .con (.str "nil")]),
    .asg (.name 4) (.bin .add (.var 4) (.lst [.con (.str "cons"), .con (.str "head"), .con (.str "tail"), .con (.str "none"), .con (.str "off"), .con (.str "int"), .con (.str "list"), .con (.str "true"), .con (.str ""), .con (.str "Fn")])),
    .asg (.name 5) (.call "_law_draw" [.var 0, .blt .max [.con (.int 1), .blt .len [.var 1]]]),
    .asg (.name 6) (.call "_law_thing" [.var 0, .var 2])]
theorem bent_first {n : Nat} {s : Store} {x y z : String} {xs : List D} {pp : Post Out} (hB : Bag s 0) (hx : x.length ≤ 8) (hy : y.length ≤ 8) (hz : z.length ≤ 8) (hl : xs.length ≤ 50) (hn : 5 ≤ n)
    (k : ∀ (way : Int) (j : Nat) (th : D) s', 0 ≤ way → way < 9 → j ≤ xs.length → okT 4 th = true → th.dep ≤ 1 → Bag s' 0 → Kp 0 s s' → pp.q (.nx (bE xs (.d (.lst [.str x, .str y, .str z])) way ((HS1 ++ HS2).map .str) j th)) s') :
    @Wp _ (execs (callN T n) b5 [some (.ref 0), some (.d (.tup xs)), some (.d (.lst [.str x, .str y, .str z])), none, none, none, none, none] s) pp := by
  obtain ⟨M, hM⟩ : ∃ M : Int, M = (if (xs.length : Int) > 1 then (xs.length : Int) else 1) := ⟨_, rfl⟩
  have hM1 : 1 ≤ M ∧ M ≤ 51 := by rw [hM]; split <;> omega
  have hM2 : ∀ j : Int, 0 ≤ j → j < M → j ≤ xs.length := fun j h0 h1 => by rw [hM] at h1; split at h1 <;> omega
  have hlen : ∀ s, bltV .len [.d (.tup xs)] s = .ok (.d (.int (xs.length : Int))) s := fun s => rfl
  have hmx : ∀ s, bltV .max [.d (.int 1), .d (.int (xs.length : Int))] s = .ok (.d (.int M)) s := fun s => by
    simp only [bltV, bltD, derefs, deref, D.blt, D.bMax, hM]
  have h1 := fun σ s => HS1_ev (C := callN T n) (σ := σ) (s := s)
  have h2 := fun σ s => HS2_ev (C := callN T n) (σ := σ) (s := s)
  have h3 := HS_add
  unfold b5
  generalize (Ex.lst [.con (.str "num"), .con (.str "truth"), .con (.str "name"), .con (.str "fn"), .con (.str "rec"), .con (.str "call"), .con (.str "let"), .con (.str "if"), .con (.str "plus"), .con (.str "less"), .con (.str "pair"), .con (.str "first"), .con (.str "second"), .con (.str "nil")]) = E1 at *
  generalize (Ex.lst [.con (.str "cons"), .con (.str "head"), .con (.str "tail"), .con (.str "none"), .con (.str "off"), .con (.str "int"), .con (.str "list"), .con (.str "true"), .con (.str ""), .con (.str "Fn")]) = E2 at *
  generalize (HS1.map D.str) = L1 at *
  generalize (HS2.map D.str) = L2 at *
  generalize ((HS1 ++ HS2).map D.str) = L3 at *
  simp
  refine draw_wp hB (by decide) (by decide +kernel) (by omega) fun way s1 w0 w1 hB1 t1 => ?_
  simp [Tg.putV, h1, h2, deref, h3, hlen, hmx]
  refine draw_wp hB1 (by omega) (big_of (by omega) (by omega)) (by omega) fun at' s2 a0 a1 hB2 t2 => ?_
  have hat := hM2 at' a0 a1
  simp [Tg.putV]
  refine thing_wp hB2 hx hy hz (by omega) fun th s3 ht1 ht2 hB3 t3 => ?_
  have hk := k way at'.toNat th s3 w0 w1 (by omega) ht1 ht2 hB3 ((t1.trans t2).trans t3)
  simp [Tg.putV]
  rw [show at' = ((at'.toNat : Nat) : Int) by omega]
  exact hk
end Prog

namespace Prog
open Ir
abbrev bR : List Stm := [
    .ite (.cmp .eq (.var 3) (.con (.int 0))) [.ret (.bin .add (.tup [.idx (.var 4) (.call "_law_draw" [.var 0, .con (.int 24)])]) (.sli (.var 1) (some (.con (.int 1))) none))] [],
    .ite (.cmp .eq (.var 3) (.con (.int 1))) [.ret (.bin .add (.sli (.var 1) none (some (.var 5))) (.sli (.var 1) (some (.bin .add (.var 5) (.con (.int 1)))) none))] [],
    .ite (.cmp .eq (.var 3) (.con (.int 2))) [.ret (.bin .add (.bin .add (.sli (.var 1) none (some (.var 5))) (.sli (.var 1) (some (.var 5)) (some (.bin .add (.var 5) (.con (.int 1)))))) (.sli (.var 1) (some (.var 5)) none))] [],
    .ite (.cmp .eq (.var 3) (.con (.int 3))) [.ret (.bin .add (.bin .add (.sli (.var 1) none (some (.var 5))) (.tup [.var 6])) (.sli (.var 1) (some (.var 5)) none))] [],
    .ite (.cmp .eq (.var 3) (.con (.int 4))) [.ret (.bin .add (.sli (.var 1) none (some (.con (.int 1)))) (.blt .revT [.sli (.var 1) (some (.con (.int 1))) none]))] [],
    .ite (.cmp .eq (.var 3) (.con (.int 5))) [.ret (.tup [.con (.str "off"), .var 1])] [],
    .ite (.cmp .eq (.var 3) (.con (.int 6))) [.ret (.tup [.con (.str "fn"), .idx (.var 2) (.bin .mod (.var 5) (.con (.int 3))), .var 1])] [],
    .ite (.and (.cmp .eq (.var 3) (.con (.int 7))) (.and (.cmp .gt (.blt .len [.var 1]) (.con (.int 1))) (.isi (.idx (.var 1) (.con (.int 1))) [.str]))) b7 [],
    .ret (.bin .add (.bin .add (.sli (.var 1) none (some (.var 5))) (.tup [.var 6])) (.sli (.var 1) (some (.bin .add (.var 5) (.con (.int 1)))) none))]
theorem bent_body : f_law_bent.body = b5 ++ bR := rfl
/-- the seventh way, where there is a text -/
theorem w_seven {C : Calls} {w : Nat} {s : Store} {xs : List D} {nm : Val} {way : Int} {hs : List D} {j : Nat} {th : D} {A R : List Stm} {pp : Post Out} (hok : okT w (.tup xs) = true)
    (h1 : ∀ o : String, xs[1]? = some (.str o) → @Wp _ (execs C A (bE xs nm way hs j th) s) ⟨fun o s' => ∃ v, o = .ret v ∧ pp.q (.ret v) s'⟩) (h2 : @Wp _ (execs C R (bE xs nm way hs j th) s) pp) :
    @Wp _ (execs C (.ite (.and (.cmp .eq (.var 3) (.con (.int 7))) (.and (.cmp .gt (.blt .len [.var 1]) (.con (.int 1))) (.isi (.idx (.var 1) (.con (.int 1))) [.str]))) A [] :: R) (bE xs nm way hs j th) s) pp := by
  have hlen : ∀ s, bltV .len [.d (.tup xs)] s = .ok (.d (.int (xs.length : Int))) s := fun s => rfl
  have hno : ∀ b : Bool, b = false → @Wp _ (if b = true then execs C A (bE xs nm way hs j th) s else execs C [] (bE xs nm way hs j th) s) ⟨fun o s1 => @Wp _ (match o with
    | .nx σ1 => execs C R σ1 s1
    | o => .ok o s1) pp⟩ := fun b e => by subst e; simp; exact h2
  rw [w_execs_cons]
  by_cases e : way = 7
  · by_cases g : (xs.length : Int) > 1
    · have hi : xs[1]? = some xs[1] := List.getElem?_eq_getElem (by omega)
      have pi : D.index (.tup xs) (.int 1) = some xs[1] := by
        simp only [D.index]; exact atI_get (i := 1) hi
      have hx : okT w xs[1] = true := (okT_tup.mp hok).2 _ (List.getElem_mem _)
      generalize xs[1] = X at *
      cases X with
      | str o =>
        simp [cmpV, deref, ci_eq, e, asB, hlen, ci_gt, g, indexV, pi, D.tyOk]
        subst e
        refine (h1 o hi).mono fun o' s' ⟨v, e1, e2⟩ => ?_
        subst e1
        exact e2
      | non => simp [okT] at hx
      | lst _ => simp [okT] at hx
      | ro _ => simp [okT] at hx
      | bool b => simp [cmpV, deref, ci_eq, e, asB, hlen, ci_gt, g, indexV, pi, D.tyOk]; subst e; exact h2
      | int b => simp [cmpV, deref, ci_eq, e, asB, hlen, ci_gt, g, indexV, pi, D.tyOk]; subst e; exact h2
      | tup b => simp [cmpV, deref, ci_eq, e, asB, hlen, ci_gt, g, indexV, pi, D.tyOk]; subst e; exact h2
    · simp [cmpV, deref, ci_eq, e, asB, hlen, ci_gt, g]; subst e; exact h2
  · simp [cmpV, deref, ci_eq, e, asB]; exact h2
theorem bent_rest {n w m : Nat} {s : Store} {x y z : String} {xs : List D} {way : Int} {j : Nat} {th : D} {pp : Post Out} (hB : Bag s 0) (hx : x.length ≤ 8) (hy : y.length ≤ 8) (hz : z.length ≤ 8) (hw2 : w ≤ 50) (hok : okT w (.tup xs) = true) (hdp : (D.tup xs).dep ≤ m) (hn : m + 8 ≤ n) (hj : j ≤ xs.length) (hth : El (w + 1) m th)
    (k : ∀ (r : List D) s', r.length ≤ w + 1 → (∀ e ∈ r, El (w + 1) m e) → Bag s' 0 → Kp 0 s s' → pp.q (.ret (.d (.tup r))) s') (hw : 2 ≤ w) :
    @Wp _ (execs (callN T n) bR (bE xs (.d (.lst [.str x, .str y, .str z])) way ((HS1 ++ HS2).map .str) j th) s) pp := by
  have hxl := (okT_tup.mp hok).1
  have hx5 : xs.length ≤ 50 := by omega
  have hm1 : 1 ≤ m := by simp only [D.dep] at hdp; omega
  have hel : ∀ e ∈ xs, El (w + 1) m e := fun e he => by
    have h1 := (okT_tup.mp hok).2 e he
    have h2 := depAll_le.mp (show D.depAll xs ≤ m by simp only [D.dep] at hdp; omega) e he
    exact ⟨okT_mono (by omega) e h1, h2⟩
  have hself : El (w + 1) m (.tup xs) := ⟨okT_mono (by omega) _ hok, hdp⟩
  have hstr : ∀ u : String, u.length ≤ 100 → El (w + 1) m (.str u) := fun u hu => ⟨by simp [okT, hu], by simp [D.dep]⟩
  have htk : ∀ j, ∀ e ∈ xs.take j, El (w + 1) m e := fun j e he => hel e (List.mem_of_mem_take he)
  have hdr : ∀ j, ∀ e ∈ xs.drop j, El (w + 1) m e := fun j e he => hel e (List.mem_of_mem_drop he)
  have app : ∀ {a b : List D}, (∀ e ∈ a, El (w + 1) m e) → (∀ e ∈ b, El (w + 1) m e) → ∀ e ∈ a ++ b, El (w + 1) m e := fun h1 h2 e he => by
    rcases List.mem_append.mp he with h | h
    · exact h1 e h
    · exact h2 e h
  have one : ∀ {a : D}, El (w + 1) m a → ∀ e ∈ [a], El (w + 1) m e := fun h e he => by
    rw [List.mem_singleton] at he; rw [he]; exact h
  have lens : ∀ i, (xs.take i).length ≤ i ∧ (xs.take i).length + (xs.drop i).length = xs.length ∧ (xs.take i).length + (xs.drop (i + 1)).length ≤ xs.length := fun i => by
    simp only [List.length_take, List.length_drop]; omega
  have lj := lens j
  have kk := Kp.refl 0 s
  have hs3 : ∀ u : String, (u = x ∨ u = y ∨ u = z) → El (w + 1) m (.str u) := fun u hu => hstr u (by rcases hu with h | h | h <;> rw [h] <;> omega)
  refine w_way rfl (fun _ => ?_) fun _ => ?_
  · refine bw_0 hB (by omega) hx5 (by rw [List.length_map]; exact HS_all.1) fun h hh s' b t => ?_
    obtain ⟨u, hu, rfl⟩ := List.mem_map.mp hh
    refine k _ s' ?_ (fun e he => ?_) b t
    · have := lens 1; simp only [List.length_cons, List.length_drop]; omega
    · rcases List.mem_cons.mp he with rfl | he
      · exact hstr u (HS_all.2 u hu)
      · exact hdr 1 e he
  refine w_way rfl (fun _ => ?_) fun _ => ?_
  · exact bw_ret (be_1 hx5) (k _ s (by rw [List.length_append]; omega) (app (htk j) (hdr (j + 1))) hB kk)
  refine w_way rfl (fun _ => ?_) fun _ => ?_
  · obtain ⟨ms, m1, m2, m3⟩ := be_2 (C := callN T n) (s := s) (nm := .d (.lst [.str x, .str y, .str z])) (way := way) (hs := (HS1 ++ HS2).map .str) (j := j) (th := th) hx5
    exact bw_ret m3 (k _ s (by rw [List.length_append, List.length_append]; omega) (app (app (htk j) fun e he => hel e (m2 e he)) (hdr j)) hB kk)
  refine w_way rfl (fun _ => ?_) fun _ => ?_
  · exact bw_ret (be_3 hx5) (k _ s (by rw [List.length_append, List.length_append, List.length_singleton]; omega) (app (app (htk j) (one hth)) (hdr j)) hB kk)
  refine w_way rfl (fun _ => ?_) fun _ => ?_
  · have := lens 1
    exact bw_ret (be_4 hx5) (k _ s (by rw [List.length_append, List.length_reverse]; omega) (app (htk 1) fun e he => hdr 1 e (List.mem_reverse.mp he)) hB kk)
  refine w_way rfl (fun _ => ?_) fun _ => ?_
  · refine bw_ret be_5 (k _ s (by simp; omega) (fun e he => ?_) hB kk)
    rcases List.mem_cons.mp he with rfl | he
    · exact hstr "off" (by decide +kernel)
    · exact one hself e he
  refine w_way rfl (fun _ => ?_) fun _ => ?_
  · refine bw_6 fun u hu => k _ s (by simp; omega) (fun e he => ?_) hB kk
    rcases List.mem_cons.mp he with rfl | he
    · exact hstr "fn" (by decide +kernel)
    rcases List.mem_cons.mp he with rfl | he
    · exact hs3 u hu
    · exact one hself e he
  refine w_seven hok (fun o ho => ?_) ?_
  · have hol : o.length ≤ 100 := by
      have := (okT_tup.mp hok).2 _ (List.mem_of_getElem? ho)
      simpa [okT] using this
    refine bw_7 hB hn hx5 hw2 hok hdp ho hol hx hy hz (fun r s' hr b t => ?_) fun r s' hr b t => ?_
    · have := lens 1; have := lens 2
      refine k _ s' ?_ (app (app (htk 1) (one (hstr r (by omega)))) (hdr 2)) b t
      rw [List.length_append, List.length_append, List.length_singleton, List.length_drop]; omega
    · cases xs with
      | nil => simp at ho
      | cons x0 xs =>
        have hre := rens_ok (w := w) (o := o) (n := r) (by omega) xs (by simp only [okT, okTs, Bool.and_eq_true] at hok; exact hok.2.2)
        simp only [renT]
        refine k _ s' ?_ (fun e he => ?_) b t
        · rw [List.length_cons, hre.2.2]; simp only [List.length_cons] at hxl; omega
        · rcases List.mem_cons.mp he with rfl | he
          · exact hel _ (by simp)
          · rw [renTs_map] at he
            obtain ⟨e', he', rfl⟩ := List.mem_map.mp he
            obtain ⟨g1, g2⟩ := hel e' (List.mem_cons_of_mem _ he')
            have := ren_ok (o := o) (n := r) (by omega) e' g1
            exact ⟨this.1, by rw [this.2.1]; exact g2⟩
  · refine (bw_ret (pp := pp) (be_last hx5) (k _ s (by rw [List.length_append, List.length_append, List.length_singleton]; omega) (app (app (htk j) (one hth)) (hdr (j + 1))) hB kk)).mono fun o s' ⟨v, e1, e2⟩ => ?_
    rw [e1]; exact e2
theorem bent_wp {n w m : Nat} {s : Store} {x y z : String} {xs : List D} {pp : Post Val} (hB : Bag s 0) (hx : x.length ≤ 8) (hy : y.length ≤ 8) (hz : z.length ≤ 8) (hw : 4 ≤ w) (hw2 : w ≤ 50) (hok : okT w (.tup xs) = true) (hdp : (D.tup xs).dep ≤ m) (hn : m + 10 ≤ n)
    (k : ∀ (r : List D) s', okT (w + 1) (.tup r) = true → (D.tup r).dep ≤ m + 1 → Bag s' 0 → Kp 0 s s' → pp.q (.d (.tup r)) s') : @Wp _ (callN T n "_law_bent" [.ref 0, .d (.tup xs), .d (.lst [.str x, .str y, .str z])] s) pp := by
  obtain ⟨n, rfl⟩ : ∃ n', n = n' + 1 := ⟨n - 1, by omega⟩
  have hm1 : 1 ≤ m := by simp only [D.dep] at hdp; omega
  have hxl := (okT_tup.mp hok).1
  rw [callN_run T_f_law_bent, w_runFn]
  refine ⟨⟨rfl, by decide⟩, ?_⟩
  rw [bent_body]
  refine w_execs_app _ _ _ ?_
  have hE0 : (([.ref 0, .d (.tup xs), .d (.lst [.str x, .str y, .str z])] : List Val).map some ++ List.replicate (f_law_bent.many - f_law_bent.pars) none) = [some (.ref 0), some (.d (.tup xs)), some (.d (.lst [.str x, .str y, .str z])), none, none, none, none, none] := rfl
  rw [hE0]
  refine bent_first hB hx hy hz (by omega) (by omega) fun way j th s1 w0 w1 hj ht1 ht2 hB1 t1 => ?_
  refine bent_rest hB1 hx hy hz hw2 hok hdp (by omega) hj ⟨okT_mono (by omega) _ ht1, by omega⟩ (fun r s2 h1 h2 hB2 t2 => ?_) (by omega)
  have tt := t1.trans t2
  obtain ⟨g1, g2⟩ := tr_tup h1 h2
  show @Wp _ (leave s.length (.d (.tup r)) s2) pp
  rw [leave_d, tt.take]
  exact k r s2 g1 g2 hB2 tt
end Prog

namespace Prog
open Ir
/-- the part that a way leads to -/
def sub : List Nat → D → Option D
  | [], d => some d
  | k :: p, .tup xs => match xs[k]? with
    | some x => sub p x
    | none => none
  | _ :: _, _ => none
theorem sub_cons {k : Nat} {p : List Nat} {d e : D} (h : sub (k :: p) d = some e) : ∃ xs x, d = .tup xs ∧ xs[k]? = some x ∧ sub p x = some e := by
  cases d with
  | tup xs =>
    simp only [sub] at h
    cases hx : xs[k]? with
    | none => rw [hx] at h; cases h
    | some x => rw [hx] at h; exact ⟨xs, x, rfl, hx, h⟩
  | _ => simp [sub] at h
theorem sub_app : ∀ (p q : List Nat) (d : D), sub (p ++ q) d = (sub p d).bind (sub q)
  | [], q, d => rfl
  | k :: p, q, d => by
    cases d with
    | tup xs =>
      simp only [List.cons_append, sub]
      cases xs[k]? with
      | none => rfl
      | some x => exact sub_app p q x
    | _ => simp [sub]
theorem sub_ok {w : Nat} : ∀ (p : List Nat) (d e : D), okT w d = true → sub p d = some e → okT w e = true ∧ e.dep + p.length ≤ d.dep
  | [], d, e, h, hs => by simp only [sub, Option.some.injEq] at hs; subst hs; exact ⟨h, Nat.le_refl _⟩
  | k :: p, d, e, h, hs => by
    obtain ⟨xs, x, rfl, hx, hs⟩ := sub_cons hs
    have hm := List.mem_of_getElem? hx
    obtain ⟨h1, h2⟩ := sub_ok p x e ((okT_tup.mp h).2 x hm) hs
    have := depAll_le.mp (Nat.le_refl (D.depAll xs)) x hm
    refine ⟨h1, ?_⟩
    simp only [D.dep, List.length_cons]; omega
theorem sub_at {p : List Nat} {d e : D} (h : sub p d = some e) {j : Nat} (hj : j < p.length) : ∃ xs, sub (p.take j) d = some (.tup xs) ∧ p[j] < xs.length := by
  have e1 : p = p.take j ++ p[j] :: p.drop (j + 1) := by rw [← List.drop_eq_getElem_cons hj, List.take_append_drop]
  rw [e1, sub_app] at h
  cases ha : sub (p.take j) d with
  | none => rw [ha] at h; cases h
  | some a =>
    rw [ha, Option.bind_some] at h
    obtain ⟨xs, x, rfl, hx, _⟩ := sub_cons h
    exact ⟨xs, rfl, (List.getElem?_eq_some_iff.mp hx).1⟩
theorem keep_set {a b : Store} {c : Nat} (h : Keep 0 a b) (hc : a.length ≤ c) (x : Cell) : Keep 0 a (b.set c x) :=
  ⟨by simpa using h.1, fun i hi hn => by rw [List.getElem?_set_ne (by omega)]; exact h.2 i hi hn⟩
def nI (p : List Nat) : List D := p.map fun k : Nat => D.int (k : Int)
theorem nI_len (p : List Nat) : (nI p).length = p.length := by rw [nI, List.length_map]
theorem nI_get (p : List Nat) (i : Nat) (h : i < p.length) : (nI p)[i]? = some (.int (p[i] : Nat)) := by rw [nI, List.getElem?_map, List.getElem?_eq_getElem h]; rfl
theorem nI_app (p q : List Nat) : nI (p ++ q) = nI p ++ nI q := by rw [nI, List.map_append]; rfl
/-- where tuples stand -/
def tIx (xs : List D) : List Nat := (List.range xs.length).filter fun k => match xs[k]? with | some x => isTup x | none => false
theorem tIx_mem {xs : List D} {k : Nat} (h : k ∈ tIx xs) : ∃ ys, xs[k]? = some (.tup ys) := by
  obtain ⟨h1, h2⟩ := List.mem_filter.mp h
  cases hx : xs[k]? with
  | none => rw [hx] at h2; cases h2
  | some x => rw [hx] at h2; obtain ⟨ys, rfl⟩ := isTup_iff.mp h2; exact ⟨ys, rfl⟩
theorem comp_filter {f : D → Store → Res (Option D)} {s : Store} (q : Nat → D) (p : Nat → Bool) : ∀ l : List Nat, (∀ k ∈ l, f (q k) s = .ok (if p k then some (q k) else none) s) → compL f (l.map q) s = .ok ((l.filter p).map q) s
  | [], _ => rfl
  | k :: l, h => by
    have ih := comp_filter (f := f) (s := s) q p l fun k' hk => h k' (List.mem_cons_of_mem _ hk)
    rw [List.map_cons, compL, h k (by simp), Res.bind_ok, ih, Res.bind_ok]
    cases hp : p k with
    | true => rw [List.filter_cons_of_pos hp]; rfl
    | false => rw [List.filter_cons_of_neg (by simp [hp])]; rfl
theorem tIx_comp {C : Calls} {s : Store} {xs : List D} {v0 v1 v2 v3 v5 v6 v7 v8 v9 v10 v11 : Option Val} : compL (compStep (eval C f_law_within_c0) (conds C f_law_within_k0) (.name 11) [v0, v1, v2, v3, some (.d (.tup xs)), v5, v6, v7, v8, v9, v10, v11]) (rangeL 0 xs.length) s = .ok (nI (tIx xs)) s := by
  rw [range_nat]
  refine comp_filter (fun i => D.int (i : Nat)) _ _ fun k hk => ?_
  have hk : k < xs.length := List.mem_range.mp hk
  have hx := List.getElem?_eq_getElem hk
  have ha : D.index (.tup xs) (.int (k : Int)) = some xs[k] := by simp only [D.index]; exact atI_get hx
  rw [hx]
  cases hb : isTup xs[k] with
  | true => simp [compStep, Tg.put, indexV, ha, deref, isTup_ty, hb, asB, asD]
  | false => simp [compStep, Tg.put, indexV, ha, deref, isTup_ty, hb, asB]
theorem atI_last {α : Type} (xs : List α) (y : α) : atI (xs ++ [y]) (-1) = some y := by
  have h : ixN (xs ++ [y]).length (-1) = some xs.length := by
    unfold ixN
    rw [if_neg (by decide), if_pos (by rw [List.length_append, List.length_singleton]; omega)]
    congr 1
    rw [List.length_append, List.length_singleton]; omega
  rw [atI, h, Option.bind_some]
  simp
/-- one more step down, or none -/
theorem with_b0 {n w : Nat} {s : Store} {prog here : D} {p : List Nat} {nm : Val} {c : Nat} {x5 x9 : Option Val} {pp : Post Out} (hB : Bag s 0) (hn : 2 ≤ n) (hc : s[c]? = some (.lst (nI p))) (hc0 : c ≠ 0) (hs : sub p prog = some here) (ht : isTup here = true) (hok : okT w prog = true) (hw : w ≤ 60) (hm : prog.dep ≤ 60)
    (k : ∀ (p' : List Nat) (here' : D) x9' s', sub p' prog = some here' → isTup here' = true → s'[c]? = some (.lst (nI p')) → Bag s' 0 → s'.length = s.length → (∀ i, i ≠ 0 → i ≠ c → s'[i]? = s[i]?) → pp.q (.nx [some (.ref 0), some (.d prog), some nm, some (.ref c), some (.d here'), x5, none, none, none, x9', none, none]) s') :
    @Wp _ (execs (callN T n) f_law_within_b0 [some (.ref 0), some (.d prog), some nm, some (.ref c), some (.d here), x5, none, none, none, x9, none, none] s) pp := by
  obtain ⟨xs, rfl⟩ := isTup_iff.mp ht
  have hh := sub_ok p prog _ hok hs
  have hxl := (okT_tup.mp hh.1).1
  have hlen : ∀ s, bltV .len [.d (.tup xs)] s = .ok (.d (.int (xs.length : Int))) s := fun s => rfl
  have hrg : ∀ s, bltV .range [.d (.int (xs.length : Int))] s = .ok (.d (.lst (rangeL 0 xs.length))) s := fun s => by
    simp only [bltV, bltD, derefs, deref, D.blt]; rw [bRange_nat (by rw [LIM_eq]; omega)]
  have hsq : D.seq (.lst (rangeL 0 xs.length)) = some (rangeL 0 xs.length) := rfl
  have hcmp := fun s v5 => tIx_comp (C := callN T n) (s := s) (xs := xs) (v0 := some (.ref 0)) (v1 := some (.d prog)) (v2 := some nm) (v3 := some (.ref c)) (v5 := v5) (v6 := none) (v7 := none) (v8 := none) (v9 := x9) (v10 := none) (v11 := none)
  have hne : ∀ s, cmpV .ne s (.d (.lst (nI (tIx xs)))) (.d (.lst [])) = some (!decide (tIx xs = [])) := fun s => by
    have hf : fine (.lst (nI (tIx xs))) = true := by
      have := fine_intlist ((tIx xs).map fun k : Nat => (k : Int))
      rw [List.map_map] at this; exact this
    cases hL : tIx xs with
    | nil => simp [nI, cmpV, deref, D.cmp, fine, D.dep, D.depAll, D.eqv, D.eqvAll]
    | cons a l =>
      rw [hL] at hf
      simp only [cmpV, deref, D.cmp, hf, show fine (.lst []) = true from rfl, Bool.and_true, if_true]
      simp [D.eqv, D.eqvAll, nI]
  have hl2 : ∀ s, bltV .len [.d (.lst (nI (tIx xs)))] s = .ok (.d (.int ((tIx xs).length : Int))) s := fun s => by
    simp [bltV, lenDic, bltD, derefs, deref, D.blt, D.bLen, nI_len]
  have hb : f_law_within_b0 = [.asg (.name 9) (.comp (f_law_within_c0) (.name 11) (.blt .range [.blt .len [.var 4]]) f_law_within_k0),
    .ite (.cmp .ne (.var 9) (.lst [])) [.ex (.mth .append (.var 3) [.idx (.var 9) (.call "_law_draw" [.var 0, .blt .len [.var 9]])]),
    .asg (.name 4) (.idx (.var 4) (.idx (.var 3) (.neg (.con (.int 1)))))] []] := rfl
  rw [hb]
  have htl : (tIx xs).length ≤ 1000 := by
    have : (tIx xs).length ≤ (List.range xs.length).length := List.length_filter_le _ _
    rw [List.length_range] at this; omega
  generalize hE0 : f_law_within_c0 = E0 at *
  generalize hE1 : f_law_within_k0 = E1 at *
  generalize rangeL 0 xs.length = RL at *
  have hasD : asD (.d (.lst RL)) = some (.lst RL) := rfl
  simp [hlen, hrg, hasD, hsq, Tg.slots, wipe, hcmp, Tg.putV, asDs, hne, asB]
  by_cases hnil : tIx xs = []
  · simp [hnil]
    exact k p _ _ s hs ht hc hB rfl fun _ _ _ => rfl
  · have hpos : 0 < (tIx xs).length := List.length_pos_iff.mpr hnil
    have hmo : mthOk .append (.ref c) s = true := by simp only [mthOk, hc]
    simp [hnil, hmo, hl2]
    refine draw_wp hB (by omega) (big_of (by omega) (by omega)) hn fun d s1 d0 d1 hB1 t1 => ?_
    obtain ⟨i, rfl⟩ : ∃ i : Nat, d = i := ⟨d.toNat, by omega⟩
    have hi : i < (tIx xs).length := by omega
    have hix : indexV s1 (.d (.lst (nI (tIx xs)))) (.d (.int (i : Int))) = some (.int ((tIx xs)[i] : Nat)) := by
      simp only [indexV, D.index]; exact atI_get (nI_get _ i hi)
    obtain ⟨ys, hy⟩ := tIx_mem (List.getElem_mem hi)
    have hc1 : s1[c]? = some (.lst (nI p)) := by rw [t1.2 c hc0]; exact hc
    have hpl : p.length ≤ 60 := by omega
    have hap : mthV .append (.ref c) [.d (.int ((tIx xs)[i] : Nat))] s1 = .ok (.d .non) (s1.set c (.lst (nI (p ++ [(tIx xs)[i]])))) := by
      simp only [mthV, mAppend, hc1, nI_len]
      rw [if_pos (by rw [LIM_eq]; omega)]
      rw [nI_app]; rfl
    have hc2 : (s1.set c (.lst (nI (p ++ [(tIx xs)[i]]))))[c]? = some (.lst (nI (p ++ [(tIx xs)[i]]))) := set_at hc1 _
    have hsub : sub (p ++ [(tIx xs)[i]]) prog = some (.tup ys) := by
      have : sub [(tIx xs)[i]] (.tup xs) = some (.tup ys) := by rw [sub, hy]; rfl
      rw [sub_app, hs, Option.bind_some, this]
    generalize (tIx xs)[i] = K at *
    have hlast : indexV (s1.set c (.lst (nI (p ++ [K])))) (.ref c) (.d (.int (-1))) = some (.int (K : Nat)) := by
      simp only [indexV, hc2, D.index]
      have : nI (p ++ [K]) = nI p ++ [D.int (K : Int)] := nI_app p [K]
      rw [this, atI_last]
    have hdn : indexV (s1.set c (.lst (nI (p ++ [K])))) (.d (.tup xs)) (.d (.int (K : Nat))) = some (.tup ys) := by
      simp only [indexV, D.index]; exact atI_get hy
    simp [hix, hap, asI, hlast, hdn, Tg.putV]
    refine k (p ++ [K]) _ _ _ hsub rfl hc2 ?_ (by simp [t1.1]) fun j j0 jc => by rw [List.getElem?_set_ne (Ne.symm jc)]; exact t1.2 j j0
    obtain ⟨b, e, ib⟩ := hB1
    exact ⟨b, by rw [List.getElem?_set_ne hc0]; exact e, ib⟩
theorem with_down {C : Calls} {s : Store} {v0 v1 v2 v3 v4 v5 v6 v7 v8 v9 : Option Val} : ∀ (q : List Nat) (d e : D) (x11 : Option Val), sub q d = some e → ∃ y, loopL (Tg.name 11).putF (execs C f_law_within_b1) (nI q) [v0, v1, v2, v3, v4, v5, v6, v7, v8, v9, some (.d d), x11] s = .ok (.nx [v0, v1, v2, v3, v4, v5, v6, v7, v8, v9, some (.d e), y]) s
  | [], d, e, x11, h => by
    simp only [sub, Option.some.injEq] at h
    subst h
    exact ⟨x11, rfl⟩
  | k :: q, d, e, x11, h => by
    obtain ⟨xs, x, rfl, hx, hs⟩ := sub_cons h
    obtain ⟨y, hy⟩ := with_down q x e (some (.d (.int (k : Int)))) hs
    refine ⟨y, ?_⟩
    have ha : D.index (.tup xs) (.int (k : Int)) = some x := by simp only [D.index]; exact atI_get hx
    have hc : nI (k :: q) = .int (k : Int) :: nI q := rfl
    rw [hc, loopL]
    simp [Tg.putF_eq, Tg.put, f_law_within_b1, indexV, ha, Tg.putV]
    exact hy
theorem be_up {C : Calls} {s : Store} {xs : List D} {r : D} {v0 v1 v2 v3 v4 v5 v7 v8 v9 v11 : Option Val} {K : Nat} (hi : eval C (.idx (.var 3) (.var 5)) [v0, v1, v2, v3, v4, v5, some (.d r), v7, v8, v9, some (.d (.tup xs)), v11] s = .ok (.d (.int (K : Int))) s) (hx : xs.length ≤ 100) :
    eval C (.bin .add (.bin .add (.sli (.var 10) none (some (.idx (.var 3) (.var 5)))) (.tup [.var 6])) (.sli (.var 10) (some (.bin .add (.idx (.var 3) (.var 5)) (.con (.int 1)))) none)) [v0, v1, v2, v3, v4, v5, some (.d r), v7, v8, v9, some (.d (.tup xs)), v11] s = .ok (.d (.tup (xs.take K ++ [r] ++ xs.drop (K + 1)))) s := by
  have hl : (xs.take K).length ≤ 100 ∧ (xs.drop (K + 1)).length ≤ 100 := by simp only [List.length_take, List.length_drop]; omega
  have e1 := tadd (xs := xs.take K) (ys := [r]) (by rw [List.length_singleton]; omega)
  have e2 := tadd (xs := xs.take K ++ [r]) (ys := xs.drop (K + 1)) (by rw [List.length_append, List.length_singleton]; omega)
  have p1 := ax_1 K; have p2 := ax_to xs K; have p3 := ax_from1 xs K
  generalize Ex.idx (.var 3) (.var 5) = EI at *
  generalize xs.take K ++ [r] ++ xs.drop (K + 1) = Z at *
  generalize xs.take K ++ [r] = Y at *
  generalize xs.take K = A at *
  generalize xs.drop (K + 1) = B at *
  simp [hi, deref, p1, p2, p3, asI, asDs, e1, e2]
/-- one step up -/
theorem with_b2 {C : Calls} {w : Nat} {s : Store} {prog : D} {r : List D} {p : List Nat} {here : D} {nm h0 : Val} {c k : Nat} {x9 x10 x11 : Option Val} {pp : Post Out} (hc : s[c]? = some (.lst (nI p))) (hs : sub p prog = some here) (hok : okT w prog = true) (hw : w ≤ 60) (hm : prog.dep ≤ 60) (hk : k < p.length)
    (h1 : okT (w + 1) (.tup r) = true) (h2 : (D.tup r).dep + (k + 1) ≤ 61)
    (kk : ∀ (r' : List D) x10' x11', okT (w + 1) (.tup r') = true → (D.tup r').dep + k ≤ 61 → pp.q (.nx [some h0, some (.d prog), some nm, some (.ref c), some (.d here), some (.d (.int (k : Int))), some (.d (.tup r')), none, none, x9, x10', x11']) s) :
    @Wp _ (execs C f_law_within_b2 [some h0, some (.d prog), some nm, some (.ref c), some (.d here), some (.d (.int (k : Int))), some (.d (.tup r)), none, none, x9, x10, x11] s) pp := by
  obtain ⟨xs, hsub, hlt⟩ := sub_at hs hk
  obtain ⟨g1, g2⟩ := sub_ok _ _ _ hok hsub
  have hxl := (okT_tup.mp g1).1
  have hsl : D.slice (.lst (nI p)) none (some (k : Int)) = some (.lst (nI (p.take k))) := by
    simp only [D.slice]; rw [cut_head _ _ (by omega), Int.toNat_natCast, nI, ← List.map_take]; rfl
  obtain ⟨y, hy⟩ := with_down (C := C) (s := s) (v0 := some h0) (v1 := some (.d prog)) (v2 := some nm) (v3 := some (.ref c)) (v4 := some (.d here)) (v5 := some (.d (.int (k : Int)))) (v6 := some (.d (.tup r))) (v7 := none) (v8 := none) (v9 := x9) _ _ _ x11 hsub
  have hix : indexV s (.ref c) (.d (.int (k : Int))) = some (.int (p[k] : Nat)) := by
    simp only [indexV, hc, D.index]; exact atI_get (nI_get p k hk)
  have hb : f_law_within_b2 = [.asg (.name 10) (.var 1),
    .loop (.name 11) (.sli (.var 3) none (some (.var 5))) f_law_within_b1,
    .asg (.name 6) (.bin .add (.bin .add (.sli (.var 10) none (some (.idx (.var 3) (.var 5)))) (.tup [.var 6])) (.sli (.var 10) (some (.bin .add (.idx (.var 3) (.var 5)) (.con (.int 1)))) none))] := rfl
  have hj : (p.take k).length = k := by rw [List.length_take]; omega
  rw [hj] at g2
  have hd : deref s (.ref c) = some (.lst (nI p)) := by simp only [deref, hc]
  have hasD : ∀ l : List D, asD (.d (.lst l)) = some (.lst l) := fun _ => rfl
  have hsq : ∀ l : List D, D.seq (.lst l) = some l := fun _ => rfl
  generalize p[k] = K at *
  have hl : (xs.take K).length + (xs.drop (K + 1)).length + 1 = xs.length := by rw [List.length_take, List.length_drop]; omega
  have hev := fun y => be_up (C := C) (s := s) (xs := xs) (r := .tup r) (v0 := some h0) (v1 := some (.d prog)) (v2 := some nm) (v3 := some (.ref c)) (v4 := some (.d here)) (v5 := some (.d (.int (k : Int)))) (v7 := none) (v8 := none) (v9 := x9) (v11 := y) (K := K) (by simp [hix]) (by omega)
  have hdep : ∀ e ∈ xs, El (w + 1) (60 - k - 1) e := fun e he => by
    have h1 := (okT_tup.mp g1).2 e he
    have h2 := depAll_le.mp (Nat.le_refl (D.depAll xs)) e he
    simp only [D.dep] at g2
    exact ⟨okT_mono (by omega) e h1, by omega⟩
  have hres : okT (w + 1) (.tup (xs.take K ++ [.tup r] ++ xs.drop (K + 1))) = true ∧ (D.tup (xs.take K ++ [.tup r] ++ xs.drop (K + 1))).dep + k ≤ 61 := by
    have hd1 : 1 ≤ (D.tup xs).dep := by simp only [D.dep]; omega
    have := tr_tup (w := w + 1) (m := 60 - k) (l := xs.take K ++ [.tup r] ++ xs.drop (K + 1)) (by rw [List.length_append, List.length_append, List.length_singleton]; omega) (fun e he => by
      rcases List.mem_append.mp he with he | he
      · rcases List.mem_append.mp he with he | he
        · have := hdep e (List.mem_of_mem_take he); exact ⟨this.1, by have := this.2; omega⟩
        · rw [List.mem_singleton] at he; subst he; exact ⟨h1, by omega⟩
      · have := hdep e (List.mem_of_mem_drop he); exact ⟨this.1, by have := this.2; omega⟩)
    exact ⟨this.1, by omega⟩
  have hfin := fun x10' x11' => kk _ x10' x11' hres.1 hres.2
  rw [hb]
  generalize xs.take K ++ [.tup r] ++ xs.drop (K + 1) = Z at *
  generalize nI (p.take k) = NK at *
  generalize f_law_within_b1 = B1 at *
  generalize (Ex.bin .add (.bin .add (.sli (.var 10) none (some (.idx (.var 3) (.var 5)))) (.tup [.var 6])) (.sli (.var 10) (some (.bin .add (.idx (.var 3) (.var 5)) (.con (.int 1)))) none)) = EU at *
  simp [Tg.putV, hd, asI, hsl, hasD, hsq, hy, hev]
  exact hfin _ _
end Prog

namespace Prog
open Ir
theorem okTs_app {w : Nat} (xs ys : List D) : okTs w (xs ++ ys) = (okTs w xs && okTs w ys) := by
  induction xs with
  | nil => rfl
  | cons x xs ih => simp [okTs, ih, Bool.and_assoc]
theorem okTs_str {w : Nat} {xs : List String} (h : ∀ x ∈ xs, x.length ≤ 8) : okTs w (xs.map .str) = true := (okTs_iff _).mpr fun x hx => by
  obtain ⟨y, hy, rfl⟩ := List.mem_map.mp hx
  have := h y hy
  simp [okT]; omega
theorem Pg.okT_d : ∀ p : Pg, p.fit → okT 6 p.d = true
  | .num _, _ | .truth _, _ | .nil, _ => by simp [Pg.d, okT, okTs] <;> decide
  | .name x, h => by simp only [Pg.fit] at h; simp [Pg.d, okT, okTs]; exact ⟨by decide, by omega⟩
  | .off p, h => by simp [Pg.d, okT, okTs, p.okT_d h]; decide
  | .one h xs p, ⟨h1, h2, h3, h4⟩ => by
    have := h1.2
    have := okTs_str (w := 6) h3
    simp [Pg.d, okT, okTs, okTs_app, this, p.okT_d h4]; omega
  | .two h xs p q, ⟨h1, h2, h3, h4, h5⟩ => by
    have := h1.2
    have := okTs_str (w := 6) h3
    simp [Pg.d, okT, okTs, okTs_app, this, p.okT_d h4, q.okT_d h5]; omega
  | .thr h xs p q r, ⟨h1, h2, h3, h4, h5, h6⟩ => by
    have := h1.2
    have := okTs_str (w := 6) h3
    simp [Pg.d, okT, okTs, okTs_app, this, p.okT_d h4, q.okT_d h5, r.okT_d h6]; omega
theorem keep3 {st a b : Store} {c : Nat} (hc : st.length ≤ c) (k : Keep 0 st a) (hl : b.length = a.length) (h : ∀ i, i ≠ 0 → i ≠ c → b[i]? = a[i]?) : Keep 0 st b :=
  ⟨by rw [hl]; exact k.1, fun i hi hn => by rw [h i hn (by omega)]; exact k.2 i hi hn⟩
theorem rev_rng (n : Nat) (h : n ≤ 1000) : D.bRevR [.int (n : Int)] = some (.lst (rangeL 0 n).reverse) := by
  simp only [D.bRevR]
  rw [if_pos ⟨by rw [LIM_eq]; omega, by rw [LIM_eq]; omega⟩]
  simp
theorem rng_succ (n : Nat) : (rangeL 0 (n + 1)).reverse = .int (n : Int) :: (rangeL 0 n).reverse := by
  simp [rangeL, List.range_succ]
abbrev wE (prog : D) (nm : Val) (c : Nat) (here : D) (x5 : Option Val) (r : D) (x9 x10 x11 : Option Val) : Env := [some (.ref 0), some (.d prog), some nm, some (.ref c), some (.d here), x5, some (.d r), none, none, x9, x10, x11]
theorem with_ups {C : Calls} {w : Nat} {s : Store} {prog : D} {p : List Nat} {here : D} {nm : Val} {c : Nat} {x9 : Option Val} {pp : Post Out} (hc : s[c]? = some (.lst (nI p))) (hs : sub p prog = some here) (hok : okT w prog = true) (hw : w ≤ 60) (hm : prog.dep ≤ 60)
    (kk : ∀ (r' : List D) x5 x10 x11, okT (w + 1) (.tup r') = true → (D.tup r').dep ≤ 61 → pp.q (.nx (wE prog nm c here x5 (.tup r') x9 x10 x11)) s) :
    ∀ (k : Nat) (r : List D) (x5 x10 x11 : Option Val), k ≤ p.length → okT (w + 1) (.tup r) = true → (D.tup r).dep + k ≤ 61 → @Wp _ (loopL (Tg.name 5).putF (execs C f_law_within_b2) (rangeL 0 k).reverse (wE prog nm c here x5 (.tup r) x9 x10 x11) s) pp
  | 0, r, x5, x10, x11, _, h1, h2 => by
    show pp.q _ s
    exact kk r x5 x10 x11 h1 (by omega)
  | k + 1, r, x5, x10, x11, hk, h1, h2 => by
    have hp : (Tg.name 5).putF (.int (k : Int)) (wE prog nm c here x5 (.tup r) x9 x10 x11) = some (wE prog nm c here (some (.d (.int (k : Int)))) (.tup r) x9 x10 x11) := rfl
    rw [rng_succ, w_loopL_cons, hp]
    simp only [optR_some, wp_ok, post_mk]
    exact with_b2 hc hs hok hw hm (by omega) h1 h2 fun r' x10' x11' g1 g2 => with_ups hc hs hok hw hm kk k r' _ x10' x11' (by omega) g1 g2
theorem within_wp {n w : Nat} {st : Store} {x y z : String} {prog : D} {pp : Post Val} (hB : Bag st 0) (hx : x.length ≤ 8) (hy : y.length ≤ 8) (hz : z.length ≤ 8) (hw : 4 ≤ w) (hw2 : w ≤ 50) (ht : isTup prog = true) (hok : okT w prog = true) (hm : prog.dep ≤ 60) (hn : 72 ≤ n)
    (k : ∀ (r : D) s', okT (w + 1) r = true → isTup r = true → r.dep ≤ 60 → Bag s' 0 → Kp 0 st s' → pp.q (.d r) s') : @Wp _ (callN T n "_law_within" [.ref 0, .d prog, .d (.lst [.str x, .str y, .str z])] st) pp := by
  obtain ⟨n, rfl⟩ : ∃ n', n = n' + 1 := ⟨n - 1, by omega⟩
  have hB0 := hB.lt
  have hasD : ∀ l : List D, asD (.d (.lst l)) = some (.lst l) := fun _ => rfl
  have hsq : ∀ l : List D, D.seq (.lst l) = some l := fun _ => rfl
  obtain ⟨NM, hNM⟩ : ∃ NM : Val, NM = .d (.lst [.str x, .str y, .str z]) := ⟨_, rfl⟩
  rw [← hNM, callN_run T_f_law_within]
  generalize hB0' : f_law_within_b0 = B0 at *
  generalize hB2' : f_law_within_b2 = B2 at *
  have hbd : f_law_within.body = [.asg (.name 3) (.newL (.lst [])),
    .asg (.name 4) (.var 1),
    .loop (.name 5) (.blt .range [.call "_law_draw" [.var 0, .con (.int 12)]]) B0,
    .asg (.name 6) (.call "_law_bent" [.var 0, .var 4, .var 2]),
    .loop (.name 5) (.blt .revR [.blt .len [.var 3]]) B2,
    .asg (.tup [.name 7, .name 8]) (.call "_law_size" [.var 6]),
    .ret (.ite (.and (.cmp .le (.var 7) (.con (.int 240))) (.cmp .le (.var 8) (.con (.int 60)))) (.var 6) (.var 1))] := by rw [← hB0', ← hB2']; rfl
  have hmp : f_law_within.many = 12 ∧ f_law_within.pars = 3 := ⟨rfl, rfl⟩
  rw [w_runFn, hbd, hmp.1, hmp.2]
  refine ⟨⟨rfl, by decide⟩, ?_⟩
  simp [asDs, Tg.putV]
  refine draw_wp (hB.push _) (by decide) (by decide +kernel) (by omega) fun d s1 d0 d1 hB1 t1 => ?_
  obtain ⟨i, rfl⟩ : ∃ i : Nat, d = i := ⟨d.toNat, by omega⟩
  have hr : ∀ s, bltV .range [.d (.int (i : Int))] s = .ok (.d (.lst (rangeL 0 i))) s := fun s => by
    simp only [bltV, bltD, derefs, deref, D.blt]; rw [bRange_nat (by rw [LIM_eq]; omega)]
  simp [hr, hasD, hsq]
  have hc1 : s1[st.length]? = some (.lst (nI [])) := by rw [t1.2 _ (by omega)]; exact get_push st _
  have k1 : Keep 0 st s1 := ((Keep.refl 0 st).push _).trans ⟨by rw [t1.1]; simp, fun i hi hn => t1.2 i hn⟩ 
  refine wp_loop (fun _ σ s => ∃ p here x5 x9, σ = [some (.ref 0), some (.d prog), some NM, some (.ref st.length), some (.d here), x5, none, none, none, x9, none, none] ∧ sub p prog = some here ∧ isTup here = true ∧ s[st.length]? = some (.lst (nI p)) ∧ Bag s 0 ∧ Keep 0 st s) ?_ ?_ _ _ _ ⟨[], prog, none, none, rfl, rfl, ht, hc1, hB1, k1⟩
  · rintro x' xs σ s ⟨p, here, x5, x9, rfl, h1, h2, h3, h4, h5⟩
    refine ⟨_, rfl, ?_⟩
    rw [← hB0']
    refine with_b0 (w := w) h4 (by omega) h3 (by omega) h1 h2 hok (by omega) hm fun p' here' x9' s' g1 g2 g3 g4 g5 g6 => ?_
    exact ⟨p', here', _, x9', rfl, g1, g2, g3, g4, keep3 (Nat.le_refl _) h5 g5 g6⟩
  · rintro σ s2 ⟨p, here, x5, x9, rfl, h1, h2, h3, h4, h5⟩
    obtain ⟨g1, g2⟩ := sub_ok p prog _ hok h1
    obtain ⟨hs, rfl⟩ := isTup_iff.mp h2
    simp
    have g3 : 1 ≤ (D.tup hs).dep := by simp only [D.dep]; omega
    rw [hNM]
    refine bent_wp (m := 60 - p.length) h4 hx hy hz hw hw2 g1 (by omega) (by omega) fun r s3 q1 q2 hB3 t3 => ?_
    rw [← hNM]
    have hc3 : s3[st.length]? = some (.lst (nI p)) := by rw [t3.2 _ (by omega)]; exact h3
    have k3 : Keep 0 st s3 := h5.trans t3.keep
    have hlen : bltV .len [.ref st.length] s3 = .ok (.d (.int (p.length : Int))) s3 := by
      simp only [bltV, lenDic, hc3, bltD, derefs, deref, D.blt, D.bLen, nI_len]
    have hrv : bltV .revR [.d (.int (p.length : Int))] s3 = .ok (.d (.lst (rangeL 0 p.length).reverse)) s3 := by
      simp only [bltV, bltD, derefs, deref, D.blt]; rw [rev_rng _ (by omega)]
    simp [Tg.putV, hlen, hrv, hasD, hsq]
    rw [← hB2']
    refine with_ups hc3 h1 hok (by omega) hm (fun r' y5 y10 y11 e1 e2 => ?_) p.length r x5 none none (Nat.le_refl _) q1 (by omega)
    have hsz := size_ok (w := w + 1) (st := s3) (.tup r') rfl e1 n (by omega)
    have hput : Tg.put (.tup [.name 7, .name 8]) (szD (.tup r')) (wE prog NM st.length (.tup hs) y5 (.tup r') x9 y10 y11) = some [some (.ref 0), some (.d prog), some NM, some (.ref st.length), some (.d (.tup hs)), y5, some (.d (.tup r')), some (.d (.int (cntT (.tup r') : Nat))), some (.d (.int ((D.tup r').dep : Nat))), x9, y10, y11] := rfl
    have hle : D.cmp .le (.int ((D.tup r').dep : Nat)) (.int 60) = some (decide ((D.tup r').dep ≤ 60)) := by rw [ci_le]; congr 1; exact decide_eq_decide.mpr (by omega)
    have hfin : ∀ r'' : D, okT (w + 1) r'' = true → isTup r'' = true → r''.dep ≤ 60 → pp.q (.d r'') (s3.take st.length) := fun r'' o1 o2 o3 => k r'' _ o1 o2 o3 (hB3.take hB0) (Kp.of k3)
    have hp := hfin prog (okT_mono (by omega) _ hok) ht hm
    have hr' := hfin (.tup r') e1 rfl
    generalize szD (.tup r') = SZ at *
    generalize ((cntT (.tup r') : Nat) : Int) = CN at *
    generalize ((D.tup r').dep) = DP at *
    generalize D.tup r' = DR at *
    simp [hsz, Tg.putV, hput, cmpV, deref, ci_le, asB, hle]
    refine ⟨fun _ => ⟨fun c => hr' c, fun _ => hp⟩, fun _ => hp⟩
theorem formed_any {w n : Nat} {d : D} {st : Store} (hok : okT w d = true) (hm : d.dep ≤ 60) (hn : 70 ≤ n) : callN T n "formed" [.d d] st = .ok (.d (.bool (fm 61 d []))) st := by
  obtain ⟨n, rfl⟩ : ∃ n', n = n' + 1 := ⟨n - 1, by omega⟩
  have e := formed_here_ok 60 d n [] st (okT_sm d hok) hm (by omega) (by simp) (by omega)
  simp at e
  rw [callN_run T_f_formed]
  simp [runFn, f_formed, asDs, e, take_all]
theorem law_turn {w : Nat} {s : Store} {x y z : String} {d : D} {x0 x2 x5 x6 : Option Val} {pp : Post Out} (hB : Bag s 0) (hx : x.length ≤ 8) (hy : y.length ≤ 8) (hz : z.length ≤ 8) (hw : 4 ≤ w) (hw2 : w ≤ 50) (ht : isTup d = true) (hok : okT w d = true) (hm : d.dep ≤ 60)
    (k : ∀ (r : D) x6' s', okT (w + 1) r = true → isTup r = true → r.dep ≤ 60 → Bag s' 0 → pp.q (.nx [x0, some (.ref 0), x2, some (.d (.lst [.str x, .str y, .str z])), some (.d r), x5, x6']) s') :
    @Wp _ (execs (callN T 119) f_law_b0 [x0, some (.ref 0), x2, some (.d (.lst [.str x, .str y, .str z])), some (.d d), x5, x6] s) pp := by
  have h1 := fun s => formed_any (n := 119) (st := s) hok hm (by omega)
  have h2 := fun s => lformed_ok 60 d 119 [] s (okT_sm d hok) hm (by omega) (by simp) (by omega)
  simp only [List.map_nil] at h2
  have hb : f_law_b0 = [.asg (.name 6) (.call "formed" [.var 4]),
    .ite (.or (.not (.isi (.var 6) [.bool])) (.or (.cmp .ne (.var 6) (.call "_law_formed" [.var 4, .lst []])) (.cmp .ne (.callP "formed" [.var 4] [0]) (.var 6)))) [.ret (.con (.bool false))] [],
    .asg (.name 4) (.call "_law_within" [.var 1, .var 4, .var 3])] := rfl
  rw [hb]
  generalize fm (60 + 1) d [] = F at *
  have hwi := fun pp k => within_wp (n := 119) (st := s) (pp := pp) hB hx hy hz hw hw2 ht hok hm (by omega) k
  generalize D.lst [.str x, .str y, .str z] = NM at *
  simp [h1, Tg.putV, deref, D.tyOk, asB, asDs, h2, cmpV, cb_ne]
  refine hwi _ fun r s' o1 o2 o3 hB' t => ?_
  simp [Tg.putV]
  exact k r _ s' o1 o2 o3 hB'
theorem law_wp (ns : List Int) (hl : ns.length ≤ 63) : @Wp _ (Ir.callN T 120 "law" [.d (.ro (ns.map Ir.D.int))] []) ⟨fun v _ => v = .d (.bool true)⟩ := by
  rw [callN_run T_f_law]
  generalize hB0 : f_law_b0 = B0
  have hbd : f_law.body = [.asg (.name 1) (.call "_law_bag" [.var 0]),
    .asg (.name 2) (.call "_law_draw" [.var 1, .con (.int 6)]),
    .asg (.name 3) (.call "_law_names" [.var 1]),
    .asg (.name 4) (.call "_law_any_prog" [.var 1, .var 3]),
    .loop (.name 5) (.blt .range [.bin .add (.var 2) (.con (.int 1))]) B0,
    .ret (.con (.bool true))] := by rw [← hB0]; rfl
  have hmp : f_law.many = 7 ∧ f_law.pars = 1 := ⟨rfl, rfl⟩
  have hasD : ∀ l : List D, asD (.d (.lst l)) = some (.lst l) := fun _ => rfl
  have hsq : ∀ l : List D, D.seq (.lst l) = some l := fun _ => rfl
  rw [w_runFn, hbd, hmp.1, hmp.2]
  refine ⟨⟨rfl, by decide⟩, ?_⟩
  simp
  refine bag_wp ns (by omega) fun s1 hB1 _ _ => ?_
  simp [Tg.putV]
  refine draw_wp hB1 (by decide) (by decide +kernel) (by omega) fun d s2 d0 d1 hB2 t2 => ?_
  simp [Tg.putV]
  refine names_wp hB2 (by omega) fun x y z s3 xy xz yz hx hy hz hB3 t3 => ?_
  simp [Tg.putV]
  refine any_prog_wp hB3 xy xz yz hx hy hz (by omega) fun p s4 hp _ hpl hdp hB4 t4 => ?_
  have hfit := hp.fit
  have hok := p.okT_d hfit
  have hdep : p.d.dep ≤ 60 := by have := (p.h_dp hp.sk).1; rw [p.dep_d]; omega
  obtain ⟨i, hi⟩ : ∃ i : Nat, d + 1 = i := ⟨(d + 1).toNat, by omega⟩
  have ha : D.bin .add (.int d) (.int 1) = some (.int (i : Int)) := by rw [← hi]; rfl
  have hr : ∀ s, bltV .range [.d (.int (i : Int))] s = .ok (.d (.lst (rangeL 0 i))) s := fun s => by
    simp only [bltV, bltD, derefs, deref, D.blt]; rw [bRange_nat (by rw [LIM_eq]; omega)]
  have hrl := rangeL_len i
  simp [Tg.putV, deref, ha, hr, hasD, hsq]
  refine wp_loop (fun l σ s => ∃ w q x0 x2 x5 x6, σ = [x0, some (.ref 0), x2, some (.d (.lst [.str x, .str y, .str z])), some (.d q), x5, x6] ∧ isTup q = true ∧ okT w q = true ∧ q.dep ≤ 60 ∧ Bag s 0 ∧ w + l.length ≤ 20 ∧ 4 ≤ w) ?_ ?_ _ _ _ ⟨6, p.d, _, _, _, _, rfl, p.tupd, hok, hdep, hB4, by rw [hrl]; omega, by omega⟩
  · rintro v xs σ s ⟨w, q, x0, x2, x5, x6, rfl, h1, h2, h3, h4, h5, h6⟩
    refine ⟨_, rfl, ?_⟩
    rw [← hB0]
    simp only [List.length_cons] at h5
    exact law_turn h4 hx.most hy.most hz.most h6 (by omega) h1 h2 h3 fun r x6' s' g1 g2 g3 g4 => ⟨w + 1, r, _, _, _, _, rfl, g2, g1, g3, g4, by omega, by omega⟩
  · rintro σ s ⟨w, q, x0, x2, x5, x6, rfl, h1, h2, h3, h4, h5, h6⟩
    simp
theorem law_true (ns : List Int) (hl : ns.length ≤ 63) : ∃ st', Ir.callN T 120 "law" [.d (.ro (ns.map Ir.D.int))] [] = .ok (.d (.bool true)) st' := by
  obtain ⟨v, s, e, h⟩ := wp_iff.mp (law_wp ns hl)
  have h : v = .d (.bool true) := h
  exact ⟨s, by rw [e, h]⟩
end Prog

open PySem PySem.W PyProof.Rows
set_option maxRecDepth 100000 in
set_option maxHeartbeats 0 in
theorem PySem.Challenge.cw_leastmends_k01_formed_holds : PySem.Challenge.rw_leastmends_k01_formed.Holds := by
  w_on; o_law; k_head; (case hw => w_witness2)
  k_fill
  refine L2.walk_ofB (l := PySem.Challenge.rw_leastmends_k01_formed) (n := 63) (k := 120) (x := "_law_script") (CX := fun _ => L2.CX0) (sp := fun w => Prog.spLaw 120 _) rfl (by decide) rfl ⟨rfl, by decide, by decide⟩ (fun w h Y => PySem.W.kIn_of Y) ?F (fun _ H a ns hl hb hO hS => Snd.law_sp hO hS hl (Prog.law_true ns hl).choose_spec) (fun _ _ _ _ _ h => h)
  case F =>
    intro w mg fa h KX G hmg
    refine' Prog.all_mk KX G hmg ?x0 ?l0 ?c0 ?k0 ?x1 ?l1 ?c1 ?k1 ?x2 ?l2 ?c2 ?k2 ?x3 ?l3 ?c3 ?k3 ?x4 ?l4 ?c4 ?k4 ?x5 ?l5 ?c5 ?k5 ?x6 ?l6 ?c6 ?k6 ?x7 ?l7 ?c7 ?k7 ?x8 ?l8 ?c8 ?k8 ?x9 ?l9 ?c9 ?k9 ?x10 ?l10 ?c10 ?k10 ?x11 ?l11 ?c11 ?k11 ?x12 ?l12 ?c12 ?k12 ?x13 ?l13 ?c13 ?k13 ?x14 ?l14 ?c14 ?k14 ?x15 ?l15 ?c15 ?k15 ?x16 ?l16 ?c16 ?k16 ?x17 ?l17 ?c17 ?k17 ?x18 ?l18 ?c18 ?k18 ?x19 ?l19 ?c19 ?k19 ?x20 ?l20 ?c20 ?k20 ?x21 ?l21 ?c21 ?k21 ?x22 ?l22 ?c22 ?k22 ?x23 ?l23 ?c23 ?k23  ?g_MOST_SIGNS ?gk_MOST_SIGNS ?g_SHAPES ?gl_SHAPES ?gk_SHAPES ?go_SHAPES ?g_OTHERS ?gl_OTHERS ?gz_OTHERS ?gk_OTHERS ?g_LETTERS ?gk_LETTERS ?z0 ?z1 ?z2 ?z3 ?z4 ?z5 ?z6 ?z7 ?z8 ?z9 ?z10 ?z11 ?z12 ?z13 ?z14
    (case x0 => k_is); (case l0 => k_is); (case c0 => k_is); (case k0 => k_is); (case x1 => k_is); (case l1 => k_is); (case c1 => k_is); (case k1 => k_is); (case x2 => k_is); (case l2 => k_is); (case c2 => k_is); (case k2 => k_is); (case x3 => k_is); (case l3 => k_is); (case c3 => k_is); (case k3 => k_is); (case x4 => k_is); (case l4 => k_is); (case c4 => k_is); (case k4 => k_is); (case x5 => k_is); (case l5 => k_is); (case c5 => k_is); (case k5 => k_is); (case x6 => k_is); (case l6 => k_is); (case c6 => k_is); (case k6 => k_is); (case x7 => k_is); (case l7 => k_is); (case c7 => k_is); (case k7 => k_is); (case x8 => k_is); (case l8 => k_is); (case c8 => k_is); (case k8 => k_is); (case x9 => k_is); (case l9 => k_is); (case c9 => k_is); (case k9 => k_is); (case x10 => k_is); (case l10 => k_is); (case c10 => k_is); (case k10 => k_is); (case x11 => k_is); (case l11 => k_is); (case c11 => k_is); (case k11 => k_is); (case x12 => k_is); (case l12 => k_is); (case c12 => k_is); (case k12 => k_is); (case x13 => k_is); (case l13 => k_is); (case c13 => k_is); (case k13 => k_is); (case x14 => k_is); (case l14 => k_is); (case c14 => k_is); (case k14 => k_is); (case x15 => k_is); (case l15 => k_is); (case c15 => k_is); (case k15 => k_is); (case x16 => k_is); (case l16 => k_is); (case c16 => k_is); (case k16 => k_is); (case x17 => k_is); (case l17 => k_is); (case c17 => k_is); (case k17 => k_is); (case x18 => k_is); (case l18 => k_is); (case c18 => k_is); (case k18 => k_is); (case x19 => k_is); (case l19 => k_is); (case c19 => k_is); (case k19 => k_is); (case x20 => k_is); (case l20 => k_is); (case c20 => k_is); (case k20 => k_is); (case x21 => k_is); (case l21 => k_is); (case c21 => k_is); (case k21 => k_is); (case x22 => k_is); (case l22 => k_is); (case c22 => k_is); (case k22 => k_is); (case x23 => k_is); (case l23 => k_is); (case c23 => k_is); (case k23 => k_is)
    (case g_MOST_SIGNS => k_is); (case gk_MOST_SIGNS => exact (.int _ _)); (case g_SHAPES => k_is); (case gl_SHAPES => k_is); (case gk_SHAPES => exact (.cons rfl rfl (.str _ _) (.cons rfl rfl (.str _ _) (.cons rfl rfl (.str _ _) (.cons rfl rfl (.str _ _) (.cons rfl rfl (.str _ _) (.cons rfl rfl (.str _ _) (.cons rfl rfl (.str _ _) (.cons rfl rfl (.str _ _) (.cons rfl rfl (.str _ _) (.cons rfl rfl (.str _ _) (.cons rfl rfl (.str _ _) (.cons rfl rfl (.str _ _) (.cons rfl rfl (.str _ _) (.cons rfl rfl (.str _ _) (.cons rfl rfl (.str _ _) (.cons rfl rfl (.str _ _) (.cons rfl rfl (.str _ _) (.cons rfl rfl (.str _ _) (.cons rfl rfl (.str _ _) .nil)))))))))))))))))))); (case go_SHAPES => rfl); (case g_OTHERS => k_is); (case gl_OTHERS => k_is); (case gz_OTHERS => decide); (case gk_OTHERS => exact (.cons (.str _ _) (.cons (.str _ _) (.cons (.str _ _) (.cons (.str _ _) (.cons (.str _ _) .nil)))))); (case g_LETTERS => k_is); (case gk_LETTERS => exact (.str _ _))
    (case z0 => k_is); (case z1 => k_is); (case z2 => k_is); (case z3 => k_is); (case z4 => k_is); (case z5 => k_is); (case z6 => k_is); (case z7 => k_is); (case z8 => k_is); (case z9 => k_is); (case z10 => k_is); (case z11 => k_is); (case z12 => k_is); (case z13 => k_is); (case z14 => k_is)

