import PyProof.Rows.All
import Wide.All
import OpenK.AllK
import Wide.FinOn
import HandS.Head2
import HandS.HeadHook3
import HandS.Words
import HandS.ExcField
import HandS.ForMost
import Flt.Ops
import HandS.ForExc
import HandS.More
import HandS.Flow
import HandS.IsInst
import HandS.CallSlots
import HandS.Zip
import HandS.Deep
import HandS.TupAny
import HandS.Style
import HandS.Small
import HandS.RaiseMore
import HandS.Codes
import HandS.Text
import KE.GoesMore
import KE.GoesEnum
import HandS.WordsExc
import HandS.ExcOwn
import HandS.HeadWalk
import HandS.Set
import HandS.SetFor
import PyProof.Rows.SortShellAny
import HandS.NoneIn
import HandS.TryMany
import HandS.ExcInit
import HandS.ClsMeth
import HandS.HeadEnd
import PySem.Challenge.RW_foldtongue_k03_three_hundred
/-! A small interpreter for the part of Python that the program and its laws use: values are plain data (numbers, texts, tuples, lists, dicts); lists and dicts that are changed stand in slots that own them. -/
namespace Ft
abbrev Tx := List Nat
inductive Ky where
  | i (n : Int) | s (x : Tx)
  deriving DecidableEq
inductive D where
  | none | bool (b : Bool) | int (n : Int) | str (x : Tx) | tup (xs : List D) | lst (xs : List D) | dct (kvs : List (Ky × D))
  /-- the law's own list of numbers -/
  | scr (ns : List Int)
  /-- a written dict of the module, its keys texts -/
  | kdc (kvs : List (Ky × D))
  /-- what stands at a place of the store -/
  | loc (i : Nat)
  deriving Inhabited
def zip3 : List D → List D → List D → List D
  | x :: xs, y :: ys, z :: zs => .tup [x, y, z] :: zip3 xs ys zs
  | _, _, _ => []
/-- the longest thing that is handled -/
def LIM : Nat := 1000000
mutual
/-- fit for ==: no dict, at most 64 deep -/
def D.dep : D → Option Nat
  | .none | .bool _ | .int _ => some 0
  | .str x => if x.all (fun c => decide (c < 55296)) then some 0 else Option.none
  | .tup xs | .lst xs => (D.depL xs).map (· + 1)
  | .dct _ | .scr _ | .kdc _ | .loc _ => Option.none
def D.depL : List D → Option Nat
  | [] => some 0
  | x :: xs => match D.dep x, D.depL xs with
    | some a, some b => some (max a b)
    | _, _ => Option.none
end
def D.shaped (d : D) : Bool := match d.dep with
  | some n => decide (n ≤ 64)
  | Option.none => false
mutual
/-- == -/
def D.eqv : D → D → Bool
  | .none, .none => true
  | .bool a, .bool b => a == b
  | .bool a, .int j => (if a then 1 else 0) == j
  | .int i, .bool b => i == (if b then 1 else 0)
  | .int i, .int j => i == j
  | .str x, .str y => x == y
  | .lst xs, .lst ys => D.eqvL xs ys
  | .tup xs, .tup ys => D.eqvL xs ys
  | _, _ => false
def D.eqvL : List D → List D → Bool
  | [], [] => true
  | x :: xs, y :: ys => D.eqv x y && D.eqvL xs ys
  | _, _ => false
end
def D.flat : D → Bool
  | .none | .bool _ | .int _ | .str _ => true
  | _ => false
/-- truth -/
def D.tru : D → Option Bool
  | .none => some false
  | .bool b => some b
  | .int i => some (i != 0)
  | .str x => if x.length ≤ LIM then some (!x.isEmpty) else Option.none
  | .tup xs => some (!xs.isEmpty)
  | .lst xs => some (!xs.isEmpty)
  | .dct _ | .kdc _ | .loc _ => Option.none
  | .scr ns => some (!ns.isEmpty)
/-- the place of an index -/
def ix (n : Nat) (i : Int) : Option Nat :=
  if 0 ≤ i then (if i < n then some i.toNat else Option.none) else if 0 ≤ i + n then some (i + n).toNat else Option.none
def at? {α : Type} (xs : List α) (i : Int) : Option α := (ix xs.length i).bind fun j => xs[j]?
/-- a bound of a slice -/
def sIx (n : Nat) (dflt : Nat) : Option Int → Nat
  | Option.none => dflt
  | some i => if 0 ≤ i then min i.toNat n else (i + n).toNat
def cut {α : Type} (xs : List α) (lo hi : Option Int) : List α :=
  let a := sIx xs.length 0 lo
  let b := sIx xs.length xs.length hi
  (xs.drop a).take (b - a)
def ky : D → Option Ky
  | .int i => some (.i i)
  | .str x => some (.s x)
  | _ => Option.none
def look : List (Ky × D) → Ky → Option D
  | [], _ => Option.none
  | (k, v) :: r, q => if k = q then some v else look r q
def putK (kvs : List (Ky × D)) (q : Ky) (v : D) : List (Ky × D) := if (look kvs q).isSome then kvs.map (fun p => if p.1 = q then (p.1, v) else p) else kvs ++ [(q, v)]
/-- the order of texts -/
def txLt : Tx → Tx → Bool
  | _, [] => false
  | [], _ :: _ => true
  | a :: r, b :: t => if a < b then true else if a = b then txLt r t else false
def insTx (x : Tx) : List Tx → List Tx
  | [] => [x]
  | y :: r => if txLt y x then y :: insTx x r else x :: y :: r
def sortTx : List Tx → List Tx
  | [] => []
  | x :: r => insTx x (sortTx r)
def dedupTx : List Tx → List Tx
  | [] => []
  | x :: r => if x ∈ r then dedupTx r else x :: dedupTx r
def sOf : List D → Option (List Tx)
  | [] => some []
  | .str x :: r => (sOf r).map (x :: ·)
  | _ => Option.none
def iOf : List D → Option (List Int)
  | [] => some []
  | .int x :: r => (iOf r).map (x :: ·)
  | _ => Option.none
/-- does x stand in y at its head -/
def isPre : Tx → Tx → Bool
  | [], _ => true
  | _ :: _, [] => false
  | a :: r, b :: t => a == b && isPre r t
def joinTx (sep : Tx) : List Tx → Tx
  | [] => []
  | [x] => x
  | x :: r => x ++ sep ++ joinTx sep r
inductive O1 where
  | isTL | len | not_ | neg | isInt | isBool | isStr | isTup | isLst | toLst | toTup | sum | sorted | sset | isNone | notNone | bool_ | int_ | str_ | rev | isalnum | max_ | min_ | toDct
  deriving DecidableEq
inductive O2 where
  | add | sub | mul | fdiv | mod | pow | eq | ne | lt | le | gt | ge | in_ | nin | idx | is_ | isn | max2
  deriving DecidableEq
def lenD : D → Option Int
  | .str x => if x.length ≤ LIM then some x.length else Option.none
  | .tup xs => some xs.length
  | .lst xs => some xs.length
  | .scr xs => some xs.length
  | _ => Option.none
def maxI : List Int → Option Int
  | [] => Option.none
  | x :: r => match maxI r with
    | Option.none => some x
    | some y => some (if x < y then y else x)
def minI : List Int → Option Int
  | [] => Option.none
  | x :: r => match minI r with
    | Option.none => some x
    | some y => some (if y < x then y else x)
/-- a number's figures -/
def decF : Nat → Nat → Tx
  | 0, _ => []
  | f + 1, n => if n < 10 then [48 + n] else decF f (n / 10) ++ [48 + n % 10]
def decN (n : Nat) : Tx := decF (n + 1) n
/-- the number of figures -/
def valT (x : Tx) : Nat := x.foldl (fun a c => a * 10 + (c - 48)) 0
def figs (x : Tx) : Bool := x.all fun c => decide (48 ≤ c) && decide (c ≤ 57)
def alnumC (c : Nat) : Bool := (decide (48 ≤ c) && decide (c ≤ 57)) || (decide (65 ≤ c) && decide (c ≤ 90)) || (decide (97 ≤ c) && decide (c ≤ 122))
/-- of what stands in the store no class is asked -/
def isK : D → Bool → Option D
  | .loc _, _ => Option.none
  | _, b => some (.bool b)
def op1 : O1 → D → Option D
  | .len, d => (lenD d).map .int
  | .not_, d => d.tru.map fun b => .bool !b
  | .neg, .int i => some (.int (-i))
  | .isInt, d => isK d (match d with | .int _ => true | .bool _ => true | _ => false)
  | .isBool, d => isK d (match d with | .bool _ => true | _ => false)
  | .isStr, d => isK d (match d with | .str _ => true | _ => false)
  | .isTup, d => isK d (match d with | .tup _ => true | _ => false)
  | .isLst, d => isK d (match d with | .lst _ => true | .scr _ => true | _ => false)
  | .isTL, d => isK d (match d with | .tup _ => true | .lst _ => true | .scr _ => true | _ => false)
  | .toLst, .tup xs => some (.lst xs)
  | .toLst, .lst xs => some (.lst xs)
  | .toTup, .lst xs => some (.tup xs)
  | .toTup, .tup xs => some (.tup xs)
  | .sum, .lst xs => (iOf xs).map fun ns => .int ns.sum
  | .sorted, .lst xs => (sOf xs).map fun ys => .lst ((sortTx ys).map .str)
  | .sset, .lst xs => if xs.length < 4000 then (sOf xs).map fun ys => .lst ((sortTx (dedupTx ys)).map .str) else Option.none
  | .isNone, d => some (.bool (match d with | .none => true | _ => false))
  | .notNone, d => some (.bool (match d with | .none => false | _ => true))
  | .bool_, .lst xs => some (.bool (!xs.isEmpty))
  | .bool_, .int i => some (.bool (i != 0))
  | .bool_, .bool b => some (.bool b)
  | .toDct, .dct kvs => some (.dct kvs)
  | .rev, .lst xs => some (.lst xs.reverse)
  | .int_, .bool b => some (.int (if b then 1 else 0))
  | .int_, .str x => if figs x && !x.isEmpty && decide (x.length ≤ 600) then some (.int (valT x)) else Option.none
  | .str_, .str x => some (.str x)
  | .str_, .int i => if 0 ≤ i ∧ i < 2 ^ 60 then some (.str (decN i.toNat)) else Option.none
  | .max_, .lst xs => (iOf xs).bind fun ns => (maxI ns).map .int
  | .min_, .lst xs => (iOf xs).bind fun ns => (minI ns).map .int
  | _, _ => Option.none
/-- membership of flat things -/
def inSeq (x : D) (xs : List D) : Option Bool := if x.flat && xs.all D.flat then some (xs.any fun y => D.eqv y x) else Option.none
def inD : D → D → Option Bool
  | x, .tup xs => inSeq x xs
  | x, .lst xs => inSeq x xs
  | .str [c], .str y => some (decide (c ∈ y))
  | x, .dct kvs => (ky x).map fun k => (look kvs k).isSome
  | .str x, .kdc kvs => some (look kvs (.s x)).isSome
  | _, _ => Option.none
/-- x is None, x is True, x is False -/
def isD : D → D → Option Bool
  | .none, .none => some true
  | _, .none => some false
  | .bool a, .bool b => some (decide (a = b))
  | _, _ => Option.none
def op2 : O2 → D → D → Option D
  | .add, .int i, .int j => some (.int (i + j))
  | .add, .str x, .str y => if x.length + y.length ≤ LIM then some (.str (x ++ y)) else Option.none
  | .add, .lst x, .lst y => if x.length + y.length ≤ LIM then some (.lst (x ++ y)) else Option.none
  | .add, .tup x, .tup y => if x.length + y.length ≤ LIM then some (.tup (x ++ y)) else Option.none
  | .sub, .int i, .int j => some (.int (i - j))
  | .mul, .int i, .int j => if (-(2 ^ 64) < i ∧ i < 2 ^ 64) ∨ (-(2 ^ 64) < j ∧ j < 2 ^ 64) then some (.int (i * j)) else Option.none
  | .mul, .lst xs, .int n => if -(2 ^ 62) ≤ n ∧ n < 2 ^ 62 ∧ xs.length * n.toNat ≤ LIM then some (.lst (List.replicate n.toNat xs).flatten) else Option.none
  | .fdiv, .int i, .int j => if 0 < j ∧ j < 1073741824 then some (.int (i / j)) else Option.none
  | .mod, .int i, .int j => if 0 < j then some (.int (i % j)) else Option.none
  | .pow, .int i, .int j => if 0 ≤ j ∧ j ≤ 1000000 ∧ i.natAbs < 2 ^ 64 then some (.int (i ^ j.toNat)) else Option.none
  | .eq, a, b => if a.shaped && b.shaped then some (.bool (D.eqv a b)) else Option.none
  | .ne, a, b => if a.shaped && b.shaped then some (.bool !(D.eqv a b)) else Option.none
  | .lt, .int i, .int j => some (.bool (decide (i < j)))
  | .le, .int i, .int j => some (.bool (decide (i ≤ j)))
  | .gt, .int i, .int j => some (.bool (decide (j < i)))
  | .ge, .int i, .int j => some (.bool (decide (j ≤ i)))
  | .in_, a, b => (inD a b).map .bool
  | .nin, a, b => (inD a b).map fun k => .bool !k
  | .idx, .tup xs, .int i => at? xs i
  | .idx, .lst xs, .int i => at? xs i
  | .idx, .scr xs, .int i => (at? xs i).map .int
  | .idx, .str x, .int i => if x.length ≤ LIM then (at? x i).map fun c => .str [c] else Option.none
  | .idx, .dct kvs, k => (ky k).bind (look kvs)
  | .idx, .kdc kvs, .str x => look kvs (.s x)
  | .is_, a, b => (isD a b).map .bool
  | .isn, a, b => (isD a b).map fun k => .bool !k
  | .max2, .int i, .int j => some (.int (if i < j then j else i))
  | _, _, _ => Option.none
/-- methods of built-in types -/
inductive Mt where
  | join | isalnum | index | get
  deriving DecidableEq
def rcv : Mt → D → Bool
  | .join, .str _ => true
  | .isalnum, .str _ => true
  | .index, .lst _ => true
  | .get, .dct _ => true
  | _, _ => false
/-- the first place of a flat thing -/
def idxOf (x : D) : List D → Option Nat
  | [] => Option.none
  | y :: r => if D.eqv y x then some 0 else (idxOf x r).map (· + 1)
def mop : Mt → D → List D → Option D
  | .isalnum, .str [c], [] => if c < 128 then some (.bool (alnumC c)) else Option.none
  | .get, .dct kvs, [k, d] => (ky k).map fun k => (look kvs k).getD d
  | .index, .lst xs, [x] => if x.flat && xs.all D.flat then (idxOf x xs).map fun k => .int (k : Nat) else Option.none
  | .join, .str s, [.lst xs] => (sOf xs).bind fun ys => if (joinTx s ys).length + s.length ≤ LIM then some (.str (joinTx s ys)) else Option.none
  | _, _, _ => Option.none
def slice (d : D) (lo hi : Option Int) : Option D := match d with
  | .lst xs => some (.lst (cut xs lo hi))
  | .tup xs => some (.tup (cut xs lo hi))
  | .str x => if x.length ≤ LIM then some (.str (cut x lo hi)) else Option.none
  | _ => Option.none
inductive It where
  | seq | rng | enum | zip
  deriving DecidableEq
inductive E where
  | var (i : Nat)
  | cst (d : D)
  | glb (x : Tx)
  | tup (es : List E)
  | lst (es : List E)
  | emp
  | un (o : O1) (a : E)
  | bi (o : O2) (a b : E)
  | ch (o p : O2) (a b c : E)
  | and_ (a b : E)
  | or_ (a b : E)
  | ite (c a b : E)
  | slc (a : E) (lo hi : Option E)
  | call (f : Tx) (es : List E)
  | comp (k : It) (src : List E) (tg : List Nat) (cond : List E) (elt : E)
  | mt (m : Mt) (a : E) (es : List E)
  | oLen (i : Nat)
  | oIn (e : E) (i : Nat)
  | oNin (e : E) (i : Nat)
  | oIdx (i : Nat) (e : E)
  | stuck
  /-- e.f, e an object of this class -/
  | attr (k : Tx) (e : E) (f : Tx)
  /-- e.m(es), e an object of this class -/
  | meth (k : Tx) (e : E) (m : Tx) (es : List E)
  /-- a list, a dict that stands in the store -/
  | boxL (es : List E)
  | boxD
  | hLen (e : E)
  | hIdx (e k : E)
  | hIn (k e : E)
  | hNin (k e : E)
  | hPop (e : E)
  deriving Inhabited
inductive Sm where
  | asg (i : Nat) (e : E)
  | asgO (i : Nat) (e : E)
  | unp (is : List Nat) (e : E)
  | aug (i : Nat) (o : O2) (e : E)
  | app (i : Nat) (e : E)
  | setI (i : Nat) (k e : E)
  | share (i : Nat)
  | iff (c : E) (a b : List Sm)
  | forr (k : It) (src : List E) (tg : List Nat) (body : List Sm)
  | whil (c : E) (body : List Sm)
  | ret (e : E)
  | rais (x : Tx)
  /-- raise X(.., n): a class of errors with a field -/
  | raiA (x : Tx) (es : List E)
  | pass
  | exq (e : E)
  | stuck
  /-- try, the classes that are known, the body, the clauses -/
  | tryy (known : List Tx) (body hs : List Sm)
  /-- if a or b != x.pop() + 1: .. else: .. -/
  | ifPop (a b : E) (i : Nat) (x y : List Sm)
  | hnd (x : Tx) (body : List Sm)
  /-- try: body except h as n: x.append(n.at) -/
  | tryAt (known : List Tx) (body : List Sm) (h : Tx) (n i : Nat)
  /-- x.f = e, x an object of this class -/
  | setA (k : Tx) (i : Nat) (f : Tx) (e : E)
  /-- x.f += e -/
  | augA (k : Tx) (i : Nat) (f : Tx) (o : O2) (e : E)
  | hApp (r e : E)
  | hSet (r k e : E)
  /-- x.extend(e) -/
  | ext (i : Nat) (e : E)
  /-- r[k] += e -/
  | hAug (r k e : E)
  deriving Inhabited
inductive Sl where
  | no | d (x : D) | ol (xs : List D) | od (kvs : List (Ky × D))
  deriving Inhabited
inductive Vl where
  | d (x : D)
/-- what stands in the store -/
inductive Cell where
  | lst (xs : List D) | dct (kvs : List (Ky × D)) | obj (k : Tx) (fs : List (Tx × D))
  deriving Inhabited
def fget : List (Tx × D) → Tx → Option D
  | [], _ => Option.none
  | (x, d) :: r, q => if x = q then some d else fget r q
def fput (q : Tx) (v : D) : List (Tx × D) → List (Tx × D)
  | [] => [(q, v)]
  | (x, d) :: r => if x = q then (x, v) :: r else (x, d) :: fput q v r
structure St where
  env : List Sl
  hp : List Cell
structure Exn where
  cls : Tx
  at_ : Option D := Option.none
inductive R (α : Type) where
  | ok (a : α) (s : St) | exn (x : Exn) (s : St) | bad
def R.bind {α β : Type} (r : R α) (f : α → St → R β) : R β := match r with
  | .ok a s => f a s
  | .exn x s => .exn x s
  | .bad => .bad
def R.of {α : Type} (o : Option α) (s : St) : R α := match o with
  | some a => .ok a s
  | Option.none => .bad
/-- what a def tells of its arguments -/
inductive Ret where
  | ok (d : D) (fresh : Bool) (hp : List Cell) | exn (x : Exn) (hp : List Cell) | bad
abbrev Oracle := Tx → List D → List Cell → Ret
/-- the module's constants -/
abbrev Glob := Tx → Option D
def St.get (s : St) (i : Nat) : Option D := match s.env[i]? with
  | some (.d x) => some x
  | _ => Option.none
def St.set (s : St) (i : Nat) (x : Sl) : St := { s with env := s.env.set i x }
def St.obj (s : St) (k : Tx) : D → Option (Nat × List (Tx × D))
  | .loc i => (match s.hp[i]? with
    | some (.obj k' fs) => if k' = k then some (i, fs) else Option.none
    | _ => Option.none)
  | _ => Option.none
def St.cell (s : St) : D → Option (Nat × Cell)
  | .loc i => (match s.hp[i]? with
    | some (.obj _ _) => Option.none
    | some c => some (i, c)
    | Option.none => Option.none)
  | _ => Option.none
def St.put (s : St) (i : Nat) (c : Cell) : St := { s with hp := s.hp.set i c }
def St.new (s : St) (c : Cell) : St := { s with hp := s.hp ++ [c] }
def cellIn (x : D) : Cell → Option Bool
  | .lst xs => inSeq x xs
  | .dct kvs => (ky x).map fun k => (look kvs k).isSome
  | .obj _ _ => Option.none
def cellIdx (x : D) : Cell → Option D
  | .lst xs => (match x with
    | .int k => at? xs k
    | _ => Option.none)
  | .dct kvs => (ky x).bind (look kvs)
  | .obj _ _ => Option.none
def setTg (s : St) : List Nat → List D → Option St
  | [], [] => some s
  | i :: is, x :: xs => if i < s.env.length then setTg (s.set i (.d x)) is xs else Option.none
  | _, _ => Option.none
def wipeS (s : St) : List Nat → St
  | [] => s
  | i :: is => (wipeS s is).set i .no
/-- a target of a loop: one name, or several of a tuple -/
def setT (s : St) (tg : List Nat) (d : D) : Option St := match tg with
  | [i] => setTg s [i] [d]
  | is => match d with
    | .tup xs => setTg s is xs
    | _ => Option.none
/-- the data of s put back into s' -/
def backS (s s' : St) : List Nat → St
  | [] => s'
  | i :: is => (backS s s' is).set i (match s.env[i]? with
    | some (.d x) => .d x
    | _ => .no)
def kyD : Ky → D
  | .i n => .int n
  | .s x => .str x
def items : It → List D → Option (List D)
  | .seq, [.dct kvs] => some (kvs.map fun p => kyD p.1)
  | .seq, [.lst xs] => some xs
  | .seq, [.tup xs] => some xs
  | .seq, [.scr xs] => some (xs.map .int)
  | .seq, [.str x] => some (x.map fun c => .str [c])
  | .rng, [.int n] => if -(2 ^ 62) ≤ n ∧ n < 2 ^ 62 then some ((List.range n.toNat).map fun k => .int (k : Nat)) else Option.none
  | .enum, [.lst xs] => some (xs.mapIdx fun k x => .tup [.int (k : Nat), x])
  | .enum, [.tup xs] => some (xs.mapIdx fun k x => .tup [.int (k : Nat), x])
  | .zip, [.lst xs, .lst ys] => some (List.zipWith (fun x y => .tup [x, y]) xs ys)
  | .zip, [.tup xs, .tup ys] => some (List.zipWith (fun x y => .tup [x, y]) xs ys)
  | .zip, [.lst xs, .lst ys, .lst zs] => some (zip3 xs ys zs)
  | _, _ => Option.none
/-- the items of a comprehension, one behind the other -/
def compL (f : D → St → R (Option D)) : List D → List D → St → R (List D)
  | [], acc, s => .ok acc s
  | x :: r, acc, s => match f x s with
    | .ok (some d) s' => if acc.length < LIM then compL f r (acc ++ [d]) s' else .bad
    | .ok Option.none s' => compL f r acc s'
    | _ => .bad
def asInt : Option D → Option (Option Int)
  | Option.none => some Option.none
  | some (.int i) => some (some i)
  | some _ => Option.none
section
variable (G : Glob) (c : Oracle)
mutual
def ev : E → St → R D
  | .var i, s => R.of (s.get i) s
  | .cst d, s => .ok d s
  | .glb x, s => R.of (G x) s
  | .tup es, s => (evs es s).bind fun ds s => .ok (.tup ds) s
  | .lst es, s => (evs es s).bind fun ds s => .ok (.lst ds) s
  | .emp, s => .ok (.dct []) s
  | .un o a, s => (ev a s).bind fun x s => R.of (op1 o x) s
  | .bi o a b, s => (ev a s).bind fun x s => (ev b s).bind fun y s => R.of (op2 o x y) s
  | .ch o p a b e, s => (ev a s).bind fun x s => (ev b s).bind fun y s => match op2 o x y with
    | some (.bool true) => (ev e s).bind fun z s => R.of (op2 p y z) s
    | some (.bool false) => .ok (.bool false) s
    | _ => .bad
  | .and_ a b, s => (ev a s).bind fun x s => match x.tru with
    | some true => ev b s
    | some false => .ok x s
    | Option.none => .bad
  | .or_ a b, s => (ev a s).bind fun x s => match x.tru with
    | some true => .ok x s
    | some false => ev b s
    | Option.none => .bad
  | .ite e a b, s => (ev e s).bind fun x s => match x.tru with
    | some true => ev a s
    | some false => ev b s
    | Option.none => .bad
  | .slc a lo hi, s => (ev a s).bind fun x s => (evo lo s).bind fun l s => (evo hi s).bind fun h s => R.of (slice x l h) s
  | .call f es, s => (evs es s).bind fun ds s => match c f ds s.hp with
    | .ok d _ hp => .ok d { s with hp := hp }
    | .exn x hp => .exn x { s with hp := hp }
    | .bad => .bad
  | .comp k src tg cond elt, s => (evs src s).bind fun ds s => match items k ds with
    | Option.none => .bad
    | some its => (compL (fun x s => match setT s tg x with
        | Option.none => .bad
        | some s => (evt cond s).bind fun b s => if b then (ev elt s).bind fun d s => .ok (some d) (wipeS s tg) else .ok Option.none (wipeS s tg)) its [] (wipeS s tg)).bind fun ds s' => .ok (.lst ds) (backS s s' tg)
  | .mt m a es, s => (ev a s).bind fun x s => if rcv m x then (evs es s).bind fun ds s => R.of (mop m x ds) s else .bad
  | .oLen i, s => match s.env[i]? with
    | some (.ol xs) => .ok (.int xs.length) s
    | some (.od kvs) => .ok (.int kvs.length) s
    | some (.d (.lst xs)) => .ok (.int xs.length) s
    | _ => .bad
  | .oIn e i, s => (ev e s).bind fun x s => match s.env[i]? with
    | some (.ol xs) => R.of ((inSeq x xs).map .bool) s
    | some (.od kvs) => R.of ((ky x).map fun k => .bool (look kvs k).isSome) s
    | _ => .bad
  | .oNin e i, s => (ev e s).bind fun x s => match s.env[i]? with
    | some (.ol xs) => R.of ((inSeq x xs).map fun b => .bool !b) s
    | some (.od kvs) => R.of ((ky x).map fun k => .bool !(look kvs k).isSome) s
    | _ => .bad
  | .oIdx i e, s => match s.env[i]? with
    | some (.ol _) => (ev e s).bind fun x s => (match s.env[i]?, x with
      | some (.ol xs), .int k => R.of (at? xs k) s
      | _, _ => .bad)
    | _ => .bad
  | .stuck, _ => .bad
  | .attr k e f, s => (ev e s).bind fun x s => match s.obj k x with
    | some (_, fs) => R.of (fget fs f) s
    | Option.none => .bad
  | .meth k e m es, s => (ev e s).bind fun x s => match s.obj k x with
    | some (_, fs) => (match fget fs m with
      | some _ => .bad
      | Option.none => (evs es s).bind fun ds s => match c (k ++ 46 :: m) (x :: ds) s.hp with
        | .ok d _ hp => .ok d { s with hp := hp }
        | .exn x hp => .exn x { s with hp := hp }
        | .bad => .bad)
    | Option.none => .bad
  | .boxL es, s => (evs es s).bind fun ds s => .ok (.loc s.hp.length) (s.new (.lst ds))
  | .boxD, s => .ok (.loc s.hp.length) (s.new (.dct []))
  | .hLen e, s => (ev e s).bind fun x s => match s.cell x with
    | some (_, .lst xs) => .ok (.int xs.length) s
    | some (_, .dct kvs) => .ok (.int kvs.length) s
    | _ => .bad
  | .hIdx e k, s => (ev e s).bind fun x s => match s.cell x with
    | some _ => (ev k s).bind fun y s => (match s.cell x with
      | some (_, c) => R.of (cellIdx y c) s
      | Option.none => .bad)
    | Option.none => .bad
  | .hIn k e, s => (ev k s).bind fun y s => (ev e s).bind fun x s => match s.cell x with
    | some (_, c) => R.of ((cellIn y c).map .bool) s
    | Option.none => .bad
  | .hNin k e, s => (ev k s).bind fun y s => (ev e s).bind fun x s => match s.cell x with
    | some (_, c) => R.of ((cellIn y c).map fun b => .bool !b) s
    | Option.none => .bad
  | .hPop e, s => (ev e s).bind fun x s => match s.cell x with
    | some (i, .lst xs) => (match xs[xs.length - 1]? with
      | some d => .ok d (s.put i (.lst xs.dropLast))
      | Option.none => .bad)
    | _ => .bad
def evs : List E → St → R (List D)
  | [], s => .ok [] s
  | e :: es, s => (ev e s).bind fun d s => (evs es s).bind fun ds s => .ok (d :: ds) s
def evo : Option E → St → R (Option Int)
  | Option.none, s => .ok Option.none s
  | some e, s => (ev e s).bind fun d s => match d with
    | .int i => .ok (some i) s
    | _ => .bad
/-- tests, all of them -/
def evt : List E → St → R Bool
  | [], s => .ok true s
  | e :: es, s => (ev e s).bind fun d s => match d.tru with
    | some true => evt es s
    | some false => .ok false s
    | Option.none => .bad
end
inductive X where
  | nx (s : St) | rt (d : D) (fresh : Bool) (s : St) | exn (x : Exn) (s : St) | bad
def X.ofR {α : Type} (r : R α) (f : α → St → X) : X := match r with
  | .ok a s => f a s
  | .exn x s => .exn x s
  | .bad => .bad
def X.then_ (r : X) (f : St → X) : X := match r with
  | .nx s => f s
  | x => x
def whileL (test : St → R Bool) (body : St → X) : Nat → St → X
  | 0, _ => .bad
  | n + 1, s => X.ofR (test s) fun b s => if b then (body s).then_ (whileL test body n) else .nx s
def forL (body : D → St → X) : List D → St → X
  | [], s => .nx s
  | x :: r, s => (body x s).then_ (forL body r)
/-- TongueError -/
def topT : Tx := [84, 111, 110, 103, 117, 101, 69, 114, 114, 111, 114]
/-- is a class of errors caught by a clause: all stand right under TongueError -/
def subT (x h : Tx) : Bool := decide (x = h) || decide (h = topT)
mutual
def ex : Sm → St → X
  | .asg i e, s => X.ofR (ev G c e s) fun d s => if i < s.env.length then .nx (s.set i (.d d)) else .bad
  | .asgO i e, s => X.ofR (ev G c e s) fun d s => if i < s.env.length then (match d with
    | .lst xs => .nx (s.set i (.ol xs))
    | .dct kvs => .nx (s.set i (.od kvs))
    | _ => .bad) else .bad
  | .unp is e, s => X.ofR (ev G c e s) fun d s => match d with
    | .tup xs => (match setTg s is xs with
      | some s => .nx s
      | Option.none => .bad)
    | .lst xs => (match setTg s is xs with
      | some s => .nx s
      | Option.none => .bad)
    | _ => .bad
  | .aug i o e, s => match s.get i with
    | some x => X.ofR (ev G c e s) fun d s => (match x, d with
      | .int m, .int n => (match o with
        | .add => if i < s.env.length then .nx (s.set i (.d (.int (m + n)))) else .bad
        | .sub => if i < s.env.length then .nx (s.set i (.d (.int (m - n)))) else .bad
        | _ => .bad)
      | _, _ => .bad)
    | Option.none => .bad
  | .app i e, s => match s.env[i]? with
    | some (.ol _) => X.ofR (ev G c e s) fun d s => (match s.env[i]? with
      | some (.ol xs) => if xs.length < LIM then .nx (s.set i (.ol (xs ++ [d]))) else .bad
      | _ => .bad)
    | _ => .bad
  | .setI i k e, s => X.ofR (ev G c e s) fun d s => match s.env[i]? with
    | some (.ol _) => X.ofR (ev G c k s) fun q s => (match s.env[i]?, q with
      | some (.ol xs), .int n => (match ix xs.length n with
        | some j => .nx (s.set i (.ol (xs.set j d)))
        | Option.none => .bad)
      | _, _ => .bad)
    | some (.od _) => X.ofR (ev G c k s) fun q s => (match s.env[i]?, ky q with
      | some (.od kvs), some q => if kvs.length < LIM then .nx (s.set i (.od (putK kvs q d))) else .bad
      | _, _ => .bad)
    | _ => .bad
  | .share i, s => match s.env[i]? with
    | some (.ol xs) => .nx (s.set i (.d (.lst xs)))
    | some (.od kvs) => .nx (s.set i (.d (.dct kvs)))
    | _ => .nx s
  | .iff e a b, s => X.ofR (ev G c e s) fun d s => match d.tru with
    | some true => exs a s
    | some false => exs b s
    | Option.none => .bad
  | .forr k src tg body, s => X.ofR (evs G c src s) fun ds s => match items k ds with
    | Option.none => .bad
    | some its => forL (fun x s => match setT s tg x with
        | some s => exs body s
        | Option.none => .bad) its s
  | .whil e body, s => whileL (fun s => (ev G c e s).bind fun d s => R.of d.tru s) (fun s => exs body s) LIM s
  | .ret e, s => X.ofR (ev G c e s) fun d s => .rt d false s
  | .rais x, s => .exn ⟨x, Option.none⟩ s
  | .raiA x es, s => X.ofR (evs G c es s) fun ds s => (match ds with
    | [.str _, .int i] => .exn ⟨x, some (.int i)⟩ s
    | _ => .bad)
  | .pass, s => .nx s
  | .exq e, s => X.ofR (ev G c e s) fun _ s => .nx s
  | .stuck, _ => .bad
  | .tryy known body hs, s => match exs body s with
    | .exn x s' => if x.cls ∈ known then exh x hs s' else .bad
    | r => r
  | .hnd _ _, _ => .bad
  | .tryAt known body h n i, s => match exs body s with
    | .exn x s' => if x.cls ∈ known ∧ n ≠ i ∧ n < s'.env.length then
        (if x.cls = h then (match x.at_, s'.env[i]? with
          | some d, some (.ol xs) => if xs.length < LIM then .nx ((s'.set i (.ol (xs ++ [d]))).set n .no) else .bad
          | _, _ => .bad)
        else if h = topT then .bad else .exn x s') else .bad
    | r => r
  | .ifPop a b i x y, s => X.ofR (ev G c a s) fun d s => match d.tru with
    | some true => exs x s
    | some false => X.ofR (ev G c b s) fun d s => (match s.env[i]?, d with
      | some (.ol xs), .int n => (match xs[xs.length - 1]? with
        | some (.int m) => if n = m + 1 then exs y (s.set i (.ol xs.dropLast)) else exs x (s.set i (.ol xs.dropLast))
        | _ => .bad)
      | _, _ => .bad)
    | Option.none => .bad
  | .setA k i f e, s => X.ofR (ev G c e s) fun d s => (match s.get i with
    | some x => (match s.obj k x with
      | some (j, fs) => if fs.length < 1000 then .nx (s.put j (.obj k (fput f d fs))) else .bad
      | Option.none => .bad)
    | Option.none => .bad)
  | .augA k i f o e, s => (match s.get i with
    | some x => (match s.obj k x with
      | some (_, fs) => (match fget fs f with
        | some (.int m) => X.ofR (ev G c e s) fun d s => (match s.obj k x, d with
          | some (j, fs), .int n => if fs.length < 1000 then (match o with
            | .add => .nx (s.put j (.obj k (fput f (.int (m + n)) fs)))
            | .sub => .nx (s.put j (.obj k (fput f (.int (m - n)) fs)))
            | _ => .bad) else .bad
          | _, _ => .bad)
        | _ => .bad)
      | Option.none => .bad)
    | Option.none => .bad)
  | .hApp r e, s => X.ofR (ev G c r s) fun x s => match s.cell x with
    | some (_, .lst _) => X.ofR (ev G c e s) fun d s => (match s.cell x with
      | some (i, .lst xs) => if xs.length < LIM then .nx (s.put i (.lst (xs ++ [d]))) else .bad
      | _ => .bad)
    | _ => .bad
  | .hSet r k e, s => X.ofR (ev G c e s) fun d s => X.ofR (ev G c r s) fun x s => match s.cell x with
    | some _ => X.ofR (ev G c k s) fun q s => (match s.cell x with
      | some (i, .lst xs) => (match q with
        | .int n => (match ix xs.length n with
          | some j => .nx (s.put i (.lst (xs.set j d)))
          | Option.none => .bad)
        | _ => .bad)
      | some (i, .dct kvs) => (match ky q with
        | some q => if kvs.length < LIM then .nx (s.put i (.dct (putK kvs q d))) else .bad
        | Option.none => .bad)
      | _ => .bad)
    | Option.none => .bad
  | .ext i e, s => match s.env[i]? with
    | some (.ol _) => X.ofR (ev G c e s) fun d s => (match s.env[i]?, d with
      | some (.ol xs), .lst ys => if xs.length + ys.length ≤ LIM then .nx (s.set i (.ol (xs ++ ys))) else .bad
      | _, _ => .bad)
    | _ => .bad
  | .hAug r k e, s => X.ofR (ev G c r s) fun x s => match s.cell x with
    | some _ => X.ofR (ev G c k s) fun q s => (match s.cell x, q with
      | some (_, .lst xs), .int n => (match at? xs n with
        | some (.int m) => X.ofR (ev G c e s) fun d s => (match s.cell x, d with
          | some (i, .lst ys), .int m' => (match ix ys.length n with
            | some j => .nx (s.put i (.lst (ys.set j (.int (m + m')))))
            | Option.none => .bad)
          | _, _ => .bad)
        | _ => .bad)
      | _, _ => .bad)
    | Option.none => .bad
def exs : List Sm → St → X
  | [], s => .nx s
  | a :: r, s => (ex a s).then_ (exs r)
/-- the clauses, one after the other -/
def exh (x : Exn) : List Sm → St → X
  | [], s => .exn x s
  | .hnd h b :: r, s => if subT x.cls h then exs b s else exh x r s
  | _ :: _, _ => .bad
end
end
/-- a def: how many parameters, how many names, its body -/
structure Fn where
  pars : Nat
  names : Nat
  body : List Sm
def runFn (G : Glob) (c : Oracle) (f : Fn) (args : List D) (hp : List Cell) : Ret :=
  if args.length = f.pars then
    match exs G c f.body ⟨args.map .d ++ List.replicate (f.names - args.length) .no, hp⟩ with
    | .nx s => .ok .none false s.hp
    | .rt d b s => .ok d b s.hp
    | .exn x s => .exn x s.hp
    | .bad => .bad
  else .bad
/-- __init__ -/
def initT : Tx := [46, 95, 95, 105, 110, 105, 116, 95, 95]
/-- a class that is called: a new object, then its __init__ -/
def mkRet (c : Oracle) (k : Tx) (args : List D) (hp : List Cell) : Ret := match c (k ++ initT) (.loc hp.length :: args) (hp ++ [.obj k []]) with
  | .ok .none _ hp' => .ok (.loc hp.length) false hp'
  | .exn x hp' => .exn x hp'
  | _ => .bad
mutual
/-- no place of the store in it -/
def D.noLoc : D → Bool
  | .loc _ => false
  | .tup xs | .lst xs => D.noLocL xs
  | .dct kvs => D.noLocK kvs
  | _ => true
def D.noLocL : List D → Bool
  | [] => true
  | x :: r => D.noLoc x && D.noLocL r
def D.noLocK : List (Ky × D) → Bool
  | [] => true
  | (_, x) :: r => D.noLoc x && D.noLocK r
end
/-- what a def tells that knows nothing of the store: what it laid there is gone -/
def Ret.gone (hp : List Cell) : Ret → Ret
  | .ok d b hp' => if hp'.isEmpty || d.noLoc then .ok d b hp else .bad
  | .exn x _ => .exn x hp
  | .bad => .bad
/-- so many calls deep; a name without a body is a class -/
def run (G : Glob) (T : Tx → Option Fn) : Nat → Oracle
  | 0, _, _, _ => .bad
  | n + 1, f, args, hp => match T f with
    | some fn => if D.noLocL args then (runFn G (run G T n) fn args []).gone hp else runFn G (run G T n) fn args hp
    | Option.none => mkRet (run G T n) f args hp
def lookG : List (Tx × D) → Glob
  | [], _ => Option.none
  | (x, d) :: r, q => if x = q then some d else lookG r q
def lookT : List (Tx × Fn) → Tx → Option Fn
  | [], _ => Option.none
  | (x, f) :: r, q => if x = q then some f else lookT r q
end Ft
set_option Elab.async false
set_option linter.all false
set_option maxRecDepth 100000
set_option maxHeartbeats 4000000
namespace Ft
open PySem PyProof.Rows L2
def tS (x : Tx) : Str := ⟨x.toArray⟩
def tx (s : Str) : Tx := s.cps.toList
/-- the built-in names that are used -/
def blts : List Str := ["len", "isinstance", "list", "tuple", "sum", "sorted", "set", "int", "bool", "str", "range", "enumerate", "zip", "dict", "max", "min"]
def all2 {α β : Type} (f : α → β → Bool) : List α → List β → Bool
  | [], [] => true
  | a :: r, b :: t => f a b && all2 f r t
  | _, _ => false
/-- a written value is this data -/
def kVal (K : PySem.W.Frag) : Nat → Value → D → Bool
  | 0, _, _ => false
  | n + 1, u, d => match u, d with
    | .none, .none => true
    | .bool a, .bool b => a == b
    | .int i _, .int j => i == j
    | .str x _, .str y => x == tS y
    | .ref a, .tup ds => (match K.lookup a with
      | some o => (match o.data with
        | .seq its _ => decide (o.cls = .type "tuple") && decide (its.size ≤ 1000) && all2 (kVal K n) its.toList ds
        | _ => false)
      | none => false)
    | _, _ => false
/-- a written dict with text keys and plain values -/
def kEs (K : PySem.W.Frag) : List DictEntry → List (Ky × D) → Bool
  | [], [] => true
  | e :: es, (.s x, d) :: ds => (match e.key with
    | .str y _ => y == tS x
    | _ => false) && (match d with
    | .int _ => true
    | .str _ => true
    | _ => false) && kVal K 1 e.val d && kEs K es ds
  | _, _ => false
/-- the classes' tests, all of them -/
def clsN (K : PySem.W.Frag) (exs : List Str) : Bool := exs.all fun x => exs.all fun h => match PySem.W.nsIn K mainGlobals x, PySem.W.nsIn K mainGlobals h with
  | some (some (.ref A)), some (some (.ref B)) => PySem.W.exmOne K (.ref A) (.ref B) == some (subT (tx x) (tx h))
  | _, _ => false
def mName (k m : Str) : Str := k ++ "." ++ m
/-- an error class with a field: its name, that of the class above it -/
structure EI where
  x : Str
  b : Str
/-- what is known throughout a text -/
structure CG where
  fns : List Str
  gls : List Str
  exs : List Str
  clss : List Str := []
  mets : List (Str × Str) := []
  atts : List (Str × Str) := []
  lats : List Str := []
  lcal : List (Str × Nat) := []
  exi : List EI := []
/-- a def of the text and its form; of a method the class -/
structure FD where
  x : Str
  k : Option Str
  st : Stmt
  N : List Str
  ps : List Str
  chg : List Str
  body : List Sm
  vcls : List (Str × Str) := []
  locs : List Str := []
  shr : List Str := []
def FD.qual (d : FD) : Str := match d.k with
  | none => d.x
  | some k => mName k d.x
def FD.key (d : FD) : Tx := match d.k with
  | none => tx d.x
  | some k => tx k ++ 46 :: tx d.x
def FD.at_ (d : FD) : Str × Option Str := match d.k with
  | none => (d.x, none)
  | some k => (k, some d.x)
def FD.fnD (d : FD) : He.FnD := ⟨d.at_, d.x, d.qual, defArgs d.st, defBody d.st, defScope d.st⟩
/-- a constant of the module -/
def glB (K : PySem.W.Frag) (p : Tx × D) : Bool := match p.2 with
  | .kdc ds => (match PySem.W.nsIn K mainGlobals (tS p.1) with
    | some (some (.ref a)) => (match K.lookup a with
      | some ⟨_, _, .dict es _, _⟩ => kEs K es.toList ds
      | _ => false)
    | _ => false)
  | d => (match PySem.W.nsIn K mainGlobals (tS p.1) with
    | some (some u) => kVal K 9 u d
    | _ => false)
def kyS : Ky → Str
  | .s x => tS x
  | .i _ => tS []
def tsOf : List (Tx × D) → List He.Tab
  | [] => []
  | (x, .kdc ds) :: r => (fun K => He.ga K (tS x), ds.map fun q => kyS q.1) :: tsOf r
  | _ :: r => tsOf r
/-- the facts that are looked at -/
def fasD (d : FD) : List He.Fa := match d.k with
  | none => [.glo d.x, .keep d.x]
  | some k => [.meth k d.x]
def fasOf (q : CG) (dat : List FD) : List He.Fa := dat.flatMap fasD ++ (q.clss.flatMap (fun k => [.glo k, .cls k, .mkr k]) ++ (q.atts.map (fun p => .noat p.1 p.2) ++ (q.exs.map .glo ++ (q.exs.map .exc ++ blts.map .free))))
/-- an error class with its own __init__, by the written part -/
def oexB (K : PySem.W.Frag) (C : Addr) : Bool := (match K.lookup C with
  | some ⟨.type "type", _, .cls cd, sl⟩ => (match cd.mro, sl.toList with
    | .ref D :: bm, [_, _, _, _, some (.builtin n), _] => decide (D = C) && (n == "ValueError.__new__" && (!cd.hasDel && (cd.hasDict && PySem.HandSPX.refsVE bm)))
    | _, _ => false)
  | _ => false) && (He.eqO (PySem.W.findIn K (.ref C) "__setattr__") (some (some (.builtin "object.__setattr__"))) && (decide (PySem.W.subIn K (.ref C) (.type "BaseException") = some true) && (decide (PySem.W.typeIn K (.ref C) = some (.type "type")) && PySem.W.keepIn K (.ref C))))
/-- the class above: its __init__ -/
def oexU (K : PySem.W.Frag) (B : Addr) : Bool := decide (PySem.W.specialIn K (.ref B) "__getattribute__" = some (some (.builtin "type.__getattribute__"))) && (PySem.W.readsIn K B (.type "type") && (match PySem.W.findCls K (.ref B) (.type "type") "__init__" with
  | some (.val (.builtin n)) => n == "ValueError.__init__"
  | _ => false))
def exiB (K : PySem.W.Frag) (e : EI) : Bool := He.eqO (PySem.W.nsIn K mainGlobals e.x) (some (some (.ref (He.ga K e.x)))) && (He.eqO (PySem.W.nsIn K mainGlobals e.b) (some (some (.ref (He.ga K e.b)))) && (oexB K (He.ga K e.x) && (oexU K (He.ga K e.b) && (He.eqO (PySem.W.findIn K (.ref (He.ga K e.x)) "at") (some none) && xfB K (He.ga K e.x)))))
abbrev AlF : Type := He.Al × List (Option (List (Option (Str × Int)))) × Bool
def obsF (q : CG) (dat : List FD) (glo : List (Tx × D)) (K : PySem.W.Frag) : AlF := (He.obsE (fasOf q dat) (dat.map FD.fnD) K, (tsOf glo).map fun t => He.dicW K (t.1 K), glo.all (glB K) && (clsN K (q.exs ++ q.exi.map EI.x) && q.exi.all (exiB K)))
def valF (dat : List FD) (glo : List (Tx × D)) (w : World) : AlF := (He.valE (dat.map FD.fnD), (tsOf glo).map fun t => some (He.keysIn w.params t.2), true)
/-- the names that are asked after -/
def namesF (q : CG) (dat : List FD) : List Str := (dat.filterMap fun d => match d.k with
  | none => some d.x
  | some _ => none) ++ q.clss ++ q.exs ++ q.exi.map EI.x ++ q.exi.map EI.b ++ q.gls
/-- their objects, and what these name -/
def refsG (g : Addr → Option Obj) (a : Addr) : List Addr := match g a with
  | some o => He.refsO o
  | none => []
def isCl (g : Addr → Option Obj) (a : Addr) : Bool := match g a with
  | some ⟨_, _, .cls _, _⟩ => true
  | _ => false
def asN (g : Addr → Option Obj) (xs : List Str) : List Addr :=
  let l1 := match g mainGlobals with
    | some ⟨_, _, .dict es _, _⟩ => es.toList.filterMap fun e => (match e.key, e.val with
      | .str y _, .ref a => if xs.contains y then some a else none
      | _, _ => none)
    | _ => []
  let cs := ((l1.filter (isCl g)).flatMap (refsG g)).eraseDups
  let ms := (cs.flatMap (refsG g)).eraseDups
  let l2 := (l1.filter fun a => !isCl g a).flatMap (refsG g)
  mainGlobals :: cStatics :: (l1 ++ l2 ++ l2.flatMap (refsG g) ++ cs ++ ms ++ ms.flatMap (refsG g))
def obsFG (n : Nat) (q : CG) (dat : List FD) (glo : List (Tx × D)) (g : Addr → Option Obj) : AlF := obsF q dat glo (He.frG g (asN g (namesF q dat)))
def hookF (n : Nat) (q : CG) (dat : List FD) (glo : List (Tx × D)) : PySem.W.Hook where
  α := AlF
  obs := fun s => obsFG n q dat glo s.heap.get?
  val := fun w => valF dat glo w
  says := fun w h => ∃ K : PySem.W.Frag, K.In h ∧ obsF q dat glo K = valF dat glo w
  of := fun _ _ e => ⟨_, He.frG_in, e⟩
  keeps := fun _ _ _ ⟨K, hK, c⟩ k => ⟨K, PySem.W.Frag.In.keeps hK k, c⟩
theorem obsFG_eq {n : Nat} {q : CG} {dat : List FD} {glo : List (Tx × D)} {g : Addr → Option Obj} {s : Shared} (h : ∀ a, g a = s.heap.get? a) : obsFG n q dat glo g = (hookF n q dat glo).obs s := by
  have e : g = s.heap.get? := funext h
  rw [e] <;> rfl
end Ft
namespace Ft
def b_is_within : List Sm := [.ret (.and_ (.un .isInt (.var 0)) (.and_ (.un .not_ (.un .isBool (.var 0))) (.ch .le .le (.var 1) (.var 0) (.var 2))))]
def b_is_name : List Sm := [.iff (.or_ (.un .not_ (.un .isStr (.var 0))) (.or_ (.un .not_ (.ch .le .le (.cst (.int 1)) (.un .len (.var 0)) (.cst (.int 6)))) (.bi .in_ (.var 0) (.glb [87, 79, 82, 68, 83])))) [.ret (.cst (.bool false))] [], .ret (.un .not_ (.comp .seq [(.var 0)] [1] [(.bi .nin (.var 1) (.glb [83, 77, 65, 76, 76]))] (.var 1)))]
def b_parts_of : List Sm := [.iff (.bi .in_ (.bi .idx (.var 0) (.cst (.int 0))) (.glb [73, 78, 78, 69, 82])) [.ret (.un .toLst (.slc (.var 0) (some (.cst (.int 1))) none))] [], .iff (.bi .eq (.bi .idx (.var 0) (.cst (.int 0))) (.cst (.str [102, 117, 110]))) [.ret (.lst [(.bi .idx (.var 0) (.cst (.int 2)))])] [], .iff (.bi .eq (.bi .idx (.var 0) (.cst (.int 0))) (.cst (.str [108, 101, 116]))) [.ret (.lst [(.bi .idx (.var 0) (.cst (.int 2))), (.bi .idx (.var 0) (.cst (.int 3)))])] [], .iff (.bi .eq (.bi .idx (.var 0) (.cst (.int 0))) (.cst (.str [116, 119, 111]))) [.ret (.lst [(.bi .idx (.var 0) (.cst (.int 2))), (.bi .idx (.var 0) (.cst (.int 3)))])] [], .ret (.lst [])]
def b_has_look : List Sm := [.iff (.or_ (.un .not_ (.un .isTup (.var 0))) (.or_ (.un .not_ (.var 0)) (.un .not_ (.un .isStr (.bi .idx (.var 0) (.cst (.int 0))))))) [.ret (.cst (.bool false))] [], .asg 1 (.bi .idx (.var 0) (.cst (.int 0))), .iff (.bi .in_ (.var 1) (.glb [73, 78, 78, 69, 82])) [.ret (.bi .eq (.un .len (.var 0)) (.bi .add (.cst (.int 1)) (.bi .idx (.glb [73, 78, 78, 69, 82]) (.var 1))))] [], .iff (.bi .eq (.var 1) (.cst (.str [110, 117, 109]))) [.ret (.and_ (.bi .eq (.un .len (.var 0)) (.cst (.int 2))) (.call [105, 115, 95, 119, 105, 116, 104, 105, 110] [(.bi .idx (.var 0) (.cst (.int 1))), (.cst (.int 0)), (.bi .sub (.glb [80, 82, 73, 77, 69]) (.cst (.int 1)))]))] [], .iff (.bi .eq (.var 1) (.cst (.str [110, 97, 109, 101]))) [.ret (.and_ (.bi .eq (.un .len (.var 0)) (.cst (.int 2))) (.call [105, 115, 95, 110, 97, 109, 101] [(.bi .idx (.var 0) (.cst (.int 1)))]))] [], .iff (.bi .eq (.var 1) (.cst (.str [102, 117, 110]))) [.ret (.and_ (.bi .eq (.un .len (.var 0)) (.cst (.int 3))) (.call [105, 115, 95, 110, 97, 109, 101] [(.bi .idx (.var 0) (.cst (.int 1)))]))] [], .iff (.bi .eq (.var 1) (.cst (.str [108, 101, 116]))) [.ret (.and_ (.bi .eq (.un .len (.var 0)) (.cst (.int 4))) (.call [105, 115, 95, 110, 97, 109, 101] [(.bi .idx (.var 0) (.cst (.int 1)))]))] [], .ret (.and_ (.bi .eq (.var 1) (.cst (.str [116, 119, 111]))) (.and_ (.bi .eq (.un .len (.var 0)) (.cst (.int 4))) (.and_ (.un .isStr (.bi .idx (.var 0) (.cst (.int 1)))) (.bi .in_ (.bi .idx (.var 0) (.cst (.int 1))) (.glb [83, 73, 71, 78, 83])))))]
def b_counted : List Sm := [.iff (.or_ (.bi .eq (.var 1) (.cst (.int 0))) (.un .not_ (.call [104, 97, 115, 95, 108, 111, 111, 107] [(.var 0)]))) [.ret (.un .neg (.cst (.int 1)))] [], .aug 1 .sub (.cst (.int 1)), .forr .seq [(.call [112, 97, 114, 116, 115, 95, 111, 102] [(.var 0)])] [2] [.asg 1 (.call [99, 111, 117, 110, 116, 101, 100] [(.var 2), (.var 1)]), .iff (.bi .lt (.var 1) (.cst (.int 0))) [.ret (.un .neg (.cst (.int 1)))] []], .ret (.var 1)]
def b_is_tree : List Sm := [.ret (.bi .ge (.call [99, 111, 117, 110, 116, 101, 100] [(.var 0), (.glb [77, 79, 83, 84, 95, 80, 65, 82, 84, 83])]) (.cst (.int 0)))]
def b_checked : List Sm := [.iff (.un .not_ (.call [105, 115, 95, 116, 114, 101, 101] [(.var 0)])) [.rais [66, 97, 100, 84, 114, 101, 101]] [], .ret (.var 0)]
def b_size_of : List Sm := [.ret (.bi .add (.cst (.int 1)) (.un .sum (.comp .seq [(.call [112, 97, 114, 116, 115, 95, 111, 102] [(.var 0)])] [1] [] (.call [115, 105, 122, 101, 95, 111, 102] [(.var 1)]))))]
def b_size : List Sm := [.ret (.call [115, 105, 122, 101, 95, 111, 102] [(.call [99, 104, 101, 99, 107, 101, 100] [(.var 0)])])]
def b_free_of : List Sm := [.iff (.bi .eq (.bi .idx (.var 0) (.cst (.int 0))) (.cst (.str [110, 97, 109, 101]))) [.share 1, .ret (.lst [(.bi .idx (.var 0) (.cst (.int 1)))])] [], .asgO 1 (.lst []), .forr .enum [(.call [112, 97, 114, 116, 115, 95, 111, 102] [(.var 0)])] [2, 3] [.asg 4 (.or_ (.bi .eq (.bi .idx (.var 0) (.cst (.int 0))) (.cst (.str [102, 117, 110]))) (.and_ (.bi .eq (.bi .idx (.var 0) (.cst (.int 0))) (.cst (.str [108, 101, 116]))) (.bi .eq (.var 2) (.cst (.int 1))))), .forr .seq [(.call [102, 114, 101, 101, 95, 111, 102] [(.var 3)])] [5] [.iff (.and_ (.oNin (.var 5) 1) (.un .not_ (.and_ (.var 4) (.bi .eq (.var 5) (.bi .idx (.var 0) (.cst (.int 1))))))) [.app 1 (.var 5)] []]], .share 1, .ret (.var 1)]
def b_free : List Sm := [.ret (.un .sorted (.call [102, 114, 101, 101, 95, 111, 102] [(.call [99, 104, 101, 99, 107, 101, 100] [(.var 0)])]))]
def b_with_parts : List Sm := [.iff (.bi .in_ (.bi .idx (.var 0) (.cst (.int 0))) (.glb [73, 78, 78, 69, 82])) [.ret (.bi .add (.tup [(.bi .idx (.var 0) (.cst (.int 0)))]) (.un .toTup (.var 1)))] [], .iff (.bi .eq (.bi .idx (.var 0) (.cst (.int 0))) (.cst (.str [102, 117, 110]))) [.ret (.tup [(.cst (.str [102, 117, 110])), (.bi .idx (.var 0) (.cst (.int 1))), (.bi .idx (.var 1) (.cst (.int 0)))])] [], .iff (.bi .eq (.bi .idx (.var 0) (.cst (.int 0))) (.cst (.str [108, 101, 116]))) [.ret (.tup [(.cst (.str [108, 101, 116])), (.bi .idx (.var 0) (.cst (.int 1))), (.bi .idx (.var 1) (.cst (.int 0))), (.bi .idx (.var 1) (.cst (.int 1)))])] [], .iff (.bi .eq (.bi .idx (.var 0) (.cst (.int 0))) (.cst (.str [116, 119, 111]))) [.ret (.tup [(.cst (.str [116, 119, 111])), (.bi .idx (.var 0) (.cst (.int 1))), (.bi .idx (.var 1) (.cst (.int 0))), (.bi .idx (.var 1) (.cst (.int 1)))])] [], .ret (.var 0)]
def b_look_closed : List Sm := [.exq (.call [99, 104, 101, 99, 107, 101, 100] [(.var 0)]), .iff (.call [102, 114, 101, 101, 95, 111, 102] [(.var 0)]) [.rais [85, 110, 98, 111, 117, 110, 100]] []]
def b_place_in : List Sm := [.ret (.mt .index (.un .rev (.var 0)) [(.var 1)])]
def b_code_in : List Sm := [.asg 2 (.bi .idx (.var 0) (.cst (.int 0))), .iff (.bi .eq (.var 2) (.cst (.str [110, 117, 109]))) [.ret (.tup [(.tup [(.cst (.str [110, 117, 109])), (.bi .idx (.var 0) (.cst (.int 1)))])])] [], .iff (.bi .in_ (.var 2) (.tup [(.cst (.str [121, 101, 115])), (.cst (.str [110, 111])), (.cst (.str [101, 109, 112, 116, 121]))])) [.ret (.tup [(.tup [(.var 2)])])] [], .iff (.bi .eq (.var 2) (.cst (.str [110, 97, 109, 101]))) [.ret (.tup [(.tup [(.cst (.str [116, 97, 107, 101])), (.call [112, 108, 97, 99, 101, 95, 105, 110] [(.var 1), (.bi .idx (.var 0) (.cst (.int 1)))])])])] [], .iff (.bi .eq (.var 2) (.cst (.str [102, 117, 110]))) [.ret (.tup [(.tup [(.cst (.str [102, 117, 110])), (.call [99, 111, 100, 101, 95, 105, 110] [(.bi .idx (.var 0) (.cst (.int 2))), (.bi .add (.var 1) (.lst [(.bi .idx (.var 0) (.cst (.int 1)))]))])])])] [], .iff (.bi .eq (.var 2) (.cst (.str [108, 101, 116]))) [.ret (.bi .add (.bi .add (.bi .add (.call [99, 111, 100, 101, 95, 105, 110] [(.bi .idx (.var 0) (.cst (.int 2))), (.var 1)]) (.tup [(.tup [(.cst (.str [107, 101, 101, 112]))])])) (.call [99, 111, 100, 101, 95, 105, 110] [(.bi .idx (.var 0) (.cst (.int 3))), (.bi .add (.var 1) (.lst [(.bi .idx (.var 0) (.cst (.int 1)))]))])) (.tup [(.tup [(.cst (.str [100, 114, 111, 112]))])]))] [], .iff (.bi .eq (.var 2) (.cst (.str [105, 102]))) [.ret (.bi .add (.call [99, 111, 100, 101, 95, 105, 110] [(.bi .idx (.var 0) (.cst (.int 1))), (.var 1)]) (.tup [(.tup [(.cst (.str [105, 102])), (.call [99, 111, 100, 101, 95, 105, 110] [(.bi .idx (.var 0) (.cst (.int 2))), (.var 1)]), (.call [99, 111, 100, 101, 95, 105, 110] [(.bi .idx (.var 0) (.cst (.int 3))), (.var 1)])])]))] [], .asg 3 (.tup []), .forr .seq [(.call [112, 97, 114, 116, 115, 95, 111, 102] [(.var 0)])] [4] [.asg 3 (.bi .add (.var 3) (.call [99, 111, 100, 101, 95, 105, 110] [(.var 4), (.var 1)]))], .iff (.bi .eq (.var 2) (.cst (.str [116, 119, 111]))) [.ret (.bi .add (.var 3) (.tup [(.tup [(.cst (.str [116, 119, 111])), (.bi .idx (.var 0) (.cst (.int 1)))])]))] [], .ret (.bi .add (.var 3) (.tup [(.tup [(.var 2)])]))]
def b_code_of : List Sm := [.exq (.call [108, 111, 111, 107, 95, 99, 108, 111, 115, 101, 100] [(.var 0)]), .ret (.call [99, 111, 100, 101, 95, 105, 110] [(.var 0), (.lst [])])]
def b_own_name : List Sm := [.asg 1 (.cst (.str [97, 98, 99, 100, 101, 102, 103, 104, 105, 106, 107, 108, 109, 110, 111, 112, 113, 114, 115, 116, 117, 118, 119, 120, 121, 122])), .iff (.bi .lt (.var 0) (.cst (.int 26))) [.ret (.bi .idx (.var 1) (.var 0))] [], .asg 2 (.bi .add (.bi .idx (.var 1) (.bi .mod (.bi .fdiv (.bi .sub (.var 0) (.cst (.int 26))) (.cst (.int 26))) (.cst (.int 26)))) (.bi .idx (.var 1) (.bi .mod (.bi .sub (.var 0) (.cst (.int 26))) (.cst (.int 26))))), .ret (.ite (.bi .in_ (.var 2) (.tup [(.cst (.str [105, 102])), (.cst (.str [105, 110])), (.cst (.str [110, 111]))])) (.bi .add (.var 2) (.cst (.str [122]))) (.var 2))]
def b_renamed_in : List Sm := [.iff (.bi .eq (.bi .idx (.var 0) (.cst (.int 0))) (.cst (.str [110, 97, 109, 101]))) [.share 4, .ret (.tup [(.cst (.str [110, 97, 109, 101])), (.bi .idx (.var 1) (.bi .idx (.var 0) (.cst (.int 1))))])] [], .asg 3 (.call [111, 119, 110, 95, 110, 97, 109, 101] [(.var 2)]), .iff (.bi .in_ (.bi .idx (.var 0) (.cst (.int 0))) (.tup [(.cst (.str [102, 117, 110])), (.cst (.str [108, 101, 116]))])) [.asgO 4 (.un .toDct (.var 1)), .setI 4 (.bi .idx (.var 0) (.cst (.int 1))) (.var 3), .iff (.bi .eq (.bi .idx (.var 0) (.cst (.int 0))) (.cst (.str [102, 117, 110]))) [.share 4, .ret (.tup [(.cst (.str [102, 117, 110])), (.var 3), (.call [114, 101, 110, 97, 109, 101, 100, 95, 105, 110] [(.bi .idx (.var 0) (.cst (.int 2))), (.var 4), (.bi .add (.var 2) (.cst (.int 1)))])])] [], .share 4, .ret (.tup [(.cst (.str [108, 101, 116])), (.var 3), (.call [114, 101, 110, 97, 109, 101, 100, 95, 105, 110] [(.bi .idx (.var 0) (.cst (.int 2))), (.var 1), (.var 2)]), (.call [114, 101, 110, 97, 109, 101, 100, 95, 105, 110] [(.bi .idx (.var 0) (.cst (.int 3))), (.var 4), (.bi .add (.var 2) (.cst (.int 1)))])])] [], .share 4, .ret (.call [119, 105, 116, 104, 95, 112, 97, 114, 116, 115] [(.var 0), (.comp .seq [(.call [112, 97, 114, 116, 115, 95, 111, 102] [(.var 0)])] [5] [] (.call [114, 101, 110, 97, 109, 101, 100, 95, 105, 110] [(.var 5), (.var 1), (.var 2)]))])]
def b_renamed : List Sm := [.exq (.call [108, 111, 111, 107, 95, 99, 108, 111, 115, 101, 100] [(.var 0)]), .ret (.call [114, 101, 110, 97, 109, 101, 100, 95, 105, 110] [(.var 0), .emp, (.cst (.int 0))])]
def b_are_alike : List Sm := [.exq (.call [99, 104, 101, 99, 107, 101, 100] [(.var 0)]), .exq (.call [99, 104, 101, 99, 107, 101, 100] [(.var 1)]), .ret (.bi .eq (.call [114, 101, 110, 97, 109, 101, 100] [(.var 0)]) (.call [114, 101, 110, 97, 109, 101, 100] [(.var 1)]))]
def b_run_at : List Sm := [.asg 3 (.var 1), .whil (.and_ (.bi .lt (.var 3) (.un .len (.var 0))) (.bi .in_ (.bi .idx (.var 0) (.var 3)) (.var 2))) [.aug 3 .add (.cst (.int 1))], .ret (.var 3)]
def b_token_at : List Sm := [.iff (.bi .in_ (.bi .idx (.var 0) (.var 1)) (.glb [83, 77, 65, 76, 76])) [.asg 2 (.call [114, 117, 110, 95, 97, 116] [(.var 0), (.var 1), (.glb [83, 77, 65, 76, 76])]), .asg 3 (.slc (.var 0) (some (.var 1)) (some (.var 2))), .iff (.and_ (.bi .nin (.var 3) (.glb [87, 79, 82, 68, 83])) (.bi .gt (.un .len (.var 3)) (.cst (.int 6)))) [.raiA [66, 97, 100, 84, 101, 120, 116] [(.cst (.str [116, 111, 111, 32, 108, 111, 110, 103, 32, 97, 32, 110, 97, 109, 101])), (.var 1)]] [], .ret (.tup [(.ite (.bi .in_ (.var 3) (.glb [87, 79, 82, 68, 83])) (.cst (.str [119, 111, 114, 100])) (.cst (.str [110, 97, 109, 101]))), (.var 3), (.var 1), (.var 2)])] [], .iff (.bi .in_ (.bi .idx (.var 0) (.var 1)) (.glb [70, 73, 71, 85, 82, 69, 83])) [.asg 2 (.call [114, 117, 110, 95, 97, 116] [(.var 0), (.var 1), (.glb [70, 73, 71, 85, 82, 69, 83])]), .iff (.or_ (.bi .gt (.bi .sub (.var 2) (.var 1)) (.cst (.int 4))) (.or_ (.bi .ge (.un .int_ (.slc (.var 0) (some (.var 1)) (some (.var 2)))) (.glb [80, 82, 73, 77, 69])) (.and_ (.bi .gt (.bi .sub (.var 2) (.var 1)) (.cst (.int 1))) (.bi .eq (.bi .idx (.var 0) (.var 1)) (.cst (.str [48])))))) [.raiA [66, 97, 100, 84, 101, 120, 116] [(.cst (.str [110, 111, 32, 110, 117, 109, 98, 101, 114])), (.var 1)]] [], .ret (.tup [(.cst (.str [110, 117, 109])), (.un .int_ (.slc (.var 0) (some (.var 1)) (some (.var 2)))), (.var 1), (.var 2)])] [], .iff (.bi .eq (.slc (.var 0) (some (.var 1)) (some (.bi .add (.var 1) (.cst (.int 2))))) (.cst (.str [45, 62]))) [.ret (.tup [(.cst (.str [115, 105, 103, 110])), (.cst (.str [45, 62])), (.var 1), (.bi .add (.var 1) (.cst (.int 2)))])] [], .iff (.or_ (.bi .in_ (.bi .idx (.var 0) (.var 1)) (.glb [83, 73, 71, 78, 83])) (.bi .in_ (.bi .idx (.var 0) (.var 1)) (.glb [77, 65, 82, 75, 83]))) [.ret (.tup [(.cst (.str [115, 105, 103, 110])), (.bi .idx (.var 0) (.var 1)), (.var 1), (.bi .add (.var 1) (.cst (.int 1)))])] [], .raiA [66, 97, 100, 84, 101, 120, 116] [(.cst (.str [110, 111, 32, 116, 111, 107, 101, 110])), (.var 1)]]
def b_tokens : List Sm := [.iff (.un .not_ (.un .isStr (.var 0))) [.raiA [66, 97, 100, 84, 101, 120, 116] [(.cst (.str [110, 111, 32, 116, 101, 120, 116])), (.cst (.int 0))]] [], .asgO 1 (.lst []), .asg 2 (.cst (.int 0)), .whil (.bi .lt (.var 2) (.un .len (.var 0))) [.iff (.bi .in_ (.bi .idx (.var 0) (.var 2)) (.glb [66, 76, 65, 78, 75, 83])) [.aug 2 .add (.cst (.int 1))] [.asg 3 (.call [116, 111, 107, 101, 110, 95, 97, 116] [(.var 0), (.var 2)]), .app 1 (.slc (.var 3) none (some (.cst (.int 3)))), .asg 2 (.bi .idx (.var 3) (.cst (.int 3)))]], .share 1, .ret (.var 1)]
def b_read : List Sm := [.asg 1 (.call [82, 101, 97, 100, 101, 114] [(.var 0)]), .asg 2 (.meth [82, 101, 97, 100, 101, 114] (.var 1) [119, 104, 111, 108, 101] []), .iff (.bi .lt (.attr [82, 101, 97, 100, 101, 114] (.var 1) [97, 116]) (.un .len (.attr [82, 101, 97, 100, 101, 114] (.var 1) [108, 101, 102, 116]))) [.raiA [66, 97, 100, 84, 101, 120, 116] [(.cst (.str [97, 110, 111, 116, 104, 101, 114, 32, 116, 111, 107, 101, 110, 32, 105, 115, 32, 100, 117, 101])), (.meth [82, 101, 97, 100, 101, 114] (.var 1) [112, 108, 97, 99, 101] [])]] [], .iff (.bi .lt (.call [99, 111, 117, 110, 116, 101, 100] [(.var 2), (.glb [77, 79, 83, 84, 95, 80, 65, 82, 84, 83])]) (.cst (.int 0))) [.raiA [66, 97, 100, 84, 101, 120, 116] [(.cst (.str [116, 111, 111, 32, 109, 97, 110, 121, 32, 112, 97, 114, 116, 115])), (.cst (.int 0))]] [], .ret (.var 2)]
def b_level_of : List Sm := [.iff (.bi .in_ (.bi .idx (.var 0) (.cst (.int 0))) (.tup [(.cst (.str [108, 101, 116])), (.cst (.str [105, 102])), (.cst (.str [102, 117, 110]))])) [.ret (.cst (.int 0))] [], .iff (.bi .eq (.bi .idx (.var 0) (.cst (.int 0))) (.cst (.str [116, 119, 111]))) [.ret (.bi .idx (.glb [76, 69, 86, 69, 76]) (.bi .idx (.var 0) (.cst (.int 1))))] [], .iff (.bi .in_ (.bi .idx (.var 0) (.cst (.int 0))) (.tup [(.cst (.str [99, 97, 108, 108])), (.cst (.str [102, 105, 114, 115, 116])), (.cst (.str [115, 101, 99, 111, 110, 100])), (.cst (.str [102, 111, 108, 100])), (.cst (.str [116, 105, 109, 101, 115]))])) [.ret (.glb [67, 65, 76, 76, 69, 68])] [], .ret (.glb [65, 76, 79, 78, 69])]
def b_at_level : List Sm := [.iff (.bi .lt (.call [108, 101, 118, 101, 108, 95, 111, 102] [(.var 0)]) (.var 1)) [.ret (.bi .add (.bi .add (.cst (.str [40])) (.call [112, 108, 97, 105, 110] [(.var 0)])) (.cst (.str [41])))] [], .ret (.call [112, 108, 97, 105, 110] [(.var 0)])]
def b_plain_two : List Sm := [.asg 1 (.bi .idx (.glb [76, 69, 86, 69, 76]) (.bi .idx (.var 0) (.cst (.int 1)))), .asg 2 (.bi .add (.var 1) (.un .int_ (.bi .in_ (.bi .idx (.var 0) (.cst (.int 1))) (.tup [(.cst (.str [61])), (.cst (.str [60])), (.cst (.str [58]))])))), .asg 3 (.bi .add (.var 1) (.un .int_ (.bi .ne (.bi .idx (.var 0) (.cst (.int 1))) (.cst (.str [58]))))), .ret (.bi .add (.bi .add (.bi .add (.bi .add (.call [97, 116, 95, 108, 101, 118, 101, 108] [(.bi .idx (.var 0) (.cst (.int 2))), (.var 2)]) (.cst (.str [32]))) (.bi .idx (.var 0) (.cst (.int 1)))) (.cst (.str [32]))) (.call [97, 116, 95, 108, 101, 118, 101, 108] [(.bi .idx (.var 0) (.cst (.int 3))), (.var 3)]))]
def b_plain : List Sm := [.asg 1 (.bi .idx (.var 0) (.cst (.int 0))), .iff (.bi .in_ (.var 1) (.tup [(.cst (.str [110, 117, 109])), (.cst (.str [110, 97, 109, 101]))])) [.ret (.un .str_ (.bi .idx (.var 0) (.cst (.int 1))))] [], .iff (.bi .eq (.var 1) (.cst (.str [102, 117, 110]))) [.ret (.bi .add (.bi .add (.bi .add (.cst (.str [102, 117, 110, 32])) (.bi .idx (.var 0) (.cst (.int 1)))) (.cst (.str [32, 45, 62, 32]))) (.call [112, 108, 97, 105, 110] [(.bi .idx (.var 0) (.cst (.int 2)))]))] [], .iff (.bi .eq (.var 1) (.cst (.str [108, 101, 116]))) [.ret (.bi .add (.bi .add (.bi .add (.bi .add (.bi .add (.cst (.str [108, 101, 116, 32])) (.bi .idx (.var 0) (.cst (.int 1)))) (.cst (.str [32, 61, 32]))) (.call [112, 108, 97, 105, 110] [(.bi .idx (.var 0) (.cst (.int 2)))])) (.cst (.str [32, 105, 110, 32]))) (.call [112, 108, 97, 105, 110] [(.bi .idx (.var 0) (.cst (.int 3)))]))] [], .iff (.bi .eq (.var 1) (.cst (.str [105, 102]))) [.ret (.bi .add (.bi .add (.bi .add (.bi .add (.bi .add (.cst (.str [105, 102, 32])) (.call [112, 108, 97, 105, 110] [(.bi .idx (.var 0) (.cst (.int 1)))])) (.cst (.str [32, 116, 104, 101, 110, 32]))) (.call [112, 108, 97, 105, 110] [(.bi .idx (.var 0) (.cst (.int 2)))])) (.cst (.str [32, 101, 108, 115, 101, 32]))) (.call [112, 108, 97, 105, 110] [(.bi .idx (.var 0) (.cst (.int 3)))]))] [], .iff (.bi .eq (.var 1) (.cst (.str [116, 119, 111]))) [.ret (.call [112, 108, 97, 105, 110, 95, 116, 119, 111] [(.var 0)])] [], .iff (.bi .eq (.var 1) (.cst (.str [112, 97, 105, 114]))) [.ret (.bi .add (.bi .add (.bi .add (.bi .add (.cst (.str [40])) (.call [112, 108, 97, 105, 110] [(.bi .idx (.var 0) (.cst (.int 1)))])) (.cst (.str [44, 32]))) (.call [112, 108, 97, 105, 110] [(.bi .idx (.var 0) (.cst (.int 2)))])) (.cst (.str [41])))] [], .iff (.bi .eq (.var 1) (.cst (.str [99, 97, 108, 108]))) [.ret (.bi .add (.bi .add (.call [97, 116, 95, 108, 101, 118, 101, 108] [(.bi .idx (.var 0) (.cst (.int 1))), (.glb [67, 65, 76, 76, 69, 68])]) (.cst (.str [32]))) (.call [97, 116, 95, 108, 101, 118, 101, 108] [(.bi .idx (.var 0) (.cst (.int 2))), (.glb [65, 76, 79, 78, 69])]))] [], .ret (.mt .join (.cst (.str [32])) [(.bi .add (.lst [(.var 1)]) (.comp .seq [(.slc (.var 0) (some (.cst (.int 1))) none)] [2] [] (.call [97, 116, 95, 108, 101, 118, 101, 108] [(.var 2), (.glb [65, 76, 79, 78, 69])])))])]
def b_shown : List Sm := [.ret (.call [112, 108, 97, 105, 110] [(.call [99, 104, 101, 99, 107, 101, 100] [(.var 0)])])]
def b_law_cell : List Sm := [.iff (.bi .lt (.var 1) (.un .len (.var 0))) [.ret (.bi .idx (.var 0) (.var 1))] [], .ret (.cst (.int 0))]
def b_law_seed : List Sm := [.ret (.bi .mod (.bi .pow (.bi .mod (.bi .add (.bi .add (.bi .mul (.var 0) (.cst (.int 1103515245))) (.bi .mul (.cst (.int 7919)) (.var 1))) (.cst (.int 12345))) (.cst (.int 2147483647))) (.cst (.int 5))) (.cst (.int 2147483647)))]
def b_law_pick : List Sm := [.ret (.bi .mod (.bi .fdiv (.var 0) (.cst (.int 97))) (.var 1))]
def b_law_asks : List Sm := [.iff (.bi .lt (.var 0) (.cst (.int 3))) [.ret (.ite (.bi .eq (.var 0) (.cst (.int 0))) (.lst [(.call [99, 104, 101, 99, 107, 101, 100] [(.var 1)]), (.cst .none)]) (.lst [(.ite (.bi .eq (.var 0) (.cst (.int 1))) (.call [115, 105, 122, 101] [(.var 1)]) (.call [102, 114, 101, 101] [(.var 1)]))]))] [], .iff (.bi .eq (.var 0) (.cst (.int 3))) [.ret (.call [115, 104, 111, 119, 110] [(.var 1)])] [], .iff (.bi .eq (.var 0) (.cst (.int 4))) [.ret .stuck] [], .iff (.bi .eq (.var 0) (.cst (.int 5))) [.ret .stuck] [], .iff (.bi .eq (.var 0) (.cst (.int 6))) [.ret .stuck] [], .iff (.bi .eq (.var 0) (.cst (.int 7))) [.ret .stuck] [], .iff (.bi .eq (.var 0) (.cst (.int 8))) [.ret .stuck] [], .iff (.bi .eq (.var 0) (.cst (.int 9))) [.ret (.call [99, 111, 100, 101, 95, 111, 102] [(.var 1)])] [], .iff (.bi .eq (.var 0) (.cst (.int 10))) [.ret (.call [114, 101, 110, 97, 109, 101, 100] [(.var 1)])] [], .iff (.bi .eq (.var 0) (.cst (.int 11))) [.ret (.call [97, 114, 101, 95, 97, 108, 105, 107, 101] [(.tup [(.cst (.str [121, 101, 115]))]), (.var 1)])] [], .iff (.bi .eq (.var 0) (.cst (.int 12))) [.ret (.call [97, 114, 101, 95, 97, 108, 105, 107, 101] [(.var 1), (.tup [(.cst (.str [121, 101, 115]))])])] [], .ret (.ite (.bi .eq (.var 0) (.cst (.int 13))) .stuck .stuck)]
def b_law_parts : List Sm := [.iff (.bi .eq (.var 0) (.cst (.int 1))) [.ret (.tup [(.cst (.str [110, 117, 109])), (.bi .mod (.var 1) (.cst (.int 9973)))])] [], .iff (.bi .eq (.var 0) (.cst (.int 2))) [.ret (.tup [(.cst (.str [102, 105, 114, 115, 116])), (.tup [(.cst (.str [110, 117, 109])), (.bi .mod (.var 1) (.cst (.int 9973)))])])] [], .asg 2 (.bi .fdiv (.bi .sub (.var 0) (.cst (.int 1))) (.cst (.int 2))), .ret (.tup [(.cst (.str [112, 97, 105, 114])), (.call [95, 108, 97, 119, 95, 112, 97, 114, 116, 115] [(.var 2), (.var 1)]), (.call [95, 108, 97, 119, 95, 112, 97, 114, 116, 115] [(.bi .sub (.bi .sub (.var 0) (.cst (.int 1))) (.var 2)), (.bi .add (.var 1) (.cst (.int 1)))])])]
def b_law_pieces : List Sm := [.asg 1 (.bi .idx (.var 0) (.cst (.int 0))), .asg 2 (.comp .seq [(.var 0)] [3] [(.un .isTup (.var 3))] (.bi .add (.bi .add (.lst [(.cst (.str [40]))]) (.call [95, 108, 97, 119, 95, 112, 105, 101, 99, 101, 115] [(.var 3)])) (.lst [(.cst (.str [41]))]))), .iff (.bi .in_ (.var 1) (.tup [(.cst (.str [110, 117, 109])), (.cst (.str [110, 97, 109, 101]))])) [.ret (.lst [(.un .str_ (.bi .idx (.var 0) (.cst (.int 1))))])] [], .iff (.bi .eq (.var 1) (.cst (.str [102, 117, 110]))) [.ret (.bi .add (.lst [(.cst (.str [102, 117, 110])), (.bi .idx (.var 0) (.cst (.int 1))), (.cst (.str [45, 62]))]) (.bi .idx (.var 2) (.cst (.int 0))))] [], .iff (.bi .eq (.var 1) (.cst (.str [108, 101, 116]))) [.ret (.bi .add (.bi .add (.bi .add (.lst [(.cst (.str [108, 101, 116])), (.bi .idx (.var 0) (.cst (.int 1))), (.cst (.str [61]))]) (.bi .idx (.var 2) (.cst (.int 0)))) (.lst [(.cst (.str [105, 110]))])) (.bi .idx (.var 2) (.cst (.int 1))))] [], .iff (.bi .eq (.var 1) (.cst (.str [105, 102]))) [.ret (.bi .add (.bi .add (.bi .add (.bi .add (.bi .add (.lst [(.cst (.str [105, 102]))]) (.bi .idx (.var 2) (.cst (.int 0)))) (.lst [(.cst (.str [116, 104, 101, 110]))])) (.bi .idx (.var 2) (.cst (.int 1)))) (.lst [(.cst (.str [101, 108, 115, 101]))])) (.bi .idx (.var 2) (.cst (.int 2))))] [], .iff (.bi .eq (.var 1) (.cst (.str [116, 119, 111]))) [.ret (.bi .add (.bi .add (.bi .idx (.var 2) (.cst (.int 0))) (.lst [(.bi .idx (.var 0) (.cst (.int 1)))])) (.bi .idx (.var 2) (.cst (.int 1))))] [], .iff (.bi .eq (.var 1) (.cst (.str [112, 97, 105, 114]))) [.ret (.bi .add (.bi .add (.bi .add (.bi .add (.lst [(.cst (.str [40]))]) (.bi .idx (.var 2) (.cst (.int 0)))) (.lst [(.cst (.str [44]))])) (.bi .idx (.var 2) (.cst (.int 1)))) (.lst [(.cst (.str [41]))]))] [], .asg 4 (.ite (.bi .eq (.var 1) (.cst (.str [99, 97, 108, 108]))) (.lst []) (.lst [(.var 1)])), .forr .seq [(.var 2)] [5] [.asg 4 (.bi .add (.var 4) (.var 5))], .ret (.var 4)]
def b_law_laid : List Sm := [.asg 2 (.cst (.str [])), .asgO 3 (.lst []), .forr .enum [(.var 0)] [4, 5] [.asg 6 (.bi .idx (.lst [(.cst (.str [])), (.cst (.str [32])), (.cst (.str [10])), (.cst (.str [32, 32])), (.cst (.str [])), (.cst (.str [32]))]) (.call [95, 108, 97, 119, 95, 112, 105, 99, 107] [(.call [95, 108, 97, 119, 95, 115, 101, 101, 100] [(.var 1), (.var 4)]), (.cst (.int 6))])), .iff (.and_ (.bi .ne (.var 2) (.cst (.str []))) (.and_ (.bi .eq (.var 6) (.cst (.str []))) (.and_ (.mt .isalnum (.bi .idx (.var 2) (.un .neg (.cst (.int 1)))) []) (.mt .isalnum (.bi .idx (.var 5) (.cst (.int 0))) [])))) [.asg 6 (.cst (.str [32]))] [], .asg 2 (.bi .add (.var 2) (.var 6)), .app 3 (.un .len (.var 2)), .asg 2 (.bi .add (.var 2) (.var 5))], .share 3, .ret (.tup [(.var 2), (.var 3)])]
def b_law : List Sm := [.asg 1 (.bi .idx (.lst [(.bi .add (.cst (.int 290)) (.bi .mod (.call [95, 108, 97, 119, 95, 99, 101, 108, 108] [(.var 0), (.cst (.int 0))]) (.cst (.int 21)))), (.cst (.int 299)), (.cst (.int 300)), (.cst (.int 301))]) (.bi .mod (.call [95, 108, 97, 119, 95, 99, 101, 108, 108] [(.var 0), (.cst (.int 1))]) (.cst (.int 4)))), .asg 2 (.call [95, 108, 97, 119, 95, 112, 97, 114, 116, 115] [(.var 1), (.bi .mod (.call [95, 108, 97, 119, 95, 99, 101, 108, 108] [(.var 0), (.cst (.int 2))]) (.cst (.int 9973)))]), .asg 3 (.bi .idx (.call [95, 108, 97, 119, 95, 108, 97, 105, 100] [(.call [95, 108, 97, 119, 95, 112, 105, 101, 99, 101, 115] [(.var 2)]), (.bi .mod (.call [95, 108, 97, 119, 95, 99, 101, 108, 108] [(.var 0), (.cst (.int 3))]) (.cst (.int 99991)))]) (.cst (.int 0))), .asg 4 (.bi .idx (.lst [(.cst (.int 0)), (.cst (.int 1)), (.cst (.int 2)), (.cst (.int 3)), (.cst (.int 9)), (.cst (.int 10)), (.cst (.int 11)), (.cst (.int 12))]) (.bi .mod (.call [95, 108, 97, 119, 95, 99, 101, 108, 108] [(.var 0), (.cst (.int 4))]) (.cst (.int 8)))), .asgO 5 (.lst []), .tryy [[84, 111, 110, 103, 117, 101, 69, 114, 114, 111, 114], [66, 97, 100, 84, 114, 101, 101], [85, 110, 98, 111, 117, 110, 100], [66, 97, 100, 84, 121, 112, 101], [78, 111, 116, 80, 108, 97, 105, 110], [84, 111, 111, 76, 111, 110, 103], [66, 97, 100, 84, 101, 120, 116]] [.iff (.or_ (.bi .ne (.call [115, 105, 122, 101] [(.var 2)]) (.var 1)) (.bi .ne (.call [114, 101, 97, 100] [(.var 3)]) (.var 2))) [.share 5, .ret (.cst (.bool false))] []] [.hnd [66, 97, 100, 84, 114, 101, 101] [.app 5 (.cst (.str [116, 114, 101, 101]))]], .tryy [[84, 111, 110, 103, 117, 101, 69, 114, 114, 111, 114], [66, 97, 100, 84, 114, 101, 101], [85, 110, 98, 111, 117, 110, 100], [66, 97, 100, 84, 121, 112, 101], [78, 111, 116, 80, 108, 97, 105, 110], [84, 111, 111, 76, 111, 110, 103], [66, 97, 100, 84, 101, 120, 116]] [.exq (.call [95, 108, 97, 119, 95, 97, 115, 107, 115] [(.var 4), (.var 2)])] [.hnd [66, 97, 100, 84, 114, 101, 101] [.app 5 (.cst (.str [116, 114, 101, 101]))]], .tryy [[84, 111, 110, 103, 117, 101, 69, 114, 114, 111, 114], [66, 97, 100, 84, 114, 101, 101], [85, 110, 98, 111, 117, 110, 100], [66, 97, 100, 84, 121, 112, 101], [78, 111, 116, 80, 108, 97, 105, 110], [84, 111, 111, 76, 111, 110, 103], [66, 97, 100, 84, 101, 120, 116]] [.exq (.call [114, 101, 97, 100] [(.var 3)])] [.hnd [66, 97, 100, 84, 101, 120, 116] [.app 5 (.cst (.str [116, 101, 120, 116]))]], .share 5, .ret (.bi .eq (.var 5) (.ite (.bi .le (.var 1) (.cst (.int 300))) (.lst []) (.lst [(.cst (.str [116, 114, 101, 101])), (.cst (.str [116, 114, 101, 101])), (.cst (.str [116, 101, 120, 116]))])))]
def b_BadText_init__ : List Sm := [.exq .stuck, .stuck]
def b_Reader_init__ : List Sm := [.setA [82, 101, 97, 100, 101, 114] 0 [108, 101, 102, 116] (.call [116, 111, 107, 101, 110, 115] [(.var 1)]), .setA [82, 101, 97, 100, 101, 114] 0 [97, 116] (.cst (.int 0)), .setA [82, 101, 97, 100, 101, 114] 0 [101, 110, 100] (.un .len (.var 1)), .setA [82, 101, 97, 100, 101, 114] 0 [100, 101, 101, 112] (.cst (.int 0))]
def b_Reader_coming : List Sm := [.iff (.bi .eq (.attr [82, 101, 97, 100, 101, 114] (.var 0) [97, 116]) (.un .len (.attr [82, 101, 97, 100, 101, 114] (.var 0) [108, 101, 102, 116]))) [.ret (.tup [(.cst (.str [])), (.cst (.str []))])] [], .ret (.slc (.bi .idx (.attr [82, 101, 97, 100, 101, 114] (.var 0) [108, 101, 102, 116]) (.attr [82, 101, 97, 100, 101, 114] (.var 0) [97, 116])) none (some (.cst (.int 2))))]
def b_Reader_place : List Sm := [.iff (.bi .eq (.attr [82, 101, 97, 100, 101, 114] (.var 0) [97, 116]) (.un .len (.attr [82, 101, 97, 100, 101, 114] (.var 0) [108, 101, 102, 116]))) [.ret (.attr [82, 101, 97, 100, 101, 114] (.var 0) [101, 110, 100])] [], .ret (.bi .idx (.bi .idx (.attr [82, 101, 97, 100, 101, 114] (.var 0) [108, 101, 102, 116]) (.attr [82, 101, 97, 100, 101, 114] (.var 0) [97, 116])) (.cst (.int 2)))]
def b_Reader_is_next : List Sm := [.ret (.bi .eq (.meth [82, 101, 97, 100, 101, 114] (.var 0) [99, 111, 109, 105, 110, 103] []) (.tup [(.var 1), (.var 2)]))]
def b_Reader_take : List Sm := [.iff (.un .not_ (.meth [82, 101, 97, 100, 101, 114] (.var 0) [105, 115, 95, 110, 101, 120, 116] [(.var 1), (.var 2)])) [.raiA [66, 97, 100, 84, 101, 120, 116] [(.cst (.str [97, 110, 111, 116, 104, 101, 114, 32, 116, 111, 107, 101, 110, 32, 105, 115, 32, 100, 117, 101])), (.meth [82, 101, 97, 100, 101, 114] (.var 0) [112, 108, 97, 99, 101] [])]] [], .augA [82, 101, 97, 100, 101, 114] 0 [97, 116] .add (.cst (.int 1))]
def b_Reader_name : List Sm := [.iff (.bi .ne (.bi .idx (.meth [82, 101, 97, 100, 101, 114] (.var 0) [99, 111, 109, 105, 110, 103] []) (.cst (.int 0))) (.cst (.str [110, 97, 109, 101]))) [.raiA [66, 97, 100, 84, 101, 120, 116] [(.cst (.str [97, 110, 111, 116, 104, 101, 114, 32, 116, 111, 107, 101, 110, 32, 105, 115, 32, 100, 117, 101])), (.meth [82, 101, 97, 100, 101, 114] (.var 0) [112, 108, 97, 99, 101] [])]] [], .augA [82, 101, 97, 100, 101, 114] 0 [97, 116] .add (.cst (.int 1)), .ret (.bi .idx (.bi .idx (.attr [82, 101, 97, 100, 101, 114] (.var 0) [108, 101, 102, 116]) (.bi .sub (.attr [82, 101, 97, 100, 101, 114] (.var 0) [97, 116]) (.cst (.int 1)))) (.cst (.int 1)))]
def b_Reader_whole : List Sm := [.augA [82, 101, 97, 100, 101, 114] 0 [100, 101, 101, 112] .add (.cst (.int 1)), .iff (.bi .gt (.attr [82, 101, 97, 100, 101, 114] (.var 0) [100, 101, 101, 112]) (.glb [68, 69, 69, 80, 69, 83, 84])) [.raiA [66, 97, 100, 84, 101, 120, 116] [(.cst (.str [116, 111, 111, 32, 100, 101, 101, 112])), (.meth [82, 101, 97, 100, 101, 114] (.var 0) [112, 108, 97, 99, 101] [])]] [], .asg 1 (.meth [82, 101, 97, 100, 101, 114] (.var 0) [119, 104, 111, 108, 101, 95, 104, 101, 114, 101] []), .augA [82, 101, 97, 100, 101, 114] 0 [100, 101, 101, 112] .sub (.cst (.int 1)), .ret (.var 1)]
def b_Reader_whole_here : List Sm := [.iff (.meth [82, 101, 97, 100, 101, 114] (.var 0) [105, 115, 95, 110, 101, 120, 116] [(.cst (.str [119, 111, 114, 100])), (.cst (.str [108, 101, 116]))]) [.augA [82, 101, 97, 100, 101, 114] 0 [97, 116] .add (.cst (.int 1)), .asg 1 (.meth [82, 101, 97, 100, 101, 114] (.var 0) [110, 97, 109, 101] []), .exq (.meth [82, 101, 97, 100, 101, 114] (.var 0) [116, 97, 107, 101] [(.cst (.str [115, 105, 103, 110])), (.cst (.str [61]))]), .asg 2 (.meth [82, 101, 97, 100, 101, 114] (.var 0) [119, 104, 111, 108, 101] []), .exq (.meth [82, 101, 97, 100, 101, 114] (.var 0) [116, 97, 107, 101] [(.cst (.str [119, 111, 114, 100])), (.cst (.str [105, 110]))]), .ret (.tup [(.cst (.str [108, 101, 116])), (.var 1), (.var 2), (.meth [82, 101, 97, 100, 101, 114] (.var 0) [119, 104, 111, 108, 101] [])])] [], .iff (.meth [82, 101, 97, 100, 101, 114] (.var 0) [105, 115, 95, 110, 101, 120, 116] [(.cst (.str [119, 111, 114, 100])), (.cst (.str [105, 102]))]) [.augA [82, 101, 97, 100, 101, 114] 0 [97, 116] .add (.cst (.int 1)), .asg 3 (.meth [82, 101, 97, 100, 101, 114] (.var 0) [119, 104, 111, 108, 101] []), .exq (.meth [82, 101, 97, 100, 101, 114] (.var 0) [116, 97, 107, 101] [(.cst (.str [119, 111, 114, 100])), (.cst (.str [116, 104, 101, 110]))]), .asg 4 (.meth [82, 101, 97, 100, 101, 114] (.var 0) [119, 104, 111, 108, 101] []), .exq (.meth [82, 101, 97, 100, 101, 114] (.var 0) [116, 97, 107, 101] [(.cst (.str [119, 111, 114, 100])), (.cst (.str [101, 108, 115, 101]))]), .ret (.tup [(.cst (.str [105, 102])), (.var 3), (.var 4), (.meth [82, 101, 97, 100, 101, 114] (.var 0) [119, 104, 111, 108, 101] [])])] [], .iff (.meth [82, 101, 97, 100, 101, 114] (.var 0) [105, 115, 95, 110, 101, 120, 116] [(.cst (.str [119, 111, 114, 100])), (.cst (.str [102, 117, 110]))]) [.augA [82, 101, 97, 100, 101, 114] 0 [97, 116] .add (.cst (.int 1)), .asg 1 (.meth [82, 101, 97, 100, 101, 114] (.var 0) [110, 97, 109, 101] []), .exq (.meth [82, 101, 97, 100, 101, 114] (.var 0) [116, 97, 107, 101] [(.cst (.str [115, 105, 103, 110])), (.cst (.str [45, 62]))]), .ret (.tup [(.cst (.str [102, 117, 110])), (.var 1), (.meth [82, 101, 97, 100, 101, 114] (.var 0) [119, 104, 111, 108, 101] [])])] [], .ret (.meth [82, 101, 97, 100, 101, 114] (.var 0) [108, 101, 118, 101, 108] [(.cst (.int 0))])]
def b_Reader_level : List Sm := [.iff (.bi .eq (.var 1) (.un .len (.glb [76, 69, 86, 69, 76, 83]))) [.ret (.meth [82, 101, 97, 100, 101, 114] (.var 0) [99, 97, 108, 108, 101, 100] [])] [], .asg 2 (.meth [82, 101, 97, 100, 101, 114] (.var 0) [108, 101, 118, 101, 108] [(.bi .add (.var 1) (.cst (.int 1)))]), .whil (.and_ (.bi .eq (.bi .idx (.meth [82, 101, 97, 100, 101, 114] (.var 0) [99, 111, 109, 105, 110, 103] []) (.cst (.int 0))) (.cst (.str [115, 105, 103, 110]))) (.bi .in_ (.bi .idx (.meth [82, 101, 97, 100, 101, 114] (.var 0) [99, 111, 109, 105, 110, 103] []) (.cst (.int 1))) (.bi .idx (.glb [76, 69, 86, 69, 76, 83]) (.var 1)))) [.asg 3 (.bi .idx (.meth [82, 101, 97, 100, 101, 114] (.var 0) [99, 111, 109, 105, 110, 103] []) (.cst (.int 1))), .augA [82, 101, 97, 100, 101, 114] 0 [97, 116] .add (.cst (.int 1)), .iff (.bi .eq (.var 3) (.cst (.str [58]))) [.augA [82, 101, 97, 100, 101, 114] 0 [100, 101, 101, 112] .add (.cst (.int 1)), .iff (.bi .gt (.attr [82, 101, 97, 100, 101, 114] (.var 0) [100, 101, 101, 112]) (.glb [68, 69, 69, 80, 69, 83, 84])) [.raiA [66, 97, 100, 84, 101, 120, 116] [(.cst (.str [116, 111, 111, 32, 100, 101, 101, 112])), (.meth [82, 101, 97, 100, 101, 114] (.var 0) [112, 108, 97, 99, 101] [])]] [], .asg 2 (.tup [(.cst (.str [116, 119, 111])), (.var 3), (.var 2), (.meth [82, 101, 97, 100, 101, 114] (.var 0) [108, 101, 118, 101, 108] [(.var 1)])]), .augA [82, 101, 97, 100, 101, 114] 0 [100, 101, 101, 112] .sub (.cst (.int 1)), .ret (.var 2)] [], .asg 2 (.tup [(.cst (.str [116, 119, 111])), (.var 3), (.var 2), (.meth [82, 101, 97, 100, 101, 114] (.var 0) [108, 101, 118, 101, 108] [(.bi .add (.var 1) (.cst (.int 1)))])]), .iff (.bi .in_ (.var 3) (.tup [(.cst (.str [61])), (.cst (.str [60]))])) [.ret (.var 2)] []], .ret (.var 2)]
def b_Reader_called : List Sm := [.unp [1, 2] (.meth [82, 101, 97, 100, 101, 114] (.var 0) [99, 111, 109, 105, 110, 103] []), .iff (.and_ (.bi .eq (.var 1) (.cst (.str [119, 111, 114, 100]))) (.bi .in_ (.var 2) (.glb [65, 72, 69, 65, 68]))) [.augA [82, 101, 97, 100, 101, 114] 0 [97, 116] .add (.cst (.int 1)), .asg 3 (.bi .add (.tup [(.var 2)]) (.un .toTup (.comp .rng [(.bi .idx (.glb [65, 72, 69, 65, 68]) (.var 2))] [4] [] (.meth [82, 101, 97, 100, 101, 114] (.var 0) [115, 105, 110, 103, 108, 101] []))))] [.asg 3 (.meth [82, 101, 97, 100, 101, 114] (.var 0) [115, 105, 110, 103, 108, 101] [])], .whil (.meth [82, 101, 97, 100, 101, 114] (.var 0) [115, 116, 97, 114, 116, 115, 95, 115, 105, 110, 103, 108, 101] []) [.asg 3 (.tup [(.cst (.str [99, 97, 108, 108])), (.var 3), (.meth [82, 101, 97, 100, 101, 114] (.var 0) [115, 105, 110, 103, 108, 101] [])])], .ret (.var 3)]
def b_Reader_starts_single : List Sm := [.unp [1, 2] (.meth [82, 101, 97, 100, 101, 114] (.var 0) [99, 111, 109, 105, 110, 103] []), .iff (.bi .eq (.var 1) (.cst (.str [119, 111, 114, 100]))) [.ret (.bi .in_ (.var 2) (.tup [(.cst (.str [121, 101, 115])), (.cst (.str [110, 111])), (.cst (.str [101, 109, 112, 116, 121]))]))] [], .ret (.or_ (.bi .in_ (.var 1) (.tup [(.cst (.str [110, 117, 109])), (.cst (.str [110, 97, 109, 101]))])) (.bi .eq (.tup [(.var 1), (.var 2)]) (.tup [(.cst (.str [115, 105, 103, 110])), (.cst (.str [40]))])))]
def b_Reader_single : List Sm := [.unp [1, 2] (.meth [82, 101, 97, 100, 101, 114] (.var 0) [99, 111, 109, 105, 110, 103] []), .iff (.un .not_ (.meth [82, 101, 97, 100, 101, 114] (.var 0) [115, 116, 97, 114, 116, 115, 95, 115, 105, 110, 103, 108, 101] [])) [.raiA [66, 97, 100, 84, 101, 120, 116] [(.cst (.str [97, 110, 111, 116, 104, 101, 114, 32, 116, 111, 107, 101, 110, 32, 105, 115, 32, 100, 117, 101])), (.meth [82, 101, 97, 100, 101, 114] (.var 0) [112, 108, 97, 99, 101] [])]] [], .augA [82, 101, 97, 100, 101, 114] 0 [97, 116] .add (.cst (.int 1)), .iff (.bi .in_ (.var 1) (.tup [(.cst (.str [110, 117, 109])), (.cst (.str [110, 97, 109, 101]))])) [.ret (.tup [(.var 1), (.var 2)])] [], .iff (.bi .eq (.var 1) (.cst (.str [119, 111, 114, 100]))) [.ret (.tup [(.var 2)])] [], .asg 3 (.meth [82, 101, 97, 100, 101, 114] (.var 0) [119, 104, 111, 108, 101] []), .iff (.meth [82, 101, 97, 100, 101, 114] (.var 0) [105, 115, 95, 110, 101, 120, 116] [(.cst (.str [115, 105, 103, 110])), (.cst (.str [44]))]) [.augA [82, 101, 97, 100, 101, 114] 0 [97, 116] .add (.cst (.int 1)), .asg 3 (.tup [(.cst (.str [112, 97, 105, 114])), (.var 3), (.meth [82, 101, 97, 100, 101, 114] (.var 0) [119, 104, 111, 108, 101] [])])] [], .exq (.meth [82, 101, 97, 100, 101, 114] (.var 0) [116, 97, 107, 101] [(.cst (.str [115, 105, 103, 110])), (.cst (.str [41]))]), .ret (.var 3)]
def g_PRIME : D := .int 9973
def g_MOST_PARTS : D := .int 300
def g_WORDS : D := .tup [.str [108, 101, 116], .str [105, 110], .str [105, 102], .str [116, 104, 101, 110], .str [101, 108, 115, 101], .str [102, 117, 110], .str [102, 111, 108, 100], .str [116, 105, 109, 101, 115], .str [102, 105, 114, 115, 116], .str [115, 101, 99, 111, 110, 100], .str [121, 101, 115], .str [110, 111], .str [101, 109, 112, 116, 121]]
def g_SIGNS : D := .tup [.str [124], .str [38], .str [61], .str [60], .str [58], .str [43], .str [45], .str [42]]
def g_SMALL : D := .str [97, 98, 99, 100, 101, 102, 103, 104, 105, 106, 107, 108, 109, 110, 111, 112, 113, 114, 115, 116, 117, 118, 119, 120, 121, 122]
def g_INNER : D := .kdc [(.s [121, 101, 115], .int 0), (.s [110, 111], .int 0), (.s [101, 109, 112, 116, 121], .int 0), (.s [99, 97, 108, 108], .int 2), (.s [105, 102], .int 3), (.s [112, 97, 105, 114], .int 2), (.s [102, 105, 114, 115, 116], .int 1), (.s [115, 101, 99, 111, 110, 100], .int 1), (.s [102, 111, 108, 100], .int 3), (.s [116, 105, 109, 101, 115], .int 3)]
def g_RESULTS : D := .kdc [(.s [43], .str [110, 117, 109]), (.s [45], .str [110, 117, 109]), (.s [42], .str [110, 117, 109]), (.s [61], .str [98, 111, 111, 108]), (.s [60], .str [98, 111, 111, 108]), (.s [38], .str [98, 111, 111, 108]), (.s [124], .str [98, 111, 111, 108])]
def g_TAKES : D := .kdc [(.s [43], .str [110, 117, 109]), (.s [45], .str [110, 117, 109]), (.s [42], .str [110, 117, 109]), (.s [61], .str [110, 117, 109]), (.s [60], .str [110, 117, 109]), (.s [38], .str [98, 111, 111, 108]), (.s [124], .str [98, 111, 111, 108])]
def g_MOST_STEPS : D := .int 300
def g_PLAIN : D := .tup [.str [110, 117, 109], .str [121, 101, 115], .str [110, 111], .str [101, 109, 112, 116, 121], .str [110, 97, 109, 101]]
def g_FIGURES : D := .str [48, 49, 50, 51, 52, 53, 54, 55, 56, 57]
def g_BLANKS : D := .str [32, 10]
def g_MARKS : D := .tup [.str [40], .str [41], .str [44], .str [45, 62]]
def g_LEVELS : D := .tup [.tup [.str [124]], .tup [.str [38]], .tup [.str [61], .str [60]], .tup [.str [58]], .tup [.str [43], .str [45]], .tup [.str [42]]]
def g_AHEAD : D := .kdc [(.s [102, 105, 114, 115, 116], .int 1), (.s [115, 101, 99, 111, 110, 100], .int 1), (.s [102, 111, 108, 100], .int 3), (.s [116, 105, 109, 101, 115], .int 3)]
def g_DEEPEST : D := .int 40
def g_MOST : D := .int 1000
def g_LEVEL : D := .kdc [(.s [124], .int 1), (.s [38], .int 2), (.s [61], .int 3), (.s [60], .int 3), (.s [58], .int 4), (.s [43], .int 5), (.s [45], .int 5), (.s [42], .int 6)]
def g_CALLED : D := .int 7
def g_ALONE : D := .int 8
def tabL : List (Tx × Fn) := [([105, 115, 95, 119, 105, 116, 104, 105, 110], ⟨3, 3, b_is_within⟩), ([105, 115, 95, 110, 97, 109, 101], ⟨1, 2, b_is_name⟩), ([112, 97, 114, 116, 115, 95, 111, 102], ⟨1, 1, b_parts_of⟩), ([104, 97, 115, 95, 108, 111, 111, 107], ⟨1, 2, b_has_look⟩), ([99, 111, 117, 110, 116, 101, 100], ⟨2, 3, b_counted⟩), ([105, 115, 95, 116, 114, 101, 101], ⟨1, 1, b_is_tree⟩), ([99, 104, 101, 99, 107, 101, 100], ⟨1, 1, b_checked⟩), ([115, 105, 122, 101, 95, 111, 102], ⟨1, 2, b_size_of⟩), ([115, 105, 122, 101], ⟨1, 1, b_size⟩), ([102, 114, 101, 101, 95, 111, 102], ⟨1, 6, b_free_of⟩), ([102, 114, 101, 101], ⟨1, 1, b_free⟩), ([119, 105, 116, 104, 95, 112, 97, 114, 116, 115], ⟨2, 2, b_with_parts⟩), ([108, 111, 111, 107, 95, 99, 108, 111, 115, 101, 100], ⟨1, 1, b_look_closed⟩), ([112, 108, 97, 99, 101, 95, 105, 110], ⟨2, 2, b_place_in⟩), ([99, 111, 100, 101, 95, 105, 110], ⟨2, 5, b_code_in⟩), ([99, 111, 100, 101, 95, 111, 102], ⟨1, 1, b_code_of⟩), ([111, 119, 110, 95, 110, 97, 109, 101], ⟨1, 3, b_own_name⟩), ([114, 101, 110, 97, 109, 101, 100, 95, 105, 110], ⟨3, 6, b_renamed_in⟩), ([114, 101, 110, 97, 109, 101, 100], ⟨1, 1, b_renamed⟩), ([97, 114, 101, 95, 97, 108, 105, 107, 101], ⟨2, 2, b_are_alike⟩), ([114, 117, 110, 95, 97, 116], ⟨3, 4, b_run_at⟩), ([116, 111, 107, 101, 110, 95, 97, 116], ⟨2, 4, b_token_at⟩), ([116, 111, 107, 101, 110, 115], ⟨1, 4, b_tokens⟩), ([114, 101, 97, 100], ⟨1, 3, b_read⟩), ([108, 101, 118, 101, 108, 95, 111, 102], ⟨1, 1, b_level_of⟩), ([97, 116, 95, 108, 101, 118, 101, 108], ⟨2, 2, b_at_level⟩), ([112, 108, 97, 105, 110, 95, 116, 119, 111], ⟨1, 4, b_plain_two⟩), ([112, 108, 97, 105, 110], ⟨1, 3, b_plain⟩), ([115, 104, 111, 119, 110], ⟨1, 1, b_shown⟩), ([95, 108, 97, 119, 95, 99, 101, 108, 108], ⟨2, 2, b_law_cell⟩), ([95, 108, 97, 119, 95, 115, 101, 101, 100], ⟨2, 2, b_law_seed⟩), ([95, 108, 97, 119, 95, 112, 105, 99, 107], ⟨2, 2, b_law_pick⟩), ([95, 108, 97, 119, 95, 97, 115, 107, 115], ⟨2, 2, b_law_asks⟩), ([95, 108, 97, 119, 95, 112, 97, 114, 116, 115], ⟨2, 3, b_law_parts⟩), ([95, 108, 97, 119, 95, 112, 105, 101, 99, 101, 115], ⟨1, 6, b_law_pieces⟩), ([95, 108, 97, 119, 95, 108, 97, 105, 100], ⟨2, 7, b_law_laid⟩), ([108, 97, 119], ⟨1, 6, b_law⟩), ([66, 97, 100, 84, 101, 120, 116, 46, 95, 95, 105, 110, 105, 116, 95, 95], ⟨3, 3, b_BadText_init__⟩), ([82, 101, 97, 100, 101, 114, 46, 95, 95, 105, 110, 105, 116, 95, 95], ⟨2, 2, b_Reader_init__⟩), ([82, 101, 97, 100, 101, 114, 46, 99, 111, 109, 105, 110, 103], ⟨1, 1, b_Reader_coming⟩), ([82, 101, 97, 100, 101, 114, 46, 112, 108, 97, 99, 101], ⟨1, 1, b_Reader_place⟩), ([82, 101, 97, 100, 101, 114, 46, 105, 115, 95, 110, 101, 120, 116], ⟨3, 3, b_Reader_is_next⟩), ([82, 101, 97, 100, 101, 114, 46, 116, 97, 107, 101], ⟨3, 3, b_Reader_take⟩), ([82, 101, 97, 100, 101, 114, 46, 110, 97, 109, 101], ⟨1, 1, b_Reader_name⟩), ([82, 101, 97, 100, 101, 114, 46, 119, 104, 111, 108, 101], ⟨1, 2, b_Reader_whole⟩), ([82, 101, 97, 100, 101, 114, 46, 119, 104, 111, 108, 101, 95, 104, 101, 114, 101], ⟨1, 5, b_Reader_whole_here⟩), ([82, 101, 97, 100, 101, 114, 46, 108, 101, 118, 101, 108], ⟨2, 4, b_Reader_level⟩), ([82, 101, 97, 100, 101, 114, 46, 99, 97, 108, 108, 101, 100], ⟨1, 5, b_Reader_called⟩), ([82, 101, 97, 100, 101, 114, 46, 115, 116, 97, 114, 116, 115, 95, 115, 105, 110, 103, 108, 101], ⟨1, 3, b_Reader_starts_single⟩), ([82, 101, 97, 100, 101, 114, 46, 115, 105, 110, 103, 108, 101], ⟨1, 4, b_Reader_single⟩)]
def gloL : List (Tx × D) := [([80, 82, 73, 77, 69], g_PRIME), ([77, 79, 83, 84, 95, 80, 65, 82, 84, 83], g_MOST_PARTS), ([87, 79, 82, 68, 83], g_WORDS), ([83, 73, 71, 78, 83], g_SIGNS), ([83, 77, 65, 76, 76], g_SMALL), ([73, 78, 78, 69, 82], g_INNER), ([82, 69, 83, 85, 76, 84, 83], g_RESULTS), ([84, 65, 75, 69, 83], g_TAKES), ([77, 79, 83, 84, 95, 83, 84, 69, 80, 83], g_MOST_STEPS), ([80, 76, 65, 73, 78], g_PLAIN), ([70, 73, 71, 85, 82, 69, 83], g_FIGURES), ([66, 76, 65, 78, 75, 83], g_BLANKS), ([77, 65, 82, 75, 83], g_MARKS), ([76, 69, 86, 69, 76, 83], g_LEVELS), ([65, 72, 69, 65, 68], g_AHEAD), ([68, 69, 69, 80, 69, 83, 84], g_DEEPEST), ([77, 79, 83, 84], g_MOST), ([76, 69, 86, 69, 76], g_LEVEL), ([67, 65, 76, 76, 69, 68], g_CALLED), ([65, 76, 79, 78, 69], g_ALONE)]
end Ft
set_option Elab.async false
set_option linter.all false
set_option maxRecDepth 100000
namespace Ft
open PySem PyProof.Rows L2
def topS (i : Nat) : Stmt := PySem.Challenge.pw_foldtongue_k03_three_hundred.main.body.getD i (.Pass ⟨0, 0, 0, 0⟩)
def qL : CG := { fns := ("is_within" :: "is_name" :: "parts_of" :: "has_look" :: "counted" :: "is_tree" :: "checked" :: "size_of" :: "size" :: "free_of" :: "free" :: "with_parts" :: "look_closed" :: "place_in" :: "code_in" :: "code_of" :: "own_name" :: "renamed_in" :: "renamed" :: "are_alike" :: "run_at" :: "token_at" :: "tokens" :: "read" :: "level_of" :: "at_level" :: "plain_two" :: "plain" :: "shown" :: "_law_cell" :: "_law_seed" :: "_law_pick" :: "_law_asks" :: "_law_parts" :: "_law_pieces" :: "_law_laid" :: []), gls := ["PRIME", "MOST_PARTS", "WORDS", "SIGNS", "SMALL", "INNER", "RESULTS", "TAKES", "MOST_STEPS", "PLAIN", "FIGURES", "BLANKS", "MARKS", "LEVELS", "AHEAD", "DEEPEST", "MOST", "LEVEL", "CALLED", "ALONE"], exs := ["TongueError", "BadTree", "Unbound", "BadType", "NotPlain", "TooLong"], clss := ["Reader"], mets := [("Reader", "__init__"), ("Reader", "coming"), ("Reader", "place"), ("Reader", "is_next"), ("Reader", "take"), ("Reader", "name"), ("Reader", "whole"), ("Reader", "whole_here"), ("Reader", "level"), ("Reader", "called"), ("Reader", "starts_single"), ("Reader", "single")], atts := [("Reader", "at"), ("Reader", "left"), ("Reader", "end"), ("Reader", "deep")], lats := [], lcal := [], exi := [⟨"BadText", "TongueError"⟩] }
def d_is_within : FD := { x := "is_within", k := none, st := topS 15, N := ["thing", "low", "high"], ps := ["thing", "low", "high"], chg := [], body := b_is_within, vcls := [], locs := [], shr := [] }
def d_is_name : FD := { x := "is_name", k := none, st := topS 16, N := ["thing", "sign"], ps := ["thing"], chg := [], body := b_is_name, vcls := [], locs := [], shr := [] }
def d_parts_of : FD := { x := "parts_of", k := none, st := topS 17, N := ["tree"], ps := ["tree"], chg := [], body := b_parts_of, vcls := [], locs := [], shr := [] }
def d_has_look : FD := { x := "has_look", k := none, st := topS 18, N := ["thing", "word"], ps := ["thing"], chg := [], body := b_has_look, vcls := [], locs := [], shr := [] }
def d_counted : FD := { x := "counted", k := none, st := topS 19, N := ["thing", "left", "part"], ps := ["thing", "left"], chg := [], body := b_counted, vcls := [], locs := [], shr := [] }
def d_is_tree : FD := { x := "is_tree", k := none, st := topS 20, N := ["thing"], ps := ["thing"], chg := [], body := b_is_tree, vcls := [], locs := [], shr := [] }
def d_checked : FD := { x := "checked", k := none, st := topS 21, N := ["tree"], ps := ["tree"], chg := [], body := b_checked, vcls := [], locs := [], shr := [] }
def d_size_of : FD := { x := "size_of", k := none, st := topS 22, N := ["tree", "part"], ps := ["tree"], chg := [], body := b_size_of, vcls := [], locs := [], shr := [] }
def d_size : FD := { x := "size", k := none, st := topS 23, N := ["tree"], ps := ["tree"], chg := [], body := b_size, vcls := [], locs := [], shr := [] }
def d_free_of : FD := { x := "free_of", k := none, st := topS 24, N := ["tree", "found", "at", "part", "bound", "name"], ps := ["tree"], chg := ["found"], body := b_free_of, vcls := [], locs := [], shr := [] }
def d_free : FD := { x := "free", k := none, st := topS 25, N := ["tree"], ps := ["tree"], chg := [], body := b_free, vcls := [], locs := [], shr := [] }
def d_with_parts : FD := { x := "with_parts", k := none, st := topS 26, N := ["tree", "parts"], ps := ["tree", "parts"], chg := [], body := b_with_parts, vcls := [], locs := [], shr := [] }
def d_look_closed : FD := { x := "look_closed", k := none, st := topS 33, N := ["tree"], ps := ["tree"], chg := [], body := b_look_closed, vcls := [], locs := [], shr := [] }
def d_place_in : FD := { x := "place_in", k := none, st := topS 37, N := ["names", "name"], ps := ["names", "name"], chg := [], body := b_place_in, vcls := [], locs := [], shr := [] }
def d_code_in : FD := { x := "code_in", k := none, st := topS 38, N := ["tree", "names", "word", "found", "part"], ps := ["tree", "names"], chg := [], body := b_code_in, vcls := [], locs := [], shr := [] }
def d_code_of : FD := { x := "code_of", k := none, st := topS 39, N := ["tree"], ps := ["tree"], chg := [], body := b_code_of, vcls := [], locs := [], shr := [] }
def d_own_name : FD := { x := "own_name", k := none, st := topS 40, N := ["number", "letters", "found"], ps := ["number"], chg := [], body := b_own_name, vcls := [], locs := [], shr := [] }
def d_renamed_in : FD := { x := "renamed_in", k := none, st := topS 56, N := ["tree", "names", "many", "own", "inner", "part"], ps := ["tree", "names", "many"], chg := ["inner"], body := b_renamed_in, vcls := [], locs := [], shr := [] }
def d_renamed : FD := { x := "renamed", k := none, st := topS 57, N := ["tree"], ps := ["tree"], chg := [], body := b_renamed, vcls := [], locs := [], shr := [] }
def d_are_alike : FD := { x := "are_alike", k := none, st := topS 58, N := ["one", "other"], ps := ["one", "other"], chg := [], body := b_are_alike, vcls := [], locs := [], shr := [] }
def d_run_at : FD := { x := "run_at", k := none, st := topS 72, N := ["text", "at", "some", "end"], ps := ["text", "at", "some"], chg := [], body := b_run_at, vcls := [], locs := [], shr := [] }
def d_token_at : FD := { x := "token_at", k := none, st := topS 73, N := ["text", "at", "end", "word"], ps := ["text", "at"], chg := [], body := b_token_at, vcls := [], locs := [], shr := [] }
def d_tokens : FD := { x := "tokens", k := none, st := topS 74, N := ["text", "found", "at", "token"], ps := ["text"], chg := ["found"], body := b_tokens, vcls := [], locs := [], shr := [] }
def d_read : FD := { x := "read", k := none, st := topS 80, N := ["text", "reader", "found"], ps := ["text"], chg := [], body := b_read, vcls := [("reader", "Reader")], locs := [], shr := [] }
def d_level_of : FD := { x := "level_of", k := none, st := topS 91, N := ["tree"], ps := ["tree"], chg := [], body := b_level_of, vcls := [], locs := [], shr := [] }
def d_at_level : FD := { x := "at_level", k := none, st := topS 92, N := ["tree", "level"], ps := ["tree", "level"], chg := [], body := b_at_level, vcls := [], locs := [], shr := [] }
def d_plain_two : FD := { x := "plain_two", k := none, st := topS 93, N := ["tree", "level", "left", "right"], ps := ["tree"], chg := [], body := b_plain_two, vcls := [], locs := [], shr := [] }
def d_plain : FD := { x := "plain", k := none, st := topS 94, N := ["tree", "word", "part"], ps := ["tree"], chg := [], body := b_plain, vcls := [], locs := [], shr := [] }
def d_shown : FD := { x := "shown", k := none, st := topS 95, N := ["tree"], ps := ["tree"], chg := [], body := b_shown, vcls := [], locs := [], shr := [] }
def d_law_cell : FD := { x := "_law_cell", k := none, st := topS 97, N := ["script", "k"], ps := ["script", "k"], chg := [], body := b_law_cell, vcls := [], locs := [], shr := [] }
def d_law_seed : FD := { x := "_law_seed", k := none, st := topS 98, N := ["seed", "k"], ps := ["seed", "k"], chg := [], body := b_law_seed, vcls := [], locs := [], shr := [] }
def d_law_pick : FD := { x := "_law_pick", k := none, st := topS 99, N := ["seed", "many"], ps := ["seed", "many"], chg := [], body := b_law_pick, vcls := [], locs := [], shr := [] }
def d_law_asks : FD := { x := "_law_asks", k := none, st := topS 100, N := ["number", "tree"], ps := ["number", "tree"], chg := [], body := b_law_asks, vcls := [], locs := [], shr := [] }
def d_law_parts : FD := { x := "_law_parts", k := none, st := topS 101, N := ["many", "seed", "half"], ps := ["many", "seed"], chg := [], body := b_law_parts, vcls := [], locs := [], shr := [] }
def d_law_pieces : FD := { x := "_law_pieces", k := none, st := topS 102, N := ["tree", "word", "some", "part", "found", "one"], ps := ["tree"], chg := [], body := b_law_pieces, vcls := [], locs := [], shr := [] }
def d_law_laid : FD := { x := "_law_laid", k := none, st := topS 103, N := ["pieces", "seed", "text", "places", "k", "piece", "gap"], ps := ["pieces", "seed"], chg := ["places"], body := b_law_laid, vcls := [], locs := [], shr := [] }
def d_law : FD := { x := "law", k := none, st := topS 104, N := ["script", "many", "tree", "text", "number", "caught"], ps := ["script"], chg := ["caught"], body := b_law, vcls := [], locs := [], shr := [] }
def d_BadText_init__ : FD := { x := "__init__", k := some "BadText", st := inClass (topS 3) 0, N := ["self", "text", "at"], ps := ["self", "text", "at"], chg := [], body := b_BadText_init__, vcls := [], locs := [], shr := [] }
def d_Reader_init__ : FD := { x := "__init__", k := some "Reader", st := inClass (topS 79) 0, N := ["self", "text"], ps := ["self", "text"], chg := [], body := b_Reader_init__, vcls := [("self", "Reader")], locs := [], shr := [] }
def d_Reader_coming : FD := { x := "coming", k := some "Reader", st := inClass (topS 79) 1, N := ["self"], ps := ["self"], chg := [], body := b_Reader_coming, vcls := [("self", "Reader")], locs := [], shr := [] }
def d_Reader_place : FD := { x := "place", k := some "Reader", st := inClass (topS 79) 2, N := ["self"], ps := ["self"], chg := [], body := b_Reader_place, vcls := [("self", "Reader")], locs := [], shr := [] }
def d_Reader_is_next : FD := { x := "is_next", k := some "Reader", st := inClass (topS 79) 3, N := ["self", "kind", "what"], ps := ["self", "kind", "what"], chg := [], body := b_Reader_is_next, vcls := [("self", "Reader")], locs := [], shr := [] }
def d_Reader_take : FD := { x := "take", k := some "Reader", st := inClass (topS 79) 4, N := ["self", "kind", "what"], ps := ["self", "kind", "what"], chg := [], body := b_Reader_take, vcls := [("self", "Reader")], locs := [], shr := [] }
def d_Reader_name : FD := { x := "name", k := some "Reader", st := inClass (topS 79) 5, N := ["self"], ps := ["self"], chg := [], body := b_Reader_name, vcls := [("self", "Reader")], locs := [], shr := [] }
def d_Reader_whole : FD := { x := "whole", k := some "Reader", st := inClass (topS 79) 6, N := ["self", "found"], ps := ["self"], chg := [], body := b_Reader_whole, vcls := [("self", "Reader")], locs := [], shr := [] }
def d_Reader_whole_here : FD := { x := "whole_here", k := some "Reader", st := inClass (topS 79) 7, N := ["self", "name", "what", "asked", "one"], ps := ["self"], chg := [], body := b_Reader_whole_here, vcls := [("self", "Reader")], locs := [], shr := [] }
def d_Reader_level : FD := { x := "level", k := some "Reader", st := inClass (topS 79) 8, N := ["self", "number", "found", "sign"], ps := ["self", "number"], chg := [], body := b_Reader_level, vcls := [("self", "Reader")], locs := [], shr := [] }
def d_Reader_called : FD := { x := "called", k := some "Reader", st := inClass (topS 79) 9, N := ["self", "kind", "what", "found", "part"], ps := ["self"], chg := [], body := b_Reader_called, vcls := [("self", "Reader")], locs := [], shr := [] }
def d_Reader_starts_single : FD := { x := "starts_single", k := some "Reader", st := inClass (topS 79) 10, N := ["self", "kind", "what"], ps := ["self"], chg := [], body := b_Reader_starts_single, vcls := [("self", "Reader")], locs := [], shr := [] }
def d_Reader_single : FD := { x := "single", k := some "Reader", st := inClass (topS 79) 11, N := ["self", "kind", "what", "found"], ps := ["self"], chg := [], body := b_Reader_single, vcls := [("self", "Reader")], locs := [], shr := [] }
def datL : List FD := d_is_within :: d_is_name :: d_parts_of :: d_has_look :: d_counted :: d_is_tree :: d_checked :: d_size_of :: d_size :: d_free_of :: d_free :: d_with_parts :: d_look_closed :: d_place_in :: d_code_in :: d_code_of :: d_own_name :: d_renamed_in :: d_renamed :: d_are_alike :: d_run_at :: d_token_at :: d_tokens :: d_read :: d_level_of :: d_at_level :: d_plain_two :: d_plain :: d_shown :: d_law_cell :: d_law_seed :: d_law_pick :: d_law_asks :: d_law_parts :: d_law_pieces :: d_law_laid :: d_law :: d_BadText_init__ :: d_Reader_init__ :: d_Reader_coming :: d_Reader_place :: d_Reader_is_next :: d_Reader_take :: d_Reader_name :: d_Reader_whole :: d_Reader_whole_here :: d_Reader_level :: d_Reader_called :: d_Reader_starts_single :: d_Reader_single :: []
def looseL : List Str := ("TongueError" :: "BadTree" :: "BadText" :: "Unbound" :: "BadType" :: "NotPlain" :: "TooLong" :: "PRIME" :: "MOST_PARTS" :: "WORDS" :: "SIGNS" :: "SMALL" :: "INNER" :: "is_within" :: "is_name" :: "parts_of" :: "has_look" :: "counted" :: "is_tree" :: "checked" :: "size_of" :: "size" :: "free_of" :: "free" :: "with_parts" :: "RESULTS" :: "TAKES" :: "Solver" :: "with_name" :: "ordered" :: "look_closed" :: "type_of" :: "is_plain" :: "place_in" :: "code_in" :: "code_of" :: "own_name" :: "put" :: "is_value" :: "MOST_STEPS" :: "yes_or_no" :: "reckoned" :: "becomes" :: "needed" :: "next_of" :: "step" :: "walk" :: "steps_to_value" :: "PLAIN" :: "renamed_in" :: "renamed" :: "are_alike" :: "Namer" :: "uses" :: "exchanged" :: "less_let" :: "less_two" :: "less_here" :: "less_once" :: "simpler" :: "is_settled" :: "FIGURES" :: "BLANKS" :: "MARKS" :: "run_at" :: "token_at" :: "tokens" :: "LEVELS" :: "AHEAD" :: "DEEPEST" :: "Reader" :: "read" :: "MOST" :: "Runner" :: "joined" :: "value" :: "steps" :: "LEVEL" :: "CALLED" :: "ALONE" :: "level_of" :: "at_level" :: "plain_two" :: "plain" :: "shown" :: "_law_cell" :: "_law_seed" :: "_law_pick" :: "_law_asks" :: "_law_parts" :: "_law_pieces" :: "_law_laid" :: [])
abbrev RR : PySem.W.OpenRow := PySem.W.OpenLaw.row PySem.Challenge.rw_foldtongue_k03_three_hundred
abbrev hkF : PySem.W.Hook := hookF 5 qL datL gloL
def obF (s : PySem.W.SharedT) : AlF := obsFG 5 qL datL gloL (HandSHeadRun.getT s)
theorem obF_eq (s : PySem.W.SharedT) : obF s = hkF.obs s.abs := obsFG_eq (HandSHeadRun.getT_eq s)
set_option maxHeartbeats 0 in
theorem run_f (w : World) : HandSHeadRun.RunEq RR (PySem.W.view RR.prog [104]) hkF obF 20000 looseL (w.withFollow "special-get-raises" false) := by
  intro os
  kernel_rfl
set_option maxHeartbeats 0 in
theorem run_t (w : World) : HandSHeadRun.RunEq RR (PySem.W.view RR.prog [104]) hkF obF 20000 looseL (w.withFollow "special-get-raises" true) := by
  intro os
  kernel_rfl
theorem runF (w : World) : HandSHeadRun.RunEq RR (PySem.W.view RR.prog [104]) hkF obF 20000 looseL w := PySem.W.byRow2 "special-get-raises" (P := fun w => HandSHeadRun.RunEq RR (PySem.W.view RR.prog [104]) hkF obF 20000 looseL w) run_f run_t w
end Ft
open PySem PySem.W PySem.Calls PyProof.Rows Ft in
set_option maxHeartbeats 0 in
theorem Ft.headL (call : WalkO (view RR.prog [104]) Ft.looseL (XL (view RR.prog [104]) []) Ft.hkF.says RR.toRowW (HandSHeadRun.topDef RR.prog 104) [] fun f vs => PySem.call f vs) : PySem.Challenge.rw_foldtongue_k03_three_hundred.Holds := by
  w_on; o_law
  refine HandSHeadRun.head_any (r := OpenLaw.row PySem.Challenge.rw_foldtongue_k03_three_hundred) (q := view (OpenLaw.row PySem.Challenge.rw_foldtongue_k03_three_hundred).prog [104]) (H := Ft.hkF) (ob := Ft.obF) (M := 20000) (loose := Ft.looseL) (d := HandSHeadRun.topDef (OpenLaw.row PySem.Challenge.rw_foldtongue_k03_three_hundred).prog 104) (kwd := []) Ft.obF_eq
    (by kernel_rfl) (fun s => by kernel_rfl) Ft.runF (by kernel_rfl) (by kernel_rfl) (by kernel_rfl) (by rfl) (by first | assumption | decide +kernel) (by decide +kernel) ⟨rfl, rfl, rfl, rfl, rfl, by decide +kernel⟩ ?hw call
  case hw => w_witness2
namespace Ft
end Ft
set_option Elab.async false
set_option linter.all false
set_option maxRecDepth 100000
set_option maxHeartbeats 2000000
namespace Ft
open PySem PyProof.Rows L2
theorem tS_tx0 (s : Str) : tS (tx s) = s := by simp [tS, tx]
theorem tS_inj {x y : Tx} (h : tS x = tS y) : x = y := by
  have := congrArg (fun s : Str => s.cps.toList) h
  simpa [tS] using this
/-- who may change what stands at an address -/
inductive Own where
  | sl (i : Nat) | tmp | out | cell (i : Nat)
abbrev Ow := Addr → Option Own
def kK : Ky → Key
  | .i n => Sum.inl n
  | .s x => Sum.inr (tS x)
theorem kK_inj {a b : Ky} (h : kK a = kK b) : a = b := by
  cases a <;> cases b <;> simp [kK] at h
  · rw [h]
  · rw [tS_inj h]
/-- a constant of a written dict -/
def IsC (v : V) : D → Prop
  | .int i => v = .int i
  | .str x => v = .str (tS x)
  | _ => False
/-- a written dict with text keys -/
def KD (K : PySem.W.Frag) (w : World) (a : Addr) (ds : List (Ky × D)) : Prop :=
  ∃ es n, KDict K w a es n ∧ ∀ z : Tx, match look ds (.s z) with
    | some d => ∃ u v, PySem.W.nsIn K a (tS z) = some (some u) ∧ RelV v u ∧ IsC v d
    | Option.none => PySem.W.nsIn K a (tS z) = some Option.none
abbrev H0 : Hp := fun _ => Option.none
mutual
inductive Is (K : PySem.W.Frag) (w : World) (O : Ow) (H : Hp) : V → D → Prop
  | non : Is K w O H .non .none
  | bl (b : Bool) : Is K w O H (.bl b) (.bool b)
  | int (i : Int) : Is K w O H (.int i) (.int i)
  | str (x : Tx) : Is K w O H (.str (tS x)) (.str x)
  | tup {a : Addr} {vs : List V} {ds : List D} : H a = some (.tup vs) → O a = Option.none → IsL K w O H vs ds → Is K w O H (.ref a) (.tup ds)
  | tupK {a : Addr} {vs : List V} {ds : List D} : SqT K H0 a vs → IsL K w O H vs ds → Is K w O H (.ref a) (.tup ds)
  | lst {a : Addr} {vs : List V} {ds : List D} : H a = some (.lst vs) → O a = Option.none → IsL K w O H vs ds → Is K w O H (.ref a) (.lst ds)
  | scr {a : Addr} {ns : List Int} : Rd H a (.lst (ns.map V.int)) → O a = Option.none → Is K w O H (.ref a) (.scr ns)
  | scrK {a : Addr} {ns : List Int} : SqL K H0 a (ns.map V.int) → Is K w O H (.ref a) (.scr ns)
  | dct {a : Addr} {kvs : List (Key × V)} {ds : List (Ky × D)} : Rd H a (.dK kvs) → O a = Option.none → IsK K w O H kvs ds → Is K w O H (.ref a) (.dct ds)
  | dctK {a : Addr} {ds : List (Ky × D)} : KD K w a ds → Is K w O H (.ref a) (.kdc ds)
  | loc {a : Addr} {i : Nat} : O a = some (.cell i) → H a ≠ Option.none → Is K w O H (.ref a) (.loc i)
inductive IsL (K : PySem.W.Frag) (w : World) (O : Ow) (H : Hp) : List V → List D → Prop
  | nil : IsL K w O H [] []
  | cons {v : V} {vs : List V} {d : D} {ds : List D} : Is K w O H v d → IsL K w O H vs ds → IsL K w O H (v :: vs) (d :: ds)
inductive IsK (K : PySem.W.Frag) (w : World) (O : Ow) (H : Hp) : List (Key × V) → List (Ky × D) → Prop
  | nil : IsK K w O H [] []
  | cons {k : Ky} {v : V} {vs : List (Key × V)} {d : D} {ds : List (Ky × D)} : Is K w O H v d → IsK K w O H vs ds → IsK K w O H ((kK k, v) :: vs) ((k, d) :: ds)
end
/-- plain data stays, and the places of the store -/
def Upl (t : Option Own) (o o' : HO) : Prop := o' = o ∨ (t = Option.none ∧ ∃ x kvs, o = .dK kvs ∧ o' = .frz x (.dK kvs))
theorem Upl.ex {t : Option Own} {o o' : HO} (h : Upl t o o') (ne : t ≠ Option.none ∨ ∀ kvs, o ≠ .dK kvs) : o' = o := by
  rcases h with h | ⟨h, x, kvs, e, _⟩
  · exact h
  · exact ne.elim (fun q => absurd h q) fun q => absurd e (q kvs)
theorem Upl.trans {t : Option Own} {a b c : HO} (h : Upl t a b) (q : Upl t b c) : Upl t a c := by
  rcases h with rfl | ⟨h, x, kvs, e, rfl⟩
  · exact q
  · rcases q with rfl | ⟨_, y, kvs', e', _⟩
    · exact .inr ⟨h, x, kvs, e, rfl⟩
    · cases e'
structure DExt (O : Ow) (H : Hp) (O' : Ow) (H' : Hp) : Prop where
  dw : ∀ a o, H a = some o → O a = Option.none → O' a = Option.none ∧ ∃ o', H' a = some o' ∧ Upl Option.none o o'
  c : ∀ a i, H a ≠ Option.none → O a = some (.cell i) → O' a = some (.cell i) ∧ H' a ≠ Option.none
theorem DExt.d {O : Ow} {H : Hp} {O' : Ow} {H' : Hp} (e : DExt O H O' H') (a : Addr) (o : HO) (h : H a = some o) (q : O a = Option.none) (ne : ∀ kvs, o ≠ .dK kvs := by simp) : O' a = Option.none ∧ H' a = some o := by
  obtain ⟨h1, o', h2, h3⟩ := e.dw a o h q
  exact ⟨h1, by rw [h2, h3.ex (.inr ne)]⟩
theorem DExt.refl {O : Ow} {H : Hp} : DExt O H O H := ⟨fun _ _ h o => ⟨o, _, h, .inl rfl⟩, fun _ _ h o => ⟨o, h⟩⟩
theorem DExt.trans {O O1 O2 : Ow} {H H1 H2 : Hp} (a : DExt O H O1 H1) (b : DExt O1 H1 O2 H2) : DExt O H O2 H2 := ⟨fun x o h q =>
  let ⟨q1, o1, h1, u1⟩ := a.dw x o h q
  let ⟨q2, o2, h2, u2⟩ := b.dw x o1 h1 q1
  ⟨q2, o2, h2, u1.trans u2⟩, fun x i h q => b.c x i (a.c x i h q).2 (a.c x i h q).1⟩
theorem Rd.extK {O O' : Ow} {H H' : Hp} {a : Addr} {kvs : List (Key × V)} (e : DExt O H O' H') (h : Rd H a (.dK kvs)) (o : O a = Option.none) : Rd H' a (.dK kvs) ∧ O' a = Option.none := by
  rcases h with h | ⟨x, h⟩
  · obtain ⟨q1, o1, h1, u1⟩ := e.dw _ _ h o
    rcases u1 with rfl | ⟨_, x, kvs', e', rfl⟩
    · exact ⟨.inl h1, q1⟩
    · cases e'; exact ⟨.inr ⟨x, h1⟩, q1⟩
  · exact ⟨.inr ⟨x, (e.d _ _ h o).2⟩, (e.d _ _ h o).1⟩
theorem Rd.ext {O O' : Ow} {H H' : Hp} {a : Addr} {u : List V} (e : DExt O H O' H') (h : Rd H a (.lst u)) (o : O a = Option.none) : Rd H' a (.lst u) ∧ O' a = Option.none := by
  rcases h with h | ⟨x, h⟩
  · exact ⟨.inl (e.d _ _ h o).2, (e.d _ _ h o).1⟩
  · exact ⟨.inr ⟨x, (e.d _ _ h o).2⟩, (e.d _ _ h o).1⟩
section
variable {K : PySem.W.Frag} {w : World} {O O' : Ow} {H H' : Hp}
mutual
theorem Is.ext (e : DExt O H O' H') : ∀ {v : V} {d : D}, Is K w O H v d → Is K w O' H' v d
  | _, _, .non => .non
  | _, _, .bl b => .bl b
  | _, _, .int i => .int i
  | _, _, .str x => .str x
  | _, _, .tup h o l => .tup (e.d _ _ h o).2 (e.d _ _ h o).1 (IsL.ext e l)
  | _, _, .tupK h l => .tupK h (IsL.ext e l)
  | _, _, .lst h o l => .lst (e.d _ _ h o).2 (e.d _ _ h o).1 (IsL.ext e l)
  | _, _, .scr h o => .scr (Rd.ext e h o).1 (Rd.ext e h o).2
  | _, _, .scrK h => .scrK h
  | _, _, .dct h o l => .dct (Rd.extK e h o).1 (Rd.extK e h o).2 (IsK.ext e l)
  | _, _, .dctK h => .dctK h
  | _, _, .loc h q => .loc (e.c _ _ q h).1 (e.c _ _ q h).2
theorem IsL.ext (e : DExt O H O' H') : ∀ {vs : List V} {ds : List D}, IsL K w O H vs ds → IsL K w O' H' vs ds
  | _, _, .nil => .nil
  | _, _, .cons h l => .cons (Is.ext e h) (IsL.ext e l)
theorem IsK.ext (e : DExt O H O' H') : ∀ {vs : List (Key × V)} {ds : List (Ky × D)}, IsK K w O H vs ds → IsK K w O' H' vs ds
  | _, _, .nil => .nil
  | _, _, .cons h l => .cons (Is.ext e h) (IsK.ext e l)
end
end
theorem dgetR {H : Hp} {a : Addr} {kvs : List (Key × V)} {k : Key} (e : Rd H a (.dK kvs)) : DGet H a (kV k) (valV kvs k) := .inl ⟨kvs, k, e, rfl, rfl⟩
end Ft
set_option Elab.async false
set_option linter.all false
set_option maxRecDepth 100000
set_option maxHeartbeats 2000000
namespace Ft
open PySem PyProof.Rows L2
/-- the world of a law: the written part, the module's names, the interpreter's constants and calls -/
structure Gw where
  P : Program
  w : World
  K : PySem.W.Frag
  mg : Str → Option Value
  base : Heap
  G : Glob
  c : Oracle
/-- from one moment to a later one, within a frame -/
structure Ext (O : Ow) (H : Hp) (O' : Ow) (H' : Hp) : Prop where
  own : ∀ a, H a ≠ Option.none → O' a = O a
  keepw : ∀ a o, H a = some o → (∀ i, O a ≠ some (.sl i)) → (∀ i, O a ≠ some (.cell i)) → ∃ o', H' a = some o' ∧ Upl (O a) o o'
  there : ∀ a, H a ≠ Option.none → H' a ≠ Option.none
theorem Ext.keep {O : Ow} {H : Hp} {O' : Ow} {H' : Hp} (e : Ext O H O' H') (a : Addr) (o : HO) (h : H a = some o) (q : ∀ i, O a ≠ some (.sl i)) (r : ∀ i, O a ≠ some (.cell i)) (ne : O a ≠ Option.none ∨ ∀ kvs, o ≠ .dK kvs := by exact .inr (by simp)) : H' a = some o := by
  obtain ⟨o', h2, h3⟩ := e.keepw a o h q r
  rw [h2, h3.ex ne]
theorem Ext.refl {O : Ow} {H : Hp} : Ext O H O H := ⟨fun _ _ => rfl, fun _ _ h _ _ => ⟨_, h, .inl rfl⟩, fun _ h => h⟩
theorem Ext.trans {O O1 O2 : Ow} {H H1 H2 : Hp} (a : Ext O H O1 H1) (b : Ext O1 H1 O2 H2) : Ext O H O2 H2 where
  own := fun x h => (b.own x (a.there x h)).trans (a.own x h)
  keepw := fun x o h q r => by
    obtain ⟨o1, h1, u1⟩ := a.keepw x o h q r
    have ow := a.own x (by rw [h]; simp)
    obtain ⟨o2, h2, u2⟩ := b.keepw x o1 h1 (by rw [ow]; exact q) (by rw [ow]; exact r)
    rw [ow] at u2
    exact ⟨o2, h2, u1.trans u2⟩
  there := fun x h => b.there x (a.there x h)
theorem Ext.data {O O' : Ow} {H H' : Hp} (e : Ext O H O' H') : DExt O H O' H' := ⟨fun a o h q =>
  ⟨(e.own a (by rw [h]; simp)).trans q, by have := e.keepw a o h (by rw [q]; simp) (by rw [q]; simp); rw [q] at this; exact this⟩, fun a i h q => ⟨(e.own a h).trans q, e.there a h⟩⟩
theorem Ext.same {O : Ow} {H H' : Hp} (s : Same H H') : Ext O H O H' :=
  ⟨fun _ _ => rfl, fun a o h _ _ => ⟨_, s a o h, .inl rfl⟩, fun a h => by
    cases e : H a with
    | none => exact absurd e h
    | some o => rw [s a o e]; simp⟩
theorem same_upd {H : Hp} {p : Addr} {o : HO} (h : H p = Option.none) : Same H (upd H p o) := fun b x e => by
  rw [upd_ne (ne_of_none e h)]
  exact e
/-- a slot and its value -/
def SlOk (g : Gw) (O : Ow) (σ : L2.St) (H : Hp) (i : Nat) : Sl → Prop
  | .no => True
  | .d x => ∃ v, σ[i]? = some (some v) ∧ Is g.K g.w O H v x
  | .ol xs => ∃ a vs, σ[i]? = some (some (.ref a)) ∧ O a = some (.sl i) ∧ H a = some (.lst vs) ∧ IsL g.K g.w O H vs xs
  | .od kvs => ∃ a vs, σ[i]? = some (some (.ref a)) ∧ O a = some (.sl i) ∧ H a = some (.dK vs) ∧ IsK g.K g.w O H vs kvs
/-- the fields of an object -/
inductive IsF (g : Gw) (O : Ow) (H : Hp) : List (Str × V) → List (Tx × D) → Prop
  | nil : IsF g O H [] []
  | cons {x : Tx} {v : V} {d : D} {us : List (Str × V)} {fs : List (Tx × D)} : Is g.K g.w O H v d → IsF g O H us fs → IsF g O H ((tS x, v) :: us) ((x, d) :: fs)
theorem IsF.ext {g : Gw} {O O' : Ow} {H H' : Hp} (e : DExt O H O' H') : ∀ {us : List (Str × V)} {fs : List (Tx × D)}, IsF g O H us fs → IsF g O' H' us fs
  | _, _, .nil => .nil
  | _, _, .cons h l => .cons (h.ext e) (IsF.ext e l)
/-- what stands at a place of the store -/
def CellOk (g : Gw) (O : Ow) (H : Hp) (a : Addr) : Cell → Prop
  | .lst xs => ∃ vs, H a = some (.lst vs) ∧ IsL g.K g.w O H vs xs
  | .dct kvs => ∃ vs, H a = some (.dK vs) ∧ IsK g.K g.w O H vs kvs
  | .obj k fs => ∃ C dx us, g.mg (tS k) = some (.ref C) ∧ H a = some (.ins C dx us) ∧ IsF g O H us fs
/-- the store -/
structure Cells (g : Gw) (O : Ow) (H : Hp) (hp : List Cell) : Prop where
  at_ : ∀ i c, hp[i]? = some c → ∃ a, O a = some (.cell i) ∧ CellOk g O H a c
  one : ∀ a b i, O a = some (.cell i) → O b = some (.cell i) → a = b
  lt : ∀ a i, O a = some (.cell i) → i < hp.length
theorem CellOk.ext {g : Gw} {O O' : Ow} {H H' : Hp} {a : Addr} {c : Cell} (h : CellOk g O H a c) (e : DExt O H O' H') (q : H' a = H a) : CellOk g O' H' a c := by
  cases c with
  | lst xs => obtain ⟨vs, h1, h2⟩ := h; exact ⟨vs, q.trans h1, h2.ext e⟩
  | dct xs => obtain ⟨vs, h1, h2⟩ := h; exact ⟨vs, q.trans h1, h2.ext e⟩
  | obj k fs => obtain ⟨C, dx, us, h1, h2, h3⟩ := h; exact ⟨C, dx, us, h1, q.trans h2, h3.ext e⟩
theorem CellOk.here {g : Gw} {O : Ow} {H : Hp} {a : Addr} {c : Cell} (h : CellOk g O H a c) : H a ≠ Option.none := by
  cases c with
  | lst xs => obtain ⟨vs, h1, h2⟩ := h; rw [h1]; simp
  | dct xs => obtain ⟨vs, h1, h2⟩ := h; rw [h1]; simp
  | obj k fs => obtain ⟨C, dx, us, h1, h2, h3⟩ := h; rw [h2]; simp
/-- nothing happens to the store -/
theorem Cells.ext {g : Gw} {O O' : Ow} {H H' : Hp} {hp : List Cell} (k : Cells g O H hp) (e : DExt O H O' H') (q : ∀ a i, O a = some (.cell i) → H' a = H a) (r : ∀ a i, O' a = some (.cell i) → O a = some (.cell i)) : Cells g O' H' hp where
  at_ := fun i c h => by
    obtain ⟨a, h1, h2⟩ := k.at_ i c h
    exact ⟨a, (e.c a i h2.here h1).1, h2.ext e (q a i h1)⟩
  one := fun a b i h1 h2 => k.one a b i (r a i h1) (r b i h2)
  lt := fun a i h => k.lt a i (r a i h)
/-- of the world the store asks but for the written part and the module's names -/
theorem IsF.to {g g' : Gw} {O : Ow} {H : Hp} (hK : g'.K = g.K) (hw : g'.w = g.w) : ∀ {us : List (Str × V)} {fs : List (Tx × D)}, IsF g O H us fs → IsF g' O H us fs
  | _, _, .nil => .nil
  | _, _, .cons h l => .cons (by rw [hK, hw]; exact h) (IsF.to hK hw l)
theorem Cells.to {g g' : Gw} {O : Ow} {H : Hp} {hp : List Cell} (k : Cells g O H hp) (hK : g'.K = g.K) (hw : g'.w = g.w) (hm : g'.mg = g.mg) : Cells g' O H hp where
  at_ := fun i c h => by
    obtain ⟨a, h1, h2⟩ := k.at_ i c h
    refine ⟨a, h1, ?_⟩
    cases c with
    | lst xs => obtain ⟨vs, h3, h4⟩ := h2; exact ⟨vs, h3, by rw [hK, hw]; exact h4⟩
    | dct xs => obtain ⟨vs, h3, h4⟩ := h2; exact ⟨vs, h3, by rw [hK, hw]; exact h4⟩
    | obj k fs => obtain ⟨C, dx, us, h3, h4, h5⟩ := h2; exact ⟨C, dx, us, by rw [hm]; exact h3, h4, h5.to hK hw⟩
  one := k.one
  lt := k.lt
/-- one place of the store is changed -/
theorem Cells.put {g : Gw} {O : Ow} {H : Hp} {hp : List Cell} (k : Cells g O H hp) {a : Addr} {i : Nat} {c : Cell} {o : HO} (ha : O a = some (.cell i)) (h : DExt O H O (upd H a o) → CellOk g O (upd H a o) a c) : DExt O H O (upd H a o) ∧ Cells g O (upd H a o) (hp.set i c) := by
  have e : DExt O H O (upd H a o) := ⟨fun b u hb hn => ⟨hn, _, (by
    rw [upd_ne]
    · exact hb
    · intro z; subst z; rw [ha] at hn; cases hn), .inl rfl⟩, fun b j hb hc => ⟨hc, by
    by_cases z : b = a
    · subst z; rw [upd_same]; simp
    · rw [upd_ne z]; exact hb⟩⟩
  refine ⟨e, fun j d hj => ?_, k.one, fun b j hb => by rw [List.length_set]; exact k.lt b j hb⟩
  by_cases z : i = j
  · subst z
    rw [List.getElem?_set_self (k.lt a i ha)] at hj
    cases hj
    exact ⟨a, ha, h e⟩
  · rw [List.getElem?_set_ne z] at hj
    obtain ⟨b, h1, h2⟩ := k.at_ j d hj
    refine ⟨b, h1, h2.ext e ?_⟩
    rw [upd_ne]
    intro q; subst q; rw [ha] at h1; cases h1; exact z rfl
structure Ok (g : Gw) (O : Ow) (σ : L2.St) (H : Hp) (s : Ft.St) : Prop where
  len : s.env.length = σ.length
  slot : ∀ i x, s.env[i]? = some x → SlOk g O σ H i x
  tags : ∀ a, O a ≠ Option.none → H a ≠ Option.none
  cells : Cells g O H s.hp
theorem Ok.fresh {g : Gw} {O : Ow} {σ : L2.St} {H : Hp} {s : Ft.St} (k : Ok g O σ H s) {p : Addr} (h : H p = Option.none) : O p = Option.none := by
  cases e : O p with
  | none => rfl
  | some o => exact absurd h (k.tags p (by rw [e]; simp))
theorem SlOk.same {g : Gw} {O : Ow} {σ : L2.St} {H H' : Hp} {i : Nat} {x : Sl} (s : Same H H') (h : SlOk g O σ H i x) : SlOk g O σ H' i x := by
  have e : DExt O H O H' := (Ext.same (O := O) s).data
  cases x with
  | no => trivial
  | d x => obtain ⟨v, h1, h2⟩ := h; exact ⟨v, h1, h2.ext e⟩
  | ol xs => obtain ⟨a, vs, h1, h2, h3, h4⟩ := h; exact ⟨a, vs, h1, h2, s _ _ h3, h4.ext e⟩
  | od kvs => obtain ⟨a, vs, h1, h2, h3, h4⟩ := h; exact ⟨a, vs, h1, h2, s _ _ h3, h4.ext e⟩
theorem Ok.same {g : Gw} {O : Ow} {σ : L2.St} {H H' : Hp} {st : Ft.St} (k : Ok g O σ H st) (s : Same H H') : Ok g O σ H' st :=
  ⟨k.len, fun i x h => (k.slot i x h).same s, fun a h => (Ext.same (O := O) s).there a (k.tags a h), k.cells.ext (Ext.same s).data (fun a i h => by
    cases e : H a with
    | none => exact absurd e (k.tags a (by rw [h]; simp))
    | some o => exact s a o e) (fun _ _ h => h)⟩
/-- its field -/
def ExnAt (o : Option D) (dd : Option Addr) (H : Hp) : Prop := match o with
  | Option.none => dd = Option.none
  | some d => ∃ i a fs, d = .int i ∧ dd = some a ∧ H a = some (.xd fs) ∧ fs.lookup ("at" : Str) = some (.int i)
/-- an exception as it is raised -/
def ExnIs (g : Gw) (x : Exn) (cls : Value) (dd : Option Addr) (H : Hp) : Prop :=
  ∃ C, g.mg (tS x.cls) = some (.ref C) ∧ cls = .ref C ∧ ExnAt x.at_ dd H
/-- what is wanted behind a part of an expression -/
def Post {α β : Type} (g : Gw) (rel : Ow → Hp → β → α → Prop) (Wx : WX) (σ : L2.St) (O : Ow) (H : Hp) (r : R α) (Q : β → Hp → Prop) : Prop :=
  match r with
  | .ok a s' => ∀ O' b H', Ext O H O' H' → Ok g O' σ H' s' → rel O' H' b a → Q b H'
  | .exn x s' => ∀ O' H' cls dd, Ext O H O' H' → Ok g O' σ H' s' → ExnIs g x cls dd H' → Wx cls dd σ H'
  | .bad => False
section
variable {g : Gw} {α β γ δ : Type} {rel : Ow → Hp → β → α → Prop} {rel' : Ow → Hp → δ → γ → Prop} {Wx : WX} {σ : L2.St} {O : Ow} {H : Hp} {r : R α} {f : α → Ft.St → R γ} {Q Q' : β → Hp → Prop} {Q2 : δ → Hp → Prop}
theorem Post.imp (h : Post g rel Wx σ O H r Q) (hq : ∀ b H, Q b H → Q' b H) : Post g rel Wx σ O H r Q' := by
  cases r with
  | ok a s' => exact fun O' b H' e k l => hq b H' (h O' b H' e k l)
  | exn x s' => exact h
  | bad => exact h
theorem Post.bind (h : Post g rel' Wx σ O H (r.bind f) Q2) :
    Post g rel Wx σ O H r (fun b H1 => ∃ O1 a s1, Ext O H O1 H1 ∧ Ok g O1 σ H1 s1 ∧ rel O1 H1 b a ∧ Post g rel' Wx σ O1 H1 (f a s1) Q2) := by
  cases r with
  | ok a s' =>
    intro O' b H' e k l
    refine ⟨O', a, s', e, k, l, ?_⟩
    have h' : Post g rel' Wx σ O H (f a s') Q2 := h
    cases q : f a s' with
    | ok c s2 => rw [q] at h'; exact fun O2 d H2 e2 => h' O2 d H2 (e.trans e2)
    | exn x s2 => rw [q] at h'; exact fun O2 H2 cls dd e2 => h' O2 H2 cls dd (e.trans e2)
    | bad => rw [q] at h'; exact h'
  | exn x s' => exact h
  | bad => exact h
end
abbrev IsD (g : Gw) : Ow → Hp → V → D → Prop := fun O H v d => Is g.K g.w O H v d
abbrev IsDs (g : Gw) : Ow → Hp → List V → List D → Prop := fun O H v d => IsL g.K g.w O H v d
abbrev IsB : Ow → Hp → Bool → Bool → Prop := fun _ _ a b => a = b
abbrev IsOI : Ow → Hp → Option Int → Option Int → Prop := fun _ _ a b => a = b
/-- the readings -/
def RE (g : Gw) (Wx : WX) (e : E) : TE := fun σ H Q => ∃ O s, Ok g O σ H s ∧ Post g (IsD g) Wx σ O H (ev g.G g.c e s) Q
def RA (g : Gw) (Wx : WX) (es : List E) : TA := fun σ H Q => ∃ O s, Ok g O σ H s ∧ Post g (IsDs g) Wx σ O H (evs g.G g.c es s) Q
/-- a test -/
def evb (G : Glob) (c : Oracle) (e : E) (s : Ft.St) : R Bool := (ev G c e s).bind fun d s => R.of d.tru s
def RT (g : Gw) (Wx : WX) (e : E) : TT := fun σ H Q => ∃ O s, Ok g O σ H s ∧ Post g IsB Wx σ O H (evb g.G g.c e s) Q
def RTs (g : Gw) (Wx : WX) (es : List E) : TT := fun σ H Q => ∃ O s, Ok g O σ H s ∧ Post g IsB Wx σ O H (evt g.G g.c es s) Q
/-- readings may be strengthened -/
theorem pe_imp {X : Cx} {e : Expr} {t t' : TE} (h : PE X e t) (i : ∀ σ H Q, t' σ H Q → t σ H Q) : PE X e t' := ⟨fun pins s σ H Q I q => h.run pins s σ H Q I (i σ H Q q)⟩
theorem pt_imp {X : Cx} {e : Expr} {t t' : TT} (h : PT X e t) (i : ∀ σ H Q, t' σ H Q → t σ H Q) : PT X e t' := ⟨fun pins s σ H Q I q => h.run pins s σ H Q I (i σ H Q q)⟩
theorem pw_imp {X : Cx} {e : Expr} {t t' : TT} (h : PW X e t) (i : ∀ σ H Q, t' σ H Q → t σ H Q) : PW X e t' := ⟨fun wh pins s σ H Q I q => h.run wh pins s σ H Q I (i σ H Q q)⟩
theorem pa_imp {X : Cx} {e : List Expr} {t t' : TA} (h : PA X e t) (i : ∀ σ H Q, t' σ H Q → t σ H Q) : PA X e t' := ⟨fun pos pins s σ H Q I q => h.run pos pins s σ H Q I (i σ H Q q)⟩
theorem ps_imp {X : Cx} {e : Stmt} {t t' : TS} (h : PS X e t) (i : ∀ D σ H, t' D σ H → t D σ H) : PS X e t' := ⟨fun pins s σ H D I q => h.run pins s σ H D I (i D σ H q)⟩
theorem pss_imp {X : Cx} {e : List Stmt} {t t' : TS} (h : PSs X e t) (i : ∀ D σ H, t' D σ H → t D σ H) : PSs X e t' := ⟨fun pins s σ H D I q => h.run pins s σ H D I (i D σ H q)⟩
/-- a pure operation by values -/
def rP1 (g : Gw) (f : D → Option D) : V → Hp → VK → Prop := fun x H Q => ∃ O d1 d, (∀ p, H p = Option.none → O p = Option.none) ∧ Is g.K g.w O H x d1 ∧ f d1 = some d ∧ ∀ v H', Same H H' → Is g.K g.w O H' v d → Q v H'
def rP2 (g : Gw) (f : D → D → Option D) : R2 := fun x y H Q => ∃ O d1 d2 d, (∀ p, H p = Option.none → O p = Option.none) ∧ Is g.K g.w O H x d1 ∧ Is g.K g.w O H y d2 ∧ f d1 d2 = some d ∧ ∀ v H', Same H H' → Is g.K g.w O H' v d → Q v H'
section
variable {g : Gw} {Wx : WX} {σ : L2.St} {H : Hp} {Q : VK}
theorem Post.pure {α β : Type} {rel : Ow → Hp → β → α → Prop} {Q : β → Hp → Prop} {O : Ow} {s : Ft.St} {o : Option α} (k : Ok g O σ H s) (h : Post g rel Wx σ O H (R.of o s) Q) : ∃ d, o = some d ∧ ∀ v H', Same H H' → rel O H' v d → Q v H' := by
  cases o with
  | none => exact h.elim
  | some d => exact ⟨d, rfl, fun v H' sm i => h O v H' (Ext.same sm) (k.same sm) i⟩
/-- two parts, then a pure operation -/
theorem re_bi {o : O2} {a b : E} {r : R2} (hr : ∀ x y H Q, rP2 g (op2 o) x y H Q → r x y H Q) (h : RE g Wx (.bi o a b) σ H Q) : tOp r (RE g Wx a) (RE g Wx b) σ H Q := by
  obtain ⟨O, s, k, p⟩ := h
  rw [ev] at p
  refine ⟨O, s, k, (Post.bind (rel := IsD g) p).imp fun x H1 ⟨O1, d1, s1, e1, k1, i1, p1⟩ => ?_⟩
  refine ⟨O1, s1, k1, (Post.bind (rel := IsD g) p1).imp fun y H2 ⟨O2, d2, s2, e2, k2, i2, p2⟩ => ?_⟩
  obtain ⟨d, hd, q⟩ := Post.pure k2 p2
  exact hr _ _ _ _ ⟨O2, d1, d2, d, fun p => k2.fresh, Is.ext e2.data i1, i2, hd, q⟩
theorem re_un {o : O1} {a : E} {r : V → Hp → VK → Prop} (hr : ∀ x H Q, rP1 g (op1 o) x H Q → r x H Q) (h : RE g Wx (.un o a) σ H Q) : tUn r (RE g Wx a) σ H Q := by
  obtain ⟨O, s, k, p⟩ := h
  rw [ev] at p
  refine ⟨O, s, k, (Post.bind (rel := IsD g) p).imp fun x H1 ⟨O1, d1, s1, e1, k1, i1, p1⟩ => ?_⟩
  obtain ⟨d, hd, q⟩ := Post.pure k1 p1
  exact hr _ _ _ ⟨O1, d1, d, fun p => k1.fresh, i1, hd, q⟩
end
end Ft
set_option Elab.async false
set_option linter.all false
set_option maxRecDepth 100000
set_option maxHeartbeats 2000000
namespace Ft
open PySem PyProof.Rows L2
def gOf (X : Cx) (G : Glob) (c : Oracle) : Gw := ⟨X.prog, X.w, X.K, X.mg, X.base, G, c⟩
section
variable {K : PySem.W.Frag} {w : World} {O : Ow} {H : Hp}
theorem IsL.len : ∀ {vs : List V} {ds : List D}, IsL K w O H vs ds → vs.length = ds.length
  | _, _, .nil => rfl
  | _, _, .cons _ l => by simp [IsL.len l]
theorem IsL.get : ∀ {vs : List V} {ds : List D} {i : Nat} {d : D}, IsL K w O H vs ds → ds[i]? = some d → ∃ v, vs[i]? = some v ∧ Is K w O H v d
  | _, _, _, _, .nil, e => by simp at e
  | _, _, 0, _, .cons h _, e => by simp at e; subst e; exact ⟨_, rfl, h⟩
  | _, _, i + 1, d, .cons _ l, e => by
    obtain ⟨v, h1, h2⟩ := IsL.get (i := i) (d := d) l (by simpa using e)
    exact ⟨v, by simpa using h1, h2⟩
theorem IsL.getV : ∀ {vs : List V} {ds : List D} {i : Nat} {v : V}, IsL K w O H vs ds → vs[i]? = some v → ∃ d, ds[i]? = some d ∧ Is K w O H v d
  | _, _, _, _, .nil, e => by simp at e
  | _, _, 0, _, .cons h _, e => by simp at e; subst e; exact ⟨_, rfl, h⟩
  | _, _, i + 1, d, .cons _ l, e => by
    obtain ⟨v, h1, h2⟩ := IsL.getV (i := i) (v := d) l (by simpa using e)
    exact ⟨v, by simpa using h1, h2⟩
theorem IsL.append : ∀ {vs us : List V} {ds es : List D}, IsL K w O H vs ds → IsL K w O H us es → IsL K w O H (vs ++ us) (ds ++ es)
  | _, _, _, _, .nil, b => b
  | _, _, _, _, .cons h l, b => .cons h (IsL.append l b)
theorem IsL.rev : ∀ {vs : List V} {ds : List D}, IsL K w O H vs ds → IsL K w O H vs.reverse ds.reverse
  | _, _, .nil => .nil
  | _, _, .cons h l => by rw [List.reverse_cons, List.reverse_cons]; exact IsL.append (IsL.rev l) (.cons h .nil)
theorem IsL.dropLast : ∀ {vs : List V} {ds : List D}, IsL K w O H vs ds → IsL K w O H vs.dropLast ds.dropLast
  | _, _, .nil => .nil
  | _, _, .cons _ .nil => .nil
  | _, _, .cons h (.cons h2 l) => .cons h (IsL.dropLast (.cons h2 l))
theorem IsL.drop : ∀ (n : Nat) {vs : List V} {ds : List D}, IsL K w O H vs ds → IsL K w O H (vs.drop n) (ds.drop n)
  | 0, _, _, h => h
  | _ + 1, _, _, .nil => .nil
  | n + 1, _, _, .cons _ l => IsL.drop n l
theorem IsL.take : ∀ (n : Nat) {vs : List V} {ds : List D}, IsL K w O H vs ds → IsL K w O H (vs.take n) (ds.take n)
  | 0, _, _, _ => .nil
  | _ + 1, _, _, .nil => .nil
  | n + 1, _, _, .cons h l => .cons h (IsL.take n l)
theorem IsL.set {v : V} {d : D} (h : Is K w O H v d) : ∀ (n : Nat) {vs : List V} {ds : List D}, IsL K w O H vs ds → IsL K w O H (vs.set n v) (ds.set n d)
  | _, _, _, .nil => .nil
  | 0, _, _, .cons _ l => .cons h l
  | n + 1, _, _, .cons q l => .cons q (IsL.set h n l)
theorem IsL.reverse : ∀ {vs : List V} {ds : List D}, IsL K w O H vs ds → IsL K w O H vs.reverse ds.reverse
  | _, _, .nil => .nil
  | _, _, .cons h l => by
    rw [List.reverse_cons, List.reverse_cons]
    exact IsL.append (IsL.reverse l) (.cons h .nil)
theorem IsL.ints : ∀ {vs : List V} {ds : List D} {ns : List Int}, IsL K w O H vs ds → Ft.iOf ds = some ns → vs = ns.map V.int
  | _, _, _, .nil, e => by simp [Ft.iOf] at e; subst e; rfl
  | _, _, ns, .cons (d := d) h l, e => by
    cases d <;> simp [Ft.iOf] at e
    obtain ⟨r, e1, rfl⟩ := e
    cases h
    rw [IsL.ints l e1]; rfl
theorem IsL.strs : ∀ {vs : List V} {ds : List D} {ns : List Tx}, IsL K w O H vs ds → Ft.sOf ds = some ns → vs = (ns.map tS).map V.str
  | _, _, _, .nil, e => by simp [Ft.sOf] at e; subst e; rfl
  | _, _, ns, .cons (d := d) h l, e => by
    cases d <;> simp [Ft.sOf] at e
    obtain ⟨r, e1, rfl⟩ := e
    cases h
    rw [IsL.strs l e1]; rfl
theorem IsL.ofStrs (ys : List Tx) : IsL K w O H ((ys.map tS).map V.str) (ys.map D.str) := by
  induction ys with
  | nil => exact .nil
  | cons y r ih => exact .cons (.str y) ih
theorem ix_eq (n : Nat) (i : Int) : ixN n i = ix n i := by
  unfold ixN ix
  split
  · rfl
  · have : (-(n : Int) ≤ i) ↔ (0 ≤ i + n) := by omega
    simp only [this]
theorem IsL.at {vs : List V} {ds : List D} {i : Int} {d : D} (l : IsL K w O H vs ds) (h : at? ds i = some d) : ∃ v, atI vs i = some v ∧ Is K w O H v d := by
  unfold at? at h
  unfold atI
  rw [ix_eq, l.len]
  cases e : ix ds.length i with
  | none => rw [e] at h; cases h
  | some j =>
    rw [e] at h
    exact l.get h
theorem sIx_eq (n d : Nat) (o : Option Int) : HT.sIx n d o = sIx n d o := by
  cases o with
  | none => rfl
  | some v =>
    show (if v < 0 then (v + (n : Int)).toNat else min v.toNat n) = (if 0 ≤ v then min v.toNat n else (v + n).toNat)
    by_cases h : 0 ≤ v
    · rw [if_pos h, if_neg (by omega)]
    · rw [if_neg h, if_pos (by omega)]
theorem IsL.cut {vs : List V} {ds : List D} (l : IsL K w O H vs ds) (lo hi : Option Int) : IsL K w O H (cutV vs lo hi) (Ft.cut ds lo hi) := by
  unfold cutV Ft.cut
  rw [sIx_eq, sIx_eq, l.len]
  exact IsL.take _ (IsL.drop _ l)
theorem Is.tupS {v : V} {ds : List D} (h : Is K w O H v (.tup ds)) : ∃ a vs, v = .ref a ∧ SqT K H a vs ∧ IsL K w O H vs ds := by
  cases h with
  | tup h o l => exact ⟨_, _, rfl, .inl (.inl h), l⟩
  | tupK h l =>
    refine ⟨_, _, rfl, ?_, l⟩
    rcases h with h | h
    · rcases h with h | ⟨_, h⟩ <;> cases h
    · exact .inr h
theorem Is.lstS {v : V} {ds : List D} (h : Is K w O H v (.lst ds)) : ∃ a vs, v = .ref a ∧ H a = some (.lst vs) ∧ IsL K w O H vs ds := by
  cases h with
  | lst h o l => exact ⟨_, _, rfl, h, l⟩
theorem Is.scrS {v : V} {ns : List Int} (h : Is K w O H v (.scr ns)) : ∃ a, v = .ref a ∧ SqL K H a (ns.map V.int) := by
  cases h with
  | scr h o => exact ⟨_, rfl, .inl h⟩
  | scrK h =>
    refine ⟨_, rfl, ?_⟩
    rcases h with h | h
    · rcases h with h | ⟨_, h⟩ <;> cases h
    · exact .inr h
theorem lim_line : LIM ≤ sizeLine := by
  rw [sizeLine_eq]; decide
theorem Is.new_tup {p : Addr} {vs : List V} {ds : List D} (h : H p = Option.none) (fr : ∀ p, H p = Option.none → O p = Option.none) (l : IsL K w O H vs ds) : Is K w O (upd H p (.tup vs)) (.ref p) (.tup ds) :=
  .tup upd_same (fr p h) (l.ext (Ext.same (same_upd h)).data)
theorem Is.new_lst {p : Addr} {vs : List V} {ds : List D} (h : H p = Option.none) (fr : ∀ p, H p = Option.none → O p = Option.none) (l : IsL K w O H vs ds) : Is K w O (upd H p (.lst vs)) (.ref p) (.lst ds) :=
  .lst upd_same (fr p h) (l.ext (Ext.same (same_upd h)).data)
theorem tS_len (x : Tx) : (tS x).length = x.length := by simp [tS, Str.length]
theorem tS_app (x y : Tx) : tS x ++ tS y = tS (x ++ y) := by
  show Str.append _ _ = _
  simp [Str.append, tS]
/-! equality -/
mutual
def toPy : D → PyData
  | .none => .none
  | .bool b => .bool b
  | .int i => .int i
  | .str x => .str (tS x)
  | .tup xs => .tuple (toPyL xs)
  | .lst xs => .list (toPyL xs)
  | .dct _ => .none
  | .scr _ => .none
  | .kdc _ => .none
  | .loc _ => .none
def toPyL : List D → List PyData
  | [] => []
  | x :: xs => toPy x :: toPyL xs
end
mutual
theorem eqv_py : ∀ (a b : D) (n m : Nat), a.dep = some n → b.dep = some m → D.eqv a b = PyData.eqv (toPy a) (toPy b)
  | a, b, n, m, ha, hb => by
    cases a <;> cases b <;> (try simp [D.dep] at ha hb) <;> (try simp only [D.eqv, toPy, PyData.eqv])
    case str.str x y =>
      by_cases e : x = y
      · subst e; simp
      · have : ¬ tS x = tS y := fun q => e (tS_inj q)
        rw [beq_eq_false_iff_ne.mpr e, beq_eq_false_iff_ne.mpr this]
    case tup.tup =>
      obtain ⟨n', ha, _⟩ := ha
      obtain ⟨m', hb, _⟩ := hb
      exact eqvL_py _ _ _ _ ha hb
    case lst.lst =>
      obtain ⟨n', ha, _⟩ := ha
      obtain ⟨m', hb, _⟩ := hb
      exact eqvL_py _ _ _ _ ha hb
theorem eqvL_py : ∀ (a b : List D) (n m : Nat), D.depL a = some n → D.depL b = some m → D.eqvL a b = PyData.eqvAll (toPyL a) (toPyL b)
  | [], [], _, _, _, _ => rfl
  | [], _ :: _, _, _, _, _ => rfl
  | _ :: _, [], _, _, _, _ => rfl
  | x :: xs, y :: ys, n, m, ha, hb => by
    simp only [D.depL] at ha hb
    cases hx : D.dep x with
    | none => rw [hx] at ha; cases ha
    | some i =>
      cases hy : D.dep y with
      | none => rw [hy] at hb; cases hb
      | some j =>
        cases hxs : D.depL xs with
        | none => rw [hx, hxs] at ha; cases ha
        | some k =>
          cases hys : D.depL ys with
          | none => rw [hy, hys] at hb; cases hb
          | some l =>
            simp only [D.eqvL, toPyL, PyData.eqvAll]
            rw [eqv_py x y i j hx hy, eqvL_py xs ys k l hxs hys]
end
mutual
theorem dep_py : ∀ (a : D) (n : Nat), a.dep = some n → (toPy a).canLay0 = true ∧ (toPy a).depth = n
  | .none, n, h => by simp [D.dep] at h; subst h; exact ⟨rfl, rfl⟩
  | .bool _, n, h => by simp [D.dep] at h; subst h; exact ⟨rfl, rfl⟩
  | .int _, n, h => by simp [D.dep] at h; subst h; exact ⟨rfl, rfl⟩
  | .str x, n, h => by
    simp only [D.dep] at h
    split at h
    · rename_i hx
      cases h
      refine ⟨?_, rfl⟩
      show PyData.strOk (tS x) = true
      unfold PyData.strOk tS
      simp only [List.all_eq_true, decide_eq_true_eq] at hx
      simp
      intro c hc
      have := hx c hc
      omega
    · cases h
  | .tup xs, n, h => by
    simp [D.dep] at h
    obtain ⟨m, h, rfl⟩ := h
    obtain ⟨h1, h2⟩ := depL_py xs m h
    exact ⟨h1, by show PyData.depthAll _ + 1 = _; rw [h2]⟩
  | .lst xs, n, h => by
    simp [D.dep] at h
    obtain ⟨m, h, rfl⟩ := h
    obtain ⟨h1, h2⟩ := depL_py xs m h
    exact ⟨h1, by show PyData.depthAll _ + 1 = _; rw [h2]⟩
  | .dct _, n, h => by simp [D.dep] at h
  | .scr _, n, h => by simp [D.dep] at h
  | .kdc _, n, h => by simp [D.dep] at h
theorem depL_py : ∀ (a : List D) (n : Nat), D.depL a = some n → PyData.canLayAll0 (toPyL a) = true ∧ PyData.depthAll (toPyL a) = n
  | [], n, h => by simp [D.depL] at h; subst h; exact ⟨rfl, rfl⟩
  | x :: xs, n, h => by
    simp only [D.depL] at h
    cases hx : D.dep x with
    | none => rw [hx] at h; cases h
    | some i =>
      cases hxs : D.depL xs with
      | none => rw [hx, hxs] at h; cases h
      | some k =>
        rw [hx, hxs] at h
        cases h
        obtain ⟨a1, a2⟩ := dep_py x i hx
        obtain ⟨b1, b2⟩ := depL_py xs k hxs
        refine ⟨?_, ?_⟩
        · show (PyData.canLay0 _ && PyData.canLayAll0 _) = true
          rw [a1, b1]; rfl
        · show max (PyData.depth _) (PyData.depthAll _) = _
          rw [a2, b2]
end
mutual
theorem Is.dp : ∀ {v : V} {d : D} {n : Nat}, Is K w O H v d → d.dep = some n → Dp K H v (toPy d)
  | _, _, _, .non, _ => .non
  | _, _, _, .bl b, _ => .bl b
  | _, _, _, .int i, _ => .int i
  | _, _, _, .str x, _ => .str _
  | _, _, n, .tup (ds := ds) h o l, e => by
    simp [D.dep] at e
    obtain ⟨m, e, _⟩ := e
    exact .tup (.inl (.inl h)) (IsL.dp l e)
  | _, _, n, .tupK (ds := ds) h l, e => by
    simp [D.dep] at e
    obtain ⟨m, e, _⟩ := e
    refine .tup ?_ (IsL.dp l e)
    rcases h with h | h
    · rcases h with h | ⟨_, h⟩ <;> cases h
    · exact .inr h
  | _, _, n, .lst (ds := ds) h o l, e => by
    simp [D.dep] at e
    obtain ⟨m, e, _⟩ := e
    exact .lst (.inl (.inl h)) (IsL.dp l e)
  | _, _, _, .scr _ _, e => by simp [D.dep] at e
  | _, _, _, .scrK _, e => by simp [D.dep] at e
  | _, _, _, .dct _ _ _, e => by simp [D.dep] at e
  | _, _, _, .dctK _, e => by simp [D.dep] at e
theorem IsL.dp : ∀ {vs : List V} {ds : List D} {n : Nat}, IsL K w O H vs ds → D.depL ds = some n → DpAll K H vs (toPyL ds)
  | _, _, _, .nil, _ => .nil
  | _, _, n, .cons (d := d) (ds := ds) h l, e => by
    simp only [D.depL] at e
    cases hx : D.dep d with
    | none => rw [hx] at e; cases e
    | some i =>
      cases hxs : D.depL ds with
      | none => rw [hx, hxs] at e; cases e
      | some k => exact .cons (Is.dp h hx) (IsL.dp l hxs)
end
theorem shaped_dep {d : D} (h : d.shaped = true) : ∃ n, d.dep = some n ∧ SeqAt.shaped (toPy d) = true := by
  unfold D.shaped at h
  cases e : d.dep with
  | none => rw [e] at h; cases h
  | some n =>
    rw [e] at h
    obtain ⟨h1, h2⟩ := dep_py d n e
    refine ⟨n, rfl, ?_⟩
    unfold SeqAt.shaped
    rw [h1, h2, Bool.true_and]
    exact h
theorem Is.truV {v : V} {d : D} {b : Bool} (h : Is K w O H v d) (e : d.tru = some b) : TruV K v H b := by
  cases h with
  | non => exact (Option.some.inj e).symm
  | bl _ => exact (Option.some.inj e).symm
  | int _ => exact (Option.some.inj e).symm
  | str x =>
    simp only [D.tru] at e
    split at e
    · cases e
      rename_i hl
      refine ⟨by rw [tS_len]; exact Nat.le_trans hl lim_line, ?_⟩
      rw [tS_len]
      cases x <;> simp
      omega
    · cases e
  | tup h o l =>
    refine .inr (.inl ⟨_, .inl (.inl h), ?_⟩)
    rw [← Option.some.inj e]
    cases l <;> rfl
  | tupK h l =>
    rename_i vs ds
    refine .inr (.inl ⟨vs, ?_, ?_⟩)
    · rcases h with h | h
      · rcases h with h | ⟨_, h⟩ <;> cases h
      · exact .inr h
    · rw [← Option.some.inj e]
      cases l <;> rfl
  | lst h o l =>
    refine .inl ⟨_, .inl (.inl h), ?_⟩
    rw [← Option.some.inj e]
    cases l <;> rfl
  | scr h o =>
    rename_i ns
    refine .inl ⟨_, .inl h, ?_⟩
    rw [← Option.some.inj e]
    cases ns <;> rfl
  | scrK h =>
    rename_i ns
    refine .inl ⟨ns.map V.int, ?_, ?_⟩
    · rcases h with h | h
      · rcases h with h | ⟨_, h⟩ <;> cases h
      · exact .inr h
    · rw [← Option.some.inj e]
      cases ns <;> rfl
  | dct h o l => cases e
  | dctK h => cases e
  | loc h => cases e
end
end Ft
set_option Elab.async false
set_option linter.all false
set_option maxRecDepth 100000
set_option maxHeartbeats 2000000
namespace Ft
open PySem PyProof.Rows L2
section
variable {K : PySem.W.Frag} {w : World} {O : Ow} {H : Hp}
theorem Is.flatV {v : V} {d : D} (h : Is K w O H v d) (f : d.flat = true) : L2.flatV v = true := by
  cases h <;> simp_all [D.flat, L2.flatV]
theorem Is.eqV {v u : V} {d e : D} (h : Is K w O H v d) (f : d.flat = true) (i : Is K w O H u e) (j : e.flat = true) : L2.eqV v u = D.eqv d e := by
  cases h <;> first | (simp [D.flat] at f; done) | (cases i <;> first | (simp [D.flat] at j; done) | simp [L2.eqV, D.eqv])
  rename_i x y
  by_cases e : x = y
  · subst e; simp
  · have : ¬ tS x = tS y := fun q => e (tS_inj q)
    rw [beq_eq_false_iff_ne.mpr e, beq_eq_false_iff_ne.mpr this]
theorem IsL.flatAll : ∀ {vs : List V} {ds : List D}, IsL K w O H vs ds → ds.all D.flat = true → vs.all L2.flatV = true
  | _, _, .nil, _ => rfl
  | _, _, .cons h l, e => by
    simp only [List.all_cons, Bool.and_eq_true] at e ⊢
    exact ⟨h.flatV e.1, IsL.flatAll l e.2⟩
theorem IsL.inV {v : V} {d : D} (h : Is K w O H v d) (f : d.flat = true) : ∀ {vs : List V} {ds : List D}, IsL K w O H vs ds → ds.all D.flat = true → L2.inV v vs = ds.any fun y => D.eqv y d
  | _, _, .nil, _ => rfl
  | _, _, .cons i l, e => by
    simp only [List.all_cons, Bool.and_eq_true] at e
    have := IsL.inV h f l e.2
    unfold L2.inV at this ⊢
    simp only [List.any_cons]
    rw [this, i.eqV e.1 h f]
theorem inSeq_of {x : D} {xs : List D} {b : Bool} (h : inSeq x xs = some b) : x.flat = true ∧ xs.all D.flat = true ∧ (xs.any fun y => D.eqv y x) = b := by
  unfold inSeq at h
  split at h
  · rename_i q
    simp only [Bool.and_eq_true] at q
    exact ⟨q.1, q.2, Option.some.inj h⟩
  · cases h
theorem IsK.valV : ∀ {vs : List (Key × V)} {ds : List (Ky × D)} (k : Ky), IsK K w O H vs ds → (∀ d, look ds k = some d → ∃ v, L2.valV vs (kK k) = some v ∧ Is K w O H v d) ∧ (look ds k = Option.none → L2.valV vs (kK k) = Option.none)
  | _, _, k, .nil => ⟨fun d h => (by cases h), fun _ => rfl⟩
  | _, _, k, .cons (k := q) h l => by
    obtain ⟨i1, i2⟩ := IsK.valV k l
    by_cases e : q = k
    · subst e
      refine ⟨fun d hd => ?_, fun hd => ?_⟩
      · simp only [look, if_true] at hd
        cases hd
        refine ⟨_, ?_, h⟩
        simp [L2.valV]
      · simp [look] at hd
    · have ne : kK q ≠ kK k := fun z => e (kK_inj z)
      refine ⟨fun d hd => ?_, fun hd => ?_⟩
      · simp only [look, if_neg e] at hd
        obtain ⟨v, h1, h2⟩ := i1 d hd
        refine ⟨v, ?_, h2⟩
        simpa [L2.valV, ne] using h1
      · simp only [look, if_neg e] at hd
        simpa [L2.valV, ne] using i2 hd
theorem IsK.len : ∀ {vs : List (Key × V)} {ds : List (Ky × D)}, IsK K w O H vs ds → vs.length = ds.length
  | _, _, .nil => rfl
  | _, _, .cons _ l => by simp [IsK.len l]
theorem IsK.app {v : V} {d : D} (k : Ky) (h : Is K w O H v d) : ∀ {vs : List (Key × V)} {ds : List (Ky × D)}, IsK K w O H vs ds → IsK K w O H (vs ++ [(kK k, v)]) (ds ++ [(k, d)])
  | _, _, .nil => .cons h .nil
  | _, _, .cons h' l => .cons h' (IsK.app k h l)
theorem IsK.map {v : V} {d : D} (k : Ky) (h : Is K w O H v d) : ∀ {vs : List (Key × V)} {ds : List (Ky × D)}, IsK K w O H vs ds → IsK K w O H (vs.map fun kv => if kv.1 = kK k then (kv.1, v) else kv) (ds.map fun p => if p.1 = k then (p.1, d) else p)
  | _, _, .nil => .nil
  | _, _, .cons (k := q) h' l => by
    have ih := IsK.map k h l
    by_cases e : q = k
    · subst e
      simp only [List.map_cons, if_true]
      exact .cons h ih
    · have ne : ¬ kK q = kK k := fun z => e (kK_inj z)
      simp only [List.map_cons, if_neg e, if_neg ne]
      exact .cons h' ih
theorem IsK.put {vs : List (Key × V)} {ds : List (Ky × D)} {v : V} {d : D} (k : Ky) (h : Is K w O H v d) (l : IsK K w O H vs ds) : IsK K w O H (L2.putK vs (kK k) v) (Ft.putK ds k d) := by
  obtain ⟨g1, g2⟩ := l.valV k
  unfold L2.putK Ft.putK
  rw [L2.valV_any]
  cases e : look ds k with
  | none =>
    rw [g2 e]
    exact l.app k h
  | some d' =>
    obtain ⟨v', e', _⟩ := g1 d' e
    rw [e']
    exact l.map k h
theorem Is.key {v : V} {d : D} {k : Ky} (h : Is K w O H v d) (e : ky d = some k) : v = kV (kK k) := by
  cases h <;> simp [ky] at e <;> subst e <;> rfl
end
section
variable {X : Cx} {G : Glob} {c : Oracle}
/-- int operations that leave the heap -/
theorem or_int {f : Value → Value → Sem Value} {o : O2} {C : Int → Int → Prop} {r : Int → Int → D} {rv : Int → Int → V} (h : OpR X f (rI C rv))
    (ho : ∀ a b d, op2 o a b = some d → ∃ i j, a = .int i ∧ b = .int j ∧ C i j ∧ d = r i j) (hr : ∀ i j O H, Is X.K X.w O H (rv i j) (r i j)) : OpR X f (rP2 (gOf X G c) (op2 o)) := by
  intro pins s σ H x y v u Q I rx ry h'
  obtain ⟨O, d1, d2, d, fr, i1, i2, hd, q⟩ := h'
  obtain ⟨i, j, rfl, rfl, hc, rfl⟩ := ho _ _ _ hd
  cases i1; cases i2
  exact h pins s σ H _ _ v u Q I rx ry ⟨i, j, rfl, rfl, hc, q _ _ (Same.refl H) (hr i j O H)⟩
theorem rI_of {g : Int → Int → V} {f : Value → Value → Sem Value} (h : OpR X f (rI0 g)) : OpR X f (rI (fun _ _ => True) g) := fun pins s σ H x y v u Q I rx ry ⟨i, j, a, b, _, q⟩ => h pins s σ H x y v u Q I rx ry ⟨i, j, a, b, q⟩
theorem or_sub : OpR X (binaryOp .Sub) (rP2 (gOf X G c) (op2 .sub)) := or_int (r := fun i j => .int (i - j)) (rI_of op_sub) (fun a b d h => by
  cases a <;> cases b <;> simp [op2] at h; exact ⟨_, _, rfl, rfl, trivial, h.symm⟩) fun _ _ _ _ => .int _
theorem or_lt : OpR X (compareOp .Lt) (rP2 (gOf X G c) (op2 .lt)) := or_int (r := fun i j => .bool (decide (i < j))) (rI_of op_lt) (fun a b d h => by
  cases a <;> cases b <;> simp [op2] at h; exact ⟨_, _, rfl, rfl, trivial, h.symm⟩) fun _ _ _ _ => .bl _
theorem or_le : OpR X (compareOp .LtE) (rP2 (gOf X G c) (op2 .le)) := or_int (r := fun i j => .bool (decide (i ≤ j))) (rI_of op_le) (fun a b d h => by
  cases a <;> cases b <;> simp [op2] at h; exact ⟨_, _, rfl, rfl, trivial, h.symm⟩) fun _ _ _ _ => .bl _
theorem or_gt : OpR X (compareOp .Gt) (rP2 (gOf X G c) (op2 .gt)) := or_int (r := fun i j => .bool (decide (j < i))) (rI_of op_gt) (fun a b d h => by
  cases a <;> cases b <;> simp [op2] at h; exact ⟨_, _, rfl, rfl, trivial, h.symm⟩) fun _ _ _ _ => .bl _
theorem or_ge : OpR X (compareOp .GtE) (rP2 (gOf X G c) (op2 .ge)) := or_int (r := fun i j => .bool (decide (j ≤ i))) (rI_of op_ge) (fun a b d h => by
  cases a <;> cases b <;> simp [op2] at h; exact ⟨_, _, rfl, rfl, trivial, h.symm⟩) fun _ _ _ _ => .bl _
theorem IsL.rep {K : PySem.W.Frag} {w : World} {O : Ow} {H : Hp} {vs : List V} {ds : List D} (h : IsL K w O H vs ds) : ∀ n : Nat, IsL K w O H (List.replicate n vs).flatten (List.replicate n ds).flatten
  | 0 => .nil
  | n + 1 => by
    simp only [List.replicate_succ, List.flatten_cons]
    exact IsL.append h (IsL.rep h n)
theorem or_mul : OpR X (binaryOp .Mult) (rP2 (gOf X G c) (op2 .mul)) := by
  intro pins s σ H x y v u Q I rx ry h'
  obtain ⟨O, d1, d2, d, fr, i1, i2, hd, q⟩ := h'
  cases d1 <;> cases d2 <;> simp only [op2] at hd
  case int.int i j =>
    split at hd
    · rename_i hc
      cases hd; cases i1; cases i2
      exact op_mul pins s σ H _ _ v u Q I rx ry ⟨i, j, rfl, rfl, hc, q _ _ (Same.refl H) (.int _)⟩
    · cases hd
  case lst.int xs n =>
    split at hd
    · rename_i hc
      cases hd; cases i2
      obtain ⟨p1, v1, rfl, h1, l1⟩ := i1.lstS
      refine op_rep pins s σ H _ _ v u Q I rx ry ⟨_, n, _, rfl, rfl, h1, by have := hc.1; omega, by have := hc.2.1; omega, ?_, fun p hp => ?_⟩
      · rw [l1.len]; exact Nat.le_trans hc.2.2 lim_line
      · exact q _ _ (same_upd hp) (Is.new_lst hp fr (l1.rep n.toNat))
    · cases hd
  all_goals cases hd
theorem or_fdiv : OpR X (binaryOp .FloorDiv) (rP2 (gOf X G c) (op2 .fdiv)) := or_int (r := fun i j => .int (i / j)) op_fdiv (fun a b d h => by
  cases a <;> cases b <;> simp only [op2] at h
  all_goals first | cases h | (split at h <;> first | (cases h; exact ⟨_, _, rfl, rfl, by assumption, rfl⟩) | cases h)) fun _ _ _ _ => .int _
theorem or_mod : OpR X (binaryOp .Mod) (rP2 (gOf X G c) (op2 .mod)) := or_int (r := fun i j => .int (i % j)) op_mod (fun a b d h => by
  cases a <;> cases b <;> simp only [op2] at h
  all_goals first | cases h | (split at h <;> first | (cases h; exact ⟨_, _, rfl, rfl, by assumption, rfl⟩) | cases h)) fun _ _ _ _ => .int _
theorem or_pow : OpR X (binaryOp .Pow) (rP2 (gOf X G c) (op2 .pow)) := or_int (r := fun i j => .int (i ^ j.toNat)) op_pow (fun a b d h => by
  cases a <;> cases b <;> simp only [op2] at h
  all_goals first | cases h | (split at h <;> first | (cases h; exact ⟨_, _, rfl, rfl, by assumption, rfl⟩) | cases h)) fun _ _ _ _ => .int _
theorem or_add : OpR X (binaryOp .Add) (rP2 (gOf X G c) (op2 .add)) := by
  intro pins s σ H x y v u Q I rx ry h'
  obtain ⟨O, d1, d2, d, fr, i1, i2, hd, q⟩ := h'
  cases d1 <;> cases d2 <;> simp only [op2] at hd
  case int.int i j =>
    cases hd; cases i1; cases i2
    exact op_add pins s σ H _ _ v u Q I rx ry ⟨i, j, rfl, rfl, q _ _ (Same.refl H) (.int _)⟩
  case str.str a b =>
    split at hd
    · rename_i hl
      cases hd; cases i1; cases i2
      refine op_add_str pins s σ H _ _ v u Q I rx ry ⟨_, _, rfl, rfl, ?_, ?_⟩
      · rw [tS_len, tS_len]; exact Nat.le_trans hl lim_line
      · rw [tS_app]
        exact q _ _ (Same.refl H) (.str _)
    · cases hd
  case lst.lst a b =>
    split at hd
    · rename_i hl
      cases hd
      obtain ⟨p1, v1, rfl, h1, l1⟩ := i1.lstS
      obtain ⟨p2, v2, rfl, h2, l2⟩ := i2.lstS
      refine op_cat pins s σ H _ _ v u Q I rx ry ⟨_, _, _, _, rfl, rfl, h1, h2, ?_, fun p hp => ?_⟩
      · rw [l1.len, l2.len]; exact Nat.le_trans hl lim_line
      · exact q _ _ (same_upd hp) (Is.new_lst hp fr (l1.append l2))
    · cases hd
  case tup.tup a b =>
    split at hd
    · rename_i hl
      cases hd
      obtain ⟨p1, v1, e1, h1, l1⟩ := i1.tupS
      obtain ⟨p2, v2, e2, h2, l2⟩ := i2.tupS
      refine op_catA pins s σ H _ _ v u Q I rx ry ⟨_, _, _, _, e1, e2, h1, h2, ?_, fun z => ?_, fun _ z => ?_, fun _ _ p hp => ?_⟩
      · rw [l1.len, l2.len]; exact Nat.le_trans hl lim_line
      · subst z
        cases l1
        rw [← e2]
        exact q _ _ (Same.refl H) i2
      · subst z
        cases l2
        rw [← e1]
        refine q _ _ (Same.refl H) ?_
        rw [List.append_nil]
        exact i1
      · exact q _ _ (same_upd hp) (Is.new_tup hp fr (l1.append l2))
    · cases hd
  all_goals cases hd
theorem or_eq (hu : X.A.units + 64 < cLine) : OpR X (compareOp .Eq) (rP2 (gOf X G c) (op2 .eq)) := by
  intro pins s σ H x y v u Q I rx ry h'
  obtain ⟨O, d1, d2, d, fr, i1, i2, hd, q⟩ := h'
  have hd : (if (d1.shaped && d2.shaped) = true then some (D.bool (D.eqv d1 d2)) else Option.none) = some d := by cases d1 <;> exact hd
  split at hd
  · rename_i hs
    simp only [Bool.and_eq_true] at hs
    obtain ⟨n, e1, s1⟩ := shaped_dep hs.1
    obtain ⟨m, e2, s2⟩ := shaped_dep hs.2
    cases hd
    refine op_eqD hu pins s σ H _ _ v u Q I rx ry ⟨_, _, i1.dp e1, i2.dp e2, s1, s2, ?_⟩
    rw [← eqv_py _ _ _ _ e1 e2]
    exact q _ _ (Same.refl H) (.bl _)
  · cases hd
theorem or_ne (hu : X.A.units + 64 < cLine) : OpR X (compareOp .NotEq) (rP2 (gOf X G c) (op2 .ne)) := by
  intro pins s σ H x y v u Q I rx ry h'
  obtain ⟨O, d1, d2, d, fr, i1, i2, hd, q⟩ := h'
  have hd : (if (d1.shaped && d2.shaped) = true then some (D.bool !(D.eqv d1 d2)) else Option.none) = some d := by cases d1 <;> exact hd
  split at hd
  · rename_i hs
    simp only [Bool.and_eq_true] at hs
    obtain ⟨n, e1, s1⟩ := shaped_dep hs.1
    obtain ⟨m, e2, s2⟩ := shaped_dep hs.2
    cases hd
    refine op_neD hu pins s σ H _ _ v u Q I rx ry ⟨_, _, i1.dp e1, i2.dp e2, s1, s2, ?_⟩
    rw [← eqv_py _ _ _ _ e1 e2]
    exact q _ _ (Same.refl H) (.bl _)
  · cases hd
/-- in and not in, at once -/
theorem or_inB (hu : X.A.units + 1 < cLine) {pins : List (Addr × Obj)} {s : Shared} {σ : L2.St} {H : Hp} {x y : V} {v u : Value} {Q : VK} {O : Ow} {d1 d2 : D} {b : Bool} (I : Inv X pins σ H s) (rx : RelV x v) (ry : RelV y u) (i1 : Is X.K X.w O H x d1) (i2 : Is X.K X.w O H y d2) (hd : inD d1 d2 = some b) :
    (Q (.bl b) H → wpAny (model X.prog X.w) X.A (compareOp .In v u) (EP X pins σ Q) X.xe s) ∧ (Q (.bl !b) H → wpAny (model X.prog X.w) X.A (compareOp .NotIn v u) (EP X pins σ Q) X.xe s) := by
  cases d2 with
  | tup xs =>
    have hd' : inSeq d1 xs = some b := by cases d1 <;> exact hd
    obtain ⟨f1, f2, e⟩ := inSeq_of hd'
    obtain ⟨p, vs, rfl, h, l⟩ := i2.tupS
    refine ⟨fun q => op_in_seq pins s σ H _ _ v u Q I rx ry ⟨_, _, rfl, .inr h, i1.flatV f1, l.flatAll f2, ?_⟩, fun q => op_notIn_seq pins s σ H _ _ v u Q I rx ry ⟨_, _, rfl, .inr h, i1.flatV f1, l.flatAll f2, ?_⟩⟩
    · rw [if_neg Bool.false_ne_true, IsL.inV i1 f1 l f2, e]; exact q
    · rw [if_pos rfl, IsL.inV i1 f1 l f2, e]; exact q
  | lst xs =>
    have hd' : inSeq d1 xs = some b := by cases d1 <;> exact hd
    obtain ⟨f1, f2, e⟩ := inSeq_of hd'
    obtain ⟨p, vs, rfl, h, l⟩ := i2.lstS
    refine ⟨fun q => op_in_seq pins s σ H _ _ v u Q I rx ry ⟨_, _, rfl, .inl (SqL.of h), i1.flatV f1, l.flatAll f2, ?_⟩, fun q => op_notIn_seq pins s σ H _ _ v u Q I rx ry ⟨_, _, rfl, .inl (SqL.of h), i1.flatV f1, l.flatAll f2, ?_⟩⟩
    · rw [if_neg Bool.false_ne_true, IsL.inV i1 f1 l f2, e]; exact q
    · rw [if_pos rfl, IsL.inV i1 f1 l f2, e]; exact q
  | str z =>
    obtain ⟨k, rfl, rfl⟩ : ∃ k, d1 = .str [k] ∧ b = decide (k ∈ z) := by
      cases d1 <;> simp only [inD] at hd <;> first | cases hd | skip
      rename_i x
      match x, hd with
      | [k], hd => exact ⟨k, rfl, (Option.some.inj hd).symm⟩
    cases i1; cases i2
    refine ⟨fun q => op_in_sign pins s σ H _ _ v u Q I rx ry ⟨k, _, rfl, rfl, ?_⟩, fun q => op_notIn_sign pins s σ H _ _ v u Q I rx ry ⟨k, _, rfl, rfl, ?_⟩⟩
    · rw [show decide (k ∈ (tS z).cps.toList) = decide (k ∈ z) from decide_eq_decide.mpr (by simp [tS])]; exact q
    · rw [show decide (k ∈ (tS z).cps.toList) = decide (k ∈ z) from decide_eq_decide.mpr (by simp [tS])]; exact q
  | dct ds =>
    obtain ⟨k, hk, rfl⟩ : ∃ k, ky d1 = some k ∧ b = (look ds k).isSome := by
      have hd : ((ky d1).map fun k => (look ds k).isSome) = some b := by cases d1 <;> first | exact hd | (rename_i x; cases x <;> first | exact hd | (rename_i r; cases r <;> exact hd))
      cases e : ky d1 with
      | none => rw [e] at hd; cases hd
      | some k => rw [e] at hd; exact ⟨k, rfl, (Option.some.inj hd).symm⟩
    cases i2 with
    | dct h o l =>
      rename_i a kvs
      obtain ⟨g1, g2⟩ := l.valV k
      have key := i1.key hk
      subst key
      have gv := dgetR (k := kK k) h
      have eq : (L2.valV kvs (kK k)).isSome = (look ds k).isSome := by
        cases e : look ds k with
        | none => rw [g2 e]; rfl
        | some d => obtain ⟨v', e', _⟩ := g1 d e; rw [e']; rfl
      cases (show u = Value.ref _ from ry)
      exact ⟨fun q => d_in hu I gv rx fun s' I' => ⟨.bl _, H, I', rfl, by rw [eq]; exact q⟩, fun q => d_notIn hu I gv rx fun s' I' => ⟨.bl _, H, I', rfl, by rw [eq]; exact q⟩⟩
  | kdc ds =>
    obtain ⟨z, rfl, rfl⟩ : ∃ z, d1 = .str z ∧ b = (look ds (.s z)).isSome := by
      cases d1 with
      | str z =>
        have hd : some (look ds (.s z)).isSome = some b := by
          match z, hd with
          | [], hd => exact hd
          | [_], hd => exact hd
          | _ :: _ :: _, hd => exact hd
        exact ⟨z, rfl, (Option.some.inj hd).symm⟩
      | _ => simp [inD] at hd
    cases i2 with
    | dctK h =>
      obtain ⟨es, n, kd, h⟩ := h
      cases i1
      have hz := h z
      cases e : look ds (.s z) with
      | none =>
        rw [e] at hz
        exact ⟨fun q => op_in_kd kd pins s σ H _ _ v u Q I rx ry ⟨_, _, rfl, rfl, hz, q⟩, fun q => op_notIn_kd kd pins s σ H _ _ v u Q I rx ry ⟨_, _, rfl, rfl, hz, q⟩⟩
      | some d =>
        rw [e] at hz
        obtain ⟨u', v', hz, _⟩ := hz
        exact ⟨fun q => op_in_kd kd pins s σ H _ _ v u Q I rx ry ⟨_, _, rfl, rfl, hz, q⟩, fun q => op_notIn_kd kd pins s σ H _ _ v u Q I rx ry ⟨_, _, rfl, rfl, hz, q⟩⟩
  | none => cases d1 <;> simp [inD] at hd
  | bool _ => cases d1 <;> simp [inD] at hd
  | int _ => cases d1 <;> simp [inD] at hd
  | scr _ => cases d1 <;> simp [inD] at hd
  | loc _ => cases d1 <;> simp [inD] at hd
end
end Ft
set_option Elab.async false
set_option linter.all false
set_option maxRecDepth 100000
set_option maxHeartbeats 2000000
namespace Ft
open PySem PyProof.Rows L2
section
variable {X : Cx} {G : Glob} {c : Oracle}
theorem or_in (hu : X.A.units + 1 < cLine) : OpR X (compareOp .In) (rP2 (gOf X G c) (op2 .in_)) := by
  intro pins s σ H x y v u Q I rx ry h'
  obtain ⟨O, d1, d2, d, fr, i1, i2, hd, q⟩ := h'
  have hd : (inD d1 d2).map D.bool = some d := by cases d1 <;> exact hd
  cases e : inD d1 d2 with
  | none => rw [e] at hd; cases hd
  | some b =>
    rw [e] at hd
    cases hd
    exact (or_inB hu I rx ry i1 i2 e).1 (q _ _ (Same.refl H) (.bl b))
theorem or_nin (hu : X.A.units + 1 < cLine) : OpR X (compareOp .NotIn) (rP2 (gOf X G c) (op2 .nin)) := by
  intro pins s σ H x y v u Q I rx ry h'
  obtain ⟨O, d1, d2, d, fr, i1, i2, hd, q⟩ := h'
  have hd : (inD d1 d2).map (fun k => D.bool !k) = some d := by cases d1 <;> exact hd
  cases e : inD d1 d2 with
  | none => rw [e] at hd; cases hd
  | some b =>
    rw [e] at hd
    cases hd
    exact (or_inB hu I rx ry i1 i2 e).2 (q _ _ (Same.refl H) (.bl !b))
theorem Is.isN {K : PySem.W.Frag} {w : World} {O : Ow} {H : Hp} {v : V} {d : D} (h : Is K w O H v d) {b : Bool} (e : isD d .none = some b) : decide (v = .non) = b := by
  cases h <;> simp [isD] at e <;> simp [← e]
theorem or_isB {pins : List (Addr × Obj)} {s : Shared} {σ : L2.St} {H : Hp} {x y : V} {v u : Value} {O : Ow} {d1 d2 : D} {b : Bool} (I : Inv X pins σ H s) (rx : RelV x v) (ry : RelV y u) (i1 : Is X.K X.w O H x d1) (i2 : Is X.K X.w O H y d2) (e : isD d1 d2 = some b) {Q : VK} :
    (Q (.bl b) H → wpAny (model X.prog X.w) X.A (compareOp .Is v u) (EP X pins σ Q) X.xe s) ∧ (Q (.bl !b) H → wpAny (model X.prog X.w) X.A (compareOp .IsNot v u) (EP X pins σ Q) X.xe s) := by
  cases i2 with
  | non =>
    have := i1.isN e
    exact ⟨fun q => op_isN pins s σ H x _ v u Q I rx ry ⟨rfl, by rw [this]; exact q⟩, fun q => op_notN pins s σ H x _ v u Q I rx ry ⟨rfl, by rw [this]; exact q⟩⟩
  | bl k =>
    cases i1 <;> simp [isD] at e
    rename_i j
    refine ⟨fun q => op_isBl pins s σ H _ _ v u Q I rx ry ⟨j, k, rfl, rfl, ?_⟩, fun q => op_notBl pins s σ H _ _ v u Q I rx ry ⟨j, k, rfl, rfl, ?_⟩⟩
    · rw [← e] at q; exact q
    · rw [← e] at q; exact q
  | _ => cases i1 <;> simp [isD] at e
theorem or_is : OpR X (compareOp .Is) (rP2 (gOf X G c) (op2 .is_)) := by
  intro pins s σ H x y v u Q I rx ry h'
  obtain ⟨O, d1, d2, d, fr, i1, i2, hd, q⟩ := h'
  have hd : (isD d1 d2).map D.bool = some d := by cases d1 <;> exact hd
  obtain ⟨b, e, rfl⟩ := Option.map_eq_some_iff.mp hd
  exact (or_isB I rx ry i1 i2 e).1 (q _ _ (Same.refl H) (.bl b))
theorem or_isn : OpR X (compareOp .IsNot) (rP2 (gOf X G c) (op2 .isn)) := by
  intro pins s σ H x y v u Q I rx ry h'
  obtain ⟨O, d1, d2, d, fr, i1, i2, hd, q⟩ := h'
  have hd : (isD d1 d2).map (fun k => D.bool !k) = some d := by cases d1 <;> exact hd
  obtain ⟨b, e, rfl⟩ := Option.map_eq_some_iff.mp hd
  exact (or_isB I rx ry i1 i2 e).2 (q _ _ (Same.refl H) (.bl !b))
theorem at_map {α β : Type} (f : α → β) (xs : List α) (i : Int) : atI (xs.map f) i = (at? xs i).map f := by
  unfold atI at?
  rw [ix_eq, List.length_map]
  cases ix xs.length i with
  | none => rfl
  | some j => simp
theorem at_id {α : Type} (xs : List α) (i : Int) : atI xs i = at? xs i := by
  unfold atI at?
  rw [ix_eq]
theorem ixr_idx (hu : X.A.units + 1 < cLine) : IxR X (rP2 (gOf X G c) (op2 .idx)) := by
  intro value slice pins s σ H x y v u Q I rx ry h' hs
  obtain ⟨O, d1, d2, d, fr, i1, i2, hd, q⟩ := h'
  cases d1 with
  | tup xs =>
    cases d2 <;> simp only [op2] at hd <;> first | cases hd | skip
    rename_i i
    obtain ⟨p, vs, rfl, h, l⟩ := i1.tupS
    cases i2
    obtain ⟨z, h1, h2⟩ := l.at hd
    exact ix_tup value slice pins s σ H _ _ v u Q I rx ry ⟨_, _, _, _, rfl, rfl, h, h1, q _ _ (Same.refl H) h2⟩ hs
  | lst xs =>
    cases d2 <;> simp only [op2] at hd <;> first | cases hd | skip
    rename_i i
    obtain ⟨p, vs, rfl, h, l⟩ := i1.lstS
    cases i2
    obtain ⟨z, h1, h2⟩ := l.at hd
    exact ix_list value slice pins s σ H _ _ v u Q I rx ry ⟨_, _, _, _, rfl, rfl, SqL.of h, h1, q _ _ (Same.refl H) h2⟩ hs
  | scr xs =>
    cases d2 <;> simp only [op2] at hd <;> first | cases hd | skip
    rename_i i
    obtain ⟨qa, rfl, h⟩ := i1.scrS
    cases i2
    cases e : at? xs i with
    | none => rw [e] at hd; cases hd
    | some n =>
      rw [e] at hd
      cases hd
      exact ix_list value slice pins s σ H _ _ v u Q I rx ry ⟨_, _, _, _, rfl, rfl, h, by rw [at_map, e]; rfl, q _ _ (Same.refl H) (.int n)⟩ hs
  | str z =>
    cases d2 <;> simp only [op2] at hd <;> first | cases hd | skip
    rename_i i
    cases i1
    cases i2
    split at hd
    · rename_i hl
      cases e : at? z i with
      | none => rw [e] at hd; cases hd
      | some n =>
        rw [e] at hd
        cases hd
        refine ix_str value slice pins s σ H _ _ v u Q I rx ry ⟨_, _, _, rfl, rfl, by rw [tS_len]; exact Nat.le_trans hl lim_line, ?_, q _ _ (Same.refl H) (.str [n])⟩ hs
        show atI (tS z).cps.toList i = some n
        rw [at_id]
        simpa [tS] using e
    · cases hd
  | dct ds =>
    have hd : (ky d2).bind (look ds) = some d := by cases d2 <;> exact hd
    cases i1 with
    | dct h o l =>
      rename_i a kvs
      cases e : ky d2 with
      | none => rw [e] at hd; cases hd
      | some k =>
        rw [e] at hd
        have hd : look ds k = some d := hd
        obtain ⟨g1, g2⟩ := l.valV k
        obtain ⟨v', e', hi⟩ := g1 d hd
        have key := i2.key e
        subst key
        have gv := dgetR (k := kK k) h
        rw [e'] at gv
        cases (show v = Value.ref _ from rx)
        exact tail_any (dict_typeIs I gv) PySem.F.slot_dict_getitem.lookup (d_getItem hu I gv ry fun w' s' I' rw' => ⟨v', H, I', rw', q _ _ (Same.refl H) hi⟩) hs
  | kdc ds =>
    cases d2 <;> simp only [op2] at hd <;> first | cases hd | skip
    rename_i z
    cases i1 with
    | dctK h =>
      obtain ⟨es, n, kd, h⟩ := h
      cases i2
      have hz := h z
      rw [hd] at hz
      obtain ⟨u', v', hz, hr, hc⟩ := hz
      refine ix_kdict value slice pins s σ H _ _ v u Q I rx ry ⟨_, _, _, rfl, rfl, ⟨es, n, u', kd.at_, kd.lit, hz, hr⟩, q _ _ (Same.refl H) ?_⟩ hs
      cases d <;> first | exact hc.elim | (cases (show v' = _ from hc); constructor)
  | none => cases d2 <;> simp [op2] at hd
  | bool _ => cases d2 <;> simp [op2] at hd
  | int _ => cases d2 <;> simp [op2] at hd
  | loc _ => cases d2 <;> simp [op2] at hd
/-- slices -/
def rPs (g : Gw) : V → Option Int → Option Int → Hp → VK → Prop := fun x lo hi H Q => ∃ O d1 d, (∀ p, H p = Option.none → O p = Option.none) ∧ Is g.K g.w O H x d1 ∧ slice d1 lo hi = some d ∧ ∀ v H', Same H H' → Is g.K g.w O H' v d → Q v H'
theorem cut_whole {α : Type} (xs : List α) (lo hi : Option Int) (h : sIx xs.length 0 lo = 0 ∧ sIx xs.length xs.length hi = xs.length) : cut xs lo hi = xs := by
  unfold cut
  simp only [h.1, h.2]
  simp
theorem slr_all : SlR X (rPs (gOf X G c)) := by
  intro pins s σ H x v vl vu lo hi sl Q I rx hs pl pu h'
  obtain ⟨O, d1, d, fr, i1, hd, q⟩ := h'
  cases d1 with
  | tup xs =>
    cases hd
    obtain ⟨p, vs, e, h, l⟩ := i1.tupS
    refine sl_tupA pins s σ H x v vl vu lo hi sl Q I rx hs pl pu ⟨_, _, e, h, fun hw => ?_, fun hw p hp => ?_⟩
    · rw [← e]
      rw [sIx_eq, sIx_eq, l.len] at hw
      have := cut_whole xs lo hi hw
      refine q _ _ (Same.refl H) ?_
      rw [this]
      exact i1
    · exact q _ _ (same_upd hp) (Is.new_tup hp fr (l.cut lo hi))
  | lst xs =>
    cases hd
    obtain ⟨p, vs, rfl, h, l⟩ := i1.lstS
    exact sl_list pins s σ H _ v vl vu lo hi sl Q I rx hs pl pu ⟨_, _, rfl, SqL.of h, fun p hp => q _ _ (same_upd hp) (Is.new_lst hp fr (l.cut lo hi))⟩
  | str z =>
    simp only [slice] at hd
    split at hd
    · rename_i hl
      cases hd
      cases i1
      refine sl_str pins s σ H _ v vl vu lo hi sl Q I rx hs pl pu ⟨_, rfl, by rw [tS_len]; exact Nat.le_trans hl lim_line, ?_⟩
      have : cutS (tS z) lo hi = tS (cut z lo hi) := by
        unfold cutS cut
        rw [sIx_eq, sIx_eq, tS_len]
        simp [tS]
      rw [this]
      exact q _ _ (Same.refl H) (.str _)
    · cases hd
  | none => cases hd
  | bool _ => cases hd
  | int _ => cases hd
  | dct _ => cases hd
  | scr _ => cases hd
  | kdc _ => cases hd
  | loc _ => cases hd
/-- calls of built-ins with one argument -/
def rC1 (g : Gw) (f : D → Option D) : List V → Hp → VK → Prop := fun xs H Q => ∃ x, xs = [x] ∧ rP1 g f x H Q
theorem cr_len : CallR X (.builtin "len") (rC1 (gOf X G c) (op1 .len)) := by
  intro pins s σ H xs us Q I r h
  obtain ⟨x, rfl, O, d1, d, fr, i1, hd, q⟩ := h
  have hd : (lenD d1).map D.int = some d := by cases d1 <;> exact hd
  cases d1 with
  | tup ys =>
    cases hd
    obtain ⟨p, vs, rfl, h, l⟩ := i1.tupS
    refine call_len pins s σ H _ us Q I r ⟨_, _, rfl, .inr ⟨_, h, rfl⟩, ?_⟩
    rw [l.len]
    exact q _ _ (Same.refl H) (.int _)
  | lst ys =>
    cases hd
    obtain ⟨p, vs, rfl, h, l⟩ := i1.lstS
    refine call_len pins s σ H _ us Q I r ⟨_, _, rfl, .inl ⟨_, SqL.of h, rfl⟩, ?_⟩
    rw [l.len]
    exact q _ _ (Same.refl H) (.int _)
  | scr ys =>
    cases hd
    obtain ⟨qa, rfl, h⟩ := i1.scrS
    refine call_len pins s σ H _ us Q I r ⟨_, _, rfl, .inl ⟨_, h, rfl⟩, ?_⟩
    rw [List.length_map]
    exact q _ _ (Same.refl H) (.int _)
  | str z =>
    simp only [lenD] at hd
    split at hd
    · rename_i hl
      cases hd
      cases i1
      refine call_len pins s σ H _ us Q I r ⟨_, _, rfl, ⟨by rw [tS_len]; exact Nat.le_trans hl lim_line, rfl⟩, ?_⟩
      rw [tS_len]
      exact q _ _ (Same.refl H) (.int _)
    · cases hd
  | none => cases hd
  | bool _ => cases hd
  | int _ => cases hd
  | dct _ => cases hd
  | kdc _ => cases hd
  | loc _ => cases hd
theorem cr_list : CallR X (.type "list") (rC1 (gOf X G c) (op1 .toLst)) := by
  intro pins s σ H xs us Q I r h
  obtain ⟨x, rfl, O, d1, d, fr, i1, hd, q⟩ := h
  cases d1 <;> simp only [op1] at hd <;> first | cases hd | skip
  · obtain ⟨p, vs, rfl, h, l⟩ := i1.tupS
    exact call_list_of pins s σ H _ us Q I r ⟨_, _, rfl, .inr h, fun p hp => q _ _ (same_upd hp) (Is.new_lst hp fr l)⟩
  · obtain ⟨p, vs, rfl, h, l⟩ := i1.lstS
    exact call_list_of pins s σ H _ us Q I r ⟨_, _, rfl, .inl (SqL.of h), fun p hp => q _ _ (same_upd hp) (Is.new_lst hp fr l)⟩
theorem cr_tuple : CallR X (.type "tuple") (rC1 (gOf X G c) (op1 .toTup)) := by
  intro pins s σ H xs us Q I r h
  obtain ⟨x, rfl, O, d1, d, fr, i1, hd, q⟩ := h
  cases d1 <;> simp only [op1] at hd <;> first | cases hd | skip
  · obtain ⟨p, vs, e, h, l⟩ := i1.tupS
    refine call_tuple_of pins s σ H _ us Q I r ⟨p, _, by rw [e], .inr ⟨h, ?_⟩⟩
    rw [← e]
    exact q _ _ (Same.refl H) i1
  · obtain ⟨p, vs, rfl, h, l⟩ := i1.lstS
    exact call_tuple_of pins s σ H _ us Q I r ⟨_, _, rfl, .inl ⟨SqL.of h, fun p hp => q _ _ (same_upd hp) (Is.new_tup hp fr l)⟩⟩
theorem cr_sumD (hc : X.calm = true) : CallR X (.builtin "sum") (rC1 (gOf X G c) (op1 .sum)) := by
  intro pins s σ H xs us Q I r h
  obtain ⟨x, rfl, O, d1, d, fr, i1, hd, q⟩ := h
  cases d1 <;> simp only [op1] at hd <;> first | cases hd | skip
  rename_i ys
  cases e : Ft.iOf ys with
  | none => rw [e] at hd; cases hd
  | some ns =>
    rw [e] at hd
    cases hd
    obtain ⟨p, vs, rfl, h, l⟩ := i1.lstS
    have := l.ints e
    subst this
    exact cr_sum hc pins s σ H _ us Q I r ⟨_, _, rfl, SqL.of h, q _ _ (Same.refl H) (.int _)⟩
theorem maxI_ok : ∀ ns : List Int, ns ≠ [] → ∃ m, maxI ns = some m ∧ m ∈ ns ∧ ∀ y ∈ ns, y ≤ m
  | [], h => absurd rfl h
  | [x], _ => ⟨x, rfl, by simp, by simp⟩
  | x :: y :: r, _ => by
    obtain ⟨m, h1, h2, h3⟩ := maxI_ok (y :: r) (by simp)
    have e : maxI (x :: y :: r) = some (if x < m then m else x) := by rw [maxI, h1]
    rw [e]
    by_cases z : x < m
    · rw [if_pos z]
      refine ⟨m, rfl, List.mem_cons_of_mem _ h2, fun a ha => ?_⟩
      rcases List.mem_cons.mp ha with q | q
      · omega
      · exact h3 a q
    · rw [if_neg z]
      refine ⟨x, rfl, List.mem_cons_self, fun a ha => ?_⟩
      rcases List.mem_cons.mp ha with q | q
      · omega
      · have := h3 a q
        omega
theorem minI_ok : ∀ ns : List Int, ns ≠ [] → ∃ m, minI ns = some m ∧ m ∈ ns ∧ ∀ y ∈ ns, m ≤ y
  | [], h => absurd rfl h
  | [x], _ => ⟨x, rfl, by simp, by simp⟩
  | x :: y :: r, _ => by
    obtain ⟨m, h1, h2, h3⟩ := minI_ok (y :: r) (by simp)
    have e : minI (x :: y :: r) = some (if m < x then m else x) := by rw [minI, h1]
    rw [e]
    by_cases z : m < x
    · rw [if_pos z]
      refine ⟨m, rfl, List.mem_cons_of_mem _ h2, fun a ha => ?_⟩
      rcases List.mem_cons.mp ha with q | q
      · omega
      · exact h3 a q
    · rw [if_neg z]
      refine ⟨x, rfl, List.mem_cons_self, fun a ha => ?_⟩
      rcases List.mem_cons.mp ha with q | q
      · omega
      · have := h3 a q
        omega
theorem cr_maxD (hc : X.calm = true) : CallR X (.builtin "max") (rC1 (gOf X G c) (op1 .max_)) := by
  intro pins s σ H xs us Q I r h
  obtain ⟨x, rfl, O, d1, d, fr, i1, hd, q⟩ := h
  cases d1 <;> simp only [op1] at hd <;> first | cases hd | skip
  rename_i ys
  cases e : Ft.iOf ys with
  | none => rw [e] at hd; cases hd
  | some ns =>
    rw [e] at hd
    simp only [Option.bind_some] at hd
    obtain ⟨p, vs, rfl, h, l⟩ := i1.lstS
    have := l.ints e
    subst this
    by_cases hne : ns = []
    · subst hne; cases hd
    · obtain ⟨m, h1, h2, h3⟩ := maxI_ok ns hne
      rw [h1] at hd
      cases hd
      exact cr_max hc pins s σ H _ us Q I r ⟨_, _, rfl, SqL.of h, List.length_pos_iff.mpr hne, fun m' k1 k2 => by
        have : m' = m := Int.le_antisymm (h3 _ k1) (k2 _ h2)
        subst this
        exact q _ _ (Same.refl H) (.int _)⟩
theorem cr_minD (hc : X.calm = true) : CallR X (.builtin "min") (rC1 (gOf X G c) (op1 .min_)) := by
  intro pins s σ H xs us Q I r h
  obtain ⟨x, rfl, O, d1, d, fr, i1, hd, q⟩ := h
  cases d1 <;> simp only [op1] at hd <;> first | cases hd | skip
  rename_i ys
  cases e : Ft.iOf ys with
  | none => rw [e] at hd; cases hd
  | some ns =>
    rw [e] at hd
    simp only [Option.bind_some] at hd
    obtain ⟨p, vs, rfl, h, l⟩ := i1.lstS
    have := l.ints e
    subst this
    by_cases hne : ns = []
    · subst hne; cases hd
    · obtain ⟨m, h1, h2, h3⟩ := minI_ok ns hne
      rw [h1] at hd
      cases hd
      exact cr_min hc pins s σ H _ us Q I r ⟨_, _, rfl, SqL.of h, List.length_pos_iff.mpr hne, fun m' k1 k2 => by
        have : m' = m := Int.le_antisymm (k2 _ h2) (h3 _ k1)
        subst this
        exact q _ _ (Same.refl H) (.int _)⟩
theorem cr_intD : CallR X (.type "int") (rC1 (gOf X G c) (op1 .int_)) := by
  intro pins s σ H xs us Q I r h
  obtain ⟨x, rfl, O, d1, d, fr, i1, hd, q⟩ := h
  cases d1 <;> simp only [op1] at hd <;> first | cases hd | skip
  · cases i1
    exact call_int1 pins s σ H _ us Q I r (.inr ⟨_, rfl, q _ _ (Same.refl H) (.int _)⟩)
  · rename_i z
    split at hd
    · rename_i hb
      simp only [Bool.and_eq_true, decide_eq_true_eq] at hb
      cases hd
      cases i1
      have hne : z ≠ [] := fun e => by rw [e] at hb; simp at hb
      exact call_int_str pins s σ H _ us Q I r ⟨tS z, _, rfl, SX.int_S (a := z) hb.1.1 hne (by omega), by rw [tS_len]; omega, q _ _ (Same.refl H) (.int _)⟩
    · cases hd
theorem decF_num : ∀ (f n : Nat), n < f → decF f n = TL.numL n
  | 0, n, h => absurd h (Nat.not_lt_zero _)
  | f + 1, n, h => by
    simp only [decF]
    split
    · rename_i q
      exact (TL.numL_lt q).symm
    · rename_i q
      rw [TL.numL_step (Nat.le_of_not_lt q), decF_num f (n / 10) (by omega)]
theorem decN_str (n : Nat) : tS (decN n) = Str.ofString (toString ((n : Nat) : Int)) := by
  unfold decN
  rw [decF_num (n + 1) n (Nat.lt_succ_self n), SX.num_S]
  rfl
theorem cr_strD : CallR X (.type "str") (rC1 (gOf X G c) (op1 .str_)) := by
  intro pins s σ H xs us Q I r h
  obtain ⟨x, rfl, O, d1, d, fr, i1, hd, q⟩ := h
  cases d1 <;> simp only [op1] at hd <;> first | cases hd | skip
  · rename_i i
    split at hd
    · rename_i hb
      cases hd
      cases i1
      refine call_str_int pins s σ H _ us Q I r ⟨i, rfl, ?_, ?_⟩
      · have : i.natAbs < 2 ^ 60 := by omega
        refine Nat.lt_of_le_of_lt ?_ (by decide : 60 < 1920)
        by_cases z : i.natAbs = 0
        · rw [z]; decide
        · exact Nat.le_of_lt ((Nat.log2_lt z).mpr this)
      · have e : toString i = toString ((i.toNat : Nat) : Int) := by rw [Int.toNat_of_nonneg hb.1]
        have e2 : ((toString i : String) : Str) = tS (decN i.toNat) := by rw [decN_str, e]
        rw [e2]
        exact q _ _ (Same.refl H) (.str _)
    · cases hd
  · cases i1
    exact SkE.call_str_str pins s σ H _ us Q I r ⟨_, rfl, q _ _ (Same.refl H) (.str _)⟩
theorem cr_boolD : CallR X (.type "bool") (rC1 (gOf X G c) (op1 .bool_)) := by
  intro pins s σ H xs us Q I r h
  obtain ⟨x, rfl, O, d1, d, fr, i1, hd, q⟩ := h
  cases d1 <;> simp only [op1] at hd <;> first | cases hd | skip
  · cases i1
    exact call_bool1 pins s σ H _ us Q I r (.inr ⟨_, rfl, q _ _ (Same.refl H) (.bl _)⟩)
  · cases i1
    exact call_bool1 pins s σ H _ us Q I r (.inl ⟨_, rfl, q _ _ (Same.refl H) (.bl _)⟩)
  · rename_i ds
    obtain ⟨p, vs, rfl, h, l⟩ := i1.lstS
    refine call_boolL pins s σ H _ us Q I r ⟨_, _, rfl, SqL.of h, ?_⟩
    have e : vs.isEmpty = ds.isEmpty := by cases l <;> rfl
    rw [e]
    exact q _ _ (Same.refl H) (.bl _)
theorem cr_dictD : CallR X (.type "dict") (rC1 (gOf X G c) (op1 .toDct)) := by
  intro pins s σ H xs us Q I r h
  obtain ⟨x, rfl, O, d1, d, fr, i1, hd, q⟩ := h
  cases d1 <;> simp only [op1] at hd <;> first | cases hd | skip
  cases i1 with
  | dct h o l => exact call_dictD pins s σ H _ us Q I r ⟨_, _, rfl, h, fun p hp => q _ _ (same_upd hp) (.dct (.inl upd_same) (fr p hp) (l.ext (Ext.same (same_upd hp)).data))⟩
theorem cr_max2 (hc : X.calm = true) : CallR X (.builtin "max") (fun vs H Q => ∃ x y, vs = [x, y] ∧ rP2 (gOf X G c) (op2 .max2) x y H Q) := by
  intro pins s σ H vs us Q I r h
  obtain ⟨x, y, rfl, O, d1, d2, d, fr, i1, i2, hd, q⟩ := h
  cases d1 <;> cases d2 <;> simp only [op2] at hd <;> first | cases hd | skip
  rename_i i j
  cases i1
  cases i2
  obtain ⟨u1, u2, rfl, r1, r2⟩ := r.two
  obtain ⟨t1, rfl⟩ := r1
  obtain ⟨t2, rfl⟩ := r2
  refine PySem.Flt.max_two_num (I.ok.hd hc) (.int _ _) (.int _ _) fun h' tk hk => ?_
  have q := q (.int (if i < j then j else i)) _ (Same.refl H) (.int _)
  refine ⟨.int (if i < j then j else i), H, I.kept hk, ?_, q⟩
  simp only [PySem.Flt.ltV]
  by_cases z : i < j
  · simp only [z, decide_true, if_true]; exact ⟨_, rfl⟩
  · simp only [z, decide_false, if_false]; exact ⟨_, rfl⟩
/-- the type of data -/
def tyN : D → String
  | .none => "NoneType"
  | .bool _ => "bool"
  | .int _ => "int"
  | .str _ => "str"
  | .tup _ => "tuple"
  | .lst _ | .scr _ => "list"
  | .dct _ | .kdc _ => "dict"
  | .loc _ => "NoneType"
theorem Is.tyX {K : PySem.W.Frag} {w : World} {O : Ow} {H : Hp} {v : V} {d : D} (h : Is K w O H v d) (nl : ∀ i, d ≠ .loc i) : TyX K H v (.type (tyN d)) := by
  cases h with
  | loc h => exact absurd rfl (nl _)
  | non => exact .base .non
  | bl b => exact .base (.bl b)
  | int i => exact .base (.int i)
  | str x => exact .base (.str _)
  | tup h o l => exact .base (.tup h)
  | tupK h l =>
    rcases h with h | ⟨o, its, n, h1, h2, _⟩
    · rcases h with h | ⟨_, h⟩ <;> cases h
    · exact .kTuple h1 h2
  | lst h o l => exact .base (.lst h)
  | scr h o =>
    rcases h with h | ⟨ob, h⟩
    · exact .base (.lst h)
    · exact .base (.frz h)
  | scrK h =>
    rcases h with h | ⟨o, its, n, h1, h2, _⟩
    · rcases h with h | ⟨_, h⟩ <;> cases h
    · exact .kList h1 h2
  | dct h o l =>
    rcases h with h | ⟨ob, h⟩
    · exact .base (.dK h)
    · exact .fDict h
  | dctK h =>
    obtain ⟨es, n, kd, _⟩ := h
    exact .kDict kd.at_ rfl
def isNS (a T : String) : Bool := a == T || (T == "int" && a == "bool")
def isN (T : String) (d : D) : Bool := isNS (tyN d) T
theorem kit_all : ∀ a ∈ ["NoneType", "bool", "int", "str", "tuple", "list", "dict"], ∀ T ∈ ["int", "bool", "str", "tuple", "list"], kitB a T = some (isNS a T) := by decide +kernel
theorem kit_isN (T : String) (hT : T ∈ ["int", "bool", "str", "tuple", "list"]) (d : D) : kitB (tyN d) T = some (isN T d) :=
  kit_all (tyN d) (by cases d <;> simp [tyN]) T hT
/-- isinstance(x, T) -/
def rIs (g : Gw) (T : String) (f : D → Option D) : List V → Hp → VK → Prop := fun xs H Q => ∃ x, xs = [x, .ty T] ∧ rP1 g f x H Q
theorem cr_isi {o : O1} {T : String} (hT : T ∈ ["int", "bool", "str", "tuple", "list"]) (ho : ∀ d, op1 o d = isK d (isN T d)) : CallR X (.builtin "isinstance") (rIs (gOf X G c) T (op1 o)) := by
  intro pins s σ H xs us Q I r h
  obtain ⟨x, rfl, O, d1, d, fr, i1, hd, q⟩ := h
  rw [ho] at hd
  have nl : ∀ i, d1 ≠ .loc i := fun i z => by subst z; cases hd
  have hd : some (D.bool (isN T d1)) = some d := by cases d1 <;> first | exact hd | cases hd
  cases hd
  exact call_isi pins s σ H _ us Q I r ⟨x, .ty T, .type (tyN d1), .type T, isN T d1, rfl, .ty T, i1.tyX nl, kit_ty (kit_isN T hT d1), q _ _ (Same.refl H) (.bl _)⟩
/-- isinstance(x, (tuple, list)) -/
def rIs2 (g : Gw) : List V → Hp → VK → Prop := fun xs H Q => ∃ x tp, xs = [x, .ref tp] ∧ H tp = some (.tup [.ty "tuple", .ty "list"]) ∧ rP1 g (op1 .isTL) x H Q
theorem kit_any (K : PySem.W.Frag) (a : String) (ha : a ∈ ["NoneType", "bool", "int", "str", "tuple", "list", "dict"]) : PySem.W.kitAny K (.type a) [.type "tuple", .type "list"] = some (isNS a "tuple" || isNS a "list") := by
  have h1 : PySem.W.kitOne K (.type a) (.type "tuple") = some (isNS a "tuple") := kit_ty (kit_all a ha "tuple" (by simp))
  have h2 : PySem.W.kitOne K (.type a) (.type "list") = some (isNS a "list") := kit_ty (kit_all a ha "list" (by simp))
  unfold PySem.W.kitAny
  rw [h1]
  cases isNS a "tuple" with
  | true => rfl
  | false =>
    simp only [Bool.false_or]
    unfold PySem.W.kitAny
    rw [h2]
    cases isNS a "list" <;> rfl
theorem cr_isi2 : CallR X (.builtin "isinstance") (rIs2 (gOf X G c)) := by
  intro pins s σ H xs us Q I r h
  obtain ⟨x, tp, rfl, ht, O, d1, d, fr, i1, hd, q⟩ := h
  have nl : ∀ i, d1 ≠ .loc i := fun i z => by subst z; cases hd
  have e : op1 .isTL d1 = some (.bool (isNS (tyN d1) "tuple" || isNS (tyN d1) "list")) := by
    cases d1 <;> first | rfl | exact absurd rfl (nl _)
  rw [e] at hd
  cases hd
  exact call_isiT pins s σ H _ us Q I r ⟨x, tp, _, .type (tyN d1), [.type "tuple", .type "list"], _, rfl, ht, .cons (.ty _) (.cons (.ty _) .nil), i1.tyX nl, kit_any X.K (tyN d1) (by cases d1 <;> simp [tyN]), q _ _ (Same.refl H) (.bl _)⟩
theorem is_int : ∀ d, op1 .isInt d = (isK d (isN "int" d)) := fun d => by cases d <;> rfl
theorem is_bool : ∀ d, op1 .isBool d = (isK d (isN "bool" d)) := fun d => by cases d <;> rfl
theorem is_str : ∀ d, op1 .isStr d = (isK d (isN "str" d)) := fun d => by cases d <;> rfl
theorem is_tup : ∀ d, op1 .isTup d = (isK d (isN "tuple" d)) := fun d => by cases d <;> rfl
theorem is_lst : ∀ d, op1 .isLst d = (isK d (isN "list" d)) := fun d => by cases d <;> rfl
end
end Ft
set_option Elab.async false
set_option linter.all false
set_option maxRecDepth 100000
set_option maxHeartbeats 2000000
/-! enumerate of a tuple -/
namespace Ft
open PySem PySem.Spec PyProof.Rows L2
open AutoSeq1 (wpAny_loadPart')
theorem meets_enumT (l : Addr) (items : Array Value) (n : Nat) (dct : Option Addr) (sl : Array (Option Value)) :
    Meets (Builtin.«enumerate.__new__» ⟨[.type "enumerate", .ref l], []⟩) (fun _ R s => s.heap.get? l = some { cls := .type "tuple", dict := dct, data := .seq items n, slots := sl } ∧
      R (.ok (.ret (.ref (s.heap.push { cls := .type "tuple_iterator", data := .fields #[.ref l, .int 0 0] }).objs.size)))
        { s with heap := (s.heap.push { cls := .type "tuple_iterator", data := .fields #[.ref l, .int 0 0] }).push { cls := .type "enumerate", data := .fields #[.none, .bool false, .ref s.heap.objs.size, rawInt 0, .none, .none] } }) :=
  .of_wp fun prog w A R s h => by
    obtain ⟨hp, g, d, tk, os⟩ := s; obtain ⟨hl, h⟩ := h
    have sub := sub_enumerate
    have hL : Heap.IsTuple (Shared.heap ⟨hp, g, d, tk, os⟩) l items := ⟨_, hl, rfl, n, rfl⟩
    wp_walk using wpAny_loadPart' hl
    refine wpAny_stack_any fun st => wpAny_pure ?_; split
    · rename_i c _ _ _ _ _
      cases (c == Value.type "enumerate")
      · wp_walk using wpAny_loadPart' hl, wpAny_pyIter_tuple hL
        exact ⟨_, rfl, h⟩
      · wp_walk using wpAny_loadPart' hl, wpAny_pyIter_tuple hL
        exact ⟨_, rfl, h⟩
    · wp_walk using wpAny_loadPart' hl, wpAny_pyIter_tuple hL
      exact ⟨_, rfl, h⟩
abbrev tupIt (l : Addr) : Obj := { cls := .type "tuple_iterator", data := .fields #[.ref l, .int 0 0] }
abbrev enumO (it : Addr) : Obj := { cls := .type "enumerate", data := .fields #[.none, .bool false, .ref it, rawInt 0, .none, .none] }
theorem call_enumT {prog : Program} {w : World} {A : Around} {E : Value → Shared → Prop} {s : Shared} {l : Addr} {items : Array Value} {Q : Value → Shared → Prop} (hL : s.heap.IsTuple l items)
    (h : ∀ h', IsEnum h' (s.heap.objs.size + 1) s.heap.objs.size 0 .none → h'.IsTupleIter s.heap.objs.size l 0 → (∀ b o, s.heap.get? b = some o → h'.get? b = some o) → Q (.ref (s.heap.objs.size + 1)) { s with heap := h' }) :
    wpAny (model prog w) A (call (.type "enumerate") [.ref l]) Q E s := by
  obtain ⟨⟨c, dct, dt, sl⟩, hl, hc, n, hd⟩ := hL
  obtain rfl : c = .type "tuple" := hc
  obtain rfl : dt = .seq items n := hd
  refine callType_new F.called_enumerate (by decide) (F.typeCall_enumerate_1 _) (F.newCall_enumerate_1 _) (fun obj => F.args_object_init_2 obj _) F.entry_enumerate_new (meets_enumT l items n dct sl) ⟨hl, ?_⟩
  have hz : (s.heap.push (tupIt l)).objs.size = s.heap.objs.size + 1 := Heap.size_push ..
  show _ ∧ _; rw [hz]
  have he : IsEnum ((s.heap.push (tupIt l)).push (enumO s.heap.objs.size)) (s.heap.objs.size + 1) s.heap.objs.size 0 .none := by
    have q := Heap.get?_push_size (s.heap.push (tupIt l)) (o := enumO s.heap.objs.size) rfl
    rw [hz] at q; exact q
  exact ⟨⟨_, he, rfl⟩, h _ he ⟨_, Heap.get?_push_of_some _ (Heap.get?_push_size _ rfl), rfl, rfl⟩ fun b o x => Heap.get?_push_of_some _ (Heap.get?_push_of_some _ x)⟩
theorem enumT_end {prog : Program} {w : World} {A : Around} {E : Value → Shared → Prop} {s : Shared} {e it t : Addr} {i : Nat} {j : Int} {items : Array Value} {old : Value} {Q : Option Value → Shared → Prop} (hh : A.handled = none) (he : IsEnum s.heap e it j old) (hit : s.heap.IsTupleIter it t i) (ht : s.heap.IsTuple t items) (hx : items[i]? = none)
    (hQ : ∀ h', Heap.ExtBut it s.heap h' → Q none { s with heap := h' }) : wpAny (model prog w) A (pyNext (.ref e)) Q E s := by
  have ty : s.TypeIs (.ref e) "enumerate" := ⟨_, he, rfl⟩
  unfold pyNext
  refine wpAny_bind (wpAny_attempt (wpAny_callSpecial?_slot (name := Str.ofString "__next__") ty F.slot_enumerate_next (wpAny_call_entry F.slot_enumerate_next ty F.entry_enumerate_next ?_ (F.args_enumerate_next_1 _))))
  show wpAny _ _ (field (.ref e) 2 >>= _) _ _ _; refine wpAny_bind (wpAny_field he rfl (x := .ref it) rfl ?_)
  refine wpAny_bind (wpAny_nextOf_tuple_end (show A.in1.handled = none from hh) hit ht hx fun h' x e1 e2 => ?_)
  obtain ⟨o, ho, hc⟩ := e2
  exact wpAny_bind (wpAny_isInstance (T := "StopIteration") (b := true) ⟨o, ho, hc⟩ isSubtype_stop (wpAny_pure (hQ _ e1)))
/-- the tuple at a, each item in a new pair -/
def IteT (K : PySem.W.Frag) (a : Addr) : L2.It :=
  ⟨fun i H => ∃ (xs : List V) (x : V), SqT K H a xs ∧ xs[i]? = some x, fun i H v H' => ∃ T x, v = .ref T ∧ H T = none ∧ H' = upd H T (.tup [.int (i : Nat), x]) ∧ ∀ xs, SqT K H a xs → xs[i]? = some x, fun i H => ∃ xs : List V, SqT K H a xs ∧ xs.length ≤ i⟩
theorem turn_enumT {P : Program} {w : World} {K : PySem.W.Frag} {elts : List Expr} {kk : Nat} {tpos : Pos} (a e it : Addr) (hae : a ≠ e) (hai : a ≠ it) :
    Turn P w K (.Tuple elts kk tpos) (IteT K a) [e, it] e (fun i h => (∃ old, IsEnum h e it ((i : Nat) : Int) old) ∧ h.IsTupleIter it a i ∧ e ≠ it) where
  mem := by simp
  obj := fun i h st b hb => by
    obtain ⟨⟨old, he⟩, ⟨o, ho, hc, hd⟩, _⟩ := st
    have e' : b = e ∨ b = it := by simpa using hb
    rcases e' with z | z
    · rw [z]; exact ⟨_, he, fun v q => nomatch q⟩
    · rw [z]; exact ⟨o, ho, fun v q => by rw [hd] at q; cases q⟩
  keep := fun i h h' st k => let ⟨⟨old, he⟩, hi, hne⟩ := st; ⟨⟨old, k e (by simp) _ he⟩, hi.at fun o q => k it (by simp) o q, hne⟩
  item := by
    intro X hP hw hK hc i pins s σ H E I hf st hg
    subst hP hw hK
    obtain ⟨⟨old, he⟩, hit, hne⟩ := st
    obtain ⟨xs, x, hq, hx⟩ := hg
    obtain ⟨its, rv, p, hz⟩ := I.tuple hq
    obtain ⟨u, hu, ru⟩ := rv.get hx
    have hel : e < s.heap.objs.size := Heap.lt_size he
    have hil : it < s.heap.objs.size := by obtain ⟨_, q, _⟩ := hit; exact Heap.lt_size q
    have hlt : i < its.toArray.size := by
      have := (List.getElem?_eq_some_iff.mp hu).1
      simpa using this
    refine wpAny_pyNext_enum_itemD (Draws.tuple (A := X.A.in1) (show X.A.in1.handled = none from I.ok.hd hc) it a hai its.toArray) he ⟨hit, p⟩ hlt hne (by simp only [List.mem_cons, List.not_mem_nil, or_false, not_or]; exact ⟨hne, Ne.symm hae⟩) fun u' h' tk hP ho hit' hT hsz hk => ?_
    have eu : u' = u := by
      have : some u = some u' := by rw [← hu, ← hP]; simp
      exact (Option.some.inj this).symm
    subst eu
    refine ⟨_, rfl, wpAny_letOwnedTupleGo_enum (s := { s with heap := h', toks := tk + 1 }) ho fun h'' he' sb => ?_⟩
    have hT2 : h''.get? s.heap.objs.size = some { cls := .type "tuple", data := .seq #[.int i tk, u'] } := (sb.2 _ (Nat.ne_of_gt hel)).trans hT
    have new : ObjOk X.prog X.w (upd H s.heap.objs.size (.tup [.int (i : Nat), x])) h'' s.heap.objs.size (.tup [.int (i : Nat), x]) :=
      ⟨by show 2 ≤ sizeLine; decide, [.int i tk, u'], .cons ⟨_, rfl⟩ (.cons ru .nil), ⟨_, hT2, rfl, _, rfl⟩⟩
    have I1 : Inv X pins σ (upd H s.heap.objs.size (.tup [.int (i : Nat), x])) { s with heap := h'', toks := tk + 1 } :=
      I.turnedNew (ch := [e, it]) (fun b ob hb q => (sb.2 b (fun z => hb (by simp [z]))).trans (hk b ob (fun z => hb (by simp [z])) (fun z => hb (by simp [z])) q)) hf (Nat.le_refl _) new
    refine ⟨.ref s.heap.objs.size, _, I1, rfl, ⟨_, x, rfl, I.hok.fresh (Nat.le_refl _), rfl, fun ys hy => by rw [I.tuple_inj hy hq]; exact hx⟩, ⟨⟨u', ?_⟩, hit'.1.at fun o q => (sb.2 it (Ne.symm hne)).trans q, hne⟩, fun b hb => ?_⟩
    · have e1 : ((i + 1 : Nat) : Int) = (i : Int) + 1 := by omega
      rw [e1]; exact he'
    · have lb : b < s.heap.objs.size := by
        have e' : b = e ∨ b = it := by simpa using hb
        rcases e' with z | z
        · rw [z]; exact hel
        · rw [z]; exact hil
      rw [upd_ne (Nat.ne_of_lt lb)]
      exact (hf b hb).1
  done := by
    intro X hP hw hK hc i pins s σ H E I hf st hg
    subst hP hw hK
    obtain ⟨⟨old, he⟩, hit, hne⟩ := st
    obtain ⟨xs, hq, hx⟩ := hg
    obtain ⟨its, rv, p, hz⟩ := I.tuple hq
    obtain ⟨f0, f1, f2, f3, f4, f5⟩ := hf it (by simp)
    have hl := rv.length
    exact enumT_end (I.ok.hd hc) he hit p (by simp; omega) fun h' eb => ⟨rfl, I.turned (t' := s.toks) (fun b o hb q => eb b o hb q) f0 f1 f3 f4 f5⟩
  self := fun A i s Q E st h => let ⟨⟨_, he⟩, _⟩ := st; wpAny_pyIter_enum he h
/-- enumerate of a list or of a tuple -/
def iEnumB (K : PySem.W.Frag) (ta : TA) : TI := fun σ H R => ta σ H fun vs H1 => ∃ a xs, vs = [.ref a] ∧ ((SqL K H1 a xs ∧ R (Ite K a) H1) ∨ (SqT K H1 a xs ∧ R (IteT K a) H1))
theorem pi_enumB {X : Cx} {e : Expr} {ta : TA} {p pos tpos : Pos} {elts : List Expr} {kk : Nat} (hg : Gl X "enumerate") (hm : X.mg "enumerate" = none) (ha : PA X [e] ta) (hs : starEach [e] X.env = [(false, eval e X.env)] := by rfl) :
    PI X (.Tuple elts kk tpos) (.Call (.Name "enumerate" p) [e] [] pos) (iEnumB X.K ta) := by
  refine ⟨fun pins s σ H R I h => ?_⟩
  refine Call_ (ld_blt I hg hm boot_enumerate (PyProof.Rows.callWith_type1 (thn (ha.run pos pins s σ H _ I h) fun us s1 ⟨vs, H1, I1, r1, q1⟩ => ?_) hs rfl))
  obtain ⟨a, xs, ex, q⟩ := q1
  subst ex
  cases r1 with
  | cons r rr =>
    cases rr
    cases r
    have fp : ∀ b, b ∈ [s1.heap.objs.size + 1, s1.heap.objs.size] → FpOk X pins H1 b := fun b hb => by
      have e' : b = s1.heap.objs.size + 1 ∨ b = s1.heap.objs.size := by simpa using hb
      have le : s1.heap.objs.size ≤ b := by
        rcases e' with z | z
        · rw [z]; exact Nat.le_add_right _ _
        · rw [z]; exact Nat.le_refl _
      exact I1.fpOk le (I1.hok.fresh le)
    rcases q with ⟨hq, q⟩ | ⟨hq, q⟩
    · obtain ⟨its, rv, p', hz⟩ := I1.list hq
      refine call_enumerate_list p'.isList fun h' he hit hsz hk => wpAny_pyIter_enum he ?_
      exact ⟨s1.heap.objs.size + 1, [s1.heap.objs.size + 1, s1.heap.objs.size], _, _, H1, rfl, I1.kept (t' := s1.toks) hk, turn_enum a (s1.heap.objs.size + 1) s1.heap.objs.size, ⟨⟨.none, he⟩, hit, Nat.succ_ne_self _⟩, fp, q⟩
    · obtain ⟨its, rv, p', hz⟩ := I1.tuple hq
      have lt : a < s1.heap.objs.size := by obtain ⟨o, ho, _⟩ := id p'; exact Heap.lt_size ho
      refine call_enumT (show s1.heap.IsTuple a its.toArray from p') fun h' he hit hk => wpAny_pyIter_enum he ?_
      exact ⟨s1.heap.objs.size + 1, [s1.heap.objs.size + 1, s1.heap.objs.size], _, _, H1, rfl, I1.kept (t' := s1.toks) hk, turn_enumT a (s1.heap.objs.size + 1) s1.heap.objs.size (Nat.ne_of_lt (Nat.lt_succ_of_lt lt)) (Nat.ne_of_lt lt), ⟨⟨.none, he⟩, hit, Nat.succ_ne_self _⟩, fp, q⟩
end Ft
set_option Elab.async false
set_option linter.all false
set_option maxRecDepth 100000
set_option maxHeartbeats 2000000
/-! zip of three lists -/
namespace Ft
open PySem PySem.Spec PyProof.Rows L2
/-- the lists at a, b, c as they stand at each turn, the items in new triples -/
def Itz3 (K : PySem.W.Frag) (a b c : Addr) : L2.It :=
  ⟨fun i H => ∃ (xs ys zs : List V) (x y z : V), SqL K H a xs ∧ SqL K H b ys ∧ SqL K H c zs ∧ xs[i]? = some x ∧ ys[i]? = some y ∧ zs[i]? = some z,
    fun i H v H' => ∃ T x y z, v = .ref T ∧ H T = none ∧ H' = upd H T (.tup [x, y, z]) ∧ (∀ xs, SqL K H a xs → xs[i]? = some x) ∧ (∀ ys, SqL K H b ys → ys[i]? = some y) ∧ ∀ zs, SqL K H c zs → zs[i]? = some z,
    fun i H => ∃ xs ys zs : List V, SqL K H a xs ∧ SqL K H b ys ∧ SqL K H c zs ∧ (xs.length ≤ i ∨ ys.length ≤ i ∨ zs.length ≤ i)⟩
/-- a list's iterator at a place, or past the end -/
theorem draws_any {prog : Program} {w : World} {A : Around} (hh : A.handled = none) (it l : Addr) (hne : l ≠ it) (items : Array Value) (i : Nat) :
    ∃ (n : Nat) (P : Nat → Value → Prop) (St : Nat → Heap → Prop), Draws prog w A it [it, l] n P St ∧ i ≤ n ∧ (items.size ≤ i → i = n) ∧ ∀ h : Heap, h.IsListIter it l i → h.IsList l items → St i h := by
  by_cases q : i < items.size
  · exact ⟨_, _, _, Draws.list hh it l hne items, Nat.le_of_lt q, fun z => by omega, fun h a b => ⟨a, b⟩⟩
  · refine ⟨i, fun _ _ => True, fun j h => j = i ∧ h.IsListIter it l i ∧ h.IsList l items, ?_, Nat.le_refl _, fun _ => rfl, fun h a b => ⟨rfl, a, b⟩⟩
    exact {
      live := fun _ _ st => let ⟨o, ho, _⟩ := st.2.1; ⟨o, ho⟩
      frame := fun _ _ _ st hk => ⟨st.1, st.2.1.at fun o e => hk it (by simp) o e, st.2.2.at fun o e => hk l (by simp) o e⟩
      item := fun j s Q E hj st hQ => by have := st.1; omega
      done := fun s Q E st hE => wpAny_nextOf_list_end hh st.2.1 st.2.2 (by simp; omega) hE }
theorem turn_zip3 {P : Program} {w : World} {K : PySem.W.Frag} {elts : List Expr} {kk : Nat} {tpos : Pos} {a b c z TI TO i1 i2 i3 : Addr} (S : ZipSep3 z TI TO i1 i2 i3 [i1, a] [i2, b] [i3, c]) (n1 : a ≠ i1) (n2 : b ≠ i2) (n3 : c ≠ i3) :
    Turn P w K (.Tuple elts kk tpos) (Itz3 K a b c) [z, TI, TO, i1, i2, i3] z (fun i h => IsZip h z TI TO .none ∧ IsTupOf3 h TI (.ref i1) (.ref i2) (.ref i3) ∧ (∃ x y u, IsTupOf3 h TO x y u) ∧ h.IsListIter i1 a i ∧ h.IsListIter i2 b i ∧ h.IsListIter i3 c i) where
  mem := by simp
  obj := fun i h st c hc => by
    obtain ⟨hz, hTI, ⟨x, y, u, hTO⟩, ⟨o1, e1, _, d1⟩, ⟨o2, e2, _, d2⟩, ⟨o3, e3, _, d3⟩⟩ := st
    have e' : c = z ∨ c = TI ∨ c = TO ∨ c = i1 ∨ c = i2 ∨ c = i3 := by simpa using hc
    rcases e' with q | q | q | q | q | q
    · rw [q]; exact ⟨_, hz, fun v q => nomatch q⟩
    · rw [q]; exact ⟨_, hTI, fun v q => nomatch q⟩
    · rw [q]; exact ⟨_, hTO, fun v q => nomatch q⟩
    · rw [q]; exact ⟨o1, e1, fun v q => by rw [d1] at q; cases q⟩
    · rw [q]; exact ⟨o2, e2, fun v q => by rw [d2] at q; cases q⟩
    · rw [q]; exact ⟨o3, e3, fun v q => by rw [d3] at q; cases q⟩
  keep := fun i h h' st k => by
    obtain ⟨hz, hTI, ⟨x, y, u, hTO⟩, h1, h2, h3⟩ := st
    exact ⟨k z (by simp) _ hz, k TI (by simp) _ hTI, ⟨x, y, u, k TO (by simp) _ hTO⟩, h1.at fun o q => k i1 (by simp) o q, h2.at fun o q => k i2 (by simp) o q, h3.at fun o q => k i3 (by simp) o q⟩
  item := by
    intro X hP hw hK hc i pins s σ H E I hf st hg
    subst hP hw hK
    obtain ⟨hz, hTI, ⟨x0, y0, u0, hTO⟩, h1, h2, h3⟩ := st
    obtain ⟨xs, ys, zs, x, y, v, hqx, hqy, hqz, hx, hy, hv⟩ := hg
    obtain ⟨its, rv, p, _⟩ := I.list hqx
    obtain ⟨its2, rv2, p2, _⟩ := I.list hqy
    obtain ⟨its3, rv3, p3, _⟩ := I.list hqz
    obtain ⟨u1, hu1, ru1⟩ := rv.get hx
    obtain ⟨u2, hu2, ru2⟩ := rv2.get hy
    obtain ⟨u3, hu3, ru3⟩ := rv3.get hv
    have hzl : z < s.heap.objs.size := Heap.lt_size hz
    have hd : X.A.in1.handled = none := I.ok.hd hc
    have lt : ∀ {its : List Value} {u : Value}, its[i]? = some u → i < its.toArray.size := fun e => by
      have := (List.getElem?_eq_some_iff.mp e).1
      simpa using this
    refine wpAny_pyNext_zipD3_item S (Draws.list hd i1 a n1 its.toArray) (Draws.list hd i2 b n2 its2.toArray) (Draws.list hd i3 c n3 its3.toArray) hz hTI hTO ⟨h1, p.isList⟩ ⟨h2, p2.isList⟩ ⟨h3, p3.isList⟩ (lt hu1) (lt hu2) (lt hu3) fun y1 y2 y3 h' tk e1 e2 e3 z' TO' s1 s2 s3 hT hsz hk => ?_
    have q1 : y1 = u1 := by
      have e1 : its.toArray[i]? = some y1 := e1
      simp at e1
      rw [hu1] at e1
      exact (Option.some.inj e1).symm
    have q2 : y2 = u2 := by
      have e2 : its2.toArray[i]? = some y2 := e2
      simp at e2
      rw [hu2] at e2
      exact (Option.some.inj e2).symm
    have q3 : y3 = u3 := by
      have e3 : its3.toArray[i]? = some y3 := e3
      simp at e3
      rw [hu3] at e3
      exact (Option.some.inj e3).symm
    subst q1 q2 q3
    refine ⟨_, rfl, wpAny_letOwnedTupleGo_zip (s := { s with heap := h', toks := tk }) z' fun h'' z'' sb => ?_⟩
    have hT2 : h''.get? s.heap.objs.size = some { cls := .type "tuple", data := .seq #[y1, y2, y3] } := (sb.2 _ (Nat.ne_of_gt hzl)).trans hT
    have new : ObjOk X.prog X.w (upd H s.heap.objs.size (.tup [x, y, v])) h'' s.heap.objs.size (.tup [x, y, v]) :=
      ⟨by show 3 ≤ sizeLine; decide, [y1, y2, y3], .cons ru1 (.cons ru2 (.cons ru3 .nil)), ⟨_, hT2, rfl, _, rfl⟩⟩
    have I1 : Inv X pins σ (upd H s.heap.objs.size (.tup [x, y, v])) { s with heap := h'', toks := tk } :=
      I.turnedNew (t' := tk) (ch := [z, TI, TO, i1, i2, i3]) (fun c o hb q => (sb.2 c (fun q' => hb (by simp [q']))).trans (hk c o (fun q' => hb (by simp [q'])) (fun q' => hb (by simp [q'])) (fun q' => hb (by simp [q'])) (fun q' => hb (by simp [q'])) (fun q' => hb (by simp [q'])) q)) hf (Nat.le_refl _) new
    have z1 : i1 ≠ z := fun e => S.zf1 (by simp [e])
    have z2 : i2 ≠ z := fun e => S.zf2 (by simp [e])
    have z3 : i3 ≠ z := fun e => S.zf3 (by simp [e])
    refine ⟨.ref s.heap.objs.size, _, I1, rfl, ⟨_, x, y, v, rfl, I.hok.fresh (Nat.le_refl _), rfl, fun l hl => by rw [I.list_inj hl hqx]; exact hx, fun l hl => by rw [I.list_inj hl hqy]; exact hy, fun l hl => by rw [I.list_inj hl hqz]; exact hv⟩, ⟨z'', ?_, ⟨y1, y2, y3, ?_⟩, ?_, ?_, ?_⟩, fun c hcm => ?_⟩
    · exact (sb.2 _ S.TIz).trans (hk _ _ S.TIz S.TITO S.TIi1 S.TIi2 S.TIi3 hTI)
    · exact (sb.2 _ S.TOz).trans TO'
    · exact s1.1.at fun o q => (sb.2 _ z1).trans q
    · exact s2.1.at fun o q => (sb.2 _ z2).trans q
    · exact s3.1.at fun o q => (sb.2 _ z3).trans q
    · have hlt : c < s.heap.objs.size := by
        have e' : c = z ∨ c = TI ∨ c = TO ∨ c = i1 ∨ c = i2 ∨ c = i3 := by simpa using hcm
        rcases e' with q | q | q | q | q | q
        · rw [q]; exact hzl
        · rw [q]; exact Heap.lt_size hTI
        · rw [q]; exact Heap.lt_size hTO
        · rw [q]; obtain ⟨_, e1, _⟩ := h1; exact Heap.lt_size e1
        · rw [q]; obtain ⟨_, e2, _⟩ := h2; exact Heap.lt_size e2
        · rw [q]; obtain ⟨_, e3, _⟩ := h3; exact Heap.lt_size e3
      rw [upd_ne (Nat.ne_of_lt hlt)]
      exact (hf c hcm).1
  done := by
    intro X hP hw hK hc i pins s σ H E I hf st hg
    subst hP hw hK
    obtain ⟨hz, hTI, ⟨x0, y0, u0, hTO⟩, h1, h2, h3⟩ := st
    obtain ⟨xs, ys, zs, hqx, hqy, hqz, hend⟩ := hg
    obtain ⟨its, rv, p, _⟩ := I.list hqx
    obtain ⟨its2, rv2, p2, _⟩ := I.list hqy
    obtain ⟨its3, rv3, p3, _⟩ := I.list hqz
    have l1 := rv.length
    have l2 := rv2.length
    have l3 := rv3.length
    have hd : X.A.in1.handled = none := I.ok.hd hc
    obtain ⟨m1, P1, St1, D1, a1, b1, c1⟩ := draws_any hd i1 a n1 its.toArray i
    obtain ⟨m2, P2, St2, D2, a2, b2, c2⟩ := draws_any hd i2 b n2 its2.toArray i
    obtain ⟨m3, P3, St3, D3, a3, b3, c3⟩ := draws_any hd i3 c n3 its3.toArray i
    refine wpAny_pyNext_zipD3_end S D1 D2 D3 hz hTI hTO (c1 _ h1 p.isList) (c2 _ h2 p2.isList) (c3 _ h3 p3.isList) a1 a2 a3 ?_ fun h' tk hk => ⟨rfl, I.turnedL (t' := tk) (ch := [z, TI, TO, i1, i2, i3]) (fun c o hb q =>
      hk c o (fun q' => hb (by simp [q'])) (fun q' => hb (by simp [q'])) (fun q' => hb (by simp [q'])) (fun q' => hb (by simp [q'])) (fun q' => hb (by simp [q'])) q) hf⟩
    rcases hend with q | q | q
    · exact .inl (b1 (by simp; omega))
    · exact .inr (.inl (b2 (by simp; omega)))
    · exact .inr (.inr (b3 (by simp; omega)))
  self := fun A i s Q E st h => wpAny_pyIter_zip st.1 h
def iZip3 (K : PySem.W.Frag) (ta : TA) : TI := fun σ H R => ta σ H fun vs H1 => ∃ a b c xs ys zs, vs = [.ref a, .ref b, .ref c] ∧ SqL K H1 a xs ∧ SqL K H1 b ys ∧ SqL K H1 c zs ∧ R (Itz3 K a b c) H1
theorem pi_zip3 {X : Cx} {e e2 e3 : Expr} {ta : TA} {p pos tpos : Pos} {elts : List Expr} {kk : Nat} (hg : Gl X "zip") (hm : X.mg "zip" = none) (ha : PA X [e, e2, e3] ta)
    (hs : starEach [e, e2, e3] X.env = (false, eval e X.env) :: starEach [e2, e3] X.env) (hpl : (backTo pos (starEach [e2, e3] X.env)).any (·.1) = false) :
    PI X (.Tuple elts kk tpos) (.Call (.Name "zip" p) [e, e2, e3] [] pos) (iZip3 X.K ta) := by
  refine ⟨fun pins s σ H R I h => ?_⟩
  refine Call_ (ld_blt I hg hm PyProof.Rows.boot_zip (PyProof.Rows.callWith_type1 (thn (ha.run pos pins s σ H _ I h) fun us s1 ⟨vs, H1, I1, r1, q1⟩ => ?_) hs hpl))
  obtain ⟨a, b, c, xs, ys, zs, ex, hqx, hqy, hqz, q⟩ := q1
  subst ex
  cases r1 with
  | cons r rr =>
    cases rr with
    | cons r' rr =>
      cases rr with
      | cons r'' rr =>
        cases rr
        cases r
        cases r'
        cases r''
        obtain ⟨its, rv, p1, _⟩ := I1.list hqx
        obtain ⟨its2, rv2, p2, _⟩ := I1.list hqy
        obtain ⟨its3, rv3, p3, _⟩ := I1.list hqz
        have la : a < s1.heap.objs.size := p1.lt
        have lb : b < s1.heap.objs.size := p2.lt
        have lc : c < s1.heap.objs.size := p3.lt
        refine zip_begins3 (begins_list a its.toArray) (begins_list b its2.toArray) (begins_list c its3.toArray) p1.isList p2.isList p3.isList fun h' hz hTI hTO g1 g2 g3 hsz hk => wpAny_pyIter_zip hz ?_
        have I2 : Inv X pins σ H1 { s1 with heap := h' } := I1.kept (t' := s1.toks) hk
        have S : ZipSep3 (s1.heap.objs.size + 5) (s1.heap.objs.size + 3) (s1.heap.objs.size + 4) s1.heap.objs.size (s1.heap.objs.size + 1) (s1.heap.objs.size + 2) [s1.heap.objs.size, a] [s1.heap.objs.size + 1, b] [s1.heap.objs.size + 2, c] :=
          zip_sep3 (fun q hq => by simp at hq; subst hq; exact la) (fun q hq => by simp at hq; subst hq; exact lb) (fun q hq => by simp at hq; subst hq; exact lc)
        have n1 : a ≠ s1.heap.objs.size := Nat.ne_of_lt la
        have n2 : b ≠ s1.heap.objs.size + 1 := Nat.ne_of_lt (Nat.lt_succ_of_lt lb)
        have n3 : c ≠ s1.heap.objs.size + 2 := Nat.ne_of_lt (Nat.lt_succ_of_lt (Nat.lt_succ_of_lt lc))
        refine ⟨s1.heap.objs.size + 5, [s1.heap.objs.size + 5, s1.heap.objs.size + 3, s1.heap.objs.size + 4, s1.heap.objs.size, s1.heap.objs.size + 1, s1.heap.objs.size + 2], _, _, H1, rfl, I2, turn_zip3 S n1 n2 n3, ⟨hz, hTI, ⟨_, _, _, hTO⟩, ⟨_, g1, rfl, rfl⟩, ⟨_, g2, rfl, rfl⟩, ⟨_, g3, rfl, rfl⟩⟩, fun d hcm => ?_, q⟩
        have e' : d = s1.heap.objs.size + 5 ∨ d = s1.heap.objs.size + 3 ∨ d = s1.heap.objs.size + 4 ∨ d = s1.heap.objs.size ∨ d = s1.heap.objs.size + 1 ∨ d = s1.heap.objs.size + 2 := by simpa using hcm
        have hle : s1.heap.objs.size ≤ d := by
          rcases e' with z | z | z | z | z | z
          · rw [z]; exact Nat.le_add_right _ _
          · rw [z]; exact Nat.le_add_right _ _
          · rw [z]; exact Nat.le_add_right _ _
          · rw [z]; exact Nat.le_refl _
          · rw [z]; exact Nat.le_add_right _ _
          · rw [z]; exact Nat.le_add_right _ _
        exact I1.fpOk hle (I1.hok.fresh hle)
end Ft
set_option Elab.async false
set_option linter.all false
set_option maxRecDepth 100000
set_option maxHeartbeats 2000000
namespace Ft
open PySem PyProof.Rows L2
section
variable {g : Gw} {O : Ow} {σ : L2.St} {H : Hp} {s : Ft.St}
theorem Ok.get (k : Ok g O σ H s) {i : Nat} {d : D} (h : s.get i = some d) : ∃ v, σ[i]? = some (some v) ∧ Is g.K g.w O H v d := by
  unfold Ft.St.get at h
  cases e : s.env[i]? with
  | none => rw [e] at h; cases h
  | some x =>
    rw [e] at h
    cases x with
    | d y =>
      cases h
      exact k.slot i _ e
    | _ => cases h
theorem Ok.setD (k : Ok g O σ H s) {i : Nat} {v : V} {d : D} (hi : i < s.env.length) (h : Is g.K g.w O H v d) : Ok g O (σ.set i (some v)) H (s.set i (.d d)) := by
  refine ⟨by simp [Ft.St.set, k.len], fun j x hj => ?_, k.tags, k.cells⟩
  have hs : i < σ.length := by rw [← k.len]; exact hi
  unfold Ft.St.set at hj
  by_cases e : i = j
  · subst e
    simp only [List.getElem?_set_self hi] at hj
    cases hj
    exact ⟨v, by rw [List.getElem?_set_self hs], h⟩
  · simp only [List.getElem?_set_ne e] at hj
    have q := k.slot j x hj
    have es : (σ.set i (some v))[j]? = σ[j]? := List.getElem?_set_ne e
    cases x with
    | no => trivial
    | d y => obtain ⟨v', h1, h2⟩ := q; exact ⟨v', es.trans h1, h2⟩
    | ol xs => obtain ⟨a, vs, h1, h2⟩ := q; exact ⟨a, vs, es.trans h1, h2⟩
    | od xs => obtain ⟨a, vs, h1, h2⟩ := q; exact ⟨a, vs, es.trans h1, h2⟩
theorem Ok.setNo (k : Ok g O σ H s) (i : Nat) (v : Option V) : Ok g O (σ.set i v) H (s.set i .no) := by
  refine ⟨by simp [Ft.St.set, k.len], fun j x hj => ?_, k.tags, k.cells⟩
  unfold Ft.St.set at hj
  by_cases e : i = j
  · subst e
    by_cases hi : i < s.env.length
    · simp only [List.getElem?_set_self hi] at hj
      cases hj
      trivial
    · rw [List.getElem?_eq_none (by simpa using Nat.le_of_not_lt hi)] at hj
      cases hj
  · simp only [List.getElem?_set_ne e] at hj
    have q := k.slot j x hj
    have es : (σ.set i v)[j]? = σ[j]? := List.getElem?_set_ne e
    cases x with
    | no => trivial
    | d y => obtain ⟨v', h1, h2⟩ := q; exact ⟨v', es.trans h1, h2⟩
    | ol xs => obtain ⟨a, vs, h1, h2⟩ := q; exact ⟨a, vs, es.trans h1, h2⟩
    | od xs => obtain ⟨a, vs, h1, h2⟩ := q; exact ⟨a, vs, es.trans h1, h2⟩
theorem Ok.wipe (k : Ok g O σ H s) : ∀ vs : List Nat, Ok g O (wipe σ vs) H (wipeS s vs)
  | [] => k
  | v :: vs => (Ok.wipe k vs).setNo v Option.none
/-- what is no data and no slot's may be changed -/
theorem Ok.poke (k : Ok g O σ H s) {p : Addr} {o : HO} (h : O p = some .tmp) : Ok g O σ (upd H p o) s := by
  have e : DExt O H O (upd H p o) := ⟨fun a u ha hn => ⟨hn, _, (by
    rw [upd_ne]
    · exact ha
    · intro z; subst z; rw [h] at hn; cases hn), .inl rfl⟩, fun a i ha hc => ⟨hc, by
    by_cases z : a = p
    · subst z; rw [upd_same]; simp
    · rw [upd_ne z]; exact ha⟩⟩
  refine ⟨k.len, fun i x hx => ?_, fun a ha => ?_, k.cells.ext e (fun a i hc => upd_ne fun z => by subst z; rw [h] at hc; cases hc) fun _ _ h => h⟩
  · have q := k.slot i x hx
    cases x with
    | no => trivial
    | d y => obtain ⟨v, h1, h2⟩ := q; exact ⟨v, h1, h2.ext e⟩
    | ol xs =>
      obtain ⟨a, vs, h1, h2, h3, h4⟩ := q
      refine ⟨a, vs, h1, h2, ?_, h4.ext e⟩
      rw [upd_ne]
      · exact h3
      · intro z; subst z; rw [h] at h2; cases h2
    | od xs =>
      obtain ⟨a, vs, h1, h2, h3, h4⟩ := q
      refine ⟨a, vs, h1, h2, ?_, h4.ext e⟩
      rw [upd_ne]
      · exact h3
      · intro z; subst z; rw [h] at h2; cases h2
  · by_cases z : a = p
    · subst z; rw [upd_same]; simp
    · rw [upd_ne z]; exact k.tags a ha
def tag (O : Ow) (p : Addr) (o : Option Own) : Ow := fun a => if a = p then o else O a
theorem tag_same {O : Ow} {p : Addr} {o : Option Own} : tag O p o p = o := by simp [tag]
theorem tag_ne {O : Ow} {p a : Addr} {o : Option Own} (h : a ≠ p) : tag O p o a = O a := by simp [tag, h]
/-- a new object, owned by t -/
theorem Ok.lay (k : Ok g O σ H s) {p : Addr} {o : HO} {t : Own} (h : H p = Option.none) (nc : ∀ i, t ≠ .cell i) : Ok g (tag O p (some t)) σ (upd H p o) s := by
  have e : DExt O H (tag O p (some t)) (upd H p o) := ⟨fun a u ha hn => by
    have ne := ne_of_none ha h
    exact ⟨by rw [tag_ne ne]; exact hn, _, by rw [upd_ne ne]; exact ha, .inl rfl⟩, fun a i ha hc => by
    have ne : a ≠ p := fun z => ha (by rw [z]; exact h)
    exact ⟨by rw [tag_ne ne]; exact hc, by rw [upd_ne ne]; exact ha⟩⟩
  refine ⟨k.len, fun i x hx => ?_, fun a ha => ?_, k.cells.ext e (fun a i hc => upd_ne fun z => by subst z; exact absurd h (k.tags a (by rw [hc]; simp))) fun a i hc => ?_⟩
  rotate_left 2
  · by_cases z : a = p
    · subst z; rw [tag_same] at hc; exact absurd (Option.some.inj hc) (nc i)
    · rw [tag_ne z] at hc; exact hc
  · have q := k.slot i x hx
    cases x with
    | no => trivial
    | d y => obtain ⟨v, h1, h2⟩ := q; exact ⟨v, h1, h2.ext e⟩
    | ol xs =>
      obtain ⟨a, vs, h1, h2, h3, h4⟩ := q
      have ne := ne_of_none h3 h
      exact ⟨a, vs, h1, by rw [tag_ne ne]; exact h2, by rw [upd_ne ne]; exact h3, h4.ext e⟩
    | od xs =>
      obtain ⟨a, vs, h1, h2, h3, h4⟩ := q
      have ne := ne_of_none h3 h
      exact ⟨a, vs, h1, by rw [tag_ne ne]; exact h2, by rw [upd_ne ne]; exact h3, h4.ext e⟩
  · by_cases z : a = p
    · subst z; rw [upd_same]; simp
    · rw [upd_ne z]; rw [tag_ne z] at ha; exact k.tags a ha
theorem Ext.lay {p : Addr} {o : HO} {t : Option Own} (h : H p = Option.none) : Ext O H (tag O p t) (upd H p o) where
  own := fun a ha => tag_ne fun z => ha (by rw [z]; exact h)
  keepw := fun a u ha _ _ => ⟨_, by rw [upd_ne (ne_of_none ha h)]; exact ha, .inl rfl⟩
  there := fun a ha => by
    by_cases z : a = p
    · subst z; exact absurd h ha
    · rw [upd_ne z]; exact ha
/-- what was changed at p alone, p being younger -/
theorem Ext.poke {O' : Ow} {H' : Hp} {p : Addr} {o : HO} (e : Ext O H O' H') (h : H p = Option.none) : Ext O H O' (upd H' p o) where
  own := e.own
  keepw := fun a u ha hn hc => by rw [upd_ne (ne_of_none ha h)]; exact e.keepw a u ha hn hc
  there := fun a ha => by
    by_cases z : a = p
    · subst z; exact absurd h ha
    · rw [upd_ne z]; exact e.there a ha
theorem Ext.tag {O' : Ow} {H' : Hp} {p : Addr} {t : Option Own} (e : Ext O H O' H') (h : H p = Option.none) : Ext O H (Ft.tag O' p t) H' where
  own := fun a ha => by rw [tag_ne fun z => ha (by rw [z]; exact h)]; exact e.own a ha
  keepw := e.keepw
  there := e.there
/-- an owned object becomes data -/
theorem DExt.untag {p : Addr} (np : ∀ i, O p ≠ some (.cell i)) : DExt O H (Ft.tag O p Option.none) H := ⟨fun a u ha hn => ⟨(by
  by_cases z : a = p
  · subst z; exact tag_same
  · rw [tag_ne z]; exact hn), _, ha, .inl rfl⟩, fun a i ha hc => ⟨by
    have ne : a ≠ p := fun z => by subst z; exact np i hc
    rw [tag_ne ne]; exact hc, ha⟩⟩
theorem Cells.untag {hp : List Cell} (k : Cells g O H hp) {p : Addr} (np : ∀ i, O p ≠ some (.cell i)) : Cells g (Ft.tag O p Option.none) H hp :=
  k.ext (DExt.untag np) (fun _ _ _ => rfl) fun a i hc => by
    by_cases z : a = p
    · subst z; rw [tag_same] at hc; cases hc
    · rw [tag_ne z] at hc; exact hc
theorem Ok.untag (k : Ok g O σ H s) {p : Addr} (h : O p = some .tmp) : Ok g (Ft.tag O p Option.none) σ H s := by
  have np : ∀ i, O p ≠ some (.cell i) := fun i z => by rw [h] at z; cases z
  have e : DExt O H (Ft.tag O p Option.none) H := DExt.untag np
  refine ⟨k.len, fun i x hx => ?_, fun a ha => ?_, k.cells.untag np⟩
  · have q := k.slot i x hx
    cases x with
    | no => trivial
    | d y => obtain ⟨v, h1, h2⟩ := q; exact ⟨v, h1, h2.ext e⟩
    | ol xs =>
      obtain ⟨a, vs, h1, h2, h3, h4⟩ := q
      have ne : a ≠ p := fun z => by subst z; rw [h] at h2; cases h2
      exact ⟨a, vs, h1, by rw [tag_ne ne]; exact h2, h3, h4.ext e⟩
    | od xs =>
      obtain ⟨a, vs, h1, h2, h3, h4⟩ := q
      have ne : a ≠ p := fun z => by subst z; rw [h] at h2; cases h2
      exact ⟨a, vs, h1, by rw [tag_ne ne]; exact h2, h3, h4.ext e⟩
  · by_cases z : a = p
    · subst z; rw [tag_same] at ha; exact absurd rfl ha
    · rw [tag_ne z] at ha; exact k.tags a ha
end
/-! ### targets -/
def gsR : List Nat → TGs
  | [] => gNil
  | i :: is => gCons (gName i) (gsR is)
def tgR (K : PySem.W.Frag) : List Nat → TG
  | [i] => gName i
  | is => gTup K is.length (gsR is)
theorem setTg_ok {g : Gw} {O : Ow} {H : Hp} : ∀ (is : List Nat) (ds : List D) (vs : List V) (σ : L2.St) (s s' : Ft.St), Ok g O σ H s → IsL g.K g.w O H vs ds → setTg s is ds = some s' →
    gsR is vs σ H fun σ' H' => H' = H ∧ Ok g O σ' H s' ∧ (∀ j, j ∉ is → σ'[j]? = σ[j]?)
  | [], [], _, σ, s, s', k, .nil, h => by
    cases h
    exact ⟨rfl, rfl, k, fun _ _ => rfl⟩
  | [], _ :: _, _, _, _, _, _, _, h => by cases h
  | _ :: _, [], _, _, _, _, _, _, h => by cases h
  | i :: is, d :: ds, _, σ, s, s', k, .cons (v := v) (vs := vs) hv hl, h => by
    simp only [setTg] at h
    split at h
    · rename_i hi
      refine ⟨v, vs, rfl, ?_⟩
      have q := setTg_ok is ds vs (σ.set i (some v)) (s.set i (.d d)) s' (k.setD hi hv) hl h
      show gsR is vs (σ.set i (some v)) H _
      revert q
      have mono : ∀ (is : List Nat) (vs : List V) (σ : L2.St) (H : Hp) (Q Q' : L2.St → Hp → Prop), (∀ σ H, Q σ H → Q' σ H) → gsR is vs σ H Q → gsR is vs σ H Q' := by
        intro is
        induction is with
        | nil => rintro vs σ H Q Q' hq ⟨h1, h2⟩; exact ⟨h1, hq _ _ h2⟩
        | cons j js ih => rintro vs σ H Q Q' hq ⟨v, r, h1, h2⟩; exact ⟨v, r, h1, ih r _ _ Q Q' hq h2⟩
      refine mono is vs _ _ _ _ ?_
      rintro σ' H' ⟨h1, h2, h3⟩
      refine ⟨h1, h2, fun j hj => ?_⟩
      rw [h3 j (fun z => hj (List.mem_cons_of_mem _ z))]
      exact List.getElem?_set_ne (fun z => hj (by rw [← z]; exact List.mem_cons_self))
    · cases h
theorem setT_ok {g : Gw} {O : Ow} {H : Hp} {tg : List Nat} {d : D} {v : V} {σ : L2.St} {s s' : Ft.St} (k : Ok g O σ H s) (hv : Is g.K g.w O H v d) (h : setT s tg d = some s') :
    tgR g.K tg v σ H fun σ' H' => H' = H ∧ Ok g O σ' H s' ∧ (∀ j, j ∉ tg → σ'[j]? = σ[j]?) := by
  match tg, h with
  | [i], h =>
    simp only [setT] at h
    obtain ⟨v', r, e, q⟩ := setTg_ok [i] [d] [v] σ s s' k (.cons hv .nil) h
    cases e
    obtain ⟨_, q⟩ := q
    exact q
  | [], h =>
    cases d <;> simp only [setT] at h <;> first | cases h | skip
    obtain ⟨a, vs, e, h1, l⟩ := hv.tupS
    have := setTg_ok [] _ vs σ s s' k l h
    exact ⟨a, vs, e, h1, by obtain ⟨z, _⟩ := this; rw [z]; rfl, this⟩
  | i :: j :: r, h =>
    cases d <;> simp only [setT] at h <;> first | cases h | skip
    obtain ⟨a, vs, e, h1, l⟩ := hv.tupS
    have q := setTg_ok (i :: j :: r) _ vs σ s s' k l h
    refine ⟨a, vs, e, h1, ?_, q⟩
    have len : ∀ (is : List Nat) (vs : List V) (σ : L2.St) (H : Hp) (Q : L2.St → Hp → Prop), gsR is vs σ H Q → vs.length = is.length := by
      intro is
      induction is with
      | nil => rintro vs σ H Q ⟨h1, h2⟩; rw [h1]; rfl
      | cons j js ih => rintro vs σ H Q ⟨v, r, h1, h2⟩; rw [h1, List.length_cons, List.length_cons, ih r _ _ _ h2]
    exact len _ _ _ _ _ q
/-! ### what is walked -/
def WkOk (g : Gw) (J : L2.It) (O : Ow) (H : Hp) (its : List D) : Prop := ∀ O2 H2, DExt O H O2 H2 → (∀ p, H2 p = Option.none → O2 p = Option.none) →
  ∀ i, (∀ d, its[i]? = some d → J.go i H2 ∧ ∀ x H3, J.yld i H2 x H3 → Same H2 H3 ∧ Is g.K g.w O2 H3 x d) ∧ (its[i]? = Option.none → J.stop i H2)
abbrev IsI (g : Gw) : Ow → Hp → L2.It → List D → Prop := fun O H J its => WkOk g J O H its
theorem WkOk.ext {g : Gw} {J : L2.It} {O O' : Ow} {H H' : Hp} {its : List D} (w : WkOk g J O H its) (e : DExt O H O' H') : WkOk g J O' H' its := fun O2 H2 e2 => w O2 H2 (e.trans e2)
def evI (G : Glob) (c : Oracle) (k : Ft.It) (src : List E) (s : Ft.St) : R (List D) := (evs G c src s).bind fun ds s => R.of (items k ds) s
def RI (g : Gw) (Wx : WX) (k : Ft.It) (src : List E) : TI := fun σ H R => ∃ O s, Ok g O σ H s ∧ Post g (IsI g) Wx σ O H (evI g.G g.c k src s) R
section
variable {g : Gw} {O : Ow} {H : Hp}
theorem wk_lst {a : Addr} {vs : List V} {ds : List D} (h : H a = some (.lst vs)) (o : O a = Option.none) (l : IsL g.K g.w O H vs ds) : WkOk g (Itl g.K a) O H ds := by
  intro O2 H2 e fr i
  obtain ⟨o2, h2⟩ := e.d a _ h o
  have l2 := l.ext e
  refine ⟨fun d hd => ?_, fun hd => ?_⟩
  · obtain ⟨v, hv, iv⟩ := l2.get hd
    refine ⟨⟨vs, v, SqL.of h2, hv⟩, ?_⟩
    rintro x H3 ⟨rfl, hx⟩
    have := hx vs (SqL.of h2)
    rw [hv] at this
    cases this
    exact ⟨Same.refl _, iv⟩
  · refine ⟨vs, SqL.of h2, ?_⟩
    rw [l2.len]
    exact List.getElem?_eq_none_iff.mp hd
theorem wk_scr {a : Addr} {v : V} {ns : List Int} (hv : Is g.K g.w O H v (.scr ns)) (ev : v = .ref a) : WkOk g (Itl g.K a) O H (ns.map .int) := by
  intro O2 H2 e fr i
  obtain ⟨a', e', hq⟩ := (hv.ext e).scrS
  rw [ev] at e'
  cases e'
  refine ⟨fun d hd => ?_, fun hd => ?_⟩
  · rw [List.getElem?_map] at hd
    cases hn : ns[i]? with
    | none => rw [hn] at hd; cases hd
    | some n =>
      rw [hn] at hd
      cases hd
      have hv : (ns.map V.int)[i]? = some (.int n) := by rw [List.getElem?_map, hn]; rfl
      refine ⟨⟨_, _, hq, hv⟩, ?_⟩
      rintro x H3 ⟨rfl, hx⟩
      have := hx _ hq
      rw [hv] at this
      cases this
      exact ⟨Same.refl _, .int n⟩
  · refine ⟨_, hq, ?_⟩
    have := List.getElem?_eq_none_iff.mp hd
    simpa using this
theorem wk_tup {a : Addr} {v : V} {ds : List D} (hv : Is g.K g.w O H v (.tup ds)) (ev : v = .ref a) : WkOk g (Itt g.K a) O H ds := by
  intro O2 H2 e fr i
  obtain ⟨a', vs, e', h, l⟩ := (hv.ext e).tupS
  rw [ev] at e'
  cases e'
  refine ⟨fun d hd => ?_, fun hd => ?_⟩
  · obtain ⟨v, hv, iv⟩ := l.get hd
    refine ⟨⟨vs, v, h, hv⟩, ?_⟩
    rintro x H3 ⟨rfl, hx⟩
    have := hx vs h
    rw [hv] at this
    cases this
    exact ⟨Same.refl _, iv⟩
  · refine ⟨vs, h, ?_⟩
    rw [l.len]
    exact List.getElem?_eq_none_iff.mp hd
theorem wk_str (z : Tx) : WkOk g (Its (tS z)) O H (z.map fun c => .str [c]) := by
  intro O2 H2 e fr i
  refine ⟨fun d hd => ?_, fun hd => ?_⟩
  · rw [List.getElem?_map] at hd
    cases hn : z[i]? with
    | none => rw [hn] at hd; cases hd
    | some n =>
      rw [hn] at hd
      cases hd
      have hz : (tS z).cps[i]? = some n := by simpa [tS] using hn
      refine ⟨?_, ?_⟩
      · show i < (tS z).cps.size
        exact (Array.getElem?_eq_some_iff.mp hz).1
      · rintro x H3 ⟨rfl, c, hc, rfl⟩
        rw [hz] at hc
        cases hc
        exact ⟨Same.refl _, .str [n]⟩
  · show (tS z).cps.size ≤ i
    have := List.getElem?_eq_none_iff.mp hd
    simpa [tS] using this
theorem wk_rng (n : Int) : WkOk g (Itr 0 n.toNat) O H ((List.range n.toNat).map fun k => .int (k : Nat)) := by
  intro O2 H2 e fr i
  refine ⟨fun d hd => ?_, fun hd => ?_⟩
  · rw [List.getElem?_map] at hd
    by_cases hi : i < n.toNat
    · rw [List.getElem?_range hi] at hd
      cases hd
      refine ⟨hi, ?_⟩
      rintro x H3 ⟨rfl, rfl⟩
      refine ⟨Same.refl _, ?_⟩
      rw [Int.zero_add]
      exact .int _
    · rw [List.getElem?_eq_none (by simpa using Nat.le_of_not_lt hi)] at hd
      cases hd
  · have := List.getElem?_eq_none_iff.mp hd
    show n.toNat ≤ i
    simp only [List.length_map, List.length_range] at this
    exact this
theorem wk_enum {a : Addr} {vs : List V} {ds : List D} (h : H a = some (.lst vs)) (o : O a = Option.none) (l : IsL g.K g.w O H vs ds) : WkOk g (Ite g.K a) O H (ds.mapIdx fun k x => .tup [.int (k : Nat), x]) := by
  intro O2 H2 e fr i
  obtain ⟨o2, h2⟩ := e.d a _ h o
  have l2 := l.ext e
  refine ⟨fun d hd => ?_, fun hd => ?_⟩
  · rw [List.getElem?_mapIdx] at hd
    cases hn : ds[i]? with
    | none => rw [hn] at hd; cases hd
    | some d' =>
      rw [hn] at hd
      cases hd
      obtain ⟨v, hv, iv⟩ := l2.get hn
      refine ⟨⟨vs, v, SqL.of h2, hv⟩, ?_⟩
      rintro x H3 ⟨T, y, rfl, nT, rfl, hx⟩
      have := hx vs (SqL.of h2)
      rw [hv] at this
      cases this
      exact ⟨same_upd nT, Is.new_tup nT fr (.cons (.int _) (.cons iv .nil))⟩
  · refine ⟨vs, SqL.of h2, ?_⟩
    rw [l2.len]
    have := List.getElem?_eq_none_iff.mp hd
    simpa using this
theorem wk_enumT {a : Addr} {v : V} {ds : List D} (hv : Is g.K g.w O H v (.tup ds)) (ev : v = .ref a) : WkOk g (IteT g.K a) O H (ds.mapIdx fun k x => .tup [.int (k : Nat), x]) := by
  intro O2 H2 e fr i
  obtain ⟨a', vs, e', h, l⟩ := (hv.ext e).tupS
  rw [ev] at e'
  cases e'
  refine ⟨fun d hd => ?_, fun hd => ?_⟩
  · rw [List.getElem?_mapIdx] at hd
    cases hn : ds[i]? with
    | none => rw [hn] at hd; cases hd
    | some d' =>
      rw [hn] at hd
      cases hd
      obtain ⟨v, hv, iv⟩ := l.get hn
      refine ⟨⟨vs, v, h, hv⟩, ?_⟩
      rintro x H3 ⟨T, y, rfl, nT, rfl, hx⟩
      have := hx vs h
      rw [hv] at this
      cases this
      exact ⟨same_upd nT, Is.new_tup nT fr (.cons (.int _) (.cons iv .nil))⟩
  · refine ⟨vs, h, ?_⟩
    rw [l.len]
    have := List.getElem?_eq_none_iff.mp hd
    simpa using this
theorem zip_none {α β γ : Type} {f : α → β → γ} {xs : List α} {ys : List β} {i : Nat} (h : (List.zipWith f xs ys)[i]? = Option.none) : xs.length ≤ i ∨ ys.length ≤ i := by
  have := List.getElem?_eq_none_iff.mp h
  rw [List.length_zipWith] at this
  omega
theorem zip_some {α β γ : Type} {f : α → β → γ} {xs : List α} {ys : List β} {i : Nat} {z : γ} (h : (List.zipWith f xs ys)[i]? = some z) : ∃ x y, xs[i]? = some x ∧ ys[i]? = some y ∧ z = f x y := by
  rw [List.getElem?_zipWith] at h
  cases hx : xs[i]? with
  | none => rw [hx] at h; cases h
  | some x =>
    cases hy : ys[i]? with
    | none => rw [hx, hy] at h; cases h
    | some y => rw [hx, hy] at h; cases h; exact ⟨x, y, rfl, rfl, rfl⟩
theorem wk_zipL {a b : Addr} {vs us : List V} {ds es : List D} (h : H a = some (.lst vs)) (o : O a = Option.none) (l : IsL g.K g.w O H vs ds) (h' : H b = some (.lst us)) (o' : O b = Option.none) (l' : IsL g.K g.w O H us es) :
    WkOk g (Itz g.K a b) O H (List.zipWith (fun x y => .tup [x, y]) ds es) := by
  intro O2 H2 e fr i
  obtain ⟨_, h2⟩ := e.d a _ h o
  obtain ⟨_, h3⟩ := e.d b _ h' o'
  have l2 := l.ext e
  have l3 := l'.ext e
  refine ⟨fun d hd => ?_, fun hd => ?_⟩
  · obtain ⟨x, y, hx, hy, rfl⟩ := zip_some hd
    obtain ⟨v, hv, iv⟩ := l2.get hx
    obtain ⟨u, hu, iu⟩ := l3.get hy
    refine ⟨⟨vs, us, v, u, SqL.of h2, SqL.of h3, hv, hu⟩, ?_⟩
    rintro x H3 ⟨T, y1, y2, rfl, nT, rfl, hx1, hx2⟩
    have e1 := hx1 vs (SqL.of h2)
    have e2 := hx2 us (SqL.of h3)
    rw [hv] at e1
    rw [hu] at e2
    cases e1; cases e2
    exact ⟨same_upd nT, Is.new_tup nT fr (.cons iv (.cons iu .nil))⟩
  · refine ⟨vs, us, SqL.of h2, SqL.of h3, ?_⟩
    rw [l2.len, l3.len]
    exact zip_none hd
theorem zip3_some : ∀ {xs ys zs : List D} {i : Nat} {d : D}, (zip3 xs ys zs)[i]? = some d → ∃ x y z, xs[i]? = some x ∧ ys[i]? = some y ∧ zs[i]? = some z ∧ d = .tup [x, y, z]
  | [], _, _, _, _, h => by simp [zip3] at h
  | _ :: _, [], _, _, _, h => by simp [zip3] at h
  | _ :: _, _ :: _, [], _, _, h => by simp [zip3] at h
  | x :: xs, y :: ys, z :: zs, 0, _, h => by
    simp [zip3] at h
    exact ⟨x, y, z, rfl, rfl, rfl, h.symm⟩
  | x :: xs, y :: ys, z :: zs, i + 1, _, h => by
    simp only [zip3, List.getElem?_cons_succ] at h ⊢
    exact zip3_some h
theorem zip3_none : ∀ {xs ys zs : List D} {i : Nat}, (zip3 xs ys zs)[i]? = Option.none → xs.length ≤ i ∨ ys.length ≤ i ∨ zs.length ≤ i
  | [], _, _, _, h => .inl (Nat.zero_le _)
  | _ :: _, [], _, _, h => .inr (.inl (Nat.zero_le _))
  | _ :: _, _ :: _, [], _, h => .inr (.inr (Nat.zero_le _))
  | x :: xs, y :: ys, z :: zs, 0, h => by simp [zip3] at h
  | x :: xs, y :: ys, z :: zs, i + 1, h => by
    simp only [zip3, List.getElem?_cons_succ] at h
    simpa using zip3_none h
theorem wk_zip3 {a b t : Addr} {vs us ws : List V} {ds es fs : List D} (h : H a = some (.lst vs)) (o : O a = Option.none) (l : IsL g.K g.w O H vs ds) (h' : H b = some (.lst us)) (o' : O b = Option.none) (l' : IsL g.K g.w O H us es) (h'' : H t = some (.lst ws)) (o'' : O t = Option.none) (l'' : IsL g.K g.w O H ws fs) :
    WkOk g (Itz3 g.K a b t) O H (zip3 ds es fs) := by
  intro O2 H2 e fr i
  obtain ⟨_, h2⟩ := e.d a _ h o
  obtain ⟨_, h3⟩ := e.d b _ h' o'
  obtain ⟨_, h4⟩ := e.d t _ h'' o''
  have l2 := l.ext e
  have l3 := l'.ext e
  have l4 := l''.ext e
  refine ⟨fun d hd => ?_, fun hd => ?_⟩
  · obtain ⟨x, y, z, hx, hy, hz, rfl⟩ := zip3_some hd
    obtain ⟨v, hv, iv⟩ := l2.get hx
    obtain ⟨u, hu, iu⟩ := l3.get hy
    obtain ⟨w, hw, iw⟩ := l4.get hz
    refine ⟨⟨vs, us, ws, v, u, w, SqL.of h2, SqL.of h3, SqL.of h4, hv, hu, hw⟩, ?_⟩
    rintro x H3 ⟨T, y1, y2, y3, rfl, nT, rfl, hx1, hx2, hx3⟩
    have e1 := hx1 vs (SqL.of h2)
    have e2 := hx2 us (SqL.of h3)
    have e3 := hx3 ws (SqL.of h4)
    rw [hv] at e1
    rw [hu] at e2
    rw [hw] at e3
    cases e1; cases e2; cases e3
    exact ⟨same_upd nT, Is.new_tup nT fr (.cons iv (.cons iu (.cons iw .nil)))⟩
  · refine ⟨vs, us, ws, SqL.of h2, SqL.of h3, SqL.of h4, ?_⟩
    rw [l2.len, l3.len, l4.len]
    exact zip3_none hd
theorem wk_zipT {a b : Addr} {v u : V} {ds es : List D} (h : Is g.K g.w O H v (.tup ds)) (ev : v = .ref a) (h' : Is g.K g.w O H u (.tup es)) (eu : u = .ref b) : WkOk g (RZ.ItzT g.K a b) O H (List.zipWith (fun x y => .tup [x, y]) ds es) := by
  intro O2 H2 e fr i
  obtain ⟨a', vs, e', h2, l2⟩ := (h.ext e).tupS
  obtain ⟨b', us, e'', h3, l3⟩ := (h'.ext e).tupS
  rw [ev] at e'
  rw [eu] at e''
  cases e'; cases e''
  refine ⟨fun d hd => ?_, fun hd => ?_⟩
  · obtain ⟨x, y, hx, hy, rfl⟩ := zip_some hd
    obtain ⟨v, hv, iv⟩ := l2.get hx
    obtain ⟨u, hu, iu⟩ := l3.get hy
    refine ⟨⟨vs, us, v, u, h2, h3, hv, hu⟩, ?_⟩
    rintro x H3 ⟨T, y1, y2, rfl, nT, rfl, hx1, hx2⟩
    have e1 := hx1 vs h2
    have e2 := hx2 us h3
    rw [hv] at e1
    rw [hu] at e2
    cases e1; cases e2
    exact ⟨same_upd nT, Is.new_tup nT fr (.cons iv (.cons iu .nil))⟩
  · refine ⟨vs, us, h2, h3, ?_⟩
    rw [l2.len, l3.len]
    exact zip_none hd
end
end Ft
set_option Elab.async false
set_option linter.all false
set_option maxRecDepth 100000
set_option maxHeartbeats 2000000
namespace Ft
open PySem PyProof.Rows L2
/-- no star, no set, no slice -/
def pl : Expr → Bool
  | .Starred _ _ => false
  | .Set _ _ _ => false
  | .Slice _ _ _ _ => false
  | _ => true
theorem pl_star {e : Expr} (h : pl e = true) (es : List Expr) (env : Env) : starEach (e :: es) env = (false, eval e env) :: starEach es env := by
  cases e <;> first | rfl | cases h
theorem pl_stars (env : Env) (pos : Pos) : ∀ {es : List Expr}, es.all pl = true → (backTo pos (starEach es env)).any (·.1) = false
  | [], _ => rfl
  | e :: es, h => by
    simp only [List.all_cons, Bool.and_eq_true] at h
    rw [pl_star h.1]
    have := pl_stars env pos h.2
    unfold backTo at this ⊢
    simpa using this
theorem pl_ix {b : Expr} (h : pl b = true) : PlainIx b := fun o i => by
  cases b <;> first | rfl | cases h
theorem pl_mark {b : Expr} (h : pl b = true) (op : CmpOp) : behindInMarks op b = false := by
  cases b <;> first | rfl | cases h
theorem pl_fold {b : Expr} (h : pl b = true) (env : Env) : ∀ x, foldedSetIterable b env x = pure x := fun x => by
  cases b <;> first | rfl | cases h
section
variable {X : Cx} {G : Glob} {c : Oracle} {Wx : WX} {a b t : Expr} {ma mb mt : E} {pos : Pos}
theorem l_cst {e : Expr} {d : D} {v : V} (h : PE X e (tC v)) (hi : ∀ O H, Is X.K X.w O H v d) : PE X e (RE (gOf X G c) Wx (.cst d)) := pe_imp h fun σ H Q q => by
  obtain ⟨O, s, k, p⟩ := q
  exact p O v H Ext.refl k (hi O H)
theorem l_var {i : Nat} (h : PE X a (tVar i)) : PE X a (RE (gOf X G c) Wx (.var i)) := pe_imp h fun σ H Q q => by
  obtain ⟨O, s, k, p⟩ := q
  rw [ev] at p
  obtain ⟨d, hd, q⟩ := Post.pure k p
  obtain ⟨v, h1, h2⟩ := k.get hd
  exact ⟨v, h1, q v H (Same.refl H) h2⟩
theorem l_glb {x : Tx} {v : V} (h : PE X a (tC v)) (hi : ∀ d, G x = some d → ∀ O H, Is X.K X.w O H v d) : PE X a (RE (gOf X G c) Wx (.glb x)) := pe_imp h fun σ H Q q => by
  obtain ⟨O, s, k, p⟩ := q
  rw [ev] at p
  obtain ⟨d, hd, q⟩ := Post.pure k p
  exact q v H (Same.refl H) (hi d hd O H)
theorem l_nil : PA X [] (RA (gOf X G c) Wx []) := pa_imp pa_nil fun σ H Q q => by
  obtain ⟨O, s, k, p⟩ := q
  exact p O [] H Ext.refl k .nil
theorem l_cons {es : List Expr} {ms : List E} (ha : PE X a (RE (gOf X G c) Wx ma)) (hp : pl a = true) (hs : PA X es (RA (gOf X G c) Wx ms)) : PA X (a :: es) (RA (gOf X G c) Wx (ma :: ms)) := by
  refine pa_imp (pa_cons ha hs (pl_star hp es _)) fun σ H Q q => ?_
  obtain ⟨O, s, k, p⟩ := q
  rw [evs] at p
  refine ⟨O, s, k, (Post.bind (rel := IsD _) p).imp fun x H1 ⟨O1, d1, s1, e1, k1, i1, p1⟩ => ?_⟩
  refine ⟨O1, s1, k1, (Post.bind (rel := IsDs _) p1).imp fun ys H2 ⟨O2, d2, s2, e2, k2, i2, p2⟩ => ?_⟩
  exact p2 O2 (x :: ys) H2 Ext.refl k2 (.cons (Is.ext e2.data i1) i2)
theorem evs_len : ∀ (ms : List E) (s s' : Ft.St) (ds : List D), evs G c ms s = .ok ds s' → ds.length = ms.length := by
  intro ms
  induction ms with
  | nil => intro s s' ds h; rw [evs] at h; cases h; rfl
  | cons m ms ih =>
    intro s s' ds h
    rw [evs] at h
    cases h1 : ev G c m s with
    | ok d s1 =>
      rw [h1] at h
      simp only [R.bind] at h
      cases h2 : evs G c ms s1 with
      | ok ds' s2 => rw [h2] at h; cases h; simp [ih _ _ _ h2]
      | exn x s2 => rw [h2] at h; cases h
      | bad => rw [h2] at h; cases h
    | exn x s1 => rw [h1] at h; cases h
    | bad => rw [h1] at h; cases h
theorem l_tup {es : List Expr} {ms : List E} {n : Nat} (hs : PA X es (RA (gOf X G c) Wx ms)) (hl : ms.length ≤ LIM) : PE X (.Tuple es n pos) (RE (gOf X G c) Wx (.tup ms)) := by
  refine pe_imp (pe_tup hs) fun σ H Q q => ?_
  obtain ⟨O, s, k, p⟩ := q
  rw [ev] at p
  refine ⟨O, s, k, ?_⟩
  cases e : evs (gOf X G c).G (gOf X G c).c ms s with
  | ok ds s1 =>
    rw [e] at p
    intro O1 vs H1 e1 k1 i1
    refine ⟨?_, fun q hq => ?_⟩
    · rw [i1.len, evs_len ms s s1 ds e]; exact Nat.le_trans hl lim_line
    · exact p O1 (.ref q) _ (e1.trans (Ext.same (same_upd hq))) (k1.same (same_upd hq)) (Is.new_tup hq (fun p => k1.fresh) i1)
  | exn x s1 => rw [e] at p; exact p
  | bad => rw [e] at p; exact p.elim
theorem l_lst {es : List Expr} {ms : List E} (hs : PA X es (RA (gOf X G c) Wx ms)) (hl : ms.length ≤ LIM) : PE X (.List es pos) (RE (gOf X G c) Wx (.lst ms)) := by
  refine pe_imp (pe_lst hs) fun σ H Q q => ?_
  obtain ⟨O, s, k, p⟩ := q
  rw [ev] at p
  refine ⟨O, s, k, ?_⟩
  cases e : evs (gOf X G c).G (gOf X G c).c ms s with
  | ok ds s1 =>
    rw [e] at p
    intro O1 vs H1 e1 k1 i1
    refine ⟨?_, fun q hq => ?_⟩
    · rw [i1.len, evs_len ms s s1 ds e]; exact Nat.le_trans hl lim_line
    · exact p O1 (.ref q) _ (e1.trans (Ext.same (same_upd hq))) (k1.same (same_upd hq)) (Is.new_lst hq (fun p => k1.fresh) i1)
  | exn x s1 => rw [e] at p; exact p
  | bad => rw [e] at p; exact p.elim
theorem l_emp : PE X (.Dict [] [] pos) (RE (gOf X G c) Wx .emp) := by
  refine pe_imp pe_dnewK fun σ H Q q => ?_
  obtain ⟨O, s, k, p⟩ := q
  rw [ev] at p
  exact fun q hq => p O (.ref q) _ (Ext.same (same_upd hq)) (k.same (same_upd hq)) (.dct (.inl upd_same) (k.fresh hq) .nil)
theorem l_bin {op : Operator} {o : O2} (ho : OpR X (binaryOp op) (rP2 (gOf X G c) (op2 o))) (ha : PE X a (RE (gOf X G c) Wx ma)) (hb : PE X b (RE (gOf X G c) Wx mb)) : PE X (.BinOp a op b pos) (RE (gOf X G c) Wx (.bi o ma mb)) :=
  pe_imp (pe_op ho ha hb) fun σ H Q q => re_bi (fun _ _ _ _ h => h) q
theorem l_cmp {op : CmpOp} {o : O2} (ho : OpR X (compareOp op) (rP2 (gOf X G c) (op2 o))) (ha : PE X a (RE (gOf X G c) Wx ma)) (hb : PE X b (RE (gOf X G c) Wx mb)) (hp : pl b = true) : PE X (.Compare a [op] [b] pos) (RE (gOf X G c) Wx (.bi o ma mb)) :=
  pe_imp (pe_cmpR ho ha hb (pl_mark hp op)) fun σ H Q q => re_bi (fun _ _ _ _ h => h) q
theorem l_idx (hu : X.A.units + 1 < cLine) (ha : PE X a (RE (gOf X G c) Wx ma)) (hb : PE X b (RE (gOf X G c) Wx mb)) (hp : pl b = true) : PE X (.Subscript a b pos) (RE (gOf X G c) Wx (.bi .idx ma mb)) :=
  pe_imp (pe_ix (ixr_idx hu) ha hb (pl_ix hp)) fun σ H Q q => re_bi (fun _ _ _ _ h => h) q
theorem l_neg (ha : PE X a (RE (gOf X G c) Wx ma)) : PE X (.UnaryOp .USub a pos) (RE (gOf X G c) Wx (.un .neg ma)) :=
  pe_imp (pe_un un_neg ha) fun σ H Q q => re_un (fun x H Q h => by
    obtain ⟨O, d1, d, fr, i1, hd, q⟩ := h
    cases d1 <;> simp only [op1] at hd <;> first | cases hd | skip
    cases i1
    exact ⟨_, rfl, q _ _ (Same.refl H) (.int _)⟩) q
theorem l_not (ha : PE X a (RE (gOf X G c) Wx ma)) : PE X (.UnaryOp .Not a pos) (RE (gOf X G c) Wx (.un .not_ ma)) :=
  pe_imp (pe_notT ha) fun σ H Q q => re_un (r := fun x H1 Q => ∃ k, TruV X.K x H1 k ∧ Q (.bl (!k)) H1) (fun x H Q h => by
    obtain ⟨O, d1, d, fr, i1, hd, q⟩ := h
    have hd : (d1.tru.map fun b => D.bool !b) = some d := by cases d1 <;> exact hd
    cases e : d1.tru with
    | none => rw [e] at hd; cases hd
    | some k =>
      rw [e] at hd
      cases hd
      exact ⟨k, i1.truV e, q _ _ (Same.refl H) (.bl _)⟩) q
theorem l_call1 {x : Str} {id : String} {o : O1} {p : Pos} (hc : CallR X (.builtin id) (rC1 (gOf X G c) (op1 o))) (hg : Gl X x) (hm : X.mg x = none) (hv : bootBuiltins x = some (.builtin id)) (ha : PE X a (RE (gOf X G c) Wx ma)) (hp : pl a = true) (hn : x ≠ "__name__") (hdb : (x == ("__debug__" : Str)) = false) :
    PE X (.Call (.Name x p) [a] [] pos) (RE (gOf X G c) Wx (.un o ma)) :=
  pe_imp (pe_callB hc hg hm hv (pa_cons ha pa_nil (pl_star hp _ _)) hn hdb (pl_star hp _ _) rfl) fun σ H Q q => re_un (r := fun x H Q => rC1 (gOf X G c) (op1 o) [x] H Q) (fun x H Q h => ⟨x, rfl, h⟩) q
theorem l_callT {x : Str} {T : String} {o : O1} {p : Pos} (hc : CallR X (.type T) (rC1 (gOf X G c) (op1 o))) (hg : Gl X x) (hm : X.mg x = none) (hv : bootBuiltins x = some (.type T)) (ha : PE X a (RE (gOf X G c) Wx ma)) (hp : pl a = true) (hn : x ≠ "__name__") (hdb : (x == ("__debug__" : Str)) = false) :
    PE X (.Call (.Name x p) [a] [] pos) (RE (gOf X G c) Wx (.un o ma)) :=
  pe_imp (pe_callTy hc hg hm hv (pa_cons ha pa_nil (pl_star hp _ _)) hn hdb (pl_star hp _ _) rfl) fun σ H Q q => re_un (r := fun x H Q => rC1 (gOf X G c) (op1 o) [x] H Q) (fun x H Q h => ⟨x, rfl, h⟩) q
theorem l_isi {o : O1} {T : String} {tn : Str} {p p2 : Pos} (hT : T ∈ ["int", "bool", "str", "tuple", "list"]) (ho : ∀ d, op1 o d = isK d (isN T d)) (hg : Gl X "isinstance") (hm : X.mg "isinstance" = none) (hg2 : Gl X tn) (hm2 : X.mg tn = none) (hv2 : bootBuiltins tn = some (.type T)) (hn : tn ≠ "__name__") (hdb : (tn == ("__debug__" : Str)) = false)
    (ha : PE X a (RE (gOf X G c) Wx ma)) (hp : pl a = true) : PE X (.Call (.Name "isinstance" p) [a, .Name tn p2] [] pos) (RE (gOf X G c) Wx (.un o ma)) :=
  pe_imp (pe_callB (cr_isi hT ho) hg hm (by decide +kernel) (pa_cons ha (pa_cons (pe_bltn (v := .ty T) hg2 hm2 hv2 rfl hn hdb) pa_nil rfl) (pl_star hp _ _)) (by decide) (by decide) (pl_star hp _ _) rfl) fun σ H Q q => re_un (r := fun x H Q => rIs (gOf X G c) T (op1 o) [x, .ty T] H Q) (fun x H Q h => ⟨x, rfl, h⟩) q
theorem l_isi2 {p p2 p3 p4 : Pos} {kk : Nat} (hg : Gl X "isinstance") (hm : X.mg "isinstance" = none) (hg1 : Gl X "tuple") (hm1 : X.mg "tuple" = none) (hg2 : Gl X "list") (hm2 : X.mg "list" = none)
    (ha : PE X a (RE (gOf X G c) Wx ma)) (hp : pl a = true) : PE X (.Call (.Name "isinstance" p) [a, .Tuple [.Name "tuple" p2, .Name "list" p3] kk p4] [] pos) (RE (gOf X G c) Wx (.un .isTL ma)) :=
  pe_imp (pe_callB (cr_isi2 (G := G) (c := c)) hg hm (by decide +kernel) (pa_cons ha (pa_cons (pe_tup (pa_cons (pe_bltn (v := .ty "tuple") hg1 hm1 (by decide +kernel) rfl (by decide) (by decide)) (pa_cons (pe_bltn (v := .ty "list") hg2 hm2 (by decide +kernel) rfl (by decide) (by decide)) pa_nil rfl) rfl)) pa_nil rfl) (pl_star hp _ _)) (by decide) (by decide) (pl_star hp _ _) rfl) fun σ H Q q => by
    refine re_un (r := fun x H Q => ([V.ty "tuple", V.ty "list"].length ≤ sizeLine ∧ ∀ tp, H tp = none → rIs2 (gOf X G c) [x, .ref tp] (upd H tp (.tup [.ty "tuple", .ty "list"])) Q)) (fun x H Q h => ⟨Nat.le_trans (by decide) lim_line, fun tp ht => ⟨x, tp, rfl, upd_same, ?_⟩⟩) q
    obtain ⟨O, d1, d, fr, i1, hd, q⟩ := h
    refine ⟨O, d1, d, fun p hp => fr p ?_, i1.ext (Ext.same (same_upd ht)).data, hd, fun v H' sm iv => q v H' (Same.trans (same_upd ht) sm) iv⟩
    by_cases z : p = tp
    · subst z; exact ht
    · rwa [upd_ne z] at hp
theorem l_max2 {p : Pos} (hc : X.calm = true) (hg : Gl X "max") (hm : X.mg "max" = none) (ha : PE X a (RE (gOf X G c) Wx ma)) (hp : pl a = true) (hb : PE X b (RE (gOf X G c) Wx mb)) (hq : pl b = true) : PE X (.Call (.Name "max" p) [a, b] [] pos) (RE (gOf X G c) Wx (.bi .max2 ma mb)) :=
  pe_imp (pe_callB (cr_max2 (G := G) (c := c) hc) hg hm (by decide +kernel) (pa_cons ha (pa_cons hb pa_nil (pl_star hq _ _)) (pl_star hp _ _)) (by decide) (by decide) (pl_star hp _ _) (by rw [pl_star hq]; rfl)) fun σ H Q q => re_bi (r := fun x y H Q => ∃ x' y', [x, y] = [x', y'] ∧ rP2 (gOf X G c) (op2 .max2) x' y' H Q) (fun x y H Q h => ⟨x, y, rfl, h⟩) q
theorem l_rev {k : Nat} {p1 p2 p3 : Pos} (ha : PE X a (RE (gOf X G c) Wx ma)) : PE X (.Subscript a (.Slice none none (some (.UnaryOp .USub (.Constant (.int 1) k p1) p2)) p3) pos) (RE (gOf X G c) Wx (.un .rev ma)) :=
  pe_imp (pe_revL ha) fun σ H Q q => re_un (r := fun x H1 Q => ∃ a xs, x = .ref a ∧ SqL X.K H1 a xs ∧ ∀ p, H1 p = none → Q (.ref p) (upd H1 p (.lst xs.reverse))) (fun x H Q h => by
    obtain ⟨O, d1, d, fr, i1, hd, q⟩ := h
    cases d1 <;> simp only [op1] at hd <;> first | cases hd | skip
    obtain ⟨p, vs, rfl, h, l⟩ := i1.lstS
    exact ⟨p, vs, rfl, SqL.of h, fun r hr => q _ _ (same_upd hr) (Is.new_lst hr fr l.rev)⟩) q
/-- tests -/
theorem rt_re {g : Gw} {e : E} {σ : L2.St} {H : Hp} {Q : Bool → Hp → Prop} (h : RT g Wx e σ H Q) : RE g Wx e σ H fun x H1 => ∃ O d k, Is g.K g.w O H1 x d ∧ d.tru = some k ∧ Q k H1 := by
  obtain ⟨O, s, k, p⟩ := h
  refine ⟨O, s, k, (Post.bind (rel := IsD g) p).imp fun x H1 ⟨O1, d1, s1, e1, k1, i1, p1⟩ => ?_⟩
  obtain ⟨b, hb, q⟩ := Post.pure k1 p1
  exact ⟨O1, d1, b, i1, hb, q b H1 (Same.refl _) rfl⟩
theorem RE.imp {g : Gw} {e : E} {σ : L2.St} {H : Hp} {Q Q' : VK} (h : RE g Wx e σ H Q) (hq : ∀ x H, Q x H → Q' x H) : RE g Wx e σ H Q' := by
  obtain ⟨O, s, k, p⟩ := h
  exact ⟨O, s, k, p.imp hq⟩
theorem t_truth (ha : PE X a (RE (gOf X G c) Wx ma)) (he : ∀ whole, isTrue a X.env whole = (do let v ← whole; standAt a.pos; holding [v] (truthy v))) : PT X a (RT (gOf X G c) Wx ma) :=
  pt_imp (pt_truth ha he) fun σ H Q q => (rt_re q).imp fun x H1 ⟨O, d, k, i, e, q⟩ => ⟨k, i.truV e, q⟩
theorem t_not (ha : PT X a (RT (gOf X G c) Wx ma)) : PT X (.UnaryOp .Not a pos) (RT (gOf X G c) Wx (.un .not_ ma)) :=
  pt_imp (pt_not ha) fun σ H Q q => by
    obtain ⟨O, s, k, p⟩ := q
    unfold evb at p
    rw [ev] at p
    refine ⟨O, s, k, ?_⟩
    unfold evb
    cases e : ev (gOf X G c).G (gOf X G c).c ma s with
    | ok d s1 =>
      rw [e] at p
      simp only [R.bind] at p ⊢
      have : op1 .not_ d = d.tru.map fun b => D.bool !b := by cases d <;> rfl
      rw [this] at p
      cases e2 : d.tru with
      | none => rw [e2] at p; exact p.elim
      | some b =>
        rw [e2] at p
        intro O1 b' H1 x1 k1 r1
        subst r1
        exact p O1 (!b') H1 x1 k1 rfl
    | exn x s1 => rw [e] at p; exact p
    | bad => rw [e] at p; exact p.elim
def isCmp : O2 → Bool
  | .eq | .ne | .lt | .le | .gt | .ge | .in_ | .nin | .is_ | .isn => true
  | _ => false
theorem cmp_bool {o : O2} (h : isCmp o = true) {x y d : D} (e : op2 o x y = some d) : ∃ b, d = .bool b := by
  cases o <;> first | cases h | skip
  all_goals (cases x <;> cases y <;> simp only [op2] at e)
  all_goals first
    | exact ⟨_, (Option.some.inj e).symm⟩
    | (split at e <;> first | exact ⟨_, (Option.some.inj e).symm⟩ | cases e)
    | (obtain ⟨b, _, rfl⟩ := Option.map_eq_some_iff.mp e; exact ⟨_, rfl⟩)
    | cases e
theorem t_cmp {op : CmpOp} {o : O2} (hO : isCmp o = true) (ho : OpR X (compareOp op) (rP2 (gOf X G c) (op2 o))) (ha : PE X a (RE (gOf X G c) Wx ma)) (hb : PE X b (RE (gOf X G c) Wx mb)) (hp : pl b = true) : PT X (.Compare a [op] [b] pos) (RT (gOf X G c) Wx (.bi o ma mb)) :=
  pt_imp (pt_cmpR ho ha hb (pl_mark hp op)) fun σ H Q q => by
    have h := rt_re q
    refine re_bi (Q := fun x H1 => ∃ k, x = .bl k ∧ Q k H1) (fun _ _ _ _ h => h) ?_
    obtain ⟨O, s, k, p⟩ := q
    refine ⟨O, s, k, ?_⟩
    unfold evb at p
    have bo : ∀ d s1, ev (gOf X G c).G (gOf X G c).c (.bi o ma mb) s = .ok d s1 → ∃ b, d = .bool b := by
      intro d s1 e
      rw [ev] at e
      cases e1 : ev (gOf X G c).G (gOf X G c).c ma s with
      | ok x sx =>
        rw [e1] at e
        simp only [R.bind] at e
        cases e2 : ev (gOf X G c).G (gOf X G c).c mb sx with
        | ok y sy =>
          rw [e2] at e
          simp only [R.bind] at e
          cases e3 : op2 o x y with
          | none => rw [e3] at e; cases e
          | some z => rw [e3] at e; cases e; exact cmp_bool hO e3
        | exn x s1 => rw [e2] at e; cases e
        | bad => rw [e2] at e; cases e
      | exn x s1 => rw [e1] at e; cases e
      | bad => rw [e1] at e; cases e
    cases e : ev (gOf X G c).G (gOf X G c).c (.bi o ma mb) s with
    | ok d s1 =>
      rw [e] at p
      obtain ⟨b, rfl⟩ := bo d s1 e
      intro O1 v H1 x1 k1 i1
      cases i1
      exact ⟨b, rfl, p O1 b H1 x1 k1 rfl⟩
    | exn x s1 => rw [e] at p; exact p
    | bad => rw [e] at p; exact p.elim
end
end Ft
set_option Elab.async false
set_option linter.all false
set_option maxRecDepth 100000
set_option maxHeartbeats 2000000
namespace Ft
open PySem PyProof.Rows L2
section
variable {X : Cx} {G : Glob} {c : Oracle} {Wx : WX} {a b t : Expr} {ma mb mt mc : E} {pos : Pos} {rest : List Expr}
theorem Post.bindB {g : Gw} {α β : Type} {rel : Ow → Hp → β → α → Prop} {σ : L2.St} {O : Ow} {H : Hp} {s : Ft.St} {e : E} {f : Bool → Ft.St → R α} {Q : β → Hp → Prop}
    (h : Post g rel Wx σ O H ((evb g.G g.c e s).bind f) Q) : Post g IsB Wx σ O H (evb g.G g.c e s) (fun k H1 => ∃ O1 s1, Ext O H O1 H1 ∧ Ok g O1 σ H1 s1 ∧ Post g rel Wx σ O1 H1 (f k s1) Q) :=
  (Post.bind (rel := IsB) h).imp fun k H1 ⟨O1, k', s1, e1, k1, i1, p1⟩ => by
    cases (show k = k' from i1)
    exact ⟨O1, s1, e1, k1, p1⟩
theorem l_and (ha : PE X a (RE (gOf X G c) Wx ma)) (hb : PE X (.BoolOp .And (b :: rest) pos) (RE (gOf X G c) Wx mb)) : PE X (.BoolOp .And (a :: b :: rest) pos) (RE (gOf X G c) Wx (.and_ ma mb)) :=
  pe_imp (pe_andT ha hb) fun σ H Q q => by
    obtain ⟨O, s, k, p⟩ := q
    rw [ev] at p
    refine ⟨O, s, k, (Post.bind (rel := IsD _) p).imp fun x H1 ⟨O1, d1, s1, e1, k1, i1, p1⟩ => ?_⟩
    cases e : d1.tru with
    | none => rw [e] at p1; exact p1.elim
    | some v =>
      rw [e] at p1
      refine ⟨v, Is.truV i1 e, ?_⟩
      cases v with
      | true => exact ⟨O1, s1, k1, p1⟩
      | false => exact p1 O1 x H1 Ext.refl k1 i1
theorem l_or (ha : PE X a (RE (gOf X G c) Wx ma)) (hb : PE X (.BoolOp .Or (b :: rest) pos) (RE (gOf X G c) Wx mb)) : PE X (.BoolOp .Or (a :: b :: rest) pos) (RE (gOf X G c) Wx (.or_ ma mb)) :=
  pe_imp (pe_orT ha hb) fun σ H Q q => by
    obtain ⟨O, s, k, p⟩ := q
    rw [ev] at p
    refine ⟨O, s, k, (Post.bind (rel := IsD _) p).imp fun x H1 ⟨O1, d1, s1, e1, k1, i1, p1⟩ => ?_⟩
    cases e : d1.tru with
    | none => rw [e] at p1; exact p1.elim
    | some v =>
      rw [e] at p1
      refine ⟨v, Is.truV i1 e, ?_⟩
      cases v with
      | true => exact p1 O1 x H1 Ext.refl k1 i1
      | false => exact ⟨O1, s1, k1, p1⟩
theorem evb_and (e f : E) (s : Ft.St) : evb G c (.and_ e f) s = (evb G c e s).bind fun k s => if k then evb G c f s else .ok false s := by
  unfold evb
  rw [ev]
  cases ev G c e s with
  | ok d s1 =>
    simp only [R.bind]
    cases h : d.tru with
    | none => rfl
    | some k => cases k <;> simp [R.of, h]
  | exn x s1 => rfl
  | bad => rfl
theorem evb_or (e f : E) (s : Ft.St) : evb G c (.or_ e f) s = (evb G c e s).bind fun k s => if k then .ok true s else evb G c f s := by
  unfold evb
  rw [ev]
  cases ev G c e s with
  | ok d s1 =>
    simp only [R.bind]
    cases h : d.tru with
    | none => rfl
    | some k => cases k <;> simp [R.of, h]
  | exn x s1 => rfl
  | bad => rfl
theorem ev_ite (e f f' : E) (s : Ft.St) : ev G c (.ite e f f') s = (evb G c e s).bind fun k s => if k then ev G c f s else ev G c f' s := by
  unfold evb
  rw [ev]
  cases ev G c e s with
  | ok d s1 =>
    simp only [R.bind]
    cases h : d.tru with
    | none => rfl
    | some k => cases k <;> simp [R.of]
  | exn x s1 => rfl
  | bad => rfl
theorem w_and (ha : PT X a (RT (gOf X G c) Wx ma)) (hb : PW X (.BoolOp .And (b :: rest) pos) (RT (gOf X G c) Wx mb)) : PW X (.BoolOp .And (a :: b :: rest) pos) (RT (gOf X G c) Wx (.and_ ma mb)) :=
  pw_imp (pw_and ha hb) fun σ H Q q => by
    obtain ⟨O, s, k, p⟩ := q
    rw [evb_and] at p
    refine ⟨O, s, k, (Post.bindB p).imp fun v H1 ⟨O1, s1, e1, k1, p1⟩ => ?_⟩
    cases v with
    | true => exact ⟨O1, s1, k1, p1⟩
    | false => exact p1 O1 false H1 Ext.refl k1 rfl
theorem w_or (ha : PT X a (RT (gOf X G c) Wx ma)) (hb : PW X (.BoolOp .Or (b :: rest) pos) (RT (gOf X G c) Wx mb)) : PW X (.BoolOp .Or (a :: b :: rest) pos) (RT (gOf X G c) Wx (.or_ ma mb)) :=
  pw_imp (pw_or ha hb) fun σ H Q q => by
    obtain ⟨O, s, k, p⟩ := q
    rw [evb_or] at p
    refine ⟨O, s, k, (Post.bindB p).imp fun v H1 ⟨O1, s1, e1, k1, p1⟩ => ?_⟩
    cases v with
    | true => exact p1 O1 true H1 Ext.refl k1 rfl
    | false => exact ⟨O1, s1, k1, p1⟩
theorem l_ite (ht : PT X t (RT (gOf X G c) Wx mt)) (ha : PE X a (RE (gOf X G c) Wx ma)) (hb : PE X b (RE (gOf X G c) Wx mb)) : PE X (.IfExp t a b pos) (RE (gOf X G c) Wx (.ite mt ma mb)) :=
  pe_imp (pe_ifExp ht ha hb) fun σ H Q q => by
    obtain ⟨O, s, k, p⟩ := q
    rw [ev_ite] at p
    refine ⟨O, s, k, (Post.bindB p).imp fun v H1 ⟨O1, s1, e1, k1, p1⟩ => ?_⟩
    cases v with
    | true => exact ⟨O1, s1, k1, p1⟩
    | false => exact ⟨O1, s1, k1, p1⟩
theorem re_ch {g : Gw} {o o' : O2} (hO : isCmp o = true) {σ : L2.St} {H : Hp} {Q : VK} (h : RE g Wx (.ch o o' ma mb mc) σ H Q) : tChain (rP2 g (op2 o)) (rP2 g (op2 o')) (RE g Wx ma) (RE g Wx mb) (RE g Wx mc) σ H Q := by
  obtain ⟨O, s, k, p⟩ := h
  rw [ev] at p
  refine ⟨O, s, k, (Post.bind (rel := IsD g) p).imp fun x H1 ⟨O1, d1, s1, e1, k1, i1, p1⟩ => ?_⟩
  refine ⟨O1, s1, k1, (Post.bind (rel := IsD g) p1).imp fun y H2 ⟨O2, d2, s2, e2, k2, i2, p2⟩ => ?_⟩
  cases e : op2 o d1 d2 with
  | none => rw [e] at p2; exact p2.elim
  | some z =>
    rw [e] at p2
    obtain ⟨v, rfl⟩ := cmp_bool hO e
    refine ⟨O2, d1, d2, .bool v, fun p => k2.fresh, Is.ext e2.data i1, i2, e, fun w H3 sm iw => ?_⟩
    cases iw
    refine ⟨v, rfl, ?_⟩
    have k3 := k2.same sm
    have i3 : Is g.K g.w O2 H3 y d2 := Is.ext (Ext.same sm).data i2
    cases v with
    | true =>
      show RE g Wx mc σ H3 _
      have p2' : Post g (IsD g) Wx σ O2 H2 ((ev g.G g.c mc s2).bind fun z s => R.of (op2 o' d2 z) s) Q := p2
      have p3 : Post g (IsD g) Wx σ O2 H3 ((ev g.G g.c mc s2).bind fun z s => R.of (op2 o' d2 z) s) Q := by
        cases q : (ev g.G g.c mc s2).bind fun z s => R.of (op2 o' d2 z) s with
        | ok d s4 => rw [q] at p2'; exact fun O' b H' e' => p2' O' b H' ((Ext.same sm).trans e')
        | exn x s4 => rw [q] at p2'; exact fun O' H' cls dd e' => p2' O' H' cls dd ((Ext.same sm).trans e')
        | bad => rw [q] at p2'; exact p2'
      refine ⟨O2, s2, k3, (Post.bind (rel := IsD g) p3).imp fun w H4 ⟨O4, d4, s4, e4, k4, i4, p4⟩ => ?_⟩
      obtain ⟨d, hd, q⟩ := Post.pure k4 p4
      exact ⟨O4, d2, d4, d, fun p => k4.fresh, Is.ext e4.data i3, i4, hd, q⟩
    | false => exact p2 O2 (.bl false) H3 (Ext.same sm) k3 (.bl false)
theorem l_ch {op op' : CmpOp} {o o' : O2} {e : Expr} (hO : isCmp o = true) (ho : OpR X (compareOp op) (rP2 (gOf X G c) (op2 o))) (ho' : OpR X (compareOp op') (rP2 (gOf X G c) (op2 o'))) (ha : PE X a (RE (gOf X G c) Wx ma)) (hb : PE X b (RE (gOf X G c) Wx mb)) (he : PE X e (RE (gOf X G c) Wx mc)) (hp : pl e = true) :
    PE X (.Compare a [op, op'] [b, e] pos) (RE (gOf X G c) Wx (.ch o o' ma mb mc)) :=
  pe_imp (pe_chain ho ho' ha hb he (pl_mark hp op')) fun σ H Q q => re_ch hO q
theorem ev_ch_bool {o o' : O2} (hO' : isCmp o' = true) {s s1 : Ft.St} {d : D} (h : ev G c (.ch o o' ma mb mc) s = .ok d s1) : ∃ v, d = .bool v := by
  rw [ev] at h
  cases e1 : ev G c ma s with
  | ok x sx =>
    rw [e1] at h
    simp only [R.bind] at h
    cases e2 : ev G c mb sx with
    | ok y sy =>
      rw [e2] at h
      simp only [R.bind] at h
      split at h
      · cases e3 : ev G c mc sy with
        | ok z sz =>
          rw [e3] at h
          simp only [R.bind] at h
          cases e4 : op2 o' y z with
          | none => rw [e4] at h; cases h
          | some w => rw [e4] at h; cases h; exact cmp_bool hO' e4
        | exn x s1 => rw [e3] at h; cases h
        | bad => rw [e3] at h; cases h
      · cases h; exact ⟨false, rfl⟩
      · cases h
    | exn x s1 => rw [e2] at h; cases h
    | bad => rw [e2] at h; cases h
  | exn x s1 => rw [e1] at h; cases h
  | bad => rw [e1] at h; cases h
theorem rt_bool {g : Gw} {e : E} {σ : L2.St} {H : Hp} {Q : Bool → Hp → Prop} (hb : ∀ s s1 d, ev g.G g.c e s = .ok d s1 → ∃ v, d = .bool v) (h : RT g Wx e σ H Q) : RE g Wx e σ H fun x H1 => ∃ k, x = .bl k ∧ Q k H1 := by
  obtain ⟨O, s, k, p⟩ := h
  refine ⟨O, s, k, ?_⟩
  unfold evb at p
  cases e1 : ev g.G g.c e s with
  | ok d s1 =>
    rw [e1] at p
    obtain ⟨b, rfl⟩ := hb s s1 d e1
    intro O1 v H1 x1 k1 i1
    cases i1
    exact ⟨b, rfl, p O1 b H1 x1 k1 rfl⟩
  | exn x s1 => rw [e1] at p; exact p
  | bad => rw [e1] at p; exact p.elim
/-! ### slices -/
def RO (g : Gw) (Wx : WX) (o : Option E) : TO := fun σ H Q => ∃ O s, Ok g O σ H s ∧ Post g IsOI Wx σ O H (evo g.G g.c o s) Q
theorem po_imp {X : Cx} {e : Option Expr} {t t' : TO} (h : PO X e t) (i : ∀ σ H Q, t' σ H Q → t σ H Q) : PO X e t' := ⟨fun pins s σ H Q I q => h.run pins s σ H Q I (i σ H Q q)⟩
theorem o_none : PO X none (RO (gOf X G c) Wx none) := po_imp po_none fun σ H Q q => by
  obtain ⟨O, s, k, p⟩ := q
  exact p O none H Ext.refl k rfl
theorem o_some (ha : PE X a (RE (gOf X G c) Wx ma)) : PO X (some a) (RO (gOf X G c) Wx (some ma)) := po_imp (po_some ha) fun σ H Q q => by
  obtain ⟨O, s, k, p⟩ := q
  rw [evo] at p
  refine ⟨O, s, k, (Post.bind (rel := IsD _) p).imp fun x H1 ⟨O1, d1, s1, e1, k1, i1, p1⟩ => ?_⟩
  cases d1 <;> first | exact p1.elim | skip
  cases i1
  exact ⟨_, rfl, p1 O1 (some _) H1 Ext.refl k1 rfl⟩
theorem l_slc {lo hi : Option Expr} {ml mh : Option E} {p2 : Pos} (ha : PE X a (RE (gOf X G c) Wx ma)) (hl : PO X lo (RO (gOf X G c) Wx ml)) (hh : PO X hi (RO (gOf X G c) Wx mh)) : PE X (.Subscript a (.Slice lo hi none p2) pos) (RE (gOf X G c) Wx (.slc ma ml mh)) :=
  pe_imp (pe_slice slr_all ha hl hh) fun σ H Q q => by
    obtain ⟨O, s, k, p⟩ := q
    rw [ev] at p
    refine ⟨O, s, k, (Post.bind (rel := IsD _) p).imp fun x H1 ⟨O1, d1, s1, e1, k1, i1, p1⟩ => ?_⟩
    refine ⟨O1, s1, k1, (Post.bind (rel := IsOI) p1).imp fun l H2 ⟨O2, d2, s2, e2, k2, i2, p2⟩ => ?_⟩
    refine ⟨O2, s2, k2, (Post.bind (rel := IsOI) p2).imp fun u H3 ⟨O3, d3, s3, e3, k3, i3, p3⟩ => ?_⟩
    cases (show l = d2 from i2)
    cases (show u = d3 from i3)
    obtain ⟨d, hd, q⟩ := Post.pure k3 p3
    exact ⟨O3, d1, d, fun p => k3.fresh, Is.ext (e2.trans e3).data i1, hd, q⟩
/-! ### slots that own a list or a dict -/
theorem l_oLen {i : Nat} {x : Str} {p : Pos} (h : PE X (.Name x p) (tVar i)) {p2 : Pos} (hg : Gl X "len") (hm : X.mg "len" = none) : PE X (.Call (.Name "len" p2) [.Name x p] [] pos) (RE (gOf X G c) Wx (.oLen i)) :=
  pe_imp (pe_callB (call_len.or call_lenD) hg hm PySem.boot_len (pa_cons h pa_nil rfl) (by decide) (by decide) rfl rfl) fun σ H Q q => by
    obtain ⟨O, s, k, p⟩ := q
    rw [ev] at p
    cases e : s.env[i]? with
    | none => rw [e] at p; exact p.elim
    | some y =>
      rw [e] at p
      have q := k.slot i y e
      cases y with
      | ol xs =>
        obtain ⟨a, vs, h1, h2, h3, h4⟩ := q
        refine ⟨_, h1, .inl ⟨_, _, rfl, .inl ⟨_, SqL.of h3, rfl⟩, ?_⟩⟩
        rw [h4.len]
        exact p O _ H Ext.refl k (.int _)
      | od kvs =>
        obtain ⟨a, vs, h1, h2, h3, h4⟩ := q
        refine ⟨_, h1, .inr ⟨_, _, rfl, h3, ?_⟩⟩
        have len : ∀ {vs : List (Key × V)} {ds : List (Ky × D)}, IsK X.K X.w O H vs ds → vs.length = ds.length := by
          intro vs ds hk
          induction ds generalizing vs with
          | nil => cases hk; rfl
          | cons d ds ih => cases hk with | cons _ l => simp [ih l]
        rw [len h4]
        exact p O _ H Ext.refl k (.int _)
      | d x =>
        cases x with
        | lst xs =>
          obtain ⟨v, h1, iv⟩ := q
          cases iv with
          | lst h o l =>
            refine ⟨_, h1, .inl ⟨_, _, rfl, .inl ⟨_, SqL.of h, rfl⟩, ?_⟩⟩
            rw [l.len]
            exact p O _ H Ext.refl k (.int _)
        | _ => exact p.elim
      | no => exact p.elim
theorem IsK.look {K : PySem.W.Frag} {w : World} {O : Ow} {H : Hp} {vs : List (Key × V)} {ds : List (Ky × D)} (l : IsK K w O H vs ds) (k : Ky) : (L2.valV vs (kK k)).isSome = (Ft.look ds k).isSome := by
  obtain ⟨g1, g2⟩ := l.valV k
  cases e : Ft.look ds k with
  | none => rw [g2 e]; rfl
  | some d => obtain ⟨v', e', _⟩ := g1 d e; rw [e']; rfl
/-- in, not in, by values, the right one in a slot -/
def rOin (g : Gw) (ng : Bool) : R2 := fun x y H Q => (∃ O d vs xs a b, Is g.K g.w O H x d ∧ y = .ref a ∧ H a = some (.lst vs) ∧ IsL g.K g.w O H vs xs ∧ inSeq d xs = some b ∧ Q (.bl (if ng then !b else b)) H) ∨
  (∃ O d vs kvs a k, Is g.K g.w O H x d ∧ y = .ref a ∧ H a = some (.dK vs) ∧ IsK g.K g.w O H vs kvs ∧ ky d = some k ∧ Q (.bl (if ng then !(Ft.look kvs k).isSome else (Ft.look kvs k).isSome)) H)
theorem or_oin (hu : X.A.units + 1 < cLine) : OpR X (compareOp .In) (rOin (gOf X G c) false) := by
  intro pins s σ H x y v u Q I rx ry h
  rcases h with ⟨O, d, vs, xs, a, b, i, rfl, ha, l, hb, q⟩ | ⟨O, d, vs, kvs, a, k, i, rfl, ha, l, hk, q⟩
  · obtain ⟨f1, f2, e⟩ := inSeq_of hb
    refine op_in_seq pins s σ H _ _ v u Q I rx ry ⟨_, _, rfl, .inl (SqL.of ha), i.flatV f1, l.flatAll f2, ?_⟩
    rw [IsL.inV i f1 l f2, e]
    exact q
  · have key := i.key hk
    subst key
    cases (show u = Value.ref _ from ry)
    refine d_in hu I (DGet.k (k := kK k) ha) rx fun s' I' => ⟨.bl _, H, I', rfl, ?_⟩
    rw [l.look k]
    exact q
theorem or_onin (hu : X.A.units + 1 < cLine) : OpR X (compareOp .NotIn) (rOin (gOf X G c) true) := by
  intro pins s σ H x y v u Q I rx ry h
  rcases h with ⟨O, d, vs, xs, a, b, i, rfl, ha, l, hb, q⟩ | ⟨O, d, vs, kvs, a, k, i, rfl, ha, l, hk, q⟩
  · obtain ⟨f1, f2, e⟩ := inSeq_of hb
    refine op_notIn_seq pins s σ H _ _ v u Q I rx ry ⟨_, _, rfl, .inl (SqL.of ha), i.flatV f1, l.flatAll f2, ?_⟩
    rw [IsL.inV i f1 l f2, e]
    exact q
  · have key := i.key hk
    subst key
    cases (show u = Value.ref _ from ry)
    refine d_notIn hu I (DGet.k (k := kK k) ha) rx fun s' I' => ⟨.bl _, H, I', rfl, ?_⟩
    rw [l.look k]
    exact q
theorem re_oIn {g : Gw} {i : Nat} {σ : L2.St} {H : Hp} {Q : VK} (h : RE g Wx (.oIn ma i) σ H Q) : tOp (rOin g false) (RE g Wx ma) (tVar i) σ H Q := by
  obtain ⟨O, s, k, p⟩ := h
  rw [ev] at p
  refine ⟨O, s, k, (Post.bind (rel := IsD g) p).imp fun x H1 ⟨O1, d1, s1, e1, k1, i1, p1⟩ => ?_⟩
  cases e : s1.env[i]? with
  | none => rw [e] at p1; exact p1.elim
  | some y =>
    rw [e] at p1
    have q := k1.slot i y e
    cases y with
    | ol xs =>
      obtain ⟨a, vs, h1, h2, h3, h4⟩ := q
      cases hb : inSeq d1 xs with
      | none => dsimp only at p1; rw [hb] at p1; exact p1.elim
      | some b => dsimp only at p1; rw [hb] at p1; exact ⟨_, h1, .inl ⟨O1, d1, vs, xs, a, b, i1, rfl, h3, h4, hb, p1 O1 _ H1 Ext.refl k1 (.bl b)⟩⟩
    | od kvs =>
      obtain ⟨a, vs, h1, h2, h3, h4⟩ := q
      cases hb : ky d1 with
      | none => dsimp only at p1; rw [hb] at p1; exact p1.elim
      | some b => dsimp only at p1; rw [hb] at p1; exact ⟨_, h1, .inr ⟨O1, d1, vs, kvs, a, b, i1, rfl, h3, h4, hb, p1 O1 _ H1 Ext.refl k1 (.bl _)⟩⟩
    | _ => exact p1.elim
theorem re_oNin {g : Gw} {i : Nat} {σ : L2.St} {H : Hp} {Q : VK} (h : RE g Wx (.oNin ma i) σ H Q) : tOp (rOin g true) (RE g Wx ma) (tVar i) σ H Q := by
  obtain ⟨O, s, k, p⟩ := h
  rw [ev] at p
  refine ⟨O, s, k, (Post.bind (rel := IsD g) p).imp fun x H1 ⟨O1, d1, s1, e1, k1, i1, p1⟩ => ?_⟩
  cases e : s1.env[i]? with
  | none => rw [e] at p1; exact p1.elim
  | some y =>
    rw [e] at p1
    have q := k1.slot i y e
    cases y with
    | ol xs =>
      obtain ⟨a, vs, h1, h2, h3, h4⟩ := q
      cases hb : inSeq d1 xs with
      | none => dsimp only at p1; rw [hb] at p1; exact p1.elim
      | some b => dsimp only at p1; rw [hb] at p1; exact ⟨_, h1, .inl ⟨O1, d1, vs, xs, a, b, i1, rfl, h3, h4, hb, p1 O1 _ H1 Ext.refl k1 (.bl _)⟩⟩
    | od kvs =>
      obtain ⟨a, vs, h1, h2, h3, h4⟩ := q
      cases hb : ky d1 with
      | none => dsimp only at p1; rw [hb] at p1; exact p1.elim
      | some b => dsimp only at p1; rw [hb] at p1; exact ⟨_, h1, .inr ⟨O1, d1, vs, kvs, a, b, i1, rfl, h3, h4, hb, p1 O1 _ H1 Ext.refl k1 (.bl _)⟩⟩
    | _ => exact p1.elim
theorem l_oIn {i : Nat} {x : Str} {p : Pos} (hu : X.A.units + 1 < cLine) (h : PE X (.Name x p) (tVar i)) (ha : PE X a (RE (gOf X G c) Wx ma)) : PE X (.Compare a [.In] [.Name x p] pos) (RE (gOf X G c) Wx (.oIn ma i)) :=
  pe_imp (pe_cmpR (or_oin hu) ha h rfl) fun σ H Q q => re_oIn q
theorem l_oNin {i : Nat} {x : Str} {p : Pos} (hu : X.A.units + 1 < cLine) (h : PE X (.Name x p) (tVar i)) (ha : PE X a (RE (gOf X G c) Wx ma)) : PE X (.Compare a [.NotIn] [.Name x p] pos) (RE (gOf X G c) Wx (.oNin ma i)) :=
  pe_imp (pe_cmpR (or_onin hu) ha h rfl) fun σ H Q q => re_oNin q
theorem l_oIdx {i : Nat} {x : Str} {p : Pos} (h : PE X (.Name x p) (tVar i)) (hb : PE X b (RE (gOf X G c) Wx mb)) (hp : pl b = true) : PE X (.Subscript (.Name x p) b pos) (RE (gOf X G c) Wx (.oIdx i mb)) :=
  pe_imp (pe_ix ix_list h hb (pl_ix hp)) fun σ H Q q => by
    obtain ⟨O, s, k, p⟩ := q
    rw [ev] at p
    cases e : s.env[i]? with
    | none => rw [e] at p; exact p.elim
    | some y =>
      rw [e] at p
      have sl := k.slot i y e
      cases y <;> first | exact p.elim | skip
      obtain ⟨a, vs, h1, h2, h3, h4⟩ := sl
      refine ⟨_, h1, O, s, k, (Post.bind (rel := IsD _) p).imp fun y H1 ⟨O1, d1, s1, e1, k1, i1, p1⟩ => ?_⟩
      cases e2 : s1.env[i]? with
      | none => rw [e2] at p1; cases d1 <;> exact p1.elim
      | some z =>
        rw [e2] at p1
        have sl1 := k1.slot i z e2
        cases z with
        | ol xs =>
          cases d1 <;> first | exact p1.elim | skip
          obtain ⟨a', vs', g1, g2, g3, g4⟩ := sl1
          rw [h1] at g1
          cases g1
          obtain ⟨d, hd, q⟩ := Post.pure k1 p1
          cases i1
          obtain ⟨z, z1, z2⟩ := g4.at hd
          exact ⟨_, _, _, _, rfl, rfl, SqL.of g3, z1, q _ _ (Same.refl _) z2⟩
        | _ => cases d1 <;> exact p1.elim
theorem ev_oIn_bool {i : Nat} {s s1 : Ft.St} {d : D} (h : ev G c (.oIn ma i) s = .ok d s1) : ∃ v, d = .bool v := by
  rw [ev] at h
  cases e1 : ev G c ma s with
  | ok x sx =>
    rw [e1] at h
    simp only [R.bind] at h
    split at h
    · rename_i xs _
      cases e : inSeq x xs with
      | none => rw [e] at h; cases h
      | some b => rw [e] at h; cases h; exact ⟨_, rfl⟩
    · cases e : ky x with
      | none => rw [e] at h; cases h
      | some b => rw [e] at h; cases h; exact ⟨_, rfl⟩
    · cases h
  | exn x s1 => rw [e1] at h; cases h
  | bad => rw [e1] at h; cases h
theorem ev_oNin_bool {i : Nat} {s s1 : Ft.St} {d : D} (h : ev G c (.oNin ma i) s = .ok d s1) : ∃ v, d = .bool v := by
  rw [ev] at h
  cases e1 : ev G c ma s with
  | ok x sx =>
    rw [e1] at h
    simp only [R.bind] at h
    split at h
    · rename_i xs _
      cases e : inSeq x xs with
      | none => rw [e] at h; cases h
      | some b => rw [e] at h; cases h; exact ⟨_, rfl⟩
    · cases e : ky x with
      | none => rw [e] at h; cases h
      | some b => rw [e] at h; cases h; exact ⟨_, rfl⟩
    · cases h
  | exn x s1 => rw [e1] at h; cases h
  | bad => rw [e1] at h; cases h
theorem t_oIn {i : Nat} {x : Str} {p : Pos} (hu : X.A.units + 1 < cLine) (h : PE X (.Name x p) (tVar i)) (ha : PE X a (RE (gOf X G c) Wx ma)) : PT X (.Compare a [.In] [.Name x p] pos) (RT (gOf X G c) Wx (.oIn ma i)) :=
  pt_imp (pt_cmpR (or_oin hu) ha h rfl) fun σ H Q q => re_oIn (rt_bool (fun _ _ _ => ev_oIn_bool) q)
theorem t_oNin {i : Nat} {x : Str} {p : Pos} (hu : X.A.units + 1 < cLine) (h : PE X (.Name x p) (tVar i)) (ha : PE X a (RE (gOf X G c) Wx ma)) : PT X (.Compare a [.NotIn] [.Name x p] pos) (RT (gOf X G c) Wx (.oNin ma i)) :=
  pt_imp (pt_cmpR (or_onin hu) ha h rfl) fun σ H Q q => re_oNin (rt_bool (fun _ _ _ => ev_oNin_bool) q)
theorem t_ch {op op' : CmpOp} {o o' : O2} {e : Expr} (hO : isCmp o = true) (hO' : isCmp o' = true) (ho : OpR X (compareOp op) (rP2 (gOf X G c) (op2 o))) (ho' : OpR X (compareOp op') (rP2 (gOf X G c) (op2 o'))) (ha : PE X a (RE (gOf X G c) Wx ma)) (hb : PE X b (RE (gOf X G c) Wx mb)) (he : PE X e (RE (gOf X G c) Wx mc)) (hp : pl e = true) :
    PT X (.Compare a [op, op'] [b, e] pos) (RT (gOf X G c) Wx (.ch o o' ma mb mc)) :=
  pt_imp (pt_chain ho ho' ha hb he (pl_mark hp op')) fun σ H Q q => re_ch hO (rt_bool (fun _ _ _ => ev_ch_bool hO') q)
end
end Ft
set_option Elab.async false
set_option linter.all false
set_option maxRecDepth 100000
set_option maxHeartbeats 2000000
/-! room for calls within one another, one level a call; what a def promises there -/
namespace Ft
open PySem PySem.Spec PyProof.Rows L2
structure Rm (n : Nat) (A : Around) : Prop where
  hd : A.handled = none
  deep : A.depth + n + 16 < recursionLimit
  unit : A.units + 4 * n + 250 < cLine
section
variable {n : Nat} {A : Around}
theorem Rm.inner (r : Rm (n + 1) A) (e : Env) : Rm n (A.deeper e) := by
  obtain ⟨a, b, c⟩ := r
  refine ⟨a, ?_, ?_⟩
  · show A.depth + 1 + n + 16 < _
    omega
  · show A.units + 3 + 4 * n + 250 < _
    omega
theorem Rm.make (r : Rm (n + 1) A) (C : Addr) (us : List Value) (kw : List (Str × Value)) : Rm n (A.under (.builtin "type.__call__" ⟨.ref C :: us, kw⟩)) := by
  obtain ⟨a, b, c⟩ := r
  refine ⟨a, ?_, ?_⟩
  · rw [make_depth]
    omega
  · rw [make_units]
    omega
theorem Rm.units (r : Rm n A) : A.units + 64 < cLine := by
  obtain ⟨a, b, c⟩ := r
  omega
theorem Rm.depth (r : Rm n A) : A.depth < recursionLimit := by
  obtain ⟨a, b, c⟩ := r
  omega
theorem Rm.two (r : Rm n A) : Room 2 A := by
  obtain ⟨a, b, c⟩ := r
  exact ⟨a, by omega, by omega⟩
theorem Rm.of {k : Nat} (r : Room k A) (h : n + 12 ≤ 3 * k) : Rm n A := by
  obtain ⟨a, b, c⟩ := r
  exact ⟨a, by omega, by omega⟩
end
structure Fk (P : Program) (w : World) (K : PySem.W.Frag) (mg : Str → Option Value) (base : Heap) (n : Nat) (f : Addr) (fd : FuncData) (ps : List Str) (sp : Sp) : Prop where
  size : ∀ vs H Q E, sp vs H Q E → vs.length = ps.length
  go : ∀ (A : Around) (outer : List Env) (s : Shared) (H : Hp) (args : Args) (us : List Value) (vs : List V) (Q : VK) (E : XK), Rm n A → Env0 P w K mg base A outer s H → BindsTo s fd args (ps.zip us) → Vals vs us → sp vs H Q E →
    codeAny (model P w) A (.call (.ref f) args) (CR (L2.CX P w) outer P w H s Q E) s
theorem Fk.toOk {P : Program} {w : World} {K : PySem.W.Frag} {mg : Str → Option Value} {base : Heap} {n k : Nat} {f : Addr} {fd : FuncData} {ps : List Str} {sp : Sp} (F : Fk P w K mg base n f fd ps sp) (h : n + 12 ≤ 3 * k) : FnOk P w K mg base (L2.CX P w) k f fd ps sp :=
  ⟨F.size, fun A o s H a us vs Q E r => F.go A o s H a us vs Q E (Rm.of r h)⟩
section
variable {X : Cx} {n : Nat} {f : Addr} {fd : FuncData} {ps : List Str} {sp : Sp} {W : L2.St → XK}
theorem run_fk {pins : List (Addr × Obj)} {σ : L2.St} {H : Hp} {s : Shared} {Q : VK} {us : List Value} {vs : List V} (F : Fk X.prog X.w X.K X.mg X.base n f fd ps sp) (r : Rm n X.A) (hb : Binds X.K fd ps []) (hx : PassesAt (L2.CX X.prog X.w) X σ (W σ)) (J : Inv X pins σ H s) (rv : Vals vs us) (q : sp vs H Q (W σ)) :
    wpAny (model X.prog X.w) X.A (call (.ref f) us) (EP X pins σ Q) X.xe s := by
  have lu : us.length = ps.length := rv.length.symm.trans (F.size _ _ _ _ q)
  have bd := hb s us J.kIn (by rw [List.append_nil, lu])
  rw [List.append_nil] at bd
  refine wpAny_call (codeAny_mono (F.go X.A X.stack s H ⟨us, []⟩ us vs Q (W σ) r J.env0 bd rv q) fun r s' z => ?_)
  cases r with
  | error e => exact hx pins H s e s' J z
  | ok fl => cases fl with
    | ret u => exact J.after z
    | next => exact z.elim
    | brk => exact z.elim
    | cont => exact z.elim
theorem pe_callF {x : Str} {p pos : Pos} {e : Expr} {es : List Expr} {t : TA} (F : Fk X.prog X.w X.K X.mg X.base n f fd ps sp) (r : Rm n X.A) (hg : Gl X x) (hm : X.mg x = some (.ref f)) (hk : PySem.W.keepIn X.K (.ref f) = true) (hb : Binds X.K fd ps []) (hx : ∀ σ, PassesAt (L2.CX X.prog X.w) X σ (W σ)) (ha : PA X (e :: es) t)
    (hdb : (x == ("__debug__" : Str)) = false) (he : starEach (e :: es) X.env = (false, eval e X.env) :: starEach es X.env) (hpl : (backTo pos (starEach es X.env)).any (·.1) = false) : PE X (.Call (.Name x p) (e :: es) [] pos) (tCallS sp W t) := by
  refine ⟨fun pins s σ H Q J h => wpAny_Call_Name_kw (ld_glob J hg hm ?_ hdb)⟩
  refine PySem.W.callWith_K (h₀ := X.base) J.ok.mod.kin hk (thn (ha.run pos pins s σ H _ J h) fun us s1 hh => ?_) he hpl
  obtain ⟨vs, H1, J1, rv, q⟩ := hh
  exact ⟨J1.kIn, run_fk F r hb (hx σ) J1 rv q⟩
end
/-- a def by its body -/
theorem fk_of {P : Program} {w : World} {K : PySem.W.Frag} {mg : Str → Option Value} {base : Heap} {x qual : Str} {st : Stmt} {f : Addr} {fd : FuncData} {N ps : List Str} {n : Nat} {sp : Sp} (F : Fun K x qual st f fd) (S : FnScope N ps (defScope st)) (size : ∀ vs H Q E, sp vs H Q E → vs.length = ps.length)
    (bd : ∀ (cdv : Value) (A : Around) (outer : List Env) (s : Shared) (H : Hp) (vs : List V) (Q : VK) (E : XK), Rm n (A.deeper (envOfC qual (defScope st) s.heap.objs.size f cdv)) → sp vs H Q E →
      ∃ t, PSs (cxOf (L2.CX P w) P w K mg base N qual (defScope st) f cdv A outer s H E) (defBody st) t ∧ t { nx := fun _ H' => Q .non H', rt := Q } (start N vs) H) : Fk P w K mg base (n + 1) f fd ps sp := by
  obtain ⟨oc, od, kV, doc, pm, an, cdv, ct, osl, rfl, lk, hcd⟩ := F.ex
  refine ⟨size, fun A outer s H args us vs Q E r e0 hb rv hsp => ?_⟩
  have ln := size _ _ _ _ hsp
  have kx : K.In s.heap := e0.mod.kin.keeps fun b o e => (e0.bs b o e).1
  have li : s.heap.NoLimit := e0.mod.nolimit.keeps fun b o e => (e0.bs b o e).1
  have kd : ∀ y ∈ ps.zip us, (defScope st).names.lookup y.1 = some .local ∨ ((defScope st).names.lookup y.1 = some .cell ∧ ((cellsFrom (s.heap.objs.size + 1) (defScope st).names []).lookup y.1).isSome = true) := fun y hy =>
    (S.par y.1 (List.of_mem_zip (show (y.1, y.2) ∈ ps.zip us from hy)).1).imp id fun q => ⟨q, PySem.W.cellsFrom_some _ _ _ (.inl q)⟩
  refine codeAny_call_function r.depth (kx _ _ lk) rfl S.co S.gen rfl (PySem.W.codeRec_of kx hcd) (hb _ _ _ _ (wpAny_newFunctionEnv_cells S.kind kd fun env he s1 y => ?_))
  subst he
  refine ⟨li.keeps y.toInCall.keep, codeAny_func ?_⟩
  obtain ⟨t, ht, hq⟩ := bd cdv A outer s H vs Q E (r.inner _) hsp
  have J : Inv (cxOf (L2.CX P w) P w K mg base N qual (defScope st) f cdv A outer s H E) [] (start N vs) H s1 := inv_start S r.hd e0 ln rv y
  refine wpAny_mono (ht.run [] s1 (start N vs) H _ J hq) (fun fl s' z => ?_) fun e s' z => z
  cases fl with
  | ret u =>
    obtain ⟨v, σ', H', J', rv', q⟩ := z
    exact ⟨v, H', J'.os, J'.bare, J'.base, J'.hok, rv', q⟩
  | next =>
    obtain ⟨σ', H', J', q⟩ := z
    exact ⟨V.non, H', J'.os, J'.bare, J'.base, J'.hok, rfl, q⟩
  | brk =>
    obtain ⟨_, _, _, q⟩ := z
    exact q.elim
  | cont =>
    obtain ⟨_, _, _, q⟩ := z
    exact q.elim
end Ft
set_option Elab.async false
set_option linter.all false
set_option maxRecDepth 100000
set_option maxHeartbeats 2000000
namespace Ft
open PySem PyProof.Rows L2
/-! ### calls -/
def RetP (g : Gw) (O : Ow) (H : Hp) (r : Ret) (Q : VK) (E : XK) : Prop := match r with
  | .ok d _ hp => ∀ O' v H', Ext O H O' H' → (∀ a, O' a ≠ Option.none → H' a ≠ Option.none) → Cells g O' H' hp → Is g.K g.w O' H' v d → Q v H'
  | .exn x hp => ∀ O' H' cls dd, Ext O H O' H' → (∀ a, O' a ≠ Option.none → H' a ≠ Option.none) → Cells g O' H' hp → ExnIs g x cls dd H' → E cls dd H'
  | .bad => False
/-- a def's promise: it tells what the interpreter tells -/
def spOf (g : Gw) (f : Tx) : Sp := fun vs H Q E => ∃ O ds, (∀ a, O a ≠ Option.none → H a ≠ Option.none) ∧ (∀ a i, O a ≠ some (Own.sl i)) ∧ IsL g.K g.w O H vs ds ∧ ∃ hp, Cells g O H hp ∧ RetP g O H (g.c f ds hp) Q E
def Own.z : Own → Own
  | .cell i => .cell i
  | _ => .out
def outz (O : Ow) : Ow := fun a => (O a).map Own.z
def mergeO (H : Hp) (O O' : Ow) : Ow := fun a => match H a with
  | some _ => O a
  | none => (O' a).map Own.z
theorem outz_none {O : Ow} {a : Addr} (h : O a = Option.none) : outz O a = Option.none := by unfold outz; rw [h]; rfl
theorem zmap_sl {o : Option Own} {i : Nat} : o.map Own.z ≠ some (.sl i) := by
  cases o with
  | none => simp
  | some t => cases t <;> simp [Own.z]
theorem zmap_cell {o : Option Own} {i : Nat} : o.map Own.z = some (.cell i) ↔ o = some (.cell i) := by
  cases o with
  | none => simp
  | some t => cases t <;> simp [Own.z]
theorem outz_sl {O : Ow} {a : Addr} {i : Nat} : outz O a ≠ some (.sl i) := zmap_sl
theorem outz_cell {O : Ow} {a : Addr} {i : Nat} : outz O a = some (.cell i) ↔ O a = some (.cell i) := zmap_cell
theorem outz_data {O : Ow} {H : Hp} : DExt O H (outz O) H := ⟨fun a o h q => ⟨outz_none q, _, h, .inl rfl⟩, fun a i h q => ⟨outz_cell.mpr q, h⟩⟩
section
variable {g : Gw} {O O' : Ow} {H H' : Hp} {σ : L2.St} {s : Ft.St}
theorem mergeO_old {a : Addr} (h : H a ≠ Option.none) : mergeO H O O' a = O a := by
  unfold mergeO
  cases e : H a with
  | none => exact absurd e h
  | some o => rfl
theorem merge_ext (e : Ext (outz O) H O' H') : Ext O H (mergeO H O O') H' where
  own := fun a h => mergeO_old h
  keepw := fun a o h _ hc => by
    obtain ⟨o', h1, u⟩ := e.keepw a o h (fun i => outz_sl) fun i z => hc i (outz_cell.mp z)
    refine ⟨o', h1, ?_⟩
    rcases u with u | ⟨u, r⟩
    · exact .inl u
    · refine .inr ⟨?_, r⟩
      unfold outz at u
      cases e2 : O a with
      | none => rfl
      | some t => rw [e2] at u; cases t <;> cases u
  there := e.there
theorem merge_cell (e : Ext (outz O) H O' H') {a : Addr} {i : Nat} : mergeO H O O' a = some (.cell i) ↔ O' a = some (.cell i) := by
  unfold mergeO
  cases e' : H a with
  | none => exact zmap_cell
  | some o' =>
    rw [e.own a (by rw [e']; simp)]
    exact outz_cell.symm
theorem merge_data (e : Ext (outz O) H O' H') : DExt O' H' (mergeO H O O') H' := by
  refine ⟨fun a o h q => ⟨?_, _, h, .inl rfl⟩, fun a i h q => ⟨(merge_cell e).mpr q, h⟩⟩
  unfold mergeO
  cases e' : H a with
  | none => simp [q]
  | some o' =>
    have := e.own a (by rw [e']; simp)
    rw [q] at this
    unfold outz at this
    cases e2 : O a with
    | none => rfl
    | some t => rw [e2] at this; cases t <;> cases this
theorem Cells.merge {hp : List Cell} (k : Cells g O' H' hp) (e : Ext (outz O) H O' H') : Cells g (mergeO H O O') H' hp :=
  k.ext (merge_data e) (fun _ _ _ => rfl) fun a i h => (merge_cell e).mp h
theorem Ok.called (k : Ok g O σ H s) (e : Ext (outz O) H O' H') (t : ∀ a, O' a ≠ Option.none → H' a ≠ Option.none) {hp : List Cell} (kc : Cells g O' H' hp) : Ok g (mergeO H O O') σ H' { s with hp := hp } := by
  have x := merge_ext e
  refine ⟨k.len, fun i y hy => ?_, fun a ha => ?_, kc.merge e⟩
  · have q := k.slot i y hy
    cases y with
    | no => trivial
    | d y => obtain ⟨v, h1, h2⟩ := q; exact ⟨v, h1, h2.ext x.data⟩
    | ol xs =>
      obtain ⟨a, vs, h1, h2, h3, h4⟩ := q
      exact ⟨a, vs, h1, (mergeO_old (by rw [h3]; simp)).trans h2, e.keep a _ h3 (fun i => outz_sl) (fun i z => by rw [outz_cell.mp z] at h2; cases h2), h4.ext x.data⟩
    | od xs =>
      obtain ⟨a, vs, h1, h2, h3, h4⟩ := q
      exact ⟨a, vs, h1, (mergeO_old (by rw [h3]; simp)).trans h2, e.keep a _ h3 (fun i => outz_sl) (fun i z => by rw [outz_cell.mp z] at h2; cases h2) (.inl (by unfold outz; rw [h2]; simp)), h4.ext x.data⟩
  · cases e' : H a with
    | some o => exact e.there a (by rw [e']; simp)
    | none =>
      refine t a fun z => ha ?_
      unfold mergeO
      rw [e', z]
      rfl
end
section
variable {X : Cx} {G : Glob} {c : Oracle} {Wx : WX} {a b t : Expr} {ma mb mt mc : E} {pos : Pos}
theorem l_call {f : Str} {n : Nat} {fa : Addr} {fd : FuncData} {ps : List Str} {es : List Expr} {ms : List E} {p : Pos} {ft : Tx} (F : Fk X.prog X.w X.K X.mg X.base n fa fd ps (spOf (gOf X G c) ft)) (hr : Rm n X.A) (hg : Gl X f) (hm : X.mg f = some (.ref fa)) (hk : PySem.W.keepIn X.K (.ref fa) = true)
    (hb : Binds X.K fd ps []) (tk : Takes X Wx) (hs : PA X (a :: es) (RA (gOf X G c) Wx ms)) (hp : (a :: es).all pl = true) (hdb : (f == ("__debug__" : Str)) = false) : PE X (.Call (.Name f p) (a :: es) [] pos) (RE (gOf X G c) Wx (.call ft ms)) := by
  simp only [List.all_cons, Bool.and_eq_true] at hp
  refine pe_imp (pe_callF F hr hg hm hk hb (fun σ => passAt tk σ) hs hdb (pl_star hp.1 _ _) (pl_stars _ _ hp.2)) fun σ H Q q => ?_
  obtain ⟨O, s, k, p⟩ := q
  rw [ev] at p
  refine ⟨O, s, k, (Post.bind (rel := IsDs _) p).imp fun vs H1 ⟨O1, ds, s1, e1, k1, i1, p1⟩ => ?_⟩
  refine ⟨outz O1, ds, fun a ha => k1.tags a fun z => ha (outz_none z), fun a i => outz_sl, IsL.ext outz_data i1, s1.hp, k1.cells.ext outz_data (fun _ _ _ => rfl) (fun a i h => outz_cell.mp h), ?_⟩
  show RetP (gOf X G c) (outz O1) H1 ((gOf X G c).c ft ds s1.hp) Q (WE Wx σ)
  cases e : (gOf X G c).c ft ds s1.hp with
  | ok d fr hp =>
    rw [e] at p1
    intro O' v H' ex tg hz iv
    exact p1 (mergeO H1 O1 O') v H' (merge_ext ex) (k1.called ex tg hz) (Is.ext (merge_data ex) iv)
  | exn x hp =>
    rw [e] at p1
    intro O' H' cls dd ex tg hz iv
    exact p1 (mergeO H1 O1 O') H' cls dd (merge_ext ex) (k1.called ex tg hz) iv
  | bad => rw [e] at p1; exact p1.elim
/-! ### what is walked -/
theorem pi_imp {tg it : Expr} {w w' : TI} (h : PI X tg it w) (i : ∀ σ H R, w' σ H R → w σ H R) : PI X tg it w' := ⟨fun pins s σ H R I q => h.run pins s σ H R I (i σ H R q)⟩
theorem evI_one (e : E) (k : Ft.It) (s : Ft.St) : evI G c k [e] s = (ev G c e s).bind fun d s => R.of (items k [d]) s := by
  unfold evI
  rw [evs]
  cases ev G c e s <;> simp [R.bind, evs]
theorem ri_one {k : Ft.It} {σ : L2.St} {H : Hp} {R' : L2.It → Hp → Prop} {Q : VK} (h : RI (gOf X G c) Wx k [ma] σ H R')
    (hq : ∀ O1 H1 x d its, True ∨ True → (∀ p, H1 p = Option.none → O1 p = Option.none) → Is X.K X.w O1 H1 x d → items k [d] = some its → (∀ J, WkOk (gOf X G c) J O1 H1 its → R' J H1) → Q x H1) : RE (gOf X G c) Wx ma σ H Q := by
  obtain ⟨O, s, kk, p⟩ := h
  rw [evI_one] at p
  refine ⟨O, s, kk, (Post.bind (rel := IsD _) p).imp fun x H1 ⟨O1, d1, s1, e1, k1, i1, p1⟩ => ?_⟩
  cases e : items k [d1] with
  | none => rw [e] at p1; exact p1.elim
  | some its =>
    rw [e] at p1
    exact hq O1 H1 x d1 its (.inr trivial) (fun p => k1.fresh) i1 e fun J w => p1 O1 J H1 Ext.refl k1 w
/-- the keys of a dict, which is locked from now on -/
def iKeysL (td : TE) : TI := fun σ H R => td σ H fun x H1 => ∃ d kvs, x = .ref d ∧ ((∃ o, H1 d = some (.frz o (.dK kvs)) ∧ R (Itk d o kvs) H1) ∨ (H1 d = some (.dK kvs) ∧ ∀ o, R (Itk d o kvs) (upd H1 d (.frz o (.dK kvs)))))
theorem pi_keysL {tg e : Expr} {td : TE} (he : PE X e td) : PI X tg e (iKeysL td) := by
  refine ⟨fun pins s σ H R I h => ?_⟩
  refine thn (he.run pins s σ H _ I h) fun u s1 ⟨x, H1, I1, rx, d, kvs, ex, q⟩ => ?_
  subst ex
  obtain rfl : u = Value.ref d := rx
  rcases q with ⟨o, hd, q⟩ | ⟨hd, q⟩
  · obtain ⟨hs, hgd, hx, es, ep, vs, hdt, hsz, kv, hm⟩ := I1.frzK hd
    refine iter_keys hs hgd hx hdt (pi_one (tk := s1.toks) I1 _ (turn_keys _ hdt) ⟨_, Heap.get?_push_size _ rfl, rfl, ?_⟩ q)
    rw [hsz] <;> rfl
  · obtain ⟨o, I2⟩ := I1.lock hd trivial
    obtain ⟨hs, hgd, hx, es, ep, vs, hdt, hsz, kv, hm⟩ := I2.frzK (d := d) (o := o) (kvs := kvs) upd_same
    refine iter_keys hs hgd hx hdt (pi_one (tk := s1.toks) I2 _ (turn_keys _ hdt) ⟨_, Heap.get?_push_size _ rfl, rfl, ?_⟩ (q o))
    rw [hsz] <;> rfl
theorem Ext.lock {O : Ow} {H : Hp} {a : Addr} {o : Obj} {kvs : List (Key × V)} (h : H a = some (.dK kvs)) (q : O a = Option.none) : Ext O H O (upd H a (.frz o (.dK kvs))) where
  own := fun _ _ => rfl
  keepw := fun b u hb _ _ => by
    by_cases z : b = a
    · subst z
      rw [h] at hb
      cases hb
      exact ⟨_, upd_same, .inr ⟨q, o, kvs, rfl, rfl⟩⟩
    · exact ⟨u, by rw [upd_ne z]; exact hb, .inl rfl⟩
  there := fun b hb => by
    by_cases z : b = a
    · subst z; rw [upd_same]; simp
    · rw [upd_ne z]; exact hb
theorem Ok.lock {g : Gw} {O : Ow} {H : Hp} {σ : L2.St} {s : Ft.St} (k : Ok g O σ H s) {a : Addr} {o : Obj} {kvs : List (Key × V)} (h : H a = some (.dK kvs)) (q : O a = Option.none) : Ok g O σ (upd H a (.frz o (.dK kvs))) s := by
  have e := (Ext.lock (o := o) h q).data
  refine ⟨k.len, fun i x hx => ?_, fun b hb => (Ext.lock (o := o) h q).there b (k.tags b hb), k.cells.ext e (fun b i hc => upd_ne fun z => by subst z; rw [q] at hc; cases hc) fun _ _ h => h⟩
  have sl := k.slot i x hx
  cases x with
  | no => trivial
  | d y => obtain ⟨v, h1, h2⟩ := sl; exact ⟨v, h1, h2.ext e⟩
  | ol xs =>
    obtain ⟨b, vs, h1, h2, h3, h4⟩ := sl
    exact ⟨b, vs, h1, h2, by rw [upd_ne fun z => by subst z; rw [q] at h2; cases h2]; exact h3, h4.ext e⟩
  | od xs =>
    obtain ⟨b, vs, h1, h2, h3, h4⟩ := sl
    exact ⟨b, vs, h1, h2, by rw [upd_ne fun z => by subst z; rw [q] at h2; cases h2]; exact h3, h4.ext e⟩
theorem IsK.key : ∀ {K : PySem.W.Frag} {w : World} {O : Ow} {H : Hp} {vs : List (Key × V)} {ds : List (Ky × D)} {i : Nat} {k : Key} {v : V} {d : D}, IsK K w O H vs ds → vs[i]? = some (k, v) → (ds.map fun p => kyD p.1)[i]? = some d → Is K w O H (kV k) d
  | _, _, _, _, _, _, _, _, _, _, .nil, e, _ => by simp at e
  | _, _, _, _, _, _, 0, _, _, _, .cons (k := q) h l, e, e2 => by
    simp at e e2
    rw [← e.1, ← e2]
    cases q with
    | i n => exact .int n
    | s x => exact .str x
  | _, _, _, _, _, _, i + 1, _, _, _, .cons h l, e, e2 => IsK.key (i := i) l (by simpa using e) (by simpa using e2)
theorem wk_keys {g : Gw} {O : Ow} {H : Hp} {a : Addr} {o : Obj} {kvs : List (Key × V)} {ds : List (Ky × D)} (h : H a = some (.frz o (.dK kvs))) (ho : O a = Option.none) (l : IsK g.K g.w O H kvs ds) : WkOk g (Itk a o kvs) O H (ds.map fun p => kyD p.1) := by
  intro O2 H2 e fr i
  obtain ⟨o2, h2⟩ := e.d a _ h ho
  have l2 := l.ext e
  have hl := l2.len
  refine ⟨fun d hd => ?_, fun hd => ?_⟩
  · have hi : i < ds.length := by have := (List.getElem?_eq_some_iff.mp hd).1; simpa using this
    refine ⟨⟨h2, by omega⟩, ?_⟩
    rintro x H3 ⟨rfl, k, v, hk, rfl⟩
    exact ⟨Same.refl _, l2.key hk hd⟩
  · have := List.getElem?_eq_none_iff.mp hd
    simp only [List.length_map] at this
    exact ⟨h2, by omega⟩
/-- a list, a tuple, a text -/
theorem i_seq {tg : Expr} (ha : PE X a (RE (gOf X G c) Wx ma)) : PI X tg a (RI (gOf X G c) Wx .seq [ma]) := by
  refine ⟨fun pins s0 σ H Rw I h => ?_⟩
  obtain ⟨O, s, kk, p⟩ := h
  have h' : RI (gOf X G c) Wx .seq [ma] σ H Rw := ⟨O, s, kk, p⟩
  rw [evI_one] at p
  cases e : ev (gOf X G c).G (gOf X G c).c ma s with
  | bad => rw [e] at p; exact p.elim
  | exn x s1 =>
    rw [e] at p
    exact (pi_list ha).run pins s0 σ H Rw I ⟨O, s, kk, by rw [e]; exact p⟩
  | ok d s1 =>
    rw [e] at p
    simp only [R.bind] at p
    cases d with
    | lst ds =>
      refine (pi_list ha).run pins s0 σ H Rw I ⟨O, s, kk, ?_⟩
      rw [e]
      intro O1 v H1 e1 k1 i1
      cases i1 with
      | lst h o l => exact ⟨_, rfl, ⟨_, SqL.of h⟩, p O1 _ H1 e1 k1 (wk_lst h o l)⟩
    | scr ds =>
      refine (pi_list ha).run pins s0 σ H Rw I ⟨O, s, kk, ?_⟩
      rw [e]
      intro O1 v H1 e1 k1 i1
      obtain ⟨qa, ev, h⟩ := Is.scrS i1
      exact ⟨_, ev, ⟨_, h⟩, p O1 _ H1 e1 k1 (wk_scr i1 ev)⟩
    | tup ds =>
      refine (pi_tup ha).run pins s0 σ H Rw I ⟨O, s, kk, ?_⟩
      rw [e]
      intro O1 v H1 e1 k1 i1
      obtain ⟨q, vs, ev, h, l⟩ := Is.tupS i1
      exact ⟨_, ev, ⟨_, h⟩, p O1 _ H1 e1 k1 (wk_tup i1 ev)⟩
    | str z =>
      refine (pi_str ha).run pins s0 σ H Rw I ⟨O, s, kk, ?_⟩
      rw [e]
      intro O1 v H1 e1 k1 i1
      cases i1
      exact ⟨_, rfl, p O1 _ H1 e1 k1 (wk_str z)⟩
    | none => exact p.elim
    | bool _ => exact p.elim
    | int _ => exact p.elim
    | dct ds =>
      refine (pi_keysL ha).run pins s0 σ H Rw I ⟨O, s, kk, ?_⟩
      rw [e]
      intro O1 v H1 e1 k1 i1
      cases i1 with
      | dct h o l =>
        rcases h with h | ⟨x, h⟩
        · refine ⟨_, _, rfl, .inr ⟨h, fun ob => p O1 _ _ (e1.trans (Ext.lock h o)) (k1.lock h o) (wk_keys upd_same o (l.ext (Ext.lock h o).data))⟩⟩
        · exact ⟨_, _, rfl, .inl ⟨x, h, p O1 _ H1 e1 k1 (wk_keys h o l)⟩⟩
    | kdc _ => exact p.elim
    | loc _ => exact p.elim
theorem i_rng {tg : Expr} {p2 : Pos} (hg : Gl X "range") (hm : X.mg "range" = none) (ha : PE X a (RE (gOf X G c) Wx ma)) (hp : pl a = true) : PI X tg (.Call (.Name "range" p2) [a] [] pos) (RI (gOf X G c) Wx .rng [ma]) := by
  refine pi_imp (pi_range1 hg hm (pa_cons ha pa_nil (pl_star hp _ _)) (pl_star hp _ _)) fun σ H R h => ?_
  refine ri_one h fun O1 H1 x d its _ fr i1 e w => ?_
  cases d <;> simp only [items] at e <;> first | cases e | skip
  split at e
  · rename_i hb
    cases e
    cases i1
    exact ⟨_, rfl, hb.1, hb.2, w _ (wk_rng _)⟩
  · cases e
theorem i_enum {elts : List Expr} {kk : Nat} {tpos p2 : Pos} (hg : Gl X "enumerate") (hm : X.mg "enumerate" = none) (ha : PE X a (RE (gOf X G c) Wx ma)) (hp : pl a = true) : PI X (.Tuple elts kk tpos) (.Call (.Name "enumerate" p2) [a] [] pos) (RI (gOf X G c) Wx .enum [ma]) := by
  refine pi_imp (pi_enumB hg hm (pa_cons ha pa_nil (pl_star hp _ _)) (pl_star hp _ _)) fun σ H R h => ?_
  refine ri_one h fun O1 H1 x d its _ fr i1 e w => ?_
  cases d <;> simp only [items] at e <;> first | cases e | skip
  · obtain ⟨b, vs, hv, hq, l⟩ := i1.tupS
    exact ⟨b, vs, by rw [hv], .inr ⟨hq, w _ (wk_enumT i1 hv)⟩⟩
  · cases i1 with
    | lst h o l => exact ⟨_, _, rfl, .inl ⟨SqL.of h, w _ (wk_enum h o l)⟩⟩
theorem evI_two (e f : E) (k : Ft.It) (s : Ft.St) : evI G c k [e, f] s = (ev G c e s).bind fun d s => (ev G c f s).bind fun d' s => R.of (items k [d, d']) s := by
  unfold evI
  rw [evs]
  cases ev G c e s with
  | ok d s1 =>
    simp only [R.bind]
    rw [evs]
    cases ev G c f s1 <;> simp [R.bind, evs]
  | exn x s1 => rfl
  | bad => rfl
theorem i_zip {elts : List Expr} {kk : Nat} {tpos p2 : Pos} (hg : Gl X "zip") (hm : X.mg "zip" = none) (ha : PE X a (RE (gOf X G c) Wx ma)) (hp : pl a = true) (hb : PE X b (RE (gOf X G c) Wx mb)) (hq : pl b = true) : PI X (.Tuple elts kk tpos) (.Call (.Name "zip" p2) [a, b] [] pos) (RI (gOf X G c) Wx .zip [ma, mb]) := by
  refine pi_imp (RZ.pi_zipA hg hm (pa_cons ha (pa_cons hb pa_nil (pl_star hq _ _)) (pl_star hp _ _)) (pl_star hp _ _) (pl_stars _ _ (by simp [hq]))) fun σ H R h => ?_
  obtain ⟨O, s, k, p⟩ := h
  rw [evI_two] at p
  refine ⟨O, s, k, (Post.bind (rel := IsD _) p).imp fun x H1 ⟨O1, d1, s1, e1, k1, i1, p1⟩ => ?_⟩
  refine ⟨O1, s1, k1, (Post.bind (rel := IsD _) p1).imp fun y H2 ⟨O2, d2, s2, e2, k2, i2, p2⟩ => ?_⟩
  have i1' := Is.ext e2.data i1
  cases e : items .zip [d1, d2] with
  | none => rw [e] at p2; exact p2.elim
  | some its =>
    rw [e] at p2
    cases d1 <;> cases d2 <;> simp only [items] at e <;> first | cases e | skip
    · obtain ⟨q, vs, ev, h, l⟩ := Is.tupS i1'
      obtain ⟨q', vs', ev', h', l'⟩ := Is.tupS i2
      exact ⟨q, q', vs, vs', by rw [ev, ev'], .inr ⟨h, h', p2 O2 _ H2 Ext.refl k2 (wk_zipT i1' ev i2 ev')⟩⟩
    · cases i1' with
      | lst h o l =>
        cases i2 with
        | lst h' o' l' => exact ⟨_, _, _, _, rfl, .inl ⟨SqL.of h, SqL.of h', p2 O2 _ H2 Ext.refl k2 (wk_zipL h o l h' o' l')⟩⟩
theorem evI_three (e f f' : E) (k : Ft.It) (s : Ft.St) : evI G c k [e, f, f'] s = (ev G c e s).bind fun d s => (ev G c f s).bind fun d' s => (ev G c f' s).bind fun d'' s => R.of (items k [d, d', d'']) s := by
  unfold evI
  rw [evs]
  cases ev G c e s with
  | ok d s1 =>
    simp only [R.bind]
    rw [evs]
    cases ev G c f s1 with
    | ok d2 s2 =>
      simp only [R.bind]
      rw [evs]
      cases ev G c f' s2 <;> simp [R.bind, evs]
    | exn x s2 => rfl
    | bad => rfl
  | exn x s1 => rfl
  | bad => rfl
theorem i_zip3 {elts : List Expr} {kk : Nat} {tpos p2 : Pos} {b' : Expr} {mb' : E} (hg : Gl X "zip") (hm : X.mg "zip" = none) (ha : PE X a (RE (gOf X G c) Wx ma)) (hp : pl a = true) (hb : PE X b (RE (gOf X G c) Wx mb)) (hq : pl b = true) (hb' : PE X b' (RE (gOf X G c) Wx mb')) (hq' : pl b' = true) :
    PI X (.Tuple elts kk tpos) (.Call (.Name "zip" p2) [a, b, b'] [] pos) (RI (gOf X G c) Wx .zip [ma, mb, mb']) := by
  refine pi_imp (pi_zip3 hg hm (pa_cons ha (pa_cons hb (pa_cons hb' pa_nil (pl_star hq' _ _)) (pl_star hq _ _)) (pl_star hp _ _)) (pl_star hp _ _) (pl_stars _ _ (by simp [hq, hq']))) fun σ H R h => ?_
  obtain ⟨O, s, k, p⟩ := h
  rw [evI_three] at p
  refine ⟨O, s, k, (Post.bind (rel := IsD _) p).imp fun x H1 ⟨O1, d1, s1, e1, k1, i1, p1⟩ => ?_⟩
  refine ⟨O1, s1, k1, (Post.bind (rel := IsD _) p1).imp fun y H2 ⟨O2, d2, s2, e2, k2, i2, p2⟩ => ?_⟩
  refine ⟨O2, s2, k2, (Post.bind (rel := IsD _) p2).imp fun y H3 ⟨O3, d3, s3, e3, k3, i3, p3⟩ => ?_⟩
  have i1' := Is.ext e3.data (Is.ext e2.data i1)
  have i2' := Is.ext e3.data i2
  cases e : items .zip [d1, d2, d3] with
  | none => rw [e] at p3; exact p3.elim
  | some its =>
    rw [e] at p3
    cases d1 <;> cases d2 <;> cases d3 <;> simp only [items] at e <;> first | cases e | skip
    cases i1' with
    | lst h o l =>
      cases i2' with
      | lst h' o' l' =>
        cases i3 with
        | lst h'' o'' l'' => exact ⟨_, _, _, _, _, _, rfl, SqL.of h, SqL.of h', SqL.of h'', p3 O3 _ H3 Ext.refl k3 (wk_zip3 h o l h' o' l' h'' o'' l'')⟩
end
end Ft
set_option Elab.async false
set_option linter.all false
set_option maxRecDepth 100000
set_option maxHeartbeats 2000000
namespace Ft
open PySem PyProof.Rows L2
theorem wipe_get (σ : L2.St) : ∀ (vs : List Nat) (j : Nat), (wipe σ vs)[j]? = if j ∈ vs ∧ j < σ.length then some Option.none else σ[j]?
  | [], j => by simp [L2.wipe]
  | v :: vs, j => by
    show ((wipe σ vs).set v Option.none)[j]? = _
    by_cases e : v = j
    · subst e
      by_cases h : v < σ.length
      · rw [List.getElem?_set_self (by rw [wipe_length]; exact h), if_pos ⟨List.mem_cons_self, h⟩]
      · rw [if_neg (fun z => h z.2), List.getElem?_eq_none (by simpa [wipe_length] using Nat.le_of_not_lt h), List.getElem?_eq_none (Nat.le_of_not_lt h)]
    · rw [List.getElem?_set_ne e, wipe_get σ vs j]
      have : (j ∈ v :: vs) ↔ (j ∈ vs) := by
        rw [List.mem_cons]
        exact ⟨fun z => z.resolve_left (fun q => e q.symm), Or.inr⟩
      simp only [this]
theorem wipe_eq {σ σ2 : L2.St} {vs : List Nat} (hl : σ2.length = σ.length) (h : ∀ j, j ∉ vs → σ2[j]? = (wipe σ vs)[j]?) : wipe σ2 vs = wipe σ vs := by
  apply List.ext_getElem?
  intro j
  rw [wipe_get σ2]
  by_cases m : j ∈ vs
  · rw [wipe_get σ, hl]
    by_cases q : j < σ.length
    · rw [if_pos ⟨m, q⟩, if_pos ⟨m, q⟩]
    · rw [if_neg (fun z => q z.2), if_neg (fun z => q z.2), List.getElem?_eq_none (by rw [hl]; exact Nat.le_of_not_lt q), List.getElem?_eq_none (Nat.le_of_not_lt q)]
  · rw [if_neg (fun z => m z.1)]
    exact h j m
theorem gsR_imp : ∀ (is : List Nat) (vs : List V) (σ : L2.St) (H : Hp) (Q Q' : L2.St → Hp → Prop), (∀ σ H, Q σ H → Q' σ H) → gsR is vs σ H Q → gsR is vs σ H Q'
  | [], vs, σ, H, Q, Q', hq, ⟨h1, h2⟩ => ⟨h1, hq _ _ h2⟩
  | _ :: js, vs, σ, H, Q, Q', hq, ⟨v, r, h1, h2⟩ => ⟨v, r, h1, gsR_imp js r _ _ Q Q' hq h2⟩
theorem tgR_imp {K : PySem.W.Frag} {tg : List Nat} {v : V} {σ : L2.St} {H : Hp} {Q Q' : L2.St → Hp → Prop} (h : tgR K tg v σ H Q) (hq : ∀ σ H, Q σ H → Q' σ H) : tgR K tg v σ H Q' := by
  match tg, h with
  | [i], h => exact hq _ _ h
  | [], ⟨a, xs, e, s, l, h⟩ => exact ⟨a, xs, e, s, l, gsR_imp _ _ _ _ _ _ hq h⟩
  | i :: j :: r, ⟨a, xs, e, s, l, h⟩ => exact ⟨a, xs, e, s, l, gsR_imp _ _ _ _ _ _ hq h⟩
theorem setT_len {s s' : Ft.St} {tg : List Nat} {d : D} (h : setT s tg d = some s') : s'.env.length = s.env.length := by
  have aux : ∀ (is : List Nat) (ds : List D) (s s' : Ft.St), setTg s is ds = some s' → s'.env.length = s.env.length := by
    intro is
    induction is with
    | nil => intro ds s s' h; cases ds <;> simp [setTg] at h; rw [h]
    | cons i is ih =>
      intro ds s s' h
      cases ds with
      | nil => simp [setTg] at h
      | cons d ds =>
        simp only [setTg] at h
        split at h
        · rw [ih ds _ s' h]; simp [Ft.St.set]
        · cases h
  match tg, h with
  | [i], h => exact aux _ _ _ _ h
  | [], h => cases d <;> simp only [setT] at h <;> first | cases h | exact aux _ _ _ _ h
  | i :: j :: r, h => cases d <;> simp only [setT] at h <;> first | cases h | exact aux _ _ _ _ h
/-- one turn of a comprehension -/
def turnC (G : Glob) (c : Oracle) (tg : List Nat) (cond : List E) (elt : E) : D → Ft.St → R (Option D) := fun x s => match setT s tg x with
  | Option.none => .bad
  | some s => (evt G c cond s).bind fun b s => if b then (ev G c elt s).bind fun d s => .ok (some d) (wipeS s tg) else .ok Option.none (wipeS s tg)
theorem ev_comp (G : Glob) (c : Oracle) (k : Ft.It) (src : List E) (tg : List Nat) (cond : List E) (elt : E) (s : Ft.St) : ev G c (.comp k src tg cond elt) s =
    (evI G c k src s).bind fun its s => (compL (turnC G c tg cond elt) its [] (wipeS s tg)).bind fun ds s' => .ok (.lst ds) (backS s s' tg) := by
  rw [ev]
  unfold evI
  cases evs G c src s with
  | ok ds s1 =>
    simp only [R.bind]
    cases items k ds <;> rfl
  | exn x s1 => rfl
  | bad => rfl
section
variable {g : Gw} {O O' : Ow} {σ : L2.St} {H H' : Hp} {s s' : Ft.St}
theorem back_len (s s' : Ft.St) : ∀ tg : List Nat, (backS s s' tg).env.length = s'.env.length
  | [] => rfl
  | i :: is => by simp [backS, Ft.St.set, back_len s s' is]
theorem back_hp (s s' : Ft.St) : ∀ tg : List Nat, (backS s s' tg).hp = s'.hp
  | [] => rfl
  | i :: is => by simp [backS, Ft.St.set, back_hp s s' is]
theorem back_get (s s' : Ft.St) : ∀ (tg : List Nat) (j : Nat) (x : Sl), (backS s s' tg).env[j]? = some x → (j ∉ tg ∧ s'.env[j]? = some x) ∨ (x = .no) ∨ ∃ d, x = .d d ∧ s.env[j]? = some (.d d)
  | [], j, x, h => .inl ⟨by simp, h⟩
  | i :: is, j, x, h => by
    unfold backS Ft.St.set at h
    by_cases e : i = j
    · subst e
      have hl : i < (backS s s' is).env.length := by
        by_cases q : i < (backS s s' is).env.length
        · exact q
        · rw [List.getElem?_eq_none (by simpa using Nat.le_of_not_lt q)] at h
          cases h
      rw [List.getElem?_set_self hl] at h
      cases h
      split
      · rename_i d hd
        exact .inr (.inr ⟨d, rfl, hd⟩)
      · exact .inr (.inl rfl)
    · rw [List.getElem?_set_ne e] at h
      rcases back_get s s' is j x h with ⟨h1, h2⟩ | h2 | h2
      · exact .inl ⟨fun z => (List.mem_cons.mp z).elim (fun q => e q.symm) h1, h2⟩
      · exact .inr (.inl h2)
      · exact .inr (.inr h2)
theorem Ok.back (k : Ok g O σ H s) (e : Ext O H O' H') {tg : List Nat} (k' : Ok g O' (L2.wipe σ tg) H' s') : Ok g O' σ H' (backS s s' tg) := by
  refine ⟨by rw [back_len, k'.len, wipe_length], fun i x hx => ?_, k'.tags, by rw [back_hp]; exact k'.cells⟩
  rcases back_get s s' tg i x hx with ⟨h1, h2⟩ | rfl | ⟨d, rfl, h2⟩
  · have q := k'.slot i x h2
    have es : (L2.wipe σ tg)[i]? = σ[i]? := by rw [wipe_get, if_neg (fun z => h1 z.1)]
    cases x with
    | no => trivial
    | d y => obtain ⟨v', h1, h2⟩ := q; exact ⟨v', es.symm.trans h1, h2⟩
    | ol xs => obtain ⟨a, vs, h1, h2⟩ := q; exact ⟨a, vs, es.symm.trans h1, h2⟩
    | od xs => obtain ⟨a, vs, h1, h2⟩ := q; exact ⟨a, vs, es.symm.trans h1, h2⟩
  · trivial
  · obtain ⟨v, h3, h4⟩ := k.slot i _ h2
    exact ⟨v, h3, h4.ext e.data⟩
end
abbrev W0 : WX := fun _ _ _ _ => False
section
variable {g : Gw} {Wx : WX} {O : Ow} {σ : L2.St} {H : Hp} {s : Ft.St} {Q : VK} {k : Ft.It} {src : List E} {tg : List Nat} {cond : List E} {elt : E}
theorem re_comp (h : RE g Wx (.comp k src tg cond elt) σ H Q) : tLc (RI g Wx k src) (tgR g.K tg) (RTs g W0 cond) (RE g W0 elt) tg σ H Q := by
  obtain ⟨O, s, kk, p⟩ := h
  rw [ev_comp] at p
  refine ⟨O, s, kk, (Post.bind (rel := IsI g) p).imp fun J H1 ⟨O1, its, s1, e1, k1, wk, p1⟩ => ?_⟩
  intro L nL
  refine ⟨fun i m H2 => ∃ O2 s2 acc vs, Ext O1 H1 O2 H2 ∧ O2 L = some .tmp ∧ H2 L = some (.lst vs) ∧ IsL g.K g.w O2 H2 vs acc ∧ Ok g O2 (wipe σ tg) H2 s2 ∧ m = its.length - i ∧ compL (turnC g.G g.c tg cond elt) (its.drop i) acc s2 = compL (turnC g.G g.c tg cond elt) its [] (wipeS s1 tg), ?_, ?_⟩
  · exact ⟨its.length, tag O1 L (some .tmp), wipeS s1 tg, [], [], Ext.lay nL, tag_same, upd_same, .nil, (k1.wipe tg).lay nL (fun i z => by cases z), rfl, rfl⟩
  · rintro i m H2 ⟨O2, s2, acc, vs, ex, tL, hL, il, k2, rfl, eq⟩
    have fr2 : ∀ p, H2 p = Option.none → O2 p = Option.none := fun p => k2.fresh
    have wki := wk O2 H2 ex.data fr2 i
    cases hi : its[i]? with
    | none =>
      refine .inl ⟨wki.2 hi, ?_⟩
      rw [List.drop_eq_nil_of_le (List.getElem?_eq_none_iff.mp hi), compL] at eq
      rw [← eq] at p1
      refine p1 (tag O2 L Option.none) (.ref L) H2 (ex.tag nL) (k1.back (ex.tag nL) (k2.untag tL)) (.lst hL tag_same (il.ext (DExt.untag fun i z => by rw [tL] at z; cases z)))
    | some d =>
      have hlt : i < its.length := (List.getElem?_eq_some_iff.mp hi).1
      obtain ⟨hgo, hy⟩ := wki.1 d hi
      have hdrop : its.drop i = d :: its.drop (i + 1) := by
        rw [List.drop_eq_getElem_cons hlt]
        congr 1
        exact (List.getElem?_eq_some_iff.mp hi).2
      rw [hdrop, compL] at eq
      refine .inr ⟨hgo, fun H' => ∃ m', m' < its.length - i ∧ ∃ O2 s2 acc vs, Ext O1 H1 O2 H' ∧ O2 L = some .tmp ∧ H' L = some (.lst vs) ∧ IsL g.K g.w O2 H' vs acc ∧ Ok g O2 (wipe σ tg) H' s2 ∧ m' = its.length - (i + 1) ∧ compL (turnC g.G g.c tg cond elt) (its.drop (i + 1)) acc s2 = compL (turnC g.G g.c tg cond elt) its [] (wipeS s1 tg), fun H' h => h, fun x H3 hx => ?_⟩
      obtain ⟨sm, iv⟩ := hy x H3 hx
      have k3 := k2.same sm
      -- the turn is no bad one
      have nb : compL (turnC g.G g.c tg cond elt) its [] (wipeS s1 tg) ≠ .bad := fun z => by
        rw [z] at p1
        exact p1
      rw [← eq] at nb
      cases ht : turnC g.G g.c tg cond elt d s2 with
      | bad => rw [ht] at nb; exact absurd rfl nb
      | exn x s5 => rw [ht] at nb; exact absurd rfl nb
      | ok r s5 =>
        rw [ht] at eq nb
        unfold turnC at ht
        cases hs : setT s2 tg d with
        | none => rw [hs] at ht; cases ht
        | some s3 =>
          rw [hs] at ht
          dsimp only at ht
          refine tgR_imp (setT_ok k3 iv hs) ?_
          rintro σ2 H2' ⟨rfl, ok3, out⟩
          have lw : σ2.length = σ.length := by
            rw [← ok3.len, setT_len hs, k2.len, wipe_length]
          have ew : wipe σ2 tg = wipe σ tg := wipe_eq lw out
          refine ⟨ew, O2, s3, ok3, ?_⟩
          cases he : evt g.G g.c cond s3 with
          | bad => rw [he] at ht; cases ht
          | exn x s5 => rw [he] at ht; cases ht
          | ok b s4 =>
            rw [he] at ht
            simp only [R.bind] at ht
            intro O4 b' H4 ex4 ok4 hb
            cases (show b' = b from hb)
            have hL3 : H2' L = some (.lst vs) := sm _ _ hL
            have tL4 : O4 L = some .tmp := (ex4.own L (by rw [hL3]; simp)).trans tL
            have hL4 : H4 L = some (.lst vs) := ex4.keep L _ hL3 (by rw [tL]; simp) (by rw [tL]; simp)
            have exx : Ext O1 H1 O4 H4 := (ex.trans (Ext.same sm)).trans ex4
            have il4 : IsL g.K g.w O4 H4 vs acc := il.ext ((Ext.same sm).trans ex4).data
            cases b with
            | true =>
              simp only [if_true] at ht ⊢
              refine ⟨O4, s4, ok4, ?_⟩
              cases hv : ev g.G g.c elt s4 with
              | bad => rw [hv] at ht; cases ht
              | exn x s5 => rw [hv] at ht; cases ht
              | ok e s6 =>
                rw [hv] at ht
                cases ht
                dsimp only at eq nb
                split at eq
                · rename_i hlen
                  intro O5 y H5 ex5 ok5 iy
                  have tL5 : O5 L = some .tmp := (ex5.own L (by rw [hL4]; simp)).trans tL4
                  have hL5 : H5 L = some (.lst vs) := ex5.keep L _ hL4 (by rw [tL4]; simp) (by rw [tL4]; simp)
                  have il5 : IsL g.K g.w O5 H5 vs acc := il4.ext ex5.data
                  have pk : DExt O5 H5 O5 (upd H5 L (.lst (vs ++ [y]))) := ⟨fun q o hq hn => ⟨hn, _, (by
                    rw [upd_ne]
                    · exact hq
                    · intro z; subst z; rw [tL5] at hn; cases hn), .inl rfl⟩, fun q i hq hc => ⟨hc, by
                    rw [upd_ne]
                    · exact hq
                    · intro z; subst z; rw [tL5] at hc; cases hc⟩⟩
                  refine ⟨vs, hL5, ?_, its.length - (i + 1), by omega, O5, wipeS s6 tg, acc ++ [e], vs ++ [y], (exx.trans ex5).poke nL, tL5, upd_same, IsL.append (il5.ext pk) (.cons (Is.ext pk iy) .nil), ?_, rfl, eq⟩
                  · rw [il5.len]; exact Nat.lt_of_lt_of_le hlen lim_line
                  · have := (ok5.wipe tg).poke (o := .lst (vs ++ [y])) tL5
                    rw [ew] at this
                    exact this
                · rw [if_neg (by assumption)] at nb
                  exact absurd rfl nb
            | false =>
              simp only [Bool.false_eq_true, if_false] at ht ⊢
              cases ht
              refine ⟨its.length - (i + 1), by omega, O4, wipeS s4 tg, acc, vs, exx, tL4, hL4, il4, ?_, rfl, eq⟩
              have := ok4.wipe tg
              rw [ew] at this
              exact this
end
/-- a comprehension -/
theorem l_comp {X : Cx} {G : Glob} {c : Oracle} {Wx : WX} {k : Ft.It} {src : List E} {tg : List Nat} {cond : List E} {me : E} {tgE iter elt : Expr} {ifs : List Expr} {scope : Scope} {own : List (Str × Nat)} {pos : Pos} (hc : X.calm = true) (hN : X.N.Nodup) (hi : PI X tgE iter (RI (gOf X G c) Wx k src)) (ok : BlkOk X.N X.env.scope scope own) (hown : own.map (·.2) = tg)
    (hg : ∀ (s : Shared) (H : Hp) (C : Addr) (cl : List (Str × Addr)) (fp : List Addr), PG (X.blk s H scope (compEnvC scope cl C X.env) fp) tgE (tgR X.K tg)) (ht : ∀ (s : Shared) (H : Hp) (C : Addr) (cl : List (Str × Addr)) (fp : List Addr), PTs (X.blk s H scope (compEnvC scope cl C X.env) fp) ifs (RTs (gOf X G c) W0 cond))
    (he : ∀ (s : Shared) (H : Hp) (C : Addr) (cl : List (Str × Addr)) (fp : List Addr), PE (X.blk s H scope (compEnvC scope cl C X.env) fp) elt (RE (gOf X G c) W0 me)) (hp : pl iter = true) :
    PE X (.ListComp elt [⟨tgE, iter, ifs, 0⟩] scope pos) (RE (gOf X G c) Wx (.comp k src tg cond me)) := by
  have := pe_lc hc hN hi ok hg ht he (pl_fold hp X.env) (pos := pos)
  rw [hown] at this
  exact pe_imp this fun σ H Q q => re_comp q
end Ft
set_option Elab.async false
set_option linter.all false
set_option maxRecDepth 100000
set_option maxHeartbeats 2000000
namespace Ft
open PySem PyProof.Rows L2
/-! ### the store: objects, lists and dicts by their place -/
section
variable {g : Gw} {O O' : Ow} {σ : L2.St} {H H' : Hp} {s : Ft.St}
theorem IsF.get : ∀ {us : List (Str × V)} {fs : List (Tx × D)} {f : Tx} {d : D}, IsF g O H us fs → fget fs f = some d → ∃ v, us.lookup (tS f) = some v ∧ Is g.K g.w O H v d
  | _, _, _, _, .nil, h => by cases h
  | _, _, f, d, .cons (x := x) (v := v) (us := us) hv l, h => by
    simp only [fget] at h
    by_cases e : x = f
    · subst e
      rw [if_pos rfl] at h
      cases h
      exact ⟨v, by simp [List.lookup], hv⟩
    · rw [if_neg e] at h
      obtain ⟨u, h1, h2⟩ := IsF.get l h
      have ne : (tS f == tS x) = false := beq_eq_false_iff_ne.mpr fun z => e (tS_inj z).symm
      exact ⟨u, by simp only [List.lookup, ne]; exact h1, h2⟩
theorem IsF.no : ∀ {us : List (Str × V)} {fs : List (Tx × D)} {f : Tx}, IsF g O H us fs → fget fs f = Option.none → us.lookup (tS f) = none
  | _, _, _, .nil, h => rfl
  | _, _, f, .cons (x := x) (v := v) (us := us) hv l, h => by
    simp only [fget] at h
    by_cases e : x = f
    · rw [if_pos e] at h; cases h
    · rw [if_neg e] at h
      have ne : (tS f == tS x) = false := beq_eq_false_iff_ne.mpr fun z => e (tS_inj z).symm
      simp only [List.lookup, ne]
      exact IsF.no l h
theorem IsF.put {f : Tx} {v : V} {d : D} (hv : Is g.K g.w O H v d) : ∀ {us : List (Str × V)} {fs : List (Tx × D)}, IsF g O H us fs → IsF g O H (L2.putF (tS f) v us) (fput f d fs)
  | _, _, .nil => .cons hv .nil
  | _, _, .cons (x := x) hx l => by
    simp only [L2.putF, fput]
    by_cases e : x = f
    · subst e
      rw [if_pos rfl, if_pos rfl]
      exact .cons hv l
    · rw [if_neg e, if_neg fun z => e (tS_inj z)]
      exact .cons hx (IsF.put hv l)
theorem IsF.len : ∀ {us : List (Str × V)} {fs : List (Tx × D)}, IsF g O H us fs → us.length = fs.length
  | _, _, .nil => rfl
  | _, _, .cons _ l => by simp [l.len]
/-- a place of the store -/
theorem Ok.at_ (k : Ok g O σ H s) {v : V} {i : Nat} {c : Cell} (h : Is g.K g.w O H v (.loc i)) (hc : s.hp[i]? = some c) : ∃ a, v = .ref a ∧ O a = some (.cell i) ∧ CellOk g O H a c := by
  cases h with
  | loc h1 h2 =>
    obtain ⟨b, h3, h4⟩ := k.cells.at_ i c hc
    cases k.cells.one _ _ _ h1 h3
    exact ⟨_, rfl, h1, h4⟩
theorem obj_of {k : Tx} {d : D} {i : Nat} {fs : List (Tx × D)} (h : s.obj k d = some (i, fs)) : d = .loc i ∧ s.hp[i]? = some (.obj k fs) := by
  cases d <;> simp only [Ft.St.obj] at h <;> first | cases h | skip
  rename_i j
  cases e : s.hp[j]? with
  | none => rw [e] at h; cases h
  | some c =>
    rw [e] at h
    cases c <;> first | cases h | skip
    rename_i k' fs'
    dsimp only at h
    split at h
    · rename_i hk
      subst hk
      cases h
      exact ⟨rfl, e⟩
    · cases h
theorem cell_of {d : D} {i : Nat} {c : Cell} (h : s.cell d = some (i, c)) : d = .loc i ∧ s.hp[i]? = some c := by
  cases d <;> simp only [Ft.St.cell] at h <;> first | cases h | skip
  rename_i j
  cases e : s.hp[j]? with
  | none => rw [e] at h; cases h
  | some c =>
    rw [e] at h
    cases c <;> first | (cases h; exact ⟨rfl, e⟩) | cases h
theorem SlOk.ext {i : Nat} {x : Sl} (h : SlOk g O σ H i x) (e : DExt O H O' H') (ho : ∀ a j, O a = some (.sl j) → O' a = some (.sl j) ∧ H' a = H a) : SlOk g O' σ H' i x := by
  cases x with
  | no => trivial
  | d y => obtain ⟨v, h1, h2⟩ := h; exact ⟨v, h1, h2.ext e⟩
  | ol xs => obtain ⟨a, vs, h1, h2, h3, h4⟩ := h; exact ⟨a, vs, h1, (ho a i h2).1, (ho a i h2).2.trans h3, h4.ext e⟩
  | od xs => obtain ⟨a, vs, h1, h2, h3, h4⟩ := h; exact ⟨a, vs, h1, (ho a i h2).1, (ho a i h2).2.trans h3, h4.ext e⟩
/-- one place of the store is changed -/
theorem Ok.put (k : Ok g O σ H s) {a : Addr} {i : Nat} {c : Cell} {o : HO} (ha : O a = some (.cell i)) (h : DExt O H O (upd H a o) → CellOk g O (upd H a o) a c) : Ok g O σ (upd H a o) (s.put i c) := by
  obtain ⟨e, kc⟩ := k.cells.put ha h
  refine ⟨k.len, fun j x hx => (k.slot j x hx).ext e fun b j hb => ⟨hb, upd_ne fun z => by subst z; rw [ha] at hb; cases hb⟩, fun b hb => ?_, kc⟩
  by_cases z : b = a
  · subst z; rw [upd_same]; simp
  · rw [upd_ne z]; exact k.tags b hb
theorem Ext.put {O0 : Ow} {Hb : Hp} {a : Addr} {i : Nat} {o : HO} (e : Ext O0 Hb O H) (ha : O a = some (.cell i)) : Ext O0 Hb O (upd H a o) where
  own := e.own
  keepw := fun b u hb hn hc => by
    have ne : b ≠ a := fun z => by
      subst z
      have := e.own b (by rw [hb]; simp)
      rw [ha] at this
      exact hc i this.symm
    rw [upd_ne ne]
    exact e.keepw b u hb hn hc
  there := fun b hb => by
    by_cases z : b = a
    · subst z; rw [upd_same]; simp
    · rw [upd_ne z]; exact e.there b hb
/-- a new place -/
theorem Cells.new {hp : List Cell} (k : Cells g O H hp) {p : Addr} {o : HO} {c : Cell} (tg : ∀ a, O a ≠ Option.none → H a ≠ Option.none) (h : H p = Option.none) (hc : DExt O H (tag O p (some (.cell hp.length))) (upd H p o) → CellOk g (tag O p (some (.cell hp.length))) (upd H p o) p c) :
    DExt O H (tag O p (some (.cell hp.length))) (upd H p o) ∧ Cells g (tag O p (some (.cell hp.length))) (upd H p o) (hp ++ [c]) := by
  have e : DExt O H (tag O p (some (.cell hp.length))) (upd H p o) := (Ext.lay (O := O) (o := o) (t := some (.cell hp.length)) h).data
  have old : ∀ a i, tag O p (some (.cell hp.length)) a = some (.cell i) → (a = p ∧ i = hp.length) ∨ (a ≠ p ∧ O a = some (.cell i)) := fun a i q => by
    by_cases z : a = p
    · subst z; rw [tag_same] at q; cases q; exact .inl ⟨rfl, rfl⟩
    · rw [tag_ne z] at q; exact .inr ⟨z, q⟩
  refine ⟨e, fun i d hd => ?_, fun a b i h1 h2 => ?_, fun a i h1 => ?_⟩
  · by_cases z : i < hp.length
    · rw [List.getElem?_append_left z] at hd
      obtain ⟨a, h1, h2⟩ := k.at_ i d hd
      have ne : a ≠ p := fun q => h2.here (by rw [q]; exact h)
      exact ⟨a, by rw [tag_ne ne]; exact h1, h2.ext e (upd_ne ne)⟩
    · rw [List.getElem?_append_right (Nat.le_of_not_lt z)] at hd
      have : i = hp.length := by
        have := (List.getElem?_eq_some_iff.mp hd).1
        simp at this
        omega
      subst this
      simp at hd
      subst hd
      exact ⟨p, tag_same, hc e⟩
  · rcases old a i h1 with ⟨rfl, rfl⟩ | ⟨n1, q1⟩ <;> rcases old b _ h2 with ⟨rfl, q⟩ | ⟨n2, q2⟩
    · rfl
    · exact absurd (k.lt _ _ q2) (Nat.lt_irrefl _)
    · subst q; exact absurd (k.lt _ _ q1) (Nat.lt_irrefl _)
    · exact k.one _ _ _ q1 q2
  · rw [List.length_append, List.length_singleton]
    rcases old a i h1 with ⟨rfl, rfl⟩ | ⟨n1, q1⟩
    · exact Nat.lt_succ_self _
    · exact Nat.lt_succ_of_lt (k.lt _ _ q1)
theorem Ok.new (k : Ok g O σ H s) {p : Addr} {o : HO} {c : Cell} (h : H p = Option.none) (hc : DExt O H (tag O p (some (.cell s.hp.length))) (upd H p o) → CellOk g (tag O p (some (.cell s.hp.length))) (upd H p o) p c) : Ok g (tag O p (some (.cell s.hp.length))) σ (upd H p o) (s.new c) := by
  obtain ⟨e, kc⟩ := k.cells.new k.tags h hc
  refine ⟨k.len, fun j x hx => (k.slot j x hx).ext e fun a j ha => ?_, fun a ha => ?_, kc⟩
  · have ne : a ≠ p := fun z => k.tags a (by rw [ha]; simp) (by rw [z]; exact h)
    exact ⟨by rw [tag_ne ne]; exact ha, upd_ne ne⟩
  · by_cases z : a = p
    · subst z; rw [upd_same]; simp
    · rw [upd_ne z]; rw [tag_ne z] at ha; exact k.tags a ha
end
section
variable {X : Cx} {G : Glob} {c : Oracle} {Wx : WX} {a b t : Expr} {ma mb : E} {pos : Pos}
/-- e.f -/
theorem l_attr {k f : Str} {C : Addr} (hk : X.mg k = some (.ref C)) (hC : Cls X.K C) (hn : NoAttr X.K C f) (ha : PE X a (RE (gOf X G c) Wx ma)) (hb : attributeBase a f X.env (eval a X.env) = eval a X.env) : PE X (.Attribute a f pos) (RE (gOf X G c) Wx (.attr (tx k) ma (tx f))) := by
  refine pe_imp (pe_fld ha hb) fun σ H Q q => ?_
  obtain ⟨O, s, kk, p⟩ := q
  rw [ev] at p
  refine ⟨O, s, kk, (Post.bind (rel := IsD _) p).imp fun x H1 ⟨O1, d1, s1, e1, k1, i1, p1⟩ => ?_⟩
  cases e : s1.obj (tx k) d1 with
  | none => rw [e] at p1; exact p1.elim
  | some q =>
    obtain ⟨i, fs⟩ := q
    rw [e] at p1
    obtain ⟨rfl, hc⟩ := obj_of e
    obtain ⟨a', rfl, o1, C', dx, us, m1, h1, l1⟩ := k1.at_ i1 hc
    have : C' = C := by
      have m1 : X.mg (tS (tx k)) = some (.ref C') := m1
      rw [tS_tx0, hk] at m1
      cases m1; rfl
    subst this
    obtain ⟨d, hd, q⟩ := Post.pure k1 p1
    obtain ⟨v, h2, h3⟩ := l1.get hd
    rw [tS_tx0] at h2
    exact ⟨a', C', dx, us, v, rfl, h1, hC, hn, h2, q v H1 (Same.refl _) h3⟩
/-- a call within a frame, its exceptions by the slots -/
theorem pe_methX {k : Nat} {C f : Addr} {m : Str} {fd : FuncData} {ps : List Str} {sp : Sp} {W : L2.St → XK} {o : Expr} {es : List Expr} {ta : TE} {tt : TA} {ap cp : Pos} (he : PE X o ta) (hC : Cls X.K C) (hm : Meth X.K C m f) (F : Fk X.prog X.w X.K X.mg X.base k f fd ps sp) (hr : Rm k X.A)
    (hb : Binds X.K fd ps []) (hx : ∀ σ, PassesAt (L2.CX X.prog X.w) X σ (W σ)) (hs : PA X es tt) (hz : es = [] → ∀ σ H Q, tt σ H Q → Q [] H) (hp : es.all pl = true) (hfew : es.length < 30) (hab : attributeBase o m X.env (eval o X.env) = eval o X.env) (hl : (ap.endLine == cp.line) = true) :
    PE X (.Call (.Attribute o m ap) es [] cp) (fun σ H Q => ta σ H fun x H1 => ∃ a dx fs, x = .ref a ∧ H1 a = some (.ins C dx fs) ∧ fs.lookup m = none ∧ tt σ H1 fun vs H2 => sp (x :: vs) H2 Q (W σ)) := by
  have nostar : ∀ l : List Expr, l.all pl = true → (backTo cp (starEach l X.env)).all (fun z => !z.1) = true := by
    intro l hl
    have h0 := pl_stars X.env cp hl
    rw [List.any_eq_false] at h0
    rw [List.all_eq_true]
    intro z hz
    have := h0 z hz
    simpa using this
  have form : methodCallForm (es.length + ([] : List Keyword).length) (backTo cp (starEach es X.env)) (backToKw cp (keywordEach [] X.env)) = true := by
    unfold methodCallForm
    rw [nostar es hp]
    show (true && true && decide (es.length + 0 + 0 < 30)) = true
    simp
    exact hfew
  refine ⟨fun pins s σ H Q I h => ?_⟩
  refine PySem.W.methodCall_KW (pl := plainOf o X.env) (thn (he.run pins s σ H _ I h) fun u s1 hh => ?_) ?_
  · obtain ⟨x, H1, I1, rx, a, dx, fs, rfl, ea, l, q⟩ := hh
    obtain rfl : u = Value.ref a := rx
    refine getmeth_ok I1 ea hC hm l ?_
    cases es with
    | nil =>
      refine PySem.W.callWith_K0 (first := [.ref a]) I1.kIn hm.kp ?_
      exact run_fk (us := [.ref a]) (vs := [.ref a]) F hr hb (hx σ) I1 (.cons rfl .nil) (hz rfl _ _ _ q)
    | cons e es =>
      simp only [List.all_cons, Bool.and_eq_true] at hp
      refine PySem.W.callWith_K (first := [.ref a]) (h₀ := X.base) I.ok.mod.kin hm.kp (thn (hs.run cp pins s1 σ H1 _ I1 q) fun us s2 hh => ?_) (pl_star hp.1 _ _) (pl_stars _ _ hp.2)
      obtain ⟨vs, H2, I2, r, q2⟩ := hh
      exact ⟨I2.kIn, run_fk (us := .ref a :: us) (vs := .ref a :: vs) F hr hb (hx σ) I2 (.cons rfl r) q2⟩
  · show (do let ov ← attributeBase o m X.env (eval o X.env); standAt ap.atName; methodCall o m ap cp X.env ov (es.length + ([] : List Keyword).length) (backTo cp (starEach es X.env)) (backToKw cp (keywordEach [] X.env))) = _
    rw [hab]
    congr 1
    funext ov
    congr 1
    funext _
    exact mcall_line form hl
theorem ra_nil {g : Gw} {σ : L2.St} {H : Hp} {Q : List V → Hp → Prop} (h : RA g Wx [] σ H Q) : Q [] H := by
  obtain ⟨O, s, k, p⟩ := h
  rw [evs] at p
  exact p O [] H Ext.refl k .nil
/-- e.m(es) -/
theorem l_meth {k m : Str} {n : Nat} {C fa : Addr} {fd : FuncData} {ps : List Str} {es : List Expr} {ms : List E} {ap : Pos} (hk : X.mg k = some (.ref C)) (hC : Cls X.K C) (hm : Meth X.K C m fa) (F : Fk X.prog X.w X.K X.mg X.base n fa fd ps (spOf (gOf X G c) (tx k ++ 46 :: tx m))) (hr : Rm n X.A)
    (hb : Binds X.K fd ps []) (tk : Takes X Wx) (ha : PE X a (RE (gOf X G c) Wx ma)) (hs : PA X es (RA (gOf X G c) Wx ms)) (hz : es = [] → ms = []) (hp : es.all pl = true) (hfew : es.length < 30) (hab : attributeBase a m X.env (eval a X.env) = eval a X.env) (hl : (ap.endLine == pos.line) = true) :
    PE X (.Call (.Attribute a m ap) es [] pos) (RE (gOf X G c) Wx (.meth (tx k) ma (tx m) ms)) := by
  refine pe_imp (pe_methX ha hC hm F hr hb (fun σ => passAt tk σ) hs (fun e σ H Q q => by rw [hz e] at q; exact ra_nil q) hp hfew hab hl) fun σ H Q q => ?_
  obtain ⟨O, s, kk, p⟩ := q
  rw [ev] at p
  refine ⟨O, s, kk, (Post.bind (rel := IsD _) p).imp fun x H1 ⟨O1, d1, s1, e1, k1, i1, p1⟩ => ?_⟩
  cases e : s1.obj (tx k) d1 with
  | none => rw [e] at p1; exact p1.elim
  | some q =>
    obtain ⟨i, fs⟩ := q
    rw [e] at p1
    dsimp only at p1
    cases ef : fget fs (tx m) with
    | some _ => rw [ef] at p1; exact p1.elim
    | none =>
      rw [ef] at p1
      obtain ⟨rfl, hc⟩ := obj_of e
      obtain ⟨a', rfl, o1, C', dx, us, m1, h1, l1⟩ := k1.at_ i1 hc
      have : C' = C := by
        have m1 : X.mg (tS (tx k)) = some (.ref C') := m1
        rw [tS_tx0, hk] at m1
        cases m1; rfl
      subst this
      have no := l1.no ef
      rw [tS_tx0] at no
      refine ⟨a', dx, us, rfl, h1, no, O1, s1, k1, (Post.bind (rel := IsDs _) p1).imp fun vs H2 ⟨O2, ds, s2, e2, k2, i2, p2⟩ => ?_⟩
      refine ⟨outz O2, .loc i :: ds, fun a ha => k2.tags a fun z => ha (outz_none z), fun a i => outz_sl, IsL.ext outz_data (.cons (Is.ext e2.data i1) i2), s2.hp, k2.cells.ext outz_data (fun _ _ _ => rfl) (fun a i h => outz_cell.mp h), ?_⟩
      show RetP (gOf X G c) (outz O2) H2 ((gOf X G c).c (tx k ++ 46 :: tx m) (.loc i :: ds) s2.hp) Q (WE Wx σ)
      cases e : (gOf X G c).c (tx k ++ 46 :: tx m) (.loc i :: ds) s2.hp with
      | ok d fr hp =>
        rw [e] at p2
        intro O' v H' ex tg hz iv
        exact p2 (mergeO H2 O2 O') v H' (merge_ext ex) (k2.called ex tg hz) (Is.ext (merge_data ex) iv)
      | exn x hp =>
        rw [e] at p2
        intro O' H' cls dd ex tg hz iv
        exact p2 (mergeO H2 O2 O') H' cls dd (merge_ext ex) (k2.called ex tg hz) iv
      | bad => rw [e] at p2; exact p2.elim
end
end Ft
set_option Elab.async false
set_option linter.all false
set_option maxRecDepth 100000
set_option maxHeartbeats 2000000
namespace Ft
open PySem PyProof.Rows L2
section
variable {X : Cx} {G : Glob} {c : Oracle} {Wx : WX} {a b t : Expr} {ma mb : E} {pos : Pos}
/-- a class is called, its exceptions by the slots -/
theorem make_run {k : Nat} {C f : Addr} {fd : FuncData} {ps : List Str} {sp : Sp} {E : XK} {pins : List (Addr × Obj)} {σ : L2.St} {H : Hp} {s : Shared} {Q : VK} {us : List Value} {vs : List V} (M : Mk X.K C f) (F : Fk X.prog X.w X.K X.mg X.base k f fd ps sp) (hr : Rm (k + 1) X.A) (hb : Binds X.K fd ps [])
    (hx : PassesAt (L2.CX X.prog X.w) X σ E) (I : Inv X pins σ H s) (r : Vals vs us) (h : ∀ x dx, H x = none → H dx = none → dx ≠ x → sp (.ref x :: vs) (upd (upd H dx (.own x)) x (.ins C dx [])) (fun v H2 => v = .non ∧ Q (.ref x) H2) E) :
    wpAny (model X.prog X.w) X.A (call (.ref C) us) (EP X pins σ Q) X.xe s := by
  generalize hN : s.heap.objs.size = N
  have q0 := h (N + 1) N (I.hok.fresh (by rw [hN]; exact Nat.le_succ _)) (I.hok.fresh (by rw [hN]; exact Nat.le_refl _)) (Nat.ne_of_lt (Nat.lt_succ_self _))
  have J := Inv.made (C := C) I
  rw [hN] at J
  have rr : Vals (V.ref (N + 1) :: vs) (Value.ref (N + 1) :: us) := .cons rfl r
  have ll : (Value.ref (N + 1) :: us).length = ps.length := by rw [← rr.length]; exact F.size _ _ _ _ q0
  have bb := hb _ (Value.ref (N + 1) :: us) J.kIn (by rw [List.append_nil]; exact ll)
  rw [List.append_nil] at bb
  have run := F.go _ X.stack _ _ ⟨Value.ref (N + 1) :: us, []⟩ (Value.ref (N + 1) :: us) _ _ E (hr.make C us []) (J.env0.make C us []) bb rr q0
  subst hN
  refine wpAny_call (make_map (f := f) I.kIn M.makes M.init (beq_iff_eq.mp M.fn) (codeAny_mono run fun r s' hq => ?_))
  cases r with
  | error e => exact hx pins _ _ e s' J hq
  | ok fl =>
    cases fl <;> first | exact hq.elim | skip
    obtain ⟨v, H', J', rv, rfl, q3⟩ := J.after hq
    exact ⟨rv, ⟨V.ref (s.heap.objs.size + 1), H', J', rfl, q3⟩⟩
theorem pe_makeX {k : Nat} {C f : Addr} {x : Str} {fd : FuncData} {ps : List Str} {sp : Sp} {W : L2.St → XK} {es : List Expr} {tt : TA} {p : Pos} (M : Mk X.K C f) (F : Fk X.prog X.w X.K X.mg X.base k f fd ps sp) (hr : Rm (k + 1) X.A) (hg : Gl X x) (hm : X.mg x = some (.ref C)) (hb : Binds X.K fd ps [])
    (hx : ∀ σ, PassesAt (L2.CX X.prog X.w) X σ (W σ)) (hs : PA X es tt) (hz : es = [] → ∀ σ H Q, tt σ H Q → Q [] H) (hp : es.all pl = true) (hdb : (x == ("__debug__" : Str)) = false) :
    PE X (.Call (.Name x p) es [] pos) (fun σ H Q => tt σ H fun vs H1 => ∀ y dx, H1 y = none → H1 dx = none → dx ≠ y → sp (.ref y :: vs) (upd (upd H1 dx (.own y)) y (.ins C dx [])) (fun v H2 => v = .non ∧ Q (.ref y) H2) (W σ)) := by
  refine ⟨fun pins s σ H Q I h => ?_⟩
  refine wpAny_Call_Name_kw (ld_glob I hg hm ?_ hdb)
  cases es with
  | nil => exact PySem.W.callWith_K0 I.kIn M.kp (make_run (us := []) M F hr hb (hx σ) I .nil (hz rfl _ _ _ h))
  | cons e es =>
    simp only [List.all_cons, Bool.and_eq_true] at hp
    refine PySem.W.callWith_K (h₀ := X.base) I.ok.mod.kin M.kp (thn (hs.run pos pins s σ H _ I h) fun us s1 hh => ?_) (pl_star hp.1 _ _) (pl_stars _ _ hp.2)
    obtain ⟨vs, H1, I1, r, q⟩ := hh
    exact ⟨I1.kIn, make_run M F hr hb (hx σ) I1 r q⟩
/-- C(es) -/
theorem l_make {x : Str} {n : Nat} {C fa : Addr} {fd : FuncData} {ps : List Str} {es : List Expr} {ms : List E} {p : Pos} {c' : Oracle} (hk : X.mg x = some (.ref C)) (M : Mk X.K C fa) (F : Fk X.prog X.w X.K X.mg X.base n fa fd ps (spOf (gOf X G c') (tx x ++ initT))) (hr : Rm (n + 1) X.A) (hg : Gl X x)
    (hb : Binds X.K fd ps []) (tk : Takes X Wx) (hc : ∀ ds hp, c (tx x) ds hp = mkRet c' (tx x) ds hp) (hs : PA X es (RA (gOf X G c) Wx ms)) (hz : es = [] → ms = []) (hp : es.all pl = true) (hdb : (x == ("__debug__" : Str)) = false) :
    PE X (.Call (.Name x p) es [] pos) (RE (gOf X G c) Wx (.call (tx x) ms)) := by
  refine pe_imp (pe_makeX M F hr hg hk hb (fun σ => passAt tk σ) hs (fun e σ H Q q => by rw [hz e] at q; exact ra_nil q) hp hdb) fun σ H Q q => ?_
  obtain ⟨O, s, k, p⟩ := q
  rw [ev] at p
  refine ⟨O, s, k, (Post.bind (rel := IsDs _) p).imp fun vs H1 ⟨O1, ds, s1, e1, k1, i1, p1⟩ => ?_⟩
  intro y dx ny nd ne
  have nd' : (upd H1 dx (.own y)) y = none := by rw [upd_ne ne.symm]; exact ny
  have kz : Cells (gOf X G c') (outz O1) H1 s1.hp := (k1.cells.ext outz_data (fun _ _ _ => rfl) (fun a i h => outz_cell.mp h)).to rfl rfl rfl
  have tz : ∀ a, outz O1 a ≠ Option.none → H1 a ≠ Option.none := fun a ha => k1.tags a fun z => ha (outz_none z)
  have sm : Same H1 (upd H1 dx (.own y)) := same_upd nd
  have tz2 : ∀ a, outz O1 a ≠ Option.none → (upd H1 dx (.own y)) a ≠ Option.none := fun a ha => (Ext.same (O := outz O1) sm).there a (tz a ha)
  have kz2 : Cells (gOf X G c') (outz O1) (upd H1 dx (.own y)) s1.hp := kz.ext (Ext.same sm).data (fun a i h => upd_ne fun z => by subst z; exact absurd nd (tz a (by rw [h]; simp))) fun _ _ h => h
  obtain ⟨e3, kz3⟩ := kz2.new (p := y) (o := .ins C dx []) (c := .obj (tx x) []) tz2 nd' fun _ => ⟨C, dx, [], by show X.mg (tS (tx x)) = _; rw [tS_tx0]; exact hk, upd_same, .nil⟩
  have x3 : Ext (outz O1) H1 (tag (outz O1) y (some (.cell s1.hp.length))) (upd (upd H1 dx (.own y)) y (.ins C dx [])) := (Ext.same sm).trans (Ext.lay nd')
  refine ⟨tag (outz O1) y (some (.cell s1.hp.length)), .loc s1.hp.length :: ds, fun a ha => ?_, fun a i => ?_, .cons (.loc tag_same (by rw [upd_same]; simp)) (i1.ext (outz_data.trans x3.data)), s1.hp ++ [.obj (tx x) []], kz3, ?_⟩
  · by_cases z : a = y
    · subst z; rw [upd_same]; simp
    · rw [upd_ne z]; rw [tag_ne z] at ha; exact tz2 a ha
  · by_cases z : a = y
    · subst z; rw [tag_same]; simp
    · rw [tag_ne z]; exact outz_sl
  · have p1 : Post (gOf X G c) (IsD (gOf X G c)) Wx σ O1 H1 (match mkRet c' (tx x) ds s1.hp with
      | .ok d _ hp => .ok d { s1 with hp := hp }
      | .exn x hp => .exn x { s1 with hp := hp }
      | .bad => .bad) Q := by rw [← hc]; exact p1
    unfold mkRet at p1
    show RetP (gOf X G c') _ _ (c' (tx x ++ initT) (.loc s1.hp.length :: ds) (s1.hp ++ [.obj (tx x) []])) _ _
    cases e : c' (tx x ++ initT) (.loc s1.hp.length :: ds) (s1.hp ++ [.obj (tx x) []]) with
    | ok d fr hp =>
      rw [e] at p1
      cases d <;> first | exact p1.elim | skip
      intro O' v H' ex tg hz' iv
      cases iv
      refine ⟨rfl, ?_⟩
      have ex' := x3.trans ex
      have hy : O' y = some (.cell s1.hp.length) := (ex.own y (by rw [upd_same]; simp)).trans tag_same
      exact p1 (mergeO H1 O1 O') (.ref y) H' (merge_ext ex') (k1.called ex' tg (hz'.to rfl rfl rfl)) (.loc ((merge_cell ex').mpr hy) (ex.there y (by rw [upd_same]; simp)))
    | exn x' hp =>
      rw [e] at p1
      intro O' H' cls dd ex tg hz' iv
      have ex' := x3.trans ex
      exact p1 (mergeO H1 O1 O') H' cls dd (merge_ext ex') (k1.called ex' tg (hz'.to rfl rfl rfl)) iv
    | bad => rw [e] at p1; exact p1.elim
/-- [es], {} in the store -/
theorem l_boxL {es : List Expr} {ms : List E} (hs : PA X es (RA (gOf X G c) Wx ms)) (hl : ms.length ≤ LIM) : PE X (.List es pos) (RE (gOf X G c) Wx (.boxL ms)) := by
  refine pe_imp (pe_lst hs) fun σ H Q q => ?_
  obtain ⟨O, s, k, p⟩ := q
  rw [ev] at p
  refine ⟨O, s, k, ?_⟩
  cases e : evs (gOf X G c).G (gOf X G c).c ms s with
  | ok ds s1 =>
    rw [e] at p
    intro O1 vs H1 e1 k1 i1
    refine ⟨?_, fun q hq => ?_⟩
    · rw [i1.len, evs_len ms s s1 ds e]; exact Nat.le_trans hl lim_line
    · exact p (tag O1 q (some (.cell s1.hp.length))) (.ref q) _ (e1.trans (Ext.lay hq)) (k1.new hq fun ex => ⟨vs, upd_same, i1.ext ex⟩) (.loc tag_same (by rw [upd_same]; simp))
  | exn x s1 => rw [e] at p; exact p
  | bad => rw [e] at p; exact p.elim
theorem l_boxD : PE X (.Dict [] [] pos) (RE (gOf X G c) Wx .boxD) := by
  refine pe_imp pe_dnewK fun σ H Q q => ?_
  obtain ⟨O, s, k, p⟩ := q
  rw [ev] at p
  exact fun q hq => p (tag O q (some (.cell s.hp.length))) (.ref q) _ (Ext.lay hq) (k.new hq fun ex => ⟨[], upd_same, .nil⟩) (.loc tag_same (by rw [upd_same]; simp))
end
end Ft
set_option Elab.async false
set_option linter.all false
set_option maxRecDepth 100000
set_option maxHeartbeats 2000000
namespace Ft
open PySem PyProof.Rows L2
section
variable {X : Cx} {G : Glob} {c : Oracle} {Wx : WX} {a b t : Expr} {ma mb : E} {pos : Pos}
/-- len(e) -/
theorem l_hLen {p2 : Pos} (hg : Gl X "len") (hm : X.mg "len" = none) (ha : PE X a (RE (gOf X G c) Wx ma)) (hp : pl a = true) : PE X (.Call (.Name "len" p2) [a] [] pos) (RE (gOf X G c) Wx (.hLen ma)) :=
  pe_imp (pe_callB (call_len.or call_lenD) hg hm PySem.boot_len (pa_cons ha pa_nil (pl_star hp _ _)) (by decide) (by decide) (pl_star hp _ _) rfl) fun σ H Q q => by
    obtain ⟨O, s, k, p⟩ := q
    rw [ev] at p
    refine ⟨O, s, k, (Post.bind (rel := IsD _) p).imp fun x H1 ⟨O1, d1, s1, e1, k1, i1, p1⟩ => ?_⟩
    cases e : s1.cell d1 with
    | none => rw [e] at p1; exact p1.elim
    | some q =>
      obtain ⟨i, cl⟩ := q
      rw [e] at p1
      obtain ⟨rfl, hc⟩ := cell_of e
      obtain ⟨a', rfl, o1, ck⟩ := k1.at_ i1 hc
      cases cl with
      | lst xs =>
        obtain ⟨vs, h1, l1⟩ := ck
        refine .inl ⟨_, _, rfl, .inl ⟨_, SqL.of h1, rfl⟩, ?_⟩
        rw [l1.len]
        exact p1 O1 _ H1 Ext.refl k1 (.int _)
      | dct xs =>
        obtain ⟨vs, h1, l1⟩ := ck
        refine .inr ⟨_, _, rfl, h1, ?_⟩
        rw [IsK.len l1]
        exact p1 O1 _ H1 Ext.refl k1 (.int _)
      | obj _ _ => exact p1.elim
/-- e[k] -/
def rCix (g : Gw) : R2 := fun x y H Q => ∃ (O : Ow) (i : Nat) (a : Addr) (cl : Cell) (d dv : D), x = .ref a ∧ CellOk g O H a cl ∧ Is g.K g.w O H y d ∧ cellIdx d cl = some dv ∧ ∀ v, Is g.K g.w O H v dv → Q v H
theorem ixr_cell (hu : X.A.units + 1 < cLine) : IxR X (rCix (gOf X G c)) := by
  intro value slice pins s σ H x y v u Q I rx ry h' hs
  obtain ⟨O, i, a, cl, d, dv, rfl, ck, iy, hd, q⟩ := h'
  cases cl with
  | obj _ _ => cases hd
  | lst xs =>
    obtain ⟨vs, h1, l1⟩ := ck
    simp only [cellIdx] at hd
    cases d <;> first | cases hd | skip
    cases iy
    obtain ⟨z, z1, z2⟩ := l1.at hd
    exact ix_list value slice pins s σ H _ _ v u Q I rx ry ⟨_, _, _, _, rfl, rfl, SqL.of h1, z1, q _ z2⟩ hs
  | dct ds =>
    obtain ⟨kvs, h1, l1⟩ := ck
    simp only [cellIdx] at hd
    cases e : ky d with
    | none => rw [e] at hd; cases hd
    | some k =>
      rw [e] at hd
      have hd : look ds k = some dv := hd
      obtain ⟨g1, g2⟩ := l1.valV k
      obtain ⟨v', e', hi⟩ := g1 dv hd
      have key := iy.key e
      subst key
      have gv := DGet.k (k := kK k) h1
      rw [e'] at gv
      cases (show v = Value.ref _ from rx)
      exact tail_any (dict_typeIs I gv) PySem.F.slot_dict_getitem.lookup (d_getItem hu I gv ry fun w' s' I' rw' => ⟨v', H, I', rw', q _ hi⟩) hs
theorem l_hIdx (hu : X.A.units + 1 < cLine) (ha : PE X a (RE (gOf X G c) Wx ma)) (hb : PE X b (RE (gOf X G c) Wx mb)) (hp : pl b = true) : PE X (.Subscript a b pos) (RE (gOf X G c) Wx (.hIdx ma mb)) :=
  pe_imp (pe_ix (ixr_cell hu) ha hb (pl_ix hp)) fun σ H Q q => by
    obtain ⟨O, s, k, p⟩ := q
    rw [ev] at p
    refine ⟨O, s, k, (Post.bind (rel := IsD _) p).imp fun x H1 ⟨O1, d1, s1, e1, k1, i1, p1⟩ => ?_⟩
    cases e : s1.cell d1 with
    | none => rw [e] at p1; exact p1.elim
    | some q =>
      rw [e] at p1
      refine ⟨O1, s1, k1, (Post.bind (rel := IsD _) p1).imp fun y H2 ⟨O2, d2, s2, e2, k2, i2, p2⟩ => ?_⟩
      cases e' : s2.cell d1 with
      | none => rw [e'] at p2; exact p2.elim
      | some q2 =>
        obtain ⟨i, cl⟩ := q2
        rw [e'] at p2
        obtain ⟨rfl, hc⟩ := cell_of e'
        obtain ⟨a', rfl, o1, ck⟩ := k2.at_ (Is.ext e2.data i1) hc
        obtain ⟨d, hd, q⟩ := Post.pure k2 p2
        exact ⟨O2, i, a', cl, d2, d, rfl, ck, i2, hd, fun v hv => q v H2 (Same.refl _) hv⟩
/-- k in e, k not in e -/
theorem re_hIn {g : Gw} {σ : L2.St} {H : Hp} {Q : VK} (h : RE g Wx (.hIn ma mb) σ H Q) : tOp (rOin g false) (RE g Wx ma) (RE g Wx mb) σ H Q := by
  obtain ⟨O, s, k, p⟩ := h
  rw [ev] at p
  refine ⟨O, s, k, (Post.bind (rel := IsD g) p).imp fun y H1 ⟨O1, d1, s1, e1, k1, i1, p1⟩ => ?_⟩
  refine ⟨O1, s1, k1, (Post.bind (rel := IsD g) p1).imp fun x H2 ⟨O2, d2, s2, e2, k2, i2, p2⟩ => ?_⟩
  cases e : s2.cell d2 with
  | none => rw [e] at p2; exact p2.elim
  | some q =>
    obtain ⟨i, cl⟩ := q
    rw [e] at p2
    obtain ⟨rfl, hc⟩ := cell_of e
    obtain ⟨a', rfl, o1, ck⟩ := k2.at_ i2 hc
    obtain ⟨d, hd, q⟩ := Post.pure k2 p2
    have i1' := Is.ext e2.data i1
    cases cl with
    | lst xs =>
      obtain ⟨vs, h1, l1⟩ := ck
      obtain ⟨bb, hb, rfl⟩ := Option.map_eq_some_iff.mp hd
      exact .inl ⟨O2, d1, vs, xs, a', bb, i1', rfl, h1, l1, hb, q _ _ (Same.refl _) (.bl _)⟩
    | dct kvs =>
      obtain ⟨vs, h1, l1⟩ := ck
      obtain ⟨bb, hb, rfl⟩ := Option.map_eq_some_iff.mp hd
      obtain ⟨kk, hk, rfl⟩ := Option.map_eq_some_iff.mp hb
      exact .inr ⟨O2, d1, vs, kvs, a', kk, i1', rfl, h1, l1, hk, q _ _ (Same.refl _) (.bl _)⟩
    | obj _ _ => cases hd
theorem re_hNin {g : Gw} {σ : L2.St} {H : Hp} {Q : VK} (h : RE g Wx (.hNin ma mb) σ H Q) : tOp (rOin g true) (RE g Wx ma) (RE g Wx mb) σ H Q := by
  obtain ⟨O, s, k, p⟩ := h
  rw [ev] at p
  refine ⟨O, s, k, (Post.bind (rel := IsD g) p).imp fun y H1 ⟨O1, d1, s1, e1, k1, i1, p1⟩ => ?_⟩
  refine ⟨O1, s1, k1, (Post.bind (rel := IsD g) p1).imp fun x H2 ⟨O2, d2, s2, e2, k2, i2, p2⟩ => ?_⟩
  cases e : s2.cell d2 with
  | none => rw [e] at p2; exact p2.elim
  | some q =>
    obtain ⟨i, cl⟩ := q
    rw [e] at p2
    obtain ⟨rfl, hc⟩ := cell_of e
    obtain ⟨a', rfl, o1, ck⟩ := k2.at_ i2 hc
    obtain ⟨d, hd, q⟩ := Post.pure k2 p2
    have i1' := Is.ext e2.data i1
    cases cl with
    | lst xs =>
      obtain ⟨vs, h1, l1⟩ := ck
      obtain ⟨bb, hb, rfl⟩ := Option.map_eq_some_iff.mp hd
      exact .inl ⟨O2, d1, vs, xs, a', bb, i1', rfl, h1, l1, hb, q _ _ (Same.refl _) (.bl _)⟩
    | dct kvs =>
      obtain ⟨vs, h1, l1⟩ := ck
      obtain ⟨bb, hb, rfl⟩ := Option.map_eq_some_iff.mp hd
      obtain ⟨kk, hk, rfl⟩ := Option.map_eq_some_iff.mp hb
      exact .inr ⟨O2, d1, vs, kvs, a', kk, i1', rfl, h1, l1, hk, q _ _ (Same.refl _) (.bl _)⟩
    | obj _ _ => cases hd
theorem l_hIn (hu : X.A.units + 1 < cLine) (ha : PE X a (RE (gOf X G c) Wx ma)) (hb : PE X b (RE (gOf X G c) Wx mb)) (hp : pl b = true) : PE X (.Compare a [.In] [b] pos) (RE (gOf X G c) Wx (.hIn ma mb)) :=
  pe_imp (pe_cmpR (or_oin hu) ha hb (pl_mark hp _)) fun σ H Q q => re_hIn q
theorem l_hNin (hu : X.A.units + 1 < cLine) (ha : PE X a (RE (gOf X G c) Wx ma)) (hb : PE X b (RE (gOf X G c) Wx mb)) (hp : pl b = true) : PE X (.Compare a [.NotIn] [b] pos) (RE (gOf X G c) Wx (.hNin ma mb)) :=
  pe_imp (pe_cmpR (or_onin hu) ha hb (pl_mark hp _)) fun σ H Q q => re_hNin q
theorem ev_hIn_bool {s s1 : Ft.St} {d : D} (h : ev G c (.hIn ma mb) s = .ok d s1) : ∃ v, d = .bool v := by
  rw [ev] at h
  cases e1 : ev G c ma s with
  | ok x sx =>
    rw [e1] at h
    simp only [R.bind] at h
    cases e2 : ev G c mb sx with
    | ok y sy =>
      rw [e2] at h
      simp only [R.bind] at h
      cases e3 : sy.cell y with
      | none => rw [e3] at h; cases h
      | some q =>
        rw [e3] at h
        dsimp only at h
        cases e4 : cellIn x q.2 with
        | none => rw [e4] at h; cases h
        | some bb => rw [e4] at h; cases h; exact ⟨_, rfl⟩
    | exn x s1 => rw [e2] at h; cases h
    | bad => rw [e2] at h; cases h
  | exn x s1 => rw [e1] at h; cases h
  | bad => rw [e1] at h; cases h
theorem ev_hNin_bool {s s1 : Ft.St} {d : D} (h : ev G c (.hNin ma mb) s = .ok d s1) : ∃ v, d = .bool v := by
  rw [ev] at h
  cases e1 : ev G c ma s with
  | ok x sx =>
    rw [e1] at h
    simp only [R.bind] at h
    cases e2 : ev G c mb sx with
    | ok y sy =>
      rw [e2] at h
      simp only [R.bind] at h
      cases e3 : sy.cell y with
      | none => rw [e3] at h; cases h
      | some q =>
        rw [e3] at h
        dsimp only at h
        cases e4 : cellIn x q.2 with
        | none => rw [e4] at h; cases h
        | some bb => rw [e4] at h; cases h; exact ⟨_, rfl⟩
    | exn x s1 => rw [e2] at h; cases h
    | bad => rw [e2] at h; cases h
  | exn x s1 => rw [e1] at h; cases h
  | bad => rw [e1] at h; cases h
theorem t_hIn (hu : X.A.units + 1 < cLine) (ha : PE X a (RE (gOf X G c) Wx ma)) (hb : PE X b (RE (gOf X G c) Wx mb)) (hp : pl b = true) : PT X (.Compare a [.In] [b] pos) (RT (gOf X G c) Wx (.hIn ma mb)) :=
  pt_imp (pt_cmpR (or_oin hu) ha hb (pl_mark hp _)) fun σ H Q q => re_hIn (rt_bool (fun _ _ _ => ev_hIn_bool) q)
theorem t_hNin (hu : X.A.units + 1 < cLine) (ha : PE X a (RE (gOf X G c) Wx ma)) (hb : PE X b (RE (gOf X G c) Wx mb)) (hp : pl b = true) : PT X (.Compare a [.NotIn] [b] pos) (RT (gOf X G c) Wx (.hNin ma mb)) :=
  pt_imp (pt_cmpR (or_onin hu) ha hb (pl_mark hp _)) fun σ H Q q => re_hNin (rt_bool (fun _ _ _ => ev_hNin_bool) q)
/-- e.pop() -/
theorem l_hPop {ap : Pos} (ha : PE X a (RE (gOf X G c) Wx ma)) (hab : attributeBase a "pop" X.env (eval a X.env) = eval a X.env) (hl : (ap.endLine == pos.line) = true) : PE X (.Call (.Attribute a "pop" ap) [] [] pos) (RE (gOf X G c) Wx (.hPop ma)) :=
  pe_imp (pe_bm0 PySem.F.plainAttrs_list PySem.F.slot_list_pop PySem.F.type_list_pop mt_pop ha hab hl) fun σ H Q q => by
    obtain ⟨O, s, k, p⟩ := q
    rw [ev] at p
    refine ⟨O, s, k, (Post.bind (rel := IsD _) p).imp fun x H1 ⟨O1, d1, s1, e1, k1, i1, p1⟩ => ?_⟩
    cases e : s1.cell d1 with
    | none => rw [e] at p1; exact p1.elim
    | some q =>
      obtain ⟨i, cl⟩ := q
      rw [e] at p1
      obtain ⟨rfl, hc⟩ := cell_of e
      obtain ⟨a', rfl, o1, ck⟩ := k1.at_ i1 hc
      cases cl with
      | lst xs =>
        obtain ⟨vs, h1, l1⟩ := ck
        dsimp only at p1
        cases hlast : xs[xs.length - 1]? with
        | none => rw [hlast] at p1; exact p1.elim
        | some dv =>
          rw [hlast] at p1
          obtain ⟨u, u1, u2⟩ : ∃ u, vs[vs.length - 1]? = some u ∧ Is X.K X.w O1 H1 u dv := by
            rw [l1.len]
            exact l1.get hlast
          refine ⟨.inl ⟨rfl, _, SqL.of h1⟩, a', vs, u, rfl, rfl, h1, u1, ?_⟩
          have e : DExt O1 H1 O1 (upd H1 a' (.lst vs.dropLast)) := (Ext.put (i := i) Ext.refl o1).data
          exact p1 O1 u _ (Ext.refl.put o1) (k1.put o1 fun ex => ⟨_, upd_same, (l1.ext ex).dropLast⟩) (u2.ext e)
      | dct _ => exact p1.elim
      | obj _ _ => exact p1.elim
end
end Ft
set_option linter.all false
namespace Ft
theorem txLt_iff : ∀ a b : Tx, txLt a b = true ↔ a < b
  | [], [] => by simp [txLt]
  | _ :: _, [] => by simp [txLt]
  | [], _ :: _ => by simp [txLt]
  | a :: r, b :: t => by
    rw [List.cons_lt_cons_iff, ← txLt_iff r t]
    simp only [txLt]
    split
    · simp [*]
    · split
      · simp [*]
      · simp [*]
theorem txLt_false {a b : Tx} : txLt a b = false ↔ b ≤ a := by
  rw [← List.not_lt, ← txLt_iff]
  simp
/-- ascending -/
abbrev Asc (l : List Tx) : Prop := l.Pairwise fun a b => a ≤ b
theorem insTx_perm (x : Tx) : ∀ l, (insTx x l).Perm (x :: l)
  | [] => List.Perm.refl _
  | y :: r => by
    simp only [insTx]
    split
    · exact (List.Perm.cons y (insTx_perm x r)).trans (List.Perm.swap x y r)
    · exact List.Perm.refl _
theorem insTx_asc (x : Tx) : ∀ l, Asc l → Asc (insTx x l)
  | [], _ => List.pairwise_singleton _ _
  | y :: r, h => by
    obtain ⟨h1, h2⟩ := List.pairwise_cons.mp h
    simp only [insTx]
    split
    · rename_i q
      have q' : y < x := (txLt_iff _ _).mp q
      refine List.pairwise_cons.mpr ⟨fun z hz => ?_, insTx_asc x r h2⟩
      rcases List.mem_cons.mp ((insTx_perm x r).mem_iff.mp hz) with e | e
      · rw [e]; exact List.not_lt.mp (List.lt_asymm q')
      · exact h1 z e
    · rename_i q
      have q' : x ≤ y := txLt_false.mp (by simpa using q)
      refine List.pairwise_cons.mpr ⟨fun z hz => ?_, h⟩
      rcases List.mem_cons.mp hz with e | e
      · rw [e]; exact q'
      · exact List.le_trans q' (h1 z e)
theorem sortTx_perm : ∀ l, (sortTx l).Perm l
  | [] => List.Perm.refl _
  | x :: r => (insTx_perm x _).trans (List.Perm.cons x (sortTx_perm r))
theorem sortTx_asc : ∀ l, Asc (sortTx l)
  | [] => List.Pairwise.nil
  | x :: r => insTx_asc x _ (sortTx_asc r)
theorem asc_unique {l m : List Tx} (h : Asc l) (k : Asc m) (p : l.Perm m) : l = m :=
  List.Perm.eq_of_pairwise (fun a b _ _ h1 h2 => List.le_antisymm h1 h2) h k p
theorem sortTx_of {l m : List Tx} (h : Asc l) (p : l.Perm m) : l = sortTx m := asc_unique h (sortTx_asc m) (p.trans (sortTx_perm m).symm)
theorem sortTx_congr {l m : List Tx} (p : l.Perm m) : sortTx l = sortTx m := sortTx_of (sortTx_asc l) ((sortTx_perm l).trans p)
theorem mem_dedup {x : Tx} : ∀ l, x ∈ dedupTx l ↔ x ∈ l
  | [] => Iff.rfl
  | y :: r => by
    have ih := mem_dedup (x := x) r
    simp only [dedupTx]
    split
    · rename_i q
      rw [ih, List.mem_cons]
      exact ⟨.inr, fun z => z.elim (fun e => e ▸ q) id⟩
    · rw [List.mem_cons, List.mem_cons, ih]
theorem dedup_nodup : ∀ l, (dedupTx l).Nodup
  | [] => List.nodup_nil
  | y :: r => by
    simp only [dedupTx]
    split
    · exact dedup_nodup r
    · rename_i q
      exact List.nodup_cons.mpr ⟨fun z => q ((mem_dedup r).mp z), dedup_nodup r⟩
end Ft
set_option Elab.async false
set_option linter.all false
set_option maxRecDepth 100000
set_option maxHeartbeats 4000000
/-! sets of texts -/
namespace Ft
open PySem PySem.Spec PyProof.Rows L2
def txOf (e : Int × Value) : Str := strOf e.2
def GoodT (P : Program) (w : World) (e : Int × Value) : Prop := ∃ k tk, e.2 = Value.str k tk ∧ e.1 = (strKind P w).hash k
/-- the set of texts at a: L its members -/
def SetX (P : Program) (w : World) (h : Heap) (a : Addr) (L : List Str) : Prop :=
  ∃ o es ep t, h.get? a = some o ∧ o.ExactSet ∧ o.data = .set es ep t ∧ (∀ e ∈ es.toList, GoodT P w e) ∧ (es.toList.map txOf).Perm L ∧ L.Nodup ∧ L.length < scanBound ∧ t.fits es.size = true ∧ Ris t.place.toList ∧ (w.params.followText "set-order" = true ∨ t.led = true)
section
variable {P : Program} {w : World} {h h' : Heap} {a : Addr} {L : List Str}
theorem SetX.size {es : Array (Int × Value)} (p : (es.toList.map txOf).Perm L) : es.size = L.length := by rw [← p.length_eq, List.length_map, Array.length_toList]
theorem goodT_elems {l : List (Int × Value)} (g : ∀ e ∈ l, GoodT P w e) : ElemsOf (strKind P w) l := fun e he => by
  obtain ⟨k, tk, h1, h2⟩ := g e he
  exact ⟨⟨k, by rw [h1]; exact strKind_is P w k tk, h2⟩, by rw [h1]; rfl⟩
theorem goodT_is {e : Int × Value} (g : GoodT P w e) (k : Str) : (strKind P w).is k e.2 = true ↔ txOf e = k := by
  obtain ⟨q, tk, h1, _⟩ := g
  unfold txOf
  rw [h1]
  simp [PySem.strKind, Value.isStrOf, strOf]
theorem goodT_mem {l : List (Int × Value)} (g : ∀ e ∈ l, GoodT P w e) (k : Str) : k ∈ l.map txOf ↔ ∃ e ∈ l, (strKind P w).is k e.2 = true := by
  rw [List.mem_map]
  exact ⟨fun ⟨e, he, q⟩ => ⟨e, he, (goodT_is (g e he) k).2 q⟩, fun ⟨e, he, q⟩ => ⟨e, he, (goodT_is (g e he) k).1 q⟩⟩
end
section
variable {P : Program} {w : World} {A : Around} {E : Value → Shared → Prop} {s : Shared} {a : Addr} {L : List Str}
theorem setX_tail {g : Bool → Sem Unit} (hg : ∀ (b : Bool) (z : Shared) (Q' : Unit → Shared → Prop), Q' () z → wpAny (model P w) A (g b) Q' E z)
    {o : Obj} {es : Array (Int × Value)} {ep : Nat} {t : SetTable} (ko : s.heap.get? a = some o) (kx : o.ExactSet) (kd : o.data = .set es ep t)
    {fs : Array (Int × Value)} {u : SetTable} (gf : ∀ e ∈ fs.toList, GoodT P w e) (pf : (fs.toList.map txOf).Perm L) (nL : L.Nodup)
    (bL : L.length < scanBound) (fu : u.fits fs.size = true) (ru : Ris u.place.toList) (lu : w.params.followText "set-order" = true ∨ u.led = true) {wasDummy : Bool} {R : Option Bool → Shared → Prop}
    (hR : ∀ h', Heap.SameBut a s.heap h' → SetX P w h' a L → R (some true) { s with heap := h' }) :
    wpAny (model P w) A (do
        storeSet a fs u
        if (!wasDummy && u.tooFull) = true then do
            g (relayAll u fs (SetTable.grown fs.size)).2.2
            storeSet a (relayAll u fs (SetTable.grown fs.size)).1 (relayAll u fs (SetTable.grown fs.size)).2.1
            pure (some true)
          else pure (some true)) R E s := by
  have bf : fs.size < scanBound := by rw [SetX.size pf]; exact bL
  refine wpAny_bind (wpAny_storeSet_of ko kd ?_ (fits_of_scanBound bf))
  have k1 := store_at (es' := fs) (t' := u) ko kd
  have sb := Heap.SameBut.update s.heap a (Obj.putSet fs u)
  split
  · have pm := relayAll_perm u fs (SetTable.grown fs.size)
    have f3 := relayAll_fits u fs (SetTable.grown fs.size)
    have r3 := relayAll_ris u fs (SetTable.grown fs.size)
    have l3 := relayAll_led u fs (SetTable.grown fs.size)
    generalize relayAll u fs (SetTable.grown fs.size) = Z at pm f3 r3 l3 ⊢
    obtain ⟨gs, v, gave⟩ := Z
    dsimp only at pm f3 r3 l3 ⊢
    have pg : (gs.toList.map txOf).Perm L := (pm.map txOf).trans pf
    have bg : gs.size < scanBound := by rw [SetX.size pg]; exact bL
    refine wpAny_bind (hg _ _ _ (wpAny_bind (wpAny_storeSet_of k1 rfl ?_ (fits_of_scanBound bg))))
    have k2 := store_at (es' := gs) (t' := v) k1 rfl
    refine wpAny_pure (hR _ (sb.trans (Heap.SameBut.update _ a _)) ⟨_, gs, _, v, k2, kx, rfl, fun e he => gf e (pm.mem_iff.mp he), pg, nL, bL, f3, r3, lu.imp id fun z => by rw [l3]; exact z⟩)
  · exact wpAny_pure (hR _ sb ⟨_, fs, _, u, k1, kx, rfl, gf, pf, nL, bL, fu, ru, lu⟩)
/-- one more text -/
def addX (L : List Str) (k : Str) : List Str := if k ∈ L then L else k :: L
theorem setX_add {k : Str} {tk : Tok} {Q : Bool → Shared → Prop} (R : SetX P w s.heap a L) (room : L.length + 1 < scanBound)
    (hQ : ∀ b h', Heap.SameBut a s.heap h' → SetX P w h' a (addX L k) → Q b { s with heap := h' }) :
    wpAny (model P w) A (setAddHashed a (.str k tk) ((strKind P w).hash k)) Q E s := by
  obtain ⟨o, es, ep, t, ko, kx, kd, g, pL, nL, bL, kf, kr, kl⟩ := R
  have isk : (strKind P w).is k (.str k tk) = true := strKind_is P w k tk
  have sck : (Value.str k tk).scannable = true := rfl
  have el : ElemsOf (strKind P w) es.toList := goodT_elems g
  have bs : es.size < scanBound := by rw [SetX.size pL]; exact bL
  unfold setAddHashed setAddHashedIn
  refine wpAny_holding (wpAny_bind (wpAny_setState_of ko kd kf ?_))
  dsimp only
  rw [byScan_of sck bs el]
  simp only [↓reduceIte]
  unfold setAddByScan
  refine wpAny_bind (wpAny_bind (wpAny_rule (wpAny_bind (wpAny_setScan_of isk ko kd kf el ?_))))
  cases fi : List.findIdx? (fun e => (strKind P w).is k e.2) es.toList with
  | some j =>
    dsimp only
    obtain ⟨hj, pj, _⟩ := List.findIdx?_eq_some_iff_getElem.mp fi
    have kL : k ∈ L := pL.mem_iff.mp ((goodT_mem (P := P) (w := w) g k).2 ⟨es.toList[j], List.getElem_mem hj, pj⟩)
    refine wpAny_pure (wpAny_pure (hQ _ s.heap (Heap.SameBut.refl a s.heap) ?_))
    rw [addX, if_pos kL]
    exact ⟨o, es, ep, t, ko, kx, kd, g, pL, nL, bL, kf, kr, kl⟩
  | none =>
    dsimp only
    have kL : k ∉ L := fun z => by
      obtain ⟨e, he, q⟩ := (goodT_mem (P := P) (w := w) g k).1 (pL.mem_iff.mpr z)
      have c := List.findIdx?_eq_none_iff.mp fi e he
      rw [q] at c
      cases c
    have gw : ∀ (b : Bool) {z : Shared} {Q' : Unit → Shared → Prop}, Q' () z → wpAny (model P w) A (match b with | true => rule "set.scan.the-table-gave-way" | false => pure ()) Q' E z :=
      fun b z Q' q => by cases b <;> first | exact wpAny_pure q | exact wpAny_rule q
    have pm := layNew_perm t es ((strKind P w).hash k) (.str k tk)
    have f1 := layNew_fits t es ((strKind P w).hash k) (.str k tk)
    have r1 := layNew_ris t es ((strKind P w).hash k) (.str k tk) kr
    have l1 := layNew_led t es ((strKind P w).hash k) (.str k tk)
    generalize layNew t es ((strKind P w).hash k) (.str k tk) = Z at pm f1 r1 l1 ⊢
    obtain ⟨fs, u, wasDummy, gave⟩ := Z
    dsimp only at pm f1 r1 l1 ⊢
    rw [Array.toList_push] at pm
    have pc : fs.toList.Perm (((strKind P w).hash k, Value.str k tk) :: es.toList) := pm.trans (List.perm_append_singleton _ _)
    have pk : (fs.toList.map txOf).Perm (k :: L) := (pc.map txOf).trans (List.Perm.cons k pL)
    have gf : ∀ e ∈ fs.toList, GoodT P w e := fun e he => by
      rcases List.mem_cons.mp (pc.mem_iff.mp he) with z | z
      · rw [z]; exact ⟨k, tk, rfl, rfl⟩
      · exact g e z
    have n1 : (k :: L).Nodup := List.nodup_cons.mpr ⟨kL, nL⟩
    have lu : w.params.followText "set-order" = true ∨ u.led = true := kl.imp id fun z => l1.trans z
    have fin : ∀ b h', Heap.SameBut a s.heap h' → SetX P w h' a (k :: L) → Q b { s with heap := h' } := fun b h' sb r => hQ b h' sb (by rw [addX, if_neg kL]; exact r)
    refine wpAny_bind (gw _ ?_)
    split
    · refine wpAny_bind ?_
      rw [hashByValue_scannable 8 sck]
      refine wpAny_pure (setX_tail ?_ ko kx kd gf pk n1 room ?_ ?_ ?_ ?_)
      · intro b z Q' q; cases b <;> first | exact wpAny_pure q | exact wpAny_rule q
      · first | (split <;> first | exact f1 | exact SetTable.fits_plain_off f1) | exact f1
      · first | (split <;> exact r1) | exact r1
      · first | (split <;> exact lu) | exact lu
      · intro h' sb r; dsimp only; exact wpAny_pure (fin _ h' sb r)
    · refine wpAny_bind (wpAny_pure ?_)
      simp only [↓reduceIte]
      refine setX_tail ?_ ko kx kd gf pk n1 room f1 r1 lu ?_
      · intro b z Q' q; cases b <;> first | exact wpAny_pure q | exact wpAny_rule q
      · intro h' sb r; dsimp only; exact wpAny_pure (fin _ h' sb r)
end
/-- what has been put in after i items -/
def putX : List Str → Nat → List Str
  | _, 0 => []
  | ks, i + 1 => addX (putX ks i) (ks.getD i ⟨#[]⟩)
theorem putX_len (ks : List Str) : ∀ i, (putX ks i).length ≤ i
  | 0 => Nat.le_refl _
  | i + 1 => by
    have := putX_len ks i
    simp only [putX, addX]
    split
    · omega
    · simp only [List.length_cons]; omega
theorem putX_mem (ks : List Str) : ∀ i, i ≤ ks.length → ∀ k, k ∈ putX ks i ↔ k ∈ ks.take i
  | 0, _, k => by simp [putX]
  | i + 1, h, k => by
    have ih := putX_mem ks i (by omega) k
    have hl : i < ks.length := h
    rw [List.take_succ, List.getElem?_eq_getElem hl]
    have e : ks.getD i ⟨#[]⟩ = ks[i] := by rw [List.getD_eq_getElem?_getD, List.getElem?_eq_getElem hl]; rfl
    simp only [putX, addX, e, List.mem_append, Option.toList_some, List.mem_singleton]
    split
    · rename_i q
      rw [ih]
      exact ⟨.inl, fun z => z.elim id fun y => by rw [y]; exact (putX_mem ks i (by omega) _).mp q⟩
    · rw [List.mem_cons, ih]
      exact Or.comm
theorem putX_nodup (ks : List Str) : ∀ i, (putX ks i).Nodup
  | 0 => List.nodup_nil
  | i + 1 => by
    have ih := putX_nodup ks i
    simp only [putX, addX]
    split
    · exact ih
    · rename_i q
      exact List.nodup_cons.mpr ⟨q, ih⟩
theorem strs_at : ∀ {vs : List Value} {ks : List Str}, StrsAre vs ks → ∀ (i : Nat) (v : Value), vs[i]? = some v → ∃ t, v = .str (ks.getD i ⟨#[]⟩) t
  | _, _, .nil, i, v, h => by simp at h
  | _, _, .cons n t r, 0, v, h => by
    simp at h
    exact ⟨t, by rw [← h]; rfl⟩
  | _, _, .cons n t r, i + 1, v, h => by
    simp only [List.getElem?_cons_succ] at h
    obtain ⟨u, e⟩ := strs_at r i v h
    exact ⟨u, by rw [e]; rfl⟩
section
variable {P : Program} {w : World} {A : Around} {E : Value → Shared → Prop} {s : Shared}
theorem SetX.keep {h h' : Heap} {a : Addr} {L : List Str} (R : SetX P w h a L) (k : ∀ o, h.get? a = some o → h'.get? a = some o) : SetX P w h' a L := by
  obtain ⟨o, es, ep, t, ko, r⟩ := R
  exact ⟨o, es, ep, t, k o ko, r⟩
abbrev freshSet (w : World) : Obj := { cls := .type "set", dict := none, data := .set #[] 0 (.fresh 0 0 (!w.params.followText "set-order")) }
theorem setX_fresh {h : Heap} {a : Addr} (e : h.get? a = some (freshSet w)) : SetX P w h a [] :=
  ⟨_, #[], 0, _, e, ⟨rfl, rfl, rfl⟩, rfl, (fun e he => by simp at he), (by simp), List.nodup_nil, (by decide), (by rfl), List.Pairwise.nil, by
    cases q : w.params.followText "set-order"
    · exact .inr rfl
    · exact .inl rfl⟩
/-- the loop that fills it -/
theorem fill_txs {I : Addr} {fp wr : List Addr} {G : Array GenState → Array GenState → Prop} {n : Nat} {Pv : Nat → Value → Prop} {St : Nat → Shared → Prop} {R : Result → Shared → Prop}
    (W : WalksS P w A.in1 I fp wr G n Pv St) (S : Addr) (nf : S ∉ fp) (ks : List Str) (hv : ∀ i v, Pv i v → ∃ t, v = .str (ks.getD i ⟨#[]⟩) t) (hb : n + 1 < scanBound) :
    ∀ (k i : Nat) (s : Shared), n - i = k → i ≤ n → St i s → SetX P w s.heap S (putX ks i) → (∀ s', Moved (S :: wr) G s s' → SetX P w s'.heap S (putX ks n) → R (.ok (.ret .none)) s') →
      codeAny (model P w) A (.builtin "set.update.loop" ⟨[.ref S, .ref I], []⟩) R s := by
  have nw : S ∉ wr := fun h => nf (W.sub _ h)
  have sub : ∀ b ∈ wr, b ∈ S :: wr := fun b q => List.mem_cons_of_mem _ q
  intro k
  induction k with
  | zero =>
    intro i s e hi st hS hR
    obtain rfl : i = n := by omega
    refine codeAny_builtin F.entry_set_update_loop ?_; rw [Around.under_plainId F.plain_set_update_loop _]
    show wpAny _ A.in1 (pyNext (.ref I) >>= _) _ _ s; refine wpAny_bind (W.done s _ _ st fun s' hm => ?_)
    show wpAny _ A.in1 (ret Value.none) _ _ s'; exact wpAny_pure (hR s' (hm.mono sub) (hS.keep fun o q => hm.heap S _ nw q))
  | succ k ih =>
    intro i s e hi st hS hR
    have lt : i < n := by omega
    refine codeAny_builtin F.entry_set_update_loop ?_; rw [Around.under_plainId F.plain_set_update_loop _]
    show wpAny _ A.in1 (pyNext (.ref I) >>= _) _ _ s; refine wpAny_bind (W.item i s _ _ lt st fun v s' hP st' hm => ?_)
    obtain ⟨t, rfl⟩ := hv i v hP
    have hS' : SetX P w s'.heap S (putX ks i) := hS.keep fun o q => hm.heap S _ nw q
    show wpAny _ A.in1 (holding [Value.str (ks.getD i ⟨#[]⟩) t] (setAdd S (.str (ks.getD i ⟨#[]⟩) t)) >>= _) _ _ s'
    refine wpAny_bind (wpAny_holding ?_); unfold setAdd
    refine wpAny_holding (wpAny_bind ((PySem.strKind P w).pyHash (k := ks.getD i ⟨#[]⟩) (strKind_is _ _ _ _) ?_))
    have room : (putX ks i).length + 1 < scanBound := by have := putX_len ks i; omega
    refine setX_add (s := { s' with toks := s'.toks + 1 }) hS' room fun _ h' sb hS2 => ?_
    refine wpAny_pure ⟨plainId_quiet F.plain_set_update_loop _, ih (i + 1) _ (by omega) lt (W.frame _ s' _ _ st' (Nat.le_succ _) fun b q o e => ?_) hS2 fun z hz hS3 => ?_⟩
    · rw [sb.2 b (fun y : b = S => nf (by rw [← y]; exact q))]; exact e
    · refine hR z (Moved.trans W.gtrans ((hm.mono sub).then_heap (Nat.le_succ _) fun b o q e => ?_) hz) hS3
      rw [sb.2 b (fun y : b = S => q (by rw [y]; exact List.mem_cons_self))]; exact e
/-- set(xs), xs a list of texts -/
theorem call_set_txs {l : Addr} {items : Array Value} {ks : List Str} {Q : Value → Shared → Prop} (hh : A.handled = none) (hl : s.heap.IsList l items) (hi : StrsAre items.toList ks) (hb : items.size + 1 < scanBound)
    (h : ∀ (h' : Heap) (tk : Nat), SetX P w h' s.heap.objs.size (putX ks items.size) → (∀ b o, s.heap.get? b = some o → h'.get? b = some o) → Q (.ref s.heap.objs.size) { s with heap := h', toks := tk }) :
    wpAny (model P w) A (call (.type "set") [.ref l]) Q E s := by
  obtain ⟨c, tl, m1⟩ := F.called_set.mro
  have m2 := F.called_set.made; have m3 := F.called_set.sub
  refine wpAny_call (codeAny_of_tree ?_); show wpAny _ _ (callAny (.type "set") _) _ _ _
  refine wpAny_pure ⟨Code.quiet_builtin _ (by decide +kernel), codeAny_builtin F.entry_type_call ?_⟩; rw [Around.under_plain (weight_type_call_type "set" [.ref l] []) rfl]
  have m4 := F.called_set.notType; have m5 := F.called_set.canCreate
  have m6 := F.typeCall_set_1 (.ref l); repeat (any_goals (first | assumption | wp_step))
  refine codeAny_mono (code_set_led1 (.ref l) (E := E) (Q₁ := fun obj z => obj = .ref s.heap.objs.size ∧ z = { s with heap := s.heap.push (freshSet w) }) ⟨rfl, rfl⟩) fun r z hr => ?_
  cases r with
  | error e => exact hr
  | ok fl =>
    cases fl with
    | ret obj =>
      obtain ⟨rfl, rfl⟩ := hr
      have hS : (s.heap.push (freshSet w)).get? s.heap.objs.size = some (freshSet w) := Heap.get?_push_size _ rfl
      have hT : Shared.TypeIs { s with heap := s.heap.push (freshSet w) } (.ref s.heap.objs.size) "set" := ⟨_, hS, rfl⟩
      have m7 := F.called_set.init.lookup; have m8 := F.called_set.init.bind (.ref s.heap.objs.size)
      repeat (any_goals (first | assumption | wp_step))
      refine codeAny_mono (codeAny_call_builtin (R := wants (fun r z => r = .none ∧ ∃ h' tk, z = { s with heap := h', toks := tk } ∧ SetX P w h' s.heap.objs.size (putX ks items.size) ∧
          (∀ b o, s.heap.get? b = some o → h'.get? b = some o)) E) F.called_set.init.plain F.entry_set_init (check_set_init_1 hT ?_)) fun r z hr => ?_
      · obtain ⟨ol, hol, hcl, nl, hdl⟩ := hl
        obtain ⟨ocls, odict, odata, oslots⟩ := ol
        simp only at hcl hdl; subst hcl; subst hdl
        have hol' : (s.heap.push (freshSet w)).get? l = some { cls := .type "list", dict := odict, data := .seq items nl, slots := oslots } := Heap.get?_push_of_some _ hol
        have m9 := F.sub_list_set; have m10 := F.sub_list_frozenset
        have m11 : (Value.type "list" == Value.type "dict") = false := by decide +kernel
        have l1 : (s.heap.push (freshSet w)).IsList l items := ⟨_, hol', rfl, nl, rfl⟩
        unfold Builtin.«set.__init__» noKeywords Builtin.Frozenset.updateFrom
        generalize hPI : pyIter = PI
        wp_walk
        subst hPI; refine wpAny_pyIter_list l1 ?_
        refine wpAny_bind (wpAny_runValue ?_); have lS : l < s.heap.objs.size := Heap.lt_size hol
        have h3 : A.in1.in1.in1.handled = none := by simp [hh]
        have z1 : (s.heap.push (freshSet w)).objs.size = s.heap.objs.size + 1 := size_push' _ _
        have nI : l ≠ (s.heap.push (freshSet w)).objs.size := by rw [z1]; exact Nat.ne_of_lt (Nat.lt_succ_of_lt lS)
        have nf : s.heap.objs.size ∉ [(s.heap.push (freshSet w)).objs.size, l] := by
          rw [z1]; simp only [List.mem_cons, List.not_mem_nil, or_false, not_or]; exact ⟨Nat.ne_of_lt (Nat.lt_succ_self _), Nat.ne_of_gt lS⟩
        have hv : ∀ (i : Nat) (v : Value), items[i]? = some v → ∃ t, v = .str (ks.getD i ⟨#[]⟩) t := fun i v q => strs_at hi i v (by rw [Array.getElem?_toList]; exact q)
        refine fill_txs ((Walks.list h3 _ l nI items).toS) s.heap.objs.size nf ks hv hb (items.size - 0) 0 _ (by omega) (Nat.zero_le _) ⟨⟨_, Heap.get?_push_size _ rfl, rfl, rfl⟩, (l1.push _)⟩ (setX_fresh (Heap.get?_push_of_some _ hS)) fun s' hm hS' => ?_
        obtain ⟨h', g', d', tk', os'⟩ := s'
        obtain rfl : g' = s.gens := hm.gens
        obtain rfl : d' = s.drawn := hm.drawn
        obtain rfl : os' = s.os := hm.os
        show wpAny _ _ _ _ _ _; refine wpAny_pure ?_
        show wpAny _ _ (ret Value.none) _ _ _; refine wpAny_pure ⟨rfl, h', tk', rfl, hS', fun b o e => ?_⟩
        have lb := Heap.lt_size e
        refine hm.heap b o ?_ (Heap.get?_push_of_some _ (Heap.get?_push_of_some _ e))
        rw [z1]
        simp only [List.mem_cons, List.not_mem_nil, or_false, not_or]; exact ⟨Nat.ne_of_lt lb, Nat.ne_of_lt (Nat.lt_succ_of_lt lb)⟩
      · cases r with
        | error e => exact hr
        | ok fl2 =>
          cases fl2 with
          | ret r =>
            obtain ⟨rfl, h', tk, rfl, hS', hk'⟩ := hr
            repeat (any_goals (first | assumption | wp_step))
            exact h _ _ hS' hk'
          | _ => exact hr.elim
    | _ => exact hr.elim
/-- sorted(of a set of texts) -/
theorem sorted_setX {a : Addr} {L : List Str} {Q : Value → Shared → Prop} (R : SetX P w s.heap a L) (hh : A.handled = none)
    (hQ : ∀ s' p (out : Array Value) (c : Nat) (ss : List Str), (∀ b o, s.heap.get? b = some o → s'.heap.get? b = some o) → s'.gens = s.gens → s'.os = s.os → s.heap.objs.size ≤ p →
      s'.heap.get? p = some (seqObj "list" out c) → StrsAre out.toList ss → ss.Perm L → sortedS ss = true → Q (.ref p) s') :
    wpAny (model P w) A (call (.builtin "sorted") [.ref a]) Q E s := by
  obtain ⟨o, es, ep, t, ko, kx, kd, g, pL, nL, bL, kf, kr, kl⟩ := R
  refine Calls.call_function_entry kind_sorted plain_sorted entry_sorted (args_sorted1 _) ?_; unfold Builtin.«sorted»
  refine wpAny_bind (m := checkCount "sorted" 1 1 _) (wpAny_pure (wpAny_bind (collect_set (A := A.in1) hh ⟨o, ko, kx.1, kd⟩ kf (by rw [SetX.size pL]; exact bL) kr kl fun s1 vs k1 hz g1 o1 pm => ?_)))
  have vl : vs.length = L.length := by rw [pm.length_eq, List.length_map, Array.length_toList, SetX.size pL]
  have vS : StrsAre vs (vs.map strOf) := strsAre_map vs fun v hv => by
    obtain ⟨e, he, q⟩ := List.mem_map.mp (pm.mem_iff.mp hv)
    obtain ⟨k, tk, h1, _⟩ := g e he
    exact ⟨k, tk, by rw [← q]; exact h1⟩
  have pk : (vs.map strOf).Perm L := by
    have q := pm.map strOf
    rw [List.map_map] at q
    exact q.trans pL
  have vz : vs.length ≤ sizeLine := by rw [vl]; exact fits_of_scanBound bL
  refine wpAny_bind (wpAny_newList ?_ vz)
  have oL : (s1.heap.push (seqObj "list" vs.toArray 0)).get? s1.heap.objs.size = some (seqObj "list" vs.toArray 0) := Heap.get?_push_size _ rfl
  refine wpAny_bind (wpAny_holding (wpAny_call_entry slot_list_sort ⟨_, oL, rfl⟩ entry_list_sort (list_sort_treeKAny strKind_oneLt oL vS.keysOf (fun _ _ _ e => keyKind_strs (by rw [← e]; exact vS)) vz fun st' hp hs => ⟨_, rfl, ?_⟩) (args_list_sort _)))
  obtain ⟨ss', b1, b2, b3⟩ := sorted_out_str vS hp hs
  obtain ⟨c, hc⟩ := sortedHeap_at (vs := vs) (out := (arrOf st').map (·.2)) oL
  refine wpAny_pure ⟨_, rfl, hQ _ s1.heap.objs.size _ c ss' (fun b u e => ?_) g1 o1 hz hc b1 (b2.trans pk) b3⟩
  have q := k1 b u e
  have lt := Heap.lt_size q
  show (sortedHeap (s1.heap.push (seqObj "list" vs.toArray 0)) s1.heap.objs.size vs _).get? b = some u
  rw [sortedHeap_old (Nat.ne_of_lt lt) (by rw [size_push']; exact Nat.lt_succ_of_lt lt)]
  exact Heap.get?_push_of_some _ q
end
end Ft
set_option Elab.async false
set_option linter.all false
set_option maxRecDepth 100000
set_option maxHeartbeats 2000000
namespace Ft
open PySem PySem.Spec PyProof.Rows L2
theorem tS_toList (x : Tx) : (tS x).cps.toList = x := by simp [tS]
theorem str_tS (s : Str) : ∃ x, s = tS x := ⟨s.cps.toList, by simp [tS]⟩
theorem strs_tS : ∀ ss : List Str, ∃ xs : List Tx, ss = xs.map tS
  | [] => ⟨[], rfl⟩
  | s :: ss => by
    obtain ⟨x, rfl⟩ := str_tS s
    obtain ⟨xs, rfl⟩ := strs_tS ss
    exact ⟨x :: xs, rfl⟩
theorem rising_asc : ∀ (p : Tx) (l : List Tx), risingS (tS p) (l.map tS) = true → Asc (p :: l)
  | p, [], _ => List.pairwise_singleton _ _
  | p, x :: r, h => by
    have h : (!ltCps (tS x).cps.toList (tS p).cps.toList && risingS (tS x) (r.map tS)) = true := h
    rw [Bool.and_eq_true, tS_toList, tS_toList, ltCps_eq] at h
    have q : p ≤ x := List.not_lt.mp (by simpa using h.1)
    have ih := rising_asc x r h.2
    refine List.pairwise_cons.mpr ⟨fun z hz => ?_, ih⟩
    rcases List.mem_cons.mp hz with e | e
    · rw [e]; exact q
    · exact List.le_trans q ((List.pairwise_cons.mp ih).1 z e)
theorem sorted_asc : ∀ l : List Tx, sortedS (l.map tS) = true → Asc l
  | [], _ => List.Pairwise.nil
  | x :: r, h => rising_asc x r h
theorem perm_tS {xs ys : List Tx} (h : (xs.map tS).Perm (ys.map tS)) : xs.Perm ys := by
  have q := h.map (fun s : Str => s.cps.toList)
  simpa [List.map_map, Function.comp_def, tS] using q
theorem sorted_unique {ss : List Str} {ys : List Tx} (p : ss.Perm (ys.map tS)) (h : sortedS ss = true) : ss = (sortTx ys).map tS := by
  obtain ⟨xs, rfl⟩ := strs_tS ss
  rw [sortTx_of (sorted_asc xs h) (perm_tS p)]
section
variable {X : Cx} {G : Glob} {c : Oracle}
theorem cr_sortedX : CallR X (.builtin "sorted") (rC1 (gOf X G c) (op1 .sorted)) := by
  intro pins s σ H vs us Q I r h
  obtain ⟨x, rfl, O, d1, d, fr, i1, hd, q⟩ := h
  cases d1 <;> simp only [op1] at hd <;> first | cases hd | skip
  rename_i ys
  cases e : Ft.sOf ys with
  | none => rw [e] at hd; cases hd
  | some zs =>
    rw [e] at hd
    cases hd
    obtain ⟨p, vs, rfl, h, l⟩ := i1.lstS
    have := l.strs e
    subst this
    obtain ⟨its, rv, hl, hz⟩ := I.list (SqL.of h)
    rw [Vals.ref1 r]
    refine sorted_strsAny hl.isList rv.strs (by rw [← rv.length]; exact hz) fun out ss' b1 b2 b3 => ?_
    obtain ⟨ep, he⟩ := sortedAll_at s.heap its out
    have u := sorted_unique b2 b3
    subst u
    have hn : H (s.heap.objs.size + 1) = none := I.hok.fresh (Nat.le_succ _)
    have hlen : (((sortTx zs).map tS).map V.str).length ≤ sizeLine := by
      rw [List.length_map, b2.length_eq]
      rw [List.length_map] at hz
      exact hz
    exact ⟨.ref _, upd H (s.heap.objs.size + 1) (.lst (((sortTx zs).map tS).map V.str)), I.laid (t' := s.toks) (fun _ _ => sortedAll_old) (Nat.le_succ _) ⟨hlen, out.toList, ep, vals_of_strs b1, he⟩, rfl, q _ _ (same_upd hn) (Is.new_lst hn fr (IsL.ofStrs _))⟩
/-- a set of texts, while it is walked -/
def SetO (P : Program) (w : World) (a : Addr) (L : List Str) : HO := .ext fun h => SetX P w h a L
theorem setO_new {P : Program} {w : World} {H : Hp} {h : Heap} {a : Addr} {L : List Str} (R : SetX P w h a L) : ObjOk P w H h a (SetO P w a L) := by
  have ⟨o, _, _, _, ho, _⟩ := R
  exact ⟨R, ⟨o, ho⟩, fun h1 h2 p k => p.keep k⟩
def rSetL (K : PySem.W.Frag) (P : Program) (w : World) : List V → Hp → VK → Prop := fun xs H Q => ∃ (l : Addr) (ks : List Str), xs = [V.ref l] ∧ SqL K H l (ks.map V.str) ∧ ks.length + 1 < scanBound ∧
  ∀ p L, H p = none → L.Nodup → (∀ k, k ∈ L ↔ k ∈ ks) → Q (.ref p) (upd H p (SetO P w p L))
theorem cr_setL (hc : X.calm = true) : CallR X (.type "set") (rSetL X.K X.prog X.w) := by
  intro pins s σ H vs us Q I r h
  obtain ⟨l, ks, rfl, hs, hb, q⟩ := h
  obtain ⟨its, rv, hl, hz⟩ := I.list hs
  rw [Vals.ref1 r]
  have hn : its.toArray.size = ks.length := by rw [List.size_toArray, ← rv.length, List.length_map]
  refine call_set_txs (I.ok.hd hc) hl.isList (by simpa using rv.strs) (by rw [hn]; exact hb) fun h' tk R hk => ?_
  rw [hn] at R
  refine ⟨.ref _, upd H s.heap.objs.size (SetO X.prog X.w s.heap.objs.size (putX ks ks.length)), I.laid (t' := tk) hk (Nat.le_refl _) (setO_new R), rfl, q _ _ (I.hok.fresh (Nat.le_refl _)) (putX_nodup _ _) fun k => ?_⟩
  rw [putX_mem ks _ (Nat.le_refl _), List.take_length]
def rSortSet (P : Program) (w : World) : List V → Hp → VK → Prop := fun xs H Q => ∃ (a : Addr) (L : List Str), xs = [V.ref a] ∧ H a = some (SetO P w a L) ∧ ∀ ss p, ss.Perm L → sortedS ss = true → H p = none → Q (.ref p) (upd H p (.lst (ss.map V.str)))
theorem cr_sortSet (hc : X.calm = true) : CallR X (.builtin "sorted") (rSortSet X.prog X.w) := by
  intro pins s σ H vs us Q I r h
  obtain ⟨a, L, rfl, ha, q⟩ := h
  have R : SetX X.prog X.w s.heap a L := (I.hok a _ ha).1
  rw [Vals.ref1 r]
  refine sorted_setX R (I.ok.hd hc) fun s' p out n ss k g o hp hg b1 b2 b3 => ?_
  have hL : L.length < scanBound := by
    obtain ⟨_, _, _, _, _, _, _, _, _, _, z, _⟩ := R
    exact z
  have hlen : (ss.map V.str).length ≤ sizeLine := by rw [List.length_map, b2.length_eq]; exact fits_of_scanBound hL
  have hn : H p = none := I.hok.fresh hp
  have J : Inv X pins σ (upd H p (.lst (ss.map V.str))) { s with heap := s'.heap, gens := s'.gens, drawn := s'.drawn, toks := s'.toks } :=
    I.call (ch := []) (Un.laid k hp hn) (I.hok.laid k hp ⟨hlen, out.toList, n, vals_of_strs b1, hg⟩) (g ▸ I.bare) (fun _ z => nomatch z)
  have e : s' = { s with heap := s'.heap, gens := s'.gens, drawn := s'.drawn, toks := s'.toks } := by
    cases s'; cases s; cases o; rfl
  rw [e]
  exact ⟨.ref p, _, J, rfl, q ss p b2 b3 hn⟩
variable {Wx : WX} {a : Expr} {ma : E} {pos : Pos}
theorem l_sset {p p2 p3 : Pos} (hc : X.calm = true) (hg : Gl X "sorted") (hm : X.mg "sorted" = none) (hg2 : Gl X "set") (hm2 : X.mg "set" = none) (ha : PE X a (RE (gOf X G c) Wx ma)) (hp : pl a = true) :
    PE X (.Call (.Name "sorted" p) [.Call (.Name "set" p2) [a] [] p3] [] pos) (RE (gOf X G c) Wx (.un .sset ma)) := by
  refine pe_imp (pe_callB (cr_sortSet hc) hg hm (by decide +kernel) (pa_cons (pe_callTy (cr_setL hc) hg2 hm2 PyProof.Rows.boot_set (pa_cons ha pa_nil (pl_star hp _ _)) (by decide) (by decide) (pl_star hp _ _) rfl) pa_nil rfl) (by decide) (by decide) rfl rfl) fun σ H Q q => ?_
  refine re_un (o := .sset) (r := fun x H Q => rSetL X.K X.prog X.w [x] H fun y H1 => rSortSet X.prog X.w [y] H1 Q) (fun x H Q h => ?_) q
  obtain ⟨O, d1, d, fr, i1, hd, q⟩ := h
  cases d1 <;> simp only [op1] at hd <;> first | cases hd | skip
  rename_i ys
  split at hd
  · rename_i hl
    cases e : Ft.sOf ys with
    | none => rw [e] at hd; cases hd
    | some zs =>
      rw [e] at hd
      cases hd
      obtain ⟨b, vs, rfl, h, l⟩ := i1.lstS
      have ln := l.len
      have := l.strs e
      subst this
      refine ⟨b, zs.map tS, rfl, SqL.of h, ?_, fun p L hp nd hm => ⟨p, L, rfl, upd_same, fun ss p2 b2 b3 h2 => ?_⟩⟩
      · rw [List.length_map] at ln
        rw [ln]
        unfold scanBound
        omega
      · have pm : L.Perm ((dedupTx zs).map tS) := by
          refine (List.perm_ext_iff_of_nodup nd ?_).mpr fun k => ?_
          · exact (List.pairwise_map.mpr ((dedup_nodup zs).imp fun h e => h (tS_inj e)))
          · rw [hm, List.mem_map, List.mem_map]
            exact ⟨fun ⟨x, hx, e⟩ => ⟨x, (mem_dedup zs).mpr hx, e⟩, fun ⟨x, hx, e⟩ => ⟨x, (mem_dedup zs).mp hx, e⟩⟩
        have u := sorted_unique (b2.trans pm) b3
        subst u
        have s1 : Same H (upd H p (SetO X.prog X.w p L)) := same_upd hp
        have hn2 : H p2 = none := by
          cases e2 : H p2 with
          | none => rfl
          | some o => rw [s1 p2 o e2] at h2; cases h2
        refine q _ _ (fun x o hx => (same_upd h2) x o (s1 x o hx)) (.lst upd_same (fr p2 hn2) (IsL.ofStrs _))
  · cases hd
end
end Ft
set_option Elab.async false
set_option linter.all false
set_option maxRecDepth 100000
set_option maxHeartbeats 2000000
namespace Ft
open PySem PyProof.Rows L2
theorem tS_tx (s : Str) : tS (tx s) = s := by simp [tS, tx]
/-- what is known of a text while it is put into the interpreter's form -/
structure CC where
  N : List Str
  sc : Scope
  fns : List Str
  gls : List Str
  chg : List Str
  exs : List Str
  /-- error classes with a field -/
  exi : List Str := []
  /-- classes, their methods, their fields; which names are of which class -/
  clss : List Str := []
  mets : List (Str × Str) := []
  atts : List (Str × Str) := []
  vcls : List (Str × Str) := []
  /-- names and fields that stand for lists and dicts of the store; calls that get a new one -/
  locs : List Str := []
  lats : List Str := []
  lcal : List (Str × Nat) := []
  /-- those that become data ahead of an assignment -/
  shr : List Str := []
def relab (scope sc : Scope) : Scope := { scope with names := scope.names.map fun (n, k) => if (k == NameKind.free && sc.kind == .function && sc.names.lookup n == some .cell) then (n, NameKind.cell) else (n, k) }
theorem relab_eq (scope : Scope) (env : Env) : relabel scope env = relab scope env.scope := rfl
def ixOf : List Str → Str → Nat → Option Nat
  | [], _, _ => none
  | y :: r, x, n => if y = x then some n else ixOf r x (n + 1)
theorem ixOf_get : ∀ {l : List Str} {x : Str} {n i : Nat}, ixOf l x n = some i → n ≤ i ∧ l[i - n]? = some x
  | [], _, _, _, h => by cases h
  | y :: r, x, n, i, h => by
    simp only [ixOf] at h
    split at h
    · rename_i e
      cases h
      subst e
      exact ⟨Nat.le_refl _, by simp⟩
    · obtain ⟨h1, h2⟩ := ixOf_get h
      refine ⟨by omega, ?_⟩
      have : i - n = (i - (n + 1)) + 1 := by omega
      rw [this]
      simpa using h2
def nmOk (x : Str) : Bool := !(x == "__debug__") && !(x == "__classdict__") && !(x == "__name__")
theorem nmOk_d {x : Str} (h : nmOk x = true) : (x == ("__debug__" : Str)) = false := by
  simp only [nmOk, Bool.and_eq_true, Bool.not_eq_true'] at h
  exact h.1.1
theorem nmOk_c {x : Str} (h : nmOk x = true) : (x == ("__classdict__" : Str)) = false := by
  simp only [nmOk, Bool.and_eq_true, Bool.not_eq_true'] at h
  exact h.1.2
theorem nmOk_n {x : Str} (h : nmOk x = true) : x ≠ "__name__" := by
  simp only [nmOk, Bool.and_eq_true, Bool.not_eq_true'] at h
  exact fun z => by rw [z] at h; simp at h
def CC.kind (C : CC) (x : Str) : Option NameKind := C.sc.names.lookup x
def CC.vis (C : CC) (x : Str) : Bool := match C.kind x with
  | some .local => true
  | some .cell => true
  | some .free => true
  | _ => false
def CC.loc (C : CC) (x : Str) : Bool := match C.kind x with
  | some .local => true
  | _ => false
def CC.gl (C : CC) (x : Str) : Bool := match C.kind x with
  | some .globalImplicit => true
  | _ => false
def CC.var (C : CC) (x : Str) : Option Nat := if C.vis x && nmOk x then ixOf C.N x 0 else none
structure Gd (X : Cx) (G : Glob) (c : Oracle) (n : Nat) (C : CC) (Wx : WX) : Prop where
  hN : X.N = C.N
  nd : C.N.Nodup
  sc : X.env.scope = C.sc
  calm : X.calm = true
  room : Rm n X.A
  tk : Takes X Wx
  glb : ∀ x d, G x = some d → ∃ u v, X.mg (tS x) = some u ∧ RelV v u ∧ ∀ O H, Is X.K X.w O H v d
  gin : ∀ x ∈ C.gls, (G (tx x)).isSome = true
  blt : ∀ b ∈ blts, X.mg b = none
  fns : ∀ f ∈ C.fns, ∃ a fd ps, X.mg f = some (.ref a) ∧ PySem.W.keepIn X.K (.ref a) = true ∧ Binds X.K fd ps [] ∧ Fk X.prog X.w X.K X.mg X.base n a fd ps (spOf (gOf X G c) (tx f))
  clss : ∀ x ∈ C.clss, ∃ A fa fd ps m c', n = m + 1 ∧ X.mg x = some (.ref A) ∧ Mk X.K A fa ∧ (∀ ds hp, c (tx x) ds hp = mkRet c' (tx x) ds hp) ∧ Binds X.K fd ps [] ∧ Fk X.prog X.w X.K X.mg X.base m fa fd ps (spOf (gOf X G c') (tx x ++ initT))
  mets : ∀ km ∈ C.mets, ∃ A fa fd ps, X.mg km.1 = some (.ref A) ∧ Cls X.K A ∧ Meth X.K A km.2 fa ∧ Binds X.K fd ps [] ∧ Fk X.prog X.w X.K X.mg X.base n fa fd ps (spOf (gOf X G c) (tx km.1 ++ 46 :: tx km.2))
  atts : ∀ kf ∈ C.atts, ∃ A, X.mg kf.1 = some (.ref A) ∧ Cls X.K A ∧ NoAttr X.K A kf.2
section
variable {X : Cx} {G : Glob} {c : Oracle} {n : Nat} {C : CC} {Wx : WX}
theorem Gd.isGl (g : Gd X G c n C Wx) {x : Str} (h : C.gl x = true) : Gl X x := by
  show X.env.scope.names.lookup x = _
  rw [g.sc]
  unfold CC.gl CC.kind at h
  split at h
  · assumption
  · cases h
theorem Gd.isVis (g : Gd X G c n C Wx) {x : Str} (h : C.vis x = true) : Vis X.env.scope x := by
  unfold Vis
  rw [g.sc]
  unfold CC.vis CC.kind at h
  split at h
  · exact .inl (by assumption)
  · exact .inr (.inl (by assumption))
  · exact .inr (.inr (by assumption))
  · cases h
theorem Gd.isLoc (g : Gd X G c n C Wx) {x : Str} (h : C.loc x = true) : X.env.scope.names.lookup x = some .local := by
  rw [g.sc]
  unfold CC.loc CC.kind at h
  split at h
  · assumption
  · cases h
theorem Gd.ix (g : Gd X G c n C Wx) {x : Str} {i : Nat} (h : ixOf C.N x 0 = some i) : X.N[i]? = some x := by
  rw [g.hN]
  exact (ixOf_get h).2
theorem Gd.pvar (g : Gd X G c n C Wx) {x : Str} {i : Nat} {p : Pos} (h : C.var x = some i) : PE X (.Name x p) (tVar i) := by
  unfold CC.var at h
  split at h
  · rename_i hc
    simp only [Bool.and_eq_true] at hc
    exact pe_var (g.ix h) (g.isVis hc.1) (nmOk_d hc.2) (nmOk_c hc.2)
  · cases h
theorem Gd.none_of (g : Gd X G c n C Wx) {x : Str} (h : x ∈ blts) : X.mg x = none := g.blt x h
/-- within a comprehension -/
theorem Gd.blk (g : Gd X G c n C Wx) (s : Shared) (H : Hp) (scope : Scope) (cl : List (Str × Addr)) (D : Addr) (fp : List Addr) : Gd (X.blk s H scope (compEnvC scope cl D X.env) fp) G c n { C with sc := relab scope C.sc } W0 where
  hN := g.hN
  nd := g.nd
  sc := by
    show relabel scope X.env = relab scope C.sc
    rw [relab_eq, g.sc]
  calm := g.calm
  room := g.room
  tk := takes0
  glb := g.glb
  gin := g.gin
  blt := g.blt
  fns := g.fns
  clss := g.clss
  mets := g.mets
  atts := g.atts
end
/-! ### into the interpreter's form -/
def cBin : Operator → Option O2
  | .Add => some .add
  | .Sub => some .sub
  | .Mult => some .mul
  | .FloorDiv => some .fdiv
  | .Mod => some .mod
  | .Pow => some .pow
  | _ => none
def cCmp : CmpOp → Option O2
  | .Eq => some .eq
  | .NotEq => some .ne
  | .Lt => some .lt
  | .LtE => some .le
  | .Gt => some .gt
  | .GtE => some .ge
  | .In => some .in_
  | .NotIn => some .nin
  | .Is => some .is_
  | .IsNot => some .isn
def tst : Expr → Bool
  | .IfExp _ _ _ _ => false
  | _ => true
def cL (r : Expr → Option E) : List Expr → Option (List E)
  | [] => some []
  | e :: es => match r e, cL r es with
    | some m, some ms => some (m :: ms)
    | _, _ => none
def fAnd : List E → Option E
  | [] => none
  | [a] => some a
  | a :: r => (fAnd r).map (.and_ a)
def fOr : List E → Option E
  | [] => none
  | [a] => some a
  | a :: r => (fOr r).map (.or_ a)
def cOpt (r : Expr → Option E) : Option Expr → Option (Option E)
  | none => some none
  | some e => (r e).map some
/-- a target: its names, its slots -/
def cTgs (C : CC) : List Expr → Option (List (Str × Nat))
  | [] => some []
  | .Name x _ :: r => match (if C.loc x && nmOk x then ixOf C.N x 0 else none), cTgs C r with
    | some i, some is => some ((x, i) :: is)
    | _, _ => none
  | _ => none
def cTg (C : CC) : Expr → Option (List (Str × Nat))
  | .Name x p => cTgs C [.Name x p]
  | .Tuple es _ _ => if es.length < 2 then none else cTgs C es
  | _ => none
def isTup : Expr → Bool
  | .Tuple _ _ _ => true
  | _ => false
/-- what is walked -/
def cI (r : Expr → Option E) (C : CC) (tg iter : Expr) : Option (Ft.It × List E) :=
  match iter with
  | .Call (.Name f p) [a] [] q =>
    if f = "range" then (if C.gl f then (r a).map fun m => (.rng, [m]) else none)
    else if f = "enumerate" then (if C.gl f && isTup tg then (r a).map fun m => (.enum, [m]) else none)
    else (r (.Call (.Name f p) [a] [] q)).map fun m => (.seq, [m])
  | .Call (.Name f p) [a, b] [] q =>
    if f = "zip" then (if C.gl f && isTup tg then (match r a, r b with
      | some m, some m' => some (.zip, [m, m'])
      | _, _ => none) else none)
    else (r (.Call (.Name f p) [a, b] [] q)).map fun m => (.seq, [m])
  | .Call (.Name f p) [a, b, b'] [] q =>
    if f = "zip" then (if C.gl f && isTup tg then (match r a, r b, r b' with
      | some m, some m', some m'' => some (.zip, [m, m', m''])
      | _, _, _ => none) else none)
    else (r (.Call (.Name f p) [a, b, b'] [] q)).map fun m => (.seq, [m])
  | e => (r e).map fun m => (.seq, [m])
def cIsi (t : Str) : Option (O1 × String) :=
  if t = "int" then some (.isInt, "int") else if t = "bool" then some (.isBool, "bool") else if t = "str" then some (.isStr, "str") else if t = "tuple" then some (.isTup, "tuple") else if t = "list" then some (.isLst, "list") else none
def cBlt (x : Str) : Option (O1 × Bool × String) :=
  if x = "len" then some (.len, false, "len") else if x = "sum" then some (.sum, false, "sum") else if x = "list" then some (.toLst, true, "list") else if x = "tuple" then some (.toTup, true, "tuple") else if x = "max" then some (.max_, false, "max") else if x = "min" then some (.min_, false, "min") else if x = "int" then some (.int_, true, "int") else if x = "bool" then some (.bool_, true, "bool") else if x = "dict" then some (.toDct, true, "dict") else if x = "str" then some (.str_, true, "str") else none
def ownName (C : CC) : Expr → Option Nat
  | .Name y _ => if C.chg.contains y then C.var y else none
  | _ => none
def abOk : Expr → Bool
  | .Call (.Name id _) [] [] _ => id != "super"
  | _ => true
theorem abOk_base {o : Expr} (h : abOk o = true) (name : Str) (env : Env) (w : Sem Value) : attributeBase o name env w = w := by
  unfold abOk at h
  unfold attributeBase
  split at h
  · rename_i id p pos
    dsimp only
    rw [h]
    simp
  · rename_i hn
    split
    · rename_i id p pos
      exact absurd rfl (hn _ _ _)
    · rfl
/-- the class of what stands there -/
def clsOf (C : CC) : Expr → Option Str
  | .Name x _ => C.vcls.lookup x
  | .Call (.Name x _) _ _ _ => if C.clss.contains x then some x else none
  | _ => none
/-- does it stand for a list or a dict of the store -/
def isLoc (C : CC) : Expr → Bool
  | .Name x _ => C.locs.contains x
  | .Attribute (.Name _ _) f _ => C.lats.contains f
  | _ => false
/-- a new list or dict of the store -/
def cBox (r : Expr → Option E) : Expr → Option E
  | .Dict [] [] _ => some .boxD
  | .List es _ => if es.length ≤ 1000 then (cL r es).map .boxL else none
  | _ => none
/-- arguments, some of them new in the store -/
def cArg (r : Expr → Option E) (C : CC) (f : Str) (k : Nat) (e : Expr) : Option E :=
  if C.lcal.contains (f, k) then (match cBox r e with
    | some m => some m
    | none => r e) else r e
def cA (r : Expr → Option E) (C : CC) (f : Str) : Nat → List Expr → Option (List E)
  | _, [] => some []
  | k, e :: es => match cArg r C f k e, cA r C f (k + 1) es with
    | some m, some ms => some (m :: ms)
    | _, _ => none
/-- sorted, of a list or of a set of a list -/
def cSrt (r : Expr → Option E) (C : CC) (a : Expr) : Option E := match a with
  | .Call (.Name z p) [b] [] q => if z = "set" then (if C.gl z then (r b).map (.un .sset) else none) else (r (.Call (.Name z p) [b] [] q)).map (.un .sorted)
  | a => (r a).map (.un .sorted)
/-- a method of an object, of a built-in type -/
def cMeth (r : CC → Expr → Option E) (C : CC) (o : Expr) (name : Str) (es : List Expr) : Option E :=
  match clsOf C o with
  | some k => if C.mets.contains (k, name) && decide (es.length < 30) then (match r C o, cA (r C) C (mName k name) 0 es with
    | some x, some ms => some (.meth (tx k) x (tx name) ms)
    | _, _ => none) else none
  | none => match es with
    | [] => if name = "pop" && isLoc C o then (r C o).map .hPop else if name = "isalnum" then (r C o).map fun m => .mt .isalnum m [] else none
    | [e] => if name = "join" then (match r C o, r C e with
        | some x, some y => some (.mt .join x [y])
        | _, _ => none)
      else if name = "index" then (match r C o, r C e with
        | some x, some y => some (.mt .index x [y])
        | _, _ => none) else none
    | [e, f] => if name = "get" then (match r C o, r C e, r C f with
        | some x, some y, some z => some (.mt .get x [y, z])
        | _, _, _ => none) else none
    | _ => none
def cStep (r : CC → Expr → Option E) (C : CC) : Expr → Option E
  | .Name x _ => match C.var x with
    | some i => some (.var i)
    | none => if C.gl x && nmOk x && C.gls.contains x then some (.glb (tx x)) else none
  | .Constant .none _ _ => some (.cst .none)
  | .Constant (.bool b) _ _ => some (.cst (.bool b))
  | .Constant (.int i) _ _ => some (.cst (.int i))
  | .Constant (.str x) _ _ => some (.cst (.str (tx x)))
  | .Tuple es _ _ => if es.length ≤ 1000 then (cL (r C) es).map .tup else none
  | .List es _ => if es.length ≤ 1000 then (cL (r C) es).map .lst else none
  | .Dict [] [] _ => some .emp
  | .BinOp a op b _ => match cBin op, r C a, r C b with
    | some o, some x, some y => some (.bi o x y)
    | _, _, _ => none
  | .UnaryOp .Not a _ => if tst a then (r C a).map (.un .not_) else none
  | .UnaryOp .USub a _ => (r C a).map (.un .neg)
  | .Compare a [.In] [b] _ => match ownName C b with
    | some i => (r C a).map fun m => .oIn m i
    | none => match r C a, r C b with
      | some m, some m' => some (if isLoc C b then .hIn m m' else .bi .in_ m m')
      | _, _ => none
  | .Compare a [.NotIn] [b] _ => match ownName C b with
    | some i => (r C a).map fun m => .oNin m i
    | none => match r C a, r C b with
      | some m, some m' => some (if isLoc C b then .hNin m m' else .bi .nin m m')
      | _, _ => none
  | .Compare a [op] [b] _ => match cCmp op, r C a, r C b with
    | some o, some x, some y => some (.bi o x y)
    | _, _, _ => none
  | .Compare a [op, op'] [b, e] _ => match cCmp op, cCmp op', r C a, r C b, r C e with
    | some o, some o', some x, some y, some z => some (.ch o o' x y z)
    | _, _, _, _, _ => none
  | .BoolOp .And es _ => if es.all tst then (cL (r C) es).bind fAnd else none
  | .BoolOp .Or es _ => if es.all tst then (cL (r C) es).bind fOr else none
  | .IfExp t a b _ => if tst t then (match r C t, r C a, r C b with
    | some x, some y, some z => some (.ite x y z)
    | _, _, _ => none) else none
  | .Subscript a (.Slice lo hi none _) _ => match r C a, cOpt (r C) lo, cOpt (r C) hi with
    | some x, some l, some h => some (.slc x l h)
    | _, _, _ => none
  | .Subscript a (.Slice none none (some (.UnaryOp .USub (.Constant (.int 1) _ _) _)) _) _ => (r C a).map (.un .rev)
  | .Subscript a b _ => match ownName C a with
    | some i => (r C b).map (.oIdx i)
    | none => match r C a, r C b with
      | some x, some y => some (if isLoc C a then .hIdx x y else .bi .idx x y)
      | _, _ => none
  | .Attribute e f _ => match clsOf C e with
    | some k => if C.atts.contains (k, f) && abOk e then (r C e).map fun m => .attr (tx k) m (tx f) else none
    | none => none
  | .Call (.Name f _) [] [] _ => if C.gl f && nmOk f && C.clss.contains f then some (.call (tx f) []) else none
  | .Call (.Name f _) (a :: es) [] _ =>
    if C.gl f && nmOk f then
      (if C.fns.contains f || C.clss.contains f then (cA (r C) C f 0 (a :: es)).map (.call (tx f))
      else match es with
        | [] => if f = "sorted" then cSrt (r C) C a else (match cBlt f with
          | some (o, _, _) => (match o, ownName C a with
            | .len, some i => some (.oLen i)
            | .len, none => (r C a).map fun m => if isLoc C a then .hLen m else .un .len m
            | _, _ => (r C a).map (.un o))
          | none => none)
        | [.Name t p] => if f = "isinstance" then (if C.gl t && nmOk t then (match cIsi t with
            | some (o, _) => (r C a).map (.un o)
            | none => none) else none) else if f = "max" then (match r C a, r C (.Name t p) with
              | some x, some y => some (.bi .max2 x y)
              | _, _ => none) else none
        | [.Tuple [.Name t1 _, .Name t2 _] _ _] => if f = "isinstance" && t1 = "tuple" && t2 = "list" && C.gl t1 && C.gl t2 then (r C a).map (.un .isTL) else none
        | [b] => if f = "max" then (match r C a, r C b with
              | some x, some y => some (.bi .max2 x y)
              | _, _ => none) else none
        | _ => none)
    else none
  | .Call (.Attribute o name ap) es [] cp =>
    if ap.endLine == cp.line && abOk o then cMeth r C o name es else none
  | .ListComp elt [⟨tg, iter, ifs, k⟩] scope _ =>
    if k = 0 then
      match cTg { C with sc := relab scope C.sc } tg, cI (r C) C tg iter, cL (r { C with sc := relab scope C.sc }) ifs, r { C with sc := relab scope C.sc } elt with
      | some own, some (kk, src), some cs, some m => if blkC C.N C.sc scope own && ifs.all tst && decide (ifs.length ≤ 1) && pl iter then some (.comp kk src (own.map (·.2)) cs m) else none
      | _, _, _, _ => none
    else none
  | _ => none
/-- what has no form is never come to -/
def orStuck (e : Expr) (o : Option E) : Option E := match o with
  | some m => some m
  | none => if pl e then some .stuck else none
def cE : Nat → CC → Expr → Option E
  | 0, _, _ => none
  | n + 1, C, e => orStuck e (cStep (cE n) C e)
end Ft
set_option Elab.async false
set_option linter.all false
set_option maxRecDepth 100000
set_option maxHeartbeats 2000000
namespace Ft
open PySem PyProof.Rows L2
def SndE (G : Glob) (c : Oracle) (n : Nat) (r : CC → Expr → Option E) : Prop := ∀ C e me, r C e = some me → pl e = true ∧ ∀ X Wx, Gd X G c n C Wx → PE X e (RE (gOf X G c) Wx me) ∧ (tst e = true → PT X e (RT (gOf X G c) Wx me))
section
variable {G : Glob} {c : Oracle} {n : Nat} {r : CC → Expr → Option E} {C : CC}
theorem cL_ok (S : SndE G c n r) : ∀ {es : List Expr} {ms : List E}, cL (r C) es = some ms → es.all pl = true ∧ ms.length = es.length ∧ ∀ X Wx, Gd X G c n C Wx → PA X es (RA (gOf X G c) Wx ms)
  | [], ms, h => by
    cases h
    exact ⟨rfl, rfl, fun X Wx g => l_nil⟩
  | e :: es, ms, h => by
    simp only [cL] at h
    cases h1 : r C e with
    | none => rw [h1] at h; cases h
    | some m =>
      cases h2 : cL (r C) es with
      | none => rw [h1, h2] at h; cases h
      | some ms' =>
        rw [h1, h2] at h
        cases h
        obtain ⟨p1, s1⟩ := S C e m h1
        obtain ⟨p2, l2, s2⟩ := cL_ok S h2
        exact ⟨by simp [p1]; simpa using p2, by simp [l2], fun X Wx g => l_cons (s1 X Wx g).1 p1 (s2 X Wx g)⟩
theorem cBox_ok (S : SndE G c n r) {e : Expr} {m : E} (h : cBox (r C) e = some m) : pl e = true ∧ ∀ X Wx, Gd X G c n C Wx → PE X e (RE (gOf X G c) Wx m) := by
  unfold cBox at h
  split at h
  · cases h
    exact ⟨rfl, fun X Wx g => l_boxD⟩
  · rename_i es p
    split at h
    · rename_i hl
      obtain ⟨ms, hm, rfl⟩ := Option.map_eq_some_iff.mp h
      obtain ⟨h1, h2, h3⟩ := cL_ok S hm
      exact ⟨rfl, fun X Wx g => l_boxL (h3 X Wx g) (by rw [h2]; unfold LIM; omega)⟩
    · cases h
  · cases h
theorem cA_ok (S : SndE G c n r) {f : Str} : ∀ {es : List Expr} {k : Nat} {ms : List E}, cA (r C) C f k es = some ms → es.all pl = true ∧ ms.length = es.length ∧ ∀ X Wx, Gd X G c n C Wx → PA X es (RA (gOf X G c) Wx ms)
  | [], k, ms, h => by
    cases h
    exact ⟨rfl, rfl, fun X Wx g => l_nil⟩
  | e :: es, k, ms, h => by
    simp only [cA] at h
    cases h1 : cArg (r C) C f k e with
    | none => rw [h1] at h; cases h
    | some m =>
      cases h2 : cA (r C) C f (k + 1) es with
      | none => rw [h1, h2] at h; cases h
      | some ms' =>
        rw [h1, h2] at h
        cases h
        have one : pl e = true ∧ ∀ X Wx, Gd X G c n C Wx → PE X e (RE (gOf X G c) Wx m) := by
          have pure_ : r C e = some m → pl e = true ∧ ∀ X Wx, Gd X G c n C Wx → PE X e (RE (gOf X G c) Wx m) := fun q =>
            let ⟨p1, s1⟩ := S C e m q
            ⟨p1, fun X Wx g => (s1 X Wx g).1⟩
          unfold cArg at h1
          split at h1
          · cases hb : cBox (r C) e with
            | none => rw [hb] at h1; exact pure_ h1
            | some m' => rw [hb] at h1; cases h1; exact cBox_ok S hb
          · exact pure_ h1
        obtain ⟨p1, s1⟩ := one
        obtain ⟨p2, l2, s2⟩ := cA_ok S h2
        exact ⟨by simp [p1]; simpa using p2, by simp [l2], fun X Wx g => l_cons (s1 X Wx g) p1 (s2 X Wx g)⟩
theorem fAnd_ok (S : SndE G c n r) : ∀ {es : List Expr} {ms : List E} {me : E}, cL (r C) es = some ms → fAnd ms = some me → es.all tst = true → ∀ X Wx (pos : Pos), Gd X G c n C Wx → PE X (.BoolOp .And es pos) (RE (gOf X G c) Wx me) ∧ PW X (.BoolOp .And es pos) (RT (gOf X G c) Wx me)
  | [], ms, me, h, f, t => by cases h; cases f
  | [e], ms, me, h, f, t => by
    simp only [cL] at h
    cases h1 : r C e with
    | none => rw [h1] at h; cases h
    | some m =>
      rw [h1] at h
      cases h
      cases f
      intro X Wx pos g
      obtain ⟨p1, s1⟩ := S C e _ h1
      simp only [List.all_cons, List.all_nil, Bool.and_true] at t
      exact ⟨pe_one (s1 X Wx g).1, pw_and1 ((s1 X Wx g).2 t)⟩
  | e :: e2 :: es, ms, me, h, f, t => by
    simp only [cL] at h
    cases h1 : r C e with
    | none => rw [h1] at h; cases h
    | some m =>
      cases h2 : cL (r C) (e2 :: es) with
      | none => simp only [cL] at h2; rw [h1, h2] at h; cases h
      | some ms' =>
        have h3 := h2
        simp only [cL] at h3
        rw [h1, h3] at h
        cases h
        have hne : ms' ≠ [] := fun z => by
          obtain ⟨_, l, _⟩ := cL_ok S h2
          rw [z] at l
          cases l
        obtain ⟨mr, hr, rfl⟩ : ∃ mr, fAnd ms' = some mr ∧ me = .and_ m mr := by
          cases ms' with
          | nil => exact absurd rfl hne
          | cons q qs =>
            simp only [fAnd] at f
            cases hq : fAnd (q :: qs) with
            | none => rw [hq] at f; cases f
            | some mr => rw [hq] at f; cases f; exact ⟨mr, rfl, rfl⟩
        intro X Wx pos g
        obtain ⟨p1, s1⟩ := S C e m h1
        simp only [List.all_cons, Bool.and_eq_true] at t
        obtain ⟨q1, q2⟩ := fAnd_ok S h2 hr (by simp only [List.all_cons, Bool.and_eq_true]; exact t.2) X Wx pos g
        exact ⟨l_and (s1 X Wx g).1 q1, w_and ((s1 X Wx g).2 t.1) q2⟩
theorem fOr_ok (S : SndE G c n r) : ∀ {es : List Expr} {ms : List E} {me : E}, cL (r C) es = some ms → fOr ms = some me → es.all tst = true → ∀ X Wx (pos : Pos), Gd X G c n C Wx → PE X (.BoolOp .Or es pos) (RE (gOf X G c) Wx me) ∧ PW X (.BoolOp .Or es pos) (RT (gOf X G c) Wx me)
  | [], ms, me, h, f, t => by cases h; cases f
  | [e], ms, me, h, f, t => by
    simp only [cL] at h
    cases h1 : r C e with
    | none => rw [h1] at h; cases h
    | some m =>
      rw [h1] at h
      cases h
      cases f
      intro X Wx pos g
      obtain ⟨p1, s1⟩ := S C e _ h1
      simp only [List.all_cons, List.all_nil, Bool.and_true] at t
      exact ⟨pe_one (s1 X Wx g).1, pw_or1 ((s1 X Wx g).2 t)⟩
  | e :: e2 :: es, ms, me, h, f, t => by
    simp only [cL] at h
    cases h1 : r C e with
    | none => rw [h1] at h; cases h
    | some m =>
      cases h2 : cL (r C) (e2 :: es) with
      | none => simp only [cL] at h2; rw [h1, h2] at h; cases h
      | some ms' =>
        have h3 := h2
        simp only [cL] at h3
        rw [h1, h3] at h
        cases h
        have hne : ms' ≠ [] := fun z => by
          obtain ⟨_, l, _⟩ := cL_ok S h2
          rw [z] at l
          cases l
        obtain ⟨mr, hr, rfl⟩ : ∃ mr, fOr ms' = some mr ∧ me = .or_ m mr := by
          cases ms' with
          | nil => exact absurd rfl hne
          | cons q qs =>
            simp only [fOr] at f
            cases hq : fOr (q :: qs) with
            | none => rw [hq] at f; cases f
            | some mr => rw [hq] at f; cases f; exact ⟨mr, rfl, rfl⟩
        intro X Wx pos g
        obtain ⟨p1, s1⟩ := S C e m h1
        simp only [List.all_cons, Bool.and_eq_true] at t
        obtain ⟨q1, q2⟩ := fOr_ok S h2 hr (by simp only [List.all_cons, Bool.and_eq_true]; exact t.2) X Wx pos g
        exact ⟨l_or (s1 X Wx g).1 q1, w_or ((s1 X Wx g).2 t.1) q2⟩
theorem cTgs_ok {X : Cx} {Wx : WX} (g : Gd X G c n C Wx) : ∀ {es : List Expr} {own : List (Str × Nat)}, cTgs C es = some own → PGs X es (gsR (own.map (·.2))) ∧ own.length = es.length ∧ (assignEach es X.env).length = es.length ∧ (assignEach es X.env).findIdx? (·.1) = none
  | [], own, h => by cases h; exact ⟨pgs_nil, rfl, rfl, rfl⟩
  | e :: es, own, h => by
    cases e <;> simp only [cTgs] at h <;> first | cases h | skip
    rename_i x p
    cases h1 : (if (C.loc x && nmOk x) = true then ixOf C.N x 0 else none) with
    | none => rw [h1] at h; cases h
    | some i =>
      cases h2 : cTgs C es with
      | none => rw [h1, h2] at h; cases h
      | some is =>
        rw [h1, h2] at h
        cases h
        split at h1
        · rename_i hc
          simp only [Bool.and_eq_true] at hc
          obtain ⟨q1, q2, q3, q4⟩ := cTgs_ok g h2
          have hl := g.isLoc hc.1
          refine ⟨pgs_cons (pg_name (by rw [g.hN]; exact g.nd) (g.ix h1) (.inl hl) (.inr hl)) q1 rfl, by simp [q2], ?_, ?_⟩
          · show ((assignEach (.Name x p :: es) X.env)).length = _
            rw [show assignEach (.Name x p :: es) X.env = (false, assign (.Name x p) X.env) :: assignEach es X.env from rfl]
            simp [q3]
          · rw [show assignEach (.Name x p :: es) X.env = (false, assign (.Name x p) X.env) :: assignEach es X.env from rfl, List.findIdx?_cons, q4]
            rfl
        · cases h1
theorem cTg_ok {X : Cx} {Wx : WX} (g : Gd X G c n C Wx) {tg : Expr} {own : List (Str × Nat)} (h : cTg C tg = some own) : PG X tg (tgR X.K (own.map (·.2))) := by
  cases tg <;> simp only [cTg] at h <;> first | cases h | skip
  · rename_i x p
    simp only [cTgs] at h
    cases h1 : (if (C.loc x && nmOk x) = true then ixOf C.N x 0 else none) with
    | none => rw [h1] at h; cases h
    | some i =>
      rw [h1] at h
      cases h
      split at h1
      · rename_i hc
        simp only [Bool.and_eq_true] at hc
        have hl := g.isLoc hc.1
        exact pg_name (by rw [g.hN]; exact g.nd) (g.ix h1) (.inl hl) (.inr hl)
      · cases h1
  · rename_i es k p
    split at h
    · cases h
    · rename_i hlen
      obtain ⟨q1, q2, q3, q4⟩ := cTgs_ok g h
      have hl2 : (own.map (·.2)).length = es.length := by simp [q2]
      have key := pg_tup (pos := p) (k := k) g.calm q1 (n := (own.map (·.2)).length) (by rw [hl2]; exact q3) q4
      have two : ∀ l : List Nat, 2 ≤ l.length → tgR X.K l = gTup X.K l.length (gsR l) := by
        intro l hl
        match l, hl with
        | _ :: _ :: _, _ => rfl
      rw [two _ (by rw [hl2]; omega)]
      exact key
theorem cI_seq (S : SndE G c n r) {e tg : Expr} {k : Ft.It} {src : List E} (h : ((r C e).map fun m => ((.seq, [m]) : Ft.It × List E)) = some (k, src)) : pl e = true ∧ ∀ X Wx, Gd X G c n C Wx → PI X tg e (RI (gOf X G c) Wx k src) := by
  cases h1 : r C e with
  | none => rw [h1] at h; cases h
  | some m =>
    rw [h1] at h
    cases h
    obtain ⟨p1, s1⟩ := S C e m h1
    exact ⟨p1, fun X Wx g => i_seq (s1 X Wx g).1⟩
theorem cI_ok (S : SndE G c n r) {tg iter : Expr} {k : Ft.It} {src : List E} (h : cI (r C) C tg iter = some (k, src)) : ∀ X Wx, Gd X G c n C Wx → PI X tg iter (RI (gOf X G c) Wx k src) := by
  unfold cI at h
  split at h
  · rename_i f p a q
    split at h
    · rename_i hf
      subst hf
      split at h
      · rename_i hg
        cases h1 : r C a with
        | none => rw [h1] at h; cases h
        | some m =>
          rw [h1] at h
          cases h
          obtain ⟨p1, s1⟩ := S C a m h1
          exact fun X Wx g => i_rng (g.isGl hg) (g.blt _ (by simp [blts])) (s1 X Wx g).1 p1
      · cases h
    · split at h
      · rename_i hf
        subst hf
        split at h
        · rename_i hg
          simp only [Bool.and_eq_true] at hg
          cases h1 : r C a with
          | none => rw [h1] at h; cases h
          | some m =>
            rw [h1] at h
            cases h
            obtain ⟨p1, s1⟩ := S C a m h1
            intro X Wx g
            cases tg <;> simp only [isTup] at hg <;> first | exact absurd hg.2 Bool.false_ne_true | skip
            exact i_enum (g.isGl hg.1) (g.blt _ (by simp [blts])) (s1 X Wx g).1 p1
        · cases h
      · exact (cI_seq S h).2
  · rename_i f p a b q
    split at h
    · rename_i hf
      subst hf
      split at h
      · rename_i hg
        simp only [Bool.and_eq_true] at hg
        cases h1 : r C a with
        | none => rw [h1] at h; cases h
        | some m =>
          cases h2 : r C b with
          | none => rw [h1, h2] at h; cases h
          | some m' =>
            rw [h1, h2] at h
            cases h
            obtain ⟨p1, s1⟩ := S C a m h1
            obtain ⟨p2, s2⟩ := S C b m' h2
            intro X Wx g
            cases tg <;> simp only [isTup] at hg <;> first | exact absurd hg.2 Bool.false_ne_true | skip
            exact i_zip (g.isGl hg.1) (g.blt _ (by simp [blts])) (s1 X Wx g).1 p1 (s2 X Wx g).1 p2
      · cases h
    · exact (cI_seq S h).2
  · rename_i f p a b b' q
    split at h
    · rename_i hf
      subst hf
      split at h
      · rename_i hg
        simp only [Bool.and_eq_true] at hg
        cases h1 : r C a with
        | none => rw [h1] at h; cases h
        | some m =>
          cases h2 : r C b with
          | none => rw [h1, h2] at h; cases h
          | some m' =>
            cases h3 : r C b' with
            | none => rw [h1, h2, h3] at h; cases h
            | some m'' =>
              rw [h1, h2, h3] at h
              cases h
              obtain ⟨p1, s1⟩ := S C a m h1
              obtain ⟨p2, s2⟩ := S C b m' h2
              obtain ⟨p3, s3⟩ := S C b' m'' h3
              intro X Wx g
              cases tg <;> simp only [isTup] at hg <;> first | exact absurd hg.2 Bool.false_ne_true | skip
              exact i_zip3 (g.isGl hg.1) (g.blt _ (by simp [blts])) (s1 X Wx g).1 p1 (s2 X Wx g).1 p2 (s3 X Wx g).1 p3
      · cases h
    · exact (cI_seq S h).2
  · exact (cI_seq S h).2
theorem ts_ok (S : SndE G c n r) {ifs : List Expr} {cs : List E} (h : cL (r C) ifs = some cs) (h1 : ifs.all tst = true) (h2 : ifs.length ≤ 1) : ∀ X Wx, Gd X G c n C Wx → PTs X ifs (RTs (gOf X G c) Wx cs) := by
  intro X Wx g
  have imp : ∀ {ifs : List Expr} {t t' : TT}, PTs X ifs t → (∀ σ H Q, t' σ H Q → t σ H Q) → PTs X ifs t' := fun h i => ⟨fun pins s σ H Q I q => h.run pins s σ H Q I (i σ H Q q)⟩
  match ifs, h, h1, h2 with
  | [], h, _, _ =>
    cases h
    refine imp pts_nil fun σ H Q q => ?_
    obtain ⟨O, s, k, p⟩ := q
    rw [evt] at p
    exact p O true H Ext.refl k rfl
  | [e], h, h1, _ =>
    simp only [cL] at h
    cases h3 : r C e with
    | none => rw [h3] at h; cases h
    | some m =>
      rw [h3] at h
      cases h
      obtain ⟨p1, s1⟩ := S C e m h3
      simp only [List.all_cons, List.all_nil, Bool.and_true] at h1
      refine imp (pts_one ((s1 X Wx g).2 h1)) fun σ H Q q => ?_
      obtain ⟨O, s, k, p⟩ := q
      refine ⟨O, s, k, ?_⟩
      have e : evt (gOf X G c).G (gOf X G c).c [m] s = evb (gOf X G c).G (gOf X G c).c m s := by
        unfold evb
        rw [evt]
        cases ev (gOf X G c).G (gOf X G c).c m s with
        | ok d s1 =>
          simp only [R.bind]
          cases d.tru with
          | none => rfl
          | some b => cases b <;> simp [evt, R.of]
        | exn x s1 => rfl
        | bad => rfl
      rw [← e]
      exact p
  | _ :: _ :: _, _, _, h2 => simp at h2
end
end Ft
set_option Elab.async false
set_option linter.all false
set_option maxRecDepth 100000
set_option maxHeartbeats 4000000
namespace Ft
open PySem PyProof.Rows L2
section
variable {G : Glob} {c : Oracle} {n : Nat} {r : CC → Expr → Option E} {C : CC}
theorem cBin_ok {X : Cx} {op : Operator} {o : O2} (h : cBin op = some o) : OpR X (binaryOp op) (rP2 (gOf X G c) (op2 o)) := by
  cases op <;> simp only [cBin] at h <;> cases h
  · exact or_add
  · exact or_sub
  · exact or_mul
  · exact or_mod
  · exact or_pow
  · exact or_fdiv
theorem cCmp_ok {X : Cx} (hu : X.A.units + 64 < cLine) {op : CmpOp} {o : O2} (h : cCmp op = some o) : isCmp o = true ∧ OpR X (compareOp op) (rP2 (gOf X G c) (op2 o)) := by
  have hu1 : X.A.units + 1 < cLine := by omega
  cases op <;> simp only [cCmp] at h <;> cases h
  · exact ⟨rfl, or_eq hu⟩
  · exact ⟨rfl, or_ne hu⟩
  · exact ⟨rfl, or_lt⟩
  · exact ⟨rfl, or_le⟩
  · exact ⟨rfl, or_gt⟩
  · exact ⟨rfl, or_ge⟩
  · exact ⟨rfl, or_is⟩
  · exact ⟨rfl, or_isn⟩
  · exact ⟨rfl, or_in hu1⟩
  · exact ⟨rfl, or_nin hu1⟩
theorem own_var {e : Expr} {i : Nat} (h : ownName C e = some i) : ∃ y p, e = .Name y p ∧ C.var y = some i := by
  cases e <;> simp only [ownName] at h <;> first | cases h | skip
  split at h
  · exact ⟨_, _, rfl, h⟩
  · cases h
theorem join_len : ∀ (s : Tx) (ys : List Tx), ((ys.map tS).map (·.length)).sum ≤ (joinTx s ys).length
  | _, [] => by simp [joinTx]
  | s, [x] => by simp [joinTx, tS_len]
  | s, x :: y :: r => by
    have := join_len s (y :: r)
    simp only [joinTx, List.map_cons, List.sum_cons, List.length_append, tS_len] at this ⊢
    omega
theorem join_n : ∀ (s : Tx) (ys : List Tx), ys.length * s.length ≤ (joinTx s ys).length + s.length
  | _, [] => by simp [joinTx]
  | s, [x] => by simp [joinTx]
  | s, x :: y :: r => by
    have := join_n s (y :: r)
    simp only [joinTx, List.length_append, List.length_cons] at this ⊢
    have e : (r.length + 1 + 1) * s.length = (r.length + 1) * s.length + s.length := by rw [Nat.add_mul, Nat.one_mul]
    rw [e]
    omega
theorem join_eq (s : Tx) : ∀ ys : List Tx, Txt.join (tS s) (ys.map tS) = tS (joinTx s ys) := by
  intro ys
  have aux : ∀ ys : List Tx, PySem.Str.join (tS s) (ys.map tS) = tS (joinTx s ys) := by
    intro ys
    induction ys with
    | nil => rfl
    | cons x r ih =>
      cases r with
      | nil => rfl
      | cons y r =>
        show tS x ++ tS s ++ PySem.Str.join (tS s) ((y :: r).map tS) = _
        rw [ih, tS_app, tS_app]
        rfl
  exact (TL.join_eq (tS s) (ys.map tS)).trans (aux ys)
theorem l_join {X : Cx} {Wx : WX} {o e : Expr} {mo me : E} {ap cp : Pos} (ho : PE X o (RE (gOf X G c) Wx mo)) (he : PE X e (RE (gOf X G c) Wx me)) (hp : pl e = true) (hb : abOk o = true) (hl : (ap.endLine == cp.line) = true) :
    PE X (.Call (.Attribute o "join" ap) [e] [] cp) (RE (gOf X G c) Wx (.mt .join mo [me])) := by
  refine pe_imp (pe_join ho he (pl_star hp _ _) (abOk_base hb _ _ _) hl) fun σ H Q q => ?_
  obtain ⟨O, s, k, p⟩ := q
  rw [ev] at p
  refine ⟨O, s, k, (Post.bind (rel := IsD _) p).imp fun x H1 ⟨O1, d1, s1, e1, k1, i1, p1⟩ => ?_⟩
  split at p1
  · rename_i hr
    cases d1 <;> simp only [rcv] at hr <;> first | exact absurd hr Bool.false_ne_true | skip
    rename_i z
    cases i1
    refine ⟨⟨_, rfl⟩, ?_⟩
    have e1 : (evs (gOf X G c).G (gOf X G c).c [me] s1).bind (fun ds s => R.of (mop .join (.str z) ds) s) = (ev (gOf X G c).G (gOf X G c).c me s1).bind fun d s => R.of (mop .join (.str z) [d]) s := by
      rw [evs]
      cases ev (gOf X G c).G (gOf X G c).c me s1 <;> simp [R.bind, evs]
    rw [e1] at p1
    refine ⟨O1, s1, k1, (Post.bind (rel := IsD _) p1).imp fun y H2 ⟨O2, d2, s2, e2, k2, i2, p2⟩ => ?_⟩
    obtain ⟨d, hd, q⟩ := Post.pure k2 p2
    cases d2 <;> simp only [mop] at hd <;> first | cases hd | skip
    rename_i xs
    cases hs : Ft.sOf xs with
    | none => rw [hs] at hd; cases hd
    | some ys =>
      rw [hs] at hd
      simp only [Option.bind_some] at hd
      split at hd
      · rename_i hlen
        cases hd
        obtain ⟨a, vs, rfl, ha, l⟩ := Is.lstS i2
        have hv := l.strs hs
        subst hv
        refine ⟨_, _, _, rfl, rfl, .inl (SqL.of ha), ?_, ?_⟩
        · have h1 := join_len z ys
          have h2 := join_n z ys
          rw [List.length_map, tS_len]
          unfold LIM at hlen
          omega
        · rw [join_eq]
          exact q _ _ (Same.refl _) (.str _)
      · cases hd
  · exact p1.elim
theorem idx_ok {K : PySem.W.Frag} {w : World} {O : Ow} {H : Hp} {v : V} {d : D} (i : Is K w O H v d) (f : d.flat = true) : ∀ {vs : List V} {xs : List D} {j : Nat}, IsL K w O H vs xs → xs.all D.flat = true → idxOf d xs = some j → ∃ z, vs[j]? = some z ∧ L2.eqV z v = true ∧ ∀ (m : Nat) (z' : V), m < j → vs[m]? = some z' → L2.eqV z' v = false
  | _, _, j, .nil, _, h => by cases h
  | _, _, j, .cons (v := u) (vs := us) (d := y) (ds := ys) h l, g, e => by
    simp only [List.all_cons, Bool.and_eq_true] at g
    have q := h.eqV g.1 i f
    simp only [idxOf] at e
    split at e
    · rename_i c
      cases e
      exact ⟨u, rfl, by rw [q]; exact c, fun m z' hm => absurd hm (Nat.not_lt_zero _)⟩
    · rename_i c
      cases r : idxOf d ys with
      | none => rw [r] at e; cases e
      | some j' =>
        rw [r] at e
        cases e
        obtain ⟨z, h1, h2, h3⟩ := idx_ok i f l g.2 r
        refine ⟨z, h1, h2, fun m z' hm hz => ?_⟩
        cases m with
        | zero => cases hz; rw [q]; simpa using c
        | succ m => exact h3 m z' (by simp only at hm; omega) hz
theorem l_index {X : Cx} {Wx : WX} {o e : Expr} {mo me : E} {ap cp : Pos} (ho : PE X o (RE (gOf X G c) Wx mo)) (he : PE X e (RE (gOf X G c) Wx me)) (hp : pl e = true) (hb : abOk o = true) (hl : (ap.endLine == cp.line) = true) :
    PE X (.Call (.Attribute o "index" ap) [e] [] cp) (RE (gOf X G c) Wx (.mt .index mo [me])) := by
  refine pe_imp (pe_bm PySem.F.plainAttrs_list PySem.F.slot_list_index PySem.F.type_list_index mt_index ho (pa_cons he pa_nil (pl_star hp _ _)) (abOk_base hb _ _ _) (by rw [pl_star hp]; rfl) hl (pl_star hp _ _) rfl) fun σ H Q q => ?_
  obtain ⟨O, s, k, p⟩ := q
  rw [ev] at p
  refine ⟨O, s, k, (Post.bind (rel := IsD _) p).imp fun x H1 ⟨O1, d1, s1, e1, k1, i1, p1⟩ => ?_⟩
  split at p1
  · rename_i hr
    cases d1 <;> simp only [rcv] at hr <;> first | exact absurd hr Bool.false_ne_true | skip
    rename_i xs
    obtain ⟨a, vs, rfl, ha, l⟩ := Is.lstS i1
    refine ⟨.inl ⟨rfl, _, SqL.of ha⟩, ?_⟩
    have e1 : (evs (gOf X G c).G (gOf X G c).c [me] s1).bind (fun ds s => R.of (mop .index (.lst xs) ds) s) = (ev (gOf X G c).G (gOf X G c).c me s1).bind fun d s => R.of (mop .index (.lst xs) [d]) s := by
      rw [evs]
      cases ev (gOf X G c).G (gOf X G c).c me s1 <;> simp [R.bind, evs]
    rw [e1] at p1
    refine ⟨O1, s1, k1, (Post.bind (rel := IsD _) p1).imp fun y H2 ⟨O2, d2, s2, e2, k2, i2, p2⟩ => ?_⟩
    obtain ⟨d, hd, q⟩ := Post.pure k2 p2
    simp only [mop] at hd
    split at hd
    · rename_i hf
      simp only [Bool.and_eq_true] at hf
      cases hj : idxOf d2 xs with
      | none => rw [hj] at hd; cases hd
      | some j =>
        rw [hj] at hd
        cases hd
        obtain ⟨a', vs', ea, ha2, l2⟩ := Is.lstS (Is.ext e2.data i1)
        cases ea
        obtain ⟨z, z1, z2, z3⟩ := idx_ok i2 hf.1 l2 hf.2 hj
        exact ⟨_, _, _, j, z, rfl, rfl, SqL.of ha2, i2.flatV hf.1, l2.flatAll hf.2, z1, z2, z3, q _ _ (Same.refl _) (.int _)⟩
    · cases hd
  · exact p1.elim
theorem l_get {X : Cx} {Wx : WX} {o e f : Expr} {mo me mf : E} {ap cp : Pos} (hu : X.A.units + 1 < cLine) (ho : PE X o (RE (gOf X G c) Wx mo)) (he : PE X e (RE (gOf X G c) Wx me)) (hp : pl e = true) (hf : PE X f (RE (gOf X G c) Wx mf)) (hq : pl f = true) (hb : abOk o = true) (hl : (ap.endLine == cp.line) = true) :
    PE X (.Call (.Attribute o "get" ap) [e, f] [] cp) (RE (gOf X G c) Wx (.mt .get mo [me, mf])) := by
  have tr : backTo cp (starEach [e, f] X.env) = [(false, eval e X.env), (false, eval f X.env)] := by rw [pl_star hp, pl_star hq]; rfl
  refine pe_imp (pe_dget2 hu ho he hf ⟨abOk_base hb _ _ _, by rw [tr]; rfl, hl, tr⟩) fun σ H Q q => ?_
  obtain ⟨O, s, k, p⟩ := q
  rw [ev] at p
  refine ⟨O, s, k, (Post.bind (rel := IsD _) p).imp fun x H1 ⟨O1, d1, s1, e1, k1, i1, p1⟩ => ?_⟩
  split at p1
  · rename_i hr
    cases d1 <;> simp only [rcv] at hr <;> first | exact absurd hr Bool.false_ne_true | skip
    rename_i ds
    cases i1 with
    | @dct a kvs _ h o l =>
      have i1 : Is X.K X.w O1 H1 (.ref a) (.dct ds) := .dct h o l
      refine ⟨a, rfl, .inl ⟨_, h⟩, ?_⟩
      have e1 : (evs (gOf X G c).G (gOf X G c).c [me, mf] s1).bind (fun ds' s => R.of (mop .get (.dct ds) ds') s) = (ev (gOf X G c).G (gOf X G c).c me s1).bind fun d s => (ev (gOf X G c).G (gOf X G c).c mf s).bind fun d' s => R.of (mop .get (.dct ds) [d, d']) s := by
        rw [evs]
        cases ev (gOf X G c).G (gOf X G c).c me s1 with
        | ok d s2 =>
          simp only [R.bind]
          rw [evs]
          cases ev (gOf X G c).G (gOf X G c).c mf s2 <;> simp [R.bind, evs]
        | exn x s2 => rfl
        | bad => rfl
      rw [e1] at p1
      refine ⟨O1, s1, k1, (Post.bind (rel := IsD _) p1).imp fun y H2 ⟨O2, d2, s2, e2, k2, i2, p2⟩ => ?_⟩
      refine ⟨O2, s2, k2, (Post.bind (rel := IsD _) p2).imp fun z H3 ⟨O3, d3, s3, e3, k3, i3, p3⟩ => ?_⟩
      obtain ⟨d, hd, q⟩ := Post.pure k3 p3
      obtain ⟨kq, hk, rfl⟩ := Option.map_eq_some_iff.mp hd
      have key := i2.key hk
      subst key
      have i1' := Is.ext (e2.trans e3).data i1
      cases i1' with
      | dct h' o' l' =>
        refine ⟨_, dgetR (k := kK kq) h', ?_⟩
        obtain ⟨g1, g2⟩ := l'.valV kq
        cases hv : Ft.look ds kq with
        | none => rw [g2 hv]; rw [hv] at q; exact q _ _ (Same.refl _) i3
        | some dv =>
          obtain ⟨v', e', hi⟩ := g1 dv hv
          rw [e']
          rw [hv] at q
          exact q _ _ (Same.refl _) hi
  · exact p1.elim
theorem alnum_ok : ∀ c < 128, Unicode.isAlnum c = alnumC c := by decide +kernel
theorem l_alnum {X : Cx} {Wx : WX} {o : Expr} {mo : E} {ap cp : Pos} (ho : PE X o (RE (gOf X G c) Wx mo)) (hb : abOk o = true) (hl : (ap.endLine == cp.line) = true) :
    PE X (.Call (.Attribute o "isalnum" ap) [] [] cp) (RE (gOf X G c) Wx (.mt .isalnum mo [])) := by
  refine pe_imp (pe_m0 PySem.F.slot_str_isalnum PySem.F.type_str_isalnum mt_isalnum ho (abOk_base hb _ _ _) hl) fun σ H Q q => ?_
  obtain ⟨O, s, k, p⟩ := q
  rw [ev] at p
  refine ⟨O, s, k, (Post.bind (rel := IsD _) p).imp fun x H1 ⟨O1, d1, s1, e1, k1, i1, p1⟩ => ?_⟩
  split at p1
  · rename_i hr
    cases d1 <;> simp only [rcv] at hr <;> first | exact absurd hr Bool.false_ne_true | skip
    rename_i z
    rw [evs] at p1
    obtain ⟨d, hd, q⟩ := Post.pure k1 p1
    match z, hd, i1 with
    | [ch], hd, i1 =>
      cases i1
      simp only [mop] at hd
      split at hd
      · rename_i h128
        cases hd
        refine ⟨⟨_, rfl⟩, _, rfl, rfl, trivial, ?_⟩
        have e : Txt.isalnum (tS [ch]) = alnumC ch := by
          rw [← alnum_ok ch h128]
          unfold Txt.isalnum
          simp [tS, Str.length]
        rw [e]
        exact q _ _ (Same.refl _) (.bl _)
      · cases hd
  · exact p1.elim
theorem cIsi_ok {t : Str} {o : O1} {T : String} (h : cIsi t = some (o, T)) : T ∈ ["int", "bool", "str", "tuple", "list"] ∧ (∀ d, op1 o d = isK d (isN T d)) ∧ bootBuiltins t = some (.type T) ∧ t ∈ blts := by
  unfold cIsi at h
  split at h
  · rename_i e; cases h; subst e; exact ⟨by simp, is_int, by decide +kernel, by simp [blts]⟩
  · split at h
    · rename_i e; cases h; subst e; exact ⟨by simp, is_bool, by decide +kernel, by simp [blts]⟩
    · split at h
      · rename_i e; cases h; subst e; exact ⟨by simp, is_str, by decide +kernel, by simp [blts]⟩
      · split at h
        · rename_i e; cases h; subst e; exact ⟨by simp, is_tup, by decide +kernel, by simp [blts]⟩
        · split at h
          · rename_i e; cases h; subst e; exact ⟨by simp, is_lst, by decide +kernel, by simp [blts]⟩
          · cases h
theorem cBlt_ok {X : Cx} {Wx : WX} (g : Gd X G c n C Wx) {f : Str} {o : O1} {b : Bool} {T : String} {a : Expr} {ma : E} {p q : Pos} (h : cBlt f = some (o, b, T)) (hg : C.gl f = true) (hn : nmOk f = true) (ha : PE X a (RE (gOf X G c) Wx ma)) (hp : pl a = true) : PE X (.Call (.Name f p) [a] [] q) (RE (gOf X G c) Wx (.un o ma)) := by
  unfold cBlt at h
  split at h
  · rename_i e; cases h; subst e; exact l_call1 cr_len (g.isGl hg) (g.blt _ (by simp [blts])) PySem.boot_len ha hp (nmOk_n hn) (nmOk_d hn)
  · split at h
    · rename_i e; cases h; subst e; exact l_call1 (cr_sumD g.calm) (g.isGl hg) (g.blt _ (by simp [blts])) PyProof.Rows.boot_sum ha hp (nmOk_n hn) (nmOk_d hn)
    · split at h
      · rename_i e; cases h; subst e; exact l_callT cr_list (g.isGl hg) (g.blt _ (by simp [blts])) (by decide +kernel) ha hp (nmOk_n hn) (nmOk_d hn)
      · split at h
        · rename_i e; cases h; subst e; exact l_callT cr_tuple (g.isGl hg) (g.blt _ (by simp [blts])) (by decide +kernel) ha hp (nmOk_n hn) (nmOk_d hn)
        · split at h
          · rename_i e; cases h; subst e; exact l_call1 (cr_maxD g.calm) (g.isGl hg) (g.blt _ (by simp [blts])) (by decide +kernel) ha hp (nmOk_n hn) (nmOk_d hn)
          · split at h
            · rename_i e; cases h; subst e; exact l_call1 (cr_minD g.calm) (g.isGl hg) (g.blt _ (by simp [blts])) (by decide +kernel) ha hp (nmOk_n hn) (nmOk_d hn)
            · split at h
              · rename_i e; cases h; subst e; exact l_callT cr_intD (g.isGl hg) (g.blt _ (by simp [blts])) (by decide +kernel) ha hp (nmOk_n hn) (nmOk_d hn)
              · split at h
                · rename_i e; cases h; subst e; exact l_callT cr_boolD (g.isGl hg) (g.blt _ (by simp [blts])) (by decide +kernel) ha hp (nmOk_n hn) (nmOk_d hn)
                · split at h
                  · rename_i e; cases h; subst e; exact l_callT cr_dictD (g.isGl hg) (g.blt _ (by simp [blts])) (by decide +kernel) ha hp (nmOk_n hn) (nmOk_d hn)
                  · split at h
                    · rename_i e; cases h; subst e; exact l_callT cr_strD (g.isGl hg) (g.blt _ (by simp [blts])) (by decide +kernel) ha hp (nmOk_n hn) (nmOk_d hn)
                    · cases h
theorem cSrt_ok {X : Cx} {Wx : WX} (S : SndE G c n r) (g : Gd X G c n C Wx) {a : Expr} {m : E} {p q : Pos} (h : cSrt (r C) C a = some m) (hg : C.gl "sorted" = true) : PE X (.Call (.Name "sorted" p) [a] [] q) (RE (gOf X G c) Wx m) := by
  have plain : ∀ {e : Expr}, (r C e).map (E.un .sorted) = some m → PE X (.Call (.Name "sorted" p) [e] [] q) (RE (gOf X G c) Wx m) := fun {e} h => by
    obtain ⟨x, hx, rfl⟩ := Option.map_eq_some_iff.mp h
    obtain ⟨pa, sa⟩ := S C e x hx
    exact l_call1 cr_sortedX (g.isGl hg) (g.blt _ (by simp [blts])) (by decide +kernel) (sa X Wx g).1 pa (by decide) (by decide)
  unfold cSrt at h
  split at h
  · split at h
    · rename_i z p1 b q1 hz
      subst hz
      split at h
      · rename_i hz
        obtain ⟨x, hx, rfl⟩ := Option.map_eq_some_iff.mp h
        obtain ⟨pb, sb⟩ := S C b x hx
        exact l_sset g.calm (g.isGl hg) (g.blt _ (by simp [blts])) (g.isGl hz) (g.blt _ (by simp [blts])) (sb X Wx g).1 pb
      · cases h
    · exact plain h
  · exact plain h
theorem cOpt_ok (S : SndE G c n r) {o : Option Expr} {m : Option E} (h : cOpt (r C) o = some m) : ∀ X Wx, Gd X G c n C Wx → PO X o (RO (gOf X G c) Wx m) := by
  cases o with
  | none => cases h; exact fun X Wx g => o_none
  | some e =>
    simp only [cOpt] at h
    cases h1 : r C e with
    | none => rw [h1] at h; cases h
    | some m' =>
      rw [h1] at h
      cases h
      exact fun X Wx g => o_some ((S C e m' h1).2 X Wx g).1
end
end Ft
set_option Elab.async false
set_option linter.all false
set_option maxRecDepth 100000
set_option maxHeartbeats 4000000
namespace Ft
open PySem PyProof.Rows L2
section
variable {G : Glob} {c : Oracle} {n : Nat} {r : CC → Expr → Option E}
theorem t_of {X : Cx} {Wx : WX} {e : Expr} {me : E} (h : PE X e (RE (gOf X G c) Wx me)) (he : ∀ whole, isTrue e X.env whole = (do let v ← whole; standAt e.pos; holding [v] (truthy v))) : PE X e (RE (gOf X G c) Wx me) ∧ (tst e = true → PT X e (RT (gOf X G c) Wx me)) :=
  ⟨h, fun _ => t_truth h he⟩
theorem cBlt_len {f : Str} {b : Bool} {T : String} (hb : cBlt f = some (.len, b, T)) : f = "len" := by
  unfold cBlt at hb
  repeat' (split at hb)
  all_goals first | assumption | cases hb
theorem cls_ok {X : Cx} {C : CC} {Wx : WX} (g : Gd X G c n C Wx) {f : Str} {es : List Expr} {ms : List E} {p q : Pos} (hf : f ∈ C.clss) (hg : C.gl f = true) (hn : nmOk f = true) (h1 : es.all pl = true) (h2 : ms.length = es.length) (h3 : PA X es (RA (gOf X G c) Wx ms)) : PE X (.Call (.Name f p) es [] q) (RE (gOf X G c) Wx (.call (tx f) ms)) := by
  obtain ⟨A, fa, fd, ps, m, c', hm, q1, q2, q3, q4, q5⟩ := g.clss f hf
  subst hm
  exact l_make q1 q2 q5 g.room (g.isGl hg) q4 g.tk q3 h3 (fun z => by subst z; exact List.length_eq_zero_iff.mp h2) h1 (nmOk_d hn)
theorem cMeth_ok {X : Cx} {C : CC} {Wx : WX} (S : SndE G c n r) (g : Gd X G c n C Wx) {o : Expr} {name : Str} {es : List Expr} {m : E} {ap cp : Pos} (h : cMeth r C o name es = some m) (hb : abOk o = true) (hl : (ap.endLine == cp.line) = true) : PE X (.Call (.Attribute o name ap) es [] cp) (RE (gOf X G c) Wx m) := by
  unfold cMeth at h
  split at h
  · rename_i k hk
    split at h
    · rename_i hc
      simp only [Bool.and_eq_true, decide_eq_true_eq] at hc
      have hf : (k, name) ∈ C.mets := by simpa using hc.1
      split at h
      · rename_i x ms hx hms
        cases h
        obtain ⟨A, fa, fd, ps, q1, q2, q3, q4, q5⟩ := g.mets _ hf
        obtain ⟨h1, h2, h3⟩ := cA_ok S hms
        exact l_meth q1 q2 q3 q5 g.room q4 g.tk ((S C o x hx).2 X Wx g).1 (h3 X Wx g) (fun z => by subst z; exact List.length_eq_zero_iff.mp h2) h1 hc.2 (abOk_base hb _ _ _) hl
      · cases h
    · cases h
  · split at h
    · split at h
      · rename_i hc
        simp only [Bool.and_eq_true, decide_eq_true_eq] at hc
        obtain ⟨hn, _⟩ := hc
        subst hn
        obtain ⟨x, hx, rfl⟩ := Option.map_eq_some_iff.mp h
        exact l_hPop ((S C o x hx).2 X Wx g).1 (abOk_base hb _ _ _) hl
      · split at h
        · rename_i hn
          subst hn
          obtain ⟨x, hx, rfl⟩ := Option.map_eq_some_iff.mp h
          exact l_alnum ((S C o x hx).2 X Wx g).1 hb hl
        · cases h
    · rename_i e
      split at h
      · rename_i hn
        subst hn
        split at h
        · rename_i x y hx hy
          cases h
          obtain ⟨pe, se⟩ := S C e y hy
          exact l_join ((S C o x hx).2 X Wx g).1 (se X Wx g).1 pe hb hl
        · cases h
      · split at h
        · rename_i hn
          subst hn
          split at h
          · rename_i x y hx hy
            cases h
            obtain ⟨pe, se⟩ := S C e y hy
            exact l_index ((S C o x hx).2 X Wx g).1 (se X Wx g).1 pe hb hl
          · cases h
        · cases h
    · rename_i e f
      split at h
      · rename_i hn
        subst hn
        split at h
        · rename_i x y z hx hy hz
          cases h
          obtain ⟨pe, se⟩ := S C e y hy
          obtain ⟨pf, sf⟩ := S C f z hz
          have hu : X.A.units + 1 < cLine := by have := g.room.units; omega
          exact l_get hu ((S C o x hx).2 X Wx g).1 (se X Wx g).1 pe (sf X Wx g).1 pf hb hl
        · cases h
      · cases h
    · cases h
theorem cStep_ok (S : SndE G c n r) : SndE G c n (cStep r) := by
  intro C e me h
  unfold cStep at h
  split at h
  · -- a name
    rename_i x p
    refine ⟨rfl, fun X Wx g => ?_⟩
    split at h
    · rename_i i hv
      cases h
      exact t_of (l_var (g.pvar hv)) fun _ => rfl
    · split at h
      · rename_i hc
        cases h
        simp only [Bool.and_eq_true] at hc
        have hx : x ∈ C.gls := by simpa using hc.2
        have hs := g.gin x hx
        cases hG : G (tx x) with
        | none => rw [hG] at hs; cases hs
        | some d =>
          obtain ⟨u, v, hm, hr, hi⟩ := g.glb (tx x) d hG
          rw [tS_tx] at hm
          exact t_of (l_glb (pe_glob (g.isGl hc.1.1) hm hr (nmOk_d hc.1.2)) fun d' hd' O H => by
            rw [hG] at hd'; cases hd'; exact hi O H) fun _ => rfl
      · cases h
  · cases h; exact ⟨rfl, fun X Wx g => t_of (l_cst pe_non fun _ _ => .non) fun _ => rfl⟩
  · cases h; exact ⟨rfl, fun X Wx g => t_of (l_cst pe_bl fun _ _ => .bl _) fun _ => rfl⟩
  · cases h; exact ⟨rfl, fun X Wx g => t_of (l_cst pe_int fun _ _ => .int _) fun _ => rfl⟩
  · rename_i x _ _
    cases h
    refine ⟨rfl, fun X Wx g => t_of (l_cst pe_str fun O H => ?_) fun _ => rfl⟩
    have := Is.str (K := X.K) (w := X.w) (O := O) (H := H) (tx x)
    rw [tS_tx] at this
    exact this
  · -- a tuple
    rename_i es k p
    split at h
    · rename_i hl
      cases hc : cL (r C) es with
      | none => rw [hc] at h; cases h
      | some ms =>
        rw [hc] at h
        cases h
        obtain ⟨h1, h2, h3⟩ := cL_ok S hc
        exact ⟨rfl, fun X Wx g => t_of (l_tup (h3 X Wx g) (by rw [h2]; unfold LIM; omega)) fun _ => rfl⟩
    · cases h
  · rename_i es p
    split at h
    · rename_i hl
      cases hc : cL (r C) es with
      | none => rw [hc] at h; cases h
      | some ms =>
        rw [hc] at h
        cases h
        obtain ⟨h1, h2, h3⟩ := cL_ok S hc
        exact ⟨rfl, fun X Wx g => t_of (l_lst (h3 X Wx g) (by rw [h2]; unfold LIM; omega)) fun _ => rfl⟩
    · cases h
  · cases h; exact ⟨rfl, fun X Wx g => t_of l_emp fun _ => rfl⟩
  · -- a binary operator
    rename_i a op b p
    split at h
    · rename_i o x y ho hx hy
      cases h
      exact ⟨rfl, fun X Wx g => t_of (l_bin (cBin_ok ho) ((S C a x hx).2 X Wx g).1 ((S C b y hy).2 X Wx g).1) fun _ => rfl⟩
    · cases h
  · -- not
    rename_i a p
    split at h
    · rename_i ht
      cases hx : r C a with
      | none => rw [hx] at h; cases h
      | some x =>
        rw [hx] at h
        cases h
        exact ⟨rfl, fun X Wx g => ⟨l_not ((S C a x hx).2 X Wx g).1, fun _ => t_not (((S C a x hx).2 X Wx g).2 ht)⟩⟩
    · cases h
  · rename_i a p
    cases hx : r C a with
    | none => rw [hx] at h; cases h
    | some x =>
      rw [hx] at h
      cases h
      exact ⟨rfl, fun X Wx g => t_of (l_neg ((S C a x hx).2 X Wx g).1) fun _ => rfl⟩
  · -- in
    rename_i a b q
    split at h
    · rename_i i ho
      cases hx : r C a with
      | none => rw [hx] at h; cases h
      | some x =>
        rw [hx] at h
        cases h
        obtain ⟨y', p', e, hv⟩ := own_var ho
        subst e
        refine ⟨rfl, fun X Wx g => ?_⟩
        have hu : X.A.units + 1 < cLine := by have := g.room.units; omega
        exact ⟨l_oIn hu (g.pvar hv) ((S C a x hx).2 X Wx g).1, fun _ => t_oIn hu (g.pvar hv) ((S C a x hx).2 X Wx g).1⟩
    · split at h
      · rename_i x y' hx hy
        obtain ⟨pb, sb⟩ := S C b y' hy
        refine ⟨rfl, fun X Wx g => ?_⟩
        have hu : X.A.units + 1 < cLine := by have := g.room.units; omega
        split at h
        · cases h
          exact ⟨l_hIn hu ((S C a x hx).2 X Wx g).1 (sb X Wx g).1 pb, fun _ => t_hIn hu ((S C a x hx).2 X Wx g).1 (sb X Wx g).1 pb⟩
        · cases h
          exact ⟨l_cmp (or_in hu) ((S C a x hx).2 X Wx g).1 (sb X Wx g).1 pb, fun _ => t_cmp rfl (or_in hu) ((S C a x hx).2 X Wx g).1 (sb X Wx g).1 pb⟩
      · cases h
  · rename_i a b q
    split at h
    · rename_i i ho
      cases hx : r C a with
      | none => rw [hx] at h; cases h
      | some x =>
        rw [hx] at h
        cases h
        obtain ⟨y', p', e, hv⟩ := own_var ho
        subst e
        refine ⟨rfl, fun X Wx g => ?_⟩
        have hu : X.A.units + 1 < cLine := by have := g.room.units; omega
        exact ⟨l_oNin hu (g.pvar hv) ((S C a x hx).2 X Wx g).1, fun _ => t_oNin hu (g.pvar hv) ((S C a x hx).2 X Wx g).1⟩
    · split at h
      · rename_i x y' hx hy
        obtain ⟨pb, sb⟩ := S C b y' hy
        refine ⟨rfl, fun X Wx g => ?_⟩
        have hu : X.A.units + 1 < cLine := by have := g.room.units; omega
        split at h
        · cases h
          exact ⟨l_hNin hu ((S C a x hx).2 X Wx g).1 (sb X Wx g).1 pb, fun _ => t_hNin hu ((S C a x hx).2 X Wx g).1 (sb X Wx g).1 pb⟩
        · cases h
          exact ⟨l_cmp (or_nin hu) ((S C a x hx).2 X Wx g).1 (sb X Wx g).1 pb, fun _ => t_cmp rfl (or_nin hu) ((S C a x hx).2 X Wx g).1 (sb X Wx g).1 pb⟩
      · cases h
  · -- a comparison
    rename_i a op b p _ _
    split at h
    · rename_i o x y ho hx hy
      cases h
      obtain ⟨pb, sb⟩ := S C b y hy
      refine ⟨rfl, fun X Wx g => ?_⟩
      obtain ⟨k1, k2⟩ := cCmp_ok (G := G) (c := c) g.room.units ho
      exact ⟨l_cmp k2 ((S C a x hx).2 X Wx g).1 (sb X Wx g).1 pb, fun _ => t_cmp k1 k2 ((S C a x hx).2 X Wx g).1 (sb X Wx g).1 pb⟩
    · cases h
  · rename_i a op op' b e p
    split at h
    · rename_i o o' x y z ho ho' hx hy hz
      cases h
      obtain ⟨pe, se⟩ := S C e z hz
      refine ⟨rfl, fun X Wx g => ?_⟩
      obtain ⟨k1, k2⟩ := cCmp_ok (G := G) (c := c) g.room.units ho
      obtain ⟨k1', k2'⟩ := cCmp_ok (G := G) (c := c) g.room.units ho'
      exact ⟨l_ch k1 k2 k2' ((S C a x hx).2 X Wx g).1 ((S C b y hy).2 X Wx g).1 (se X Wx g).1 pe, fun _ => t_ch k1 k1' k2 k2' ((S C a x hx).2 X Wx g).1 ((S C b y hy).2 X Wx g).1 (se X Wx g).1 pe⟩
    · cases h
  · -- and
    rename_i es p
    split at h
    · rename_i ht
      cases hc : cL (r C) es with
      | none => rw [hc] at h; cases h
      | some ms =>
        rw [hc] at h
        refine ⟨rfl, fun X Wx g => ?_⟩
        obtain ⟨q1, q2⟩ := fAnd_ok S hc h ht X Wx p g
        exact ⟨q1, fun _ => q2.pt⟩
    · cases h
  · rename_i es p
    split at h
    · rename_i ht
      cases hc : cL (r C) es with
      | none => rw [hc] at h; cases h
      | some ms =>
        rw [hc] at h
        refine ⟨rfl, fun X Wx g => ?_⟩
        obtain ⟨q1, q2⟩ := fOr_ok S hc h ht X Wx p g
        exact ⟨q1, fun _ => q2.pt⟩
    · cases h
  · -- a conditional
    rename_i t a b p
    split at h
    · rename_i ht
      split at h
      · rename_i x y z hx hy hz
        cases h
        exact ⟨rfl, fun X Wx g => ⟨l_ite (((S C t x hx).2 X Wx g).2 ht) ((S C a y hy).2 X Wx g).1 ((S C b z hz).2 X Wx g).1, fun z => nomatch z⟩⟩
      · cases h
    · cases h
  · -- a slice
    rename_i a lo hi p q
    split at h
    · rename_i x l u hx hl hu
      cases h
      exact ⟨rfl, fun X Wx g => t_of (l_slc ((S C a x hx).2 X Wx g).1 (cOpt_ok S hl X Wx g) (cOpt_ok S hu X Wx g)) fun _ => rfl⟩
    · cases h
  · -- [::-1]
    rename_i a _ _ _ _ _
    cases hx : r C a with
    | none => rw [hx] at h; cases h
    | some x =>
      rw [hx] at h
      cases h
      exact ⟨rfl, fun X Wx g => t_of (l_rev ((S C a x hx).2 X Wx g).1) fun _ => rfl⟩
  · rename_i a b p _ _
    split at h
    · rename_i i ho
      cases hx : r C b with
      | none => rw [hx] at h; cases h
      | some y =>
        rw [hx] at h
        cases h
        obtain ⟨y', p', e, hv⟩ := own_var ho
        subst e
        obtain ⟨pb, sb⟩ := S C b y hx
        exact ⟨rfl, fun X Wx g => t_of (l_oIdx (g.pvar hv) (sb X Wx g).1 pb) fun _ => rfl⟩
    split at h
    · rename_i x y hx hy
      obtain ⟨pb, sb⟩ := S C b y hy
      refine ⟨rfl, fun X Wx g => ?_⟩
      have hu : X.A.units + 1 < cLine := by have := g.room.units; omega
      split at h
      · cases h
        exact t_of (l_hIdx hu ((S C a x hx).2 X Wx g).1 (sb X Wx g).1 pb) fun _ => rfl
      · cases h
        exact t_of (l_idx hu ((S C a x hx).2 X Wx g).1 (sb X Wx g).1 pb) fun _ => rfl
    · cases h
  · -- a field
    rename_i e f p
    split at h
    · rename_i k hk
      split at h
      · rename_i hc
        simp only [Bool.and_eq_true] at hc
        have hf : (k, f) ∈ C.atts := by simpa using hc.1
        cases hx : r C e with
        | none => rw [hx] at h; cases h
        | some x =>
          rw [hx] at h
          cases h
          refine ⟨rfl, fun X Wx g => ?_⟩
          obtain ⟨A, q1, q2, q3⟩ := g.atts _ hf
          exact t_of (l_attr q1 q2 q3 ((S C e x hx).2 X Wx g).1 (abOk_base hc.2 _ _ _)) fun _ => rfl
      · cases h
    · cases h
  · -- C()
    rename_i f p q
    split at h
    · rename_i hg
      simp only [Bool.and_eq_true] at hg
      cases h
      have hf : f ∈ C.clss := by simpa using hg.2
      exact ⟨rfl, fun X Wx g => t_of (cls_ok g hf hg.1.1 hg.1.2 rfl rfl (l_nil (X := X))) fun _ => rfl⟩
    · cases h
  · -- a call
    rename_i f p a es q
    split at h
    · rename_i hg
      simp only [Bool.and_eq_true] at hg
      split at h
      · rename_i hf
        simp only [Bool.or_eq_true] at hf
        cases hc : cA (r C) C f 0 (a :: es) with
        | none => rw [hc] at h; cases h
        | some ms =>
          rw [hc] at h
          cases h
          obtain ⟨h1, h2, h3⟩ := cA_ok S hc
          refine ⟨rfl, fun X Wx g => ?_⟩
          rcases hf with hf | hf
          · have hf : f ∈ C.fns := by simpa using hf
            obtain ⟨fa, fd, ps, m1, m2, m3, m4⟩ := g.fns f hf
            exact t_of (l_call m4 g.room (g.isGl hg.1) m1 m2 m3 g.tk (h3 X Wx g) h1 (nmOk_d hg.2)) fun _ => rfl
          · have hf : f ∈ C.clss := by simpa using hf
            exact t_of (cls_ok g hf hg.1 hg.2 h1 h2 (h3 X Wx g)) fun _ => rfl
      · split at h
        · split at h
          · rename_i hs
            subst hs
            exact ⟨rfl, fun X Wx g => t_of (cSrt_ok S g h hg.1) fun _ => rfl⟩
          split at h
          · rename_i o b T hb
            split at h
            · rename_i i ho
              cases h
              obtain ⟨y', p', e, hv⟩ := own_var ho
              subst e
              have hf : f = "len" := cBlt_len hb
              subst hf
              exact ⟨rfl, fun X Wx g => t_of (l_oLen (g.pvar hv) (g.isGl hg.1) (g.blt _ (by simp [blts]))) fun _ => rfl⟩
            · cases hx : r C a with
              | none => rw [hx] at h; cases h
              | some x =>
                rw [hx] at h
                obtain ⟨pa, sa⟩ := S C a x hx
                have hf := cBlt_len hb
                subst hf
                refine ⟨rfl, fun X Wx g => ?_⟩
                simp only [Option.map_some, Option.some.injEq] at h
                split at h
                · subst h
                  exact t_of (l_hLen (g.isGl hg.1) (g.blt _ (by simp [blts])) (sa X Wx g).1 pa) fun _ => rfl
                · subst h
                  exact t_of (cBlt_ok g hb hg.1 hg.2 (sa X Wx g).1 pa) fun _ => rfl
            · cases hx : r C a with
              | none => rw [hx] at h; cases h
              | some x =>
                rw [hx] at h
                cases h
                obtain ⟨pa, sa⟩ := S C a x hx
                exact ⟨rfl, fun X Wx g => t_of (cBlt_ok g hb hg.1 hg.2 (sa X Wx g).1 pa) fun _ => rfl⟩
          · cases h
        · rename_i t p2
          split at h
          · rename_i hf
            subst hf
            split at h
            · rename_i ht
              simp only [Bool.and_eq_true] at ht
              split at h
              · rename_i o T hi
                cases hx : r C a with
                | none => rw [hx] at h; cases h
                | some x =>
                  rw [hx] at h
                  cases h
                  obtain ⟨pa, sa⟩ := S C a x hx
                  obtain ⟨k1, k2, k3, k4⟩ := cIsi_ok hi
                  exact ⟨rfl, fun X Wx g => t_of (l_isi k1 k2 (g.isGl hg.1) (g.blt _ (by simp [blts])) (g.isGl ht.1) (g.blt _ k4) k3 (nmOk_n ht.2) (nmOk_d ht.2) (sa X Wx g).1 pa) fun _ => rfl⟩
              · cases h
            · cases h
          · split at h
            · rename_i hf
              subst hf
              split at h
              · rename_i x y hx hy
                cases h
                obtain ⟨pa, sa⟩ := S C a x hx
                obtain ⟨pb, sb⟩ := S C _ y hy
                exact ⟨rfl, fun X Wx g => t_of (l_max2 g.calm (g.isGl hg.1) (g.blt _ (by simp [blts])) (sa X Wx g).1 pa (sb X Wx g).1 pb) fun _ => rfl⟩
              · cases h
            · cases h
        · split at h
          · rename_i hc
            simp only [Bool.and_eq_true, decide_eq_true_eq] at hc
            obtain ⟨⟨⟨⟨hf, ht1⟩, ht2⟩, g1⟩, g2⟩ := hc
            subst hf
            subst ht1
            subst ht2
            cases hx : r C a with
            | none => rw [hx] at h; cases h
            | some x =>
              rw [hx] at h
              cases h
              obtain ⟨pa, sa⟩ := S C a x hx
              exact ⟨rfl, fun X Wx g => t_of (l_isi2 (g.isGl hg.1) (g.blt _ (by simp [blts])) (g.isGl g1) (g.blt _ (by simp [blts])) (g.isGl g2) (g.blt _ (by simp [blts])) (sa X Wx g).1 pa) fun _ => rfl⟩
          · cases h
        · rename_i b _
          split at h
          · rename_i hf
            subst hf
            split at h
            · rename_i x y hx hy
              cases h
              obtain ⟨pa, sa⟩ := S C a x hx
              obtain ⟨pb, sb⟩ := S C _ y hy
              exact ⟨rfl, fun X Wx g => t_of (l_max2 g.calm (g.isGl hg.1) (g.blt _ (by simp [blts])) (sa X Wx g).1 pa (sb X Wx g).1 pb) fun _ => rfl⟩
            · cases h
          · cases h
        · cases h
    · cases h
  · -- a method
    rename_i o name ap es cp
    split at h
    · rename_i hc
      simp only [Bool.and_eq_true] at hc
      exact ⟨rfl, fun X Wx g => t_of (cMeth_ok S g h hc.2 hc.1) fun _ => rfl⟩
    · cases h
  · -- a comprehension
    rename_i elt tg iter ifs k scope p
    split at h
    · rename_i hk
      subst hk
      split at h
      · rename_i own kk src cs m h1 h2 h3 h4
        split at h
        · rename_i hb
          cases h
          simp only [Bool.and_eq_true, decide_eq_true_eq] at hb
          obtain ⟨⟨⟨hb1, hb2⟩, hb3⟩, hb4⟩ := hb
          refine ⟨rfl, fun X Wx g => ?_⟩
          refine t_of (l_comp (own := own) g.calm (by rw [g.hN]; exact g.nd) (cI_ok S h2 X Wx g) (blkOk_by (by rw [g.hN, g.sc]; exact hb1)) rfl (fun s H Cc cl fp => cTg_ok (g.blk s H scope cl Cc fp) h1) (fun s H Cc cl fp => ts_ok S h3 hb2 hb3 _ _ (g.blk s H scope cl Cc fp)) (fun s H Cc cl fp => ((S _ elt m h4).2 _ _ (g.blk s H scope cl Cc fp)).1) hb4) fun _ => rfl
        · cases h
      · cases h
    · cases h
  · cases h
theorem re_stuck {X : Cx} {Wx : WX} {e : Expr} : PE X e (RE (gOf X G c) Wx .stuck) := ⟨fun pins s σ H Q I h => by
  obtain ⟨O, s, k, p⟩ := h
  rw [ev] at p
  exact p.elim⟩
theorem rt_stuck {X : Cx} {Wx : WX} {e : Expr} : PT X e (RT (gOf X G c) Wx .stuck) := ⟨fun pins s σ H Q I h => by
  obtain ⟨O, s, k, p⟩ := h
  unfold evb at p
  rw [ev] at p
  exact p.elim⟩
theorem cE_ok (G : Glob) (c : Oracle) (n : Nat) : ∀ k, SndE G c n (cE k)
  | 0 => fun C e me h => by cases h
  | k + 1 => fun C e me h => by
    have S := cStep_ok (cE_ok G c n k)
    show pl e = true ∧ _
    have h : orStuck e (cStep (cE k) C e) = some me := h
    unfold orStuck at h
    split at h
    · rename_i m hm
      cases h
      exact S C e _ hm
    · split at h
      · rename_i hp
        cases h
        exact ⟨hp, fun X Wx g => ⟨re_stuck, fun _ => rt_stuck⟩⟩
      · cases h
end
end Ft
set_option Elab.async false
set_option linter.all false
set_option maxRecDepth 100000
set_option maxHeartbeats 4000000
namespace Ft
open PySem PyProof.Rows L2
/-- x[k] = v, x a list or a dict of one's own -/
def rSetB : TSet := fun o i v H Q => L2.rSetL o i v H Q ∨ L2.rSetD o i v H Q
theorem set_both {X : Cx} (hu : X.A.units + 1 < cLine) : PSet X rSetB := by
  intro pins s σ H o i v ov iv u Q I ro ri rv h
  rcases h with h | h
  · exact set_list pins s σ H o i v ov iv u Q I ro ri rv h
  · exact set_dict hu pins s σ H o i v ov iv u Q I ro ri rv h
/-- what is wanted behind a statement; O0, Hb: the def's entry -/
def PostX (g : Gw) (O0 : Ow) (Hb : Hp) (Wx : WX) (O : Ow) (H : Hp) (r : X) (D : Ends) : Prop := match r with
  | .nx s' => ∀ O' σ' H', Ext O0 Hb O' H' → DExt O H O' H' → Ok g O' σ' H' s' → D.nx σ' H'
  | .rt d _ s' => ∀ O' v H', Ext O0 Hb O' H' → (∀ a, O' a ≠ Option.none → H' a ≠ Option.none) → Cells g O' H' s'.hp → Is g.K g.w O' H' v d → D.rt v H'
  | .exn x s' => ∀ O' σ' H' cls dd, Ext O0 Hb O' H' → DExt O H O' H' → Ok g O' σ' H' s' → ExnIs g x cls dd H' → Wx cls dd σ' H'
  | .bad => False
def RS (g : Gw) (O0 : Ow) (Hb : Hp) (Wx : WX) (m : List Sm) : TS := fun D σ H => ∃ O s, Ext O0 Hb O H ∧ Ok g O σ H s ∧ PostX g O0 Hb Wx O H (exs g.G g.c m s) D
section
variable {g : Gw} {O0 : Ow} {Hb : Hp} {Wx : WX} {O O1 : Ow} {H H1 : Hp} {σ : L2.St} {D D' : Ends} {s : Ft.St}
theorem PostX.base {r : X} (h : PostX g O0 Hb Wx O H r D) (e : DExt O H O1 H1) : PostX g O0 Hb Wx O1 H1 r D := by
  cases r with
  | nx s' => exact fun O' σ' H' a b => h O' σ' H' a (e.trans b)
  | rt d f s' => exact h
  | exn x s' => exact fun O' σ' H' cls dd a b => h O' σ' H' cls dd a (e.trans b)
  | bad => exact h
theorem PostX.ofR {α β : Type} {rel : Ow → Hp → β → α → Prop} {r : R α} {f : α → Ft.St → X} (x0 : Ext O0 Hb O H) (h : PostX g O0 Hb Wx O H (X.ofR r f) D) :
    Post g rel Wx σ O H r (fun b H1 => ∃ O1 a s1, Ext O H O1 H1 ∧ Ext O0 Hb O1 H1 ∧ Ok g O1 σ H1 s1 ∧ rel O1 H1 b a ∧ PostX g O0 Hb Wx O1 H1 (f a s1) D) := by
  cases r with
  | ok a s' =>
    intro O' b H' e k l
    exact ⟨O', a, s', e, x0.trans e, k, l, PostX.base h e.data⟩
  | exn x s' => exact fun O' H' cls dd e k i => h O' σ H' cls dd (x0.trans e) e.data k i
  | bad => exact h
theorem PostX.seq {r : X} {f : Ft.St → X} {nx' : L2.St → Hp → Prop} (h : PostX g O0 Hb Wx O H (r.then_ f) D)
    (hn : ∀ O' σ' H' s', r = .nx s' → Ext O0 Hb O' H' → DExt O H O' H' → Ok g O' σ' H' s' → PostX g O0 Hb Wx O' H' (f s') D → nx' σ' H') : PostX g O0 Hb Wx O H r { D with nx := nx' } := by
  cases r with
  | nx s' => exact fun O' σ' H' a b k => hn O' σ' H' s' rfl a b k (PostX.base h b)
  | rt d f s' => exact h
  | exn x s' => exact h
  | bad => exact h
theorem exs_append (G : Glob) (c : Oracle) : ∀ (a b : List Sm) (s : Ft.St), exs G c (a ++ b) s = (exs G c a s).then_ (exs G c b)
  | [], b, s => by
    rw [exs]
    rfl
  | m :: a, b, s => by
    show exs G c (m :: (a ++ b)) s = _
    rw [exs, exs]
    cases ex G c m s with
    | nx s1 => exact exs_append G c a b s1
    | rt d f s1 => rfl
    | exn x s1 => rfl
    | bad => rfl
theorem exs_one (G : Glob) (c : Oracle) (m : Sm) (s : Ft.St) : exs G c [m] s = ex G c m s := by
  rw [exs]
  cases ex G c m s with
  | nx s1 => show exs G c [] s1 = _; rw [exs]
  | rt d f s1 => rfl
  | exn x s1 => rfl
  | bad => rfl
/-- blocks -/
theorem b_nil {X : Cx} : PSs X [] (RS g O0 Hb Wx []) := pss_imp pss_nil fun D σ H q => by
  obtain ⟨O, s, x, k, p⟩ := q
  rw [exs] at p
  exact p O σ H x DExt.refl k
theorem b_cons {X : Cx} {st : Stmt} {rest : List Stmt} {a b : List Sm} (h1 : PS X st (RS g O0 Hb Wx a)) (h2 : PSs X rest (RS g O0 Hb Wx b)) : PSs X (st :: rest) (RS g O0 Hb Wx (a ++ b)) := by
  refine pss_imp (pss_cons h1 h2) fun D σ H q => ?_
  obtain ⟨O, s, x, k, p⟩ := q
  rw [exs_append] at p
  exact ⟨O, s, x, k, PostX.seq p fun O' σ' H' s' _ e1 e2 k' p' => ⟨O', s', e1, k', p'⟩⟩
/-- slots that own -/
theorem Ok.setO (k : Ok g O σ H s) {i : Nat} {p : Addr} {o : HO} {x : Sl} (hi : i < s.env.length) (hp : H p = Option.none) (hx : ∀ O' H', DExt O H O' H' → O' p = some (.sl i) → H' p = some o → SlOk g O' (σ.set i (some (.ref p))) H' i x) : Ok g (tag O p (some (.sl i))) (σ.set i (some (.ref p))) (upd H p o) (s.set i x) := by
  have l := k.lay (o := o) (t := .sl i) hp (fun j z => by cases z)
  have e : DExt O H (tag O p (some (.sl i))) (upd H p o) := (Ext.lay (O := O) (o := o) (t := some (.sl i)) hp).data
  refine ⟨by simp [Ft.St.set, k.len], fun j y hj => ?_, l.tags, l.cells⟩
  unfold Ft.St.set at hj
  by_cases z : i = j
  · subst z
    simp only [List.getElem?_set_self hi] at hj
    cases hj
    exact hx _ _ e tag_same upd_same
  · simp only [List.getElem?_set_ne z] at hj
    have q := l.slot j y hj
    have es : (σ.set i (some (.ref p)))[j]? = σ[j]? := List.getElem?_set_ne z
    cases y with
    | no => trivial
    | d y => obtain ⟨v', h1, h2⟩ := q; exact ⟨v', es.trans h1, h2⟩
    | ol xs => obtain ⟨a, vs, h1, h2⟩ := q; exact ⟨a, vs, es.trans h1, h2⟩
    | od xs => obtain ⟨a, vs, h1, h2⟩ := q; exact ⟨a, vs, es.trans h1, h2⟩
theorem own_ext {a : Addr} {i : Nat} (t : O a = some (.sl i)) (o : HO) : DExt O H O (upd H a o) := ⟨fun q u hq hn => ⟨hn, _, (by
  rw [upd_ne]
  · exact hq
  · intro z; subst z; rw [t] at hn; cases hn), .inl rfl⟩, fun q j hq hc => ⟨hc, by
  rw [upd_ne]
  · exact hq
  · intro z; subst z; rw [t] at hc; cases hc⟩⟩
theorem sl_cell {a : Addr} {i : Nat} (t : O a = some (.sl i)) : ∀ j, O a ≠ some (.cell j) := fun j z => by rw [t] at z; cases z
/-- the owned thing at a is changed -/
theorem Ok.chg (k : Ok g O σ H s) {i : Nat} {a : Addr} {o : HO} {x : Sl} (hi : i < s.env.length) (t : O a = some (.sl i)) (hs : σ[i]? = some (some (.ref a))) (hx : SlOk g O σ (upd H a o) i x) : Ok g O σ (upd H a o) (s.set i x) := by
  have e := own_ext (H := H) t o
  refine ⟨by simp [Ft.St.set, k.len], fun j y hj => ?_, fun b hb => ?_, k.cells.ext e (fun b j hb => upd_ne fun z => by subst z; rw [t] at hb; cases hb) fun _ _ h => h⟩
  · unfold Ft.St.set at hj
    by_cases z : i = j
    · subst z
      simp only [List.getElem?_set_self hi] at hj
      cases hj
      exact hx
    · simp only [List.getElem?_set_ne z] at hj
      have q := k.slot j y hj
      cases y with
      | no => trivial
      | d y => obtain ⟨v', h1, h2⟩ := q; exact ⟨v', h1, h2.ext e⟩
      | ol xs =>
        obtain ⟨b, vs, h1, h2, h3, h4⟩ := q
        refine ⟨b, vs, h1, h2, ?_, h4.ext e⟩
        rw [upd_ne]
        · exact h3
        · intro w; subst w; rw [t] at h2; cases h2; exact z rfl
      | od xs =>
        obtain ⟨b, vs, h1, h2, h3, h4⟩ := q
        refine ⟨b, vs, h1, h2, ?_, h4.ext e⟩
        rw [upd_ne]
        · exact h3
        · intro w; subst w; rw [t] at h2; cases h2; exact z rfl
  · by_cases z : b = a
    · subst z; rw [upd_same]; simp
    · rw [upd_ne z]; exact k.tags b hb
theorem young (x0 : Ext O0 Hb O H) (ns : ∀ a i, O0 a ≠ some (Own.sl i)) {a : Addr} {i : Nat} (t : O a = some (.sl i)) : Hb a = Option.none := by
  cases e : Hb a with
  | none => rfl
  | some o =>
    have := x0.own a (by rw [e]; simp)
    rw [t] at this
    exact absurd this.symm (ns a i)
/-- an owned thing becomes data -/
theorem Ok.share (k : Ok g O σ H s) {i : Nat} {a : Addr} {d : Ft.D} (hi : i < s.env.length) (t : O a = some (.sl i)) (hs : σ[i]? = some (some (.ref a))) (hd : Is g.K g.w (tag O a Option.none) H (.ref a) d) : Ok g (tag O a Option.none) σ H (s.set i (.d d)) := by
  have e : DExt O H (tag O a Option.none) H := DExt.untag (sl_cell t)
  refine ⟨by simp [Ft.St.set, k.len], fun j y hj => ?_, fun b hb => ?_, k.cells.untag (sl_cell t)⟩
  · unfold Ft.St.set at hj
    by_cases z : i = j
    · subst z
      simp only [List.getElem?_set_self hi] at hj
      cases hj
      exact ⟨_, hs, hd⟩
    · simp only [List.getElem?_set_ne z] at hj
      have q := k.slot j y hj
      cases y with
      | no => trivial
      | d y => obtain ⟨v', h1, h2⟩ := q; exact ⟨v', h1, h2.ext e⟩
      | ol xs =>
        obtain ⟨b, vs, h1, h2, h3, h4⟩ := q
        have ne : b ≠ a := fun w => by subst w; rw [t] at h2; cases h2; exact z rfl
        exact ⟨b, vs, h1, by rw [tag_ne ne]; exact h2, h3, h4.ext e⟩
      | od xs =>
        obtain ⟨b, vs, h1, h2, h3, h4⟩ := q
        have ne : b ≠ a := fun w => by subst w; rw [t] at h2; cases h2; exact z rfl
        exact ⟨b, vs, h1, by rw [tag_ne ne]; exact h2, h3, h4.ext e⟩
  · by_cases z : b = a
    · subst z; rw [tag_same] at hb; exact absurd rfl hb
    · rw [tag_ne z] at hb; exact k.tags b hb
end
section
variable {X : Cx} {G : Glob} {c : Oracle} {O0 : Ow} {Hb : Hp} {Wx : WX} {e : Expr} {me : E} {i : Nat} {pos : Pos}
/-- x = e -/
theorem s_asg {st : Stmt} (h : PS X st (tAsg (RE (gOf X G c) Wx me) (gName i))) : PS X st (RS (gOf X G c) O0 Hb Wx [.asg i me]) := by
  refine ps_imp h fun D σ H q => ?_
  obtain ⟨O, s, x0, k, p⟩ := q
  rw [exs_one, ex] at p
  refine ⟨O, s, k, (PostX.ofR (rel := IsD _) x0 p).imp fun v H1 ⟨O1, d, s1, e1, x1, k1, i1, p1⟩ => ?_⟩
  split at p1
  · rename_i hi
    exact p1 O1 _ H1 x1 DExt.refl (k1.setD hi i1)
  · exact p1.elim
/-- a, b = e -/
theorem s_unp {st : Stmt} {is : List Nat} (h : PS X st (tAsg (RE (gOf X G c) Wx me) (fun v σ H Q => gTup X.K is.length (gsR is) v σ H Q ∨ gUnl X.K is.length (gsR is) v σ H Q))) : PS X st (RS (gOf X G c) O0 Hb Wx [.unp is me]) := by
  refine ps_imp h fun D σ H q => ?_
  obtain ⟨O, s, x0, k, p⟩ := q
  rw [exs_one, ex] at p
  refine ⟨O, s, k, (PostX.ofR (rel := IsD _) x0 p).imp fun v H1 ⟨O1, d, s1, e1, x1, k1, i1, p1⟩ => ?_⟩
  have len : ∀ (is : List Nat) (vs : List V) (σ : L2.St) (H : Hp) (Q : L2.St → Hp → Prop), gsR is vs σ H Q → vs.length = is.length := by
    intro is
    induction is with
    | nil => rintro vs σ H Q ⟨h1, h2⟩; rw [h1]; rfl
    | cons j js ih => rintro vs σ H Q ⟨v, r, h1, h2⟩; rw [h1, List.length_cons, List.length_cons, ih r _ _ _ h2]
  cases d <;> first | exact p1.elim | skip
  · rename_i xs
    dsimp only at p1
    cases hs : setTg s1 is xs with
    | none => rw [hs] at p1; exact p1.elim
    | some s2 =>
      rw [hs] at p1
      obtain ⟨a, vs, ev, hq, l⟩ := Is.tupS i1
      have q := setTg_ok is xs vs σ s1 s2 k1 l hs
      refine .inl ⟨a, vs, ev, hq, len _ _ _ _ _ q, gsR_imp _ _ _ _ _ _ (fun σ' H' ⟨h1, h2, h3⟩ => ?_) q⟩
      subst h1
      exact p1 O1 _ _ x1 DExt.refl h2
  · rename_i xs
    dsimp only at p1
    cases hs : setTg s1 is xs with
    | none => rw [hs] at p1; exact p1.elim
    | some s2 =>
      rw [hs] at p1
      obtain ⟨a, vs, ev, hq, l⟩ := Is.lstS i1
      have q := setTg_ok is xs vs σ s1 s2 k1 l hs
      refine .inr ⟨a, vs, ev, SqL.of hq, len _ _ _ _ _ q, gsR_imp _ _ _ _ _ _ (fun σ' H' ⟨h1, h2, h3⟩ => ?_) q⟩
      subst h1
      exact p1 O1 _ _ x1 DExt.refl h2
/-- x += e -/
theorem s_aug {st : Stmt} {o : O2} {f : Int → Int → Int} (hf : ∀ m n, (match o with | .add => some (m + n) | .sub => some (m - n) | _ => none : Option Int) = some (f m n)) (h : PS X st (tAug i (RE (gOf X G c) Wx me) (ipI f))) : PS X st (RS (gOf X G c) O0 Hb Wx [.aug i o me]) := by
  refine ps_imp h fun D σ H q => ?_
  obtain ⟨O, s, x0, k, p⟩ := q
  rw [exs_one, ex] at p
  cases hg : s.get i with
  | none => rw [hg] at p; exact p.elim
  | some x =>
    rw [hg] at p
    obtain ⟨v, h1, h2⟩ := k.get hg
    refine ⟨v, h1, O, s, k, (PostX.ofR (rel := IsD _) x0 p).imp fun y H1 ⟨O1, d, s1, e1, x1, k1, i1, p1⟩ => ?_⟩
    cases x with
    | int m =>
      cases d with
      | int n =>
        cases h2
        cases i1
        have hfm := hf m n
        refine ⟨m, n, rfl, rfl, ?_⟩
        cases o <;> first | exact p1.elim | skip
        · dsimp only at p1 hfm
          split at p1
          · rename_i hi
            rw [← Option.some.inj hfm]
            exact p1 O1 _ H1 x1 DExt.refl (k1.setD hi (.int _))
          · exact p1.elim
        · dsimp only at p1 hfm
          split at p1
          · rename_i hi
            rw [← Option.some.inj hfm]
            exact p1 O1 _ H1 x1 DExt.refl (k1.setD hi (.int _))
          · exact p1.elim
      | _ => exact p1.elim
    | _ => exact p1.elim
/-- x = [..], x one that is changed later -/
theorem s_asgL {st : Stmt} {ms : List E} (hl : ms.length ≤ LIM) (h : PS X st (tAsg (tLst (RA (gOf X G c) Wx ms)) (gName i))) : PS X st (RS (gOf X G c) O0 Hb Wx [.asgO i (.lst ms)]) := by
  refine ps_imp h fun D σ H q => ?_
  obtain ⟨O, s, x0, k, p⟩ := q
  rw [exs_one, ex, ev] at p
  refine ⟨O, s, k, ?_⟩
  cases e : evs (gOf X G c).G (gOf X G c).c ms s with
  | bad => rw [e] at p; exact p.elim
  | exn x s1 =>
    rw [e] at p
    exact fun O' H' cls dd e1 k1 i1 => p O' σ H' cls dd (x0.trans e1) e1.data k1 i1
  | ok ds s1 =>
    rw [e] at p
    simp only [R.bind, Ft.X.ofR] at p
    intro O1 vs H1 e1 k1 i1
    split at p
    · rename_i hi
      refine ⟨by rw [i1.len, evs_len ms s s1 ds e]; exact Nat.le_trans hl lim_line, fun q hq => ?_⟩
      refine p (tag O1 q (some (.sl i))) _ _ ((x0.trans e1).trans (Ext.lay hq)) (e1.trans (Ext.lay hq)).data (k1.setO hi hq fun O' H' ex t h => ?_)
      refine ⟨q, vs, ?_, t, h, i1.ext ex⟩
      exact List.getElem?_set_self (by rw [← k1.len]; exact hi)
    · exact p.elim
theorem s_asgD {st : Stmt} (h : PS X st (tAsg tDNewK (gName i))) : PS X st (RS (gOf X G c) O0 Hb Wx [.asgO i .emp]) := by
  refine ps_imp h fun D σ H q => ?_
  obtain ⟨O, s, x0, k, p⟩ := q
  rw [exs_one, ex, ev] at p
  simp only [Ft.X.ofR] at p
  split at p
  · rename_i hi
    intro q hq
    refine p (tag O q (some (.sl i))) _ _ (x0.trans (Ext.lay hq)) (Ext.lay hq).data (k.setO hi hq fun O' H' ex t h => ?_)
    refine ⟨q, [], ?_, t, h, .nil⟩
    exact List.getElem?_set_self (by rw [← k.len]; exact hi)
  · exact p.elim
/-- x.append(e) -/
theorem s_app {st : Stmt} (ns : ∀ a i, O0 a ≠ some (Own.sl i)) (h : PS X st (tDrop (tBM X.K "list" rAppend (tVar i) (tCons (RE (gOf X G c) Wx me) tNil)))) : PS X st (RS (gOf X G c) O0 Hb Wx [.app i me]) := by
  refine ps_imp h fun D σ H q => ?_
  obtain ⟨O, s, x0, k, p⟩ := q
  rw [exs_one, ex] at p
  cases hg : s.env[i]? with
  | none => rw [hg] at p; exact p.elim
  | some x =>
    rw [hg] at p
    have sl := k.slot i x hg
    cases x <;> first | exact p.elim | skip
    obtain ⟨a, vs, h1, h2, h3, h4⟩ := sl
    refine ⟨_, h1, .inl ⟨rfl, _, SqL.of h3⟩, O, s, k, (PostX.ofR (rel := IsD _) x0 p).imp fun y H1 ⟨O1, d, s1, e1, x1, k1, i1, p1⟩ => ?_⟩
    cases hg1 : s1.env[i]? with
    | none => rw [hg1] at p1; exact p1.elim
    | some x1' =>
      rw [hg1] at p1
      have sl1 := k1.slot i x1' hg1
      cases x1' <;> first | exact p1.elim | skip
      rename_i xs
      obtain ⟨a', vs', g1, g2, g3, g4⟩ := sl1
      rw [h1] at g1
      cases g1
      dsimp only at p1
      split at p1
      · rename_i hlen
        refine ⟨a, vs', y, rfl, rfl, g3, by rw [g4.len]; exact Nat.lt_of_lt_of_le hlen lim_line, ?_⟩
        have hi : i < s1.env.length := (List.getElem?_eq_some_iff.mp hg1).1
        have de := own_ext (H := H1) g2 (.lst (vs' ++ [y]))
        have yg := young x1 ns g2
        exact p1 O1 σ _ (x1.poke yg) de (k1.chg hi g2 h1 ⟨a, _, h1, g2, upd_same, IsL.append (g4.ext de) (.cons (Is.ext de i1) .nil)⟩)
      · exact p1.elim
/-- x.extend(e) -/
theorem s_ext {st : Stmt} (ns : ∀ a i, O0 a ≠ some (Own.sl i)) (h : PS X st (tDrop (tBM X.K "list" rExtend (tVar i) (tCons (RE (gOf X G c) Wx me) tNil)))) : PS X st (RS (gOf X G c) O0 Hb Wx [.ext i me]) := by
  refine ps_imp h fun D σ H q => ?_
  obtain ⟨O, s, x0, k, p⟩ := q
  rw [exs_one, ex] at p
  cases hg : s.env[i]? with
  | none => rw [hg] at p; exact p.elim
  | some x =>
    rw [hg] at p
    have sl := k.slot i x hg
    cases x <;> first | exact p.elim | skip
    obtain ⟨a, vs, h1, h2, h3, h4⟩ := sl
    refine ⟨_, h1, .inl ⟨rfl, _, SqL.of h3⟩, O, s, k, (PostX.ofR (rel := IsD _) x0 p).imp fun y H1 ⟨O1, d, s1, e1, x1, k1, i1, p1⟩ => ?_⟩
    cases hg1 : s1.env[i]? with
    | none => rw [hg1] at p1; exact p1.elim
    | some x1' =>
      rw [hg1] at p1
      have sl1 := k1.slot i x1' hg1
      cases x1' <;> first | exact p1.elim | skip
      rename_i xs
      obtain ⟨a', vs', g1, g2, g3, g4⟩ := sl1
      rw [h1] at g1
      cases g1
      cases d <;> first | exact p1.elim | skip
      rename_i ys
      dsimp only at p1
      split at p1
      · rename_i hlen
        obtain ⟨b, us, rfl, hb, lb⟩ := i1.lstS
        refine ⟨a, b, vs', us, rfl, rfl, g3, hb, by rw [g4.len, lb.len]; exact Nat.le_trans hlen lim_line, ?_⟩
        have hi : i < s1.env.length := (List.getElem?_eq_some_iff.mp hg1).1
        have de := own_ext (H := H1) g2 (.lst (vs' ++ us))
        have yg := young x1 ns g2
        exact p1 O1 σ _ (x1.poke yg) de (k1.chg hi g2 h1 ⟨a, _, h1, g2, upd_same, IsL.append (g4.ext de) (lb.ext de)⟩)
      · exact p1.elim
/-- return e -/
theorem s_ret (h : PE X e (RE (gOf X G c) Wx me)) : PS X (.Return (some e) pos) (RS (gOf X G c) O0 Hb Wx [.ret me]) := by
  refine ps_imp (ps_ret h) fun D σ H q => ?_
  obtain ⟨O, s, x0, k, p⟩ := q
  rw [exs_one, ex] at p
  exact ⟨O, s, k, (PostX.ofR (rel := IsD _) x0 p).imp fun v H1 ⟨O1, d, s1, e1, x1, k1, i1, p1⟩ => p1 O1 v H1 x1 k1.tags k1.cells i1⟩
/-- return x, x one that was changed -/
theorem s_retO (ns : ∀ a i, O0 a ≠ some (Own.sl i)) (h : PE X e (tVar i)) : PS X (.Return (some e) pos) (RS (gOf X G c) O0 Hb Wx [.share i, .ret (.var i)]) := by
  refine ps_imp (ps_ret h) fun D σ H q => ?_
  obtain ⟨O, s, x0, k, p⟩ := q
  rw [exs, ex] at p
  have fin : ∀ s', Ft.X.then_ (.nx s') (exs (gOf X G c).G (gOf X G c).c [.ret (.var i)]) = Ft.X.ofR (R.of (s'.get i) s') fun d s => .rt d false s := by
    intro s'
    show exs (gOf X G c).G (gOf X G c).c [.ret (.var i)] s' = _
    rw [exs_one, ex, ev]
  cases hg : s.env[i]? with
  | none =>
    rw [hg] at p
    dsimp only at p
    rw [fin] at p
    unfold Ft.St.get at p
    rw [hg] at p
    exact p.elim
  | some x =>
    rw [hg] at p
    have hi : i < s.env.length := (List.getElem?_eq_some_iff.mp hg).1
    have sl := k.slot i x hg
    cases x with
    | no =>
      dsimp only at p
      rw [fin] at p
      unfold Ft.St.get at p
      rw [hg] at p
      exact p.elim
    | d y =>
      dsimp only at p
      rw [fin] at p
      unfold Ft.St.get at p
      rw [hg] at p
      obtain ⟨v, h1, h2⟩ := sl
      exact ⟨v, h1, p O v H x0 k.tags k.cells h2⟩
    | ol xs =>
      dsimp only at p
      rw [fin] at p
      unfold Ft.St.get Ft.St.set at p
      rw [List.getElem?_set_self hi] at p
      obtain ⟨a, vs, h1, h2, h3, h4⟩ := sl
      have hd : Is X.K X.w (tag O a Option.none) H (.ref a) (.lst xs) := .lst h3 tag_same (h4.ext (DExt.untag (sl_cell h2)))
      have k' := k.share hi h2 h1 hd
      exact ⟨_, h1, p (tag O a Option.none) _ H (x0.tag (young x0 ns h2)) k'.tags k'.cells hd⟩
    | od xs =>
      dsimp only at p
      rw [fin] at p
      unfold Ft.St.get Ft.St.set at p
      rw [List.getElem?_set_self hi] at p
      obtain ⟨a, vs, h1, h2, h3, h4⟩ := sl
      have hd : Is X.K X.w (tag O a Option.none) H (.ref a) (.dct xs) := .dct (.inl h3) tag_same (h4.ext (DExt.untag (sl_cell h2)))
      have k' := k.share hi h2 h1 hd
      exact ⟨_, h1, p (tag O a Option.none) _ H (x0.tag (young x0 ns h2)) k'.tags k'.cells hd⟩
/-- ahead of what follows an owned thing may become data: nothing is done for it -/
theorem s_share {st : Stmt} {ms : List Sm} (ns : ∀ a i, O0 a ≠ some (Own.sl i)) (h : PS X st (RS (gOf X G c) O0 Hb Wx ms)) : PS X st (RS (gOf X G c) O0 Hb Wx (.share i :: ms)) := by
  refine ps_imp h fun D σ H q => ?_
  obtain ⟨O, s, x0, k, p⟩ := q
  rw [exs, ex] at p
  cases hg : s.env[i]? with
  | none =>
    rw [hg] at p
    exact ⟨O, s, x0, k, p⟩
  | some x =>
    rw [hg] at p
    have hi : i < s.env.length := (List.getElem?_eq_some_iff.mp hg).1
    have sl := k.slot i x hg
    cases x with
    | no => exact ⟨O, s, x0, k, p⟩
    | d y => exact ⟨O, s, x0, k, p⟩
    | ol xs =>
      obtain ⟨a, vs, h1, h2, h3, h4⟩ := sl
      have hd : Is X.K X.w (tag O a Option.none) H (.ref a) (.lst xs) := .lst h3 tag_same (h4.ext (DExt.untag (sl_cell h2)))
      exact ⟨_, _, x0.tag (young x0 ns h2), k.share hi h2 h1 hd, PostX.base p (DExt.untag (sl_cell h2))⟩
    | od xs =>
      obtain ⟨a, vs, h1, h2, h3, h4⟩ := sl
      have hd : Is X.K X.w (tag O a Option.none) H (.ref a) (.dct xs) := .dct (.inl h3) tag_same (h4.ext (DExt.untag (sl_cell h2)))
      exact ⟨_, _, x0.tag (young x0 ns h2), k.share hi h2 h1 hd, PostX.base p (DExt.untag (sl_cell h2))⟩
/-- x = list(e), x one that is changed later -/
theorem s_asgT {st : Stmt} {me : E} (h : PS X st (tAsg (tCB (fun xs H Q => ∃ p ys, xs = [.ref p] ∧ (SqL X.K H p ys ∨ SqT X.K H p ys) ∧ ∀ l, H l = none → Q (.ref l) (upd H l (.lst ys))) (tCons (RE (gOf X G c) Wx me) tNil)) (gName i))) : PS X st (RS (gOf X G c) O0 Hb Wx [.asgO i (.un .toLst me)]) := by
  refine ps_imp h fun D σ H q => ?_
  obtain ⟨O, s, x0, k, p⟩ := q
  rw [exs_one, ex, ev] at p
  refine ⟨O, s, k, ?_⟩
  cases e : ev (gOf X G c).G (gOf X G c).c me s with
  | bad => rw [e] at p; exact p.elim
  | exn x s1 =>
    rw [e] at p
    exact fun O' H' cls dd e1 k1 i1 => p O' σ H' cls dd (x0.trans e1) e1.data k1 i1
  | ok d s1 =>
    rw [e] at p
    simp only [R.bind] at p
    intro O1 v H1 e1 k1 i1
    have go : ∀ (b : Addr) (vs : List V) (ds : List Ft.D), v = .ref b → (SqL X.K H1 b vs ∨ SqT X.K H1 b vs) → IsL X.K X.w O1 H1 vs ds → op1 .toLst d = some (.lst ds) → ∃ p ys, [v] = [.ref p] ∧ (SqL X.K H1 p ys ∨ SqT X.K H1 p ys) ∧ ∀ l, H1 l = none → gName i (.ref l) σ (upd H1 l (.lst ys)) D.nx := fun b vs ds hv hq l ho => by
      rw [ho] at p
      simp only [R.of, Ft.X.ofR] at p
      split at p
      · rename_i hi
        refine ⟨b, vs, by rw [hv], hq, fun q hq => ?_⟩
        refine p (tag O1 q (some (.sl i))) _ _ ((x0.trans e1).trans (Ext.lay hq)) (e1.trans (Ext.lay hq)).data (k1.setO hi hq fun O' H' ex t h => ?_)
        refine ⟨q, vs, ?_, t, h, l.ext ex⟩
        exact List.getElem?_set_self (by rw [← k1.len]; exact hi)
      · exact p.elim
    cases d with
    | tup xs =>
      obtain ⟨b, vs, hv, hq, l⟩ := Is.tupS i1
      exact go b vs xs hv (.inr hq) l rfl
    | lst xs =>
      obtain ⟨b, vs, hv, hq, l⟩ := Is.lstS i1
      exact go b vs xs hv (.inl (SqL.of hq)) l rfl
    | _ => exact p.elim
/-- x = dict(e), x one that is changed later -/
theorem s_asgK {st : Stmt} {me : E} (h : PS X st (tAsg (tCB (fun xs H Q => ∃ (a : Addr) (kvs : List (Key × V)), xs = [.ref a] ∧ Rd H a (.dK kvs) ∧ ∀ p, H p = none → Q (.ref p) (upd H p (.dK kvs))) (tCons (RE (gOf X G c) Wx me) tNil)) (gName i))) : PS X st (RS (gOf X G c) O0 Hb Wx [.asgO i (.un .toDct me)]) := by
  refine ps_imp h fun D σ H q => ?_
  obtain ⟨O, s, x0, k, p⟩ := q
  rw [exs_one, ex, ev] at p
  refine ⟨O, s, k, ?_⟩
  cases e : ev (gOf X G c).G (gOf X G c).c me s with
  | bad => rw [e] at p; exact p.elim
  | exn x s1 =>
    rw [e] at p
    exact fun O' H' cls dd e1 k1 i1 => p O' σ H' cls dd (x0.trans e1) e1.data k1 i1
  | ok d s1 =>
    rw [e] at p
    simp only [R.bind] at p
    intro O1 v H1 e1 k1 i1
    cases d <;> first | exact p.elim | skip
    cases i1 with
    | dct hd od l =>
      have p : PostX (gOf X G c) O0 Hb Wx O H (if i < s1.env.length then _ else _) D := p
      split at p
      · rename_i hi
        refine ⟨_, _, rfl, hd, fun q hq => ?_⟩
        refine p (tag O1 q (some (.sl i))) _ _ ((x0.trans e1).trans (Ext.lay hq)) (e1.trans (Ext.lay hq)).data (k1.setO hi hq fun O' H' ex t h => ?_)
        refine ⟨q, _, ?_, t, h, l.ext ex⟩
        exact List.getElem?_set_self (by rw [← k1.len]; exact hi)
      · exact p.elim
/-- x[k] = e, x a list -/
theorem s_setI {st : Stmt} {mk : E} (ns : ∀ a i, O0 a ≠ some (Own.sl i)) (h1 : PS X st (tAsg (RE (gOf X G c) Wx me) (gSub (tVar i) (RE (gOf X G c) Wx mk) rSetB))) : PS X st (RS (gOf X G c) O0 Hb Wx [.setI i mk me]) := by
  refine ps_imp h1 fun D σ H q => ?_
  obtain ⟨O, s, x0, k, p⟩ := q
  rw [exs_one, ex] at p
  refine ⟨O, s, k, (PostX.ofR (rel := IsD _) x0 p).imp fun v H1 ⟨O1, d, s1, e1, x1, k1, i1, p1⟩ => ?_⟩
  cases hg : s1.env[i]? with
  | none => rw [hg] at p1; exact p1.elim
  | some x =>
    rw [hg] at p1
    have sl := k1.slot i x hg
    cases x with
    | no => exact p1.elim
    | d y => exact p1.elim
    | ol zs =>
      obtain ⟨a, vs, h1, h2, h3, h4⟩ := sl
      refine ⟨_, h1, O1, s1, k1, (PostX.ofR (rel := IsD _) x1 p1).imp fun y H2 ⟨O2, dq, s2, e2, x2, k2, i2, p2⟩ => ?_⟩
      cases hg2 : s2.env[i]? with
      | none => rw [hg2] at p2; exact p2.elim
      | some x' =>
        rw [hg2] at p2
        have sl2 := k2.slot i x' hg2
        cases x' with
        | ol xs =>
          cases dq with
          | int n =>
            dsimp only at p2
            cases hix : ix xs.length n with
            | none => rw [hix] at p2; exact p2.elim
            | some j =>
              rw [hix] at p2
              obtain ⟨a', vs', g1, g2, g3, g4⟩ := sl2
              rw [h1] at g1
              cases g1
              cases i2
              refine .inl ⟨a, vs', n, j, rfl, rfl, g3, by rw [ix_eq, g4.len]; exact hix, ?_⟩
              have hi : i < s2.env.length := (List.getElem?_eq_some_iff.mp hg2).1
              have de := own_ext (H := H2) g2 (.lst (vs'.set j v))
              have yg := young x2 ns g2
              exact p2 O2 σ _ (x2.poke yg) de (k2.chg hi g2 h1 ⟨a, _, h1, g2, upd_same, IsL.set (Is.ext (e2.data.trans de) i1) j (g4.ext de)⟩)
          | _ => exact p2.elim
        | _ => cases dq <;> exact p2.elim
    | od zs =>
      obtain ⟨a, vs, h1, h2, h3, h4⟩ := sl
      refine ⟨_, h1, O1, s1, k1, (PostX.ofR (rel := IsD _) x1 p1).imp fun y H2 ⟨O2, dq, s2, e2, x2, k2, i2, p2⟩ => ?_⟩
      cases hg2 : s2.env[i]? with
      | none => rw [hg2] at p2; exact p2.elim
      | some x' =>
        rw [hg2] at p2
        have sl2 := k2.slot i x' hg2
        cases hk : ky dq with
        | none => rw [hk] at p2; cases x' <;> exact p2.elim
        | some kq =>
          rw [hk] at p2
          cases x' with
          | od xs =>
            dsimp only at p2
            split at p2
            · rename_i hlen
              obtain ⟨a', vs', g1, g2, g3, g4⟩ := sl2
              rw [h1] at g1
              cases g1
              have key := i2.key hk
              subst key
              have hi : i < s2.env.length := (List.getElem?_eq_some_iff.mp hg2).1
              refine .inr ⟨a, _, rfl, DPut.k (k := kK kq) (v := v) g3 (by rw [g4.len]; exact Nat.lt_of_lt_of_le hlen lim_line), ?_⟩
              have de := own_ext (H := H2) g2 (.dK (L2.putK vs' (kK kq) v))
              have yg := young x2 ns g2
              exact p2 O2 σ _ (x2.poke yg) de (k2.chg hi g2 h1 ⟨a, _, h1, g2, upd_same, IsK.put kq (Is.ext (e2.data.trans de) i1) (g4.ext de)⟩)
            · exact p2.elim
          | _ => exact p2.elim
theorem s_pass : PS X (.Pass pos) (RS (gOf X G c) O0 Hb Wx [.pass]) := ps_imp ps_pass fun D σ H q => by
  obtain ⟨O, s, x0, k, p⟩ := q
  rw [exs_one, ex] at p
  exact p O σ H x0 DExt.refl k
theorem ex_iff (a b : List Sm) (s : Ft.St) : ex G c (.iff me a b) s = Ft.X.ofR (evb G c me s) fun v s => if v then exs G c a s else exs G c b s := by
  rw [ex]
  unfold evb
  cases ev G c me s with
  | ok d s1 =>
    simp only [Ft.X.ofR, R.bind]
    cases d.tru with
    | none => rfl
    | some v => cases v <;> rfl
  | exn x s1 => rfl
  | bad => rfl
/-- if -/
theorem s_if {a b : List Stmt} {ma mb : List Sm} (hc : PT X e (RT (gOf X G c) Wx me)) (ha : PSs X a (RS (gOf X G c) O0 Hb Wx ma)) (hb : PSs X b (RS (gOf X G c) O0 Hb Wx mb)) : PS X (.If e a b pos) (RS (gOf X G c) O0 Hb Wx [.iff me ma mb]) := by
  refine ps_imp (ps_if hc ha hb) fun D σ H q => ?_
  obtain ⟨O, s, x0, k, p⟩ := q
  rw [exs_one, ex_iff] at p
  refine ⟨O, s, k, (PostX.ofR (rel := IsB) x0 p).imp fun v H1 ⟨O1, d, s1, e1, x1, k1, i1, p1⟩ => ?_⟩
  cases (show v = d from i1)
  cases v with
  | true => exact ⟨O1, s1, x1, k1, p1⟩
  | false => exact ⟨O1, s1, x1, k1, p1⟩
def popX (G : Glob) (c : Oracle) (i : Nat) (x y : List Sm) (d : D) (s : Ft.St) : Ft.X := match s.env[i]?, d with
      | some (.ol xs), .int n => (match xs[xs.length - 1]? with
        | some (.int m) => if n = m + 1 then exs G c y (s.set i (.ol xs.dropLast)) else exs G c x (s.set i (.ol xs.dropLast))
        | _ => .bad)
      | _, _ => .bad
theorem ex_ifPop {ma mb : E} (x y : List Sm) (s : Ft.St) : ex G c (.ifPop ma mb i x y) s = Ft.X.ofR (evb G c ma s) fun v s => if v then exs G c x s else Ft.X.ofR (ev G c mb s) (popX G c i x y) := by
  rw [ex]
  unfold evb
  cases ev G c ma s with
  | ok d s1 =>
    simp only [Ft.X.ofR, R.bind]
    cases d.tru with
    | none => rfl
    | some v => cases v <;> rfl
  | exn x s1 => rfl
  | bad => rfl
/-- if a or b != x.pop() + 1 -/
theorem s_ifPop {a b : Expr} {ma mb : E} {x : Str} {p ap cp p3 p4 p5 p6 : Pos} {ck : Nat} {sx sy : List Stmt} {mx my : List Sm} (hu : X.A.units + 64 < cLine) (ns : ∀ a i, O0 a ≠ some (Own.sl i)) (hi : PE X (.Name x p) (tVar i)) (ha : PT X a (RT (gOf X G c) Wx ma)) (hb : PE X b (RE (gOf X G c) Wx mb))
    (hx : PSs X sx (RS (gOf X G c) O0 Hb Wx mx)) (hy : PSs X sy (RS (gOf X G c) O0 Hb Wx my)) (hl : (ap.endLine == cp.line) = true) :
    PS X (.If (.BoolOp .Or [a, .Compare b [.NotEq] [.BinOp (.Call (.Attribute (.Name x p) "pop" ap) [] [] cp) .Add (.Constant (.int 1) ck p3) p4] p5] p6) sx sy pos) (RS (gOf X G c) O0 Hb Wx [.ifPop ma mb i mx my]) := by
  refine ps_imp (ps_if (PW.pt (pw_or ha (pw_or1 (pt_cmpR (or_ne (G := G) (c := c) hu) hb (pe_op (or_add (G := G) (c := c)) (pe_bm0 PySem.F.plainAttrs_list PySem.F.slot_list_pop PySem.F.type_list_pop mt_pop hi rfl hl) pe_int) rfl)))) hx hy) fun D σ H q => ?_
  obtain ⟨O, s, x0, k, p⟩ := q
  rw [exs_one, ex_ifPop] at p
  refine ⟨O, s, k, (PostX.ofR (rel := IsB) x0 p).imp fun v H1 ⟨O1, d, s1, e1, x1, k1, i1, p1⟩ => ?_⟩
  cases (show v = d from i1)
  cases v with
  | true => exact ⟨O1, s1, x1, k1, p1⟩
  | false =>
    refine ⟨O1, s1, k1, (PostX.ofR (rel := IsD _) x1 p1).imp fun y H2 ⟨O2, d2, s2, e2, x2, k2, i2, p2⟩ => ?_⟩
    unfold popX at p2
    cases hg : s2.env[i]? with
    | none => rw [hg] at p2; cases d2 <;> exact p2.elim
    | some z =>
      rw [hg] at p2
      have sl := k2.slot i z hg
      cases z with
      | ol xs =>
        cases d2 with
        | int n =>
          dsimp only at p2
          cases hlast : xs[xs.length - 1]? with
          | none => rw [hlast] at p2; exact p2.elim
          | some w =>
            rw [hlast] at p2
            cases w with
            | int m =>
              dsimp only at p2
              obtain ⟨a', vs, g1, g2, g3, g4⟩ := sl
              obtain ⟨u, u1, u2⟩ : ∃ u, vs[vs.length - 1]? = some u ∧ Is X.K X.w O2 H2 u (.int m) := by
                rw [g4.len]
                exact g4.get hlast
              cases u2
              cases i2
              have hi2 : i < s2.env.length := (List.getElem?_eq_some_iff.mp hg).1
              have de := own_ext (H := H2) g2 (.lst vs.dropLast)
              have yg := young x2 ns g2
              have k3 := k2.chg hi2 g2 g1 (o := .lst vs.dropLast) (x := .ol xs.dropLast) ⟨a', _, g1, g2, upd_same, (g4.ext de).dropLast⟩
              have x3 := x2.poke (o := .lst vs.dropLast) yg
              refine ⟨_, g1, .inl ⟨rfl, _, SqL.of g3⟩, a', vs, .int m, rfl, rfl, g3, u1, ?_⟩
              refine ⟨O2, .int m, .int 1, .int (m + 1), fun p => k3.fresh, .int m, .int 1, rfl, fun v H' sm iv => ?_⟩
              cases iv
              refine ⟨O2, .int n, .int (m + 1), .bool (!(Ft.D.eqv (.int n) (.int (m + 1)))), fun p hp => (k3.same sm).fresh hp, .int n, .int (m + 1), rfl, fun v2 H'' sm2 iv2 => ?_⟩
              cases iv2
              have sm3 := sm.trans sm2
              have k4 := k3.same sm3
              have x4 : Ext O0 Hb O2 H'' := x3.trans (Ext.same sm3)
              have de4 : DExt O2 H2 O2 H'' := de.trans (Ext.same sm3).data
              refine ⟨_, rfl, ?_⟩
              by_cases e : n = m + 1
              · rw [if_pos e] at p2
                have eb : (!(Ft.D.eqv (.int n) (.int (m + 1)))) = false := by simp [Ft.D.eqv, e]
                rw [eb]
                exact ⟨O2, _, x4, k4, PostX.base p2 de4⟩
              · rw [if_neg e] at p2
                have eb : (!(Ft.D.eqv (.int n) (.int (m + 1)))) = true := by simp [Ft.D.eqv, e]
                rw [eb]
                exact ⟨O2, _, x4, k4, PostX.base p2 de4⟩
            | _ => exact p2.elim
        | _ => exact p2.elim
      | _ => cases d2 <;> exact p2.elim
end
end Ft
set_option Elab.async false
set_option linter.all false
set_option maxRecDepth 100000
set_option maxHeartbeats 4000000
namespace Ft
open PySem PyProof.Rows L2
section
variable {X : Cx} {G : Glob} {c : Oracle} {O0 : Ow} {Hb : Hp} {Wx : WX} {e : Expr} {me mr mk : E} {i : Nat} {pos : Pos}
/-- x.f = e -/
theorem s_setA {st : Stmt} {k f : Str} {C : Addr} (hk : X.mg k = some (.ref C)) (hC : Cls X.K C) (hn : NoAttr X.K C f) (h : PS X st (sFld X.K (tVar i) (RE (gOf X G c) Wx me) f)) : PS X st (RS (gOf X G c) O0 Hb Wx [.setA (tx k) i (tx f) me]) := by
  refine ps_imp h fun D σ H q => ?_
  obtain ⟨O, s, x0, kk, p⟩ := q
  rw [exs_one, ex] at p
  refine ⟨O, s, kk, (PostX.ofR (rel := IsD _) x0 p).imp fun v H1 ⟨O1, d, s1, e1, x1, k1, i1, p1⟩ => ?_⟩
  cases hg : s1.get i with
  | none => rw [hg] at p1; exact p1.elim
  | some y =>
    rw [hg] at p1
    obtain ⟨u, h1, h2⟩ := k1.get hg
    dsimp only at p1
    cases e : s1.obj (tx k) y with
    | none => rw [e] at p1; exact p1.elim
    | some q =>
      obtain ⟨j, fs⟩ := q
      rw [e] at p1
      obtain ⟨rfl, hc⟩ := obj_of e
      obtain ⟨a', rfl, o1, C', dx, us, m1, g1, l1⟩ := k1.at_ h2 hc
      have : C' = C := by
        have m1 : X.mg (tS (tx k)) = some (.ref C') := m1
        rw [tS_tx0, hk] at m1
        cases m1; rfl
      subst this
      dsimp only at p1
      split at p1
      · rename_i hl
        refine ⟨_, h1, a', C', dx, us, rfl, g1, hC, hn, by rw [l1.len]; exact hl, ?_⟩
        have de : DExt O1 H1 O1 (upd H1 a' (.ins C' dx (L2.putF f v us))) := (Ext.put (i := j) Ext.refl o1).data
        refine p1 O1 σ _ (x1.put o1) de (k1.put o1 fun ex => ⟨C', dx, _, m1, upd_same, ?_⟩)
        have := IsF.put (f := tx f) (Is.ext ex i1) (l1.ext ex)
        rw [tS_tx0] at this
        exact this
      · exact p1.elim
/-- x.f += e, x.f -= e -/
theorem s_augA {st : Stmt} {k f : Str} {C : Addr} {o : O2} {fi : Int → Int → Int} {rd : V → V → Hp → VK → Prop} (hrd : ∀ m n H Q, Q (.int (fi m n)) H → rd (.int m) (.int n) H Q) (hf : ∀ m n, (match o with | .add => some (m + n) | .sub => some (m - n) | _ => none : Option Int) = some (fi m n)) (hk : X.mg k = some (.ref C)) (hC : Cls X.K C) (hn : NoAttr X.K C f)
    (h : PS X st (sFldAug X.K (tVar i) (RE (gOf X G c) Wx me) rd f)) : PS X st (RS (gOf X G c) O0 Hb Wx [.augA (tx k) i (tx f) o me]) := by
  refine ps_imp h fun D σ H q => ?_
  obtain ⟨O, s, x0, kk, p⟩ := q
  rw [exs_one, ex] at p
  cases hg : s.get i with
  | none => rw [hg] at p; exact p.elim
  | some y =>
    rw [hg] at p
    obtain ⟨u, h1, h2⟩ := kk.get hg
    dsimp only at p
    cases e : s.obj (tx k) y with
    | none => rw [e] at p; exact p.elim
    | some q =>
      obtain ⟨j, fs⟩ := q
      rw [e] at p
      dsimp only at p
      cases ef : fget fs (tx f) with
      | none => rw [ef] at p; exact p.elim
      | some z =>
        rw [ef] at p
        cases z <;> first | exact p.elim | skip
        rename_i m
        obtain ⟨rfl, hc⟩ := obj_of e
        obtain ⟨a', rfl, o1, C', dx, us, m1, g1, l1⟩ := kk.at_ h2 hc
        have : C' = C := by
          have m1 : X.mg (tS (tx k)) = some (.ref C') := m1
          rw [tS_tx0, hk] at m1
          cases m1; rfl
        subst this
        obtain ⟨w, w1, w2⟩ := l1.get ef
        rw [tS_tx0] at w1
        cases w2
        refine ⟨_, h1, a', C', dx, us, _, rfl, g1, hC, hn, w1, O, s, kk, (PostX.ofR (rel := IsD _) x0 p).imp fun v H1 ⟨O1, d, s1, e1, x1, k1, i1, p1⟩ => ?_⟩
        cases e2 : s1.obj (tx k) (.loc j) with
        | none => rw [e2] at p1; cases d <;> exact p1.elim
        | some q =>
          obtain ⟨j', fs'⟩ := q
          rw [e2] at p1
          cases d <;> first | exact p1.elim | skip
          rename_i n
          cases i1
          obtain ⟨ej, hc2⟩ := obj_of e2
          cases ej
          obtain ⟨a2, ea, o2, C2, dx2, us2, m2, g2, l2⟩ := k1.at_ (Is.ext e1.data h2) hc2
          cases ea
          have : C2 = C' := by
            have m2 : X.mg (tS (tx k)) = some (.ref C2) := m2
            rw [tS_tx0, hk] at m2
            cases m2; rfl
          subst this
          dsimp only at p1
          split at p1
          · rename_i hl
            refine hrd _ _ _ _ ⟨dx2, us2, g2, by rw [l2.len]; exact hl, ?_⟩
            have de : DExt O1 H1 O1 (upd H1 a' (.ins C2 dx2 (L2.putF f (.int (fi m n)) us2))) := (Ext.put (i := j) Ext.refl o2).data
            have fin : PostX (gOf X G c) O0 Hb Wx O1 H1 (.nx (s1.put j (.obj (tx k) (fput (tx f) (.int (fi m n)) fs')))) D := by
              have := hf m n
              cases o <;> simp at this <;> (rw [← this]; exact p1)
            refine fin O1 σ _ (x1.put o2) de (k1.put o2 fun ex => ⟨C2, dx2, _, m2, upd_same, ?_⟩)
            have := IsF.put (f := tx f) (Is.int (K := X.K) (w := X.w) (O := O1) (H := upd H1 a' (.ins C2 dx2 (L2.putF f (.int (fi m n)) us2))) (fi m n)) (l2.ext ex)
            rw [tS_tx0] at this
            exact this
          · exact p1.elim
/-- r.append(e) -/
theorem s_hApp {st : Stmt} (h : PS X st (tDrop (tBM X.K "list" rAppend (RE (gOf X G c) Wx mr) (tCons (RE (gOf X G c) Wx me) tNil)))) : PS X st (RS (gOf X G c) O0 Hb Wx [.hApp mr me]) := by
  refine ps_imp h fun D σ H q => ?_
  obtain ⟨O, s, x0, k, p⟩ := q
  rw [exs_one, ex] at p
  refine ⟨O, s, k, (PostX.ofR (rel := IsD _) x0 p).imp fun x H1 ⟨O1, d, s1, e1, x1, k1, i1, p1⟩ => ?_⟩
  cases e : s1.cell d with
  | none => rw [e] at p1; exact p1.elim
  | some q =>
    obtain ⟨j, cl⟩ := q
    rw [e] at p1
    cases cl <;> first | exact p1.elim | skip
    obtain ⟨rfl, hc⟩ := cell_of e
    obtain ⟨a', rfl, o1, vs, g1, l1⟩ := k1.at_ i1 hc
    refine ⟨.inl ⟨rfl, _, SqL.of g1⟩, O1, s1, k1, (PostX.ofR (rel := IsD _) x1 p1).imp fun y H2 ⟨O2, d2, s2, e2, x2, k2, i2, p2⟩ => ?_⟩
    cases e' : s2.cell (.loc j) with
    | none => rw [e'] at p2; exact p2.elim
    | some q =>
      obtain ⟨j', cl⟩ := q
      rw [e'] at p2
      cases cl <;> first | exact p2.elim | skip
      rename_i xs
      obtain ⟨ej, hc2⟩ := cell_of e'
      cases ej
      obtain ⟨a2, ea, o2, vs2, g2, l2⟩ := k2.at_ (Is.ext e2.data i1) hc2
      cases ea
      dsimp only at p2
      split at p2
      · rename_i hlen
        refine ⟨a', vs2, y, rfl, rfl, g2, by rw [l2.len]; exact Nat.lt_of_lt_of_le hlen lim_line, ?_⟩
        have de : DExt O2 H2 O2 (upd H2 a' (.lst (vs2 ++ [y]))) := (Ext.put (i := j) Ext.refl o2).data
        exact p2 O2 σ _ (x2.put o2) de (k2.put o2 fun ex => ⟨_, upd_same, IsL.append (l2.ext ex) (.cons (Is.ext ex i2) .nil)⟩)
      · exact p2.elim
/-- r[k] = e -/
theorem s_hSet {st : Stmt} (h1 : PS X st (tAsg (RE (gOf X G c) Wx me) (gSub (RE (gOf X G c) Wx mr) (RE (gOf X G c) Wx mk) rSetB))) : PS X st (RS (gOf X G c) O0 Hb Wx [.hSet mr mk me]) := by
  refine ps_imp h1 fun D σ H q => ?_
  obtain ⟨O, s, x0, k, p⟩ := q
  rw [exs_one, ex] at p
  refine ⟨O, s, k, (PostX.ofR (rel := IsD _) x0 p).imp fun v H1 ⟨O1, d, s1, e1, x1, k1, i1, p1⟩ => ?_⟩
  refine ⟨O1, s1, k1, (PostX.ofR (rel := IsD _) x1 p1).imp fun x H2 ⟨O2, d2, s2, e2, x2, k2, i2, p2⟩ => ?_⟩
  cases e : s2.cell d2 with
  | none => rw [e] at p2; exact p2.elim
  | some q =>
    rw [e] at p2
    refine ⟨O2, s2, k2, (PostX.ofR (rel := IsD _) x2 p2).imp fun y H3 ⟨O3, d3, s3, e3, x3, k3, i3, p3⟩ => ?_⟩
    cases e' : s3.cell d2 with
    | none => rw [e'] at p3; exact p3.elim
    | some q =>
      obtain ⟨j, cl⟩ := q
      rw [e'] at p3
      obtain ⟨rfl, hc⟩ := cell_of e'
      obtain ⟨a', rfl, o1, ck⟩ := k3.at_ (Is.ext e3.data i2) hc
      have iv := Is.ext (e2.trans e3).data i1
      cases cl with
      | obj _ _ => exact p3.elim
      | lst xs =>
        obtain ⟨vs, g1, l1⟩ := ck
        cases d3 <;> first | exact p3.elim | skip
        rename_i n
        dsimp only at p3
        cases hix : ix xs.length n with
        | none => rw [hix] at p3; exact p3.elim
        | some jj =>
          rw [hix] at p3
          cases i3
          refine .inl ⟨a', vs, n, jj, rfl, rfl, g1, by rw [ix_eq, l1.len]; exact hix, ?_⟩
          have de : DExt O3 H3 O3 (upd H3 a' (.lst (vs.set jj v))) := (Ext.put (i := j) Ext.refl o1).data
          exact p3 O3 σ _ (x3.put o1) de (k3.put o1 fun ex => ⟨_, upd_same, IsL.set (Is.ext ex iv) jj (l1.ext ex)⟩)
      | dct xs =>
        obtain ⟨vs, g1, l1⟩ := ck
        dsimp only at p3
        cases hk : ky d3 with
        | none => rw [hk] at p3; exact p3.elim
        | some kq =>
          rw [hk] at p3
          dsimp only at p3
          split at p3
          · rename_i hlen
            have key := i3.key hk
            subst key
            refine .inr ⟨a', _, rfl, DPut.k (k := kK kq) (v := v) g1 (by rw [IsK.len l1]; exact Nat.lt_of_lt_of_le hlen lim_line), ?_⟩
            have de : DExt O3 H3 O3 (upd H3 a' (.dK (L2.putK vs (kK kq) v))) := (Ext.put (i := j) Ext.refl o1).data
            exact p3 O3 σ _ (x3.put o1) de (k3.put o1 fun ex => ⟨_, upd_same, IsK.put kq (Is.ext ex iv) (l1.ext ex)⟩)
          · exact p3.elim
theorem get_list : PGet X (rIxL X.K) := by
  intro pins s σ H o i ov iv Q I ro ri h
  obtain ⟨p, xs, i, z, rfl, rfl, hq, he, q⟩ := h
  cases ro
  obtain ⟨t, rfl⟩ := ri
  obtain ⟨its, r, pl, hz⟩ := I.list hq
  obtain ⟨j, h1, h2, h3, h4, h5⟩ := atI_get he
  obtain ⟨w, ew, rw'⟩ := r.get h2
  have hl := r.length
  have hn := line63
  have fin : EP X pins σ Q w s := ⟨z, H, I, rw', q⟩
  by_cases h0 : 0 ≤ i
  · have hj : i.toNat = j := by
      rw [seqIndex_of h0 h5] at h1
      exact Option.some.inj h1
    exact wpAny_getItem_list pl.isList h0 (by omega) (by rw [hj]; simpa using ew) fin
  · have hj : (i + (its.toArray.size : Int)).toNat = j := by
      rw [seqIndex_neg (by omega) h4] at h1
      rw [List.size_toArray, ← hl]
      exact Option.some.inj h1
    exact wpAny_getItem_list_neg (Q := EP X pins σ Q) pl.isList (by omega) (by rw [List.size_toArray] <;> omega) (by omega) (by rw [hj]; simpa using ew) fin
theorem s_hAug {st : Stmt} (h1 : PS X st (tAugS (RE (gOf X G c) Wx mr) (RE (gOf X G c) Wx mk) (RE (gOf X G c) Wx me) (rIxL X.K) (ipI fun i j => i + j) rSetB)) : PS X st (RS (gOf X G c) O0 Hb Wx [.hAug mr mk me]) := by
  refine ps_imp h1 fun D σ H q => ?_
  obtain ⟨O, s, x0, k, p⟩ := q
  rw [exs_one, ex] at p
  refine ⟨O, s, k, (PostX.ofR (rel := IsD _) x0 p).imp fun v H1 ⟨O1, d, s1, e1, x1, k1, i1, p1⟩ => ?_⟩
  cases e : s1.cell d with
  | none => rw [e] at p1; exact p1.elim
  | some q =>
    rw [e] at p1
    refine ⟨O1, s1, k1, (PostX.ofR (rel := IsD _) x1 p1).imp fun x H2 ⟨O2, d2, s2, e2, x2, k2, i2, p2⟩ => ?_⟩
    cases e' : s2.cell d with
    | none => rw [e'] at p2; exact p2.elim
    | some q =>
      obtain ⟨j, cl⟩ := q
      rw [e'] at p2
      obtain ⟨rfl, hc⟩ := cell_of e'
      obtain ⟨a', rfl, o1, ck⟩ := k2.at_ (Is.ext e2.data i1) hc
      cases cl <;> first | exact p2.elim | skip
      rename_i xs
      obtain ⟨vs, g1, l1⟩ := ck
      cases d2 <;> first | exact p2.elim | skip
      rename_i n
      dsimp only at p2
      cases hat : at? xs n with
      | none => rw [hat] at p2; exact p2.elim
      | some dd =>
        rw [hat] at p2
        cases dd <;> first | exact p2.elim | skip
        rename_i m
        dsimp only at p2
        cases i2
        obtain ⟨y, hy, iy⟩ := l1.at hat
        cases iy
        refine ⟨a', vs, n, .int m, rfl, rfl, SqL.of g1, hy, O2, s2, k2, (PostX.ofR (rel := IsD _) x2 p2).imp fun z H3 ⟨O3, d3, s3, e3, x3, k3, i3, p3⟩ => ?_⟩
        cases e'' : s3.cell (.loc j) with
        | none => rw [e''] at p3; exact p3.elim
        | some q =>
          obtain ⟨j', cl⟩ := q
          rw [e''] at p3
          obtain ⟨hj, hc3⟩ := cell_of e''
          cases hj
          obtain ⟨a2, ea, o3, ck3⟩ := k3.at_ (Is.ext (e2.trans e3).data i1) hc3
          cases ea
          cases cl <;> first | exact p3.elim | skip
          rename_i ys
          obtain ⟨us, g3, l3⟩ := ck3
          cases d3 <;> first | exact p3.elim | skip
          rename_i m'
          cases i3
          dsimp only at p3
          cases hix : ix ys.length n with
          | none => rw [hix] at p3; exact p3.elim
          | some jj =>
            rw [hix] at p3
            refine ⟨m, m', rfl, rfl, .inl ⟨a', us, n, jj, rfl, rfl, g3, by rw [ix_eq, l3.len]; exact hix, ?_⟩⟩
            have de : DExt O3 H3 O3 (upd H3 a' (.lst (us.set jj (.int (m + m'))))) := (Ext.put (i := j) Ext.refl o3).data
            exact p3 O3 σ _ (x3.put o3) de (k3.put o3 fun ex => ⟨_, upd_same, IsL.set (.int _) jj (l3.ext ex)⟩)
end
end Ft
set_option Elab.async false
set_option linter.all false
set_option maxRecDepth 100000
set_option maxHeartbeats 4000000
namespace Ft
open PySem PyProof.Rows L2
/-- one turn of a for -/
def turnF (G : Glob) (c : Oracle) (tg : List Nat) (body : List Sm) : D → Ft.St → X := fun x s => match setT s tg x with
  | some s => exs G c body s
  | Option.none => .bad
theorem ex_forr (G : Glob) (c : Oracle) (k : Ft.It) (src : List E) (tg : List Nat) (body : List Sm) (s : Ft.St) : ex G c (.forr k src tg body) s = X.ofR (evI G c k src s) fun its s => forL (turnF G c tg body) its s := by
  rw [ex]
  unfold evI
  cases evs G c src s with
  | ok ds s1 =>
    simp only [X.ofR, R.bind]
    cases items k ds <;> rfl
  | exn x s1 => rfl
  | bad => rfl
theorem ex_whil (G : Glob) (c : Oracle) (e : E) (body : List Sm) (s : Ft.St) : ex G c (.whil e body) s = whileL (evb G c e) (exs G c body) LIM s := by
  rw [ex]
  rfl
section
variable {Xc : Cx} {G : Glob} {c : Oracle} {O0 : Ow} {Hb : Hp} {Wx : WX} {e : Expr} {me : E} {pos : Pos}
theorem s_for {k : Ft.It} {src : List E} {tg : List Nat} {body : List Stmt} {mb : List Sm} {tgE iter : Expr} (hp : PassesOwn (model Xc.prog Xc.w) Xc.A Xc.env Xc.xe) (hc : Xc.calm = true) (hi : PI Xc tgE iter (RI (gOf Xc G c) Wx k src)) (hg : PG Xc tgE (tgR Xc.K tg)) (hb : PSs Xc body (RS (gOf Xc G c) O0 Hb Wx mb)) (hpl : pl iter = true) :
    PS Xc (.For tgE iter body [] pos) (RS (gOf Xc G c) O0 Hb Wx [.forr k src tg mb]) := by
  refine ps_imp (ps_for hp hc hi hg hb (pl_fold hpl _)) fun D σ H q => ?_
  obtain ⟨O, s, x0, kk, p⟩ := q
  rw [exs_one, ex_forr] at p
  refine ⟨O, s, kk, (PostX.ofR (rel := IsI _) x0 p).imp fun J H1 ⟨O1, its, s1, e1, x1, k1, wk, p1⟩ => ?_⟩
  refine ⟨fun i m σ H2 => ∃ O2 s2, Ext O0 Hb O2 H2 ∧ DExt O1 H1 O2 H2 ∧ Ok (gOf Xc G c) O2 σ H2 s2 ∧ m = its.length - i ∧ PostX (gOf Xc G c) O0 Hb Wx O1 H1 (forL (turnF (gOf Xc G c).G (gOf Xc G c).c tg mb) (its.drop i) s2) D, ⟨its.length, O1, s1, x1, DExt.refl, k1, rfl, p1⟩, ?_⟩
  rintro i m σ2 H2 ⟨O2, s2, x2, d2, k2, rfl, p2⟩
  have fr2 : ∀ p, H2 p = Option.none → O2 p = Option.none := fun p => k2.fresh
  have wki := wk O2 H2 d2 fr2 i
  cases hi : its[i]? with
  | none =>
    refine .inl ⟨wki.2 hi, ?_⟩
    rw [List.drop_eq_nil_of_le (List.getElem?_eq_none_iff.mp hi), forL] at p2
    exact p2 O2 σ2 H2 x2 d2 k2
  | some d =>
    have hlt : i < its.length := (List.getElem?_eq_some_iff.mp hi).1
    obtain ⟨hgo, hy⟩ := wki.1 d hi
    have hdrop : its.drop i = d :: its.drop (i + 1) := by
      rw [List.drop_eq_getElem_cons hlt]
      congr 1
      exact (List.getElem?_eq_some_iff.mp hi).2
    rw [hdrop, forL] at p2
    refine .inr ⟨hgo, fun σ' H' => ∃ m', m' < its.length - i ∧ ∃ O2 s2, Ext O0 Hb O2 H' ∧ DExt O1 H1 O2 H' ∧ Ok (gOf Xc G c) O2 σ' H' s2 ∧ m' = its.length - (i + 1) ∧ PostX (gOf Xc G c) O0 Hb Wx O1 H1 (forL (turnF (gOf Xc G c).G (gOf Xc G c).c tg mb) (its.drop (i + 1)) s2) D, fun σ' H' h => h, fun x H3 hx => ?_⟩
    obtain ⟨sm, iv⟩ := hy x H3 hx
    have k3 := k2.same sm
    cases hs : setT s2 tg d with
    | none =>
      have : turnF (gOf Xc G c).G (gOf Xc G c).c tg mb d s2 = .bad := by unfold turnF; rw [hs]
      rw [this] at p2
      exact p2.elim
    | some s3 =>
      have ht : turnF (gOf Xc G c).G (gOf Xc G c).c tg mb d s2 = exs (gOf Xc G c).G (gOf Xc G c).c mb s3 := by unfold turnF; rw [hs]
      rw [ht] at p2
      refine tgR_imp (setT_ok k3 iv hs) ?_
      rintro σ3 H3' ⟨rfl, ok3, _⟩
      have sd : DExt O2 H2 O2 H3' := (Ext.same (O := O2) sm).data
      refine ⟨O2, s3, x2.trans (Ext.same sm), ok3, ?_⟩
      have p3 := PostX.base p2 (d2.trans sd)
      revert p2 p3
      cases exs (gOf Xc G c).G (gOf Xc G c).c mb s3 with
      | nx s4 =>
        intro p2 p3 O4 σ4 H4 a1 a2 a3
        exact ⟨its.length - (i + 1), by omega, O4, s4, a1, (d2.trans sd).trans a2, a3, rfl, p2⟩
      | rt dd f s4 => exact fun p2 p3 => p3
      | exn x s4 => exact fun p2 p3 => p3
      | bad => exact fun p2 p3 => p3
theorem s_while {body : List Stmt} {mb : List Sm} (hp : PassesOwn (model Xc.prog Xc.w) Xc.A Xc.env Xc.xe) (hc : PT Xc e (RT (gOf Xc G c) Wx me)) (hb : PSs Xc body (RS (gOf Xc G c) O0 Hb Wx mb)) : PS Xc (.While e body [] pos) (RS (gOf Xc G c) O0 Hb Wx [.whil me mb]) := by
  refine ps_imp (ps_while hp hc hb) fun D σ H q => ?_
  obtain ⟨O, s, x0, kk, p⟩ := q
  rw [exs_one, ex_whil] at p
  refine ⟨fun m σ H2 => ∃ O2 s2, Ext O0 Hb O2 H2 ∧ Ok (gOf Xc G c) O2 σ H2 s2 ∧ PostX (gOf Xc G c) O0 Hb Wx O2 H2 (whileL (evb (gOf Xc G c).G (gOf Xc G c).c me) (exs (gOf Xc G c).G (gOf Xc G c).c mb) m s2) D, ⟨LIM, O, s, x0, kk, p⟩, ?_⟩
  rintro m σ2 H2 ⟨O2, s2, x2, k2, p2⟩
  cases m with
  | zero => exact p2.elim
  | succ m =>
    rw [whileL] at p2
    refine ⟨O2, s2, k2, (PostX.ofR (rel := IsB) x2 p2).imp fun v H3 ⟨O3, v', s3, e3, x3, k3, i3, p3⟩ => ?_⟩
    cases (show v = v' from i3)
    cases v with
    | false => exact p3 O3 σ2 H3 x3 DExt.refl k3
    | true =>
      simp only [if_true] at p3 ⊢
      refine ⟨fun σ' H' => ∃ m', m' < m + 1 ∧ ∃ O2 s2, Ext O0 Hb O2 H' ∧ Ok (gOf Xc G c) O2 σ' H' s2 ∧ PostX (gOf Xc G c) O0 Hb Wx O2 H' (whileL (evb (gOf Xc G c).G (gOf Xc G c).c me) (exs (gOf Xc G c).G (gOf Xc G c).c mb) m' s2) D, fun σ' H' h => h, O3, s3, x3, k3, ?_⟩
      revert p3
      cases exs (gOf Xc G c).G (gOf Xc G c).c mb s3 with
      | nx s4 => exact fun p3 O4 σ4 H4 a1 a2 a3 => ⟨m, Nat.lt_succ_self m, O4, s4, a1, a3, PostX.base p3 a2⟩
      | rt dd f s4 => exact fun p3 => p3
      | exn x s4 => exact fun p3 => p3
      | bad => exact fun p3 => p3
/-- raise X("..") -/
theorem s_raise {x : Str} {C : Addr} {st : Stmt} (hm : Xc.mg x = some (.ref C)) (h : PS Xc st (fun _ σ H => Wx (.ref C) none σ H)) : PS Xc st (RS (gOf Xc G c) O0 Hb Wx [.rais (tx x)]) := by
  refine ps_imp h fun D σ H q => ?_
  obtain ⟨O, s, x0, kk, p⟩ := q
  rw [exs_one, ex] at p
  exact p O σ H (.ref C) none x0 DExt.refl kk ⟨C, by rw [tS_tx]; exact hm, rfl, rfl⟩
theorem s_exq (h : PS Xc (.Expr e pos) (tDrop (RE (gOf Xc G c) Wx me))) : PS Xc (.Expr e pos) (RS (gOf Xc G c) O0 Hb Wx [.exq me]) := by
  refine ps_imp h fun D σ H q => ?_
  obtain ⟨O, s, x0, kk, p⟩ := q
  rw [exs_one, ex] at p
  refine ⟨O, s, kk, (PostX.ofR (rel := IsD _) x0 p).imp fun v H1 ⟨O1, d, s1, e1, x1, k1, i1, p1⟩ => ?_⟩
  exact p1 O1 σ H1 x1 DExt.refl k1
/-- the clauses' forms -/
inductive HR (g : Gw) (O0 : Ow) (Hb : Hp) (Wx : WX) (known : List Tx) : List (Value × (Addr → Value → Option Addr → TS)) → List Sm → Prop
  | nil : HR g O0 Hb Wx known [] []
  | cons {h : Tx} {Ch : Addr} {b : List Sm} {l : List (Value × (Addr → Value → Option Addr → TS))} {ms : List Sm} (hs : ∀ x ∈ known, ∀ C, g.mg (tS x) = some (.ref C) → PySem.W.exmOne g.K (.ref C) (.ref Ch) = some (subT x h)) (r : HR g O0 Hb Wx known l ms) :
      HR g O0 Hb Wx known ((.ref Ch, fun _ _ _ => RS g O0 Hb Wx b) :: l) (.hnd h b :: ms)
theorem hr_many {g : Gw} {known : List Tx} {D : Ends} {x : Exn} {C : Addr} {O' : Ow} {σ' : L2.St} {H' : Hp} {s' : Ft.St} (hm : g.mg (tS x.cls) = some (.ref C)) (hx : x.cls ∈ known) {dd : Option Addr} (ha : ExnAt x.at_ dd H') (e1 : Ext O0 Hb O' H') (k : Ok g O' σ' H' s') :
    ∀ {l : List (Value × (Addr → Value → Option Addr → TS))} {ms : List Sm}, HR g O0 Hb Wx known l ms → PostX g O0 Hb Wx O' H' (exh g.G g.c x ms s') D → wMany g.K Wx D l (.ref C) dd σ' H'
  | _, _, .nil, p => by
    rw [exh] at p
    exact p O' σ' H' (.ref C) dd e1 DExt.refl k ⟨C, hm, rfl, ha⟩
  | _, _, .cons hs r, p => by
    rw [exh] at p
    refine ⟨_, hs x.cls hx C hm, fun hb a na => ?_, fun hb => ?_⟩
    · rw [hb] at p
      exact ⟨O', s', e1, k, p⟩
    · rw [hb] at p
      exact hr_many hm hx ha e1 k r p
theorem s_try {body : List Stmt} {mb ms : List Sm} {known : List Tx} {h₀ : ExceptHandler} {hds : List ExceptHandler} {l : List (Value × (Addr → Value → Option Addr → TS))} (hstk : Xc.stack = Xc.env :: Xc.outer) (hfr : Xc.env.frame = some Xc.env.locals) (tk : Takes Xc Wx)
    (hb : ∀ (W : WX) (pn : List (Addr × Obj)) (xe : Value → Shared → Prop), Takes (Xc.tr pn xe) W → PassesOwn (model Xc.prog Xc.w) Xc.A Xc.env xe → PSs (Xc.tr pn xe) body (RS (gOf Xc G c) O0 Hb W mb))
    (hh : HdsOk Xc (h₀ :: hds) l) (hr : HR (gOf Xc G c) O0 Hb Wx known l ms) : PS Xc (.Try body (h₀ :: hds) [] [] pos) (RS (gOf Xc G c) O0 Hb Wx [.tryy known mb ms]) := by
  refine ps_imp (ps_try_many (tb := fun W => RS (gOf Xc G c) O0 Hb W mb) hstk hfr tk hb hh) fun D σ H q => ?_
  obtain ⟨O, s, x0, kk, p⟩ := q
  rw [exs_one, ex] at p
  refine ⟨O, s, x0, kk, ?_⟩
  revert p
  cases exs (gOf Xc G c).G (gOf Xc G c).c mb s with
  | nx s1 => exact fun p => p
  | rt d f s1 => exact fun p => p
  | bad => exact fun p => p
  | exn x s1 =>
    intro p O' σ' H' cls dd e1 d1 k1 i1
    obtain ⟨C, hm, rfl, ha⟩ := i1
    dsimp only at p
    split at p
    · rename_i hx
      exact hr_many hm hx ha e1 k1 hr (PostX.base p d1)
    · exact p.elim
theorem s_stuck {st : Stmt} : PS Xc st (RS (gOf Xc G c) O0 Hb Wx [.stuck]) := by
  refine ps_imp ps_never fun D σ H q => ?_
  obtain ⟨O, s, x0, kk, p⟩ := q
  rw [exs_one, ex] at p
  exact p.elim
end
/-! ### statements into the interpreter's form -/
def noComp : Expr → Bool
  | .ListComp _ _ _ _ => false
  | .SetComp _ _ _ _ => false
  | .DictComp _ _ _ _ _ => false
  | _ => true
theorem noComp_sw {e : Expr} (h : noComp e = true) (t : Option Expr) (l : Nat) (env : Env) : swapsWith e t l env = pure false := by
  cases e <;> first | rfl | cases h
def isDisp : Expr → Bool
  | .List _ _ => true
  | .Dict [] [] _ => true
  | _ => false
def cBody (r : Stmt → Option (List Sm)) : List Stmt → Option (List Sm)
  | [] => some []
  | st :: rest => match r st, cBody r rest with
    | some a, some b => some (a ++ b)
    | _, _ => none
def cComp : Nat → CC → Expr → Option E
  | 0, _, _ => none
  | n + 1, C, e => cStep (cE n) C e
/-- no slice -/
def sIxOk : Expr → Bool
  | .Slice _ _ _ _ => false
  | _ => true
/-- those that are changed become data -/
def shares (C : CC) : List Str → List Sm
  | [] => []
  | x :: r => match C.var x with
    | some i => .share i :: shares C r
    | none => shares C r
/-- constants and names -/
def cK (C : CC) : Expr → Option E
  | .Name x _ => (C.var x).map .var
  | .Constant .none _ _ => some (.cst .none)
  | .Constant (.bool b) _ _ => some (.cst (.bool b))
  | .Constant (.int i) _ _ => some (.cst (.int i))
  | .Constant (.str x) _ _ => some (.cst (.str (tx x)))
  | _ => none
def cSlot (C : CC) (x : Str) : Option Nat := if C.vis x && nmOk x && !C.gl x then ixOf C.N x 0 else none
/-- the statements of an except clause -/
def cU (C : CC) : Stmt → Option (List Sm)
  | .Assign [.Name x p] e pos => if C.chg.contains x then none else (match cSlot C x, cK C e with
    | some i, some m => some [.asg i m]
    | _, _ => none)
  | .AugAssign (.Name x p) .Add e pos => if C.chg.contains x then none else (match cSlot C x, cK C e with
    | some i, some m => some [.aug i .add m]
    | _, _ => none)
  | .Expr (.Call (.Attribute (.Name x p) name ap) [e] [] cp) pos =>
    if name = "append" && (ap.endLine == cp.line) then (match C.var x, cK C e with
      | some i, some m => some [.app i m]
      | _, _ => none) else none
  | .Pass _ => some [.pass]
  | .Raise _ _ _ => some [.stuck]
  | _ => none
def CC.exa (C : CC) : List Str := C.exs ++ C.exi
def cHs (C : CC) : List ExceptHandler → Option (List Sm)
  | [] => some []
  | .ExceptHandler (some (.Name x _)) none (b :: suite) _ :: r => if C.gl x && nmOk x && C.exa.contains x then (match cBody (cU C) (b :: suite), cHs C r with
    | some m, some ms => some (.hnd (tx x) m :: ms)
    | _, _ => none) else none
  | _ => none
/-- some of those that are changed are data by now -/
def CC.less (C : CC) : CC := { C with chg := C.chg.filter fun y => !C.shr.contains y }
/-- a field's new value, in the store for some fields -/
def cArgA (lats : List Str) (r : Expr → Option E) (f : Str) (e : Expr) : Option E :=
  if lats.contains f then (match cBox r e with
    | some m => some m
    | none => r e) else r e
/-- targets, cells too -/
def cTgV (C : CC) : List Expr → Option (List Nat)
  | [] => some []
  | .Name x _ :: r => match (if C.vis x && nmOk x && !C.gl x then ixOf C.N x 0 else none), cTgV C r with
    | some i, some is => some (i :: is)
    | _, _ => none
  | _ => none
def sStep (f : Nat) (C : CC) (r : Stmt → Option (List Sm)) : Stmt → Option (List Sm)
  | .Assign [.Name x p] e pos =>
    match (if C.vis x && nmOk x && !C.gl x then ixOf C.N x 0 else none) with
    | none => none
    | some i =>
      if C.chg.contains x then
        (match e with
        | .List es _ => if es.length ≤ 1000 then (cL (cE f C) es).map fun ms => [.asgO i (.lst ms)] else none
        | .Dict [] [] _ => some [.asgO i .emp]
        | .Call (.Name g _) [a] [] _ => if g = "list" && C.gl g && nmOk g && !C.fns.contains g then (cE f C a).map fun m => [.asgO i (.un .toLst m)] else if g = "dict" && C.gl g && nmOk g && !C.fns.contains g then (cE f C a).map fun m => [.asgO i (.un .toDct m)] else none
        | _ => none)
      else if C.locs.contains x then (cBox (cE f C) e).map fun m => [.asg i m]
      else if noComp e then (cE f (C.less) e).map fun m => shares C C.shr ++ [.asg i m]
      else (match e with
        | .ListComp elt gs scope q => if C.loc x && (p.line == q.line) && !(scope.names.any fun (n, k) => n == x && (k == .local || k == .cell)) then (cComp f C (.ListComp elt gs scope q)).map fun m => [.asg i m] else none
        | _ => none)
  | .Assign [.Subscript a k q] e pos => if noComp e && sIxOk k then (match ownName C a with
    | some i => (match cE f C k, cE f C e with
      | some mk, some me => some [.setI i mk me]
      | _, _ => none)
    | none => if isLoc C a then (match cE f C a, cE f C k, cE f C e with
      | some mr, some mk, some me => some [.hSet mr mk me]
      | _, _, _ => none) else none) else none
  | .Assign [.Attribute (.Name x p) fl q] e pos => match C.vcls.lookup x, C.var x with
    | some k, some i => if C.atts.contains (k, fl) && noComp e then (cArgA C.lats (cE f C) fl e).map fun m => [.setA (tx k) i (tx fl) m] else none
    | _, _ => none
  | .Assign [.Tuple es k p] e pos => if es.length < 2 || !noComp e || isTup e then none else
    (match cTgV C es, cE f C.less e with
    | some own, some m => some (shares C C.shr ++ [.unp own m])
    | _, _ => none)
  | .AugAssign (.Name x p) op e pos =>
    match (if C.vis x && nmOk x && !C.gl x && !C.chg.contains x then ixOf C.N x 0 else none), cE f C e with
    | some i, some m => (match op with
      | .Add => some [.aug i .add m]
      | .Sub => some [.aug i .sub m]
      | _ => none)
    | _, _ => none
  | .AugAssign (.Attribute (.Name x p) fl q) op e pos => match C.vcls.lookup x, C.var x, cE f C e with
    | some k, some i, some m => if C.atts.contains (k, fl) then (match op with
      | .Add => some [.augA (tx k) i (tx fl) .add m]
      | .Sub => some [.augA (tx k) i (tx fl) .sub m]
      | _ => none) else none
    | _, _, _ => none
  | .AugAssign (.Subscript a k q) .Add e pos => if isLoc C a && sIxOk k then (match cE f C a, cE f C k, cE f C e with
      | some mr, some mk, some me => some [.hAug mr mk me]
      | _, _, _ => none) else none
  | .Expr (.Call (.Attribute o name ap) [e] [] cp) pos =>
    if name = "append" then (if ap.endLine == cp.line then (match ownName C o with
      | some i => (cE f C e).map fun m => [.app i m]
      | none => if isLoc C o && abOk o then (match cE f C o, cE f C e with
        | some mr, some m => some [.hApp mr m]
        | _, _ => none) else none) else none)
    else if name = "extend" then (if ap.endLine == cp.line then (match ownName C o with
      | some i => (cE f C e).map fun m => [.ext i m]
      | none => none) else none)
    else (cE f C (.Call (.Attribute o name ap) [e] [] cp)).map fun m => [.exq m]
  | .Expr e _ => if noComp e then (cE f C e).map fun m => [.exq m] else none
  | .If (.BoolOp .Or [a, .Compare b [.NotEq] [.BinOp (.Call (.Attribute (.Name x p) name ap) [] [] cp) .Add (.Constant (.int 1) _ _) _] _] _) sx sy _ =>
    if name = "pop" && C.chg.contains x && tst a && (ap.endLine == cp.line) then (match C.var x, cE f C a, cE f C b, cBody r sx, cBody r sy with
      | some i, some ma, some mb, some mx, some my => some [.ifPop ma mb i mx my]
      | _, _, _, _, _ => none) else none
  | .If e a b _ => if tst e then (match cE f C e, cBody r a, cBody r b with
    | some m, some x, some y => some [.iff m x y]
    | _, _, _ => none) else none
  | .For tg iter body [] _ => match cTg C tg, cI (cE f C) C tg iter, cBody r body with
    | some own, some (k, src), some x => if pl iter then some [.forr k src (own.map (·.2)) x] else none
    | _, _, _ => none
  | .While e body [] _ => if tst e then (match cE f C e, cBody r body with
    | some m, some x => some [.whil m x]
    | _, _ => none) else none
  | .Return none _ => some [.ret (.cst .none)]
  | .Return (some e) _ => (cE f { C with chg := [] } e).map fun m => shares C C.chg ++ [.ret m]
  | .Raise (some (.Call (.Name x p) [.Constant (.str m) k q] [] cp)) none _ => if C.gl x && nmOk x && C.exs.contains x then some [.rais (tx x)] else none
  | .Raise (some (.Call (.Name x p) [a, e] [] cp)) none _ => if C.gl x && nmOk x && C.exi.contains x then (cL (cE f C) [a, e]).map fun ms => [.raiA (tx x) ms] else none
  | .Pass _ => some [.pass]
  | .Try body [.ExceptHandler (some (.Name x _)) (some nm) [.Expr (.Call (.Attribute (.Name y _) name ap) [.Attribute (.Name nm' _) fl _] [] cp) _] _] [] [] _ =>
    if name = "append" && fl = "at" && nm' = nm && (ap.endLine == cp.line) && C.gl x && nmOk x && C.exi.contains x && C.loc nm && nmOk nm then (match cBody r body, C.var y, ixOf C.N nm 0 with
      | some mb, some i, some n => some [.tryAt (C.exa.map tx) mb (tx x) n i]
      | _, _, _ => none) else none
  | .Try body (h :: hs) [] [] _ => match cBody r body, cHs C (h :: hs) with
    | some mb, some ms => some [.tryy (C.exa.map tx) mb ms]
    | _, _ => none
  | _ => none
def orStop (o : Option (List Sm)) : Option (List Sm) := match o with
  | some ms => some ms
  | none => some [.stuck]
def cS : Nat → Nat → CC → Stmt → Option (List Sm)
  | 0, _, _, _ => none
  | n + 1, f, C, st => orStop (sStep f C (cS n f C) st)
end Ft
set_option Elab.async false
set_option linter.all false
set_option maxRecDepth 100000
set_option maxHeartbeats 4000000
/-! an error class with a field: its own __init__ calls that of a class above it -/
namespace L2
open PySem PySem.Spec PyProof.Rows
section
variable {X : Cx} {o e : Expr} {es : List Expr} {to te : TE} {ta : TA} {f : Str} {p p' p1 p2 pos : Pos}
theorem pe_owninit {b : Str} {B : Addr} {mc : Value} {pl : Sem Bool} (hg : Gl X b) (hm : X.mg b = some (.ref B)) (hs : PySem.W.specialIn X.K (.ref B) "__getattribute__" = some (some (.builtin "type.__getattribute__"))) (hr : PySem.W.readsIn X.K B mc = true)
    (vV : PySem.W.findCls X.K (.ref B) mc "__init__" = some (.val (.builtin "ValueError.__init__"))) (ha : PA X (e :: es) ta) (hdb : (b == ("__debug__" : Str)) = false)
    (hc : eval (.Call (.Attribute (.Name b p1) "__init__" p2) (e :: es) [] pos) X.env = (do
      let ov ← eval (.Name b p1) X.env
      standAt p2.atName
      let (f, first) ← holding [ov] (getMethod ov "__init__" pl)
      callWith pos f first (backTo pos (starEach (e :: es) X.env)) (backToKw pos (keywordEach [] X.env))) := by rfl)
    (he : starEach (e :: es) X.env = (false, eval e X.env) :: starEach es X.env := by rfl) (hpl : (backTo pos (starEach es X.env)).any (·.1) = false := by rfl) :
    PE X (.Call (.Attribute (.Name b p1) "__init__" p2) (e :: es) [] pos) (tVeI X.K ta) := by
  refine ⟨fun pins s σ H Q I h => ?_⟩
  refine PySem.W.methodCall_KW (ld_glob I hg hm ?_ hdb) hc
  refine PySem.W.method_cls I.kIn hs (PySem.W.cls_value I.kIn hr vV (by decide +kernel) ?_)
  show wpAny _ _ (callWith pos (Value.builtin "ValueError.__init__") [] (backTo pos (starEach (e :: es) X.env)) []) _ _ _
  refine PyProof.Rows.callWith_method1 (thn (ha.run pos pins _ σ H _ (I.tok _) h) fun us s1 ⟨vs, H1, I1, r1, a, C, ws, ev, hl, T, ea, q⟩ => ?_) he hpl
  subst ev
  cases r1 with
  | @cons _ u0 _ ur ra rw' =>
    obtain rfl : u0 = Value.ref a := ra
    have hlen : ur.length ≤ sizeLine := by
      rw [← Paired.length rw', sizeLine_eq]
      omega
    exact oinit_ok T I1 ea hlen fun s' J => ⟨.non, H1, J, rfl, q⟩
theorem pe_owninit2 {b x y : Str} {B : Addr} {mc : Value} {p3 p4 : Pos} (hg : Gl X b) (hm : X.mg b = some (.ref B)) (hs : PySem.W.specialIn X.K (.ref B) "__getattribute__" = some (some (.builtin "type.__getattribute__"))) (hr : PySem.W.readsIn X.K B mc = true)
    (vV : PySem.W.findCls X.K (.ref B) mc "__init__" = some (.val (.builtin "ValueError.__init__"))) (ha : PA X [.Name x p3, .Name y p4] ta) (hdb : (b == ("__debug__" : Str)) = false) (hl : (p2.endLine == pos.line) = true) :
    PE X (.Call (.Attribute (.Name b p1) "__init__" p2) [.Name x p3, .Name y p4] [] pos) (tVeI X.K ta) := by
  refine pe_owninit (pl := plainOf (.Name b p1) X.env) hg hm hs hr vV ha hdb ?_
  show (do let ov ← eval (.Name b p1) X.env; standAt p2.atName; methodCall (.Name b p1) "__init__" p2 pos X.env ov 2 (backTo pos (starEach [.Name x p3, .Name y p4] X.env)) (backToKw pos (keywordEach [] X.env))) = _
  congr 1
  funext ov
  congr 1
  funext _
  exact mcall_line rfl hl
end
end L2
namespace Ft
open PySem PyProof.Rows L2
/-- what the written part says of a class x of errors with the field at, over b -/
structure ExF (K : PySem.W.Frag) (mg : Str → Option Value) (x b : Str) (C B fI : Addr) : Prop where
  gx : mg x = some (.ref C)
  gb : mg b = some (.ref B)
  oc : OexC K C
  iC : PySem.W.findIn K (.ref C) "__init__" = some (some (.ref fI))
  tI : PySem.W.typeIn K (.ref fI) = some (.type "function")
  na : PySem.W.findIn K (.ref C) "at" = some none
  sB : PySem.W.specialIn K (.ref B) "__getattribute__" = some (some (.builtin "type.__getattribute__"))
  rB : PySem.W.readsIn K B (.type "type") = true
  vB : PySem.W.findCls K (.ref B) (.type "type") "__init__" = some (.val (.builtin "ValueError.__init__"))
  xf : XfC K C
/-- what __init__ does -/
def spInit (K : PySem.W.Frag) : Sp := fun vs H Q _ => ∃ a C v1 v2, vs = [.ref a, v1, v2] ∧ OexC K C ∧ PySem.W.findIn K (.ref C) "at" = some none ∧ H a = some (exo a C none) ∧ ∀ dx, H dx = none → dx ≠ a → Q .non (upd (upd H dx (exd dx [("at", v2)])) a (exo a C (some dx)))
def initB (b : Str) : List Stmt → Bool
  | [.Expr (.Call (.Attribute (.Name x _) m p2) [.Name y _, .Name z _] [] p5) _, .Assign [.Attribute (.Name u _) f _] (.Name v _) _] => decide (x = b) && (decide (m = "__init__") && (decide (y = "self") && (decide (z = "text") && (decide (u = "self") && (decide (f = "at") && (decide (v = "at") && (p2.endLine == p5.line)))))))
  | _ => false
theorem initB_ok {b : Str} {l : List Stmt} (h : initB b l = true) : ∃ p1 p2 p3 p4 p5 p6 p7 p8 p9 p10, (p2.endLine == p5.line) = true ∧ l = [.Expr (.Call (.Attribute (.Name b p1) "__init__" p2) [.Name "self" p3, .Name "text" p4] [] p5) p6, .Assign [.Attribute (.Name "self" p7) "at" p8] (.Name "at" p9) p10] := by
  unfold initB at h
  split at h
  · simp only [Bool.and_eq_true, decide_eq_true_eq] at h
    obtain ⟨rfl, rfl, rfl, rfl, rfl, rfl, rfl, e⟩ := h
    exact ⟨_, _, _, _, _, _, _, _, _, _, e, rfl⟩
  · cases h
/-- the text of such an __init__ -/
structure InitT (st : Stmt) (b : Str) : Prop where
  body : initB b (defBody st) = true
  sc : FnScope ["self", "text", "at"] ["self", "text", "at"] (defScope st)
  gl : (defScope st).names.lookup b = some .globalImplicit
  l0 : (defScope st).names.lookup ("self" : Str) = some .local
  l1 : (defScope st).names.lookup ("text" : Str) = some .local
  l2 : (defScope st).names.lookup ("at" : Str) = some .local
  nm : (b == ("__debug__" : Str)) = false
theorem init_ok {P : Program} {w : World} {K : PySem.W.Frag} {mg : Str → Option Value} {base : Heap} {x b qual : Str} {C B fI : Addr} {st : Stmt} {fd : FuncData} (E : ExF K mg x b C B fI) (F : Fun K "__init__" qual st fI fd) (T : InitT st b) :
    FnOk P w K mg base (L2.CX P w) 1 fI fd ["self", "text", "at"] (spInit K) := by
  refine F.okX (k := 0) T.sc (fun vs H Q E h => ?_) (fun cdv A outer s H vs Q E' hr h => ?_)
  · obtain ⟨a, C, v1, v2, rfl, _⟩ := h
    rfl
  · obtain ⟨a, C', v1, v2, rfl, oc, na, ha, q⟩ := h
    obtain ⟨p1, p2, p3, p4, p5, p6, p7, p8, p9, p10, hl, hb⟩ := initB_ok T.body
    rw [hb]
    have q0 : ∀ pos, PE (cxOf (L2.CX P w) P w K mg base ["self", "text", "at"] qual (defScope st) fI cdv A outer s H E') (.Name "self" pos) (tVar 0) := fun pos => pe_var rfl (.inl T.l0)
    have q1 : ∀ pos, PE (cxOf (L2.CX P w) P w K mg base ["self", "text", "at"] qual (defScope st) fI cdv A outer s H E') (.Name "text" pos) (tVar 1) := fun pos => pe_var rfl (.inl T.l1)
    have q2 : ∀ pos, PE (cxOf (L2.CX P w) P w K mg base ["self", "text", "at"] qual (defScope st) fI cdv A outer s H E') (.Name "at" pos) (tVar 2) := fun pos => pe_var rfl (.inl T.l2)
    refine ⟨_, pss_cons (ps_expr (pe_owninit2 (mc := .type "type") T.gl E.gb E.sB E.rB E.vB (pa_cons (q0 _) (pa_cons (q1 _) pa_nil)) T.nm hl) rfl) (pss_cons (ps_ost (q0 _) (q2 _)) pss_nil), ?_⟩
    refine ⟨.ref a, rfl, v1, rfl, a, C', [v1], rfl, by simp, oc, ha, v2, rfl, .ref a, rfl, a, C', rfl, oc, na, .inl ⟨ha, fun dx n ne => q dx n ne⟩⟩
section
variable {X : Cx} {G : Glob} {c : Oracle} {Wx : WX} {O0 : Ow} {Hb : Hp}
/-- raise X("..", e) -/
theorem s_raiA {x b : Str} {C B fI : Addr} {fd : FuncData} {e : Expr} {es : List Expr} {ms : List E} {p cp pos : Pos} (E : ExF X.K X.mg x b C B fI) (F1 : FnOk X.prog X.w X.K X.mg X.base (L2.CX X.prog X.w) 1 fI fd ["self", "text", "at"] (spInit X.K)) (hr : Room 2 X.A) (hb : Binds X.K fd ["self", "text", "at"] [])
    (hg : Gl X x) (hc : X.calm = true) (tk : Takes X Wx) (hs : PA X (e :: es) (RA (gOf X G c) Wx ms)) (hp : (e :: es).all pl = true) (hdb : (x == ("__debug__" : Str)) = false) :
    PS X (.Raise (some (.Call (.Name x p) (e :: es) [] cp)) none pos) (RS (gOf X G c) O0 Hb Wx [.raiA (tx x) ms]) := by
  simp only [List.all_cons, Bool.and_eq_true] at hp
  refine ps_imp (ps_raise hc tk (pmk_oex E.oc E.iC E.tI F1 hr hb .nil (fun _ _ _ _ _ _ _ h => by obtain ⟨_, _, _, _, _, _, _, _, _, _, _, _, z⟩ := h; exact z.elim) hg E.gx hs hdb (pl_star hp.1 _ _) (pl_stars _ _ hp.2))) fun D σ H q => ?_
  obtain ⟨O, s, x0, kk, p⟩ := q
  rw [exs_one, ex] at p
  refine ⟨O, s, kk, (PostX.ofR (rel := IsDs _) x0 p).imp fun vs H1 ⟨O1, ds, s1, e1, x1, k1, i1, p1⟩ => ?_⟩
  split at p1
  · rename_i t i
    cases i1 with
    | cons a1 r1 =>
      cases r1 with
      | cons a2 r2 =>
        cases r2
        cases a2
        refine ⟨by simp, fun a na => ⟨a, C, _, _, rfl, E.oc, E.na, upd_same, fun dx nd ne => ⟨rfl, dx, [("at", .int i)], upd_same, ?_, ?_, ?_⟩⟩⟩
        · rw [upd_ne ne, upd_same]
        · rw [upd_ne ne] at nd; exact nd
        · have nd1 : H1 dx = none := by rw [upd_ne ne] at nd; exact nd
          have sm : Same H1 (upd (del (upd (upd (upd H1 a (exo a C none)) dx (exd dx [("at", .int i)])) a (exo a C (some dx))) a) dx (.xd [("at", .int i)])) := fun z o hz => by
            have z1 : z ≠ a := fun q => by rw [q, na] at hz; cases hz
            have z2 : z ≠ dx := fun q => by rw [q, nd1] at hz; cases hz
            rw [upd_ne z2, del_ne z1, upd_ne z1, upd_ne z2, upd_ne z1]
            exact hz
          exact p1 O1 σ _ (.ref C) (some dx) (x1.trans (Ext.same sm)) (Ext.same sm).data (k1.same sm) ⟨C, by rw [tS_tx]; exact E.gx, rfl, i, dx, _, rfl, rfl, upd_same, by rfl⟩
  · exact p1.elim
/-- an exception's own name is gone behind its clause -/
theorem Ok.unset {g : Gw} {O : Ow} {σ : L2.St} {H : Hp} {s : Ft.St} {n : Nat} (k : Ok g O σ H s) : Ok g O (σ.set n none) H (s.set n .no) := by
  refine ⟨by simp [Ft.St.set, k.len], fun j y hj => ?_, k.tags, k.cells⟩
  unfold Ft.St.set at hj
  by_cases e : n = j
  · subst e
    have hl : n < s.env.length := by
      have := (List.getElem?_eq_some_iff.mp hj).1
      simpa using this
    have : y = .no := by
      rw [List.getElem?_set_self hl] at hj
      exact (Option.some.inj hj).symm
    subst this
    trivial
  · have hj' : s.env[j]? = some y := by
      rw [List.getElem?_set_ne e] at hj
      exact hj
    have q := k.slot j y hj'
    have hs : (σ.set n none)[j]? = σ[j]? := List.getElem?_set_ne e
    cases y <;> simp only [SlOk, hs] at q ⊢ <;> exact q
theorem s_tryAt {x nm y : Str} {b : Str} {C B fI : Addr} {body : List Stmt} {mb : List Sm} {known : List Tx} {n i : Nat} {np p1 ap p2 p3 cp p4 p5 pos : Pos} (hstk : X.stack = X.env :: X.outer) (hfr : X.env.frame = some X.env.locals) (nd : X.N.Nodup) (hn : X.N[n]? = some nm) (hl : X.env.scope.names.lookup nm = some .local)
    (hd : (nm == ("__debug__" : Str)) = false) (hdc : (nm == ("__classdict__" : Str)) = false) (tk : Takes X Wx) (E : ExF X.K X.mg x b C B fI) (hx : Names X x (.ref C)) (ns : ∀ a i, O0 a ≠ some (Own.sl i))
    (hy : ∀ (a : Addr) (oe : Obj) (pn : List (Addr × Obj)), PE (X.suite a ((a, oe) :: pn)) (.Name y p1) (tVar i))
    (hb : ∀ (W : WX) (pn : List (Addr × Obj)) (xe : Value → Shared → Prop), Takes (X.tr pn xe) W → PassesOwn (model X.prog X.w) X.A X.env xe → PSs (X.tr pn xe) body (RS (gOf X G c) O0 Hb W mb)) (hline : (ap.endLine == cp.line) = true)
    (hs : ∀ z ∈ known, ∀ C1, X.mg (tS z) = some (.ref C1) → PySem.W.exmOne X.K (.ref C1) (.ref C) = some (subT z (tx x))) :
    PS X (.Try body [.ExceptHandler (some (.Name x np)) (some nm) [.Expr (.Call (.Attribute (.Name y p1) "append" ap) [.Attribute (.Name nm p2) "at" p3] [] cp) p4] p5] [] [] pos) (RS (gOf X G c) O0 Hb Wx [.tryAt known mb (tx x) n i]) := by
  refine ps_imp (ps_try_as (i := n) (tb := fun W => RS (gOf X G c) O0 Hb W mb) (ts := fun a cls d => tSeq (tDrop (tBM X.K "list" rAppend (tVar i) (tCons (tXf a cls d C "at" (tVar n)) tNil))) tNext) hstk hfr nd hn hl hx tk hb (fun a oe cls d pn hz hf => ?_)) fun D σ H q => ?_
  · have pv : PE (X.suite a ((a, oe) :: pn)) (.Name nm p2) (tVar n) := pe_var hn (.inl hl) hd hdc
    exact pss_cons (ps_expr (pe_bm PySem.F.plainAttrs_list PySem.F.slot_list_append PySem.F.type_list_append mt_append (hy a oe pn) (pa_cons (pe_xf E.xf E.na hz hf pv) pa_nil rfl) rfl rfl hline rfl rfl) rfl) pss_nil
  · obtain ⟨O, s, x0, kk, p⟩ := q
    rw [exs_one, ex] at p
    refine ⟨O, s, x0, kk, ?_⟩
    revert p
    cases exs (gOf X G c).G (gOf X G c).c mb s with
    | nx s1 => exact fun p => p
    | rt d f s1 => exact fun p => p
    | bad => exact fun p => p
    | exn z s1 =>
      intro p O' σ' H' cls dd e1 d1 k1 i1
      obtain ⟨C1, hm, rfl, ha⟩ := i1
      dsimp only at p
      split at p
      · rename_i hz
        refine ⟨_, hs z.cls hz.1 C1 hm, fun hb a na => ?_, fun hb => ?_⟩
        · split at p
          · rename_i ez
            have eC : C1 = C := by
              have hm : X.mg (tS z.cls) = some (.ref C1) := hm
              rw [ez, tS_tx, E.gx] at hm
              cases hm; rfl
            subst eC
            split at p
            · rename_i d xs ed el
              rw [ed] at ha
              obtain ⟨i0, a0, fs, rfl, rfl, hx0, l0⟩ := ha
              split at p
              · rename_i hlen
                obtain ⟨a', vs', g1, g2, g3, g4⟩ := k1.slot i _ el
                have hi : i < s1.env.length := (List.getElem?_eq_some_iff.mp el).1
                have s1' : (σ'.set n (some (.ref a)))[i]? = some (some (.ref a')) := by
                  rw [List.getElem?_set_ne hz.2.1]
                  exact g1
                have hnl : n < σ'.length := k1.len ▸ hz.2.2
                have s2' : (σ'.set n (some (.ref a)))[n]? = some (some (.ref a)) := by
                  rw [List.getElem?_set_self hnl]
                have ne : a0 ≠ a' := fun q => by
                  rw [q, g3] at hx0
                  cases hx0
                refine ⟨_, s1', .inl ⟨rfl, _, SqL.of g3⟩, _, s2', rfl, rfl, a0, fs, .int i0, rfl, hx0, l0, a', vs', .int i0, rfl, rfl, g3, by rw [g4.len]; exact Nat.lt_of_lt_of_le hlen lim_line, ?_⟩
                have de := own_ext (H := H') g2 (.lst (vs' ++ [.int i0]))
                have yg := young e1 ns g2
                have kf := (k1.chg (x := .ol (xs ++ [.int i0])) (o := .lst (vs' ++ [.int i0])) hi g2 g1 ⟨a', _, g1, g2, upd_same, IsL.append (g4.ext de) (.cons (.int i0) .nil)⟩).unset (n := n)
                have := p O' (σ'.set n none) _ (e1.poke yg) (d1.trans de) kf
                show D.nx ((σ'.set n (some (.ref a))).set n none) _
                rw [List.set_set]
                exact this
              · exact p.elim
            · exact p.elim
          · split at p
            · exact p.elim
            · rename_i e1 e2
              simp only [subT, e1, e2, decide_false, Bool.or_false] at hb
              cases hb
        · split at p
          · rename_i ez
            simp [subT, ez] at hb
          · split at p
            · exact p.elim
            · exact p O' σ' H' (.ref C1) dd e1 d1 k1 ⟨C1, hm, rfl, ha⟩
      · exact p.elim
end
end Ft
set_option Elab.async false
set_option linter.all false
set_option maxRecDepth 100000
set_option maxHeartbeats 4000000
namespace Ft
open PySem PyProof.Rows L2
/-- an own error class over ValueError, by the written part -/
def ExK (K : PySem.W.Frag) (mg : Str → Option Value) (x : Str) : Prop := ∃ C, mg x = some (.ref C) ∧ PySem.W.excIn K C [.type "ValueError", .type "Exception", .type "BaseException", .type "object"] "ValueError.__new__" = true ∧ PySem.W.keepIn K (.ref C) = true ∧
  PySem.W.subIn K (.ref C) (.type "BaseException") = some true ∧ PySem.W.typeIn K (.ref C) = some (.type "type")
structure Gs (X : Cx) (G : Glob) (c : Oracle) (n : Nat) (C : CC) (Wx : WX) (O0 : Ow) : Prop where
  gd : Gd X G c n C Wx
  fn : ∀ x, X.fn x = true
  kind : X.env.scope.kind = .function
  po : PassesOwn (model X.prog X.w) X.A X.env X.xe
  ns : ∀ a i, O0 a ≠ some (Own.sl i)
  exs : ∀ x ∈ C.exs, ExK X.K X.mg x
  exi : ∀ x ∈ C.exi, ∃ b Cl B fI fd, ExF X.K X.mg x b Cl B fI ∧ FnOk X.prog X.w X.K X.mg X.base (L2.CX X.prog X.w) 1 fI fd ["self", "text", "at"] (spInit X.K) ∧ Binds X.K fd ["self", "text", "at"] []
  stk : X.stack = X.env :: X.outer
  frm : X.env.frame = some X.env.locals
  cls : ∀ x ∈ C.exa, ∀ h ∈ C.exa, ∀ A B, X.mg x = some (.ref A) → X.mg h = some (.ref B) → PySem.W.exmOne X.K (.ref A) (.ref B) = some (subT (tx x) (tx h))
theorem Gs.exaB {X : Cx} {G : Glob} {c : Oracle} {n : Nat} {C : CC} {Wx : WX} {O0 : Ow} (g : Gs X G c n C Wx O0) {x : Str} (h : x ∈ C.exa) : ∃ B, X.mg x = some (.ref B) := by
  rcases List.mem_append.mp h with h | h
  · obtain ⟨B, hB, _⟩ := g.exs x h
    exact ⟨B, hB⟩
  · obtain ⟨_, B, _, _, _, E, _⟩ := g.exi x h
    exact ⟨B, E.gx⟩
/-- what a clause's statements need -/
structure Gu (X : Cx) (C : CC) : Prop where
  hN : X.N = C.N
  nd : C.N.Nodup
  sc : X.env.scope = C.sc
  fn : ∀ x, X.fn x = true
def SndS (G : Glob) (c : Oracle) (n : Nat) (C : CC) (r : Stmt → Option (List Sm)) : Prop := ∀ st ms, r st = some ms → ∀ X Wx O0 Hb, Gs X G c n C Wx O0 → PS X st (RS (gOf X G c) O0 Hb Wx ms)
section
variable {X : Cx} {G : Glob} {c : Oracle} {C : CC} {Wx : WX} {O0 : Ow} {Hb : Hp}
theorem Gu.vis (g : Gu X C) {x : Str} (h : C.vis x = true) : Vis X.env.scope x := by
  unfold Vis
  rw [g.sc]
  unfold CC.vis CC.kind at h
  split at h
  · exact .inl (by assumption)
  · exact .inr (.inl (by assumption))
  · exact .inr (.inr (by assumption))
  · cases h
theorem Gu.ix (g : Gu X C) {x : Str} {i : Nat} (h : ixOf C.N x 0 = some i) : X.N[i]? = some x := by
  rw [g.hN]
  exact (ixOf_get h).2
theorem Gu.pvar (g : Gu X C) {x : Str} {i : Nat} {p : Pos} (h : C.var x = some i) : PE X (.Name x p) (tVar i) := by
  unfold CC.var at h
  split at h
  · rename_i hc
    simp only [Bool.and_eq_true] at hc
    exact pe_var (g.ix h) (g.vis hc.1) (nmOk_d hc.2) (nmOk_c hc.2)
  · cases h
theorem Gu.loc (g : Gu X C) {x : Str} (h : C.vis x = true) (hl : C.kind x ≠ some .free) : Loc X.env.scope x := by
  rcases g.vis h with q | q | q
  · exact .inl q
  · exact .inr q
  · rw [g.sc] at q
    exact absurd q hl
theorem cK_ok (g : Gu X C) {e : Expr} {m : E} (h : cK C e = some m) : pl e = true ∧ noComp e = true ∧ PE X e (RE (gOf X G c) Wx m) := by
  unfold cK at h
  split at h
  · obtain ⟨i, hi, rfl⟩ := Option.map_eq_some_iff.mp h
    exact ⟨rfl, rfl, l_var (g.pvar hi)⟩
  · cases h; exact ⟨rfl, rfl, l_cst pe_non fun _ _ => .non⟩
  · cases h; exact ⟨rfl, rfl, l_cst pe_bl fun _ _ => .bl _⟩
  · cases h; exact ⟨rfl, rfl, l_cst pe_int fun _ _ => .int _⟩
  · rename_i x _ _
    cases h
    refine ⟨rfl, rfl, l_cst pe_str fun O H => ?_⟩
    have := Is.str (K := X.K) (w := X.w) (O := O) (H := H) (tx x)
    rw [tS_tx] at this
    exact this
  · cases h
theorem cSlot_ok {x : Str} {i : Nat} (h : cSlot C x = some i) : C.vis x = true ∧ ixOf C.N x 0 = some i := by
  unfold cSlot at h
  split at h
  · rename_i hc
    simp only [Bool.and_eq_true] at hc
    exact ⟨hc.1.1, h⟩
  · cases h
theorem cU_ok (nf : ∀ x, C.kind x ≠ some .free) (ns : ∀ a i, O0 a ≠ some (Own.sl i)) (g : Gu X C) {st : Stmt} {ms : List Sm} (h : cU C st = some ms) : PS X st (RS (gOf X G c) O0 Hb Wx ms) := by
  unfold cU at h
  split at h
  · rename_i x p e pos
    split at h
    · cases h
    · split at h
      · rename_i i m hi hm
        cases h
        obtain ⟨hv, hx⟩ := cSlot_ok hi
        obtain ⟨pe, nc, se⟩ := cK_ok (G := G) (c := c) (Wx := Wx) g hm
        exact s_asg (ps_set (by rw [g.hN]; exact g.nd) (g.ix hx) (g.loc hv (nf x)) se (noComp_sw nc _ _ _) (.inl (g.fn x)))
      · cases h
  · rename_i x p e pos
    split at h
    · cases h
    · split at h
      · rename_i i m hi hm
        cases h
        obtain ⟨hv, hx⟩ := cSlot_ok hi
        obtain ⟨pe, nc, se⟩ := cK_ok (G := G) (c := c) (Wx := Wx) g hm
        exact s_aug (f := fun a b => a + b) (fun _ _ => rfl) (ps_aug (by rw [g.hN]; exact g.nd) (g.ix hx) (g.loc hv (nf x)) se ip_add (.inl (g.fn x)))
      · cases h
  · rename_i x p name ap e cp pos
    split at h
    · rename_i hc
      simp only [Bool.and_eq_true, decide_eq_true_eq] at hc
      obtain ⟨hn, hline⟩ := hc
      subst hn
      split at h
      · rename_i i m hi hm
        cases h
        obtain ⟨pe, nc, se⟩ := cK_ok (G := G) (c := c) (Wx := Wx) g hm
        exact s_app ns (ps_expr (pe_bm PySem.F.plainAttrs_list PySem.F.slot_list_append PySem.F.type_list_append mt_append (g.pvar hi) (pa_cons se pa_nil (pl_star pe _ _)) rfl (by rw [pl_star pe]; rfl) hline (pl_star pe _ _) rfl) rfl)
      · cases h
    · cases h
  · cases h
    exact s_pass
  · cases h
    exact s_stuck
  · cases h
theorem cUs_ok (nf : ∀ x, C.kind x ≠ some .free) (ns : ∀ a i, O0 a ≠ some (Own.sl i)) (g : Gu X C) : ∀ {sts : List Stmt} {ms : List Sm}, cBody (cU C) sts = some ms → PSs X sts (RS (gOf X G c) O0 Hb Wx ms)
  | [], ms, h => by cases h; exact b_nil
  | st :: rest, ms, h => by
    simp only [cBody] at h
    cases h1 : cU C st with
    | none => rw [h1] at h; cases h
    | some a =>
      cases h2 : cBody (cU C) rest with
      | none => rw [h1, h2] at h; cases h
      | some b =>
        rw [h1, h2] at h
        cases h
        exact b_cons (cU_ok nf ns g h1) (cUs_ok nf ns g h2)
end
section
variable {G : Glob} {c : Oracle} {n : Nat} {C : CC} {r : Stmt → Option (List Sm)}
theorem cHs_ok {X : Cx} {Wx : WX} {O0 : Ow} {Hb : Hp} (nf : ∀ x, C.kind x ≠ some .free) (g : Gs X G c n C Wx O0) : ∀ {hs : List ExceptHandler} {ms : List Sm}, cHs C hs = some ms → ∃ l, HdsOk X hs l ∧ HR (gOf X G c) O0 Hb Wx (C.exa.map tx) l ms
  | [], ms, h => by
    cases h
    exact ⟨[], .nil, .nil⟩
  | hd :: r, ms, h => by
    unfold cHs at h
    split at h
    · rename_i e1; cases e1
    · rename_i x np b suite p' r' e1
      cases e1
      split at h
      · rename_i hc
        simp only [Bool.and_eq_true] at hc
        have hx : x ∈ C.exa := by simpa using hc.2
        split at h
        · rename_i m ms' h1 h2
          cases h
          obtain ⟨l, q1, q2⟩ := cHs_ok (Hb := Hb) nf g h2
          obtain ⟨B, hB⟩ := g.exaB hx
          refine ⟨(.ref B, fun _ _ _ => RS (gOf X G c) O0 Hb Wx m) :: l, .cons ⟨g.gd.isGl hc.1.1, nmOk_d hc.1.2, .inl hB⟩ (fun a oe cls d pn hz hd => ?_) q1, .cons (fun y hy A hA => ?_) q2⟩
          · exact cUs_ok (X := X.suite a ((a, oe) :: pn)) nf g.ns ⟨g.gd.hN, g.gd.nd, g.gd.sc, g.fn⟩ h1
          · obtain ⟨z, hz, rfl⟩ := List.mem_map.mp hy
            rw [tS_tx] at hA
            exact g.cls z hz x hx A B hA hB
        · cases h
      · cases h
    · cases h
theorem cBody_ok (S : SndS G c n C r) : ∀ {sts : List Stmt} {ms : List Sm}, cBody r sts = some ms → ∀ X Wx O0 Hb, Gs X G c n C Wx O0 → PSs X sts (RS (gOf X G c) O0 Hb Wx ms)
  | [], ms, h => by cases h; exact fun X Wx O0 Hb g => b_nil
  | st :: rest, ms, h => by
    simp only [cBody] at h
    cases h1 : r st with
    | none => rw [h1] at h; cases h
    | some a =>
      cases h2 : cBody r rest with
      | none => rw [h1, h2] at h; cases h
      | some b =>
        rw [h1, h2] at h
        cases h
        exact fun X Wx O0 Hb g => b_cons (S st a h1 X Wx O0 Hb g) (cBody_ok S h2 X Wx O0 Hb g)
theorem Gs.loc {X : Cx} {Wx : WX} {O0 : Ow} (g : Gs X G c n C Wx O0) {x : Str} (h : C.vis x = true) (hl : C.kind x ≠ some .free) : Loc X.env.scope x := by
  rcases g.gd.isVis h with q | q | q
  · exact .inl q
  · exact .inr q
  · rw [g.gd.sc] at q
    exact absurd q hl
/-- a comprehension's pieces -/
theorem comp_pieces {f : Nat} {elt : Expr} {gs : List Comprehension} {scope : Scope} {q : Pos} {m : E} (h : cComp f C (.ListComp elt gs scope q) = some m) : ∃ tg iter ifs own kk src cs me, gs = [⟨tg, iter, ifs, 0⟩] ∧ m = .comp kk src (own.map (·.2)) cs me ∧ pl iter = true ∧ blkC C.N C.sc scope own = true ∧
    (∀ X Wx, Gd X G c n C Wx → PI X tg iter (RI (gOf X G c) Wx kk src) ∧ (∀ (s : Shared) (H : Hp) (Cc : Addr) (cl : List (Str × Addr)) (fp : List Addr), PG (X.blk s H scope (compEnvC scope cl Cc X.env) fp) tg (tgR X.K (own.map (·.2)))) ∧ (∀ (s : Shared) (H : Hp) (Cc : Addr) (cl : List (Str × Addr)) (fp : List Addr), PTs (X.blk s H scope (compEnvC scope cl Cc X.env) fp) ifs (RTs (gOf X G c) W0 cs)) ∧
      (∀ (s : Shared) (H : Hp) (Cc : Addr) (cl : List (Str × Addr)) (fp : List Addr), PE (X.blk s H scope (compEnvC scope cl Cc X.env) fp) elt (RE (gOf X G c) W0 me))) := by
  cases f with
  | zero => cases h
  | succ f =>
    have S := cE_ok G c n f
    match gs, h with
    | [⟨tg, iter, ifs, k⟩], h =>
      simp only [cComp, cStep] at h
      split at h
      · rename_i hk
        subst hk
        split at h
        · rename_i own kk src cs me h1 h2 h3 h4
          split at h
          · rename_i hb
            cases h
            simp only [Bool.and_eq_true, decide_eq_true_eq] at hb
            obtain ⟨⟨⟨hb1, hb2⟩, hb3⟩, hb4⟩ := hb
            refine ⟨tg, iter, ifs, own, kk, src, cs, me, rfl, rfl, hb4, hb1, fun X Wx g => ⟨cI_ok S h2 X Wx g, fun s H Cc cl fp => cTg_ok (g.blk s H scope cl Cc fp) h1, fun s H Cc cl fp => ts_ok S h3 hb2 hb3 _ _ (g.blk s H scope cl Cc fp), fun s H Cc cl fp => ((S _ elt me h4).2 _ _ (g.blk s H scope cl Cc fp)).1⟩⟩
          · cases h
        · cases h
      · cases h
    | [], h => simp [cComp, cStep] at h
    | _ :: _ :: _, h => simp [cComp, cStep] at h
theorem vis_nf {x : Str} {i : Nat} (h : (if (C.vis x && nmOk x && !C.gl x) = true then ixOf C.N x 0 else none) = some i) : C.vis x = true ∧ nmOk x = true ∧ ixOf C.N x 0 = some i := by
  split at h
  · rename_i hc
    simp only [Bool.and_eq_true] at hc
    exact ⟨hc.1.1, hc.1.2, h⟩
  · cases h
theorem Gd.chg {X : Cx} {Wx : WX} {l : List Str} (g : Gd X G c n C Wx) : Gd X G c n { C with chg := l } Wx :=
  { hN := g.hN, nd := g.nd, sc := g.sc, calm := g.calm, room := g.room, tk := g.tk, glb := g.glb, gin := g.gin, blt := g.blt, fns := g.fns, clss := g.clss, mets := g.mets, atts := g.atts }
theorem shares_ok {X : Cx} {Wx : WX} {O0 : Ow} {Hb : Hp} {st : Stmt} {ms : List Sm} (ns : ∀ a i, O0 a ≠ some (Own.sl i)) (base : PS X st (RS (gOf X G c) O0 Hb Wx ms)) : ∀ l : List Str, PS X st (RS (gOf X G c) O0 Hb Wx (shares C l ++ ms))
  | [] => base
  | x :: r => by
    simp only [shares]
    split
    · exact s_share ns (shares_ok ns base r)
    · exact shares_ok ns base r
theorem pg_or {X : Cx} {e : Expr} {t u : TG} (h1 : PG X e t) (h2 : PG X e u) : PG X e (fun v σ H Q => t v σ H Q ∨ u v σ H Q) :=
  ⟨fun pins s σ H v w Q I r hw => hw.elim (h1.run pins s σ H v w Q I r) (h2.run pins s σ H v w Q I r)⟩
theorem cTgV_ok {X : Cx} {Wx : WX} {O0 : Ow} (nf : ∀ x, C.kind x ≠ some .free) (g : Gs X G c n C Wx O0) : ∀ {es : List Expr} {own : List Nat}, cTgV C es = some own → PGs X es (gsR own) ∧ own.length = es.length ∧ (assignEach es X.env).length = es.length ∧ (assignEach es X.env).findIdx? (·.1) = none
  | [], own, h => by cases h; exact ⟨pgs_nil, rfl, rfl, rfl⟩
  | e :: es, own, h => by
    cases e <;> simp only [cTgV] at h <;> first | cases h | skip
    rename_i x p
    cases h1 : (if (C.vis x && nmOk x && !C.gl x) = true then ixOf C.N x 0 else none) with
    | none => rw [h1] at h; cases h
    | some i =>
      cases h2 : cTgV C es with
      | none => rw [h1, h2] at h; cases h
      | some is =>
        rw [h1, h2] at h
        cases h
        obtain ⟨hv, hn, hx⟩ := vis_nf h1
        obtain ⟨q1, q2, q3, q4⟩ := cTgV_ok nf g h2
        refine ⟨pgs_cons (pg_name (by rw [g.gd.hN]; exact g.gd.nd) (g.gd.ix hx) (g.loc hv (nf x)) (.inl (g.fn x))) q1 rfl, by simp [q2], ?_, ?_⟩
        · show ((assignEach (.Name x p :: es) X.env)).length = _
          rw [show assignEach (.Name x p :: es) X.env = (false, assign (.Name x p) X.env) :: assignEach es X.env from rfl]
          simp [q3]
        · rw [show assignEach (.Name x p :: es) X.env = (false, assign (.Name x p) X.env) :: assignEach es X.env from rfl, List.findIdx?_cons, q4]
          rfl
theorem sStep_ok {f : Nat} (nf : ∀ x, C.kind x ≠ some .free) (S : SndS G c n C r) : SndS G c n C (sStep f C r) := by
  have SE := cE_ok G c n f
  intro st ms h
  unfold sStep at h
  split at h
  · -- x = e
    rename_i x p e pos
    split at h
    · cases h
    · rename_i i hi
      obtain ⟨hv, hn, hx⟩ := vis_nf hi
      split at h
      · -- one that is changed
        split at h
        · rename_i es p2
          split at h
          · rename_i hl
            cases hc : cL (cE f C) es with
            | none => rw [hc] at h; cases h
            | some es' =>
              rw [hc] at h
              cases h
              obtain ⟨h1, h2, h3⟩ := cL_ok SE hc
              exact fun X Wx O0 Hb g => s_asgL (by rw [h2]; unfold LIM; omega) (ps_set (by rw [g.gd.hN]; exact g.gd.nd) (g.gd.ix hx) (g.loc hv (nf x)) (pe_lst (h3 X Wx g.gd)) rfl (.inl (g.fn x)))
          · cases h
        · cases h
          exact fun X Wx O0 Hb g => s_asgD (ps_set (by rw [g.gd.hN]; exact g.gd.nd) (g.gd.ix hx) (g.loc hv (nf x)) pe_dnewK rfl (.inl (g.fn x)))
        · -- list(e)
          rename_i gn pg a pc
          split at h
          · rename_i hc
            simp only [Bool.and_eq_true, decide_eq_true_eq] at hc
            obtain ⟨⟨⟨hgn, hgl⟩, hnm⟩, hnf⟩ := hc
            subst hgn
            obtain ⟨m, hm, rfl⟩ := Option.map_eq_some_iff.mp h
            obtain ⟨pa, sa⟩ := SE C a m hm
            exact fun X Wx O0 Hb g => s_asgT (ps_set (by rw [g.gd.hN]; exact g.gd.nd) (g.gd.ix hx) (g.loc hv (nf x)) (pe_callTy call_list_of (g.gd.isGl hgl) (g.gd.blt _ (by simp [blts])) (by decide +kernel) (pa_cons (sa X Wx g.gd).1 pa_nil (pl_star pa _ _)) (nmOk_n hnm) (nmOk_d hnm) (pl_star pa _ _) rfl) rfl (.inl (g.fn x)))
          · split at h
            · rename_i hc
              simp only [Bool.and_eq_true, decide_eq_true_eq] at hc
              obtain ⟨⟨⟨hgn, hgl⟩, hnm⟩, hnf⟩ := hc
              subst hgn
              obtain ⟨m, hm, rfl⟩ := Option.map_eq_some_iff.mp h
              obtain ⟨pa, sa⟩ := SE C a m hm
              exact fun X Wx O0 Hb g => s_asgK (ps_set (by rw [g.gd.hN]; exact g.gd.nd) (g.gd.ix hx) (g.loc hv (nf x)) (pe_callTy call_dictD (g.gd.isGl hgl) (g.gd.blt _ (by simp [blts])) (by decide +kernel) (pa_cons (sa X Wx g.gd).1 pa_nil (pl_star pa _ _)) (nmOk_n hnm) (nmOk_d hnm) (pl_star pa _ _) rfl) rfl (.inl (g.fn x)))
            · cases h
        · cases h
      · split at h
        · obtain ⟨m, hm, rfl⟩ := Option.map_eq_some_iff.mp h
          obtain ⟨pe, se⟩ := cBox_ok SE hm
          have hnc : noComp e = true := by
            unfold cBox at hm
            split at hm <;> first | rfl | cases hm
          exact fun X Wx O0 Hb g => s_asg (ps_set (by rw [g.gd.hN]; exact g.gd.nd) (g.gd.ix hx) (g.loc hv (nf x)) (se X Wx g.gd) (noComp_sw hnc _ _ _) (.inl (g.fn x)))
        split at h
        · rename_i hnc
          obtain ⟨m, hc, rfl⟩ := Option.map_eq_some_iff.mp h
          intro X Wx O0 Hb g
          exact shares_ok g.ns (s_asg (ps_set (by rw [g.gd.hN]; exact g.gd.nd) (g.gd.ix hx) (g.loc hv (nf x)) ((SE C.less e m hc).2 X Wx g.gd.chg).1 (noComp_sw hnc _ _ _) (.inl (g.fn x)))) C.shr
        · split at h
          · rename_i elt gs scope q _
            split at h
            · rename_i hcond
              simp only [Bool.and_eq_true, Bool.not_eq_true'] at hcond
              cases hc : cComp f C (.ListComp elt gs scope q) with
              | none => rw [hc] at h; cases h
              | some m =>
                rw [hc] at h
                cases h
                obtain ⟨tg, iter, ifs, own, kk, src, cs, me, rfl, rfl, hpl, hblk, pcs⟩ := comp_pieces (G := G) (c := c) (n := n) hc
                intro X Wx O0 Hb g
                obtain ⟨q1, q2, q3, q4⟩ := pcs X Wx g.gd
                have hloc := g.gd.isLoc hcond.1.1
                refine s_asg (ps_imp (ps_setLc (own := own) g.gd.calm (by rw [g.gd.hN]; exact g.gd.nd) (g.gd.ix hx) hloc (sw_true g.kind hloc hcond.1.2 hcond.2) q1 (blkOk_by (by rw [g.gd.hN, g.gd.sc]; exact hblk)) q2 q3 q4 (pl_fold hpl _)) fun D σ H qq => ?_)
                exact re_comp qq
            · cases h
          · cases h
  · -- x[k] = e
    rename_i a k q e pos
    split at h
    · rename_i hc
      simp only [Bool.and_eq_true] at hc
      have sub : ∀ {X : Cx} {Wx : WX} {O0 : Ow} {ta tk te : TE}, Gs X G c n C Wx O0 → PE X a ta → PE X k tk → PE X e te → PS X (.Assign [.Subscript a k q] e pos) (tAsg te (gSub ta tk rSetB)) := fun {X Wx O0 ta tk te} g h1 h2 h3 => by
        have hu : X.A.units + 1 < cLine := by have := g.gd.room.units; omega
        refine ps_asg h3 (pg_sub h1 h2 (set_both hu) ?ha) ?sw ?ww rfl
        case ha => intro v; cases k <;> first | rfl | cases hc.2
        case sw => exact noComp_sw hc.1 (some (.Subscript a k q)) pos.line X.env
        case ww => cases e <;> rfl
      split at h
      · rename_i i ho
        split at h
        · rename_i mk me hk he
          cases h
          obtain ⟨y', p', ea, hv⟩ := own_var ho
          subst ea
          exact fun X Wx O0 Hb g => s_setI g.ns (sub g (g.gd.pvar hv) ((SE C k mk hk).2 X Wx g.gd).1 ((SE C e me he).2 X Wx g.gd).1)
        · cases h
      · split at h
        · split at h
          · rename_i mr mk me hr hk he
            cases h
            exact fun X Wx O0 Hb g => s_hSet (sub g ((SE C a mr hr).2 X Wx g.gd).1 ((SE C k mk hk).2 X Wx g.gd).1 ((SE C e me he).2 X Wx g.gd).1)
          · cases h
        · cases h
    · cases h
  · -- x.f = e
    rename_i x p fl q e pos
    split at h
    · rename_i k i hk hi
      split at h
      · rename_i hc
        simp only [Bool.and_eq_true] at hc
        have hf : (k, fl) ∈ C.atts := by simpa using hc.1
        obtain ⟨m, hm, rfl⟩ := Option.map_eq_some_iff.mp h
        intro X Wx O0 Hb g
        have se : PE X e (RE (gOf X G c) Wx m) := by
          unfold cArgA at hm
          split at hm
          · cases hb : cBox (cE f C) e with
            | none => rw [hb] at hm; exact ((SE C e m hm).2 X Wx g.gd).1
            | some m' => rw [hb] at hm; cases hm; exact (cBox_ok SE hb).2 X Wx g.gd
          · exact ((SE C e m hm).2 X Wx g.gd).1
        obtain ⟨A, q1, q2, q3⟩ := g.gd.atts _ hf
        exact s_setA q1 q2 q3 (ps_fld (g.gd.pvar hi) se (noComp_sw hc.2 _ _ _))
      · cases h
    · cases h
  · -- a, b = e
    rename_i es k p e pos
    split at h
    · cases h
    · rename_i hcond
      simp only [Bool.or_eq_true, decide_eq_true_eq, Bool.not_eq_true', not_or, Bool.not_eq_false, Bool.not_eq_true] at hcond
      obtain ⟨⟨hl, hnc⟩, hnt⟩ := hcond
      split at h
      · rename_i own m h1 h2
        cases h
        intro X Wx O0 Hb g
        obtain ⟨q1, q2, q3, q4⟩ := cTgV_ok nf g h1
        refine shares_ok g.ns (s_unp (ps_asg ((SE C.less e m h2).2 X Wx g.gd.chg).1 (pg_or (pg_tup (n := own.length) g.gd.calm q1 (by rw [q2]; exact q3) q4) (pg_unl (n := own.length) g.gd.calm q1 (by rw [q2]; exact q3) q4)) ?sw ?_ rfl)) C.shr
        case sw => exact noComp_sw hnc (some (.Tuple es k p)) pos.line X.env
        cases e <;> first | rfl | (simp [isTup] at hnt)
      · cases h
  · -- x += e
    rename_i x p op e pos
    split at h
    · rename_i i m hi hm
      split at hi
      · rename_i hc
        simp only [Bool.and_eq_true] at hc
        split at h
        · cases h
          exact fun X Wx O0 Hb g => s_aug (f := fun a b => a + b) (fun _ _ => rfl) (ps_aug (by rw [g.gd.hN]; exact g.gd.nd) (g.gd.ix hi) (g.loc hc.1.1.1 (nf x)) ((SE C e m hm).2 X Wx g.gd).1 ip_add (.inl (g.fn x)))
        · cases h
          exact fun X Wx O0 Hb g => s_aug (f := fun a b => a - b) (fun _ _ => rfl) (ps_aug (by rw [g.gd.hN]; exact g.gd.nd) (g.gd.ix hi) (g.loc hc.1.1.1 (nf x)) ((SE C e m hm).2 X Wx g.gd).1 ip_sub (.inl (g.fn x)))
        · cases h
      · cases hi
    · cases h
  · -- x.f += e
    rename_i x p fl q op e pos
    split at h
    · rename_i k i m hk hi hm
      split at h
      · rename_i hc
        have hf : (k, fl) ∈ C.atts := by simpa using hc
        split at h
        · cases h
          intro X Wx O0 Hb g
          obtain ⟨A, q1, q2, q3⟩ := g.gd.atts _ hf
          exact s_augA (fi := fun a b => a + b) (rd := rAdd) (fun m n H Q z => ⟨m, n, rfl, rfl, z⟩) (fun _ _ => rfl) q1 q2 q3 (ps_fldaug (g.gd.pvar hi) ((SE C e m hm).2 X Wx g.gd).1 in_add)
        · cases h
          intro X Wx O0 Hb g
          obtain ⟨A, q1, q2, q3⟩ := g.gd.atts _ hf
          exact s_augA (fi := fun a b => a - b) (rd := rSub) (fun m n H Q z => ⟨m, n, rfl, rfl, z⟩) (fun _ _ => rfl) q1 q2 q3 (ps_fldaug (g.gd.pvar hi) ((SE C e m hm).2 X Wx g.gd).1 in_sub)
        · cases h
      · cases h
    · cases h
  · -- x[k] += e
    rename_i a k q e pos
    split at h
    · rename_i hc
      simp only [Bool.and_eq_true] at hc
      split at h
      · rename_i mr mk me hr hk he
        cases h
        intro X Wx O0 Hb g
        have hu : X.A.units + 1 < cLine := by have := g.gd.room.units; omega
        refine s_hAug (ps_augS ((SE C a mr hr).2 X Wx g.gd).1 ((SE C k mk hk).2 X Wx g.gd).1 get_list ((SE C e me he).2 X Wx g.gd).1 ip_add (set_both hu) ?_)
        intro ov iv new; cases k <;> first | rfl | cases hc.2
      · cases h
    · cases h
  · -- x.append(e)
    rename_i o name ap e cp pos
    split at h
    · rename_i hn
      subst hn
      split at h
      · rename_i hline
        split at h
        · rename_i i ho
          obtain ⟨m, hm, rfl⟩ := Option.map_eq_some_iff.mp h
          obtain ⟨y', p', ea, hi⟩ := own_var ho
          subst ea
          obtain ⟨pe, se⟩ := SE C e m hm
          exact fun X Wx O0 Hb g => s_app g.ns (ps_expr (pe_bm PySem.F.plainAttrs_list PySem.F.slot_list_append PySem.F.type_list_append mt_append (g.gd.pvar hi) (pa_cons (se X Wx g.gd).1 pa_nil (pl_star pe _ _)) rfl (by rw [pl_star pe]; rfl) hline (pl_star pe _ _) rfl) rfl)
        · split at h
          · rename_i hc
            simp only [Bool.and_eq_true] at hc
            split at h
            · rename_i mr m hr hm
              cases h
              obtain ⟨pe, se⟩ := SE C e m hm
              exact fun X Wx O0 Hb g => s_hApp (ps_expr (pe_bm PySem.F.plainAttrs_list PySem.F.slot_list_append PySem.F.type_list_append mt_append ((SE C o mr hr).2 X Wx g.gd).1 (pa_cons (se X Wx g.gd).1 pa_nil (pl_star pe _ _)) (abOk_base hc.2 _ _ _) (by rw [pl_star pe]; rfl) hline (pl_star pe _ _) rfl) rfl)
            · cases h
          · cases h
      · cases h
    · split at h
      · rename_i hn
        subst hn
        split at h
        · rename_i hline
          split at h
          · rename_i i ho
            obtain ⟨m, hm, rfl⟩ := Option.map_eq_some_iff.mp h
            obtain ⟨y', p', ea, hi⟩ := own_var ho
            subst ea
            obtain ⟨pe, se⟩ := SE C e m hm
            exact fun X Wx O0 Hb g => s_ext g.ns (ps_expr (pe_bm PySem.F.plainAttrs_list PySem.F.slot_list_extend PySem.F.type_list_extend mt_extend (g.gd.pvar hi) (pa_cons (se X Wx g.gd).1 pa_nil (pl_star pe _ _)) rfl (by rw [pl_star pe]; rfl) hline (pl_star pe _ _) rfl) rfl)
          · cases h
        · cases h
      obtain ⟨m, hm, rfl⟩ := Option.map_eq_some_iff.mp h
      exact fun X Wx O0 Hb g => s_exq (ps_expr ((SE C _ m hm).2 X Wx g.gd).1 rfl)
  · -- a call for what it does
    rename_i e pos _
    split at h
    · rename_i hnc
      obtain ⟨m, hm, rfl⟩ := Option.map_eq_some_iff.mp h
      exact fun X Wx O0 Hb g => s_exq (ps_expr ((SE C e m hm).2 X Wx g.gd).1 (noComp_sw hnc _ _ _))
    · cases h
  · -- if a or b != x.pop() + 1
    rename_i a b x p name ap cp _ _ _ _ _ sx sy _
    split at h
    · rename_i hc
      simp only [Bool.and_eq_true, decide_eq_true_eq] at hc
      obtain ⟨⟨⟨hn, _⟩, ht⟩, hl⟩ := hc
      subst hn
      split at h
      · rename_i i ma mb mx my h1 h2 h3 h4 h5
        cases h
        exact fun X Wx O0 Hb g => s_ifPop g.gd.room.units g.ns (g.gd.pvar h1) (((SE C a ma h2).2 X Wx g.gd).2 ht) ((SE C b mb h3).2 X Wx g.gd).1 (cBody_ok S h4 X Wx O0 Hb g) (cBody_ok S h5 X Wx O0 Hb g) hl
      · cases h
    · cases h
  · -- if
    rename_i e a b pos _
    split at h
    · rename_i ht
      split at h
      · rename_i m x y h1 h2 h3
        cases h
        exact fun X Wx O0 Hb g => s_if (((SE C e m h1).2 X Wx g.gd).2 ht) (cBody_ok S h2 X Wx O0 Hb g) (cBody_ok S h3 X Wx O0 Hb g)
      · cases h
    · cases h
  · -- for
    rename_i tg iter body pos
    split at h
    · rename_i own k src x h1 h2 h3
      split at h
      · rename_i hpl
        cases h
        exact fun X Wx O0 Hb g => s_for g.po g.gd.calm (cI_ok SE h2 X Wx g.gd) (cTg_ok g.gd h1) (cBody_ok S h3 X Wx O0 Hb g) hpl
      · cases h
    · cases h
  · -- while
    rename_i e body pos
    split at h
    · rename_i ht
      split at h
      · rename_i m x h1 h2
        cases h
        exact fun X Wx O0 Hb g => s_while g.po (((SE C e m h1).2 X Wx g.gd).2 ht) (cBody_ok S h2 X Wx O0 Hb g)
      · cases h
    · cases h
  · -- return
    cases h
    intro X Wx O0 Hb g
    refine ps_imp ps_retN fun D σ H q => ?_
    obtain ⟨O, s, x0, k, p⟩ := q
    rw [exs_one, ex, ev] at p
    exact p O .non H x0 k.tags k.cells .non
  · rename_i e pos
    obtain ⟨m, hm, rfl⟩ := Option.map_eq_some_iff.mp h
    exact fun X Wx O0 Hb g => shares_ok g.ns (s_ret ((SE { C with chg := [] } e m hm).2 X Wx g.gd.chg).1) C.chg
  · -- raise
    rename_i x p m k q cp pos
    split at h
    · rename_i hc
      cases h
      simp only [Bool.and_eq_true] at hc
      intro X Wx O0 Hb g
      obtain ⟨Cl, h1, h2, h3, h4, h5⟩ := g.exs x (by simpa using hc.2)
      exact s_raise h1 (ps_raise g.gd.calm g.gd.tk (pmk_own PySem.F.excBase_ValueError h2 h1 h3 (raises_own h4 h5) (g.gd.isGl hc.1.1) (nmOk_d hc.1.2)))
    · cases h
  · -- raise of an error with a field
    rename_i x p a e cp pos
    split at h
    · rename_i hc
      simp only [Bool.and_eq_true] at hc
      obtain ⟨ms, hm, rfl⟩ := Option.map_eq_some_iff.mp h
      intro X Wx O0 Hb g
      obtain ⟨b, Cl, B, fI, fd, E, F1, hb⟩ := g.exi x (by simpa using hc.2)
      obtain ⟨h1, h2, h3⟩ := cL_ok SE hm
      exact s_raiA E F1 g.gd.room.two hb (g.gd.isGl hc.1.1) g.gd.calm g.gd.tk (h3 X Wx g.gd) h1 (nmOk_d hc.1.2)
    · cases h
  · cases h
    exact fun X Wx O0 Hb g => s_pass
  · -- try .. except x as n: y.append(n.at)
    rename_i body x np nm y p1 name ap nm' p2 fl p3 cp p4 p5 pos
    split at h
    · rename_i hc
      simp only [Bool.and_eq_true, decide_eq_true_eq] at hc
      obtain ⟨⟨⟨⟨⟨⟨⟨⟨rfl, rfl⟩, rfl⟩, hline⟩, hgl⟩, hnx⟩, hxi⟩, hloc⟩, hnn⟩ := hc
      split at h
      · rename_i mb i n' h1 h2 h3
        cases h
        intro X Wx O0 Hb g
        have hx : x ∈ C.exi := by simpa using hxi
        obtain ⟨b, Cl, B, fI, fd, E, _⟩ := g.exi x hx
        refine s_tryAt g.stk g.frm (by rw [g.gd.hN]; exact g.gd.nd) (g.gd.ix h3) (g.gd.isLoc hloc) (nmOk_d hnn) (nmOk_c hnn) g.gd.tk E ⟨g.gd.isGl hgl, nmOk_d hnx, .inl E.gx⟩ g.ns (fun a oe pn => ?_) (fun W pn xe tk po => ?_) hline (fun z hz C1 hC1 => ?_)
        · exact Gu.pvar (X := X.suite a ((a, oe) :: pn)) ⟨g.gd.hN, g.gd.nd, g.gd.sc, g.fn⟩ h2
        · have g' : Gs (X.tr pn xe) G c n C W O0 :=
            { gd := { hN := g.gd.hN, nd := g.gd.nd, sc := g.gd.sc, calm := g.gd.calm, room := g.gd.room, tk := tk, glb := g.gd.glb, gin := g.gd.gin, blt := g.gd.blt, fns := g.gd.fns, clss := g.gd.clss, mets := g.gd.mets, atts := g.gd.atts }
              fn := g.fn, kind := g.kind, po := po, ns := g.ns
              exs := g.exs, exi := g.exi
              stk := g.stk, frm := g.frm, cls := g.cls }
          exact cBody_ok S h1 (X.tr pn xe) W O0 Hb g'
        · obtain ⟨z', hz', rfl⟩ := List.mem_map.mp hz
          rw [tS_tx] at hC1
          exact g.cls z' hz' x (List.mem_append_right _ hx) C1 Cl hC1 E.gx
      · cases h
    · cases h
  · -- try
    rename_i body hd hs pos _
    split at h
    · rename_i mb ms h1 h2
      cases h
      intro X Wx O0 Hb g
      obtain ⟨l, q1, q2⟩ := cHs_ok (Hb := Hb) nf g h2
      refine s_try g.stk g.frm g.gd.tk (fun W pn xe tk po => ?_) q1 q2
      have g' : Gs (X.tr pn xe) G c n C W O0 :=
        { gd := { hN := g.gd.hN, nd := g.gd.nd, sc := g.gd.sc, calm := g.gd.calm, room := g.gd.room, tk := tk, glb := g.gd.glb, gin := g.gd.gin, blt := g.gd.blt, fns := g.gd.fns, clss := g.gd.clss, mets := g.gd.mets, atts := g.gd.atts }
          fn := g.fn, kind := g.kind, po := po, ns := g.ns
          exs := g.exs, exi := g.exi
          stk := g.stk, frm := g.frm, cls := g.cls }
      exact cBody_ok S h1 (X.tr pn xe) W O0 Hb g'
    · cases h
  · cases h
theorem cS_ok (G : Glob) (c : Oracle) (n : Nat) (C : CC) (f : Nat) (nf : ∀ x, C.kind x ≠ some .free) : ∀ k, SndS G c n C (cS k f C)
  | 0 => fun st ms h => by cases h
  | k + 1 => fun st ms h => by
    have S := sStep_ok (f := f) nf (cS_ok G c n C f nf k)
    have h : orStop (sStep f C (cS k f C) st) = some ms := h
    unfold orStop at h
    split at h
    · rename_i m hm
      cases h
      exact S st _ hm
    · cases h
      exact fun X Wx O0 Hb g => s_stuck
end
end Ft
set_option Elab.async false
set_option linter.all false
set_option maxRecDepth 100000
set_option maxHeartbeats 4000000
namespace Ft
open PySem PyProof.Rows L2
def CG.cc (q : CG) (N : List Str) (sc : Scope) (chg : List Str) (vcls : List (Str × Str)) (locs shr : List Str) : CC :=
  { N := N, sc := sc, fns := q.fns, gls := q.gls, chg := chg, exs := q.exs, exi := q.exi.map EI.x, clss := q.clss, mets := q.mets, atts := q.atts, vcls := vcls, locs := locs, lats := q.lats, lcal := q.lcal, shr := shr }
/-- a def as it stands behind the top, and its form -/
def FnB (K : PySem.W.Frag) (T : Tx → Option Fn) (q : CG) (key : Tx) (fa : Addr) (fd : FuncData) (ps : List Str) : Prop := ∃ x qual st N k f chg vcls locs shr body, Fun K x qual st fa fd ∧ (∀ us : List Value, us.length = ps.length → bindArgs fd ⟨us, []⟩ = pure (ps.zip us)) ∧ FnScope N ps (defScope st) ∧
  cBody (cS k f (q.cc N (defScope st) chg vcls locs shr)) (defBody st) = some body ∧ T key = some ⟨ps.length, N.length, body⟩
/-- what the top has left -/
structure Top (w : World) (K : PySem.W.Frag) (mg : Str → Option Value) (G : Glob) (T : Tx → Option Fn) (q : CG) : Prop where
  glb : ∀ x d, G x = some d → ∃ u v, mg (tS x) = some u ∧ RelV v u ∧ ∀ O H, Is K w O H v d
  gin : ∀ x ∈ q.gls, (G (tx x)).isSome = true
  blt : ∀ b ∈ blts, mg b = none
  cls : ∀ x ∈ q.exs ++ q.exi.map EI.x, ∀ h ∈ q.exs ++ q.exi.map EI.x, ∀ A B, mg x = some (.ref A) → mg h = some (.ref B) → PySem.W.exmOne K (.ref A) (.ref B) = some (subT (tx x) (tx h))
  exs : ∀ x ∈ q.exs, ExK K mg x
  exi : ∀ x ∈ q.exi.map EI.x, ∃ b Cl B fI fd, ExF K mg x b Cl B fI ∧ (∀ P base, FnOk P w K mg base (L2.CX P w) 1 fI fd ["self", "text", "at"] (spInit K)) ∧ Binds K fd ["self", "text", "at"] []
  fns : ∀ f ∈ q.fns, ∃ fa fd ps, mg f = some (.ref fa) ∧ FnB K T q (tx f) fa fd ps
  mets : ∀ km ∈ q.mets, ∃ fd ps, mg km.1 = some (.ref (He.ga K km.1)) ∧ Cls K (He.ga K km.1) ∧ Meth K (He.ga K km.1) km.2 (He.ma K (He.ga K km.1) km.2) ∧ FnB K T q (tx km.1 ++ 46 :: tx km.2) (He.ma K (He.ga K km.1) km.2) fd ps
  clss : ∀ x ∈ q.clss, mg x = some (.ref (He.ga K x)) ∧ Mk K (He.ga K x) (He.ma K (He.ga K x) "__init__") ∧ (x, ("__init__" : Str)) ∈ q.mets ∧ T (tx x) = none
  atts : ∀ kf ∈ q.atts, mg kf.1 = some (.ref (He.ga K kf.1)) ∧ Cls K (He.ga K kf.1) ∧ NoAttr K (He.ga K kf.1) kf.2
def gw (P : Program) (w : World) (K : PySem.W.Frag) (mg : Str → Option Value) (base : Heap) (G : Glob) (T : Tx → Option Fn) (n : Nat) : Gw := ⟨P, w, K, mg, base, G, run G T n⟩
section
variable {P : Program} {w : World} {K : PySem.W.Frag} {mg : Str → Option Value} {base : Heap} {G : Glob} {T : Tx → Option Fn} {q : CG}
theorem lookup_mem {x : Str} {k : NameKind} : ∀ {l : List (Str × NameKind)}, l.lookup x = some k → (x, k) ∈ l
  | [], h => by cases h
  | (y, j) :: r, h => by
    by_cases e : x = y
    · subst e
      simp [List.lookup] at h
      subst h
      exact List.mem_cons_self
    · have : (x == y) = false := beq_eq_false_iff_ne.mpr e
      simp only [List.lookup, this] at h
      exact List.mem_cons_of_mem _ (lookup_mem h)
theorem ok_start {g : Gw} {O : Ow} {H : Hp} {N : List Str} {vs : List V} {ds : List D} (tg : ∀ a, O a ≠ Option.none → H a ≠ Option.none) (l : IsL g.K g.w O H vs ds) {hp : List Cell} (kc : Cells g O H hp) : Ok g O (L2.start N vs) H ⟨ds.map .d ++ List.replicate (N.length - ds.length) .no, hp⟩ := by
  have hl := l.len
  refine ⟨by simp [L2.start, hl], fun i x hx => ?_, tg, kc⟩
  by_cases h : i < ds.length
  · rw [List.getElem?_append_left (by simpa using h), List.getElem?_map] at hx
    cases hd : ds[i]? with
    | none => rw [hd] at hx; cases hx
    | some d =>
      rw [hd] at hx
      cases hx
      obtain ⟨v, hv, iv⟩ := l.get hd
      refine ⟨v, ?_, iv⟩
      unfold L2.start
      rw [List.getElem?_append_left (by simpa [hl] using h), List.getElem?_map, hv]
      rfl
  · rw [List.getElem?_append_right (by simpa using Nat.le_of_not_lt h)] at hx
    rw [List.getElem?_replicate] at hx
    split at hx
    · cases hx; trivial
    · cases hx
theorem FnB.binds {key : Tx} {fa : Addr} {fd : FuncData} {ps : List Str} (h : FnB K T q key fa fd ps) : Binds K fd ps [] := by
  obtain ⟨x, qual, st, N, k, f, chg, vcls, locs, shr, body, F, hb, _⟩ := h
  exact .all hb
theorem FnB.kp {key : Tx} {fa : Addr} {fd : FuncData} {ps : List Str} (h : FnB K T q key fa fd ps) : PySem.W.keepIn K (.ref fa) = true := by
  obtain ⟨x, qual, st, N, k, f, chg, vcls, locs, shr, body, F, hb, _⟩ := h
  exact F.kp
/-- nothing is promised of a def that is never come to -/
theorem fn_never {l : Nat} {fa : Addr} {fd : FuncData} {ps : List Str} {sp : Sp} (no : ∀ vs H Q E, ¬ sp vs H Q E) : Fk P w K mg base l fa fd ps sp :=
  ⟨fun vs H Q E h => absurd h (no vs H Q E), fun A outer s H args us vs Q E _ _ _ _ h => absurd h (no vs H Q E)⟩
/-- all defs, so many calls deep -/
structure Lv (P : Program) (w : World) (K : PySem.W.Frag) (mg : Str → Option Value) (base : Heap) (G : Glob) (T : Tx → Option Fn) (q : CG) (j : Nat) : Prop where
  fns : ∀ f ∈ q.fns, ∃ a fd ps, mg f = some (.ref a) ∧ PySem.W.keepIn K (.ref a) = true ∧ Binds K fd ps [] ∧ Fk P w K mg base (j + 1) a fd ps (spOf (gw P w K mg base G T j) (tx f))
  mets : ∀ km ∈ q.mets, ∃ A fa fd ps, mg km.1 = some (.ref A) ∧ Cls K A ∧ Meth K A km.2 fa ∧ Binds K fd ps [] ∧ Fk P w K mg base (j + 1) fa fd ps (spOf (gw P w K mg base G T j) (tx km.1 ++ 46 :: tx km.2))
  clss : ∀ x ∈ q.clss, ∃ A fa fd ps m c', j + 1 = m + 1 ∧ mg x = some (.ref A) ∧ Mk K A fa ∧ (∀ ds hp, run G T j (tx x) ds hp = mkRet c' (tx x) ds hp) ∧ Binds K fd ps [] ∧ Fk P w K mg base m fa fd ps (spOf ⟨P, w, K, mg, base, G, c'⟩ (tx x ++ initT))
def hideO (O : Ow) : Ow := fun a => match O a with
  | some (.cell _) => some .out
  | o => o
theorem hide_none {O : Ow} {a : Addr} : hideO O a = Option.none ↔ O a = Option.none := by
  unfold hideO
  cases h : O a with
  | none => simp
  | some o => cases o <;> simp
theorem hide_cell {O : Ow} {a : Addr} {i : Nat} : hideO O a ≠ some (.cell i) := by
  unfold hideO
  cases h : O a with
  | none => simp
  | some o => cases o <;> simp
theorem hide_sl {O : Ow} {a : Addr} {i : Nat} (h : O a ≠ some (.sl i)) : hideO O a ≠ some (.sl i) := by
  unfold hideO
  cases e : O a with
  | none => simp
  | some o =>
    rw [e] at h
    cases o <;> simp at h ⊢
    exact h
/-- back to the caller's view -/
def showO (H : Hp) (O O' : Ow) : Ow := fun a => match H a with
  | some _ => O a
  | none => hideO O' a
mutual
theorem Is.nl {K : PySem.W.Frag} {w : World} {O O' : Ow} {H H' : Hp} (e : ∀ a o, H a = some o → O a = Option.none → O' a = Option.none ∧ H' a = some o) : ∀ {v : V} {d : D}, d.noLoc = true → Is K w O H v d → Is K w O' H' v d
  | _, _, _, .non => .non
  | _, _, _, .bl b => .bl b
  | _, _, _, .int i => .int i
  | _, _, _, .str x => .str x
  | _, _, n, .tup h o l => .tup (e _ _ h o).2 (e _ _ h o).1 (IsL.nl e n l)
  | _, _, n, .tupK h l => .tupK h (IsL.nl e n l)
  | _, _, n, .lst h o l => .lst (e _ _ h o).2 (e _ _ h o).1 (IsL.nl e n l)
  | _, _, _, .scr h o => by
    rcases h with h | ⟨x, h⟩
    · exact .scr (.inl (e _ _ h o).2) (e _ _ h o).1
    · exact .scr (.inr ⟨x, (e _ _ h o).2⟩) (e _ _ h o).1
  | _, _, _, .scrK h => .scrK h
  | _, _, n, .dct h o l => by
    rcases h with h | ⟨x, h⟩
    · exact .dct (.inl (e _ _ h o).2) (e _ _ h o).1 (IsK.nl e n l)
    · exact .dct (.inr ⟨x, (e _ _ h o).2⟩) (e _ _ h o).1 (IsK.nl e n l)
  | _, _, _, .dctK h => .dctK h
  | _, _, n, .loc h q => by cases n
theorem IsL.nl {K : PySem.W.Frag} {w : World} {O O' : Ow} {H H' : Hp} (e : ∀ a o, H a = some o → O a = Option.none → O' a = Option.none ∧ H' a = some o) : ∀ {vs : List V} {ds : List D}, D.noLocL ds = true → IsL K w O H vs ds → IsL K w O' H' vs ds
  | _, _, _, .nil => .nil
  | _, _, n, .cons h l => by
    simp only [D.noLocL, Bool.and_eq_true] at n
    exact .cons (Is.nl e n.1 h) (IsL.nl e n.2 l)
theorem IsK.nl {K : PySem.W.Frag} {w : World} {O O' : Ow} {H H' : Hp} (e : ∀ a o, H a = some o → O a = Option.none → O' a = Option.none ∧ H' a = some o) : ∀ {vs : List (Key × V)} {ds : List (Ky × D)}, D.noLocK ds = true → IsK K w O H vs ds → IsK K w O' H' vs ds
  | _, _, _, .nil => .nil
  | _, _, n, .cons h l => by
    simp only [D.noLocK, Bool.and_eq_true] at n
    exact .cons (Is.nl e n.1 h) (IsK.nl e n.2 l)
end
section
variable {g : Gw} {O O' : Ow} {H H' : Hp}
theorem show_ext (e : Ext (hideO O) H O' H') : Ext O H (showO H O O') H' where
  own := fun a h => by
    unfold showO
    cases q : H a with
    | none => exact absurd q h
    | some o => rfl
  keepw := fun a o h hn hc => by
    obtain ⟨o', h1, u⟩ := e.keepw a o h (fun i => hide_sl (hn i)) fun i => hide_cell
    exact ⟨o', h1, u.imp id fun ⟨u, r⟩ => ⟨hide_none.mp u, r⟩⟩
  there := e.there
theorem show_data (e : Ext (hideO O) H O' H') : ∀ a o, H' a = some o → O' a = Option.none → showO H O O' a = Option.none ∧ H' a = some o := fun a o h q => by
  refine ⟨?_, h⟩
  unfold showO
  cases q' : H a with
  | none => exact hide_none.mpr q
  | some o' =>
    have := e.own a (by rw [q']; simp)
    rw [q] at this
    exact hide_none.mp this.symm
theorem show_cells {hp : List Cell} (k : Cells g O H hp) (tg : ∀ a, O a ≠ Option.none → H a ≠ Option.none) (e : Ext (hideO O) H O' H') : Cells g (showO H O O') H' hp :=
  k.ext (show_ext e).data (fun a i h => by
    cases q : H a with
    | none => exact absurd q (tg a (by rw [h]; simp))
    | some o =>
      refine e.keep a o q (fun j => ?_) (fun j => hide_cell) (.inl fun z => by rw [hide_none.mp z] at h; cases h)
      unfold hideO
      rw [h]
      simp) fun a i h => by
    unfold showO at h
    cases q : H a with
    | none => rw [q] at h; exact absurd h hide_cell
    | some o => rw [q] at h; exact h
theorem show_tags (e : Ext (hideO O) H O' H') (tg : ∀ a, O a ≠ Option.none → H a ≠ Option.none) (tg' : ∀ a, O' a ≠ Option.none → H' a ≠ Option.none) : ∀ a, showO H O O' a ≠ Option.none → H' a ≠ Option.none := fun a h => by
  cases q : H a with
  | some o => exact e.there a (by rw [q]; simp)
  | none =>
    unfold showO at h
    rw [q] at h
    exact tg' a fun z => h (hide_none.mpr z)
/-- a call that knows nothing of the store -/
theorem RetP.gone {hp : List Cell} {r : Ret} {Q : VK} {E : XK} (k : Cells g O H hp) (tg : ∀ a, O a ≠ Option.none → H a ≠ Option.none) (h : RetP g O H (r.gone hp) Q E) : RetP g (hideO O) H r Q E := by
  cases r with
  | bad => exact h
  | exn x hp' => exact fun O' H' cls dd e t z i => h (showO H O O') H' cls dd (show_ext e) (show_tags e tg t) (show_cells k tg e) i
  | ok d b hp' =>
    intro O' v H' e t z i
    have h : RetP g O H (if (hp'.isEmpty || d.noLoc) = true then Ret.ok d b hp else .bad) Q E := h
    split at h
    · rename_i hc
      refine h (showO H O O') v H' (show_ext e) (show_tags e tg t) (show_cells k tg e) ?_
      simp only [Bool.or_eq_true] at hc
      rcases hc with hc | hc
      · have he : hp' = [] := by simpa using hc
        subst he
        exact i.ext ⟨fun a o h q => ⟨(show_data e a o h q).1, _, (show_data e a o h q).2, .inl rfl⟩, fun a j _ q => absurd (z.lt a j q) (Nat.not_lt_zero _)⟩
      · exact i.nl (show_data e) hc
    · exact h.elim
end
/-- one def more, one call deeper -/
theorem fn_step {j : Nat} (top : Top w K mg G T q) (ih : Lv P w K mg base G T q j) {key : Tx} {fa : Addr} {fd : FuncData} {ps : List Str} (h : FnB K T q key fa fd ps) : Fk P w K mg base (j + 2) fa fd ps (spOf (gw P w K mg base G T (j + 1)) key) := by
  obtain ⟨x, qual, st, N, k, f, chg, vcls, locs, shr, body, F, hb, S, hc, hT⟩ := h
  -- in the end a run over some store
  have red : ∀ vs H Q E, spOf (gw P w K mg base G T (j + 1)) key vs H Q E → ∃ O ds hp, (∀ a, O a ≠ Option.none → H a ≠ Option.none) ∧ (∀ a i, O a ≠ some (Own.sl i)) ∧ IsL K w O H vs ds ∧ Cells (gw P w K mg base G T j) O H hp ∧ RetP (gw P w K mg base G T j) O H (runFn G (run G T j) ⟨ps.length, N.length, body⟩ ds hp) Q E := fun vs H Q E h => by
    obtain ⟨O, ds, tg, ns, il, hp, kc, rp⟩ := h
    have kc' : Cells (gw P w K mg base G T j) O H hp := kc.to rfl rfl rfl
    simp only [gw, run, hT] at rp
    have rp' : RetP (gw P w K mg base G T j) O H (if D.noLocL ds = true then (runFn G (run G T j) ⟨ps.length, N.length, body⟩ ds []).gone hp else runFn G (run G T j) ⟨ps.length, N.length, body⟩ ds hp) Q E := by
      revert rp
      cases (if D.noLocL ds = true then (runFn G (run G T j) ⟨ps.length, N.length, body⟩ ds []).gone hp else runFn G (run G T j) ⟨ps.length, N.length, body⟩ ds hp) with
      | bad => exact fun z => z
      | ok d b hp' => exact fun z O' v H' a1 a2 a3 a4 => z O' v H' a1 a2 (a3.to rfl rfl rfl) a4
      | exn x hp' => exact fun z O' H' cls dd a1 a2 a3 a4 => z O' H' cls dd a1 a2 (a3.to rfl rfl rfl) a4
    split at rp'
    · rename_i hn
      refine ⟨hideO O, ds, [], fun a ha => tg a fun z => ha (hide_none.mpr z), fun a i => hide_sl (ns a i), IsL.nl (fun a o h q => ⟨hide_none.mpr q, h⟩) hn il, ⟨fun i c h => (by cases h), fun a b i q => absurd q hide_cell, fun a i q => absurd q hide_cell⟩, RetP.gone kc' tg rp'⟩
    · exact ⟨O, ds, hp, tg, ns, il, kc', rp'⟩
  refine fk_of F S (fun vs H Q E h => ?_) (fun cdv A outer s H vs Q E hr h => ?_)
  · obtain ⟨O, ds, hp, tg, ns, il, kc, rp⟩ := red vs H Q E h
    rw [il.len]
    simp only [runFn] at rp
    split at rp
    · assumption
    · exact rp.elim
  · obtain ⟨O, ds, hp, tg, ns, il, kc, rp⟩ := red vs H Q E h
    simp only [runFn] at rp
    split at rp
    · rename_i hlen
      have g : Gs (cxOf (L2.CX P w) P w K mg base N qual (defScope st) fa cdv A outer s H E) G (run G T j) (j + 1) (q.cc N (defScope st) chg vcls locs shr) (fun cls d _ H => E cls d H) O :=
        { gd := { hN := rfl, nd := S.nd, sc := rfl, calm := rfl, room := hr, tk := takes_of rfl rfl rfl rfl, glb := top.glb, gin := top.gin, blt := top.blt, fns := ih.fns, clss := ih.clss, mets := ih.mets, atts := fun kf hk => ⟨_, top.atts kf hk⟩ }
          fn := fun _ => rfl
          kind := S.kind
          po := passes_of rfl
          ns := ns
          exs := top.exs
          exi := fun x hx => (let ⟨b, Cl, B, fI, fd, h1, h2, h3⟩ := top.exi x hx; ⟨b, Cl, B, fI, fd, h1, h2 _ _, h3⟩)
          stk := rfl
          frm := rfl
          cls := top.cls }
      refine ⟨_, cBody_ok (cS_ok G (run G T j) (j + 1) _ f (fun y hy => ?_) k) hc _ _ O H g, O, _, Ext.refl, ok_start (g := gw P w K mg base G T j) (N := N) tg il kc, ?_⟩
      · exact S.nofree _ (lookup_mem hy) rfl
      · revert rp
        show RetP _ O H (match Ft.exs G (run G T j) body ⟨ds.map .d ++ List.replicate (N.length - ds.length) .no, hp⟩ with
          | .nx s => .ok .none false s.hp
          | .rt d b s => .ok d b s.hp
          | .exn x s => .exn x s.hp
          | .bad => .bad) Q E → PostX _ O H _ O H (Ft.exs G (run G T j) body ⟨ds.map .d ++ List.replicate (N.length - ds.length) .no, hp⟩) _
        cases Ft.exs G (run G T j) body ⟨ds.map .d ++ List.replicate (N.length - ds.length) .no, hp⟩ with
        | nx s1 => exact fun rp O' σ' H' e1 e2 k1 => rp O' .non H' e1 k1.tags (k1.cells.to rfl rfl rfl) .non
        | rt d b s1 => exact fun rp O' v H' e1 t1 z1 i1 => rp O' v H' e1 t1 (z1.to rfl rfl rfl) i1
        | exn x s1 => exact fun rp O' σ' H' cls dd e1 _ k1 i1 => rp O' H' cls dd e1 k1.tags (k1.cells.to rfl rfl rfl) i1
        | bad => exact fun rp => rp
    · exact rp.elim
theorem fn_all (top : Top w K mg G T q) : ∀ j, Lv P w K mg base G T q j
  | 0 => by
    have no : ∀ (g : Gw) (key : Tx), (∀ ds hp, g.c key ds hp = .bad) → ∀ vs H Q E, ¬ spOf g key vs H Q E := fun g key hg vs H Q E h => by
      obtain ⟨O, ds, tg, ns, il, hp, kc, rp⟩ := h
      rw [hg] at rp
      exact rp
    refine ⟨fun f hf => ?_, fun km hk => ?_, fun x hx => ?_⟩
    · obtain ⟨fa, fd, ps, hm, B⟩ := top.fns f hf
      exact ⟨fa, fd, ps, hm, B.kp, B.binds, fn_never (no _ _ fun _ _ => rfl)⟩
    · obtain ⟨fd, ps, h1, h2, h3, B⟩ := top.mets km hk
      exact ⟨_, _, fd, ps, h1, h2, h3, B.binds, fn_never (no _ _ fun _ _ => rfl)⟩
    · obtain ⟨h1, h2, h3, h4⟩ := top.clss x hx
      obtain ⟨fd, ps, _, _, _, B⟩ := top.mets _ h3
      exact ⟨_, _, fd, ps, 0, fun _ _ _ => .bad, rfl, h1, h2, fun _ _ => rfl, B.binds, fn_never (no _ _ fun _ _ => rfl)⟩
  | j + 1 => by
    have ih := fn_all top j
    refine ⟨fun f hf => ?_, fun km hk => ?_, fun x hx => ?_⟩
    · obtain ⟨fa, fd, ps, hm, B⟩ := top.fns f hf
      exact ⟨fa, fd, ps, hm, B.kp, B.binds, fn_step top ih B⟩
    · obtain ⟨fd, ps, h1, h2, h3, B⟩ := top.mets km hk
      exact ⟨_, _, fd, ps, h1, h2, h3, B.binds, fn_step top ih B⟩
    · obtain ⟨h1, h2, h3, h4⟩ := top.clss x hx
      obtain ⟨A, fa, fd, ps, q1, q2, q3, q4, q5⟩ := ih.mets _ h3
      have eA : A = He.ga K x := by
        have q1 : mg x = some (.ref A) := q1
        rw [h1] at q1
        cases q1; rfl
      subst eA
      have ef : fa = He.ma K (He.ga K x) "__init__" := by
        have := h2.init.symm.trans q3.at_
        cases this; rfl
      subst ef
      refine ⟨_, _, fd, ps, j + 1, run G T j, rfl, h1, h2, fun ds hp => ?_, q4, q5⟩
      simp only [run, h4]
end
end Ft
set_option Elab.async false
set_option linter.all false
set_option maxRecDepth 100000
set_option maxHeartbeats 4000000
namespace Ft
open PySem PyProof.Rows L2
def vOf : Value → V
  | .none => .non
  | .bool b => .bl b
  | .int i _ => .int i
  | .str x _ => .str x
  | .ref a => .ref a
  | _ => .non
section
variable {K : PySem.W.Frag} {w : World}
theorem kV_ok : ∀ (n : Nat) (u : Value) (d : D), kVal K n u d = true → RelV (vOf u) u ∧ ∀ O H, Is K w O H (vOf u) d := by
  intro n
  induction n with
  | zero => intro u d h; cases h
  | succ n ih =>
    intro u d h
    have ihs : ∀ (us : List Value) (ds : List D), all2 (kVal K n) us ds = true → Vals (us.map vOf) us ∧ ∀ O H, IsL K w O H (us.map vOf) ds := by
      intro us
      induction us with
      | nil =>
        intro ds h
        cases ds with
        | nil => exact ⟨.nil, fun _ _ => .nil⟩
        | cons _ _ => cases h
      | cons u us ih2 =>
        intro ds h
        cases ds with
        | nil => cases h
        | cons d ds =>
          simp only [all2, Bool.and_eq_true] at h
          obtain ⟨r, i⟩ := ih u d h.1
          obtain ⟨rs, is⟩ := ih2 ds h.2
          exact ⟨.cons r rs, fun O H => .cons (i O H) (is O H)⟩
    unfold kVal at h
    split at h
    · exact ⟨rfl, fun _ _ => .non⟩
    · rename_i a b
      have e : a = b := by simpa using h
      subst e
      exact ⟨rfl, fun _ _ => .bl a⟩
    · rename_i i t j
      have e : i = j := by simpa using h
      subst e
      exact ⟨⟨t, rfl⟩, fun _ _ => .int i⟩
    · rename_i x t y
      have e : x = tS y := by simpa using h
      subst e
      exact ⟨⟨t, rfl⟩, fun _ _ => .str y⟩
    · rename_i a ds
      cases hl : K.lookup a with
      | none => rw [hl] at h; cases h
      | some o =>
        rw [hl] at h
        dsimp only at h
        split at h
        · rename_i its m hd
          simp only [Bool.and_eq_true, decide_eq_true_eq] at h
          obtain ⟨⟨h1, h2⟩, h3⟩ := h
          obtain ⟨r, i⟩ := ihs its.toList ds h3
          refine ⟨rfl, fun O H => .tupK (.inr ⟨o, its, m, hl, h1, hd, ?_, r⟩) (i O H)⟩
          rw [sizeLine_eq]
          omega
        · cases h
    · cases h
theorem kEs_ok (w : World) : ∀ (es : List DictEntry) (ds : List (Ky × D)), kEs K es ds = true → es.any (·.refKey) = false ∧ ∀ z : Tx, match look ds (.s z) with
    | some d => ∃ u v, (es.find? (·.key.isStr (tS z))).map (·.val) = some u ∧ RelV v u ∧ IsC v d
    | Option.none => es.find? (·.key.isStr (tS z)) = none
  | [], [], _ => ⟨rfl, fun z => rfl⟩
  | [], _ :: _, h => by simp [kEs] at h
  | _ :: _, [], h => by simp [kEs] at h
  | e :: es, (k, d) :: ds, h => by
    cases k with
    | i n => simp [kEs] at h
    | s x =>
      simp only [kEs, Bool.and_eq_true] at h
      obtain ⟨⟨⟨h1, h2⟩, h3⟩, h4⟩ := h
      obtain ⟨r1, r2⟩ := kEs_ok w es ds h4
      cases hk : e.key with
      | str y t =>
        rw [hk] at h1
        have ey : y = tS x := by simpa using h1
        refine ⟨?_, fun z => ?_⟩
        · have : e.refKey = false := by unfold DictEntry.refKey; rw [hk]
          simp [this, r1]
        · have r2z := r2 z
          by_cases q : x = z
          · subst q
            have hf : (e :: es).find? (·.key.isStr (tS x)) = some e := by
              simp [List.find?, hk, Value.isStr, ey]
            simp only [look, if_true]
            obtain ⟨r, i⟩ := kV_ok (w := w) 1 e.val d h3
            refine ⟨e.val, vOf e.val, by rw [hf]; rfl, r, ?_⟩
            have i0 := i (fun _ => Option.none) (fun _ => Option.none)
            cases d <;> first | (simp at h2; done) | skip
            · generalize vOf e.val = v at i0
              cases i0; rfl
            · generalize vOf e.val = v at i0
              cases i0; rfl
          · have hne : ¬ Ky.s x = Ky.s z := fun c => q (by cases c; rfl)
            have hns : ¬ tS x = tS z := fun c => q (tS_inj c)
            have hb : e.key.isStr (tS z) = false := by
              rw [hk, ey]
              exact beq_eq_false_iff_ne.mpr hns
            have hf : (e :: es).find? (·.key.isStr (tS z)) = es.find? (·.key.isStr (tS z)) := by
              rw [List.find?_cons, hb]
            simp only [look, if_neg hne]
            rw [hf]
            exact r2z
      | _ => rw [hk] at h1; simp at h1
theorem kd_ok {a : Addr} {es : Array DictEntry} {n : Nat} {ds : List (Ky × D)} (h : K.lookup a = some ⟨.type "dict", none, .dict es n, #[]⟩) (hk : PySem.W.KeysLit w.params es.toList) (hs : (a == sysModules) = false) (hc : kEs K es.toList ds = true) : ∀ O H, Is K w O H (.ref a) (.kdc ds) := by
  obtain ⟨h1, h2⟩ := kEs_ok w es.toList ds hc
  refine fun O H => .dctK ⟨es, n, ⟨h, hk, hs⟩, fun z => ?_⟩
  have hz := h2 z
  have nv : PySem.W.nsIn K a (tS z) = some ((es.toList.find? (·.key.isStr (tS z))).map (·.val)) := by
    unfold PySem.W.nsIn
    rw [h]
    dsimp only
    cases es.toList.find? (·.key.isStr (tS z)) with
    | some e => rfl
    | none => simp only [h1]; rfl
  cases hl : look ds (.s z) with
  | some d =>
    rw [hl] at hz
    obtain ⟨u, v, e, r, i⟩ := hz
    exact ⟨u, v, by rw [nv, e], r, i⟩
  | none =>
    rw [hl] at hz
    rw [nv, hz]
    rfl
/-- the module's constants, by a list -/
def GOk (K : PySem.W.Frag) (w : World) (mg : Str → Option Value) (p : Tx × D) : Prop := ∃ u v, mg (tS p.1) = some u ∧ RelV v u ∧ ∀ O H, Is K w O H v p.2
theorem lookG_ok {mg : Str → Option Value} : ∀ {l : List (Tx × D)}, (∀ p ∈ l, GOk K w mg p) → ∀ x d, lookG l x = some d → ∃ u v, mg (tS x) = some u ∧ RelV v u ∧ ∀ O H, Is K w O H v d
  | [], _, x, d, h => by cases h
  | (y, e) :: r, hl, x, d, h => by
    simp only [lookG] at h
    split at h
    · rename_i q
      cases h
      subst q
      exact hl _ List.mem_cons_self
    · exact lookG_ok (fun p hp => hl p (List.mem_cons_of_mem _ hp)) x d h
theorem gok_v {mg : Str → Option Value} {h : Heap} (X : K.In h) (G : h.Ns mainGlobals mg) {x : Tx} {d : D} {u : Value} (a : PySem.W.nsIn K mainGlobals (tS x) = some (some u)) (c : kVal K 9 u d = true) : GOk K w mg (x, d) := by
  obtain ⟨r, i⟩ := kV_ok (w := w) 9 u d c
  exact ⟨u, vOf u, PySem.W.mg_of X G a, r, i⟩
theorem gok_d {mg : Str → Option Value} {h : Heap} (X : K.In h) (G : h.Ns mainGlobals mg) {x : Tx} {ds : List (Ky × D)} {a : Addr} {es : Array DictEntry} {n : Nat} (e : PySem.W.nsIn K mainGlobals (tS x) = some (some (.ref a))) (hl : K.lookup a = some ⟨.type "dict", none, .dict es n, #[]⟩) (hk : PySem.W.KeysLit w.params es.toList) (hs : (a == sysModules) = false) (hc : kEs K es.toList ds = true) : GOk K w mg (x, .kdc ds) :=
  ⟨.ref a, .ref a, PySem.W.mg_of X G e, rfl, kd_ok hl hk hs hc⟩
theorem exk_mk {mg : Str → Option Value} {h : Heap} (X : K.In h) (G : h.Ns mainGlobals mg) {x : Str} {C : Addr} (a : PySem.W.nsIn K mainGlobals x = some (some (.ref C))) (e : PySem.W.excIn K C [.type "ValueError", .type "Exception", .type "BaseException", .type "object"] "ValueError.__new__" = true) (k : PySem.W.keepIn K (.ref C) = true) (b : PySem.W.subIn K (.ref C) (.type "BaseException") = some true) (t : PySem.W.typeIn K (.ref C) = some (.type "type")) : ExK K mg x :=
  ⟨C, PySem.W.mg_of X G a, e, k, b, t⟩
theorem cls_mk {mg : Str → Option Value} {h : Heap} (X : K.In h) (G : h.Ns mainGlobals mg) {exs : List Str} (e : clsN K exs = true) : ∀ x ∈ exs, ∀ h ∈ exs, ∀ A B, mg x = some (.ref A) → mg h = some (.ref B) → PySem.W.exmOne K (.ref A) (.ref B) = some (subT (tx x) (tx h)) := by
  intro x hx y hy A B hA hB
  have q := List.all_eq_true.mp (List.all_eq_true.mp e x hx) y hy
  split at q
  · rename_i A' B' h1 h2
    have a1 := PySem.W.mg_of X G h1
    have a2 := PySem.W.mg_of X G h2
    rw [hA] at a1
    rw [hB] at a2
    cases a1
    cases a2
    exact beq_iff_eq.mp q
  · cases q
theorem fm_nil {α : Type} {P : α → Prop} : ∀ x ∈ ([] : List α), P x := fun x h => by cases h
theorem fm_cons {α : Type} {P : α → Prop} {a : α} {l : List α} (h : P a) (t : ∀ x ∈ l, P x) : ∀ x ∈ a :: l, P x := fun x hx => by
  rcases List.mem_cons.mp hx with rfl | hx
  · exact h
  · exact t x hx
theorem blt_mk {mg : Str → Option Value} {h : Heap} (X : K.In h) (G : h.Ns mainGlobals mg) {x : Str} (e : PySem.W.nsIn K mainGlobals x = some none) : mg x = none := PySem.W.mg_none_of X G e
end
end Ft
set_option Elab.async false
set_option linter.all false
set_option maxRecDepth 100000
set_option maxHeartbeats 4000000
namespace Ft
open PySem PyProof.Rows L2
structure FD.Ok (T : Tx → Option Fn) (q : CG) (d : FD) : Prop where
  sc : FnScope d.N d.ps (defScope d.st)
  cb : cBody (cS 30 30 (q.cc d.N (defScope d.st) d.chg d.vcls d.locs d.shr)) (defBody d.st) = some d.body
  tb : T d.key = some ⟨d.ps.length, d.N.length, d.body⟩
  bd : ∀ (kV doc pm : Value) (an : Option Addr) (cdv ct : Value) (us : List Value), us.length = d.ps.length → bindArgs (PySem.W.fnOf d.x d.qual (defArgs d.st) (defBody d.st) (defScope d.st) .none kV doc pm an cdv ct) ⟨us, []⟩ = pure (d.ps.zip us)
theorem tsOf_mem {x : Tx} {ds : List (Ky × D)} : ∀ {l : List (Tx × D)}, (x, D.kdc ds) ∈ l → ∃ t ∈ tsOf l, t.1 = fun K => He.ga K (tS x)
  | (y, e) :: r, h => by
    rcases List.mem_cons.mp h with q | q
    · cases q
      exact ⟨_, List.mem_cons_self, rfl⟩
    · obtain ⟨t, h1, h2⟩ := tsOf_mem q
      cases e <;> first | exact ⟨t, h1, h2⟩ | exact ⟨t, List.mem_cons_of_mem _ h1, h2⟩
section
variable {q : CG} {dat : List FD} {glo : List (Tx × D)} {K : PySem.W.Frag} {w : World} {mg : Str → Option Value} {h : Heap} {T : Tx → Option Fn}
theorem says_fact (c : obsF q dat glo K = valF dat glo w) {f : He.Fa} (hf : f ∈ fasOf q dat) : f.ok K = true := by
  have c0 : He.obsE (fasOf q dat) (dat.map FD.fnD) K = He.valE (dat.map FD.fnD) := congrArg (fun z : AlF => z.1) c
  have c1 := (He.ba (show (((fasOf q dat).all fun f => f.ok K) && (dat.map FD.fnD).all fun d => (He.Fa.code d.at_ d.qual).ok K) = true from congrArg (fun z : He.Al => z.1) c0)).1
  exact List.all_eq_true.mp c1 f hf
theorem says_def (c : obsF q dat glo K = valF dat glo w) {d : FD} (hd : d ∈ dat) :
    ∃ oc od osl kV doc pm an cdv ct, K.lookup (He.fAd K d.at_) = some ⟨oc, od, .func (PySem.W.fnOf d.x d.qual (defArgs d.st) (defBody d.st) (defScope d.st) .none kV doc pm an cdv ct), osl⟩ ∧ PySem.W.codeIn K cdv d.qual = true := by
  have c0 : He.SaysE (fasOf q dat) (dat.map FD.fnD) K := congrArg (fun z : AlF => z.1) c
  obtain ⟨i, hi⟩ := List.mem_iff_getElem?.mp (List.mem_map.mpr ⟨d, hd, rfl⟩ : d.fnD ∈ dat.map FD.fnD)
  exact c0.def_ i hi
theorem fas_d {d : FD} {f : He.Fa} (hd : d ∈ dat) (hf : f ∈ fasD d) : f ∈ fasOf q dat := List.mem_append_left _ (List.mem_flatMap.mpr ⟨d, hd, hf⟩)
theorem fas_c {x : Str} {f : He.Fa} (hx : x ∈ q.clss) (hf : f ∈ [He.Fa.glo x, .cls x, .mkr x]) : f ∈ fasOf q dat := List.mem_append_right _ (List.mem_append_left _ (List.mem_flatMap.mpr ⟨x, hx, hf⟩))
theorem fas_a {p : Str × Str} (hp : p ∈ q.atts) : He.Fa.noat p.1 p.2 ∈ fasOf q dat := List.mem_append_right _ (List.mem_append_right _ (List.mem_append_left _ (List.mem_map.mpr ⟨p, hp, rfl⟩)))
theorem fas_g {x : Str} (hp : x ∈ q.exs) : He.Fa.glo x ∈ fasOf q dat := List.mem_append_right _ (List.mem_append_right _ (List.mem_append_right _ (List.mem_append_left _ (List.mem_map.mpr ⟨x, hp, rfl⟩))))
theorem fas_e {x : Str} (hp : x ∈ q.exs) : He.Fa.exc x ∈ fasOf q dat := List.mem_append_right _ (List.mem_append_right _ (List.mem_append_right _ (List.mem_append_right _ (List.mem_append_left _ (List.mem_map.mpr ⟨x, hp, rfl⟩)))))
theorem fas_b {x : Str} (hp : x ∈ blts) : He.Fa.free x ∈ fasOf q dat := List.mem_append_right _ (List.mem_append_right _ (List.mem_append_right _ (List.mem_append_right _ (List.mem_append_right _ (List.mem_map.mpr ⟨x, hp, rfl⟩)))))
/-- a def of the module -/
theorem fnB_h (X : K.In h) (hG : h.Ns mainGlobals mg) (c : obsF q dat glo K = valF dat glo w) {d : FD} (hd : d ∈ dat) (o : FD.Ok T q d) (hk : d.k = none) : ∃ fd, mg d.x = some (.ref (He.ga K d.x)) ∧ FnB K T q (tx d.x) (He.ga K d.x) fd d.ps := by
  obtain ⟨oc, od, osl, kV, doc, pm, an, cdv, ct, lk, cd⟩ := says_def c hd
  have ea : d.at_ = (d.x, none) := by unfold FD.at_; rw [hk]
  have ek : d.key = tx d.x := by unfold FD.key; rw [hk]
  rw [ea] at lk
  have a : PySem.W.nsIn K mainGlobals d.x = some (some (.ref (He.ga K d.x))) := He.eqO_ok (says_fact c (f := .glo d.x) (fas_d hd (by unfold fasD; rw [hk]; simp)))
  have kp : PySem.W.keepIn K (.ref (He.ga K d.x)) = true := says_fact c (f := .keep d.x) (fas_d hd (by unfold fasD; rw [hk]; simp))
  exact ⟨_, PySem.W.mg_of X hG a, d.x, d.qual, d.st, d.N, 30, 30, d.chg, d.vcls, d.locs, d.shr, d.body, fun_mk lk cd kp, o.bd kV doc pm an cdv ct, o.sc, o.cb, by rw [← ek]; exact o.tb⟩
/-- a method -/
theorem metB_h (c : obsF q dat glo K = valF dat glo w) {d : FD} (hd : d ∈ dat) (o : FD.Ok T q d) {k : Str} (hk : d.k = some k) : ∃ fd, Meth K (He.ga K k) d.x (He.ma K (He.ga K k) d.x) ∧ FnB K T q (tx k ++ 46 :: tx d.x) (He.ma K (He.ga K k) d.x) fd d.ps := by
  obtain ⟨oc, od, osl, kV, doc, pm, an, cdv, ct, lk, cd⟩ := says_def c hd
  have ea : d.at_ = (k, some d.x) := by unfold FD.at_; rw [hk]
  have ek : d.key = tx k ++ 46 :: tx d.x := by unfold FD.key; rw [hk]
  rw [ea] at lk
  have m := He.meth_ok (says_fact c (f := .meth k d.x) (fas_d hd (by unfold fasD; rw [hk]; simp)))
  exact ⟨_, m, d.x, d.qual, d.st, d.N, 30, 30, d.chg, d.vcls, d.locs, d.shr, d.body, fun_mk lk cd m.kp, o.bd kV doc pm an cdv ct, o.sc, o.cb, by rw [← ek]; exact o.tb⟩
/-- an error class with a field -/
theorem oex_mk {C : Addr} (h : oexB K C = true) : OexC K C := by
  unfold oexB at h
  obtain ⟨h1, h⟩ := He.ba h
  obtain ⟨h2, h⟩ := He.ba h
  obtain ⟨h3, h⟩ := He.ba h
  obtain ⟨h4, h5⟩ := He.ba h
  refine ⟨?_, He.eqO_ok h2, of_decide_eq_true h3, of_decide_eq_true h4, h5⟩
  split at h1
  · rename_i dd cd sl ho
    split at h1
    · rename_i D bm k0 k1 k2 k3 n k5 hm hs
      obtain ⟨g1, h1⟩ := He.ba h1
      obtain ⟨g2, h1⟩ := He.ba h1
      obtain ⟨g3, h1⟩ := He.ba h1
      obtain ⟨g4, g5⟩ := He.ba h1
      have e1 : D = C := of_decide_eq_true g1
      have e2 : n = "ValueError.__new__" := beq_iff_eq.mp g2
      subst e1
      subst e2
      obtain ⟨nm, bs, mro, ns, qn, hd, sn, sub, ab, col, del⟩ := cd
      obtain ⟨l⟩ := sl
      simp only at hm hs g3 g4
      have g3' : del = false := by simpa using g3
      subst hm
      subst hs
      subst g3'
      subst g4
      exact ⟨nm, qn, ns, bs, bm, sn, sub, ab, col, dd, k0, k1, k2, k3, k5, ho, g5⟩
    · cases h1
  · cases h1
theorem exi_mk (X : K.In h) (hG : h.Ns mainGlobals mg) (c : obsF q dat glo K = valF dat glo w) {d : FD} (hd : d ∈ dat) (o : FD.Ok T q d) {e : EI} (hx : d.x = "__init__") (hk : d.k = some e.x) (hp : d.ps = (["self", "text", "at"] : List Str)) (hN : d.N = (["self", "text", "at"] : List Str)) (t : InitT d.st e.b) (hb : exiB K e = true) :
    ∃ b Cl B fI fd, ExF K mg e.x b Cl B fI ∧ (∀ P base, FnOk P w K mg base (L2.CX P w) 1 fI fd ["self", "text", "at"] (spInit K)) ∧ Binds K fd ["self", "text", "at"] [] := by
  obtain ⟨oc, od, osl, kV, doc, pm, an, cdv, ct, lk, cd⟩ := says_def c hd
  have ea : d.at_ = (e.x, some d.x) := by unfold FD.at_; rw [hk]
  rw [ea] at lk
  have m := He.meth_ok (says_fact c (f := .meth e.x d.x) (fas_d hd (by unfold fasD; rw [hk]; simp)))
  unfold exiB at hb
  obtain ⟨b1, hb⟩ := He.ba hb
  obtain ⟨b2, hb⟩ := He.ba hb
  obtain ⟨b3, hb⟩ := He.ba hb
  obtain ⟨b4, hb⟩ := He.ba hb
  obtain ⟨b5, b6⟩ := He.ba hb
  unfold oexU at b4
  obtain ⟨u1, b4⟩ := He.ba b4
  obtain ⟨u2, u3⟩ := He.ba b4
  have F := fun_mk lk cd m.kp
  have u3' : PySem.W.findCls K (.ref (He.ga K e.b)) (.type "type") "__init__" = some (.val (.builtin "ValueError.__init__")) := by
    split at u3
    · rename_i n hn
      rw [hn, beq_iff_eq.mp u3]
    · cases u3
  have bd := o.bd kV doc pm an cdv ct
  rw [hp] at bd
  rw [hx] at m
  have E : ExF K mg e.x e.b (He.ga K e.x) (He.ga K e.b) (He.ma K (He.ga K e.x) "__init__") :=
    ⟨PySem.W.mg_of X hG (He.eqO_ok b1), PySem.W.mg_of X hG (He.eqO_ok b2), oex_mk b3, m.at_, beq_iff_eq.mp m.fn, He.eqO_ok b5, of_decide_eq_true u1, u2, u3', xfB_ok b6⟩
  refine ⟨_, _, _, _, _, E, fun P base => ?_, .all bd⟩
  have F' := F
  rw [hx] at F'
  simp only [hx] at F ⊢
  exact init_ok E F t
/-- what ties the lists together -/
structure CG.Ok (q : CG) (T : Tx → Option Fn) (dat : List FD) (glo : List (Tx × D)) : Prop where
  gin : q.gls.all (fun x => (lookG glo (tx x)).isSome) = true
  fns : q.fns.all (fun f => dat.any fun d => decide (d.x = f) && decide (d.k = none)) = true
  mets : q.mets.all (fun p => decide (p.1 ∈ q.clss) && dat.any fun d => decide (d.x = p.2) && decide (d.k = some p.1)) = true
  clss : q.clss.all (fun x => decide ((x, ("__init__" : Str)) ∈ q.mets) && (T (tx x)).isNone) = true
  atts : q.atts.all (fun p => decide (p.1 ∈ q.clss)) = true
  exi : ∀ e ∈ q.exi, ∃ d ∈ dat, d.x = "__init__" ∧ d.k = some e.x ∧ d.ps = (["self", "text", "at"] : List Str) ∧ d.N = (["self", "text", "at"] : List Str) ∧ InitT d.st e.b
theorem top_h (X : K.In h) (hG : h.Ns mainGlobals mg) (c : obsF q dat glo K = valF dat glo w) (ok : ∀ d ∈ dat, FD.Ok T q d) (qo : q.Ok T dat glo) : Top w K mg (lookG glo) T q := by
  have c2 : (tsOf glo).map (fun t => He.dicW K (t.1 K)) = (tsOf glo).map fun t => some (He.keysIn w.params t.2) := congrArg (fun z : AlF => z.2.1) c
  have c3 : (glo.all (glB K) && (clsN K (q.exs ++ q.exi.map EI.x) && q.exi.all (exiB K))) = true := congrArg (fun z : AlF => z.2.2) c
  obtain ⟨g1, g23⟩ := He.ba c3
  obtain ⟨g2, g3⟩ := He.ba g23
  have clsF : ∀ x ∈ q.clss, mg x = some (.ref (He.ga K x)) ∧ Cls K (He.ga K x) := fun x hx =>
    ⟨He.glo_ok X hG (says_fact c (fas_c hx (by simp))), He.cls_ok (says_fact c (fas_c hx (by simp)))⟩
  refine ⟨lookG_ok fun p hp => ?_, fun x hx => List.all_eq_true.mp qo.gin x hx, fun b hb => ?_, cls_mk X hG g2, fun x hx => ?_, fun x hx => ?_, fun f hf => ?_, fun km hk => ?_, fun x hx => ?_, fun kf hk => ?_⟩
  · obtain ⟨x, d⟩ := p
    have q := List.all_eq_true.mp g1 (x, d) hp
    have plain : (match PySem.W.nsIn K mainGlobals (tS x) with
        | some (some u) => kVal K 9 u d
        | _ => false) = true → GOk K w mg (x, d) := fun q => by
      cases e : PySem.W.nsIn K mainGlobals (tS x) with
      | none => rw [e] at q; cases q
      | some o =>
        rw [e] at q
        cases o with
        | none => cases q
        | some u => exact gok_v X hG e q
    cases d with
    | kdc ds =>
      simp only [glB] at q
      cases e : PySem.W.nsIn K mainGlobals (tS x) with
      | none => rw [e] at q; cases q
      | some o =>
        rw [e] at q
        cases o with
        | none => cases q
        | some u =>
          cases u with
          | ref a =>
            have ga : He.ga K (tS x) = a := by unfold He.ga; rw [e]
            obtain ⟨t, ht, et⟩ := tsOf_mem hp
            obtain ⟨i, hi⟩ := List.mem_iff_getElem?.mp ht
            have e2 : ((tsOf glo).map fun t => He.dicW K (t.1 K))[i]? = ((tsOf glo).map fun t => some (He.keysIn w.params t.2))[i]? := by rw [c2]
            rw [List.getElem?_map, List.getElem?_map, hi] at e2
            obtain ⟨es, n, kd⟩ := He.dicW_ok (Option.some.inj e2)
            rw [et] at kd
            simp only [ga] at kd
            dsimp only at q
            rw [kd.at_] at q
            exact gok_d X hG e kd.at_ kd.lit kd.low q
          | _ => cases q
    | _ => exact plain q
  · exact He.free_ok X hG (says_fact c (fas_b hb))
  · obtain ⟨e1, e2, e3, e4⟩ := He.exc_ok (says_fact c (f := .exc x) (fas_e hx))
    exact exk_mk X hG (He.eqO_ok (says_fact c (f := .glo x) (fas_g hx))) e1 e2 e3 e4
  · obtain ⟨e, he, rfl⟩ := List.mem_map.mp hx
    obtain ⟨d, hd, q1, q2, q3, q4, q5⟩ := qo.exi e he
    exact exi_mk X hG c hd (ok d hd) q1 q2 q3 q4 q5 (List.all_eq_true.mp g3 e he)
  · obtain ⟨d, hd, e⟩ := List.any_eq_true.mp (List.all_eq_true.mp qo.fns f hf)
    simp only [Bool.and_eq_true, decide_eq_true_eq] at e
    obtain ⟨fd, h1, h2⟩ := fnB_h X hG c hd (ok d hd) e.2
    rw [e.1] at h1 h2
    exact ⟨_, fd, _, h1, h2⟩
  · have e := List.all_eq_true.mp qo.mets km hk
    simp only [Bool.and_eq_true, decide_eq_true_eq] at e
    obtain ⟨d, hd, e2⟩ := List.any_eq_true.mp e.2
    simp only [Bool.and_eq_true, decide_eq_true_eq] at e2
    obtain ⟨fd, h1, h2⟩ := metB_h c hd (ok d hd) e2.2
    rw [e2.1] at h1 h2
    exact ⟨fd, _, (clsF _ e.1).1, (clsF _ e.1).2, h1, h2⟩
  · have e := List.all_eq_true.mp qo.clss x hx
    simp only [Bool.and_eq_true, decide_eq_true_eq] at e
    exact ⟨(clsF x hx).1, He.mkr_ok (says_fact c (fas_c hx (by simp))), e.1, by simpa using e.2⟩
  · have e := List.all_eq_true.mp qo.atts kf hk
    simp only [decide_eq_true_eq] at e
    exact ⟨(clsF _ e).1, (clsF _ e).2, He.noat_ok (says_fact c (fas_a hk))⟩
end
/-- the end over a head by facts -/
theorem law_walkH {l : PySem.W.OpenLaw} {pq : Program} {loose : List Str} {XP : (Str → Option Value) → Heap → Prop} {d : DefRec} {n : Nat} {q : CG} {dat : List FD} {glo : List (Tx × D)} {T : Tx → Option Fn} {lev : Nat} {dl : FD} (hn : l.most = some 63) (hdf : d.params.defaults = []) (hd : d.name = "law") {rk : Nat} (hk3 : lev + 14 ≤ 3 * rk) (hr : Room rk callerA)
    (ok : ∀ d ∈ dat, FD.Ok T q d) (qo : q.Ok T dat glo) (hl : dl ∈ dat) (hx : dl.x = "law") (hk : dl.k = none) (hp : dl.ps = (["script"] : List Str))
    (R : ∀ ns : List Int, ns.length ≤ 63 → ∃ fr hp, run (lookG glo) T (lev + 1) (tx "law") [.scr ns] [] = .ok (.bool true) fr hp) : PySem.W.WalkO pq loose XP (hookF n q dat glo).says l.row.toRowW d [] (fun f vs => PySem.call f vs) := by
  refine LamX.walk_ofTsE (n := 63) (k := rk) (x := "script") (CX := fun w => L2.CX l.prog w) hn (by rw [sizeLine_eq]; decide) hdf hr ?_ ?_
  · intro w mg fa h Y hG hmg
    rw [hd] at hmg
    obtain ⟨K, KX, c⟩ := Y
    have top := top_h KX hG c ok qo
    obtain ⟨fd, hm, A⟩ := fnB_h KX hG c hl (ok dl hl) hk
    rw [hx, hp] at A
    rw [hx] at hm
    have ea : fa = He.ga K "law" := by
      rw [hmg] at hm
      cases hm
      rfl
    subst ea
    refine ⟨K, KX, fd, [], fun vs H Q E => ∃ O ds, (∀ a, O a ≠ Option.none → H a ≠ Option.none) ∧ (∀ a i, O a ≠ some (Own.sl i)) ∧ (∀ a i, O a ≠ some (Own.cell i)) ∧ IsL K w O H vs ds ∧ ∃ ns : List Int, ns.length ≤ 63 ∧ ds = [.scr ns] ∧ ∀ v H', v = .bl true → Q v H', fm_nil, fm_nil, fm_nil, fun s u => ?_, fun H a ns hl _ _ hS => ?_, fun base _ _ _ => ?_⟩
    · obtain ⟨_, _, _, _, _, _, _, _, _, _, _, F, hb, _⟩ := A
      exact .of_eq (hb [u] rfl)
    · refine ⟨fun _ => Option.none, [.scr ns], fun a h => absurd rfl h, (fun a i h => by cases h), (fun a i h => by cases h), .cons ?_ .nil, ns, hl, rfl, fun v H' h => h⟩
      rcases hS with h | h
      · exact .scr h rfl
      · exact .scrK (.inr h)
    · have ok := fn_step (P := l.prog) (base := base) (j := lev) top (fn_all top lev) A
      refine (ok.toOk hk3).imp fun vs H Q E hq => ?_
      obtain ⟨O, ds, h1, h2, hcl, h3, ns, hl, rfl, hQ⟩ := hq
      refine ⟨O, [.scr ns], h1, h2, h3, [], ⟨fun i c h => (by cases h), fun a b i q => absurd q (hcl a i), fun a i q => absurd q (hcl a i)⟩, ?_⟩
      obtain ⟨fr, hp, e⟩ := R ns hl
      show RetP _ O H (run (lookG glo) T (lev + 1) (tx "law") [.scr ns] []) Q E
      rw [e]
      intro O' v H' _ _ _ iv
      cases iv
      exact hQ _ _ rfl
  · intro w H s e s' h
    obtain ⟨_, _, _, _, _, _, _, _, _, _, _, _, z⟩ := h
    exact z
end Ft
set_option linter.all false
set_option maxRecDepth 100000
namespace Fp
open Ft
section
variable {α β : Type} {a : α} {s : St}
@[simp] theorem r_ok (f : α → St → R β) : (R.ok a s).bind f = f a s := rfl
@[simp] theorem r_some : R.of (some a) s = .ok a s := rfl
theorem r_none : R.of (Option.none : Option α) s = .bad := rfl
@[simp] theorem x_ok (f : α → St → X) : X.ofR (R.ok a s) f = f a s := rfl
@[simp] theorem x_nx (f : St → X) : (X.nx s).then_ f = f s := rfl
@[simp] theorem x_rt {d : D} {b : Bool} (f : St → X) : (X.rt d b s).then_ f = .rt d b s := rfl
@[simp] theorem x_exn {x : Exn} (f : St → X) : (X.exn x s).then_ f = .exn x s := rfl
end
@[simp] theorem get_d {env : List Sl} {hp : List Cell} {i : Nat} {x : D} (h : env[i]? = some (.d x)) : St.get ⟨env, hp⟩ i = some x := by
  simp only [St.get, h]
@[simp] theorem set_mk (env : List Sl) (hp : List Cell) (i : Nat) (x : Sl) : St.set ⟨env, hp⟩ i x = ⟨env.set i x, hp⟩ := rfl
section
variable (G : Glob) (c : Oracle)
/-- one turn of a comprehension -/
def compF (tg : List Nat) (cond : List E) (elt : E) (x : D) (s : St) : R (Option D) := match setT s tg x with
  | Option.none => .bad
  | some s => (evt G c cond s).bind fun b s => if b then (ev G c elt s).bind fun d s => .ok (some d) (wipeS s tg) else .ok Option.none (wipeS s tg)
/-- the items, or none -/
@[simp] def itemsR (k : It) (ds : List D) (s : St) : R (List D) := R.of (items k ds) s
def kComp3 (s : St) (tg : List Nat) (ds : List D) (s' : St) : R D := .ok (.lst ds) (backS s s' tg)
@[simp] theorem kComp3_a (s : St) (tg : List Nat) (ds : List D) (s' : St) : kComp3 s tg ds s' = .ok (.lst ds) (backS s s' tg) := rfl
def kComp2 (tg : List Nat) (cond : List E) (elt : E) (its : List D) (s : St) : R D := (compL (compF G c tg cond elt) its [] (wipeS s tg)).bind (kComp3 s tg)
@[simp] theorem kComp2_a (tg : List Nat) (cond : List E) (elt : E) (its : List D) (s : St) : kComp2 G c tg cond elt its s = (compL (compF G c tg cond elt) its [] (wipeS s tg)).bind (kComp3 s tg) := rfl
def kComp1 (k : It) (tg : List Nat) (cond : List E) (elt : E) (ds : List D) (s : St) : R D := (itemsR k ds s).bind (kComp2 G c tg cond elt)
@[simp] theorem kComp1_a (k : It) (tg : List Nat) (cond : List E) (elt : E) (ds : List D) (s : St) : kComp1 G c k tg cond elt ds s = (itemsR k ds s).bind (kComp2 G c tg cond elt) := rfl
@[simp] theorem ev_comp (k : It) (src : List E) (tg : List Nat) (cond : List E) (elt : E) (s : St) : ev G c (.comp k src tg cond elt) s = (evs G c src s).bind (kComp1 G c k tg cond elt) := by
  rw [ev]
  congr 1
  funext ds s
  unfold kComp1 itemsR
  cases items k ds <;> rfl
/-- what a call comes to -/
def callR (f : Tx) (ds : List D) (s : St) : R D := match c f ds s.hp with
    | .ok d _ hp => .ok d { s with hp := hp }
    | .exn x hp => .exn x { s with hp := hp }
    | .bad => .bad
@[simp] theorem ev_callR (f : Tx) (es : List E) (s : St) : ev G c (.call f es) s = (evs G c es s).bind (callR c f) := by rw [ev]; rfl
variable {c}
theorem call_ok {f : Tx} {ds : List D} {env : List Sl} {hp hp' : List Cell} {d : D} {b : Bool} (h : c f ds hp = .ok d b hp') : callR c f ds ⟨env, hp⟩ = .ok d ⟨env, hp'⟩ := by
  simp only [callR, h]
variable (c)
/-- one turn of a loop -/
def forF (tg : List Nat) (body : List Sm) (x : D) (s : St) : X := match setT s tg x with
  | some s => exs G c body s
  | Option.none => .bad
def kFor1 (k : It) (tg : List Nat) (body : List Sm) (ds : List D) (s : St) : X := X.ofR (itemsR k ds s) (forL (forF G c tg body))
@[simp] theorem kFor1_a (k : It) (tg : List Nat) (body : List Sm) (ds : List D) (s : St) : kFor1 G c k tg body ds s = X.ofR (itemsR k ds s) (forL (forF G c tg body)) := rfl
@[simp] theorem ex_forr (k : It) (src : List E) (tg : List Nat) (body : List Sm) (s : St) : ex G c (.forr k src tg body) s = X.ofR (evs G c src s) (kFor1 G c k tg body) := by
  rw [ex]
  congr 1
  funext ds s
  unfold kFor1 itemsR
  cases items k ds <;> rfl
/-- a test's two ways -/
def byT (o : Option Bool) (a b : X) : X := match o with
  | some true => a
  | some false => b
  | Option.none => .bad
@[simp] theorem byT_t {a b : X} : byT (some true) a b = a := rfl
@[simp] theorem byT_f {a b : X} : byT (some false) a b = b := rfl
def kIff (a b : List Sm) (d : D) (s : St) : X := byT d.tru (exs G c a s) (exs G c b s)
@[simp] theorem kIff_a (a b : List Sm) (d : D) (s : St) : kIff G c a b d s = byT d.tru (exs G c a s) (exs G c b s) := rfl
@[simp] theorem ex_iff (e : E) (a b : List Sm) (s : St) : ex G c (.iff e a b) s = X.ofR (ev G c e s) (kIff G c a b) := by
  rw [ex]
  congr 1
def byR {α : Type} (o : Option Bool) (a b : R α) : R α := match o with
  | some true => a
  | some false => b
  | Option.none => .bad
@[simp] theorem byR_t {α : Type} {a b : R α} : byR (some true) a b = a := rfl
@[simp] theorem byR_f {α : Type} {a b : R α} : byR (some false) a b = b := rfl
def kAnd (b : E) (x : D) (s : St) : R D := byR x.tru (ev G c b s) (.ok x s)
@[simp] theorem kAnd_a (b : E) (x : D) (s : St) : kAnd G c b x s = byR x.tru (ev G c b s) (.ok x s) := rfl
def kOr (b : E) (x : D) (s : St) : R D := byR x.tru (.ok x s) (ev G c b s)
@[simp] theorem kOr_a (b : E) (x : D) (s : St) : kOr G c b x s = byR x.tru (.ok x s) (ev G c b s) := rfl
def kIte (a b : E) (x : D) (s : St) : R D := byR x.tru (ev G c a s) (ev G c b s)
@[simp] theorem kIte_a (a b : E) (x : D) (s : St) : kIte G c a b x s = byR x.tru (ev G c a s) (ev G c b s) := rfl
def kEvt (es : List E) (d : D) (s : St) : R Bool := byR d.tru (evt G c es s) (.ok false s)
@[simp] theorem kEvt_a (es : List E) (d : D) (s : St) : kEvt G c es d s = byR d.tru (evt G c es s) (.ok false s) := rfl
@[simp] theorem ev_and (a b : E) (s : St) : ev G c (.and_ a b) s = (ev G c a s).bind (kAnd G c b) := by
  rw [ev]
  rfl
@[simp] theorem ev_or (a b : E) (s : St) : ev G c (.or_ a b) s = (ev G c a s).bind (kOr G c b) := by
  rw [ev]
  rfl
@[simp] theorem ev_ite (e a b : E) (s : St) : ev G c (.ite e a b) s = (ev G c e s).bind (kIte G c a b) := by
  rw [ev]
  rfl
@[simp] theorem evt_cons (e : E) (es : List E) (s : St) : evt G c (e :: es) s = (ev G c e s).bind (kEvt G c es) := by
  rw [evt]
  rfl
end
/-- the truth of data that is True or False -/
@[simp] theorem tru_b (b : Bool) : (D.bool b).tru = some b := rfl
theorem compL_nil (f : D → St → R (Option D)) (acc : List D) (s : St) : compL f [] acc s = .ok acc s := rfl
@[simp] theorem forL_nil (f : D → St → X) (s : St) : forL f [] s = .nx s := rfl
@[simp] theorem forL_cons (f : D → St → X) (x : D) (r : List D) (s : St) : forL f (x :: r) s = (f x s).then_ (forL f r) := rfl
theorem compL_some {f : D → St → R (Option D)} {x d : D} {r acc : List D} {s s' : St} (h : f x s = .ok (some d) s') (l : acc.length < LIM) : compL f (x :: r) acc s = compL f r (acc ++ [d]) s' := by
  rw [compL, h]
  simp only [l, if_true]
theorem compL_skip {f : D → St → R (Option D)} {x : D} {r acc : List D} {s s' : St} (h : f x s = .ok Option.none s') : compL f (x :: r) acc s = compL f r acc s' := by
  rw [compL, h]
/-- a comprehension whose turns leave the frame as it was -/
theorem compL_all {f : D → St → R (Option D)} {g : D → Option D} {s : St} : ∀ {xs acc : List D}, (∀ x ∈ xs, f x s = .ok (g x) s) → acc.length + xs.length ≤ LIM → compL f xs acc s = .ok (acc ++ xs.filterMap g) s
  | [], acc, _, _ => by simp [compL]
  | x :: r, acc, h, l => by
    have hx := h x List.mem_cons_self
    rw [List.length_cons] at l
    cases e : g x with
    | none =>
      rw [e] at hx
      rw [compL_skip hx, compL_all (fun y hy => h y (List.mem_cons_of_mem _ hy)) (by omega), List.filterMap_cons_none e]
    | some d =>
      rw [e] at hx
      rw [compL_some hx (by omega), compL_all (fun y hy => h y (List.mem_cons_of_mem _ hy)) (by rw [List.length_append]; simp; omega), List.filterMap_cons_some e]
      simp
theorem inSeq_str (x : Tx) (ys : List Tx) : inSeq (.str x) (ys.map .str) = some (decide (x ∈ ys)) := by
  have h1 : (ys.map D.str).all D.flat = true := by simp [D.flat]
  have h2 : ((ys.map D.str).any fun y => D.eqv y (.str x)) = decide (x ∈ ys) := by
    rw [Bool.eq_iff_iff, List.any_eq_true, decide_eq_true_eq]
    constructor
    · rintro ⟨y, hy, q⟩
      obtain ⟨z, hz, rfl⟩ := List.mem_map.mp hy
      have : z = x := by simpa [D.eqv] using q
      exact this ▸ hz
    · intro h
      exact ⟨.str x, List.mem_map.mpr ⟨x, h, rfl⟩, by simp [D.eqv]⟩
  have h3 : D.flat (.str x) = true := rfl
  simp only [inSeq, h1, h3, Bool.and_self, if_true, h2]
section
variable (G : Glob) (c : Oracle) (s : St)
@[simp] theorem ev_var (i : Nat) : ev G c (.var i) s = R.of (s.get i) s := by rw [ev]
@[simp] theorem ev_cst (d : D) : ev G c (.cst d) s = .ok d s := by rw [ev]
@[simp] theorem ev_glb (x : Tx) : ev G c (.glb x) s = R.of (G x) s := by rw [ev]
end
def rcvR (m : Mt) (x : D) (a : R D) : R D := if rcv m x then a else .bad
/-- what stands in a slot of one's own -/
def ownS {α : Type} (s : St) (i : Nat) (a : List D → α) (b : List (Ky × D) → α) (z : α) : α := match s.env[i]? with
  | some (.ol xs) => a xs
  | some (.od kvs) => b kvs
  | _ => z
def byO (o : Option D) (a b : R D) : R D := match o with
  | some (.bool true) => a
  | some (.bool false) => b
  | _ => .bad
def kTup  (ds : List D) (s : St) : R D := .ok (.tup ds) s
@[simp] theorem kTup_a  (ds : List D) (s : St) : kTup   ds s = .ok (.tup ds) s := rfl
def kLst  (ds : List D) (s : St) : R D := .ok (.lst ds) s
@[simp] theorem kLst_a  (ds : List D) (s : St) : kLst   ds s = .ok (.lst ds) s := rfl
def kUn (o : O1) (x : D) (s : St) : R D := R.of (op1 o x) s
@[simp] theorem kUn_a (o : O1) (x : D) (s : St) : kUn  o x s = R.of (op1 o x) s := rfl
def kBi2 (o : O2) (x : D) (y : D) (s : St) : R D := R.of (op2 o x y) s
@[simp] theorem kBi2_a (o : O2) (x : D) (y : D) (s : St) : kBi2  o x y s = R.of (op2 o x y) s := rfl
def kBi1 (G : Glob) (c : Oracle) (o : O2) (b : E) (x : D) (s : St) : R D := (ev G c b s).bind (kBi2 o x)
@[simp] theorem kBi1_a (G : Glob) (c : Oracle) (o : O2) (b : E) (x : D) (s : St) : kBi1  G c o b x s = (ev G c b s).bind (kBi2 o x) := rfl
def kCh3 (p : O2) (y : D) (z : D) (s : St) : R D := R.of (op2 p y z) s
@[simp] theorem kCh3_a (p : O2) (y : D) (z : D) (s : St) : kCh3  p y z s = R.of (op2 p y z) s := rfl
def kCh2 (G : Glob) (c : Oracle) (o p : O2) (e : E) (x : D) (y : D) (s : St) : R D := byO (op2 o x y) ((ev G c e s).bind (kCh3 p y)) (.ok (.bool false) s)
@[simp] theorem kCh2_a (G : Glob) (c : Oracle) (o p : O2) (e : E) (x : D) (y : D) (s : St) : kCh2  G c o p e x y s = byO (op2 o x y) ((ev G c e s).bind (kCh3 p y)) (.ok (.bool false) s) := rfl
def kCh1 (G : Glob) (c : Oracle) (o p : O2) (b e : E) (x : D) (s : St) : R D := (ev G c b s).bind (kCh2 G c o p e x)
@[simp] theorem kCh1_a (G : Glob) (c : Oracle) (o p : O2) (b e : E) (x : D) (s : St) : kCh1  G c o p b e x s = (ev G c b s).bind (kCh2 G c o p e x) := rfl
def kSlc3 (x : D) (l : Option Int) (h : Option Int) (s : St) : R D := R.of (slice x l h) s
@[simp] theorem kSlc3_a (x : D) (l : Option Int) (h : Option Int) (s : St) : kSlc3  x l h s = R.of (slice x l h) s := rfl
def kSlc2 (G : Glob) (c : Oracle) (hi : Option E) (x : D) (l : Option Int) (s : St) : R D := (evo G c hi s).bind (kSlc3 x l)
@[simp] theorem kSlc2_a (G : Glob) (c : Oracle) (hi : Option E) (x : D) (l : Option Int) (s : St) : kSlc2  G c hi x l s = (evo G c hi s).bind (kSlc3 x l) := rfl
def kSlc1 (G : Glob) (c : Oracle) (lo hi : Option E) (x : D) (s : St) : R D := (evo G c lo s).bind (kSlc2 G c hi x)
@[simp] theorem kSlc1_a (G : Glob) (c : Oracle) (lo hi : Option E) (x : D) (s : St) : kSlc1  G c lo hi x s = (evo G c lo s).bind (kSlc2 G c hi x) := rfl
def kMt2 (m : Mt) (x : D) (ds : List D) (s : St) : R D := R.of (mop m x ds) s
@[simp] theorem kMt2_a (m : Mt) (x : D) (ds : List D) (s : St) : kMt2  m x ds s = R.of (mop m x ds) s := rfl
def kMt1 (G : Glob) (c : Oracle) (m : Mt) (es : List E) (x : D) (s : St) : R D := rcvR m x ((evs G c es s).bind (kMt2 m x))
@[simp] theorem kMt1_a (G : Glob) (c : Oracle) (m : Mt) (es : List E) (x : D) (s : St) : kMt1  G c m es x s = rcvR m x ((evs G c es s).bind (kMt2 m x)) := rfl
def kNinA (x : D) (s : St) (xs : List D) : R D := R.of ((inSeq x xs).map fun b => .bool !b) s
@[simp] theorem kNinA_a (x : D) (s : St) (xs : List D) : kNinA  x s xs = R.of ((inSeq x xs).map fun b => .bool !b) s := rfl
def kNinB (x : D) (s : St) (kvs : List (Ky × D)) : R D := R.of ((ky x).map fun k => .bool !(look kvs k).isSome) s
@[simp] theorem kNinB_a (x : D) (s : St) (kvs : List (Ky × D)) : kNinB  x s kvs = R.of ((ky x).map fun k => .bool !(look kvs k).isSome) s := rfl
def kONin (i : Nat) (x : D) (s : St) : R D := ownS s i (kNinA x s) (kNinB x s) .bad
@[simp] theorem kONin_a (i : Nat) (x : D) (s : St) : kONin  i x s = ownS s i (kNinA x s) (kNinB x s) .bad := rfl
def kInA (x : D) (s : St) (xs : List D) : R D := R.of ((inSeq x xs).map .bool) s
@[simp] theorem kInA_a (x : D) (s : St) (xs : List D) : kInA  x s xs = R.of ((inSeq x xs).map .bool) s := rfl
def kInB (x : D) (s : St) (kvs : List (Ky × D)) : R D := R.of ((ky x).map fun k => .bool (look kvs k).isSome) s
@[simp] theorem kInB_a (x : D) (s : St) (kvs : List (Ky × D)) : kInB  x s kvs = R.of ((ky x).map fun k => .bool (look kvs k).isSome) s := rfl
def kOIn (i : Nat) (x : D) (s : St) : R D := ownS s i (kInA x s) (kInB x s) .bad
@[simp] theorem kOIn_a (i : Nat) (x : D) (s : St) : kOIn  i x s = ownS s i (kInA x s) (kInB x s) .bad := rfl
def kEvs2 (d : D) (ds : List D) (s : St) : R (List D) := .ok (d :: ds) s
@[simp] theorem kEvs2_a (d : D) (ds : List D) (s : St) : kEvs2  d ds s = .ok (d :: ds) s := rfl
def kEvs1 (G : Glob) (c : Oracle) (es : List E) (d : D) (s : St) : R (List D) := (evs G c es s).bind (kEvs2 d)
@[simp] theorem kEvs1_a (G : Glob) (c : Oracle) (es : List E) (d : D) (s : St) : kEvs1  G c es d s = (evs G c es s).bind (kEvs2 d) := rfl
def kRet  (d : D) (s : St) : X := .rt d false s
@[simp] theorem kRet_a  (d : D) (s : St) : kRet   d s = .rt d false s := rfl
def kExq  (d : D) (s : St) : X := .nx s
@[simp] theorem kExq_a  (d : D) (s : St) : kExq   d s = .nx s := rfl
section
variable (G : Glob) (c : Oracle) (s : St)
@[simp] theorem ev_tup (es : List E) : ev G c (.tup es) s = (evs G c es s).bind kTup := by rw [ev]; rfl
@[simp] theorem ev_lst (es : List E) : ev G c (.lst es) s = (evs G c es s).bind kLst := by rw [ev]; rfl
@[simp] theorem ev_emp : ev G c .emp s = .ok (.dct []) s := by rw [ev]
@[simp] theorem ev_un (o : O1) (a : E) : ev G c (.un o a) s = (ev G c a s).bind (kUn o) := by rw [ev]; rfl
@[simp] theorem ev_bi (o : O2) (a b : E) : ev G c (.bi o a b) s = (ev G c a s).bind (kBi1 G c o b) := by rw [ev]; rfl
@[simp] theorem byO_t {a b : R D} : byO (some (.bool true)) a b = a := rfl
@[simp] theorem byO_f {a b : R D} : byO (some (.bool false)) a b = b := rfl
@[simp] theorem ev_ch (o p : O2) (a b e : E) : ev G c (.ch o p a b e) s = (ev G c a s).bind (kCh1 G c o p b e) := by
  rw [ev]
  rfl
@[simp] theorem ev_slc (a : E) (lo hi : Option E) : ev G c (.slc a lo hi) s = (ev G c a s).bind (kSlc1 G c lo hi) := by rw [ev]; rfl
@[simp] theorem ev_mt (m : Mt) (a : E) (es : List E) : ev G c (.mt m a es) s = (ev G c a s).bind (kMt1 G c m es) := by
  rw [ev]
  rfl
@[simp] theorem rcv_join {x : Tx} {a : R D} : rcvR .join (.str x) a = a := rfl
@[simp] theorem own_l {α : Type} {env : List Sl} {hp : List Cell} {i : Nat} {xs : List D} {a : List D → α} {b : List (Ky × D) → α} {z : α} (h : env[i]? = some (.ol xs)) : ownS ⟨env, hp⟩ i a b z = a xs := by simp only [ownS, h]
@[simp] theorem ev_oNin (e : E) (i : Nat) : ev G c (.oNin e i) s = (ev G c e s).bind (kONin i) := by
  rw [ev]
  rfl
@[simp] theorem ev_oIn (e : E) (i : Nat) : ev G c (.oIn e i) s = (ev G c e s).bind (kOIn i) := by
  rw [ev]
  rfl
def lenZ (s : St) : Option D → R D
  | some (.lst xs) => .ok (.int xs.length) s
  | _ => .bad
@[simp] theorem lenZ_a (s : St) (xs : List D) : lenZ s (some (.lst xs)) = .ok (.int xs.length) s := rfl
@[simp] theorem ev_oLen (i : Nat) : ev G c (.oLen i) s = ownS s i (fun xs => .ok (.int xs.length) s) (fun kvs => .ok (.int kvs.length) s) (lenZ s (s.get i)) := by
  rw [ev]
  unfold ownS St.get
  cases s.env[i]? with
  | none => rfl
  | some y => cases y with
    | d x => cases x <;> rfl
    | _ => rfl
@[simp] theorem evs_nil : evs G c [] s = .ok [] s := by rw [evs]
@[simp] theorem evs_cons (e : E) (es : List E) : evs G c (e :: es) s = (ev G c e s).bind (kEvs1 G c es) := by rw [evs]; rfl
@[simp] theorem evo_none : evo G c Option.none s = .ok Option.none s := by rw [evo]
def intR (d : D) (s : St) : R (Option Int) := match d with
  | .int i => .ok (some i) s
  | _ => .bad
@[simp] theorem intR_int {i : Int} {s : St} : intR (.int i) s = .ok (some i) s := rfl
@[simp] theorem evo_some (e : E) : evo G c (some e) s = (ev G c e s).bind intR := by
  rw [evo]
  rfl
@[simp] theorem evt_nil : evt G c [] s = .ok true s := by rw [evt]
@[simp] theorem exs_nil : exs G c [] s = .nx s := by rw [exs]
@[simp] theorem exs_cons (a : Sm) (r : List Sm) : exs G c (a :: r) s = (ex G c a s).then_ (exs G c r) := by rw [exs]
@[simp] theorem ex_ret (e : E) : ex G c (.ret e) s = X.ofR (ev G c e s) kRet := by rw [ex]; rfl
@[simp] theorem ex_rais (x : Tx) : ex G c (.rais x) s = .exn ⟨x, Option.none⟩ s := by rw [ex]
theorem ex_pass : ex G c .pass s = .nx s := by rw [ex]
def putD (i : Nat) (d : Sl) (s : St) : X := if i < s.env.length then .nx (s.set i d) else .bad
@[simp] theorem putD_mk {i : Nat} {d : Sl} {env : List Sl} {hp : List Cell} (h : i < env.length) : putD i d ⟨env, hp⟩ = .nx ⟨env.set i d, hp⟩ := by simp only [putD, h, if_true]; rfl
def kAsg (i : Nat) (d : D) (s : St) : X := putD i (.d d) s
@[simp] theorem kAsg_a (i : Nat) (d : D) (s : St) : kAsg  i d s = putD i (.d d) s := rfl
@[simp] theorem ex_asg (i : Nat) (e : E) : ex G c (.asg i e) s = X.ofR (ev G c e s) (kAsg i) := by
  rw [ex]
  rfl
def putO (i : Nat) (d : D) (s : St) : X := if i < s.env.length then (match d with
    | .lst xs => .nx (s.set i (.ol xs))
    | .dct kvs => .nx (s.set i (.od kvs))
    | _ => .bad) else .bad
@[simp] theorem putO_l {i : Nat} {xs : List D} {env : List Sl} {hp : List Cell} (h : i < env.length) : putO i (.lst xs) ⟨env, hp⟩ = .nx ⟨env.set i (.ol xs), hp⟩ := by simp only [putO, h, if_true]; rfl
@[simp] theorem ex_asgO (i : Nat) (e : E) : ex G c (.asgO i e) s = X.ofR (ev G c e s) (putO i) := by
  rw [ex]
  rfl
def getX (o : Option D) (f : D → X) : X := match o with
  | some x => f x
  | Option.none => .bad
@[simp] theorem getX_s {x : D} {f : D → X} : getX (some x) f = f x := rfl
def augP (i : Nat) (o : O2) (x d : D) (s : St) : X := match x, d with
      | .int m, .int n => (match o with
        | .add => if i < s.env.length then .nx (s.set i (.d (.int (m + n)))) else .bad
        | .sub => if i < s.env.length then .nx (s.set i (.d (.int (m - n)))) else .bad
        | _ => .bad)
      | _, _ => .bad
@[simp] theorem aug_s {i : Nat} {m n : Int} {s : St} : augP i .sub (.int m) (.int n) s = putD i (.d (.int (m - n))) s := rfl
@[simp] theorem aug_a {i : Nat} {m n : Int} {s : St} : augP i .add (.int m) (.int n) s = putD i (.d (.int (m + n))) s := rfl
def kAug (i : Nat) (o : O2) (e : E) (s : St) (x : D) : X := X.ofR (ev G c e s) (augP i o x)
@[simp] theorem kAug_a (i : Nat) (o : O2) (e : E) (s : St) (x : D) : kAug G c i o e s x = X.ofR (ev G c e s) (augP i o x) := rfl
@[simp] theorem ex_aug (i : Nat) (o : O2) (e : E) : ex G c (.aug i o e) s = getX (s.get i) (kAug G c i o e s) := by
  rw [ex]
  rfl
def appP (i : Nat) (xs : List D) (d : D) (s : St) : X := if xs.length < LIM then .nx (s.set i (.ol (xs ++ [d]))) else .bad
@[simp] theorem appP_l {i : Nat} {xs : List D} {d : D} {env : List Sl} {hp : List Cell} (h : xs.length < LIM) : appP i xs d ⟨env, hp⟩ = .nx ⟨env.set i (.ol (xs ++ [d])), hp⟩ := by simp only [appP, h, if_true]; rfl
def kApp3 (i : Nat) (d : D) (s : St) (xs : List D) : X := appP i xs d s
@[simp] theorem kApp3_a (i : Nat) (d : D) (s : St) (xs : List D) : kApp3  i d s xs = appP i xs d s := rfl
def kBadK  (kvs : List (Ky × D)) : X := .bad
@[simp] theorem kBadK_a  (kvs : List (Ky × D)) : kBadK   kvs = .bad := rfl
def kApp2 (i : Nat) (d : D) (s : St) : X := ownS s i (kApp3 i d s) kBadK .bad
@[simp] theorem kApp2_a (i : Nat) (d : D) (s : St) : kApp2  i d s = ownS s i (kApp3 i d s) kBadK .bad := rfl
def kApp1 (i : Nat) (e : E) (s : St) (xs : List D) : X := X.ofR (ev G c e s) (kApp2 i)
@[simp] theorem kApp1_a (i : Nat) (e : E) (s : St) (xs : List D) : kApp1 G c i e s xs = X.ofR (ev G c e s) (kApp2 i) := rfl
@[simp] theorem ex_app (i : Nat) (e : E) : ex G c (.app i e) s = ownS s i (kApp1 G c i e s) kBadK .bad := by
  rw [ex]
  unfold kApp1 kApp2 kApp3 kBadK ownS
  split <;> rename_i h
  · rw [h]
    simp only
    congr 1
    funext d s
    split <;> rename_i h2
    · rw [h2]; rfl
    · cases e2 : s.env[i]? with
      | none => rfl
      | some q => cases q <;> first | rfl | exact absurd e2 (h2 _)
  · cases e2 : s.env[i]? with
    | none => rfl
    | some q => cases q <;> first | rfl | exact absurd e2 (h _)
@[simp] theorem ex_share (i : Nat) : ex G c (.share i) s = ownS s i (fun xs => .nx (s.set i (.d (.lst xs)))) (fun kvs => .nx (s.set i (.d (.dct kvs)))) (.nx s) := by
  rw [ex]
  rfl
end
section
variable {i j : Int} {x y : Tx} {xs ys : List D} {a b d : D}
@[simp] theorem tru_int : (D.int i).tru = some (i != 0) := rfl
@[simp] theorem tru_tup : (D.tup xs).tru = some (!xs.isEmpty) := rfl
@[simp] theorem tru_lst : (D.lst xs).tru = some (!xs.isEmpty) := rfl
@[simp] theorem tru_none : D.none.tru = some false := rfl
theorem tru_str (h : x.length ≤ LIM) : (D.str x).tru = some (!x.isEmpty) := by simp only [D.tru, h, if_true]
@[simp] theorem o1_not {k : Bool} (h : d.tru = some k) : op1 .not_ d = some (.bool !k) := by
  have : op1 .not_ d = d.tru.map fun b => .bool !b := by cases d <;> rfl
  rw [this, h]; rfl
@[simp] theorem o1_neg : op1 .neg (.int i) = some (.int (-i)) := rfl
@[simp] theorem isK_n {b : Bool} : isK .none b = some (.bool b) := rfl
@[simp] theorem isK_b {a b : Bool} : isK (.bool a) b = some (.bool b) := rfl
@[simp] theorem isK_i {a : Int} {b : Bool} : isK (.int a) b = some (.bool b) := rfl
@[simp] theorem isK_s {a : Tx} {b : Bool} : isK (.str a) b = some (.bool b) := rfl
@[simp] theorem isK_t {a : List D} {b : Bool} : isK (.tup a) b = some (.bool b) := rfl
@[simp] theorem isK_l {a : List D} {b : Bool} : isK (.lst a) b = some (.bool b) := rfl
@[simp] theorem isK_d {a : List (Ky × D)} {b : Bool} : isK (.dct a) b = some (.bool b) := rfl
@[simp] theorem o1_isInt : op1 .isInt d = isK d (match d with | .int _ => true | .bool _ => true | _ => false) := by cases d <;> rfl
@[simp] theorem o1_isBool : op1 .isBool d = isK d (match d with | .bool _ => true | _ => false) := by cases d <;> rfl
@[simp] theorem o1_isStr : op1 .isStr d = isK d (match d with | .str _ => true | _ => false) := by cases d <;> rfl
theorem o1_isTup : op1 .isTup d = isK d (match d with | .tup _ => true | _ => false) := by cases d <;> rfl
@[simp] theorem o1_isLst : op1 .isLst d = isK d (match d with | .lst _ => true | .scr _ => true | _ => false) := by cases d <;> rfl
@[simp] theorem o1_lenT : op1 .len (.tup xs) = some (.int xs.length) := rfl
@[simp] theorem o1_lenL : op1 .len (.lst xs) = some (.int xs.length) := rfl
@[simp] theorem o1_lenC {ns : List Int} : op1 .len (.scr ns) = some (.int ns.length) := rfl
@[simp] theorem o1_lenS (h : x.length ≤ LIM) : op1 .len (.str x) = some (.int x.length) := by simp only [op1, lenD, h, if_true]; rfl
@[simp] theorem o1_toL : op1 .toLst (.tup xs) = some (.lst xs) := rfl
@[simp] theorem o1_toLL : op1 .toLst (.lst xs) = some (.lst xs) := rfl
@[simp] theorem o1_toT : op1 .toTup (.lst xs) = some (.tup xs) := rfl
theorem ints_map : ∀ ns : List Int, iOf (ns.map D.int) = some ns
  | [] => rfl
  | n :: ns => by simp [iOf, ints_map ns]
theorem strs_map : ∀ ns : List Tx, sOf (ns.map D.str) = some ns
  | [] => rfl
  | n :: ns => by simp [sOf, strs_map ns]
theorem o1_sum {ns : List Int} : op1 .sum (.lst (ns.map .int)) = some (.int ns.sum) := by simp [op1, ints_map]
theorem o1_sorted {ns : List Tx} : op1 .sorted (.lst (ns.map .str)) = some (.lst ((sortTx ns).map .str)) := by simp [op1, strs_map]
theorem o1_sset {ns : List Tx} (h : ns.length < 4000) : op1 .sset (.lst (ns.map .str)) = some (.lst ((sortTx (dedupTx ns)).map .str)) := by simp [op1, strs_map, h]
@[simp] theorem o2_add : op2 .add (.int i) (.int j) = some (.int (i + j)) := rfl
theorem o2_addL (h : xs.length + ys.length ≤ LIM) : op2 .add (.lst xs) (.lst ys) = some (.lst (xs ++ ys)) := by simp only [op2, h, if_true]
theorem o2_addS (h : x.length + y.length ≤ LIM) : op2 .add (.str x) (.str y) = some (.str (x ++ y)) := by simp only [op2, h, if_true]
@[simp] theorem o2_sub : op2 .sub (.int i) (.int j) = some (.int (i - j)) := rfl
theorem o2_mul1 (h : -(2 ^ 64) < i ∧ i < 2 ^ 64) : op2 .mul (.int i) (.int j) = some (.int (i * j)) := by simp only [op2, if_pos (Or.inl h)]
theorem o2_mul2 (h : -(2 ^ 64) < j ∧ j < 2 ^ 64) : op2 .mul (.int i) (.int j) = some (.int (i * j)) := by simp only [op2, if_pos (Or.inr h)]
@[simp] theorem o2_fdiv (h : 0 < j ∧ j < 1073741824) : op2 .fdiv (.int i) (.int j) = some (.int (i / j)) := by simp only [op2, if_pos h]
@[simp] theorem o2_mod (h : 0 < j) : op2 .mod (.int i) (.int j) = some (.int (i % j)) := by simp only [op2, if_pos h]
@[simp] theorem o2_lt : op2 .lt (.int i) (.int j) = some (.bool (decide (i < j))) := rfl
@[simp] theorem o2_le : op2 .le (.int i) (.int j) = some (.bool (decide (i ≤ j))) := rfl
@[simp] theorem o2_gt : op2 .gt (.int i) (.int j) = some (.bool (decide (j < i))) := rfl
@[simp] theorem o2_ge : op2 .ge (.int i) (.int j) = some (.bool (decide (j ≤ i))) := rfl
@[simp] theorem o2_eqI : op2 .eq (.int i) (.int j) = some (.bool (decide (i = j))) := rfl
@[simp] theorem o2_neI : op2 .ne (.int i) (.int j) = some (.bool !(decide (i = j))) := rfl
theorem shp_str (h : x.all (fun c => decide (c < 55296)) = true) : (D.str x).shaped = true := by simp only [D.shaped, D.dep, h, if_true]; rfl
@[simp] theorem o2_eqS (h : x.all (fun c => decide (c < 55296)) = true) (h2 : y.all (fun c => decide (c < 55296)) = true) : op2 .eq (.str x) (.str y) = some (.bool (x == y)) := by
  simp only [op2, shp_str h, shp_str h2, Bool.and_self, if_true]
  rfl
theorem o2_neD (h : a.shaped = true) (h2 : b.shaped = true) : op2 .ne a b = some (.bool !(D.eqv a b)) := by
  have : op2 .ne a b = if a.shaped && b.shaped then some (.bool !(D.eqv a b)) else Option.none := by cases a <;> rfl
  rw [this, h, h2]; rfl
theorem o2_eqD (h : a.shaped = true) (h2 : b.shaped = true) : op2 .eq a b = some (.bool (D.eqv a b)) := by
  have : op2 .eq a b = if a.shaped && b.shaped then some (.bool (D.eqv a b)) else Option.none := by cases a <;> rfl
  rw [this, h, h2]; rfl
@[simp] theorem o2_inT {ws : List Tx} : op2 .in_ (.str x) (.tup (ws.map .str)) = some (.bool (decide (x ∈ ws))) := by
  show (inSeq _ _).map D.bool = _
  rw [inSeq_str]; rfl
@[simp] theorem o2_inL {ws : List Tx} : op2 .in_ (.str x) (.lst (ws.map .str)) = some (.bool (decide (x ∈ ws))) := by
  show (inSeq _ _).map D.bool = _
  rw [inSeq_str]; rfl
@[simp] theorem o2_ninC {k : Nat} : op2 .nin (.str [k]) (.str y) = some (.bool !(decide (k ∈ y))) := rfl
@[simp] theorem o2_inC {k : Nat} : op2 .in_ (.str [k]) (.str y) = some (.bool (decide (k ∈ y))) := rfl
@[simp] theorem o2_inK {kvs : List (Ky × D)} : op2 .in_ (.str x) (.kdc kvs) = some (.bool (look kvs (.s x)).isSome) := rfl
@[simp] theorem o2_idxK {kvs : List (Ky × D)} : op2 .idx (.kdc kvs) (.str x) = look kvs (.s x) := rfl
@[simp] theorem o2_idxT : op2 .idx (.tup xs) (.int i) = at? xs i := rfl
@[simp] theorem o2_idxL : op2 .idx (.lst xs) (.int i) = at? xs i := rfl
@[simp] theorem o2_idxC {ns : List Int} : op2 .idx (.scr ns) (.int i) = (at? ns i).map .int := rfl
@[simp] theorem o2_idxS (h : x.length ≤ LIM) : op2 .idx (.str x) (.int i) = (at? x i).map fun c => .str [c] := by simp only [op2, h, if_true]
theorem at_nat {α : Type} {l : List α} {n : Nat} {z : α} (h : l[n]? = some z) : at? l (n : Int) = some z := by
  have hl : n < l.length := (List.getElem?_eq_some_iff.mp h).1
  have e : ix l.length (n : Int) = some n := by
    unfold ix
    have h1 : (0 : Int) ≤ n := by omega
    have h2 : (n : Int) < l.length := by omega
    simp [h1, h2]
  unfold at?
  rw [e]
  exact h
@[simp] theorem at_0 {α : Type} {z : α} {l : List α} : at? (z :: l) 0 = some z := at_nat (n := 0) rfl
@[simp] theorem at_1 {α : Type} {w z : α} {l : List α} : at? (w :: z :: l) 1 = some z := at_nat (n := 1) rfl
@[simp] theorem at_2 {α : Type} {w z v : α} {l : List α} : at? (w :: z :: v :: l) 2 = some v := at_nat (n := 2) rfl
@[simp] theorem at_3 {α : Type} {w z v u : α} {l : List α} : at? (w :: z :: v :: u :: l) 3 = some u := at_nat (n := 3) rfl
@[simp] theorem it_seqL : items .seq [.lst xs] = some xs := rfl
@[simp] theorem it_seqT : items .seq [.tup xs] = some xs := rfl
@[simp] theorem it_seqS : items .seq [.str x] = some (x.map fun c => .str [c]) := rfl
@[simp] theorem it_enum : items .enum [.lst xs] = some (xs.mapIdx fun k x => .tup [.int (k : Nat), x]) := rfl
theorem it_rng {n : Nat} (h : n < 4611686018427387904) : items .rng [.int n] = some ((List.range n).map fun k => .int (k : Nat)) := by
  have h1 : -(2 ^ 62) ≤ (n : Int) ∧ (n : Int) < 2 ^ 62 := by omega
  simp only [items, h1, if_true, and_self, Int.toNat_natCast]
theorem set1 {i : Nat} {env : List Sl} {hp : List Cell} {x : D} (h : i < env.length) : setT ⟨env, hp⟩ [i] x = some ⟨env.set i (.d x), hp⟩ := by
  simp only [setT, setTg, h, if_true]
  rfl
theorem set2 {i j : Nat} {env : List Sl} {hp : List Cell} {x y : D} (h : i < env.length) (h2 : j < env.length) : setT ⟨env, hp⟩ [i, j] (.tup [x, y]) = some ⟨(env.set i (.d x)).set j (.d y), hp⟩ := by
  have h3 : j < (env.set i (.d x)).length := by rw [List.length_set]; exact h2
  simp only [setT, setTg, h, if_true, set_mk, h3]
@[simp] theorem wipe1 {i : Nat} {env : List Sl} {hp : List Cell} : wipeS ⟨env, hp⟩ [i] = ⟨env.set i .no, hp⟩ := rfl
def kTurn2 (tg : List Nat) (d : D) (s : St) : R (Option D) := .ok (some d) (wipeS s tg)
@[simp] theorem kTurn2_a (tg : List Nat) (d : D) (s : St) : kTurn2  tg d s = .ok (some d) (wipeS s tg) := rfl
def kTurn (G : Glob) (c : Oracle) (elt : E) (tg : List Nat) (b : Bool) (s : St) : R (Option D) := if b then (ev G c elt s).bind (kTurn2 tg) else .ok Option.none (wipeS s tg)
@[simp] theorem kTurn_a (G : Glob) (c : Oracle) (elt : E) (tg : List Nat) (b : Bool) (s : St) : kTurn  G c elt tg b s = if b then (ev G c elt s).bind (kTurn2 tg) else .ok Option.none (wipeS s tg) := rfl
@[simp] theorem compF1 {G : Glob} {c : Oracle} {i : Nat} {cond : List E} {elt : E} {x : D} {env : List Sl} {hp : List Cell} (h : i < env.length) : compF G c [i] cond elt x ⟨env, hp⟩ = (evt G c cond ⟨env.set i (.d x), hp⟩).bind (kTurn G c elt [i]) := by
  unfold compF
  rw [set1 h]
  rfl
@[simp] theorem forF1 {G : Glob} {c : Oracle} {i : Nat} {body : List Sm} {x : D} {env : List Sl} {hp : List Cell} (h : i < env.length) : forF G c [i] body x ⟨env, hp⟩ = exs G c body ⟨env.set i (.d x), hp⟩ := by
  unfold forF
  rw [set1 h]
@[simp] theorem forF2 {G : Glob} {c : Oracle} {i j : Nat} {body : List Sm} {x y : D} {env : List Sl} {hp : List Cell} (h : i < env.length) (h2 : j < env.length) : forF G c [i, j] body (.tup [x, y]) ⟨env, hp⟩ = exs G c body ⟨(env.set i (.d x)).set j (.d y), hp⟩ := by
  unfold forF
  rw [set2 h h2]
@[simp] theorem back1 {i : Nat} {env env' : List Sl} {hp hp' : List Cell} : backS ⟨env, hp⟩ ⟨env', hp'⟩ [i] = ⟨env'.set i (match env[i]? with | some (.d x) => .d x | _ => .no), hp'⟩ := rfl
end
/-- a comprehension over things of another kind, all of them kept -/
theorem compL_mapA {α : Type} {f : D → St → R (Option D)} {d : α → D} {g : α → D} {s : St} : ∀ {xs : List α} {acc : List D}, (∀ x ∈ xs, f (d x) s = .ok (some (g x)) s) → acc.length + xs.length ≤ LIM → compL f (xs.map d) acc s = .ok (acc ++ xs.map g) s
  | [], acc, _, _ => by simp [compL]
  | x :: r, acc, h, l => by
    rw [List.length_cons] at l
    rw [List.map_cons, compL_some (h x List.mem_cons_self) (by omega), compL_mapA (fun y hy => h y (List.mem_cons_of_mem _ hy)) (by rw [List.length_append]; simp; omega)]
    simp
theorem compL_map {α : Type} {f : D → St → R (Option D)} {d : α → D} {g : α → D} {s : St} {xs : List α} (h : ∀ x ∈ xs, f (d x) s = .ok (some (g x)) s) (l : xs.length ≤ LIM) : compL f (xs.map d) [] s = .ok (xs.map g) s := by
  have := compL_mapA (acc := []) h (by simpa using l)
  simpa using this
theorem le_sum_mem {x : Nat} : ∀ {l : List Nat}, x ∈ l → x ≤ l.sum
  | y :: r, h => by
    rw [List.sum_cons]
    rcases List.mem_cons.mp h with e | e
    · omega
    · have := le_sum_mem e
      omega
/-- what is returned -/
def rtv : X → Option (D × Bool × List Cell)
  | .rt d b s => some (d, b, s.hp)
  | _ => Option.none
@[simp] theorem rtv_mk {d : D} {b : Bool} {env : List Sl} {hp : List Cell} : rtv (.rt d b ⟨env, hp⟩) = some (d, b, hp) := rfl
theorem rtv_of {x : X} {d : D} {b : Bool} {hp : List Cell} (h : rtv x = some (d, b, hp)) : ∃ e, x = .rt d b ⟨e, hp⟩ := by
  cases x with
  | rt d' b' s =>
    cases s
    simp only [rtv, Option.some.injEq, Prod.mk.injEq] at h
    obtain ⟨rfl, rfl, rfl⟩ := h
    exact ⟨_, rfl⟩
  | nx s => cases h
  | exn x s => cases h
  | bad => cases h
def isTp : D → Bool
  | .tup _ => true
  | _ => false
def isTf : D → Bool
  | .tup _ => false
  | .loc _ => false
  | _ => true
@[simp] theorem o1_isTt {d : D} (h : isTp d = true) : op1 .isTup d = some (.bool true) := by cases d <;> first | rfl | cases h
@[simp] theorem o1_isTf {d : D} (h : isTf d = true) : op1 .isTup d = some (.bool false) := by cases d <;> first | rfl | cases h
@[simp] theorem oT_t {xs : List D} : op1 .isTup (.tup xs) = some (.bool true) := rfl
@[simp] theorem oT_s {x : Tx} : op1 .isTup (.str x) = some (.bool false) := rfl
@[simp] theorem oT_i {x : Int} : op1 .isTup (.int x) = some (.bool false) := rfl
@[simp] theorem oT_b {x : Bool} : op1 .isTup (.bool x) = some (.bool false) := rfl
@[simp] theorem oT_n : op1 .isTup .none = some (.bool false) := rfl
@[simp] theorem oT_l {xs : List D} : op1 .isTup (.lst xs) = some (.bool false) := rfl
@[simp] theorem isT_t {xs : List D} : isTp (D.tup xs) = true := rfl
@[simp] theorem isTf_s {x : Tx} : isTf (D.str x) = true := rfl
@[simp] theorem isTf_i {i : Int} : isTf (D.int i) = true := rfl
@[simp] theorem isTf_b {i : Bool} : isTf (D.bool i) = true := rfl
@[simp] theorem isTf_n : isTf D.none = true := rfl
@[simp] theorem isTf_l {xs : List D} : isTf (D.lst xs) = true := rfl
@[simp] theorem isTf_d {xs : List (Ky × D)} : isTf (D.dct xs) = true := rfl
theorem exs_append (G : Glob) (c : Oracle) : ∀ (a b : List Sm) (s : St), exs G c (a ++ b) s = (exs G c a s).then_ (exs G c b)
  | [], b, s => by rw [exs_nil]; rfl
  | x :: a, b, s => by
    rw [List.cons_append, exs_cons, exs_cons]
    cases ex G c x s with
    | nx s1 => simp only [x_nx]; exact exs_append G c a b s1
    | rt d k s1 => rfl
    | exn x s1 => rfl
    | bad => rfl
@[simp] theorem r_exn {α β : Type} {x : Exn} {s : St} (f : α → St → R β) : (R.exn x s : R α).bind f = .exn x s := rfl
@[simp] theorem xr_exn {α : Type} {x : Exn} {s : St} (f : α → St → X) : X.ofR (R.exn x s : R α) f = .exn x s := rfl
theorem call_exn {c : Oracle} {f : Tx} {ds : List D} {env : List Sl} {hp hp' : List Cell} {x : Exn} (h : c f ds hp = .exn x hp') : callR c f ds ⟨env, hp⟩ = .exn x ⟨env, hp'⟩ := by
  simp only [callR, h]
section
variable (G : Glob) (c : Oracle) (s : St)
@[simp] theorem ex_exq (e : E) : ex G c (.exq e) s = X.ofR (ev G c e s) kExq := by rw [ex]; rfl
def tryX (known : List Tx) (h : Exn → St → X) (r : X) : X := match r with
  | .exn x s' => if x.cls ∈ known then h x s' else .bad
  | r => r
@[simp] theorem try_nx {known : List Tx} {h : Exn → St → X} {s : St} : tryX known h (.nx s) = .nx s := rfl
@[simp] theorem try_rt {known : List Tx} {h : Exn → St → X} {d : D} {b : Bool} {s : St} : tryX known h (.rt d b s) = .rt d b s := rfl
theorem try_exn {known : List Tx} {h : Exn → St → X} {x : Exn} {s : St} (k : x.cls ∈ known) : tryX known h (.exn x s) = h x s := by simp only [tryX, k, if_true]
def kExh (hs : List Sm) (x : Exn) (s : St) : X := exh G c x hs s
@[simp] theorem kExh_a (hs : List Sm) (x : Exn) (s : St) : kExh G c hs x s = exh G c x hs s := rfl
@[simp] theorem ex_tryy (known : List Tx) (body hs : List Sm) : ex G c (.tryy known body hs) s = tryX known (kExh G c hs) (exs G c body s) := by
  rw [ex]
  rfl
theorem exh_nil (x : Exn) : exh G c x [] s = .exn x s := by rw [exh]
theorem exh_cons (x : Exn) (h : Tx) (b r : List Sm) : exh G c x (.hnd h b :: r) s = if subT x.cls h then exs G c b s else exh G c x r s := by rw [exh]
def setL (i : Nat) (d q : D) (s : St) : X := match s.env[i]?, q with
      | some (.ol xs), .int n => (match ix xs.length n with
        | some j => .nx (s.set i (.ol (xs.set j d)))
        | Option.none => .bad)
      | _, _ => .bad
def setK (i : Nat) (d q : D) (s : St) : X := match s.env[i]?, ky q with
      | some (.od kvs), some q => if kvs.length < LIM then .nx (s.set i (.od (putK kvs q d))) else .bad
      | _, _ => .bad
def kSetA (i : Nat) (k : E) (d : D) (s : St) (xs : List D) : X := X.ofR (ev G c k s) (setL i d)
@[simp] theorem kSetA_a (i : Nat) (k : E) (d : D) (s : St) (xs : List D) : kSetA G c i k d s xs = X.ofR (ev G c k s) (setL i d) := rfl
def kSetB (i : Nat) (k : E) (d : D) (s : St) (kvs : List (Ky × D)) : X := X.ofR (ev G c k s) (setK i d)
@[simp] theorem kSetB_a (i : Nat) (k : E) (d : D) (s : St) (kvs : List (Ky × D)) : kSetB G c i k d s kvs = X.ofR (ev G c k s) (setK i d) := rfl
def kSet1 (i : Nat) (k : E) (d : D) (s : St) : X := ownS s i (kSetA G c i k d s) (kSetB G c i k d s) .bad
@[simp] theorem kSet1_a (i : Nat) (k : E) (d : D) (s : St) : kSet1 G c i k d s = ownS s i (kSetA G c i k d s) (kSetB G c i k d s) .bad := rfl
@[simp] theorem ex_setI (i : Nat) (k e : E) : ex G c (.setI i k e) s = X.ofR (ev G c e s) (kSet1 G c i k) := by
  rw [ex]
  rfl
end
theorem setL_ok {i j : Nat} {d : D} {n : Int} {xs : List D} {env : List Sl} {hp : List Cell} (h : env[i]? = some (.ol xs)) (hj : ix xs.length n = some j) : setL i d (.int n) ⟨env, hp⟩ = .nx ⟨env.set i (.ol (xs.set j d)), hp⟩ := by
  simp only [setL, h, hj]
  rfl
theorem setK_ok {i : Nat} {d q : D} {k : Ky} {kvs : List (Ky × D)} {env : List Sl} {hp : List Cell} (h : env[i]? = some (.od kvs)) (hk : ky q = some k) (hl : kvs.length < LIM) : setK i d q ⟨env, hp⟩ = .nx ⟨env.set i (.od (putK kvs k d)), hp⟩ := by
  simp only [setK, h, hk, hl, if_true]
  rfl
@[simp] theorem own_d {α : Type} {env : List Sl} {hp : List Cell} {i : Nat} {xs : List (Ky × D)} {a : List D → α} {b : List (Ky × D) → α} {z : α} (h : env[i]? = some (.od xs)) : ownS ⟨env, hp⟩ i a b z = b xs := by simp only [ownS, h]
@[simp] theorem own_n {α : Type} {env : List Sl} {hp : List Cell} {i : Nat} {x : D} {a : List D → α} {b : List (Ky × D) → α} {z : α} (h : env[i]? = some (.d x)) : ownS ⟨env, hp⟩ i a b z = z := by simp only [ownS, h]
@[simp] theorem own_0 {α : Type} {env : List Sl} {hp : List Cell} {i : Nat} {a : List D → α} {b : List (Ky × D) → α} {z : α} (h : env[i]? = some .no) : ownS ⟨env, hp⟩ i a b z = z := by simp only [ownS, h]
theorem ix_nat {n k : Nat} (h : k < n) : ix n (k : Int) = some k := by
  unfold ix
  have h1 : (0 : Int) ≤ k := by omega
  have h2 : (k : Int) < n := by omega
  simp [h1, h2]
/-- things with their places -/
def enumD : Nat → List D → List D
  | _, [] => []
  | b, x :: r => .tup [.int (b : Nat), x] :: enumD (b + 1) r
theorem mapIdx_enum : ∀ (b : Nat) (xs : List D), (xs.mapIdx fun k x => D.tup [.int ((b + k : Nat) : Int), x]) = enumD b xs
  | b, [] => rfl
  | b, x :: r => by
    rw [List.mapIdx_cons, enumD, ← mapIdx_enum (b + 1) r]
    congr 1
    congr 1
    funext k x
    congr 4
    omega
theorem it_enumT {xs : List D} : items .enum [.tup xs] = some (enumD 0 xs) := by
  rw [← mapIdx_enum]
  simp [items]
theorem enumD_append : ∀ (b : Nat) (xs ys : List D), enumD b (xs ++ ys) = enumD b xs ++ enumD (b + xs.length) ys
  | b, [], ys => rfl
  | b, x :: r, ys => by
    rw [List.cons_append, enumD, enumD, enumD_append (b + 1) r ys, List.cons_append, List.length_cons]
    congr 3
    omega
theorem forL_append (f : D → St → X) : ∀ (xs ys : List D) (s : St), forL f (xs ++ ys) s = (forL f xs s).then_ (forL f ys)
  | [], ys, s => rfl
  | x :: r, ys, s => by
    rw [List.cons_append, forL_cons, forL_cons]
    cases f x s with
    | nx s1 => simp only [x_nx]; exact forL_append f r ys s1
    | rt d k s1 => rfl
    | exn x s1 => rfl
    | bad => rfl
/-- what a def tells -/
def outX : X → Ret
  | .nx s => .ok .none false s.hp
  | .rt d b s => .ok d b s.hp
  | .exn x s => .exn x s.hp
  | .bad => .bad
@[simp] theorem out_nx {env : List Sl} {hp : List Cell} : outX (.nx ⟨env, hp⟩) = .ok .none false hp := rfl
@[simp] theorem out_rt {d : D} {b : Bool} {env : List Sl} {hp : List Cell} : outX (.rt d b ⟨env, hp⟩) = .ok d b hp := rfl
@[simp] theorem out_exn {x : Exn} {env : List Sl} {hp : List Cell} : outX (.exn x ⟨env, hp⟩) = .exn x hp := rfl
theorem run_ok (G : Glob) (T : Tx → Option Fn) (n p k : Nat) (f : Tx) (b : List Sm) (args : List D) {d : D} {fr : Bool} (hT : T f = some ⟨p, k, b⟩) (hl : args.length = p) (h : outX (exs G (run G T n) b ⟨args.map .d ++ List.replicate (k - p) .no, []⟩) = .ok d fr []) : run G T (n + 1) f args [] = .ok d fr [] := by
  have e : runFn G (run G T n) ⟨p, k, b⟩ args [] = .ok d fr [] := by
    simp only [runFn, hl, if_true]
    rw [← h]
    cases exs G (run G T n) b ⟨args.map .d ++ List.replicate (k - p) .no, []⟩ <;> rfl
  simp only [run, hT, e, Ret.gone]
  split <;> rfl
theorem run_exn (G : Glob) (T : Tx → Option Fn) (n p k : Nat) (f : Tx) (b : List Sm) (args : List D) {x : Exn} (hT : T f = some ⟨p, k, b⟩) (hl : args.length = p) (h : outX (exs G (run G T n) b ⟨args.map .d ++ List.replicate (k - p) .no, []⟩) = .exn x []) : run G T (n + 1) f args [] = .exn x [] := by
  have e : runFn G (run G T n) ⟨p, k, b⟩ args [] = .exn x [] := by
    simp only [runFn, hl, if_true]
    rw [← h]
    cases exs G (run G T n) b ⟨args.map .d ++ List.replicate (k - p) .no, []⟩ <;> rfl
  simp only [run, hT, e, Ret.gone]
  split <;> rfl
/-- a def that was given no place of the store: its own store is gone -/
theorem run_gone (G : Glob) (T : Tx → Option Fn) (n p k : Nat) (f : Tx) (b : List Sm) (args : List D) {d : D} {fr : Bool} {hp' : List Cell} (hT : T f = some ⟨p, k, b⟩) (hl : args.length = p) (hn : D.noLocL args = true) (hd : d.noLoc = true) (h : outX (exs G (run G T n) b ⟨args.map .d ++ List.replicate (k - p) .no, []⟩) = .ok d fr hp') (hp : List Cell) : run G T (n + 1) f args hp = .ok d fr hp := by
  have e : runFn G (run G T n) ⟨p, k, b⟩ args [] = .ok d fr hp' := by
    simp only [runFn, hl, if_true]
    rw [← h]
    cases exs G (run G T n) b ⟨args.map .d ++ List.replicate (k - p) .no, []⟩ <;> rfl
  simp only [run, hT, e, Ret.gone, hn, if_true, hd, Bool.or_true]
/-- over any store -/
theorem run_any {G : Glob} {T : Tx → Option Fn} {n : Nat} {f : Tx} {args : List D} {d : D} {fr : Bool} (hT : (T f).isSome = true) (hn : D.noLocL args = true) (h : run G T (n + 1) f args [] = .ok d fr []) (hp : List Cell) : run G T (n + 1) f args hp = .ok d fr hp := by
  cases e : T f with
  | none => rw [e] at hT; cases hT
  | some fn =>
    simp only [run, e, hn, if_true] at h ⊢
    revert h
    cases runFn G (run G T n) fn args [] with
    | bad => exact fun h => by cases h
    | exn x hp' => exact fun h => by cases h
    | ok d' b' hp' =>
      simp only [Ret.gone]
      split
      · intro h; cases h; rfl
      · intro h; cases h
/-- a method, or another def that was given a place of the store -/
theorem run_loc (G : Glob) (T : Tx → Option Fn) (n p k : Nat) (f : Tx) (b : List Sm) (args : List D) (hp : List Cell) (hT : T f = some ⟨p, k, b⟩) (hl : args.length = p) (hn : D.noLocL args = false) : run G T (n + 1) f args hp = outX (exs G (run G T n) b ⟨args.map .d ++ List.replicate (k - p) .no, hp⟩) := by
  simp only [run, hT, hn, runFn, hl, if_true, Bool.false_eq_true, if_false]
  cases exs G (run G T n) b ⟨args.map .d ++ List.replicate (k - p) .no, hp⟩ <;> rfl
theorem run_cls (G : Glob) (T : Tx → Option Fn) (n : Nat) (f : Tx) (args : List D) (hp : List Cell) (hT : T f = Option.none) : run G T (n + 1) f args hp = mkRet (run G T n) f args hp := by
  simp only [run, hT]
@[simp] theorem o1_rev {xs : List D} : op1 .rev (.lst xs) = some (.lst xs.reverse) := rfl
@[simp] theorem o1_int {b : Bool} : op1 .int_ (.bool b) = some (.int (if b then 1 else 0)) := rfl
@[simp] theorem o2_max2 {i j : Int} : op2 .max2 (.int i) (.int j) = some (.int (max i j)) := by
  have : (if i < j then j else i) = max i j := by rw [Int.max_def]; split <;> split <;> omega
  rw [← this]
  rfl
theorem o1_max {ns : List Int} : op1 .max_ (.lst (ns.map .int)) = (maxI ns).map .int := by simp [op1, ints_map]
theorem o1_min {ns : List Int} : op1 .min_ (.lst (ns.map .int)) = (minI ns).map .int := by simp [op1, ints_map]
@[simp] theorem rcv_index {xs : List D} {a : R D} : rcvR .index (.lst xs) a = a := rfl
def oIdxP (i : Nat) (x : D) (s : St) : R D := match s.env[i]?, x with
      | some (.ol xs), .int k => R.of (at? xs k) s
      | _, _ => .bad
def kOIdx (G : Glob) (c : Oracle) (i : Nat) (e : E) (s : St) (xs : List D) : R D := (ev G c e s).bind (oIdxP i)
@[simp] theorem kOIdx_a (G : Glob) (c : Oracle) (i : Nat) (e : E) (s : St) (xs : List D) : kOIdx  G c i e s xs = (ev G c e s).bind (oIdxP i) := rfl
def kBadR  (kvs : List (Ky × D)) : R D := .bad
@[simp] theorem kBadR_a  (kvs : List (Ky × D)) : kBadR   kvs = .bad := rfl
@[simp] theorem ev_oIdx (G : Glob) (c : Oracle) (s : St) (i : Nat) (e : E) : ev G c (.oIdx i e) s = ownS s i (kOIdx G c i e s) kBadR .bad := by
  rw [ev]
  unfold kOIdx kBadR ownS
  cases h : s.env[i]? with
  | none => rfl
  | some q => cases q <;> rfl
@[simp] theorem oIdxP_l {i : Nat} {k : Int} {xs : List D} {env : List Sl} {hp : List Cell} (h : env[i]? = some (.ol xs)) : oIdxP i (.int k) ⟨env, hp⟩ = R.of (at? xs k) ⟨env, hp⟩ := by
  simp only [oIdxP, h]
@[simp] theorem at_last {α : Type} {z : α} : ∀ {l : List α}, at? (l ++ [z]) (-1) = some z := by
  intro l
  have e : ix (l ++ [z]).length (-1) = some l.length := by
    unfold ix
    have h1 : ¬ (0 : Int) ≤ -1 := by omega
    have h2 : (0 : Int) ≤ -1 + ((l ++ [z]).length : Int) := by simp; omega
    rw [if_neg h1, if_pos h2]
    congr 1
    simp
    omega
  unfold at?
  rw [e]
  simp
def popP (G : Glob) (c : Oracle) (i : Nat) (x y : List Sm) (d : D) (s : St) : X := match s.env[i]?, d with
      | some (.ol xs), .int n => (match xs[xs.length - 1]? with
        | some (.int m) => if n = m + 1 then exs G c y (s.set i (.ol xs.dropLast)) else exs G c x (s.set i (.ol xs.dropLast))
        | _ => .bad)
      | _, _ => .bad
def kPop (G : Glob) (c : Oracle) (b : E) (i : Nat) (x y : List Sm) (d : D) (s : St) : X := byT d.tru (exs G c x s) (X.ofR (ev G c b s) (popP G c i x y))
@[simp] theorem kPop_a (G : Glob) (c : Oracle) (b : E) (i : Nat) (x y : List Sm) (d : D) (s : St) : kPop  G c b i x y d s = byT d.tru (exs G c x s) (X.ofR (ev G c b s) (popP G c i x y)) := rfl
@[simp] theorem ex_ifPop (G : Glob) (c : Oracle) (s : St) (a b : E) (i : Nat) (x y : List Sm) : ex G c (.ifPop a b i x y) s = X.ofR (ev G c a s) (kPop G c b i x y) := by
  rw [ex]
  congr 1
theorem popP_l {G : Glob} {c : Oracle} {i : Nat} {x y : List Sm} {n m : Int} {xs : List D} {env : List Sl} {hp : List Cell} (h : env[i]? = some (.ol (xs ++ [.int m]))) (e : n = m + 1) : popP G c i x y (.int n) ⟨env, hp⟩ = exs G c y ⟨env.set i (.ol xs), hp⟩ := by
  have h2 : (xs ++ [D.int m])[(xs ++ [D.int m]).length - 1]? = some (.int m) := by simp
  simp only [popP, h, h2, e, if_true, List.dropLast_concat]
  rfl
theorem it_enumL {xs : List D} : items .enum [.lst xs] = some (enumD 0 xs) := by
  rw [← mapIdx_enum]
  simp [items]
theorem compL_append (f : D → St → R (Option D)) : ∀ (xs ys acc : List D) (s : St), compL f (xs ++ ys) acc s = (compL f xs acc s).bind fun acc s => compL f ys acc s
  | [], ys, acc, s => rfl
  | x :: r, ys, acc, s => by
    rw [List.cons_append, compL, compL]
    cases f x s with
    | ok o s1 =>
      cases o with
      | none => exact compL_append f r ys acc s1
      | some d =>
        simp only
        split
        · exact compL_append f r ys _ s1
        · rfl
    | exn x s1 => rfl
    | bad => rfl
theorem compL_ids {f : D → St → R (Option D)} {s : St} : ∀ {xs acc : List D}, (∀ x ∈ xs, f x s = .ok (some x) s) → acc.length + xs.length ≤ LIM → compL f xs acc s = .ok (acc ++ xs) s
  | [], acc, _, _ => by simp [compL]
  | x :: r, acc, h, l => by
    rw [List.length_cons] at l
    rw [compL_some (h x List.mem_cons_self) (by omega), compL_ids (fun y hy => h y (List.mem_cons_of_mem _ hy)) (by rw [List.length_append]; simp; omega)]
    simp
/-- the place of a text -/
def posT (x : Tx) : List Tx → Nat
  | [] => 0
  | y :: r => if y = x then 0 else posT x r + 1
theorem posT_lt {x : Tx} : ∀ {l : List Tx}, x ∈ l → posT x l < l.length
  | y :: r, h => by
    simp only [posT]
    split
    · simp
    · rename_i n
      have := posT_lt ((List.mem_cons.mp h).resolve_left fun e => n e.symm)
      simp; omega
theorem idx_pos {x : Tx} : ∀ {l : List Tx}, x ∈ l → idxOf (.str x) (l.map .str) = some (posT x l)
  | y :: r, h => by
    simp only [List.map_cons, idxOf, posT]
    by_cases e : y = x
    · simp [D.eqv, e]
    · rw [if_neg (by simpa [D.eqv] using e), if_neg e, idx_pos ((List.mem_cons.mp h).resolve_left fun q => e q.symm)]
      rfl
theorem mop_index {x : Tx} {l : List Tx} (h : x ∈ l) : mop .index (.lst (l.map .str)) [.str x] = some (.int (posT x l)) := by
  have h1 : (l.map D.str).all D.flat = true := by simp [D.flat]
  have h2 : D.flat (.str x) = true := rfl
  simp only [mop, h1, h2, Bool.and_self, if_true, idx_pos h]
  rfl
end Fp
set_option linter.all false
set_option maxRecDepth 100000
namespace Fp
open Ft
/-! the store, step by step -/
section
variable (G : Glob) (c : Oracle)
def aAttr (k f : Tx) (o : Option Cell) (s : St) : R D := match o with
  | some (.obj k' fs) => if k' = k then R.of (fget fs f) s else .bad
  | _ => .bad
@[simp] theorem aAttr_o (k f : Tx) (fs : List (Tx × D)) (s : St) : aAttr k f (some (.obj k fs)) s = R.of (fget fs f) s := by simp [aAttr]
def kAttr (k f : Tx) (x : D) (s : St) : R D := match x with
  | .loc i => aAttr k f s.hp[i]? s
  | _ => .bad
@[simp] theorem kAttr_l (k f : Tx) (i : Nat) (env : List Sl) (hp : List Cell) : kAttr k f (.loc i) ⟨env, hp⟩ = aAttr k f hp[i]? ⟨env, hp⟩ := rfl
@[simp] theorem ev_attr (k f : Tx) (e : E) (s : St) : ev G c (.attr k e f) s = (ev G c e s).bind (kAttr k f) := by
  rw [ev]
  congr 1
  funext x s
  cases x <;> simp only [St.obj, kAttr]
  rename_i i
  cases s.hp[i]? with
  | none => rfl
  | some o =>
    cases o <;> simp only [aAttr]
    rename_i k' fs
    by_cases h : k' = k
    · simp only [h, if_true]
    · simp only [h, if_false]
def kMeth2 (k m : Tx) (x : D) (ds : List D) (s : St) : R D := callR c (k ++ 46 :: m) (x :: ds) s
@[simp] theorem kMeth2_a (k m : Tx) (x : D) (ds : List D) (s : St) : kMeth2 c k m x ds s = callR c (k ++ 46 :: m) (x :: ds) s := rfl
def bMeth (k m : Tx) (es : List E) (x : D) (o : Option D) (s : St) : R D := match o with
  | some _ => .bad
  | Option.none => (evs G c es s).bind (kMeth2 c k m x)
@[simp] theorem bMeth_n (k m : Tx) (es : List E) (x : D) (s : St) : bMeth G c k m es x Option.none s = (evs G c es s).bind (kMeth2 c k m x) := rfl
def aMeth (k m : Tx) (es : List E) (x : D) (o : Option Cell) (s : St) : R D := match o with
  | some (.obj k' fs) => if k' = k then bMeth G c k m es x (fget fs m) s else .bad
  | _ => .bad
@[simp] theorem aMeth_o (k m : Tx) (es : List E) (x : D) (fs : List (Tx × D)) (s : St) : aMeth G c k m es x (some (.obj k fs)) s = bMeth G c k m es x (fget fs m) s := by simp [aMeth]
def kMeth1 (k m : Tx) (es : List E) (x : D) (s : St) : R D := match x with
  | .loc i => aMeth G c k m es (.loc i) s.hp[i]? s
  | _ => .bad
@[simp] theorem kMeth1_l (k m : Tx) (es : List E) (i : Nat) (env : List Sl) (hp : List Cell) : kMeth1 G c k m es (.loc i) ⟨env, hp⟩ = aMeth G c k m es (.loc i) hp[i]? ⟨env, hp⟩ := rfl
@[simp] theorem ev_meth (k m : Tx) (e : E) (es : List E) (s : St) : ev G c (.meth k e m es) s = (ev G c e s).bind (kMeth1 G c k m es) := by
  rw [ev]
  congr 1
  funext x s
  cases x <;> simp only [St.obj, kMeth1]
  rename_i i
  cases s.hp[i]? with
  | none => rfl
  | some o =>
    cases o <;> simp only [aMeth]
    rename_i k' fs
    by_cases h : k' = k
    · simp only [h, if_true]
      cases fget fs m <;> rfl
    · simp only [h, if_false]
def kBoxL (ds : List D) (s : St) : R D := .ok (.loc s.hp.length) (s.new (.lst ds))
@[simp] theorem kBoxL_a (ds : List D) (env : List Sl) (hp : List Cell) : kBoxL ds ⟨env, hp⟩ = .ok (.loc hp.length) ⟨env, hp ++ [.lst ds]⟩ := rfl
@[simp] theorem ev_boxL (es : List E) (s : St) : ev G c (.boxL es) s = (evs G c es s).bind kBoxL := by rw [ev]; rfl
@[simp] theorem ev_boxD (env : List Sl) (hp : List Cell) : ev G c .boxD ⟨env, hp⟩ = .ok (.loc hp.length) ⟨env, hp ++ [.dct []]⟩ := by rw [ev]; rfl
def aHLen (o : Option Cell) (s : St) : R D := match o with
  | some (.lst xs) => .ok (.int xs.length) s
  | some (.dct xs) => .ok (.int xs.length) s
  | _ => .bad
@[simp] theorem aHLen_l (xs : List D) (s : St) : aHLen (some (.lst xs)) s = .ok (.int xs.length) s := rfl
@[simp] theorem aHLen_d (xs : List (Ky × D)) (s : St) : aHLen (some (.dct xs)) s = .ok (.int xs.length) s := rfl
def kHLen (x : D) (s : St) : R D := match x with
  | .loc i => aHLen s.hp[i]? s
  | _ => .bad
@[simp] theorem kHLen_l (i : Nat) (env : List Sl) (hp : List Cell) : kHLen (.loc i) ⟨env, hp⟩ = aHLen hp[i]? ⟨env, hp⟩ := rfl
@[simp] theorem ev_hLen (e : E) (s : St) : ev G c (.hLen e) s = (ev G c e s).bind kHLen := by
  rw [ev]
  congr 1
  funext x s
  cases x <;> simp only [St.cell, kHLen]
  rename_i i
  cases s.hp[i]? with
  | none => rfl
  | some o => cases o <;> rfl
def aHIdx2 (y : D) (o : Option Cell) (s : St) : R D := match o with
  | some (.lst xs) => R.of (cellIdx y (.lst xs)) s
  | some (.dct xs) => R.of (cellIdx y (.dct xs)) s
  | _ => .bad
@[simp] theorem aHIdx2_l (i : Int) (xs : List D) (s : St) : aHIdx2 (.int i) (some (.lst xs)) s = R.of (at? xs i) s := rfl
@[simp] theorem aHIdx2_i (i : Int) (xs : List (Ky × D)) (s : St) : aHIdx2 (.int i) (some (.dct xs)) s = R.of (look xs (.i i)) s := rfl
@[simp] theorem aHIdx2_s (i : Tx) (xs : List (Ky × D)) (s : St) : aHIdx2 (.str i) (some (.dct xs)) s = R.of (look xs (.s i)) s := rfl
def kHIdx2 (i : Nat) (y : D) (s : St) : R D := aHIdx2 y s.hp[i]? s
@[simp] theorem kHIdx2_a (i : Nat) (y : D) (env : List Sl) (hp : List Cell) : kHIdx2 i y ⟨env, hp⟩ = aHIdx2 y hp[i]? ⟨env, hp⟩ := rfl
def aHIdx1 (k : E) (i : Nat) (o : Option Cell) (s : St) : R D := match o with
  | some (.lst _) => (ev G c k s).bind (kHIdx2 i)
  | some (.dct _) => (ev G c k s).bind (kHIdx2 i)
  | _ => .bad
@[simp] theorem aHIdx1_l (k : E) (i : Nat) (xs : List D) (s : St) : aHIdx1 G c k i (some (.lst xs)) s = (ev G c k s).bind (kHIdx2 i) := rfl
@[simp] theorem aHIdx1_d (k : E) (i : Nat) (xs : List (Ky × D)) (s : St) : aHIdx1 G c k i (some (.dct xs)) s = (ev G c k s).bind (kHIdx2 i) := rfl
def kHIdx1 (k : E) (x : D) (s : St) : R D := match x with
  | .loc i => aHIdx1 G c k i s.hp[i]? s
  | _ => .bad
@[simp] theorem kHIdx1_l (k : E) (i : Nat) (env : List Sl) (hp : List Cell) : kHIdx1 G c k (.loc i) ⟨env, hp⟩ = aHIdx1 G c k i hp[i]? ⟨env, hp⟩ := rfl
@[simp] theorem ev_hIdx (e k : E) (s : St) : ev G c (.hIdx e k) s = (ev G c e s).bind (kHIdx1 G c k) := by
  rw [ev]
  congr 1
  funext x s
  have two : ∀ (i : Nat) (r : R D), (r.bind fun y s => match s.cell (.loc i) with
      | some (_, c) => R.of (cellIdx y c) s
      | Option.none => .bad) = r.bind (kHIdx2 i) := fun i r => by
    congr 1
    funext y s
    simp only [St.cell, kHIdx2]
    cases s.hp[i]? with
    | none => rfl
    | some o => cases o <;> rfl
  cases x <;> simp only [kHIdx1] <;> try rfl
  rename_i i
  have h2 := two i (ev G c k s)
  cases hq : s.hp[i]? with
  | none => simp [St.cell, hq, aHIdx1]
  | some o =>
    cases o with
    | lst xs => simp only [St.cell, hq, aHIdx1]; exact h2
    | dct xs => simp only [St.cell, hq, aHIdx1]; exact h2
    | obj _ _ => simp [St.cell, hq, aHIdx1]
def aHIn (y : D) (o : Option Cell) (s : St) : R D := match o with
  | some (.lst xs) => R.of ((cellIn y (.lst xs)).map .bool) s
  | some (.dct xs) => R.of ((cellIn y (.dct xs)).map .bool) s
  | _ => .bad
@[simp] theorem aHIn_l (y : D) (xs : List D) (s : St) : aHIn y (some (.lst xs)) s = R.of ((inSeq y xs).map .bool) s := rfl
@[simp] theorem aHIn_i (i : Int) (xs : List (Ky × D)) (s : St) : aHIn (.int i) (some (.dct xs)) s = .ok (.bool (look xs (.i i)).isSome) s := rfl
@[simp] theorem aHIn_s (i : Tx) (xs : List (Ky × D)) (s : St) : aHIn (.str i) (some (.dct xs)) s = .ok (.bool (look xs (.s i)).isSome) s := rfl
def kHIn2 (y x : D) (s : St) : R D := match x with
  | .loc i => aHIn y s.hp[i]? s
  | _ => .bad
@[simp] theorem kHIn2_l (y : D) (i : Nat) (env : List Sl) (hp : List Cell) : kHIn2 y (.loc i) ⟨env, hp⟩ = aHIn y hp[i]? ⟨env, hp⟩ := rfl
def kHIn1 (e : E) (y : D) (s : St) : R D := (ev G c e s).bind (kHIn2 y)
@[simp] theorem kHIn1_a (e : E) (y : D) (s : St) : kHIn1 G c e y s = (ev G c e s).bind (kHIn2 y) := rfl
@[simp] theorem ev_hIn (k e : E) (s : St) : ev G c (.hIn k e) s = (ev G c k s).bind (kHIn1 G c e) := by
  rw [ev]
  congr 1
  funext y s
  unfold kHIn1
  congr 1
  funext x s
  cases x <;> simp only [St.cell, kHIn2]
  rename_i i
  cases s.hp[i]? with
  | none => rfl
  | some o => cases o <;> rfl
def aHNin (y : D) (o : Option Cell) (s : St) : R D := match o with
  | some (.lst xs) => R.of ((cellIn y (.lst xs)).map fun b => .bool !b) s
  | some (.dct xs) => R.of ((cellIn y (.dct xs)).map fun b => .bool !b) s
  | _ => .bad
@[simp] theorem aHNin_l (y : D) (xs : List D) (s : St) : aHNin y (some (.lst xs)) s = R.of ((inSeq y xs).map fun b => .bool !b) s := rfl
@[simp] theorem aHNin_i (i : Int) (xs : List (Ky × D)) (s : St) : aHNin (.int i) (some (.dct xs)) s = .ok (.bool !(look xs (.i i)).isSome) s := rfl
@[simp] theorem aHNin_s (i : Tx) (xs : List (Ky × D)) (s : St) : aHNin (.str i) (some (.dct xs)) s = .ok (.bool !(look xs (.s i)).isSome) s := rfl
def kHNin2 (y x : D) (s : St) : R D := match x with
  | .loc i => aHNin y s.hp[i]? s
  | _ => .bad
@[simp] theorem kHNin2_l (y : D) (i : Nat) (env : List Sl) (hp : List Cell) : kHNin2 y (.loc i) ⟨env, hp⟩ = aHNin y hp[i]? ⟨env, hp⟩ := rfl
def kHNin1 (e : E) (y : D) (s : St) : R D := (ev G c e s).bind (kHNin2 y)
@[simp] theorem kHNin1_a (e : E) (y : D) (s : St) : kHNin1 G c e y s = (ev G c e s).bind (kHNin2 y) := rfl
@[simp] theorem ev_hNin (k e : E) (s : St) : ev G c (.hNin k e) s = (ev G c k s).bind (kHNin1 G c e) := by
  rw [ev]
  congr 1
  funext y s
  unfold kHNin1
  congr 1
  funext x s
  cases x <;> simp only [St.cell, kHNin2]
  rename_i i
  cases s.hp[i]? with
  | none => rfl
  | some o => cases o <;> rfl
def aHPop (i : Nat) (o : Option Cell) (s : St) : R D := match o with
  | some (.lst xs) => (match xs[xs.length - 1]? with
    | some d => .ok d (s.put i (.lst xs.dropLast))
    | Option.none => .bad)
  | _ => .bad
@[simp] theorem aHPop_0 (i : Nat) (d : D) (env : List Sl) (hp : List Cell) : aHPop i (some (.lst [d])) ⟨env, hp⟩ = .ok d ⟨env, hp.set i (.lst [])⟩ := rfl
@[simp] theorem aHPop_1 (i : Nat) (xs : List D) (d : D) (env : List Sl) (hp : List Cell) : aHPop i (some (.lst (xs ++ [d]))) ⟨env, hp⟩ = .ok d ⟨env, hp.set i (.lst xs)⟩ := by
  simp [aHPop, St.put]
@[simp] theorem aHPop_2 (i : Nat) (xs : List D) (a d : D) (env : List Sl) (hp : List Cell) : aHPop i (some (.lst (xs ++ [a, d]))) ⟨env, hp⟩ = .ok d ⟨env, hp.set i (.lst (xs ++ [a]))⟩ := by
  have := aHPop_1 i (xs ++ [a]) d env hp
  simpa using this
@[simp] theorem aHPop_3 (i : Nat) (xs : List D) (a b d : D) (env : List Sl) (hp : List Cell) : aHPop i (some (.lst (xs ++ [a, b, d]))) ⟨env, hp⟩ = .ok d ⟨env, hp.set i (.lst (xs ++ [a, b]))⟩ := by
  have := aHPop_1 i (xs ++ [a, b]) d env hp
  simpa using this
def kHPop (x : D) (s : St) : R D := match x with
  | .loc i => aHPop i s.hp[i]? s
  | _ => .bad
@[simp] theorem kHPop_l (i : Nat) (env : List Sl) (hp : List Cell) : kHPop (.loc i) ⟨env, hp⟩ = aHPop i hp[i]? ⟨env, hp⟩ := rfl
@[simp] theorem ev_hPop (e : E) (s : St) : ev G c (.hPop e) s = (ev G c e s).bind kHPop := by
  rw [ev]
  congr 1
  funext x s
  cases x <;> simp only [St.cell, kHPop]
  rename_i i
  cases s.hp[i]? with
  | none => rfl
  | some o => cases o <;> rfl
def aHApp2 (i : Nat) (d : D) (o : Option Cell) (s : St) : X := match o with
  | some (.lst xs) => if xs.length < LIM then .nx (s.put i (.lst (xs ++ [d]))) else .bad
  | _ => .bad
@[simp] theorem aHApp2_l {i : Nat} {d : D} {xs : List D} {env : List Sl} {hp : List Cell} (h : xs.length < LIM) : aHApp2 i d (some (.lst xs)) ⟨env, hp⟩ = .nx ⟨env, hp.set i (.lst (xs ++ [d]))⟩ := by simp [aHApp2, h, St.put]
def kHApp2 (i : Nat) (d : D) (s : St) : X := aHApp2 i d s.hp[i]? s
@[simp] theorem kHApp2_a (i : Nat) (d : D) (env : List Sl) (hp : List Cell) : kHApp2 i d ⟨env, hp⟩ = aHApp2 i d hp[i]? ⟨env, hp⟩ := rfl
def aHApp1 (e : E) (i : Nat) (o : Option Cell) (s : St) : X := match o with
  | some (.lst _) => X.ofR (ev G c e s) (kHApp2 i)
  | _ => .bad
@[simp] theorem aHApp1_l (e : E) (i : Nat) (xs : List D) (s : St) : aHApp1 G c e i (some (.lst xs)) s = X.ofR (ev G c e s) (kHApp2 i) := rfl
def kHApp1 (e : E) (x : D) (s : St) : X := match x with
  | .loc i => aHApp1 G c e i s.hp[i]? s
  | _ => .bad
@[simp] theorem kHApp1_l (e : E) (i : Nat) (env : List Sl) (hp : List Cell) : kHApp1 G c e (.loc i) ⟨env, hp⟩ = aHApp1 G c e i hp[i]? ⟨env, hp⟩ := rfl
@[simp] theorem ex_hApp (r e : E) (s : St) : ex G c (.hApp r e) s = X.ofR (ev G c r s) (kHApp1 G c e) := by
  rw [ex]
  congr 1
  funext x s
  have two : ∀ (i : Nat) (r : R D), (X.ofR r fun d s => match s.cell (.loc i) with
      | some (i, .lst xs) => if xs.length < LIM then .nx (s.put i (.lst (xs ++ [d]))) else .bad
      | _ => .bad) = X.ofR r (kHApp2 i) := fun i r => by
    congr 1
    funext y s
    simp only [St.cell, kHApp2]
    cases s.hp[i]? with
    | none => rfl
    | some o => cases o <;> rfl
  cases x <;> simp only [kHApp1] <;> try rfl
  rename_i i
  have h2 := two i (ev G c e s)
  cases hq : s.hp[i]? with
  | none => simp [St.cell, hq, aHApp1]
  | some o =>
    cases o with
    | lst xs => simp only [St.cell, hq, aHApp1]; exact h2
    | dct xs => simp [St.cell, hq, aHApp1]
    | obj _ _ => simp [St.cell, hq, aHApp1]
def bSetA (k f : Tx) (d : D) (j : Nat) (o : Option Cell) (s : St) : X := match o with
  | some (.obj k' fs) => if k' = k then (if fs.length < 1000 then .nx (s.put j (.obj k (fput f d fs))) else .bad) else .bad
  | _ => .bad
@[simp] theorem bSetA_o {k f : Tx} {d : D} {j : Nat} {fs : List (Tx × D)} {env : List Sl} {hp : List Cell} (h : fs.length < 1000) : bSetA k f d j (some (.obj k fs)) ⟨env, hp⟩ = .nx ⟨env, hp.set j (.obj k (fput f d fs))⟩ := by simp [bSetA, h, St.put]
def aSetA (k f : Tx) (d : D) (o : Option D) (s : St) : X := match o with
  | some (.loc j) => bSetA k f d j s.hp[j]? s
  | _ => .bad
@[simp] theorem aSetA_l (k f : Tx) (d : D) (j : Nat) (env : List Sl) (hp : List Cell) : aSetA k f d (some (.loc j)) ⟨env, hp⟩ = bSetA k f d j hp[j]? ⟨env, hp⟩ := rfl
def kSetA0 (k : Tx) (i : Nat) (f : Tx) (d : D) (s : St) : X := aSetA k f d (s.get i) s
@[simp] theorem kSetA0_a (k : Tx) (i : Nat) (f : Tx) (d : D) (s : St) : kSetA0 k i f d s = aSetA k f d (s.get i) s := rfl
@[simp] theorem ex_setA (k : Tx) (i : Nat) (f : Tx) (e : E) (s : St) : ex G c (.setA k i f e) s = X.ofR (ev G c e s) (kSetA0 k i f) := by
  rw [ex]
  congr 1
  funext d s
  simp only [kSetA0]
  cases s.get i with
  | none => rfl
  | some x =>
    cases x <;> simp only [St.obj, aSetA]
    rename_i j
    cases s.hp[j]? with
    | none => rfl
    | some o =>
      cases o <;> simp only [bSetA]
      rename_i k' fs
      by_cases h : k' = k
      · simp only [h, if_true]
      · simp only [h, if_false]
def aAugA2 (k f : Tx) (j : Nat) (v : D) (o : Option Cell) (s : St) : X := match o with
  | some (.obj k' fs) => if k' = k then (if fs.length < 1000 then .nx (s.put j (.obj k (fput f v fs))) else .bad) else .bad
  | _ => .bad
@[simp] theorem aAugA2_o {k f : Tx} {d : D} {j : Nat} {fs : List (Tx × D)} {env : List Sl} {hp : List Cell} (h : fs.length < 1000) : aAugA2 k f j d (some (.obj k fs)) ⟨env, hp⟩ = .nx ⟨env, hp.set j (.obj k (fput f d fs))⟩ := by simp [aAugA2, h, St.put]
def kAugA2 (k f : Tx) (o : O2) (j : Nat) (m : Int) (d : D) (s : St) : X := match d, o with
  | .int n, .add => aAugA2 k f j (.int (m + n)) s.hp[j]? s
  | .int n, .sub => aAugA2 k f j (.int (m - n)) s.hp[j]? s
  | _, _ => .bad
@[simp] theorem kAugA2_a (k f : Tx) (j : Nat) (m n : Int) (env : List Sl) (hp : List Cell) : kAugA2 k f .add j m (.int n) ⟨env, hp⟩ = aAugA2 k f j (.int (m + n)) hp[j]? ⟨env, hp⟩ := rfl
@[simp] theorem kAugA2_s (k f : Tx) (j : Nat) (m n : Int) (env : List Sl) (hp : List Cell) : kAugA2 k f .sub j m (.int n) ⟨env, hp⟩ = aAugA2 k f j (.int (m - n)) hp[j]? ⟨env, hp⟩ := rfl
def bAugA1 (k f : Tx) (o : O2) (e : E) (j : Nat) (w : Option D) (s : St) : X := match w with
  | some (.int m) => X.ofR (ev G c e s) (kAugA2 k f o j m)
  | _ => .bad
@[simp] theorem bAugA1_i (k f : Tx) (o : O2) (e : E) (j : Nat) (m : Int) (s : St) : bAugA1 G c k f o e j (some (.int m)) s = X.ofR (ev G c e s) (kAugA2 k f o j m) := rfl
def aAugA1 (k f : Tx) (o : O2) (e : E) (j : Nat) (w : Option Cell) (s : St) : X := match w with
  | some (.obj k' fs) => if k' = k then bAugA1 G c k f o e j (fget fs f) s else .bad
  | _ => .bad
@[simp] theorem aAugA1_o (k f : Tx) (o : O2) (e : E) (j : Nat) (fs : List (Tx × D)) (s : St) : aAugA1 G c k f o e j (some (.obj k fs)) s = bAugA1 G c k f o e j (fget fs f) s := by simp [aAugA1]
def kAugA (k f : Tx) (o : O2) (e : E) (w : Option D) (s : St) : X := match w with
  | some (.loc j) => aAugA1 G c k f o e j s.hp[j]? s
  | _ => .bad
@[simp] theorem kAugA_l (k f : Tx) (o : O2) (e : E) (j : Nat) (env : List Sl) (hp : List Cell) : kAugA G c k f o e (some (.loc j)) ⟨env, hp⟩ = aAugA1 G c k f o e j hp[j]? ⟨env, hp⟩ := rfl
@[simp] theorem ex_augA (k : Tx) (i : Nat) (f : Tx) (o : O2) (e : E) (s : St) : ex G c (.augA k i f o e) s = kAugA G c k f o e (s.get i) s := by
  rw [ex]
  cases s.get i with
  | none => rfl
  | some x =>
    cases x <;> simp only [St.obj, kAugA]
    rename_i j
    cases hj : s.hp[j]? with
    | none => rfl
    | some w =>
      cases w <;> simp only [aAugA1]
      rename_i k' fs
      by_cases h : k' = k
      · simp only [h, if_true]
        cases fget fs f with
        | none => rfl
        | some z =>
          cases z <;> simp only [bAugA1]
          rename_i m
          congr 1
          funext d s
          cases hq : s.hp[j]? with
          | none => cases d <;> cases o <;> simp [kAugA2, hq, aAugA2]
          | some w =>
            cases w with
            | obj k2 fs2 =>
              by_cases h2 : k2 = k
              · cases d <;> simp only [h2, if_true, kAugA2, hq, aAugA2]
                cases o <;> simp
              · cases d <;> cases o <;> simp [kAugA2, hq, aAugA2, h2]
            | lst _ => cases d <;> cases o <;> simp [kAugA2, hq, aAugA2]
            | dct _ => cases d <;> cases o <;> simp [kAugA2, hq, aAugA2]
      · simp only [h, if_false]
end
theorem set_ne {α : Type} {l : List α} {i j : Nat} {a : α} (h : ¬ i = j) : (l.set i a)[j]? = l[j]? := List.getElem?_set_ne h
theorem set_eq {α : Type} {l : List α} {i : Nat} {a : α} (h : i < l.length) : (l.set i a)[i]? = some a := List.getElem?_set_self h
section
variable {i : Nat} {env : List Sl} {hp : List Cell} {kvs : List (Ky × D)} {d : D}
@[simp] theorem putO_d (h : i < env.length) : putO i (.dct kvs) ⟨env, hp⟩ = .nx ⟨env.set i (.od kvs), hp⟩ := by simp only [putO, h, if_true]; rfl
@[simp] theorem o1_dct : op1 .toDct (.dct kvs) = some (.dct kvs) := rfl
@[simp] theorem o1_boolL {xs : List D} : op1 .bool_ (.lst xs) = some (.bool (!xs.isEmpty)) := rfl
@[simp] theorem o2_idxDs {x : Tx} : op2 .idx (.dct kvs) (.str x) = look kvs (.s x) := rfl
@[simp] theorem o2_idxDi {x : Int} : op2 .idx (.dct kvs) (.int x) = look kvs (.i x) := rfl
@[simp] theorem setK_s {x : Tx} (h : env[i]? = some (.od kvs)) (hl : kvs.length < LIM) : setK i d (.str x) ⟨env, hp⟩ = .nx ⟨env.set i (.od (putK kvs (.s x) d)), hp⟩ := setK_ok h rfl hl
@[simp] theorem setK_i {x : Int} (h : env[i]? = some (.od kvs)) (hl : kvs.length < LIM) : setK i d (.int x) ⟨env, hp⟩ = .nx ⟨env.set i (.od (putK kvs (.i x) d)), hp⟩ := setK_ok h rfl hl
@[simp] theorem rcv_get {a : R D} : rcvR .get (.dct kvs) a = a := rfl
@[simp] theorem mop_geti {x : Int} : mop .get (.dct kvs) [.int x, d] = some ((look kvs (.i x)).getD d) := rfl
@[simp] theorem mop_gets {x : Tx} : mop .get (.dct kvs) [.str x, d] = some ((look kvs (.s x)).getD d) := rfl
end
theorem look_map {q k : Ky} {v : D} : ∀ kvs : List (Ky × D), look (kvs.map fun p => if p.1 = q then (p.1, v) else p) k = if k = q then (if (look kvs k).isSome then some v else Option.none) else look kvs k
  | [] => by simp [look]
  | (a, b) :: r => by
    have ih := look_map (q := q) (k := k) (v := v) r
    simp only [List.map_cons]
    by_cases h : a = q
    · subst h
      simp only [if_true, look]
      by_cases h2 : a = k
      · subst h2; simp
      · simp only [h2, if_false, ih]
    · simp only [h, if_false, look]
      by_cases h2 : a = k
      · subst h2; simp [h]
      · simp only [h2, if_false, ih]
theorem look_app : ∀ (a b : List (Ky × D)) (k : Ky), look (a ++ b) k = (look a k).or (look b k)
  | [], b, k => by simp [look]
  | (x, y) :: a, b, k => by
    simp only [List.cons_append, look]
    split
    · rfl
    · exact look_app a b k
/-- what a dict tells behind a store -/
theorem look_putK (kvs : List (Ky × D)) (q : Ky) (v : D) (k : Ky) : look (putK kvs q v) k = if k = q then some v else look kvs k := by
  unfold putK
  split
  · rename_i h
    rw [look_map]
    by_cases e : k = q
    · subst e; simp [h]
    · simp [e]
  · rename_i h
    rw [look_app]
    by_cases e : k = q
    · subst e
      have : look kvs k = Option.none := by simpa using h
      simp [this, look]
    · have e' : ¬ q = k := fun z => e z.symm
      simp only [look, if_neg e', if_neg e]
      cases look kvs k <;> rfl
theorem putK_len (kvs : List (Ky × D)) (q : Ky) (v : D) : (putK kvs q v).length ≤ kvs.length + 1 := by
  unfold putK
  split <;> simp
end Fp
set_option linter.all false
set_option maxRecDepth 100000
namespace Fp
open Ft
/-! more steps: unpacking, extend, while, keys, r[k] += e -/
def kUnp (is : List Nat) (d : D) (s : St) : X := match d with
  | .tup xs => (match setTg s is xs with
    | some s => .nx s
    | Option.none => .bad)
  | .lst xs => (match setTg s is xs with
    | some s => .nx s
    | Option.none => .bad)
  | _ => .bad
@[simp] theorem ex_unp (G : Glob) (c : Oracle) (is : List Nat) (e : E) (s : St) : ex G c (.unp is e) s = X.ofR (ev G c e s) (kUnp is) := by
  rw [ex]
  congr 1
@[simp] theorem kUnp2 {i j : Nat} {x y : D} {env : List Sl} {hp : List Cell} (h : i < env.length) (h2 : j < env.length) : kUnp [i, j] (.tup [x, y]) ⟨env, hp⟩ = .nx ⟨(env.set i (.d x)).set j (.d y), hp⟩ := by
  simp [kUnp, setTg, St.set, h, h2]
@[simp] theorem kUnp3 {i j k : Nat} {x y z : D} {env : List Sl} {hp : List Cell} (h : i < env.length) (h2 : j < env.length) (h3 : k < env.length) : kUnp [i, j, k] (.tup [x, y, z]) ⟨env, hp⟩ = .nx ⟨((env.set i (.d x)).set j (.d y)).set k (.d z), hp⟩ := by
  simp [kUnp, setTg, St.set, h, h2, h3]
@[simp] theorem kUnpL3 {i j k : Nat} {x y z : D} {env : List Sl} {hp : List Cell} (h : i < env.length) (h2 : j < env.length) (h3 : k < env.length) : kUnp [i, j, k] (.lst [x, y, z]) ⟨env, hp⟩ = .nx ⟨((env.set i (.d x)).set j (.d y)).set k (.d z), hp⟩ := by
  simp [kUnp, setTg, St.set, h, h2, h3]
@[simp] theorem kUnpL2 {i j : Nat} {x y : D} {env : List Sl} {hp : List Cell} (h : i < env.length) (h2 : j < env.length) : kUnp [i, j] (.lst [x, y]) ⟨env, hp⟩ = .nx ⟨(env.set i (.d x)).set j (.d y), hp⟩ := by
  simp [kUnp, setTg, St.set, h, h2]
@[simp] theorem it_dct (kvs : List (Ky × D)) : items .seq [.dct kvs] = some (kvs.map fun p => kyD p.1) := rfl
@[simp] theorem o1_isTL (d : D) : op1 .isTL d = isK d (match d with | .tup _ => true | .lst _ => true | .scr _ => true | _ => false) := by cases d <;> rfl
def extP (i : Nat) (xs : List D) (d : D) (s : St) : X := match d with
  | .lst ys => if xs.length + ys.length ≤ LIM then .nx (s.set i (.ol (xs ++ ys))) else .bad
  | _ => .bad
@[simp] theorem extP_l {i : Nat} {xs ys : List D} {env : List Sl} {hp : List Cell} (h : xs.length + ys.length ≤ LIM) : extP i xs (.lst ys) ⟨env, hp⟩ = .nx ⟨env.set i (.ol (xs ++ ys)), hp⟩ := by simp only [extP, h, if_true]; rfl
def kExt3 (i : Nat) (d : D) (s : St) (xs : List D) : X := extP i xs d s
@[simp] theorem kExt3_a (i : Nat) (d : D) (s : St) (xs : List D) : kExt3 i d s xs = extP i xs d s := rfl
def kExt2 (i : Nat) (d : D) (s : St) : X := ownS s i (kExt3 i d s) kBadK .bad
@[simp] theorem kExt2_a (i : Nat) (d : D) (s : St) : kExt2 i d s = ownS s i (kExt3 i d s) kBadK .bad := rfl
def kExt1 (G : Glob) (c : Oracle) (i : Nat) (e : E) (s : St) (xs : List D) : X := X.ofR (ev G c e s) (kExt2 i)
@[simp] theorem kExt1_a (G : Glob) (c : Oracle) (i : Nat) (e : E) (s : St) (xs : List D) : kExt1 G c i e s xs = X.ofR (ev G c e s) (kExt2 i) := rfl
@[simp] theorem ex_ext (G : Glob) (c : Oracle) (s : St) (i : Nat) (e : E) : ex G c (.ext i e) s = ownS s i (kExt1 G c i e s) kBadK .bad := by
  rw [ex]
  unfold kExt1 kExt2 kExt3 kBadK ownS extP
  cases s.env[i]? with
  | none => rfl
  | some x =>
    cases x <;> try rfl
    dsimp only
    congr 1
    funext d s
    cases h : s.env[i]? with
    | none => rfl
    | some x =>
      cases x <;> cases d <;> rfl
theorem ex_hAugL {G : Glob} {c : Oracle} {r k e : E} {env : List Sl} {hp : List Cell} {a j : Nat} {xs : List D} {n m m' : Int} (hr : ev G c r ⟨env, hp⟩ = .ok (.loc a) ⟨env, hp⟩) (hk : ev G c k ⟨env, hp⟩ = .ok (.int n) ⟨env, hp⟩) (hc : hp[a]? = some (.lst xs)) (ha : at? xs n = some (.int m)) (he : ev G c e ⟨env, hp⟩ = .ok (.int m') ⟨env, hp⟩) (hj : ix xs.length n = some j) :
    ex G c (.hAug r k e) ⟨env, hp⟩ = .nx ⟨env, hp.set a (.lst (xs.set j (.int (m + m'))))⟩ := by
  simp only [ex, hr, X.ofR, St.cell, hc, hk, ha, he, hj, St.put]
theorem ex_hSetK {G : Glob} {c : Oracle} {r k e : E} {env : List Sl} {hp : List Cell} {i : Nat} {kvs : List (Ky × D)} {n : Int} {d : D} (he : ev G c e ⟨env, hp⟩ = .ok d ⟨env, hp⟩) (hr : ev G c r ⟨env, hp⟩ = .ok (.loc i) ⟨env, hp⟩) (hk : ev G c k ⟨env, hp⟩ = .ok (.int n) ⟨env, hp⟩) (hi : hp[i]? = some (.dct kvs)) (hL : kvs.length < LIM) : ex G c (.hSet r k e) ⟨env, hp⟩ = .nx ⟨env, hp.set i (.dct (putK kvs (.i n) d))⟩ := by
  simp only [ex, he, X.ofR, hr, St.cell, hi, hk, Option.map_some, ky, hL, if_true, St.put]
def whT (G : Glob) (c : Oracle) (e : E) (s : St) : R Bool := (ev G c e s).bind fun d s => R.of d.tru s
def whB (G : Glob) (c : Oracle) (body : List Sm) (s : St) : X := exs G c body s
theorem ex_whil (G : Glob) (c : Oracle) (e : E) (body : List Sm) (s : St) : ex G c (.whil e body) s = whileL (whT G c e) (whB G c body) LIM s := by
  rw [ex]
  rfl
theorem while_no {test : St → R Bool} {body : St → X} {n : Nat} {s : St} (h : test s = .ok false s) : whileL test body (n + 1) s = .nx s := by
  rw [whileL, h]; rfl
theorem while_go {test : St → R Bool} {body : St → X} {n : Nat} {s s' : St} (h : test s = .ok true s) (h2 : body s = .nx s') : whileL test body (n + 1) s = whileL test body n s' := by
  rw [whileL, h]
  show (body s).then_ _ = _
  rw [h2]
  rfl
@[simp] theorem fget_n (q : Tx) : fget [] q = Option.none := rfl
@[simp] theorem fget_c (x q : Tx) (d : D) (r : List (Tx × D)) : fget ((x, d) :: r) q = if x = q then some d else fget r q := rfl
@[simp] theorem fput_n (q : Tx) (v : D) : fput q v [] = [(q, v)] := rfl
@[simp] theorem fput_c (x q : Tx) (d v : D) (r : List (Tx × D)) : fput q v ((x, d) :: r) = if x = q then (x, v) :: r else (x, d) :: fput q v r := rfl
@[simp] theorem forF3 {G : Glob} {c : Oracle} {i j k : Nat} {body : List Sm} {x y z : D} {env : List Sl} {hp : List Cell} (h : i < env.length) (h2 : j < env.length) (h3 : k < env.length) : forF G c [i, j, k] body (.tup [x, y, z]) ⟨env, hp⟩ = exs G c body ⟨((env.set i (.d x)).set j (.d y)).set k (.d z), hp⟩ := by
  simp [forF, setT, setTg, St.set, h, h2, h3]
def kRaiA (x : Tx) (ds : List D) (s : St) : X := match ds with
  | [.str _, .int i] => .exn ⟨x, some (.int i)⟩ s
  | _ => .bad
@[simp] theorem ex_raiA (G : Glob) (c : Oracle) (s : St) (x : Tx) (es : List E) : ex G c (.raiA x es) s = X.ofR (evs G c es s) (kRaiA x) := by
  rw [ex]
  rfl
@[simp] theorem kRaiA_a (x t : Tx) (i : Int) (s : St) : kRaiA x [.str t, .int i] s = .exn ⟨x, some (.int i)⟩ s := rfl
def tryA (known : List Tx) (h : Tx) (n i : Nat) : X → X
  | .exn x s' => if x.cls ∈ known ∧ n ≠ i ∧ n < s'.env.length then
        (if x.cls = h then (match x.at_, s'.env[i]? with
          | some d, some (.ol xs) => if xs.length < LIM then .nx ((s'.set i (.ol (xs ++ [d]))).set n .no) else .bad
          | _, _ => .bad)
        else if h = topT then .bad else .exn x s') else .bad
  | r => r
@[simp] theorem ex_tryAt (G : Glob) (c : Oracle) (s : St) (known : List Tx) (body : List Sm) (h : Tx) (n i : Nat) : ex G c (.tryAt known body h n i) s = tryA known h n i (exs G c body s) := by
  rw [ex]
  cases exs G c body s <;> rfl
@[simp] theorem tryA_n (known : List Tx) (h : Tx) (n i : Nat) (s : St) : tryA known h n i (.nx s) = .nx s := rfl
@[simp] theorem tryA_x {known : List Tx} {h : Tx} {n i : Nat} {d : D} {env : List Sl} {hp : List Cell} {xs : List D} (h1 : h ∈ known) (h2 : n ≠ i) (h3 : n < env.length) (h4 : env[i]? = some (.ol xs)) (h5 : xs.length < LIM) : tryA known h n i (.exn ⟨h, some d⟩ ⟨env, hp⟩) = .nx ⟨(env.set i (.ol (xs ++ [d]))).set n .no, hp⟩ := by
  simp [tryA, h1, h2, h3, h4, h5, St.set]
end Fp
set_option linter.all false
set_option maxRecDepth 100000
set_option maxHeartbeats 1000000
namespace Fp
open Ft
abbrev GG : Glob := lookG gloL
abbrev TT : Tx → Option Fn := lookT tabL
/-- what a def answers, from so many calls deep on -/
def Ev (n : Nat) (f : Tx) (args : List D) (r : D) : Prop := ∀ m, n ≤ m → run GG TT m f args [] = .ok r false []
theorem Ev.mk {n : Nat} {f : Tx} {args : List D} {r : D} {p k : Nat} {b : List Sm} (hT : TT f = some ⟨p, k, b⟩) (hl : args.length = p)
    (h : ∀ m, n ≤ m → ∃ e, exs GG (run GG TT m) b ⟨args.map .d ++ List.replicate (k - p) .no, []⟩ = .rt r false ⟨e, []⟩) : Ev (n + 1) f args r := fun m hm => by
  obtain ⟨m, rfl⟩ : ∃ q, m = q + 1 := ⟨m - 1, by omega⟩
  obtain ⟨e, he⟩ := h m (by omega)
  exact run_ok GG TT m p k f b args hT hl (by rw [he]; rfl)
theorem Ev.lift {n m : Nat} {f : Tx} {args : List D} {r : D} (h : Ev n f args r) (q : n ≤ m) : Ev m f args r := fun k hk => h k (by omega)
theorem Ev.of {n : Nat} {f : Tx} {args : List D} {r : D} {p k : Nat} {b : List Sm} (hT : TT f = some ⟨p, k, b⟩) (hl : args.length = p)
    (h : ∀ m, n ≤ m → rtv (exs GG (run GG TT m) b ⟨args.map .d ++ List.replicate (k - p) .no, []⟩) = some (r, false, [])) : Ev (n + 1) f args r := Ev.mk hT hl fun m hm => rtv_of (h m hm)
/-! programs -/
inductive W0 where
  | yes | no | empty
  deriving DecidableEq
inductive W1 where
  | first | second
  deriving DecidableEq
inductive W2 where
  | call | pair
  deriving DecidableEq
inductive W3 where
  | cond | fold | times
  deriving DecidableEq
inductive Tr where
  | num (n : Int) | nm (x : Tx) | z (w : W0) | fn (x : Tx) (b : Tr) | bd (x : Tx) (a b : Tr) | two (s : Nat) (a b : Tr)
  | u (w : W1) (a : Tr) | p (w : W2) (a b : Tr) | t (w : W3) (a b c : Tr)
  deriving DecidableEq
def W0.tx : W0 → Tx
  | .yes => [121, 101, 115] | .no => [110, 111] | .empty => [101, 109, 112, 116, 121]
def W1.tx : W1 → Tx
  | .first => [102, 105, 114, 115, 116] | .second => [115, 101, 99, 111, 110, 100]
def W2.tx : W2 → Tx
  | .call => [99, 97, 108, 108] | .pair => [112, 97, 105, 114]
def W3.tx : W3 → Tx
  | .cond => [105, 102] | .fold => [102, 111, 108, 100] | .times => [116, 105, 109, 101, 115]
namespace Tr
def d : Tr → D
  | num n => .tup [.str [110, 117, 109], .int n]
  | nm x => .tup [.str [110, 97, 109, 101], .str x]
  | z w => .tup [.str w.tx]
  | fn x b => .tup [.str [102, 117, 110], .str x, b.d]
  | bd x a b => .tup [.str [108, 101, 116], .str x, a.d, b.d]
  | two s a b => .tup [.str [116, 119, 111], .str [s], a.d, b.d]
  | u w a => .tup [.str w.tx, a.d]
  | p w a b => .tup [.str w.tx, a.d, b.d]
  | t w a b c => .tup [.str w.tx, a.d, b.d, c.d]
def parts : Tr → List Tr
  | num _ | nm _ | z _ => []
  | fn _ b => [b]
  | bd _ a b | two _ a b => [a, b]
  | u _ a => [a]
  | p _ a b => [a, b]
  | t _ a b c => [a, b, c]
def size : Tr → Nat
  | num _ | nm _ | z _ => 1
  | fn _ b => 1 + b.size
  | bd _ a b | two _ a b => 1 + (a.size + b.size)
  | u _ a => 1 + a.size
  | p _ a b => 1 + (a.size + b.size)
  | t _ a b c => 1 + (a.size + (b.size + c.size))
def dep : Tr → Nat
  | num _ | nm _ | z _ => 1
  | fn _ b => b.dep + 1
  | bd _ a b | two _ a b => max a.dep b.dep + 1
  | u _ a => a.dep + 1
  | p _ a b => max a.dep b.dep + 1
  | t _ a b c => max a.dep (max b.dep c.dep) + 1
end Tr
def wordsT : List Tx := [[108, 101, 116], [105, 110], [105, 102], [116, 104, 101, 110], [101, 108, 115, 101], [102, 117, 110], [102, 111, 108, 100], [116, 105, 109, 101, 115], [102, 105, 114, 115, 116], [115, 101, 99, 111, 110, 100], [121, 101, 115], [110, 111], [101, 109, 112, 116, 121]]
def smallT : Tx := [97, 98, 99, 100, 101, 102, 103, 104, 105, 106, 107, 108, 109, 110, 111, 112, 113, 114, 115, 116, 117, 118, 119, 120, 121, 122]
def signsT : Tx := [124, 38, 61, 60, 58, 43, 45, 42]
/-- a name -/
structure Nm (x : Tx) : Prop where
  pos : 1 ≤ x.length
  few : x.length ≤ 6
  noW : x ∉ wordsT
  sm : ∀ c ∈ x, c ∈ smallT
def Tr.ok : Tr → Prop
  | .num n => 0 ≤ n ∧ n ≤ 9972
  | .nm x => Nm x
  | .z _ => True
  | .fn x b => Nm x ∧ b.ok
  | .bd x a b => Nm x ∧ a.ok ∧ b.ok
  | .two s a b => s ∈ signsT ∧ a.ok ∧ b.ok
  | .u _ a => a.ok
  | .p _ a b => a.ok ∧ b.ok
  | .t _ a b c => a.ok ∧ b.ok ∧ c.ok
theorem Tr.parts_ok {t : Tr} (h : t.ok) : ∀ q ∈ t.parts, q.ok := by
  cases t <;> simp_all [Tr.ok, Tr.parts]
theorem Tr.parts_dep {t : Tr} : ∀ q ∈ t.parts, q.dep + 1 ≤ t.dep := by
  cases t <;> simp [Tr.parts, Tr.dep] <;> omega
theorem Tr.dep_pos (t : Tr) : 1 ≤ t.dep := by cases t <;> simp [Tr.dep]
theorem Tr.size_pos (t : Tr) : 1 ≤ t.size := by cases t <;> simp [Tr.size] <;> omega
theorem Tr.size_eq (t : Tr) : t.size = 1 + (t.parts.map Tr.size).sum := by cases t <;> simp [Tr.size, Tr.parts]
theorem small_lt : ∀ c ∈ smallT, c < 55296 := by decide
theorem sign_lt : ∀ c ∈ signsT, c < 55296 := by decide
theorem Nm.dep {x : Tx} (h : Nm x) : (D.str x).dep = some 0 := by
  have : x.all (fun c => decide (c < 55296)) = true := List.all_eq_true.mpr fun c hc => decide_eq_true (small_lt c (h.sm c hc))
  simp only [D.dep, this, if_true]
theorem Tr.dDep : ∀ {t : Tr}, t.ok → t.d.dep = some t.dep
  | .num n, _ => rfl
  | .nm x, h => by
    have n := Nm.dep h
    simp only [Tr.d, D.dep, D.depL, Tr.dep] at n ⊢
    rw [n]; simp
  | .z w, _ => by cases w <;> rfl
  | .fn x b, h => by
    have e := Tr.dDep h.2
    have n := Nm.dep h.1
    simp only [Tr.d, D.dep, D.depL, e, Tr.dep] at n ⊢
    rw [n]; simp
  | .bd x a b, h => by
    have e := Tr.dDep h.2.1
    have e2 := Tr.dDep h.2.2
    have n := Nm.dep h.1
    simp only [Tr.d, D.dep, D.depL, e, e2, Tr.dep] at n ⊢
    rw [n]; simp
  | .two s a b, h => by
    have e := Tr.dDep h.2.1
    have e2 := Tr.dDep h.2.2
    have n := sign_lt s h.1
    simp only [Tr.d, D.dep, D.depL, e, e2, Tr.dep]
    simp [n]
  | .u w a, h => by
    have e := Tr.dDep (t := a) h
    cases w <;> simp [Tr.d, D.dep, D.depL, e, Tr.dep, W1.tx]
  | .p w a b, h => by
    have e := Tr.dDep h.1
    have e2 := Tr.dDep h.2
    cases w <;> simp [Tr.d, D.dep, D.depL, e, e2, Tr.dep, W2.tx]
  | .t w a b c, h => by
    have e := Tr.dDep h.1
    have e2 := Tr.dDep h.2.1
    have e3 := Tr.dDep h.2.2
    cases w <;> simp [Tr.d, D.dep, D.depL, e, e2, e3, Tr.dep, W3.tx]
theorem Tr.eqv_self : ∀ t : Tr, D.eqv t.d t.d = true
  | .num n => by simp [Tr.d, D.eqv, D.eqvL]
  | .nm x => by simp [Tr.d, D.eqv, D.eqvL]
  | .z w => by simp [Tr.d, D.eqv, D.eqvL]
  | .fn x b => by simp [Tr.d, D.eqv, D.eqvL, Tr.eqv_self b]
  | .bd x a b => by simp [Tr.d, D.eqv, D.eqvL, Tr.eqv_self a, Tr.eqv_self b]
  | .two s a b => by simp [Tr.d, D.eqv, D.eqvL, Tr.eqv_self a, Tr.eqv_self b]
  | .u w a => by simp [Tr.d, D.eqv, D.eqvL, Tr.eqv_self a]
  | .p w a b => by simp [Tr.d, D.eqv, D.eqvL, Tr.eqv_self a, Tr.eqv_self b]
  | .t w a b c => by simp [Tr.d, D.eqv, D.eqvL, Tr.eqv_self a, Tr.eqv_self b, Tr.eqv_self c]
end Fp
set_option linter.all false
set_option maxRecDepth 100000
set_option maxHeartbeats 1000000
namespace Fp
open Ft
theorem ev_parts (t : Tr) : Ev 1 [112, 97, 114, 116, 115, 95, 111, 102] [t.d] (.lst (t.parts.map Tr.d)) := by
  refine Ev.mk (p := 1) (k := 1) (b := b_parts_of) rfl rfl fun m hm => ⟨[.d t.d], ?_⟩
  cases t with
  | num n => rfl
  | nm x => rfl
  | z w => cases w <;> rfl
  | fn x b => rfl
  | bd x a b => rfl
  | two s a b => rfl
  | u w a => cases w <;> rfl
  | p w a b => cases w <;> rfl
  | t w a b c => cases w <;> rfl
theorem ev_within (i lo hi : Int) (h : lo ≤ i) (h2 : i ≤ hi) : Ev 1 [105, 115, 95, 119, 105, 116, 104, 105, 110] [.int i, .int lo, .int hi] (.bool true) := by
  refine Ev.mk (p := 3) (k := 3) (b := b_is_within) rfl rfl fun m hm => ⟨[.d (.int i), .d (.int lo), .d (.int hi)], ?_⟩
  simp -implicitDefEqProofs [b_is_within, h, h2]
theorem ev_name {x : Tx} (h : Nm x) : Ev 1 [105, 115, 95, 110, 97, 109, 101] [.str x] (.bool true) := by
  refine Ev.mk (p := 1) (k := 2) (b := b_is_name) rfl rfl fun m hm => ⟨[.d (.str x), .no], ?_⟩
  have g : lookG gloL [87, 79, 82, 68, 83] = some (.tup (wordsT.map .str)) := rfl
  have g2 : lookG gloL [83, 77, 65, 76, 76] = some (.str smallT) := rfl
  have l1 : (1 : Int) ≤ x.length := by have := h.pos; omega
  have l2 : (x.length : Int) ≤ 6 := by have := h.few; omega
  have l3 : x.length ≤ LIM := by have := h.few; unfold LIM; omega
  have cs : compL (compF GG (run GG TT m) [1] [.bi .nin (.var 1) (.glb [83, 77, 65, 76, 76])] (.var 1)) (x.map fun a => .str [a]) [] ⟨[.d (.str x), .no], []⟩ = .ok [] ⟨[.d (.str x), .no], []⟩ := by
    rw [compL_all (g := fun _ => Option.none) (fun y hy => ?_) (by rw [List.length_map]; simpa using l3)]
    · simp
    · obtain ⟨a, ha, rfl⟩ := List.mem_map.mp hy
      have := h.sm a ha
      simp -implicitDefEqProofs [g2, this]
  simp -implicitDefEqProofs [b_is_name, g, h.noW, l1, l2, l3, cs]
end Fp
set_option linter.all false
set_option maxRecDepth 100000
set_option maxHeartbeats 1000000
namespace Fp
open Ft
theorem ev_look {t : Tr} (h : t.ok) : Ev 2 [104, 97, 115, 95, 108, 111, 111, 107] [t.d] (.bool true) := by
  refine Ev.mk (p := 1) (k := 2) (b := b_has_look) rfl rfl fun m hm => ?_
  have gI : lookG gloL [73, 78, 78, 69, 82] = some g_INNER := rfl
  have gP : lookG gloL [80, 82, 73, 77, 69] = some (.int 9973) := rfl
  have gS : lookG gloL [83, 73, 71, 78, 83] = some (.tup ((signsT.map fun c => [c]).map .str)) := rfl
  cases t with
  | num n =>
    have c := call_ok (env := [.d (Tr.num n).d, .d (.str [110, 117, 109])]) (ev_within n 0 9972 h.1 h.2 m hm)
    refine ⟨[.d (Tr.num n).d, .d (.str [110, 117, 109])], ?_⟩
    simp only [Tr.d] at c ⊢
    simp -implicitDefEqProofs [b_has_look, gI, gP, g_INNER, look, c]
  | nm x =>
    have c := call_ok (env := [.d (Tr.nm x).d, .d (.str [110, 97, 109, 101])]) (ev_name h m hm)
    refine ⟨[.d (Tr.nm x).d, .d (.str [110, 97, 109, 101])], ?_⟩
    simp only [Tr.d] at c ⊢
    simp -implicitDefEqProofs [b_has_look, gI, gP, g_INNER, look, c]
  | z w => cases w <;> exact ⟨_, rfl⟩
  | fn x b =>
    have c := call_ok (env := [.d (Tr.fn x b).d, .d (.str [102, 117, 110])]) (ev_name h.1 m hm)
    refine ⟨[.d (Tr.fn x b).d, .d (.str [102, 117, 110])], ?_⟩
    simp only [Tr.d] at c ⊢
    simp -implicitDefEqProofs [b_has_look, gI, gP, g_INNER, look, c]
  | bd x a b =>
    have c := call_ok (env := [.d (Tr.bd x a b).d, .d (.str [108, 101, 116])]) (ev_name h.1 m hm)
    refine ⟨[.d (Tr.bd x a b).d, .d (.str [108, 101, 116])], ?_⟩
    simp only [Tr.d] at c ⊢
    simp -implicitDefEqProofs [b_has_look, gI, gP, g_INNER, look, c]
  | two s a b =>
    refine ⟨[.d (Tr.two s a b).d, .d (.str [116, 119, 111])], ?_⟩
    have hs : [s] ∈ signsT.map fun c => [c] := List.mem_map.mpr ⟨s, h.1, rfl⟩
    simp only [Tr.d]
    have e : op2 .in_ (.str [s]) (.tup ((signsT.map fun c => [c]).map .str)) = some (.bool true) := by rw [o2_inT, decide_eq_true hs]
    simp only [List.map_map] at e gS
    simp -implicitDefEqProofs [b_has_look, gI, gP, gS, g_INNER, look, e]
  | u w a => cases w <;> exact ⟨_, rfl⟩
  | p w a b => cases w <;> exact ⟨_, rfl⟩
  | t w a b c => cases w <;> exact ⟨_, rfl⟩
end Fp
set_option linter.all false
set_option maxRecDepth 100000
set_option maxHeartbeats 1000000
namespace Fp
open Ft
def sumS (qs : List Tr) : Nat := (qs.map Tr.size).sum
theorem loop_counted {c : Oracle} (x0 : Sl) : ∀ (qs : List Tr) (left : Int) (x2 : Sl), (∀ q ∈ qs, ∀ l : Int, (q.size : Int) ≤ l → c [99, 111, 117, 110, 116, 101, 100] [q.d, .int l] [] = .ok (.int (l - q.size)) false []) → (sumS qs : Int) ≤ left →
    ∃ y, forL (forF GG c [2] [.asg 1 (.call [99, 111, 117, 110, 116, 101, 100] [.var 2, .var 1]), .iff (.bi .lt (.var 1) (.cst (.int 0))) [.ret (.un .neg (.cst (.int 1)))] []]) (qs.map Tr.d) ⟨[x0, .d (.int left), x2], []⟩ = .nx ⟨[x0, .d (.int (left - sumS qs)), y], []⟩
  | [], left, x2, _, _ => ⟨x2, by simp [forL_nil, sumS]⟩
  | q :: qs, left, x2, h, hl => by
    have e : sumS (q :: qs) = q.size + sumS qs := by simp [sumS]
    rw [e] at hl ⊢
    have h1 := h q List.mem_cons_self left (by omega)
    have c1 := call_ok (env := [x0, .d (.int left), .d q.d]) h1
    obtain ⟨y, ih⟩ := loop_counted x0 qs (left - q.size) (.d q.d) (fun r hr => h r (List.mem_cons_of_mem _ hr)) (by omega)
    refine ⟨y, ?_⟩
    have p1 : ¬ (left - (q.size : Int) < 0) := by omega
    simp -implicitDefEqProofs [c1, p1]
    rw [ih]
    simp
    omega
theorem ev_counted : ∀ (n : Nat) (t : Tr), t.dep ≤ n → t.ok → ∀ l : Int, (t.size : Int) ≤ l → Ev (n + 2) [99, 111, 117, 110, 116, 101, 100] [t.d, .int l] (.int (l - t.size))
  | 0, t, hn, _, _, _ => absurd hn (by have := t.dep_pos; omega)
  | n + 1, t, hn, ht, l, hl => by
    refine Ev.mk (n := n + 2) (p := 2) (k := 3) (b := b_counted) rfl rfl fun m hm => ?_
    have sz := t.size_eq
    have sp := t.size_pos
    have ss : t.size = 1 + sumS t.parts := sz
    obtain ⟨y, lp⟩ := loop_counted (c := run GG TT m) (.d t.d) t.parts (l - 1) .no (fun q hq k hk => ev_counted n q (by have := Tr.parts_dep q hq; omega) (Tr.parts_ok ht q hq) k hk m hm) (by omega)
    have c1 := call_ok (env := [.d t.d, .d (.int l), .no]) (ev_look ht m (by omega))
    have c2 := call_ok (env := [.d t.d, .d (.int (l - 1)), .no]) (ev_parts t m (by omega))
    have p1 : ¬ l = 0 := by omega
    refine ⟨[.d t.d, .d (.int (l - t.size)), y], ?_⟩
    have e : l - 1 - (sumS t.parts : Int) = l - t.size := by omega
    rw [e] at lp
    simp -implicitDefEqProofs [b_counted, c1, c2, p1, lp]
theorem ev_tree {t : Tr} (ht : t.ok) (hs : t.size ≤ 300) : Ev (t.dep + 3) [105, 115, 95, 116, 114, 101, 101] [t.d] (.bool true) := by
  refine Ev.mk (n := t.dep + 2) (p := 1) (k := 1) (b := b_is_tree) rfl rfl fun m hm => ⟨[.d t.d], ?_⟩
  have gM : lookG gloL [77, 79, 83, 84, 95, 80, 65, 82, 84, 83] = some (.int 300) := rfl
  have c1 := call_ok (env := [.d t.d]) (ev_counted t.dep t (Nat.le_refl _) ht 300 (by omega) m hm)
  have p1 : (t.size : Int) ≤ 300 := by omega
  simp -implicitDefEqProofs [b_is_tree, gM, c1, p1]
theorem ev_checked {t : Tr} (ht : t.ok) (hs : t.size ≤ 300) : Ev (t.dep + 4) [99, 104, 101, 99, 107, 101, 100] [t.d] t.d := by
  refine Ev.mk (n := t.dep + 3) (p := 1) (k := 1) (b := b_checked) rfl rfl fun m hm => ⟨[.d t.d], ?_⟩
  have c1 := call_ok (env := [.d t.d]) (ev_tree ht hs m hm)
  simp -implicitDefEqProofs [b_checked, c1]
theorem sum_ints (qs : List Tr) : (qs.map fun q => (q.size : Int)).sum = (sumS qs : Int) := by
  induction qs with
  | nil => rfl
  | cons q qs ih => simp [sumS] at ih ⊢; omega
end Fp
set_option linter.all false
set_option maxRecDepth 100000
set_option maxHeartbeats 1000000
namespace Fp
open Ft
theorem ev_sizeof : ∀ (n : Nat) (t : Tr), t.dep ≤ n → t.size ≤ 300 → Ev (n + 1) [115, 105, 122, 101, 95, 111, 102] [t.d] (.int t.size)
  | 0, t, hn, _ => absurd hn (by have := t.dep_pos; omega)
  | n + 1, t, hn, hs => by
    refine Ev.mk (n := n + 1) (p := 1) (k := 2) (b := b_size_of) rfl rfl fun m hm => ⟨[.d t.d, .no], ?_⟩
    have ss : t.size = 1 + sumS t.parts := t.size_eq
    have len : t.parts.length ≤ 3 := by cases t <;> simp [Tr.parts]
    have qs : ∀ q ∈ t.parts, q.size ≤ 300 := fun q hq => by
      have : q.size ≤ sumS t.parts := le_sum_mem (List.mem_map.mpr ⟨q, hq, rfl⟩)
      omega
    have c2 := call_ok (env := [.d t.d, .no]) (ev_parts t m (by omega))
    have cs : compL (compF GG (run GG TT m) [1] [] (.call [115, 105, 122, 101, 95, 111, 102] [.var 1])) (t.parts.map Tr.d) [] ⟨[.d t.d, .no], []⟩ = .ok (t.parts.map fun q => .int q.size) ⟨[.d t.d, .no], []⟩ := by
      refine compL_map (d := Tr.d) (fun q hq => ?_) (by unfold LIM; omega)
      have c1 := call_ok (env := [.d t.d, .d q.d]) (ev_sizeof n q (by have := Tr.parts_dep q hq; omega) (qs q hq) m hm)
      simp -implicitDefEqProofs [c1]
    have e : op1 .sum (.lst (t.parts.map fun q => .int q.size)) = some (.int (sumS t.parts)) := by
      have := o1_sum (ns := t.parts.map fun q => (q.size : Int))
      rw [List.map_map, sum_ints] at this
      exact this
    simp -implicitDefEqProofs [b_size_of, c2, cs, e]
    omega
theorem ev_size {t : Tr} (ht : t.ok) (hs : t.size ≤ 300) : Ev (t.dep + 5) [115, 105, 122, 101] [t.d] (.int t.size) := by
  refine Ev.mk (n := t.dep + 4) (p := 1) (k := 1) (b := b_size) rfl rfl fun m hm => ⟨[.d t.d], ?_⟩
  have c1 := call_ok (env := [.d t.d]) (ev_checked ht hs m hm)
  have c2 := call_ok (env := [.d t.d]) (ev_sizeof t.dep t (Nat.le_refl _) hs m (by omega))
  simp -implicitDefEqProofs [b_size, c1, c2]
end Fp
set_option linter.all false
set_option maxRecDepth 100000
set_option maxHeartbeats 1000000
namespace Fp
open Ft
abbrev plainT (x : Tx) : Prop := x.all (fun c => decide (c < 55296)) = true
theorem Nm.plain {x : Tx} (h : Nm x) : plainT x := List.all_eq_true.mpr fun c hc => decide_eq_true (small_lt c (h.sm c hc))
/-- names put behind others, each once, but for one -/
def putF (b : Option Tx) : List Tx → List Tx → List Tx
  | [], acc => acc
  | x :: r, acc => putF b r (if x ∉ acc ∧ b ≠ some x then acc ++ [x] else acc)
def Tr.free : Tr → List Tx
  | .nm x => [x]
  | .num _ | .z _ => []
  | .fn x b => putF (some x) b.free []
  | .bd x a b => putF (some x) b.free (putF none a.free [])
  | .two _ a b => putF none b.free (putF none a.free [])
  | .u _ a => putF none a.free []
  | .p _ a b => putF none b.free (putF none a.free [])
  | .t _ a b c => putF none c.free (putF none b.free (putF none a.free []))
theorem putF_len (b : Option Tx) : ∀ (ns acc : List Tx), (putF b ns acc).length ≤ acc.length + ns.length
  | [], acc => by simp [putF]
  | x :: r, acc => by
    have := putF_len b r (if x ∉ acc ∧ b ≠ some x then acc ++ [x] else acc)
    simp only [putF, List.length_cons]
    split at this
    · rename_i h; simp only [h, List.length_append, List.length_singleton, ne_eq, not_false_eq_true, and_self, if_true] at this ⊢; omega
    · rename_i h; simp only [h, if_false] at this ⊢; omega
theorem putF_mem (b : Option Tx) : ∀ (ns acc : List Tx) (y : Tx), y ∈ putF b ns acc ↔ y ∈ acc ∨ (y ∈ ns ∧ b ≠ some y)
  | [], acc, y => by simp [putF]
  | x :: r, acc, y => by
    rw [putF, putF_mem b r, List.mem_cons]
    split
    · rename_i h
      rw [List.mem_append, List.mem_singleton]
      constructor
      · rintro ((q | q) | q)
        · exact .inl q
        · exact .inr ⟨.inl q, q ▸ h.2⟩
        · exact .inr ⟨.inr q.1, q.2⟩
      · rintro (q | ⟨q | q, q2⟩)
        · exact .inl (.inl q)
        · exact .inl (.inr q)
        · exact .inr ⟨q, q2⟩
    · rename_i h
      constructor
      · rintro (q | q)
        · exact .inl q
        · exact .inr ⟨.inr q.1, q.2⟩
      · rintro (q | ⟨q | q, q2⟩)
        · exact .inl q
        · subst q
          refine .inl ?_
          rcases Classical.em (y ∈ acc) with z | z
          · exact z
          · exact absurd ⟨z, q2⟩ h
        · exact .inr ⟨q, q2⟩
theorem putF_nodup (b : Option Tx) : ∀ (ns acc : List Tx), acc.Nodup → (putF b ns acc).Nodup
  | [], acc, h => h
  | x :: r, acc, h => by
    rw [putF]
    refine putF_nodup b r _ ?_
    split
    · rename_i q
      exact List.nodup_append.mpr ⟨h, by simp, fun a ha b hb => by rw [List.mem_singleton.mp hb]; exact fun e => q.1 (e ▸ ha)⟩
    · exact h
theorem Tr.free_nodup (t : Tr) : t.free.Nodup := by
  cases t <;> simp only [Tr.free] <;> first | exact List.nodup_nil | exact List.nodup_cons.mpr ⟨by simp, List.nodup_nil⟩ | skip
  all_goals repeat (refine putF_nodup _ _ _ ?_)
  all_goals exact List.nodup_nil
theorem Tr.free_len : ∀ t : Tr, t.free.length ≤ t.size
  | .nm x => Nat.le_refl _
  | .num _ => Nat.zero_le _
  | .z _ => Nat.zero_le _
  | .fn x b => by
    have h := putF_len (some x) b.free []
    have i := b.free_len
    simp only [Tr.free, Tr.size, List.length_nil] at h ⊢; omega
  | .bd x a b => by
    have h := putF_len (some x) b.free (putF none a.free [])
    have h2 := putF_len none a.free []
    have i := b.free_len
    have j := a.free_len
    simp only [Tr.free, Tr.size, List.length_nil] at h h2 ⊢; omega
  | .two _ a b => by
    have h := putF_len none b.free (putF none a.free [])
    have h2 := putF_len none a.free []
    have i := b.free_len
    have j := a.free_len
    simp only [Tr.free, Tr.size, List.length_nil] at h h2 ⊢; omega
  | .u _ a => by
    have h2 := putF_len none a.free []
    have j := a.free_len
    simp only [Tr.free, Tr.size, List.length_nil] at h2 ⊢; omega
  | .p _ a b => by
    have h := putF_len none b.free (putF none a.free [])
    have h2 := putF_len none a.free []
    have i := b.free_len
    have j := a.free_len
    simp only [Tr.free, Tr.size, List.length_nil] at h h2 ⊢; omega
  | .t _ a b c => by
    have h0 := putF_len none c.free (putF none b.free (putF none a.free []))
    have h := putF_len none b.free (putF none a.free [])
    have h2 := putF_len none a.free []
    have i := b.free_len
    have j := a.free_len
    have k := c.free_len
    simp only [Tr.free, Tr.size, List.length_nil] at h0 h h2 ⊢; omega
theorem Tr.free_nm : ∀ {t : Tr}, t.ok → ∀ x ∈ t.free, Nm x
  | .nm x, h, y, hy => by
    have : y = x := by simpa [Tr.free] using hy
    exact this ▸ h
  | .num _, h, y, hy => by simp [Tr.free] at hy
  | .z _, h, y, hy => by simp [Tr.free] at hy
  | .fn x b, h, y, hy => by
    simp only [Tr.free, putF_mem] at hy
    rcases hy with q | q
    · simp at q
    · exact Tr.free_nm h.2 y q.1
  | .bd x a b, h, y, hy => by
    simp only [Tr.free, putF_mem] at hy
    rcases hy with (q | q) | q
    · simp at q
    · exact Tr.free_nm h.2.1 y q.1
    · exact Tr.free_nm h.2.2 y q.1
  | .two _ a b, h, y, hy => by
    simp only [Tr.free, putF_mem] at hy
    rcases hy with (q | q) | q
    · simp at q
    · exact Tr.free_nm h.2.1 y q.1
    · exact Tr.free_nm h.2.2 y q.1
  | .u _ a, h, y, hy => by
    simp only [Tr.free, putF_mem] at hy
    rcases hy with q | q
    · simp at q
    · exact Tr.free_nm (t := a) h y q.1
  | .p _ a b, h, y, hy => by
    simp only [Tr.free, putF_mem] at hy
    rcases hy with (q | q) | q
    · simp at q
    · exact Tr.free_nm h.1 y q.1
    · exact Tr.free_nm h.2 y q.1
  | .t _ a b c, h, y, hy => by
    simp only [Tr.free, putF_mem] at hy
    rcases hy with ((q | q) | q) | q
    · simp at q
    · exact Tr.free_nm h.1 y q.1
    · exact Tr.free_nm h.2.1 y q.1
    · exact Tr.free_nm h.2.2 y q.1
def bodyI : List Sm := [.iff (.and_ (.oNin (.var 5) 1) (.un .not_ (.and_ (.var 4) (.bi .eq (.var 5) (.bi .idx (.var 0) (.cst (.int 1))))))) [.app 1 (.var 5)] []]
def bodyO : List Sm := [.asg 4 (.or_ (.bi .eq (.bi .idx (.var 0) (.cst (.int 0))) (.cst (.str [102, 117, 110]))) (.and_ (.bi .eq (.bi .idx (.var 0) (.cst (.int 0))) (.cst (.str [108, 101, 116]))) (.bi .eq (.var 2) (.cst (.int 1))))), .forr .seq [.call [102, 114, 101, 101, 95, 111, 102] [.var 3]] [5] bodyI]
theorem inner_no (c : Oracle) (x0 x2 x3 : Sl) : ∀ (ns acc : List Tx) (x5 : Sl), acc.length + ns.length ≤ 300 → ∃ y, forL (forF GG c [5] bodyI) (ns.map .str) ⟨[x0, .ol (acc.map .str), x2, x3, .d (.bool false), x5], []⟩ = .nx ⟨[x0, .ol ((putF none ns acc).map .str), x2, x3, .d (.bool false), y], []⟩
  | [], acc, x5, _ => ⟨x5, by simp [forL_nil, putF]⟩
  | x :: r, acc, x5, h => by
    rw [List.length_cons] at h
    have l : acc.length < LIM := by unfold LIM; omega
    obtain ⟨y, ih⟩ := inner_no c x0 x2 x3 r (if x ∉ acc ∧ none ≠ some x then acc ++ [x] else acc) (.d (.str x)) (by split <;> (try simp) <;> omega)
    refine ⟨y, ?_⟩
    rw [putF, ← ih]
    by_cases hx : x ∈ acc
    · simp -implicitDefEqProofs [bodyI, hx, inSeq_str]
    · simp -implicitDefEqProofs [bodyI, hx, inSeq_str, l]
theorem inner_b (c : Oracle) (w z : Tx) (rest : List D) (x2 x3 : Sl) (hz : plainT z) : ∀ (ns acc : List Tx) (x5 : Sl), (∀ x ∈ ns, plainT x) → acc.length + ns.length ≤ 300 → ∃ y, forL (forF GG c [5] bodyI) (ns.map .str) ⟨[.d (.tup (.str w :: .str z :: rest)), .ol (acc.map .str), x2, x3, .d (.bool true), x5], []⟩ = .nx ⟨[.d (.tup (.str w :: .str z :: rest)), .ol ((putF (some z) ns acc).map .str), x2, x3, .d (.bool true), y], []⟩
  | [], acc, x5, _, _ => ⟨x5, by simp [forL_nil, putF]⟩
  | x :: r, acc, x5, hp, h => by
    rw [List.length_cons] at h
    have l : acc.length < LIM := by unfold LIM; omega
    have px : plainT x := hp x List.mem_cons_self
    obtain ⟨y, ih⟩ := inner_b c w z rest x2 x3 hz r (if x ∉ acc ∧ some z ≠ some x then acc ++ [x] else acc) (.d (.str x)) (fun q hq => hp q (List.mem_cons_of_mem _ hq)) (by split <;> (try simp) <;> omega)
    refine ⟨y, ?_⟩
    have e := o2_eqS px hz
    rw [putF, ← ih]
    by_cases hx : x ∈ acc
    · simp -implicitDefEqProofs [bodyI, hx, inSeq_str]
    · by_cases hxz : x = z
      · subst hxz
        have e' : op2 .eq (.str x) (.str x) = some (.bool true) := by rw [e]; simp
        simp -implicitDefEqProofs [bodyI, hx, inSeq_str, e']
      · have e' : op2 .eq (.str x) (.str z) = some (.bool false) := by rw [e]; simp [hxz]
        have hzx : ¬ z = x := fun q => hxz q.symm
        simp -implicitDefEqProofs [bodyI, hx, inSeq_str, e', l, hzx]
end Fp
set_option linter.all false
set_option maxRecDepth 100000
set_option maxHeartbeats 1000000
namespace Fp
open Ft
theorem turn_no {c : Oracle} {w : Tx} {rest : List D} {acc : List Tx} {x2 x3 x4 x5 : Sl} {k : Nat} {q : Tr} (hw : plainT w) (h1 : (w == [102, 117, 110]) = false) (h2 : (w == [108, 101, 116]) = false ∨ k ≠ 1) (hc : c [102, 114, 101, 101, 95, 111, 102] [q.d] [] = .ok (.lst (q.free.map .str)) false []) (hl : acc.length + q.free.length ≤ 300) :
    ∃ y, forF GG c [2, 3] bodyO (.tup [.int (k : Nat), q.d]) ⟨[.d (.tup (.str w :: rest)), .ol (acc.map .str), x2, x3, x4, x5], []⟩ = .nx ⟨[.d (.tup (.str w :: rest)), .ol ((putF none q.free acc).map .str), .d (.int k), .d q.d, .d (.bool false), y], []⟩ := by
  obtain ⟨y, il⟩ := inner_no c (.d (.tup (.str w :: rest))) (.d (.int k)) (.d q.d) q.free acc x5 hl
  refine ⟨y, ?_⟩
  have e1 : op2 .eq (.str w) (.str [102, 117, 110]) = some (.bool false) := by rw [o2_eqS hw (by decide), h1]
  have e2 : op2 .eq (.str w) (.str [108, 101, 116]) = some (.bool (w == [108, 101, 116])) := o2_eqS hw (by decide)
  have c1 := call_ok (env := [.d (.tup (.str w :: rest)), .ol (acc.map .str), .d (.int k), .d q.d, .d (.bool false), x5]) hc
  cases e3 : (w == [108, 101, 116]) with
  | false =>
    rw [e3] at e2
    simp -implicitDefEqProofs [bodyO, e1, e2, c1, il]
  | true =>
    rw [e3] at e2
    have hk : k ≠ 1 := by
      rcases h2 with h | h
      · rw [e3] at h; cases h
      · exact h
    have hk' : ¬ ((k : Int) = 1) := by omega
    simp -implicitDefEqProofs [bodyO, e1, e2, c1, il, hk, hk']
theorem turn_b {c : Oracle} {w z : Tx} {rest : List D} {acc : List Tx} {x2 x3 x4 x5 : Sl} {k : Nat} {q : Tr} (hw : w = [102, 117, 110] ∨ (w = [108, 101, 116] ∧ k = 1)) (hz : plainT z) (hn : ∀ x ∈ q.free, plainT x) (hc : c [102, 114, 101, 101, 95, 111, 102] [q.d] [] = .ok (.lst (q.free.map .str)) false []) (hl : acc.length + q.free.length ≤ 300) :
    ∃ y, forF GG c [2, 3] bodyO (.tup [.int (k : Nat), q.d]) ⟨[.d (.tup (.str w :: .str z :: rest)), .ol (acc.map .str), x2, x3, x4, x5], []⟩ = .nx ⟨[.d (.tup (.str w :: .str z :: rest)), .ol ((putF (some z) q.free acc).map .str), .d (.int k), .d q.d, .d (.bool true), y], []⟩ := by
  obtain ⟨y, il⟩ := inner_b c w z rest (.d (.int k)) (.d q.d) hz q.free acc x5 hn hl
  refine ⟨y, ?_⟩
  have c1 := call_ok (env := [.d (.tup (.str w :: .str z :: rest)), .ol (acc.map .str), .d (.int k), .d q.d, .d (.bool true), x5]) hc
  rcases hw with hw | ⟨hw, hk⟩
  · subst hw
    simp -implicitDefEqProofs [bodyO, c1, il]
  · subst hw
    subst hk
    simp -implicitDefEqProofs [bodyO] at il c1 ⊢
    simp -implicitDefEqProofs [c1, il]
theorem ev_freeof : ∀ (n : Nat) (t : Tr), t.dep ≤ n → t.ok → t.size ≤ 300 → Ev (n + 1) [102, 114, 101, 101, 95, 111, 102] [t.d] (.lst (t.free.map .str))
  | 0, t, hn, _, _ => absurd hn (by have := t.dep_pos; omega)
  | n + 1, t, hn, ht, hs => by
    refine Ev.of (n := n + 1) (p := 1) (k := 6) (b := b_free_of) rfl rfl fun m hm => ?_
    have bo : b_free_of = [.iff (.bi .eq (.bi .idx (.var 0) (.cst (.int 0))) (.cst (.str [110, 97, 109, 101]))) [.share 1, .ret (.lst [.bi .idx (.var 0) (.cst (.int 1))])] [], .asgO 1 (.lst []), .forr .enum [.call [112, 97, 114, 116, 115, 95, 111, 102] [.var 0]] [2, 3] bodyO, .share 1, .ret (.var 1)] := rfl
    have ih : ∀ q ∈ t.parts, run GG TT m [102, 114, 101, 101, 95, 111, 102] [q.d] [] = .ok (.lst (q.free.map .str)) false [] := fun q hq => by
      have : q.size ≤ sumS t.parts := le_sum_mem (List.mem_map.mpr ⟨q, hq, rfl⟩)
      have s2 : t.size = 1 + sumS t.parts := t.size_eq
      exact ev_freeof n q (by have := Tr.parts_dep q hq; omega) (Tr.parts_ok ht q hq) (by omega) m hm
    have c2 := call_ok (env := [.d t.d, .ol [], .no, .no, .no, .no]) (ev_parts t m (by omega))
    cases t with
    | nm x =>
      simp only [Tr.d, Tr.free]
      simp -implicitDefEqProofs [bo]
    | num x =>
      simp only [Tr.d, Tr.free, Tr.parts] at c2 ⊢
      simp -implicitDefEqProofs [bo, c2]
    | z w =>
      have e0 : op2 .eq (.str w.tx) (.str [110, 97, 109, 101]) = some (.bool false) := by cases w <;> rfl
      simp only [Tr.d, Tr.free, Tr.parts] at c2 ⊢
      simp -implicitDefEqProofs [bo, c2, e0]
    | fn x b =>
      have l1 := b.free_len
      simp only [Tr.size] at hs
      obtain ⟨y, t1⟩ := turn_b (c := run GG TT m) (w := [102, 117, 110]) (z := x) (rest := [b.d]) (acc := []) (x2 := .no) (x3 := .no) (x4 := .no) (x5 := .no) (k := 0) (q := b) (.inl rfl) ht.1.plain (fun x hx => (Tr.free_nm ht.2 x hx).plain) (ih b (by simp [Tr.parts])) (by simp; omega)
      simp only [Tr.d, Tr.free, Tr.parts] at c2 ⊢
      simp at t1
      simp -implicitDefEqProofs [bo, c2, t1]
    | bd x a b =>
      have l1 := b.free_len
      have l2 := a.free_len
      have l3 := putF_len none a.free []
      simp only [Tr.size, List.length_nil] at hs l3
      obtain ⟨y1, t1⟩ := turn_no (c := run GG TT m) (w := [108, 101, 116]) (rest := [.str x, a.d, b.d]) (acc := []) (x2 := .no) (x3 := .no) (x4 := .no) (x5 := .no) (k := 0) (q := a) (by decide) (by decide) (.inr (by decide)) (ih a (by simp [Tr.parts])) (by simp; omega)
      obtain ⟨y2, t2⟩ := turn_b (c := run GG TT m) (w := [108, 101, 116]) (z := x) (rest := [a.d, b.d]) (acc := putF none a.free []) (x2 := .d (.int (0 : Nat))) (x3 := .d a.d) (x4 := .d (.bool false)) (x5 := y1) (k := 1) (q := b) (.inr ⟨rfl, rfl⟩) ht.1.plain (fun x hx => (Tr.free_nm ht.2.2 x hx).plain) (ih b (by simp [Tr.parts])) (by omega)
      simp only [Tr.d, Tr.free, Tr.parts] at c2 ⊢
      simp at t1 t2
      simp -implicitDefEqProofs [bo, c2, t1, t2]
    | two s a b =>
      have l1 := b.free_len
      have l2 := a.free_len
      have l3 := putF_len none a.free []
      simp only [Tr.size, List.length_nil] at hs l3
      obtain ⟨y1, t1⟩ := turn_no (c := run GG TT m) (w := [116, 119, 111]) (rest := [.str [s], a.d, b.d]) (acc := []) (x2 := .no) (x3 := .no) (x4 := .no) (x5 := .no) (k := 0) (q := a) (by decide) (by decide) (.inl (by decide)) (ih a (by simp [Tr.parts])) (by simp; omega)
      obtain ⟨y2, t2⟩ := turn_no (c := run GG TT m) (w := [116, 119, 111]) (rest := [.str [s], a.d, b.d]) (acc := putF none a.free []) (x2 := .d (.int (0 : Nat))) (x3 := .d a.d) (x4 := .d (.bool false)) (x5 := y1) (k := 1) (q := b) (by decide) (by decide) (.inl (by decide)) (ih b (by simp [Tr.parts])) (by omega)
      simp only [Tr.d, Tr.free, Tr.parts] at c2 ⊢
      simp at t1 t2
      simp -implicitDefEqProofs [bo, c2, t1, t2]
    | u w a =>
      have l2 := a.free_len
      simp only [Tr.size] at hs
      have e0 : op2 .eq (.str w.tx) (.str [110, 97, 109, 101]) = some (.bool false) := by cases w <;> rfl
      obtain ⟨y1, t1⟩ := turn_no (c := run GG TT m) (w := w.tx) (rest := [a.d]) (acc := []) (x2 := .no) (x3 := .no) (x4 := .no) (x5 := .no) (k := 0) (q := a) (by cases w <;> decide) (by cases w <;> decide) (.inl (by cases w <;> decide)) (ih a (by simp [Tr.parts])) (by simp; omega)
      simp only [Tr.d, Tr.free, Tr.parts] at c2 ⊢
      simp at t1
      simp -implicitDefEqProofs [bo, c2, t1, e0]
    | p w a b =>
      have l1 := b.free_len
      have l2 := a.free_len
      have l3 := putF_len none a.free []
      simp only [Tr.size, List.length_nil] at hs l3
      have e0 : op2 .eq (.str w.tx) (.str [110, 97, 109, 101]) = some (.bool false) := by cases w <;> rfl
      obtain ⟨y1, t1⟩ := turn_no (c := run GG TT m) (w := w.tx) (rest := [a.d, b.d]) (acc := []) (x2 := .no) (x3 := .no) (x4 := .no) (x5 := .no) (k := 0) (q := a) (by cases w <;> decide) (by cases w <;> decide) (.inl (by cases w <;> decide)) (ih a (by simp [Tr.parts])) (by simp; omega)
      obtain ⟨y2, t2⟩ := turn_no (c := run GG TT m) (w := w.tx) (rest := [a.d, b.d]) (acc := putF none a.free []) (x2 := .d (.int (0 : Nat))) (x3 := .d a.d) (x4 := .d (.bool false)) (x5 := y1) (k := 1) (q := b) (by cases w <;> decide) (by cases w <;> decide) (.inl (by cases w <;> decide)) (ih b (by simp [Tr.parts])) (by omega)
      simp only [Tr.d, Tr.free, Tr.parts] at c2 ⊢
      simp at t1 t2
      simp -implicitDefEqProofs [bo, c2, t1, t2, e0]
    | t w a b c =>
      have l1 := b.free_len
      have l2 := a.free_len
      have l4 := c.free_len
      have l3 := putF_len none a.free []
      have l5 := putF_len none b.free (putF none a.free [])
      simp only [Tr.size, List.length_nil] at hs l3
      have e0 : op2 .eq (.str w.tx) (.str [110, 97, 109, 101]) = some (.bool false) := by cases w <;> rfl
      obtain ⟨y1, t1⟩ := turn_no (c := run GG TT m) (w := w.tx) (rest := [a.d, b.d, c.d]) (acc := []) (x2 := .no) (x3 := .no) (x4 := .no) (x5 := .no) (k := 0) (q := a) (by cases w <;> decide) (by cases w <;> decide) (.inl (by cases w <;> decide)) (ih a (by simp [Tr.parts])) (by simp; omega)
      obtain ⟨y2, t2⟩ := turn_no (c := run GG TT m) (w := w.tx) (rest := [a.d, b.d, c.d]) (acc := putF none a.free []) (x2 := .d (.int (0 : Nat))) (x3 := .d a.d) (x4 := .d (.bool false)) (x5 := y1) (k := 1) (q := b) (by cases w <;> decide) (by cases w <;> decide) (.inl (by cases w <;> decide)) (ih b (by simp [Tr.parts])) (by omega)
      obtain ⟨y3, t3⟩ := turn_no (c := run GG TT m) (w := w.tx) (rest := [a.d, b.d, c.d]) (acc := putF none b.free (putF none a.free [])) (x2 := .d (.int (1 : Nat))) (x3 := .d b.d) (x4 := .d (.bool false)) (x5 := y2) (k := 2) (q := c) (by cases w <;> decide) (by cases w <;> decide) (.inl (by cases w <;> decide)) (ih c (by simp [Tr.parts])) (by omega)
      simp only [Tr.d, Tr.free, Tr.parts] at c2 ⊢
      simp at t1 t2 t3
      simp -implicitDefEqProofs [bo, c2, t1, t2, t3, e0]
end Fp
set_option linter.all false
set_option maxRecDepth 100000
set_option maxHeartbeats 1000000
namespace Fp
open Ft
theorem ev_free {t : Tr} (ht : t.ok) (hs : t.size ≤ 300) : Ev (t.dep + 5) [102, 114, 101, 101] [t.d] (.lst ((sortTx t.free).map .str)) := by
  refine Ev.mk (n := t.dep + 4) (p := 1) (k := 1) (b := b_free) rfl rfl fun m hm => ⟨[.d t.d], ?_⟩
  have c1 := call_ok (env := [.d t.d]) (ev_checked ht hs m hm)
  have c2 := call_ok (env := [.d t.d]) (ev_freeof t.dep t (Nat.le_refl _) ht hs m (by omega))
  simp -implicitDefEqProofs [b_free, c1, c2, o1_sorted]
end Fp
set_option linter.all false
set_option maxRecDepth 100000
set_option maxHeartbeats 1000000
namespace Fp
open Ft
def seedF (s k : Int) : Int := ((s * 1103515245 + 7919 * k + 12345) % 2147483647) ^ 5 % 2147483647
theorem o2_pow5 {i : Int} (h : 0 ≤ i) (h2 : i < 2147483647) : op2 .pow (.int i) (.int 5) = some (.int (i ^ 5)) := by
  have : (0 : Int) ≤ 5 ∧ (5 : Int) ≤ 1000000 ∧ i.natAbs < 2 ^ 64 := ⟨by omega, by omega, by omega⟩
  simp only [op2, if_pos this]
  rfl
theorem ev_seed (s k : Int) : Ev 1 [95, 108, 97, 119, 95, 115, 101, 101, 100] [.int s, .int k] (.int (seedF s k)) := by
  refine Ev.of (n := 0) (p := 2) (k := 2) (b := b_law_seed) rfl rfl fun m hm => ?_
  have m1 : op2 .mul (.int s) (.int 1103515245) = some (.int (s * 1103515245)) := o2_mul2 (by omega)
  have m2 : op2 .mul (.int 7919) (.int k) = some (.int (7919 * k)) := o2_mul1 (by omega)
  have p1 := o2_pow5 (i := (s * 1103515245 + 7919 * k + 12345) % 2147483647) (Int.emod_nonneg _ (by omega)) (Int.emod_lt_of_pos _ (by omega))
  simp -implicitDefEqProofs [b_law_seed, m1, m2, p1, seedF]
theorem ev_pick (s n : Int) (h : 0 < n) : Ev 1 [95, 108, 97, 119, 95, 112, 105, 99, 107] [.int s, .int n] (.int (s / 97 % n)) := by
  refine Ev.of (n := 0) (p := 2) (k := 2) (b := b_law_pick) rfl rfl fun m hm => ?_
  simp -implicitDefEqProofs [b_law_pick, h]
theorem ev_cell (ns : List Int) (k : Nat) : ∃ v, Ev 1 [95, 108, 97, 119, 95, 99, 101, 108, 108] [.scr ns, .int k] (.int v) := by
  by_cases h : k < ns.length
  · refine ⟨ns[k], Ev.of (n := 0) (p := 2) (k := 2) (b := b_law_cell) rfl rfl fun m hm => ?_⟩
    have a := at_nat (l := ns) (n := k) (List.getElem?_eq_getElem h)
    simp -implicitDefEqProofs [b_law_cell, h, a]
  · refine ⟨0, Ev.of (n := 0) (p := 2) (k := 2) (b := b_law_cell) rfl rfl fun m hm => ?_⟩
    simp -implicitDefEqProofs [b_law_cell, h]
theorem mod_nat (a : Int) (n : Nat) (h : 0 < n) : ∃ k : Nat, k < n ∧ a % (n : Int) = (k : Int) := by
  have h1 := Int.emod_nonneg a (b := (n : Int)) (by omega)
  have h2 := Int.emod_lt_of_pos a (b := (n : Int)) (by omega)
  exact ⟨(a % (n : Int)).toNat, by omega, by omega⟩
end Fp
set_option linter.all false
set_option maxRecDepth 100000
set_option maxHeartbeats 1000000
namespace Fp
open Ft
def ErA (n : Nat) (f : Tx) (args : List D) (x : Tx) : Prop := ∀ m, n ≤ m → ∀ hp, run GG TT m f args hp = .exn ⟨x, Option.none⟩ hp
theorem ErA.of {n : Nat} {f : Tx} {args : List D} {x : Tx} {p k : Nat} {b : List Sm} (hT : TT f = some ⟨p, k, b⟩) (hl : args.length = p) (hn : D.noLocL args = true)
    (h : ∀ m, n ≤ m → outX (exs GG (run GG TT m) b ⟨args.map .d ++ List.replicate (k - p) .no, []⟩) = .exn ⟨x, Option.none⟩ []) : ErA (n + 1) f args x := fun m hm hp => by
  obtain ⟨m, rfl⟩ : ∃ q, m = q + 1 := ⟨m - 1, by omega⟩
  have e := run_exn GG TT m p k f b args hT hl (h m (by omega))
  simp only [run, hT, hn, if_true] at e ⊢
  revert e
  cases runFn GG (run GG TT m) ⟨p, k, b⟩ args [] with
  | bad => exact fun h => by cases h
  | exn x hp' => intro e; simp only [Ret.gone] at e ⊢; cases e; rfl
  | ok d' b' hp' =>
    simp only [Ret.gone]
    split
    · intro h; cases h
    · intro h; cases h
theorem Ev.any {n : Nat} {f : Tx} {args : List D} {r : D} (h : Ev n f args r) (hT : (TT f).isSome = true) (hn : D.noLocL args = true) (m : Nat) (hm : n ≤ m) (h1 : 1 ≤ m) (hp : List Cell) : run GG TT m f args hp = .ok r false hp := by
  obtain ⟨m, rfl⟩ : ∃ q, m = q + 1 := ⟨m - 1, by omega⟩
  exact run_any hT hn (h (m + 1) hm) hp
end Fp
set_option linter.all false
set_option maxRecDepth 100000
set_option maxHeartbeats 1000000
namespace Fp
open Ft
/-! methods over a store -/
def EvS (n : Nat) (f : Tx) (args : List D) (hp : List Cell) (r : D) (hp' : List Cell) : Prop := ∀ m, n ≤ m → run GG TT m f args hp = .ok r false hp'
theorem EvS.of {n : Nat} {f : Tx} {args : List D} {hp hp' : List Cell} {r : D} {p k : Nat} {b : List Sm} (hT : TT f = some ⟨p, k, b⟩) (hl : args.length = p) (hn : D.noLocL args = false)
    (h : ∀ m, n ≤ m → outX (exs GG (run GG TT m) b ⟨args.map .d ++ List.replicate (k - p) .no, hp⟩) = .ok r false hp') : EvS (n + 1) f args hp r hp' := fun m hm => by
  obtain ⟨m, rfl⟩ : ∃ q, m = q + 1 := ⟨m - 1, by omega⟩
  have e := h m (by omega)
  have e2 : runFn GG (run GG TT m) ⟨p, k, b⟩ args hp = .ok r false hp' := by
    simp only [runFn, hl, if_true]
    rw [← e]
    cases exs GG (run GG TT m) b ⟨args.map .d ++ List.replicate (k - p) .no, hp⟩ <;> rfl
  simp only [run, hT, hn, e2]
  rfl
theorem EvS.lift {n m : Nat} {f : Tx} {args : List D} {hp hp' : List Cell} {r : D} (h : EvS n f args hp r hp') (q : n ≤ m) : EvS m f args hp r hp' := fun k hk => h k (by omega)
end Fp
set_option linter.all false
set_option maxRecDepth 100000
set_option maxHeartbeats 1000000
namespace Fp
open Ft
/-! tokens -/
def figT : Tx := [48, 49, 50, 51, 52, 53, 54, 55, 56, 57]
def marksT : Tx := [40, 41, 44]
structure Tok where
  kd : Tx
  wh : D
  tx : Tx
inductive TkOk : Tok → Prop
  | word {w : Tx} : w ∈ wordsT → TkOk ⟨[119, 111, 114, 100], .str w, w⟩
  | name {x : Tx} : Nm x → TkOk ⟨[110, 97, 109, 101], .str x, x⟩
  | num {n : Nat} : n ≤ 9972 → TkOk ⟨[110, 117, 109], .int n, decN n⟩
  | sign {c : Nat} : c ∈ signsT ∨ c ∈ marksT → TkOk ⟨[115, 105, 103, 110], .str [c], [c]⟩
  | arrow : TkOk ⟨[115, 105, 103, 110], .str [45, 62], [45, 62]⟩
/-- what may stand right behind -/
def Fol (t : Tok) (rest : Tx) : Prop := ∀ c r, rest = c :: r → c ≠ 62 ∧ (t.kd ≠ [115, 105, 103, 110] → c ∉ smallT ∧ c ∉ figT)
section
variable {c : Oracle} {X S : Tx}
/-- run_at -/
theorem run_loop (hX : X.length ≤ LIM) : ∀ (n p : Nat) (f : Nat), n < f → (∀ i, i < n → ∃ a, X[p + i]? = some a ∧ a ∈ S) → (X[p + n]? = Option.none ∨ ∃ a, X[p + n]? = some a ∧ a ∉ S) → ∀ x1 : Sl,
    whileL (whT GG c (.and_ (.bi .lt (.var 3) (.un .len (.var 0))) (.bi .in_ (.bi .idx (.var 0) (.var 3)) (.var 2)))) (whB GG c [.aug 3 .add (.cst (.int 1))]) f ⟨[.d (.str X), x1, .d (.str S), .d (.int (p : Nat))], []⟩ = .nx ⟨[.d (.str X), x1, .d (.str S), .d (.int ((p + n : Nat) : Int))], []⟩
  | 0, p, f, hf, h, h2, x1 => by
    obtain ⟨f, rfl⟩ : ∃ q, f = q + 1 := ⟨f - 1, by omega⟩
    refine while_no ?_
    unfold whT
    rcases h2 with h2 | ⟨a, h2, ha⟩
    · have hl : ¬ ((p : Int) < X.length) := by
        have := List.getElem?_eq_none_iff.mp h2
        simp at this
        omega
      generalize ((p : Nat) : Int) = pp at *
      simp -implicitDefEqProofs [hX, hl, R.of, D.tru]
    · simp only [Nat.add_zero] at h2
      have hl : ((p : Int) < X.length) := by
        have := (List.getElem?_eq_some_iff.mp h2).1
        omega
      have ha' := at_nat h2
      generalize ((p : Nat) : Int) = pp at *
      simp -implicitDefEqProofs [hX, hl, ha', ha, R.of, D.tru]
  | n + 1, p, f, hf, h, h2, x1 => by
    obtain ⟨f, rfl⟩ : ∃ q, f = q + 1 := ⟨f - 1, by omega⟩
    obtain ⟨a, h0, ha⟩ := h 0 (by omega)
    simp only [Nat.add_zero] at h0
    have hl : ((p : Int) < X.length) := by
      have := (List.getElem?_eq_some_iff.mp h0).1
      omega
    have ha' := at_nat h0
    have e : p + (n + 1) = p + 1 + n := by omega
    have ih := run_loop hX n (p + 1) f (by omega) (fun i hi => by have := h (i + 1) (by omega); rwa [show p + (i + 1) = p + 1 + i by omega] at this) (by rw [← e]; exact h2) x1
    rw [e, while_go (s' := ⟨[.d (.str X), x1, .d (.str S), .d (.int ((p + 1 : Nat) : Int))], []⟩) ?_ ?_]
    · exact ih
    · unfold whT
      generalize ((p : Nat) : Int) = pp at *
      simp -implicitDefEqProofs [hX, hl, ha', ha, R.of, D.tru]
    · unfold whB
      have e2 : ((p + 1 : Nat) : Int) = (p : Int) + 1 := by omega
      rw [e2]
      generalize ((p : Nat) : Int) = pp at *
      simp -implicitDefEqProofs []
end
theorem app_get {pre xs post : Tx} : ∀ i, i < xs.length → ∃ a, (pre ++ xs ++ post)[pre.length + i]? = some a ∧ a ∈ xs := fun i hi => by
  refine ⟨xs[i], ?_, List.getElem_mem hi⟩
  rw [List.append_assoc, List.getElem?_append_right (by omega)]
  rw [show pre.length + i - pre.length = i by omega, List.getElem?_append_left hi, List.getElem?_eq_getElem hi]
theorem app_end {pre xs post : Tx} : (pre ++ xs ++ post)[pre.length + xs.length]? = post.head? := by
  rw [List.append_assoc, List.getElem?_append_right (by omega)]
  rw [show pre.length + xs.length - pre.length = xs.length by omega, List.getElem?_append_right (by omega), Nat.sub_self]
  cases post <;> rfl
theorem ev_runat {pre xs post S : Tx} (hX : (pre ++ xs ++ post).length < LIM) (h1 : ∀ a ∈ xs, a ∈ S) (h2 : ∀ a r, post = a :: r → a ∉ S) : Ev 1 [114, 117, 110, 95, 97, 116] [.str (pre ++ xs ++ post), .int (pre.length : Nat), .str S] (.int ((pre.length + xs.length : Nat) : Int)) := by
  refine Ev.of (n := 0) (p := 3) (k := 4) (b := b_run_at) rfl rfl fun m hm => ?_
  have lp := run_loop (c := run GG TT m) (S := S) (Nat.le_of_lt hX) xs.length pre.length LIM (by have := hX; simp only [List.length_append] at this; omega) (fun i hi => by obtain ⟨a, q1, q2⟩ := app_get (pre := pre) (post := post) i hi; exact ⟨a, q1, h1 a q2⟩) (by
    rw [app_end]
    cases hp : post with
    | nil => exact .inl rfl
    | cons a r => exact .inr ⟨a, rfl, h2 a r hp⟩) (.d (.int (pre.length : Nat)))
  generalize (pre ++ xs ++ post) = X at *
  generalize ((pre.length + xs.length : Nat) : Int) = e at *
  generalize ((pre.length : Nat) : Int) = pp at *
  simp -implicitDefEqProofs [b_run_at, ex_whil, lp]
theorem cut_mid {pre xs post : Tx} : cut (pre ++ xs ++ post) (some (pre.length : Nat)) (some ((pre.length + xs.length : Nat) : Int)) = xs := by
  have l : (pre ++ xs ++ post).length = pre.length + xs.length + post.length := by simp only [List.length_append]
  unfold cut
  have a : sIx (pre ++ xs ++ post).length 0 (some ((pre.length : Nat) : Int)) = pre.length := by
    simp only [sIx, l]; rw [if_pos (by omega)]; omega
  have b : sIx (pre ++ xs ++ post).length (pre ++ xs ++ post).length (some ((pre.length + xs.length : Nat) : Int)) = pre.length + xs.length := by
    simp only [sIx, l]; rw [if_pos (by omega)]; omega
  simp only [a, b]
  rw [List.append_assoc, List.drop_left, show pre.length + xs.length - pre.length = xs.length by omega, List.take_left]
theorem slice_mid {pre xs post : Tx} (hX : (pre ++ xs ++ post).length ≤ LIM) : slice (.str (pre ++ xs ++ post)) (some (pre.length : Nat)) (some ((pre.length + xs.length : Nat) : Int)) = some (.str xs) := by
  simp only [slice, hX, if_true, cut_mid]
/-! figures -/
theorem decF_figs : ∀ (f n : Nat), ∀ a ∈ decF f n, a ∈ figT
  | 0, n, a, h => by simp [decF] at h
  | f + 1, n, a, h => by
    simp only [decF] at h
    split at h
    · rename_i hn
      simp at h
      subst h
      have : n = 0 ∨ n = 1 ∨ n = 2 ∨ n = 3 ∨ n = 4 ∨ n = 5 ∨ n = 6 ∨ n = 7 ∨ n = 8 ∨ n = 9 := by omega
      rcases this with rfl | rfl | rfl | rfl | rfl | rfl | rfl | rfl | rfl | rfl <;> decide
    · rcases List.mem_append.mp h with h | h
      · exact decF_figs f _ a h
      · simp at h
        subst h
        have : n % 10 = 0 ∨ n % 10 = 1 ∨ n % 10 = 2 ∨ n % 10 = 3 ∨ n % 10 = 4 ∨ n % 10 = 5 ∨ n % 10 = 6 ∨ n % 10 = 7 ∨ n % 10 = 8 ∨ n % 10 = 9 := by omega
        rcases this with q | q | q | q | q | q | q | q | q | q <;> rw [q] <;> decide
theorem dec4 {n : Nat} (h : n ≤ 9972) : (decN n = [48 + n] ∧ n < 10) ∨ (decN n = [48 + n / 10, 48 + n % 10] ∧ 10 ≤ n ∧ n < 100) ∨ (decN n = [48 + n / 100, 48 + n / 10 % 10, 48 + n % 10] ∧ 100 ≤ n ∧ n < 1000) ∨ (decN n = [48 + n / 1000, 48 + n / 100 % 10, 48 + n / 10 % 10, 48 + n % 10] ∧ 1000 ≤ n) := by
  have step : ∀ f n, decF (f + 1) n = if n < 10 then [48 + n] else decF f (n / 10) ++ [48 + n % 10] := fun f n => rfl
  by_cases h1 : n < 10
  · exact .inl ⟨by rw [decN, step, if_pos h1], h1⟩
  · by_cases h2 : n < 100
    · refine .inr (.inl ⟨?_, by omega, h2⟩)
      obtain ⟨k, rfl⟩ : ∃ k, n = k + 1 := ⟨n - 1, by omega⟩
      rw [decN, step, if_neg h1, step, if_pos (by omega)]
      rfl
    · by_cases h3 : n < 1000
      · refine .inr (.inr (.inl ⟨?_, by omega, h3⟩))
        obtain ⟨k, rfl⟩ : ∃ k, n = k + 2 := ⟨n - 2, by omega⟩
        rw [decN, step, if_neg h1, step, if_neg (by omega), step, if_pos (by omega), Nat.div_div_eq_div_mul]
        rfl
      · refine .inr (.inr (.inr ⟨?_, by omega⟩))
        obtain ⟨k, rfl⟩ : ∃ k, n = k + 3 := ⟨n - 3, by omega⟩
        rw [decN, step, if_neg h1, step, if_neg (by omega), step, if_neg (by omega), step, if_pos (by omega), Nat.div_div_eq_div_mul (k + 3) 10 10, Nat.div_div_eq_div_mul (k + 3) (10 * 10) 10]
        rfl
theorem dec_facts {n : Nat} (h : n ≤ 9972) : valT (decN n) = n ∧ 1 ≤ (decN n).length ∧ (decN n).length ≤ 4 ∧ ∃ a r, decN n = a :: r ∧ (1 < (decN n).length → a ≠ 48) := by
  rcases dec4 h with ⟨e, q⟩ | ⟨e, q1, q2⟩ | ⟨e, q1, q2⟩ | ⟨e, q1⟩
  · rw [e]; exact ⟨by simp [valT], by simp, by simp, _, _, rfl, by simp⟩
  · rw [e]; exact ⟨by simp [valT]; omega, by simp, by simp, _, _, rfl, fun _ => by omega⟩
  · rw [e]; exact ⟨by simp [valT]; omega, by simp, by simp, _, _, rfl, fun _ => by omega⟩
  · rw [e]; exact ⟨by simp [valT]; omega, by simp, by simp, _, _, rfl, fun _ => by omega⟩
theorem figT_ok : ∀ a ∈ figT, 48 ≤ a ∧ a ≤ 57 := by decide
theorem int_dec {n : Nat} (h : n ≤ 9972) : op1 .int_ (.str (decN n)) = some (.int n) := by
  obtain ⟨v, l1, l4, a, r, e, _⟩ := dec_facts h
  have f : figs (decN n) = true := List.all_eq_true.mpr fun a ha => by
    have := figT_ok a (decF_figs _ _ a ha)
    simp [this]
  have ne : (decN n).isEmpty = false := by rw [e]; rfl
  have l : decide ((decN n).length ≤ 600) = true := decide_eq_true (by omega)
  simp only [op1, f, ne, l, v]
  rfl
end Fp
set_option linter.all false
set_option maxRecDepth 100000
set_option maxHeartbeats 1000000
namespace Fp
open Ft
/-! the token that begins at a place -/
theorem ninT {x : Tx} {ws : List Tx} : op2 .nin (.str x) (.tup (ws.map .str)) = some (.bool !(decide (x ∈ ws))) := by
  have := @o2_inT x ws
  simp only [op2] at this ⊢
  cases h : inD (.str x) (.tup (ws.map D.str)) with
  | none => rw [h] at this; simp at this
  | some b => rw [h] at this; simp at this ⊢; rw [this]
section
variable {c : Oracle} {X w : Tx} {a p e : Int} {a0 : Nat}
theorem tok_word (h1 : op2 .idx (.str X) (.int p) = some (.str [a0])) (h2 : a0 ∈ smallT) (h3 : ∀ env, callR c [114, 117, 110, 95, 97, 116] [.str X, .int p, .str smallT] ⟨env, []⟩ = .ok (.int e) ⟨env, []⟩) (h4 : slice (.str X) (some p) (some e) = some (.str w)) (h5 : w ∈ wordsT) :
    rtv (exs GG c b_token_at ⟨[.d (.str X), .d (.int p), .no, .no], []⟩) = some (.tup [.str [119, 111, 114, 100], .str w, .int p, .int e], false, []) := by
  have g : lookG gloL [87, 79, 82, 68, 83] = some (.tup (wordsT.map .str)) := rfl
  have g2 : lookG gloL [83, 77, 65, 76, 76] = some (.str smallT) := rfl
  simp -implicitDefEqProofs [b_token_at, g, g2, h1, h2, h3, h4, h5, ninT]
theorem tok_name (h1 : op2 .idx (.str X) (.int p) = some (.str [a0])) (h2 : a0 ∈ smallT) (h3 : ∀ env, callR c [114, 117, 110, 95, 97, 116] [.str X, .int p, .str smallT] ⟨env, []⟩ = .ok (.int e) ⟨env, []⟩) (h4 : slice (.str X) (some p) (some e) = some (.str w)) (h5 : w ∉ wordsT) (h6 : w.length ≤ 6) :
    rtv (exs GG c b_token_at ⟨[.d (.str X), .d (.int p), .no, .no], []⟩) = some (.tup [.str [110, 97, 109, 101], .str w, .int p, .int e], false, []) := by
  have g : lookG gloL [87, 79, 82, 68, 83] = some (.tup (wordsT.map .str)) := rfl
  have g2 : lookG gloL [83, 77, 65, 76, 76] = some (.str smallT) := rfl
  have l3 : w.length ≤ LIM := by unfold LIM; omega
  have l : ¬ ((6 : Int) < w.length) := by omega
  simp -implicitDefEqProofs [b_token_at, g, g2, h1, h2, h3, h4, h5, ninT, l3, l]
theorem tok_num {n : Int} (h1 : op2 .idx (.str X) (.int p) = some (.str [a0])) (h2 : a0 ∉ smallT) (h2' : a0 ∈ figT) (h3 : ∀ env, callR c [114, 117, 110, 95, 97, 116] [.str X, .int p, .str figT] ⟨env, []⟩ = .ok (.int e) ⟨env, []⟩) (h4 : slice (.str X) (some p) (some e) = some (.str w)) (h5 : op1 .int_ (.str w) = some (.int n)) (h6 : ¬ 4 < e - p) (h7 : ¬ 9973 ≤ n) (h8 : 1 < e - p → a0 ≠ 48) :
    rtv (exs GG c b_token_at ⟨[.d (.str X), .d (.int p), .no, .no], []⟩) = some (.tup [.str [110, 117, 109], .int n, .int p, .int e], false, []) := by
  have g2 : lookG gloL [83, 77, 65, 76, 76] = some (.str smallT) := rfl
  have g3 : lookG gloL [70, 73, 71, 85, 82, 69, 83] = some (.str figT) := rfl
  have g4 : lookG gloL [80, 82, 73, 77, 69] = some (.int 9973) := rfl
  have hu : a0 < 55296 := by have := figT_ok a0 h2'; omega
  by_cases q : 1 < e - p
  · have h8 : (a0 == 48) = false := by simpa using h8 q
    simp -implicitDefEqProofs [b_token_at, g2, g3, g4, h1, h2, h2', h3, h4, h5, h6, h7, h8, hu, q]
  · simp -implicitDefEqProofs [b_token_at, g2, g3, g4, h1, h2, h2', h3, h4, h5, h6, h7, q]
theorem tok_arrow (h1 : op2 .idx (.str X) (.int p) = some (.str [a0])) (h2 : a0 ∉ smallT) (h2' : a0 ∉ figT) (h4 : slice (.str X) (some p) (some (p + 2)) = some (.str [45, 62])) :
    rtv (exs GG c b_token_at ⟨[.d (.str X), .d (.int p), .no, .no], []⟩) = some (.tup [.str [115, 105, 103, 110], .str [45, 62], .int p, .int (p + 2)], false, []) := by
  have g2 : lookG gloL [83, 77, 65, 76, 76] = some (.str smallT) := rfl
  have g3 : lookG gloL [70, 73, 71, 85, 82, 69, 83] = some (.str figT) := rfl
  simp -implicitDefEqProofs [b_token_at, g2, g3, h1, h2, h2', h4]
theorem tok_sign (h1 : op2 .idx (.str X) (.int p) = some (.str [a0])) (h2 : a0 ∉ smallT) (h2' : a0 ∉ figT) (h4 : slice (.str X) (some p) (some (p + 2)) = some (.str w)) (hw : w.all (fun c => decide (c < 55296)) = true) (h5 : w ≠ [45, 62]) (h6 : a0 ∈ signsT ∨ a0 ∈ marksT) :
    rtv (exs GG c b_token_at ⟨[.d (.str X), .d (.int p), .no, .no], []⟩) = some (.tup [.str [115, 105, 103, 110], .str [a0], .int p, .int (p + 1)], false, []) := by
  have g2 : lookG gloL [83, 77, 65, 76, 76] = some (.str smallT) := rfl
  have g3 : lookG gloL [70, 73, 71, 85, 82, 69, 83] = some (.str figT) := rfl
  have h5 : (w == [45, 62]) = false := by simpa using h5
  have g4 : lookG gloL [83, 73, 71, 78, 83] = some (.tup ((signsT.map fun a => [a]).map .str)) := rfl
  have g5 : lookG gloL [77, 65, 82, 75, 83] = some (.tup (((marksT.map fun a => [a]) ++ [[45, 62]]).map .str)) := rfl
  have i1 : ([a0] ∈ signsT.map fun a => [a]) ↔ a0 ∈ signsT := by simp
  have i2 : ([a0] ∈ (marksT.map fun a => [a]) ++ [[45, 62]]) ↔ a0 ∈ marksT := by simp
  generalize (signsT.map fun a => [a]) = A at *
  generalize ((marksT.map fun a => [a]) ++ [[45, 62]]) = B at *
  rcases h6 with h6 | h6
  · simp -implicitDefEqProofs [b_token_at, g2, g3, g4, g5, h1, h2, h2', h4, o2_eqS hw, h5, i1, h6]
  · by_cases q : a0 ∈ signsT
    · simp -implicitDefEqProofs [b_token_at, g2, g3, g4, g5, h1, h2, h2', h4, o2_eqS hw, h5, i1, q]
    · simp -implicitDefEqProofs [b_token_at, g2, g3, g4, g5, h1, h2, h2', h4, o2_eqS hw, h5, i1, i2, q, h6]
end
end Fp
set_option linter.all false
set_option maxRecDepth 100000
set_option maxHeartbeats 1000000
namespace Fp
open Ft
/-! all tokens of a text -/
theorem idx_mid {pre post : Tx} {a : Nat} {r : Tx} (hX : (pre ++ (a :: r) ++ post).length ≤ LIM) : op2 .idx (.str (pre ++ (a :: r) ++ post)) (.int (pre.length : Nat)) = some (.str [a]) := by
  have h : (pre ++ (a :: r) ++ post)[pre.length]? = some a := by simp
  rw [o2_idxS hX, at_nat h]
  rfl
theorem small_nofig : ∀ a ∈ smallT, a ∉ figT := by decide
theorem fig_nosmall : ∀ a ∈ figT, a ∉ smallT := by decide
theorem sign_no : ∀ a, a ∈ signsT ∨ a ∈ marksT → a ∉ smallT ∧ a ∉ figT ∧ a < 55296 ∧ a ∉ [32, 10] := by
  intro a h
  rcases h with h | h
  · revert a; decide
  · revert a; decide
theorem words_small : ∀ w ∈ wordsT, (∀ a ∈ w, a ∈ smallT) ∧ w ≠ [] := by decide
/-- what may stand right behind -/
def Fo (t : Tok) (rest : Tx) : Prop := ∀ c r, rest = c :: r → c ≠ 62 ∧ c < 55296 ∧ (t.kd ≠ [115, 105, 103, 110] → c ∉ smallT ∧ c ∉ figT)
theorem TkOk.ne {t : Tok} (h : TkOk t) : ∃ a r, t.tx = a :: r ∧ a ∉ [32, 10] := by
  cases h with
  | @word w h =>
    obtain ⟨h1, h2⟩ := words_small _ h
    cases w with
    | nil => exact absurd rfl h2
    | cons a r => exact ⟨a, r, rfl, fun q => by have := h1 a (by simp); simp [smallT] at this; simp at q; omega⟩
  | @name x h =>
    cases x with
    | nil => have := h.pos; simp at this
    | cons a r => exact ⟨a, r, rfl, fun q => by have := h.sm a (by simp); simp [smallT] at this; simp at q; omega⟩
  | @num n h =>
    obtain ⟨_, _, _, a, r, e, _⟩ := dec_facts h
    refine ⟨a, r, e, fun q => ?_⟩
    have := figT_ok a (decF_figs _ _ a (by show a ∈ decN n; rw [e]; simp))
    simp at q; omega
  | @sign c h => exact ⟨c, [], rfl, (sign_no c h).2.2.2⟩
  | arrow => exact ⟨45, [62], rfl, by decide⟩
theorem ev_tokenat {pre post : Tx} {t : Tok} (hX : (pre ++ t.tx ++ post).length < LIM) (ht : TkOk t) (hf : Fo t post) : Ev 2 [116, 111, 107, 101, 110, 95, 97, 116] [.str (pre ++ t.tx ++ post), .int (pre.length : Nat)] (.tup [.str t.kd, t.wh, .int (pre.length : Nat), .int ((pre.length + t.tx.length : Nat) : Int)]) := by
  refine Ev.of (n := 1) (p := 2) (k := 4) (b := b_token_at) rfl rfl fun m hm => ?_
  obtain ⟨a, r, ne, _⟩ := ht.ne
  have h1 : op2 .idx (.str (pre ++ t.tx ++ post)) (.int (pre.length : Nat)) = some (.str [a]) := by
    rw [ne] at hX ⊢; exact idx_mid (Nat.le_of_lt hX)
  have h4 := slice_mid (Nat.le_of_lt hX)
  cases ht with
  | @word w h =>
    obtain ⟨h2, h3⟩ := words_small _ h
    have ra := ev_runat (S := smallT) hX h2 (fun a r e => ((hf a r e).2.2 (by simp)).1)
    exact tok_word h1 (h2 a (by simp only at ne; rw [ne]; simp)) (fun env => call_ok (ra m hm)) h4 h
  | @name w h =>
    have ra := ev_runat (S := smallT) hX h.sm (fun a r e => ((hf a r e).2.2 (by simp)).1)
    exact tok_name h1 (h.sm a (by simp only at ne; rw [ne]; simp)) (fun env => call_ok (ra m hm)) h4 h.noW h.few
  | @num n h =>
    have hfig : ∀ a ∈ decN n, a ∈ figT := decF_figs _ _
    have ra := ev_runat (S := figT) hX hfig (fun a r e => ((hf a r e).2.2 (by simp)).2)
    obtain ⟨v, l1, l4, a', r', e', z⟩ := dec_facts h
    simp only at ne
    have ea : a = a' := by rw [ne] at e'; exact (List.cons.inj e').1
    subst ea
    have hm1 : a ∈ figT := hfig a (by rw [ne]; simp)
    exact tok_num h1 (fig_nosmall a hm1) hm1 (fun env => call_ok (ra m hm)) h4 (int_dec h) (by simp only; omega) (by omega) (fun q => z (by simp only at q; omega))
  | @sign c h =>
    simp only at ne
    obtain ⟨rfl, rfl⟩ := List.cons.inj ne
    obtain ⟨q1, q2, q3, q4⟩ := sign_no c h
    have e1 : (((pre.length + ([c] : Tx).length : Nat)) : Int) = (pre.length : Nat) + 1 := by simp
    simp only [e1]
    cases post with
    | nil =>
      have l : (pre ++ [c] ++ ([] : Tx)).length = pre.length + 1 := by simp
      have sl : slice (.str (pre ++ [c] ++ [])) (some ((pre.length : Nat) : Int)) (some ((pre.length : Nat) + 2)) = some (.str [c]) := by
        have a : sIx (pre ++ [c] ++ ([] : Tx)).length 0 (some ((pre.length : Nat) : Int)) = pre.length := by
          simp only [sIx, l]; rw [if_pos (by omega)]; omega
        have b : sIx (pre ++ [c] ++ ([] : Tx)).length (pre ++ [c] ++ ([] : Tx)).length (some (((pre.length : Nat) : Int) + 2)) = pre.length + 1 := by
          simp only [sIx, l]; rw [if_pos (by omega)]; omega
        have hX' := Nat.le_of_lt hX
        simp only at hX'
        simp only [slice, hX', if_true, cut, a, b]
        simp
      exact tok_sign h1 q1 q2 sl (by simp [q3]) (by simp) h
    | cons b r =>
      obtain ⟨z1, z2, _⟩ := hf b r rfl
      have sl := slice_mid (pre := pre) (xs := [c, b]) (post := r) (by simpa using Nat.le_of_lt hX)
      have e2 : (((pre.length + ([c, b] : Tx).length : Nat)) : Int) = (pre.length : Nat) + 2 := by simp
      rw [e2] at sl
      have e3 : pre ++ [c, b] ++ r = pre ++ [c] ++ b :: r := by simp
      rw [e3] at sl
      exact tok_sign h1 q1 q2 sl (by simp [q3, z2]) (by simp; exact fun _ => z1) h
  | arrow =>
    have e1 : (((pre.length + ([45, 62] : Tx).length : Nat)) : Int) = (pre.length : Nat) + 2 := by simp
    simp only [e1] at h4 ⊢
    simp only at ne
    obtain ⟨rfl, rfl⟩ := List.cons.inj ne
    exact tok_arrow h1 (by decide) (by decide) h4
/-- tokens laid with gaps: their places -/
inductive Laid : Nat → List Tok → List Nat → Tx → Prop
  | nil {p} : Laid p [] [] []
  | gap {p a ts ps r} : a ∈ [32, 10] → Laid (p + 1) ts ps r → Laid p ts ps (a :: r)
  | tok {p t ts ps r} : TkOk t → Fo t r → Laid (p + t.tx.length) ts ps r → Laid p (t :: ts) (p :: ps) (t.tx ++ r)
def tkD (t : Tok) (p : Nat) : D := .tup [.str t.kd, t.wh, .int (p : Nat)]
def tksD : List Tok → List Nat → List D
  | t :: ts, p :: ps => tkD t p :: tksD ts ps
  | _, _ => []
theorem slc3 (a b c d : D) : slice (.tup [a, b, c, d]) Option.none (some 3) = some (.tup [a, b, c]) := rfl
theorem tokens_loop {m : Nat} (hm : 2 ≤ m) {X : Tx} (hX : X.length < LIM) {p : Nat} {ts : List Tok} {ps : List Nat} {r : Tx} (h : Laid p ts ps r) : ∀ (pre : Tx) (acc : List D) (x3 : Sl) (f : Nat), X = pre ++ r → pre.length = p → acc.length + r.length < LIM → r.length < f → ∃ x3',
    whileL (whT GG (run GG TT m) (.bi .lt (.var 2) (.un .len (.var 0)))) (whB GG (run GG TT m) [.iff (.bi .in_ (.bi .idx (.var 0) (.var 2)) (.glb [66, 76, 65, 78, 75, 83])) [.aug 2 .add (.cst (.int 1))] [.asg 3 (.call [116, 111, 107, 101, 110, 95, 97, 116] [(.var 0), (.var 2)]), .app 1 (.slc (.var 3) none (some (.cst (.int 3)))), .asg 2 (.bi .idx (.var 3) (.cst (.int 3)))]]) f
      ⟨[.d (.str X), .ol acc, .d (.int (p : Nat)), x3], []⟩ = .nx ⟨[.d (.str X), .ol (acc ++ tksD ts ps), .d (.int (X.length : Nat)), x3'], []⟩ := by
  induction h with
  | @nil p =>
    intro pre acc x3 f e hp ha hf
    obtain ⟨f, rfl⟩ : ∃ q, f = q + 1 := ⟨f - 1, by omega⟩
    have ep : X.length = p := by rw [e]; simpa using hp
    refine ⟨x3, ?_⟩
    rw [ep]
    have en : acc ++ tksD [] [] = acc := by simp [tksD]
    rw [en]
    refine while_no ?_
    unfold whT
    have hl : ¬ (((p : Nat) : Int) < X.length) := by omega
    have hX' := Nat.le_of_lt hX
    generalize ((p : Nat) : Int) = pp at *
    simp -implicitDefEqProofs [hX', hl, R.of, D.tru]
  | @gap p a ts ps r ha _ ih =>
    intro pre acc x3 f e hp hac hf
    obtain ⟨f, rfl⟩ : ∃ q, f = q + 1 := ⟨f - 1, by omega⟩
    simp only [List.length_cons] at hac hf
    obtain ⟨x3', q⟩ := ih (pre ++ [a]) acc x3 f (by rw [e]; simp) (by simp [hp]) (by omega) (by omega)
    refine ⟨x3', ?_⟩
    have hX' := Nat.le_of_lt hX
    have h1 : X[p]? = some a := by rw [e, ← hp]; simp
    have ha' := at_nat h1
    have hl : ((p : Nat) : Int) < X.length := by
      have := (List.getElem?_eq_some_iff.mp h1).1
      omega
    have g : lookG gloL [66, 76, 65, 78, 75, 83] = some (.str [32, 10]) := rfl
    have e2 : ((p + 1 : Nat) : Int) = (p : Int) + 1 := by omega
    rw [e2] at q
    rw [while_go (s' := ⟨[.d (.str X), .ol acc, .d (.int ((p : Int) + 1)), x3], []⟩) ?_ ?_]
    · exact q
    · unfold whT
      generalize ((p : Nat) : Int) = pp at *
      simp -implicitDefEqProofs [hX', hl, R.of, D.tru]
    · unfold whB
      generalize ((p : Nat) : Int) = pp at *
      generalize ([32, 10] : Tx) = B at *
      simp -implicitDefEqProofs [hX', ha', g, ha]
  | @tok p t ts ps r ht hfo _ ih =>
    intro pre acc x3 f e hp hac hf
    obtain ⟨f, rfl⟩ : ∃ q, f = q + 1 := ⟨f - 1, by omega⟩
    obtain ⟨a, r', ne, nb⟩ := ht.ne
    have l1 : 1 ≤ t.tx.length := by rw [ne]; simp
    simp only [List.length_append] at hac hf
    obtain ⟨x3', q⟩ := ih (pre ++ t.tx) (acc ++ [tkD t p]) (.d (.tup [.str t.kd, t.wh, .int (p : Nat), .int ((p + t.tx.length : Nat) : Int)])) f (by rw [e]; simp) (by simp [hp]) (by simp; omega) (by omega)
    refine ⟨x3', ?_⟩
    have hX' := Nat.le_of_lt hX
    have h1 : X[p]? = some a := by rw [e, ← hp, ne]; simp
    have ha' := at_nat h1
    have hl : ((p : Nat) : Int) < X.length := by
      have := (List.getElem?_eq_some_iff.mp h1).1
      omega
    have ca : ∀ env, callR (run GG TT m) [116, 111, 107, 101, 110, 95, 97, 116] [.str X, .int (p : Nat)] ⟨env, []⟩ = .ok (.tup [.str t.kd, t.wh, .int (p : Nat), .int ((p + t.tx.length : Nat) : Int)]) ⟨env, []⟩ := fun env => call_ok (by
      have := ev_tokenat (pre := pre) (post := r) (t := t) (by rw [List.append_assoc, ← e]; exact hX) ht hfo
      rw [List.append_assoc, ← e, hp] at this
      exact this m hm)
    have g : lookG gloL [66, 76, 65, 78, 75, 83] = some (.str [32, 10]) := rfl
    have hal : acc.length < LIM := by omega
    rw [while_go (s' := ⟨[.d (.str X), .ol (acc ++ [tkD t p]), .d (.int ((p + t.tx.length : Nat) : Int)), .d (.tup [.str t.kd, t.wh, .int (p : Nat), .int ((p + t.tx.length : Nat) : Int)])], []⟩) ?_ ?_]
    · simpa [tksD] using q
    · unfold whT
      generalize ((p : Nat) : Int) = pp at *
      simp -implicitDefEqProofs [hX', hl, R.of, D.tru]
    · unfold whB
      unfold tkD
      generalize ((p + t.tx.length : Nat) : Int) = pq at *
      generalize ((p : Nat) : Int) = pp at *
      generalize ([32, 10] : Tx) = B at *
      simp -implicitDefEqProofs [hX', ha', g, nb, ca, slc3, hal]
theorem ev_tokens {X : Tx} {ts : List Tok} {ps : List Nat} (hX : X.length < LIM) (h : Laid 0 ts ps X) : Ev 3 [116, 111, 107, 101, 110, 115] [.str X] (.lst (tksD ts ps)) := by
  refine Ev.of (n := 2) (p := 1) (k := 4) (b := b_tokens) rfl rfl fun m hm => ?_
  obtain ⟨x3', lp⟩ := tokens_loop hm hX h [] [] .no LIM rfl rfl (by simpa using hX) hX
  simp only [List.nil_append] at lp
  have z : (((0 : Nat) : Nat) : Int) = 0 := rfl
  rw [z] at lp
  generalize tksD ts ps = Y at *
  generalize ((X.length : Nat) : Int) = xl at *
  simp -implicitDefEqProofs [b_tokens, ex_whil, lp]
end Fp
set_option linter.all false
set_option maxRecDepth 100000
set_option maxHeartbeats 1000000
namespace Fp
open Ft
/-! the reader's small steps -/
abbrev RD : Tx := [82, 101, 97, 100, 101, 114]
abbrev hpR (L : List D) (i : Nat) (e : Int) (d : Nat) : List Cell := [.obj [82, 101, 97, 100, 101, 114] [([108, 101, 102, 116], .lst L), ([97, 116], .int (i : Nat)), ([101, 110, 100], .int e), ([100, 101, 101, 112], .int (d : Nat))]]
def Tok.d2 (t : Tok) : D := .tup [.str t.kd, t.wh]
/-- the tokens that are left -/
inductive Rm (L : List D) : Nat → List Tok → Prop
  | nil : Rm L L.length []
  | cons {i t ts p} : L[i]? = some (.tup [.str t.kd, t.wh, p]) → TkOk t → Rm L (i + 1) ts → Rm L i (t :: ts)
theorem Rm.behind {L : List D} : ∀ {us : List Tok} {i : Nat} {rest : List Tok}, Rm L i (us ++ rest) → Rm L (i + us.length) rest
  | [], i, rest, h => h
  | u :: us, i, rest, h => by
    cases h with
    | cons h1 h2 h3 =>
      have := Rm.behind (us := us) h3
      rw [show i + (u :: us).length = i + 1 + us.length by simp; omega]
      exact this
def hd2 : List Tok → D
  | [] => .tup [.str [], .str []]
  | t :: _ => t.d2
def Tok.is (t : Tok) (k w : Tx) : Bool := (t.kd == k) && (match t.wh with | .str x => x == w | _ => false)
def isN (ts : List Tok) (k w : Tx) : Bool := match ts with
  | [] => false
  | t :: _ => t.is k w
def okT (x : Tx) : Bool := x.all (fun c => decide (c < 55296))
theorem sh2 {a b : Tx} (h : okT a = true) (h2 : okT b = true) : (D.tup [.str a, .str b]).shaped = true := by
  unfold okT at h h2
  simp only [D.shaped, D.dep, D.depL, h, h2, if_true]
  rfl
theorem sh2i {a : Tx} {n : Int} (h : okT a = true) : (D.tup [.str a, .int n]).shaped = true := by
  unfold okT at h
  simp only [D.shaped, D.dep, D.depL, h, if_true]
  rfl
theorem words_ok : ∀ w ∈ wordsT, okT w = true := by decide
theorem Nm.okT {x : Tx} (h : Nm x) : Fp.okT x = true := List.all_eq_true.mpr fun c hc => decide_eq_true (small_lt c (h.sm c hc))
theorem TkOk.shaped {t : Tok} (h : TkOk t) : t.d2.shaped = true := by
  cases h with
  | @word w h => exact sh2 rfl (words_ok w h)
  | name h => exact sh2 rfl h.okT
  | num h => exact sh2i rfl
  | @sign c h => exact sh2 rfl (by have := (sign_no c h).2.2.1; simp [okT, this])
  | arrow => exact sh2 rfl rfl
theorem hd2_eq {ts : List Tok} (h : ∀ t r, ts = t :: r → TkOk t) {k w : Tx} (hk : okT k = true) (hw : okT w = true) (hn : k ≠ []) : op2 .eq (hd2 ts) (.tup [.str k, .str w]) = some (.bool (isN ts k w)) := by
  have s := sh2 hk hw
  cases ts with
  | nil =>
    rw [hd2, o2_eqD (by decide) s]
    have : (([] : Tx) == k) = false := by cases k; exact absurd rfl hn; rfl
    simp [D.eqv, D.eqvL, isN, this]
  | cons t r =>
    rw [hd2, o2_eqD (h t r rfl).shaped s]
    cases h t r rfl <;> simp [Tok.d2, D.eqv, D.eqvL, isN, Tok.is]
theorem Rm.ok {L : List D} {i : Nat} {ts : List Tok} (h : Rm L i ts) : ∀ t r, ts = t :: r → TkOk t := by
  intro t r e
  subst e
  cases h with
  | cons _ h _ => exact h
theorem Rm.le {L : List D} {i : Nat} {ts : List Tok} (h : Rm L i ts) : i + ts.length = L.length := by
  induction h with
  | nil => simp
  | cons _ _ _ ih => simp; omega
theorem slc2 (a b c : D) : slice (.tup [a, b, c]) Option.none (some 2) = some (.tup [a, b]) := rfl
section
variable {L : List D} {i d : Nat} {e : Int} {ts : List Tok}
theorem ev_coming (hl : L.length ≤ LIM) (h : Rm L i ts) : EvS 1 [82, 101, 97, 100, 101, 114, 46, 99, 111, 109, 105, 110, 103] [.loc 0] (hpR L i e d) (hd2 ts) (hpR L i e d) := by
  refine EvS.of (n := 0) (p := 1) (k := 1) (b := b_Reader_coming) rfl rfl rfl fun m hm => ?_
  cases h with
  | nil => simp -implicitDefEqProofs [b_Reader_coming, hpR, hl, hd2]
  | @cons _ t ts p h1 h2 h3 =>
    have hi : i < L.length := (List.getElem?_eq_some_iff.mp h1).1
    have ne : ¬ ((i : Nat) : Int) = (L.length : Nat) := by omega
    have h1 := at_nat h1
    simp only [hpR, hd2, Tok.d2]
    generalize ((i : Nat) : Int) = ii at *
    simp -implicitDefEqProofs [b_Reader_coming, hl, ne, h1, slc2]
theorem ev_isnext (hl : L.length ≤ LIM) (h : Rm L i ts) {k w : Tx} (hk : okT k = true) (hw : okT w = true) (hn : k ≠ []) : EvS 2 [82, 101, 97, 100, 101, 114, 46, 105, 115, 95, 110, 101, 120, 116] [.loc 0, .str k, .str w] (hpR L i e d) (.bool (isN ts k w)) (hpR L i e d) := by
  refine EvS.of (n := 1) (p := 3) (k := 3) (b := b_Reader_is_next) rfl rfl rfl fun m hm => ?_
  have c1 : ∀ env, callR (run GG TT m) [82, 101, 97, 100, 101, 114, 46, 99, 111, 109, 105, 110, 103] [.loc 0] ⟨env, hpR L i e d⟩ = .ok (hd2 ts) ⟨env, hpR L i e d⟩ := fun env => call_ok (ev_coming hl h m hm)
  have q := hd2_eq h.ok hk hw hn
  generalize hd2 ts = hd at *
  simp only [hpR] at *
  simp -implicitDefEqProofs [b_Reader_is_next, c1, q]
theorem ev_take (hl : L.length ≤ LIM) (h : Rm L i ts) {k w : Tx} (hk : okT k = true) (hw : okT w = true) (hn : k ≠ []) (hi : isN ts k w = true) : EvS 3 [82, 101, 97, 100, 101, 114, 46, 116, 97, 107, 101] [.loc 0, .str k, .str w] (hpR L i e d) .none (hpR L (i + 1) e d) := by
  refine EvS.of (n := 2) (p := 3) (k := 3) (b := b_Reader_take) rfl rfl rfl fun m hm => ?_
  have c1 : ∀ env, callR (run GG TT m) [82, 101, 97, 100, 101, 114, 46, 105, 115, 95, 110, 101, 120, 116] [.loc 0, .str k, .str w] ⟨env, hpR L i e d⟩ = .ok (.bool true) ⟨env, hpR L i e d⟩ := fun env => call_ok (by have := ev_isnext (e := e) (d := d) hl h hk hw hn m hm; rw [hi] at this; exact this)
  have e2 : ((i + 1 : Nat) : Int) = (i : Int) + 1 := by omega
  simp only [hpR, e2] at *
  generalize ((i : Nat) : Int) = ii at *
  simp -implicitDefEqProofs [b_Reader_take, c1]
theorem ev_rname (hl : L.length ≤ LIM) {x : Tx} (h : Rm L i (⟨[110, 97, 109, 101], .str x, x⟩ :: ts)) : EvS 2 [82, 101, 97, 100, 101, 114, 46, 110, 97, 109, 101] [.loc 0] (hpR L i e d) (.str x) (hpR L (i + 1) e d) := by
  refine EvS.of (n := 1) (p := 1) (k := 1) (b := b_Reader_name) rfl rfl rfl fun m hm => ?_
  have c1 : ∀ env, callR (run GG TT m) [82, 101, 97, 100, 101, 114, 46, 99, 111, 109, 105, 110, 103] [.loc 0] ⟨env, hpR L i e d⟩ = .ok (.tup [.str [110, 97, 109, 101], .str x]) ⟨env, hpR L i e d⟩ := fun env => call_ok (ev_coming hl h m hm)
  cases h with
  | @cons _ t ts p h1 h2 h3 =>
    have h1 := at_nat h1
    have e2 : ((i + 1 : Nat) : Int) = (i : Int) + 1 := by omega
    have e3 : (i : Int) + 1 - 1 = i := by omega
    simp only [hpR, e2] at *
    generalize ((i : Nat) : Int) = ii at *
    have q : op2 .ne (.str [110, 97, 109, 101]) (.str [110, 97, 109, 101]) = some (.bool false) := rfl
    simp -implicitDefEqProofs [b_Reader_name, c1, h1, e3, hl, q]
/-- does a token start something that stands alone -/
def Tok.st (t : Tok) : Bool := (t.kd == [110, 117, 109]) || (t.kd == [110, 97, 109, 101]) || t.is [119, 111, 114, 100] [121, 101, 115] || t.is [119, 111, 114, 100] [110, 111] || t.is [119, 111, 114, 100] [101, 109, 112, 116, 121] || t.is [115, 105, 103, 110] [40]
def stN : List Tok → Bool
  | [] => false
  | t :: _ => t.st
theorem words_st : ∀ w ∈ wordsT, Tok.st ⟨[119, 111, 114, 100], .str w, w⟩ = decide (w ∈ [[121, 101, 115], [110, 111], [101, 109, 112, 116, 121]]) := by decide
theorem ev_starts (hl : L.length ≤ LIM) (h : Rm L i ts) : EvS 2 [82, 101, 97, 100, 101, 114, 46, 115, 116, 97, 114, 116, 115, 95, 115, 105, 110, 103, 108, 101] [.loc 0] (hpR L i e d) (.bool (stN ts)) (hpR L i e d) := by
  refine EvS.of (n := 1) (p := 1) (k := 3) (b := b_Reader_starts_single) rfl rfl rfl fun m hm => ?_
  have c1 : ∀ env, callR (run GG TT m) [82, 101, 97, 100, 101, 114, 46, 99, 111, 109, 105, 110, 103] [.loc 0] ⟨env, hpR L i e d⟩ = .ok (hd2 ts) ⟨env, hpR L i e d⟩ := fun env => call_ok (ev_coming hl h m hm)
  cases ts with
  | nil =>
    have q1 : op2 .eq (.str []) (.str [119, 111, 114, 100]) = some (.bool false) := rfl
    have q2 : op2 .in_ (.str []) (.tup [.str [110, 117, 109], .str [110, 97, 109, 101]]) = some (.bool false) := rfl
    have q3 : op2 .eq (.tup [.str [], .str []]) (.tup [.str [115, 105, 103, 110], .str [40]]) = some (.bool false) := rfl
    simp only [hpR] at *
    simp only [hd2, stN] at *
    simp -implicitDefEqProofs [b_Reader_starts_single, c1, q1, q2, q3]
  | cons t r =>
    simp only [hpR] at *
    cases h.ok t r rfl with
    | @word w hw =>
      have q1 : op2 .eq (.str [119, 111, 114, 100]) (.str [119, 111, 114, 100]) = some (.bool true) := rfl
      have q2 : op2 .in_ (.str w) (.tup [.str [121, 101, 115], .str [110, 111], .str [101, 109, 112, 116, 121]]) = some (.bool (decide (w ∈ [[121, 101, 115], [110, 111], [101, 109, 112, 116, 121]]))) := o2_inT (ws := [[121, 101, 115], [110, 111], [101, 109, 112, 116, 121]])
      have q3 : stN (⟨[119, 111, 114, 100], .str w, w⟩ :: r) = decide (w ∈ [[121, 101, 115], [110, 111], [101, 109, 112, 116, 121]]) := words_st w hw
      rw [q3]
      generalize decide (w ∈ [[121, 101, 115], [110, 111], [101, 109, 112, 116, 121]]) = B at *
      simp only [hd2, Tok.d2] at *
      simp -implicitDefEqProofs [b_Reader_starts_single, c1, q1, q2]
    | @name x hx =>
      have q1 : op2 .eq (.str [110, 97, 109, 101]) (.str [119, 111, 114, 100]) = some (.bool false) := rfl
      have q2 : op2 .in_ (.str [110, 97, 109, 101]) (.tup [.str [110, 117, 109], .str [110, 97, 109, 101]]) = some (.bool true) := rfl
      have q3 : stN (⟨[110, 97, 109, 101], .str x, x⟩ :: r) = true := rfl
      rw [q3]
      simp only [hd2, Tok.d2] at *
      simp -implicitDefEqProofs [b_Reader_starts_single, c1, q1, q2]
    | @num n hx =>
      have q1 : op2 .eq (.str [110, 117, 109]) (.str [119, 111, 114, 100]) = some (.bool false) := rfl
      have q2 : op2 .in_ (.str [110, 117, 109]) (.tup [.str [110, 117, 109], .str [110, 97, 109, 101]]) = some (.bool true) := rfl
      have q3 : stN (⟨[110, 117, 109], .int n, decN n⟩ :: r) = true := rfl
      rw [q3]
      simp only [hd2, Tok.d2] at *
      simp -implicitDefEqProofs [b_Reader_starts_single, c1, q1, q2]
    | @sign a hx =>
      have q1 : op2 .eq (.str [115, 105, 103, 110]) (.str [119, 111, 114, 100]) = some (.bool false) := rfl
      have q2 : op2 .in_ (.str [115, 105, 103, 110]) (.tup [.str [110, 117, 109], .str [110, 97, 109, 101]]) = some (.bool false) := rfl
      have q4 := hd2_eq h.ok (k := [115, 105, 103, 110]) (w := [40]) rfl rfl (by simp)
      have q3 : stN (⟨[115, 105, 103, 110], .str [a], [a]⟩ :: r) = isN (⟨[115, 105, 103, 110], .str [a], [a]⟩ :: r) [115, 105, 103, 110] [40] := rfl
      rw [q3]
      generalize isN _ _ _ = B at *
      simp only [hd2, Tok.d2] at *
      simp -implicitDefEqProofs [b_Reader_starts_single, c1, q1, q2, q4]
    | arrow =>
      have q1 : op2 .eq (.str [115, 105, 103, 110]) (.str [119, 111, 114, 100]) = some (.bool false) := rfl
      have q2 : op2 .in_ (.str [115, 105, 103, 110]) (.tup [.str [110, 117, 109], .str [110, 97, 109, 101]]) = some (.bool false) := rfl
      have q4 := hd2_eq h.ok (k := [115, 105, 103, 110]) (w := [40]) rfl rfl (by simp)
      have q3 : stN (⟨[115, 105, 103, 110], .str [45, 62], [45, 62]⟩ :: r) = isN (⟨[115, 105, 103, 110], .str [45, 62], [45, 62]⟩ :: r) [115, 105, 103, 110] [40] := rfl
      rw [q3]
      generalize isN _ _ _ = B at *
      simp only [hd2, Tok.d2] at *
      simp -implicitDefEqProofs [b_Reader_starts_single, c1, q1, q2, q4]
end
end Fp
set_option linter.all false
set_option maxRecDepth 100000
set_option maxHeartbeats 1000000
namespace Fp
open Ft
/-! the reader's bodies -/
abbrev hpI (L : List D) (i : Int) (e : Int) (d : Int) : List Cell := [.obj [82, 101, 97, 100, 101, 114] [([108, 101, 102, 116], .lst L), ([97, 116], .int i), ([101, 110, 100], .int e), ([100, 101, 101, 112], .int d)]]
/-- a call of the reader -/
abbrev Cl (c : Oracle) (f : Tx) (xs : List D) (hp : List Cell) (r : D) (hp' : List Cell) : Prop := ∀ env, callR c f (.loc 0 :: xs) ⟨env, hp⟩ = .ok r ⟨env, hp'⟩
section
variable {c : Oracle} {L : List D} {i j j2 j3 j4 e d : Int} {t t2 t3 : D} {x : Tx}
theorem single_num (c1 : Cl c [82, 101, 97, 100, 101, 114, 46, 99, 111, 109, 105, 110, 103] [] (hpI L i e d) (.tup [.str [110, 117, 109], t]) (hpI L i e d)) (c2 : Cl c [82, 101, 97, 100, 101, 114, 46, 115, 116, 97, 114, 116, 115, 95, 115, 105, 110, 103, 108, 101] [] (hpI L i e d) (.bool true) (hpI L i e d)) :
    outX (exs GG c b_Reader_single ⟨[.d (.loc 0), .no, .no, .no], hpI L i e d⟩) = .ok (.tup [.str [110, 117, 109], t]) false (hpI L (i + 1) e d) := by
  have q2 : op2 .in_ (.str [110, 117, 109]) (.tup [.str [110, 117, 109], .str [110, 97, 109, 101]]) = some (.bool true) := rfl
  simp only [Cl, hpI] at *
  simp -implicitDefEqProofs [b_Reader_single, c1, c2, q2]
theorem single_name (c1 : Cl c [82, 101, 97, 100, 101, 114, 46, 99, 111, 109, 105, 110, 103] [] (hpI L i e d) (.tup [.str [110, 97, 109, 101], t]) (hpI L i e d)) (c2 : Cl c [82, 101, 97, 100, 101, 114, 46, 115, 116, 97, 114, 116, 115, 95, 115, 105, 110, 103, 108, 101] [] (hpI L i e d) (.bool true) (hpI L i e d)) :
    outX (exs GG c b_Reader_single ⟨[.d (.loc 0), .no, .no, .no], hpI L i e d⟩) = .ok (.tup [.str [110, 97, 109, 101], t]) false (hpI L (i + 1) e d) := by
  have q2 : op2 .in_ (.str [110, 97, 109, 101]) (.tup [.str [110, 117, 109], .str [110, 97, 109, 101]]) = some (.bool true) := rfl
  simp only [Cl, hpI] at *
  simp -implicitDefEqProofs [b_Reader_single, c1, c2, q2]
theorem single_word (c1 : Cl c [82, 101, 97, 100, 101, 114, 46, 99, 111, 109, 105, 110, 103] [] (hpI L i e d) (.tup [.str [119, 111, 114, 100], t]) (hpI L i e d)) (c2 : Cl c [82, 101, 97, 100, 101, 114, 46, 115, 116, 97, 114, 116, 115, 95, 115, 105, 110, 103, 108, 101] [] (hpI L i e d) (.bool true) (hpI L i e d)) :
    outX (exs GG c b_Reader_single ⟨[.d (.loc 0), .no, .no, .no], hpI L i e d⟩) = .ok (.tup [t]) false (hpI L (i + 1) e d) := by
  have q2 : op2 .in_ (.str [119, 111, 114, 100]) (.tup [.str [110, 117, 109], .str [110, 97, 109, 101]]) = some (.bool false) := rfl
  have q3 : op2 .eq (.str [119, 111, 114, 100]) (.str [119, 111, 114, 100]) = some (.bool true) := rfl
  simp only [Cl, hpI] at *
  simp -implicitDefEqProofs [b_Reader_single, c1, c2, q2, q3]
theorem single_br (c1 : Cl c [82, 101, 97, 100, 101, 114, 46, 99, 111, 109, 105, 110, 103] [] (hpI L i e d) (.tup [.str [115, 105, 103, 110], t2]) (hpI L i e d)) (c2 : Cl c [82, 101, 97, 100, 101, 114, 46, 115, 116, 97, 114, 116, 115, 95, 115, 105, 110, 103, 108, 101] [] (hpI L i e d) (.bool true) (hpI L i e d))
    (c3 : Cl c [82, 101, 97, 100, 101, 114, 46, 119, 104, 111, 108, 101] [] (hpI L (i + 1) e d) t (hpI L j e d)) (c4 : Cl c [82, 101, 97, 100, 101, 114, 46, 105, 115, 95, 110, 101, 120, 116] [.str [115, 105, 103, 110], .str [44]] (hpI L j e d) (.bool false) (hpI L j e d)) (c5 : Cl c [82, 101, 97, 100, 101, 114, 46, 116, 97, 107, 101] [.str [115, 105, 103, 110], .str [41]] (hpI L j e d) .none (hpI L (j + 1) e d)) :
    outX (exs GG c b_Reader_single ⟨[.d (.loc 0), .no, .no, .no], hpI L i e d⟩) = .ok t false (hpI L (j + 1) e d) := by
  have q2 : op2 .in_ (.str [115, 105, 103, 110]) (.tup [.str [110, 117, 109], .str [110, 97, 109, 101]]) = some (.bool false) := rfl
  have q3 : op2 .eq (.str [115, 105, 103, 110]) (.str [119, 111, 114, 100]) = some (.bool false) := rfl
  simp only [Cl, hpI] at *
  simp -implicitDefEqProofs [b_Reader_single, c1, c2, c3, c4, c5, q2, q3]
theorem single_pair {u : D} (c1 : Cl c [82, 101, 97, 100, 101, 114, 46, 99, 111, 109, 105, 110, 103] [] (hpI L i e d) (.tup [.str [115, 105, 103, 110], u]) (hpI L i e d)) (c2 : Cl c [82, 101, 97, 100, 101, 114, 46, 115, 116, 97, 114, 116, 115, 95, 115, 105, 110, 103, 108, 101] [] (hpI L i e d) (.bool true) (hpI L i e d))
    (c3 : Cl c [82, 101, 97, 100, 101, 114, 46, 119, 104, 111, 108, 101] [] (hpI L (i + 1) e d) t (hpI L j e d)) (c4 : Cl c [82, 101, 97, 100, 101, 114, 46, 105, 115, 95, 110, 101, 120, 116] [.str [115, 105, 103, 110], .str [44]] (hpI L j e d) (.bool true) (hpI L j e d)) (c6 : Cl c [82, 101, 97, 100, 101, 114, 46, 119, 104, 111, 108, 101] [] (hpI L (j + 1) e d) t2 (hpI L j2 e d)) (c5 : Cl c [82, 101, 97, 100, 101, 114, 46, 116, 97, 107, 101] [.str [115, 105, 103, 110], .str [41]] (hpI L j2 e d) .none (hpI L (j2 + 1) e d)) :
    outX (exs GG c b_Reader_single ⟨[.d (.loc 0), .no, .no, .no], hpI L i e d⟩) = .ok (.tup [.str [112, 97, 105, 114], t, t2]) false (hpI L (j2 + 1) e d) := by
  have q2 : op2 .in_ (.str [115, 105, 103, 110]) (.tup [.str [110, 117, 109], .str [110, 97, 109, 101]]) = some (.bool false) := rfl
  have q3 : op2 .eq (.str [115, 105, 103, 110]) (.str [119, 111, 114, 100]) = some (.bool false) := rfl
  simp only [Cl, hpI] at *
  simp -implicitDefEqProofs [b_Reader_single, c1, c2, c3, c4, c5, c6, q2, q3]
theorem whole_run (h : d < 40) (c1 : Cl c [82, 101, 97, 100, 101, 114, 46, 119, 104, 111, 108, 101, 95, 104, 101, 114, 101] [] (hpI L i e (d + 1)) t (hpI L j e (d + 1))) :
    outX (exs GG c b_Reader_whole ⟨[.d (.loc 0), .no], hpI L i e d⟩) = .ok t false (hpI L j e d) := by
  have g : lookG gloL [68, 69, 69, 80, 69, 83, 84] = some (.int 40) := rfl
  have q : ¬ (40 < d + 1) := by omega
  have q2 : d + 1 - 1 = d := by omega
  simp only [Cl, hpI] at *
  simp -implicitDefEqProofs [b_Reader_whole, g, q, q2, c1]
theorem here_let (n1 : Cl c [82, 101, 97, 100, 101, 114, 46, 105, 115, 95, 110, 101, 120, 116] [.str [119, 111, 114, 100], .str [108, 101, 116]] (hpI L i e d) (.bool true) (hpI L i e d)) (c1 : Cl c [82, 101, 97, 100, 101, 114, 46, 110, 97, 109, 101] [] (hpI L (i + 1) e d) (.str x) (hpI L j e d)) (c2 : Cl c [82, 101, 97, 100, 101, 114, 46, 116, 97, 107, 101] [.str [115, 105, 103, 110], .str [61]] (hpI L j e d) .none (hpI L (j + 1) e d))
    (c3 : Cl c [82, 101, 97, 100, 101, 114, 46, 119, 104, 111, 108, 101] [] (hpI L (j + 1) e d) t (hpI L j2 e d)) (c4 : Cl c [82, 101, 97, 100, 101, 114, 46, 116, 97, 107, 101] [.str [119, 111, 114, 100], .str [105, 110]] (hpI L j2 e d) .none (hpI L (j2 + 1) e d)) (c5 : Cl c [82, 101, 97, 100, 101, 114, 46, 119, 104, 111, 108, 101] [] (hpI L (j2 + 1) e d) t2 (hpI L j3 e d)) :
    outX (exs GG c b_Reader_whole_here ⟨[.d (.loc 0), .no, .no, .no, .no], hpI L i e d⟩) = .ok (.tup [.str [108, 101, 116], .str x, t, t2]) false (hpI L j3 e d) := by
  simp only [Cl, hpI] at *
  simp -implicitDefEqProofs [b_Reader_whole_here, n1, c1, c2, c3, c4, c5]
theorem here_if (n1 : Cl c [82, 101, 97, 100, 101, 114, 46, 105, 115, 95, 110, 101, 120, 116] [.str [119, 111, 114, 100], .str [108, 101, 116]] (hpI L i e d) (.bool false) (hpI L i e d)) (n2 : Cl c [82, 101, 97, 100, 101, 114, 46, 105, 115, 95, 110, 101, 120, 116] [.str [119, 111, 114, 100], .str [105, 102]] (hpI L i e d) (.bool true) (hpI L i e d))
    (c1 : Cl c [82, 101, 97, 100, 101, 114, 46, 119, 104, 111, 108, 101] [] (hpI L (i + 1) e d) t (hpI L j e d)) (c2 : Cl c [82, 101, 97, 100, 101, 114, 46, 116, 97, 107, 101] [.str [119, 111, 114, 100], .str [116, 104, 101, 110]] (hpI L j e d) .none (hpI L (j + 1) e d))
    (c3 : Cl c [82, 101, 97, 100, 101, 114, 46, 119, 104, 111, 108, 101] [] (hpI L (j + 1) e d) t2 (hpI L j2 e d)) (c4 : Cl c [82, 101, 97, 100, 101, 114, 46, 116, 97, 107, 101] [.str [119, 111, 114, 100], .str [101, 108, 115, 101]] (hpI L j2 e d) .none (hpI L (j2 + 1) e d)) (c5 : Cl c [82, 101, 97, 100, 101, 114, 46, 119, 104, 111, 108, 101] [] (hpI L (j2 + 1) e d) t3 (hpI L j3 e d)) :
    outX (exs GG c b_Reader_whole_here ⟨[.d (.loc 0), .no, .no, .no, .no], hpI L i e d⟩) = .ok (.tup [.str [105, 102], t, t2, t3]) false (hpI L j3 e d) := by
  simp only [Cl, hpI] at *
  simp -implicitDefEqProofs [b_Reader_whole_here, n1, n2, c1, c2, c3, c4, c5]
theorem here_fun (n1 : Cl c [82, 101, 97, 100, 101, 114, 46, 105, 115, 95, 110, 101, 120, 116] [.str [119, 111, 114, 100], .str [108, 101, 116]] (hpI L i e d) (.bool false) (hpI L i e d)) (n2 : Cl c [82, 101, 97, 100, 101, 114, 46, 105, 115, 95, 110, 101, 120, 116] [.str [119, 111, 114, 100], .str [105, 102]] (hpI L i e d) (.bool false) (hpI L i e d)) (n3 : Cl c [82, 101, 97, 100, 101, 114, 46, 105, 115, 95, 110, 101, 120, 116] [.str [119, 111, 114, 100], .str [102, 117, 110]] (hpI L i e d) (.bool true) (hpI L i e d))
    (c1 : Cl c [82, 101, 97, 100, 101, 114, 46, 110, 97, 109, 101] [] (hpI L (i + 1) e d) (.str x) (hpI L j e d)) (c2 : Cl c [82, 101, 97, 100, 101, 114, 46, 116, 97, 107, 101] [.str [115, 105, 103, 110], .str [45, 62]] (hpI L j e d) .none (hpI L (j + 1) e d))
    (c3 : Cl c [82, 101, 97, 100, 101, 114, 46, 119, 104, 111, 108, 101] [] (hpI L (j + 1) e d) t (hpI L j2 e d)) :
    outX (exs GG c b_Reader_whole_here ⟨[.d (.loc 0), .no, .no, .no, .no], hpI L i e d⟩) = .ok (.tup [.str [102, 117, 110], .str x, t]) false (hpI L j2 e d) := by
  simp only [Cl, hpI] at *
  simp -implicitDefEqProofs [b_Reader_whole_here, n1, n2, n3, c1, c2, c3]
theorem here_else (n1 : Cl c [82, 101, 97, 100, 101, 114, 46, 105, 115, 95, 110, 101, 120, 116] [.str [119, 111, 114, 100], .str [108, 101, 116]] (hpI L i e d) (.bool false) (hpI L i e d)) (n2 : Cl c [82, 101, 97, 100, 101, 114, 46, 105, 115, 95, 110, 101, 120, 116] [.str [119, 111, 114, 100], .str [105, 102]] (hpI L i e d) (.bool false) (hpI L i e d)) (n3 : Cl c [82, 101, 97, 100, 101, 114, 46, 105, 115, 95, 110, 101, 120, 116] [.str [119, 111, 114, 100], .str [102, 117, 110]] (hpI L i e d) (.bool false) (hpI L i e d))
    (c1 : Cl c [82, 101, 97, 100, 101, 114, 46, 108, 101, 118, 101, 108] [.int 0] (hpI L i e d) t (hpI L j e d)) :
    outX (exs GG c b_Reader_whole_here ⟨[.d (.loc 0), .no, .no, .no, .no], hpI L i e d⟩) = .ok t false (hpI L j e d) := by
  simp only [Cl, hpI] at *
  simp -implicitDefEqProofs [b_Reader_whole_here, n1, n2, n3, c1]
theorem level_six (c1 : Cl c [82, 101, 97, 100, 101, 114, 46, 99, 97, 108, 108, 101, 100] [] (hpI L i e d) t (hpI L j e d)) :
    outX (exs GG c b_Reader_level ⟨[.d (.loc 0), .d (.int 6), .no, .no], hpI L i e d⟩) = .ok t false (hpI L j e d) := by
  have g : lookG gloL [76, 69, 86, 69, 76, 83] = some g_LEVELS := rfl
  have q : op1 .len g_LEVELS = some (.int 6) := rfl
  simp only [Cl, hpI] at *
  simp -implicitDefEqProofs [b_Reader_level, g, q, c1]
/-- the loop of level -/
abbrev lvT : E := .and_ (.bi .eq (.bi .idx (.meth [82, 101, 97, 100, 101, 114] (.var 0) [99, 111, 109, 105, 110, 103] []) (.cst (.int 0))) (.cst (.str [115, 105, 103, 110]))) (.bi .in_ (.bi .idx (.meth [82, 101, 97, 100, 101, 114] (.var 0) [99, 111, 109, 105, 110, 103] []) (.cst (.int 1))) (.bi .idx (.glb [76, 69, 86, 69, 76, 83]) (.var 1)))
abbrev lvB : List Sm := [.asg 3 (.bi .idx (.meth [82, 101, 97, 100, 101, 114] (.var 0) [99, 111, 109, 105, 110, 103] []) (.cst (.int 1))), .augA [82, 101, 97, 100, 101, 114] 0 [97, 116] .add (.cst (.int 1)), .iff (.bi .eq (.var 3) (.cst (.str [58]))) [.augA [82, 101, 97, 100, 101, 114] 0 [100, 101, 101, 112] .add (.cst (.int 1)), .iff (.bi .gt (.attr [82, 101, 97, 100, 101, 114] (.var 0) [100, 101, 101, 112]) (.glb [68, 69, 69, 80, 69, 83, 84])) [.raiA [66, 97, 100, 84, 101, 120, 116] [(.cst (.str [116, 111, 111, 32, 100, 101, 101, 112])), (.meth [82, 101, 97, 100, 101, 114] (.var 0) [112, 108, 97, 99, 101] [])]] [], .asg 2 (.tup [(.cst (.str [116, 119, 111])), (.var 3), (.var 2), (.meth [82, 101, 97, 100, 101, 114] (.var 0) [108, 101, 118, 101, 108] [(.var 1)])]), .augA [82, 101, 97, 100, 101, 114] 0 [100, 101, 101, 112] .sub (.cst (.int 1)), .ret (.var 2)] [], .asg 2 (.tup [(.cst (.str [116, 119, 111])), (.var 3), (.var 2), (.meth [82, 101, 97, 100, 101, 114] (.var 0) [108, 101, 118, 101, 108] [(.bi .add (.var 1) (.cst (.int 1)))])]), .iff (.bi .in_ (.var 3) (.tup [(.cst (.str [61])), (.cst (.str [60]))])) [.ret (.var 2)] []]
theorem level_body : b_Reader_level = [.iff (.bi .eq (.var 1) (.un .len (.glb [76, 69, 86, 69, 76, 83]))) [.ret (.meth [82, 101, 97, 100, 101, 114] (.var 0) [99, 97, 108, 108, 101, 100] [])] [], .asg 2 (.meth [82, 101, 97, 100, 101, 114] (.var 0) [108, 101, 118, 101, 108] [(.bi .add (.var 1) (.cst (.int 1)))]), .whil lvT lvB, .ret (.var 2)] := rfl
theorem level_nx {k : Int} {X : D} (hk : k ≠ 6) (c1 : Cl c [82, 101, 97, 100, 101, 114, 46, 108, 101, 118, 101, 108] [.int (k + 1)] (hpI L i e d) t (hpI L j e d)) {j2 d2 : Int} {y x3 : Sl}
    (lp : whileL (whT GG c lvT) (whB GG c lvB) LIM ⟨[.d (.loc 0), .d (.int k), .d t, .no], hpI L j e d⟩ = .nx ⟨[.d (.loc 0), .d (.int k), .d X, x3], hpI L j2 e d⟩) :
    outX (exs GG c b_Reader_level ⟨[.d (.loc 0), .d (.int k), .no, .no], hpI L i e d⟩) = .ok X false (hpI L j2 e d) := by
  have g : lookG gloL [76, 69, 86, 69, 76, 83] = some g_LEVELS := rfl
  have q : op1 .len g_LEVELS = some (.int 6) := rfl
  rw [level_body]
  simp only [Cl, hpI] at *
  generalize lvT = T at *
  generalize lvB = B at *
  simp -implicitDefEqProofs [g, q, hk, c1, ex_whil, lp]
theorem level_rt {k : Int} {X : D} (hk : k ≠ 6) (c1 : Cl c [82, 101, 97, 100, 101, 114, 46, 108, 101, 118, 101, 108] [.int (k + 1)] (hpI L i e d) t (hpI L j e d)) {j2 d2 : Int} {y x3 : Sl}
    (lp : whileL (whT GG c lvT) (whB GG c lvB) LIM ⟨[.d (.loc 0), .d (.int k), .d t, .no], hpI L j e d⟩ = .rt X false ⟨[.d (.loc 0), .d (.int k), y, x3], hpI L j2 e d⟩) :
    outX (exs GG c b_Reader_level ⟨[.d (.loc 0), .d (.int k), .no, .no], hpI L i e d⟩) = .ok X false (hpI L j2 e d) := by
  have g : lookG gloL [76, 69, 86, 69, 76, 83] = some g_LEVELS := rfl
  have q : op1 .len g_LEVELS = some (.int 6) := rfl
  rw [level_body]
  simp only [Cl, hpI] at *
  generalize lvT = T at *
  generalize lvB = B at *
  simp -implicitDefEqProofs [g, q, hk, c1, ex_whil, lp]
end
end Fp
set_option linter.all false
set_option maxRecDepth 100000
set_option maxHeartbeats 1000000
namespace Fp
open Ft
/-! the reader's loops -/
theorem while_rt {test : St → R Bool} {body : St → X} {n : Nat} {s s' : St} {r : D} {b : Bool} (h : test s = .ok true s) (h2 : body s = .rt r b s') : whileL test body (n + 1) s = .rt r b s' := by
  rw [whileL, h]
  show (body s).then_ _ = _
  rw [h2]
  rfl
def levT : Nat → List Tx
  | 0 => [[124]] | 1 => [[38]] | 2 => [[61], [60]] | 3 => [[58]] | 4 => [[43], [45]] | 5 => [[42]] | _ => []
theorem idx_lev {k : Nat} (h : k < 6) : op2 .idx g_LEVELS (.int (k : Nat)) = some (.tup ((levT k).map .str)) := by
  have : k = 0 ∨ k = 1 ∨ k = 2 ∨ k = 3 ∨ k = 4 ∨ k = 5 := by omega
  rcases this with rfl | rfl | rfl | rfl | rfl | rfl <;> rfl
def Tok.at_ (t : Tok) (k : Nat) : Bool := (t.kd == [115, 105, 103, 110]) && (match t.wh with | .str x => decide (x ∈ levT k) | _ => false)
def atN (ts : List Tok) (k : Nat) : Bool := match ts with
  | [] => false
  | t :: _ => t.at_ k
section
variable {c : Oracle} {L : List D} {i j j2 j3 j4 e d : Int} {a b t t2 t3 w X : D} {x : Tx} {x2 x3 x4 y0 y1 y2 y4 : Sl}
theorem lv_test {k : Nat} (hk : k < 6) {ts : List Tok} (ok : ∀ t r, ts = t :: r → TkOk t) (c1 : Cl c [82, 101, 97, 100, 101, 114, 46, 99, 111, 109, 105, 110, 103] [] (hpI L i e d) (hd2 ts) (hpI L i e d)) :
    whT GG c lvT ⟨[.d (.loc 0), .d (.int (k : Nat)), x2, x3], hpI L i e d⟩ = .ok (atN ts k) ⟨[.d (.loc 0), .d (.int (k : Nat)), x2, x3], hpI L i e d⟩ := by
  have g : lookG gloL [76, 69, 86, 69, 76, 83] = some g_LEVELS := rfl
  have q := idx_lev hk
  have s1 : op2 .eq (.str [115, 105, 103, 110]) (.str [115, 105, 103, 110]) = some (.bool true) := rfl
  have s2 : op2 .eq (.str [119, 111, 114, 100]) (.str [115, 105, 103, 110]) = some (.bool false) := rfl
  have s3 : op2 .eq (.str [110, 97, 109, 101]) (.str [115, 105, 103, 110]) = some (.bool false) := rfl
  have s4 : op2 .eq (.str [110, 117, 109]) (.str [115, 105, 103, 110]) = some (.bool false) := rfl
  have s5 : op2 .eq (.str []) (.str [115, 105, 103, 110]) = some (.bool false) := rfl
  simp only [Cl, hpI] at *
  unfold whT lvT
  cases ts with
  | nil =>
    simp only [hd2, atN] at *
    simp -implicitDefEqProofs [c1, s5, R.of, D.tru]
  | cons t r =>
    simp only [hd2, atN, Tok.d2] at *
    cases ok t r rfl with
    | @word z h =>
      have e : Tok.at_ ⟨[119, 111, 114, 100], .str z, z⟩ k = false := rfl
      rw [e]
      generalize ((k : Nat) : Int) = kk at *
      simp -implicitDefEqProofs [c1, s2, R.of, D.tru]
    | @name z h =>
      have e : Tok.at_ ⟨[110, 97, 109, 101], .str z, z⟩ k = false := rfl
      rw [e]
      generalize ((k : Nat) : Int) = kk at *
      simp -implicitDefEqProofs [c1, s3, R.of, D.tru]
    | @num z h =>
      have e : Tok.at_ ⟨[110, 117, 109], .int z, decN z⟩ k = false := rfl
      rw [e]
      generalize ((k : Nat) : Int) = kk at *
      simp -implicitDefEqProofs [c1, s4, R.of, D.tru]
    | @sign s h =>
      have e : Tok.at_ ⟨[115, 105, 103, 110], .str [s], [s]⟩ k = decide ([s] ∈ levT k) := rfl
      have q2 := @o2_inT [s] (levT k)
      rw [e]
      generalize ((k : Nat) : Int) = kk at *
      generalize decide ([s] ∈ levT k) = B at *
      generalize D.tup ((levT k).map .str) = Z at *
      simp -implicitDefEqProofs [c1, s1, g, q, q2, R.of, D.tru]
    | arrow =>
      have e : Tok.at_ ⟨[115, 105, 103, 110], .str [45, 62], [45, 62]⟩ k = decide ([45, 62] ∈ levT k) := rfl
      have q2 := @o2_inT [45, 62] (levT k)
      rw [e]
      generalize ((k : Nat) : Int) = kk at *
      generalize decide ([45, 62] ∈ levT k) = B at *
      generalize D.tup ((levT k).map .str) = Z at *
      simp -implicitDefEqProofs [c1, s1, g, q, q2, R.of, D.tru]
theorem lv_left {k : Int} {s : Nat} (h1 : op2 .eq (.str [s]) (.str [58]) = some (.bool false)) (h2 : op2 .in_ (.str [s]) (.tup [.str [61], .str [60]]) = some (.bool false)) (c1 : Cl c [82, 101, 97, 100, 101, 114, 46, 99, 111, 109, 105, 110, 103] [] (hpI L i e d) (.tup [.str [115, 105, 103, 110], .str [s]]) (hpI L i e d)) (c2 : Cl c [82, 101, 97, 100, 101, 114, 46, 108, 101, 118, 101, 108] [.int (k + 1)] (hpI L (i + 1) e d) b (hpI L j e d)) :
    whB GG c lvB ⟨[.d (.loc 0), .d (.int k), .d a, x3], hpI L i e d⟩ = .nx ⟨[.d (.loc 0), .d (.int k), .d (.tup [.str [116, 119, 111], .str [s], a, b]), .d (.str [s])], hpI L j e d⟩ := by
  simp only [Cl, hpI] at *
  unfold whB lvB
  simp -implicitDefEqProofs [c1, c2, h1, h2]
theorem lv_eq {k : Int} {s : Nat} (h1 : op2 .eq (.str [s]) (.str [58]) = some (.bool false)) (h2 : op2 .in_ (.str [s]) (.tup [.str [61], .str [60]]) = some (.bool true)) (c1 : Cl c [82, 101, 97, 100, 101, 114, 46, 99, 111, 109, 105, 110, 103] [] (hpI L i e d) (.tup [.str [115, 105, 103, 110], .str [s]]) (hpI L i e d)) (c2 : Cl c [82, 101, 97, 100, 101, 114, 46, 108, 101, 118, 101, 108] [.int (k + 1)] (hpI L (i + 1) e d) b (hpI L j e d)) :
    whB GG c lvB ⟨[.d (.loc 0), .d (.int k), .d a, x3], hpI L i e d⟩ = .rt (.tup [.str [116, 119, 111], .str [s], a, b]) false ⟨[.d (.loc 0), .d (.int k), .d (.tup [.str [116, 119, 111], .str [s], a, b]), .d (.str [s])], hpI L j e d⟩ := by
  simp only [Cl, hpI] at *
  unfold whB lvB
  simp -implicitDefEqProofs [c1, c2, h1, h2]
theorem lv_colon {k : Int} (h : d < 40) (c1 : Cl c [82, 101, 97, 100, 101, 114, 46, 99, 111, 109, 105, 110, 103] [] (hpI L i e d) (.tup [.str [115, 105, 103, 110], .str [58]]) (hpI L i e d)) (c2 : Cl c [82, 101, 97, 100, 101, 114, 46, 108, 101, 118, 101, 108] [.int k] (hpI L (i + 1) e (d + 1)) b (hpI L j e (d + 1))) :
    whB GG c lvB ⟨[.d (.loc 0), .d (.int k), .d a, x3], hpI L i e d⟩ = .rt (.tup [.str [116, 119, 111], .str [58], a, b]) false ⟨[.d (.loc 0), .d (.int k), .d (.tup [.str [116, 119, 111], .str [58], a, b]), .d (.str [58])], hpI L j e d⟩ := by
  have h1 : op2 .eq (.str [58]) (.str [58]) = some (.bool true) := rfl
  have g : lookG gloL [68, 69, 69, 80, 69, 83, 84] = some (.int 40) := rfl
  have q : ¬ (40 < d + 1) := by omega
  have q2 : d + 1 - 1 = d := by omega
  simp only [Cl, hpI] at *
  unfold whB lvB
  simp -implicitDefEqProofs [c1, c2, h1, g, q, q2]
/-- the loop of called -/
abbrev clT : E := .meth [82, 101, 97, 100, 101, 114] (.var 0) [115, 116, 97, 114, 116, 115, 95, 115, 105, 110, 103, 108, 101] []
abbrev clB : List Sm := [.asg 3 (.tup [(.cst (.str [99, 97, 108, 108])), (.var 3), (.meth [82, 101, 97, 100, 101, 114] (.var 0) [115, 105, 110, 103, 108, 101] [])])]
theorem called_body : b_Reader_called = [.unp [1, 2] (.meth [82, 101, 97, 100, 101, 114] (.var 0) [99, 111, 109, 105, 110, 103] []), .iff (.and_ (.bi .eq (.var 1) (.cst (.str [119, 111, 114, 100]))) (.bi .in_ (.var 2) (.glb [65, 72, 69, 65, 68]))) [.augA [82, 101, 97, 100, 101, 114] 0 [97, 116] .add (.cst (.int 1)), .asg 3 (.bi .add (.tup [(.var 2)]) (.un .toTup (.comp .rng [(.bi .idx (.glb [65, 72, 69, 65, 68]) (.var 2))] [4] [] (.meth [82, 101, 97, 100, 101, 114] (.var 0) [115, 105, 110, 103, 108, 101] []))))] [.asg 3 (.meth [82, 101, 97, 100, 101, 114] (.var 0) [115, 105, 110, 103, 108, 101] [])], .whil clT clB, .ret (.var 3)] := rfl
theorem cl_test {v : Bool} (c1 : Cl c [82, 101, 97, 100, 101, 114, 46, 115, 116, 97, 114, 116, 115, 95, 115, 105, 110, 103, 108, 101] [] (hpI L i e d) (.bool v) (hpI L i e d)) :
    whT GG c clT ⟨[.d (.loc 0), y1, y2, x3, y4], hpI L i e d⟩ = .ok v ⟨[.d (.loc 0), y1, y2, x3, y4], hpI L i e d⟩ := by
  simp only [Cl, hpI] at *
  unfold whT
  simp -implicitDefEqProofs [c1, R.of, D.tru]
theorem cl_turn (c1 : Cl c [82, 101, 97, 100, 101, 114, 46, 115, 105, 110, 103, 108, 101] [] (hpI L i e d) b (hpI L j e d)) :
    whB GG c clB ⟨[.d (.loc 0), y1, y2, .d a, y4], hpI L i e d⟩ = .nx ⟨[.d (.loc 0), y1, y2, .d (.tup [.str [99, 97, 108, 108], a, b]), y4], hpI L j e d⟩ := by
  simp only [Cl, hpI] at *
  unfold whB
  simp -implicitDefEqProofs [c1]
theorem cl_single {kd : Tx} {v : Bool} (h1 : op2 .eq (.str kd) (.str [119, 111, 114, 100]) = some (.bool v)) (h2 : v = true → op2 .in_ w g_AHEAD = some (.bool false)) (c1 : Cl c [82, 101, 97, 100, 101, 114, 46, 99, 111, 109, 105, 110, 103] [] (hpI L i e d) (.tup [.str kd, w]) (hpI L i e d)) (c2 : Cl c [82, 101, 97, 100, 101, 114, 46, 115, 105, 110, 103, 108, 101] [] (hpI L i e d) t (hpI L j e d))
    (lp : whileL (whT GG c clT) (whB GG c clB) LIM ⟨[.d (.loc 0), .d (.str kd), .d w, .d t, .no], hpI L j e d⟩ = .nx ⟨[.d (.loc 0), y1, y2, .d X, y4], hpI L j2 e d⟩) :
    outX (exs GG c b_Reader_called ⟨[.d (.loc 0), .no, .no, .no, .no], hpI L i e d⟩) = .ok X false (hpI L j2 e d) := by
  have g : lookG gloL [65, 72, 69, 65, 68] = some g_AHEAD := rfl
  rw [called_body]
  simp only [Cl, hpI] at *
  generalize clT = T at *
  generalize clB = B at *
  cases v with
  | true =>
    have h2 := h2 rfl
    simp -implicitDefEqProofs [c1, c2, h1, h2, g, ex_whil, lp]
  | false => simp -implicitDefEqProofs [c1, c2, h1, g, ex_whil, lp]
theorem cl_one (h2 : op2 .in_ w g_AHEAD = some (.bool true)) (h3 : op2 .idx g_AHEAD w = some (.int 1)) (c1 : Cl c [82, 101, 97, 100, 101, 114, 46, 99, 111, 109, 105, 110, 103] [] (hpI L i e d) (.tup [.str [119, 111, 114, 100], w]) (hpI L i e d)) (c2 : Cl c [82, 101, 97, 100, 101, 114, 46, 115, 105, 110, 103, 108, 101] [] (hpI L (i + 1) e d) t (hpI L j e d))
    (lp : whileL (whT GG c clT) (whB GG c clB) LIM ⟨[.d (.loc 0), .d (.str [119, 111, 114, 100]), .d w, .d (.tup [w, t]), .no], hpI L j e d⟩ = .nx ⟨[.d (.loc 0), y1, y2, .d X, y4], hpI L j2 e d⟩) :
    outX (exs GG c b_Reader_called ⟨[.d (.loc 0), .no, .no, .no, .no], hpI L i e d⟩) = .ok X false (hpI L j2 e d) := by
  have g : lookG gloL [65, 72, 69, 65, 68] = some g_AHEAD := rfl
  have h1 : op2 .eq (.str [119, 111, 114, 100]) (.str [119, 111, 114, 100]) = some (.bool true) := rfl
  have ad : op2 .add (.tup [w]) (.tup [t]) = some (.tup [w, t]) := by simp only [op2, List.length_cons, List.length_nil]; rfl
  have it : items .rng [.int 1] = some [.int 0] := rfl
  have l0 : 0 < LIM := by decide
  rw [called_body]
  simp only [Cl, hpI] at *
  generalize clT = T at *
  generalize clB = B at *
  simp -implicitDefEqProofs [c1, c2, h1, h2, h3, g, it, compL, l0, ad, ex_whil, lp]
theorem cl_three {tb tc : D} (h2 : op2 .in_ w g_AHEAD = some (.bool true)) (h3 : op2 .idx g_AHEAD w = some (.int 3)) (c1 : Cl c [82, 101, 97, 100, 101, 114, 46, 99, 111, 109, 105, 110, 103] [] (hpI L i e d) (.tup [.str [119, 111, 114, 100], w]) (hpI L i e d)) (c2 : Cl c [82, 101, 97, 100, 101, 114, 46, 115, 105, 110, 103, 108, 101] [] (hpI L (i + 1) e d) t (hpI L j e d)) (c3 : Cl c [82, 101, 97, 100, 101, 114, 46, 115, 105, 110, 103, 108, 101] [] (hpI L j e d) tb (hpI L j3 e d)) (c4 : Cl c [82, 101, 97, 100, 101, 114, 46, 115, 105, 110, 103, 108, 101] [] (hpI L j3 e d) tc (hpI L j4 e d))
    (lp : whileL (whT GG c clT) (whB GG c clB) LIM ⟨[.d (.loc 0), .d (.str [119, 111, 114, 100]), .d w, .d (.tup [w, t, tb, tc]), .no], hpI L j4 e d⟩ = .nx ⟨[.d (.loc 0), y1, y2, .d X, y4], hpI L j2 e d⟩) :
    outX (exs GG c b_Reader_called ⟨[.d (.loc 0), .no, .no, .no, .no], hpI L i e d⟩) = .ok X false (hpI L j2 e d) := by
  have g : lookG gloL [65, 72, 69, 65, 68] = some g_AHEAD := rfl
  have h1 : op2 .eq (.str [119, 111, 114, 100]) (.str [119, 111, 114, 100]) = some (.bool true) := rfl
  have ad : op2 .add (.tup [w]) (.tup [t, tb, tc]) = some (.tup [w, t, tb, tc]) := by simp only [op2, List.length_cons, List.length_nil]; rfl
  have it : items .rng [.int 3] = some [.int 0, .int 1, .int 2] := rfl
  have l0 : 0 < LIM := by decide
  have l1 : 1 < LIM := by decide
  have l2 : 2 < LIM := by decide
  rw [called_body]
  simp only [Cl, hpI] at *
  generalize clT = T at *
  generalize clB = B at *
  simp -implicitDefEqProofs [c1, c2, c3, c4, h1, h2, h3, g, it, compL, l0, l1, l2, ad, ex_whil, lp]
end
end Fp
set_option linter.all false
set_option maxRecDepth 100000
set_option maxHeartbeats 1000000
namespace Fp
open Ft
/-! what the reader reads: rules -/
abbrev tS (s : Nat) : Tok := ⟨[115, 105, 103, 110], .str [s], [s]⟩
abbrev tW (w : Tx) : Tok := ⟨[119, 111, 114, 100], .str w, w⟩
abbrev tN (x : Tx) : Tok := ⟨[110, 97, 109, 101], .str x, x⟩
abbrev tI (n : Nat) : Tok := ⟨[110, 117, 109], .int n, decN n⟩
abbrev tA : Tok := ⟨[115, 105, 103, 110], .str [45, 62], [45, 62]⟩
def Fl (k : Nat) (rest : List Tok) : Prop := ∀ t r, rest = t :: r → (k ≤ 6 → t.st = false) ∧ ∀ j, k ≤ j → t.at_ j = false
theorem Fl.up {k k' : Nat} {rest : List Tok} (h : Fl k rest) (q : k ≤ k') : Fl k' rest := fun t r e => ⟨fun z => (h t r e).1 (by omega), fun j hj => (h t r e).2 j (by omega)⟩
theorem Fl.nil {k : Nat} : Fl k [] := fun t r e => by cases e
theorem levT_six {j : Nat} (h : 6 ≤ j) : levT j = [] := by
  obtain ⟨z, rfl⟩ : ∃ z, j = z + 6 := ⟨j - 6, by omega⟩
  rfl
theorem fl_seven (rest : List Tok) : Fl 7 rest := fun t r e => ⟨fun z => by omega, fun j hj => by
  unfold Tok.at_
  rw [levT_six (by omega)]
  cases t.wh <;> simp⟩
/-- tokens that end all -/
theorem fl_end {k : Nat} {t : Tok} {r : List Tok} (h1 : t.st = false) (h2 : ∀ j, t.at_ j = false) : Fl k (t :: r) := fun t' r' e => by
  cases e
  exact ⟨fun _ => h1, fun j _ => h2 j⟩
theorem at_all {t : Tok} (h : ∀ j, j < 6 → t.at_ j = false) : ∀ j, t.at_ j = false := fun j => by
  by_cases q : j < 6
  · exact h j q
  · unfold Tok.at_
    rw [levT_six (by omega)]
    cases t.wh <;> simp
def Rdr (f : Tx) (xs : List D) (k n q : Nat) (t : Tr) (us : List Tok) : Prop :=
  ∀ (L : List D) (i d : Nat) (e : Int) (rest : List Tok), L.length < LIM → Rm L i (us ++ rest) → Fl k rest → d + q ≤ 40 → EvS n f (.loc 0 :: xs) (hpR L i e d) t.d (hpR L (i + us.length) e d)
def HdS (us : List Tok) : Prop := ∃ t0 r, us = t0 :: r ∧ t0.st = true
def aheadT : List Tx := [[102, 105, 114, 115, 116], [115, 101, 99, 111, 110, 100], [102, 111, 108, 100], [116, 105, 109, 101, 115]]
def HdC (us : List Tok) : Prop := ∃ t0 r, us = t0 :: r ∧ (t0.st = true ∨ ∃ w ∈ aheadT, t0 = tW w)
theorem HdS.c {us : List Tok} (h : HdS us) : HdC us := by
  obtain ⟨t, r, e, q⟩ := h
  exact ⟨t, r, e, .inl q⟩
theorem HdC.app {us vs : List Tok} (h : HdC us) : HdC (us ++ vs) := by
  obtain ⟨t, r, rfl, q⟩ := h
  exact ⟨t, r ++ vs, rfl, q⟩
structure RS (n q : Nat) (t : Tr) (us : List Tok) : Prop where
  hd : HdS us
  rd : Rdr [82, 101, 97, 100, 101, 114, 46, 115, 105, 110, 103, 108, 101] [] 7 n q t us
structure RC (n q : Nat) (t : Tr) (us : List Tok) : Prop where
  hd : HdC us
  rd : Rdr [82, 101, 97, 100, 101, 114, 46, 99, 97, 108, 108, 101, 100] [] 6 n q t us
structure RL (k n q : Nat) (t : Tr) (us : List Tok) : Prop where
  hd : HdC us
  rd : Rdr [82, 101, 97, 100, 101, 114, 46, 108, 101, 118, 101, 108] [.int (k : Nat)] k n q t us
abbrev RH (n q : Nat) (t : Tr) (us : List Tok) : Prop := Rdr [82, 101, 97, 100, 101, 114, 46, 119, 104, 111, 108, 101, 95, 104, 101, 114, 101] [] 0 n q t us
abbrev RW (n q : Nat) (t : Tr) (us : List Tok) : Prop := Rdr [82, 101, 97, 100, 101, 114, 46, 119, 104, 111, 108, 101] [] 0 n q t us
theorem cl_of {n m : Nat} {f : Tx} {xs : List D} {hp hp' : List Cell} {r : D} (h : EvS n f (.loc 0 :: xs) hp r hp') (hm : n ≤ m) : Cl (run GG TT m) f xs hp r hp' := fun env => call_ok (h m hm)
theorem Rm.tail {L : List D} {i : Nat} {t : Tok} {ts : List Tok} (h : Rm L i (t :: ts)) : Rm L (i + 1) ts := by
  cases h with
  | cons _ _ h => exact h
section
variable {n q : Nat} {a b t : Tr} {ua ub us : List Tok}
/-! single -/
theorem s_num {k : Nat} : RS 3 q (.num k) [tI k] := ⟨⟨_, _, rfl, rfl⟩, fun L i d e rest hl rm fl hq => EvS.of (n := 2) (p := 1) (k := 4) (b := b_Reader_single) rfl rfl rfl fun m hm =>
  single_num (cl_of (ev_coming (Nat.le_of_lt hl) rm) (by omega)) (cl_of (ev_starts (Nat.le_of_lt hl) rm) hm)⟩
theorem s_name {x : Tx} : RS 3 q (.nm x) [tN x] := ⟨⟨_, _, rfl, rfl⟩, fun L i d e rest hl rm fl hq => EvS.of (n := 2) (p := 1) (k := 4) (b := b_Reader_single) rfl rfl rfl fun m hm =>
  single_name (cl_of (ev_coming (Nat.le_of_lt hl) rm) (by omega)) (cl_of (ev_starts (Nat.le_of_lt hl) rm) hm)⟩
theorem z_st (w : W0) : (tW w.tx).st = true := by cases w <;> rfl
theorem s_word {w : W0} : RS 3 q (.z w) [tW w.tx] := ⟨⟨_, _, rfl, z_st w⟩, fun L i d e rest hl rm fl hq => EvS.of (n := 2) (p := 1) (k := 4) (b := b_Reader_single) rfl rfl rfl fun m hm =>
  single_word (cl_of (ev_coming (Nat.le_of_lt hl) rm) (by omega)) (cl_of (by have := ev_starts (e := e) (d := d) (Nat.le_of_lt hl) rm; rwa [show stN ([tW w.tx] ++ rest) = true from z_st w] at this) hm)⟩
theorem fl_sg {s : Nat} (h : s ∈ [41, 44]) (k : Nat) (r : List Tok) : Fl k (tS s :: r) := by
  simp at h
  rcases h with rfl | rfl <;> exact fl_end rfl (at_all (by decide))
theorem s_br (hn : 3 ≤ n) (h : RW n q t us) : RS (n + 1) q t (tS 40 :: us ++ [tS 41]) := ⟨⟨_, _, rfl, rfl⟩, fun L i d e rest hl rm fl hq => EvS.of (n := n) (p := 1) (k := 4) (b := b_Reader_single) rfl rfl rfl fun m hm => by
  have hl' := Nat.le_of_lt hl
  have rm' : Rm L i (tS 40 :: (us ++ (tS 41 :: rest))) := by simpa using rm
  have r1 := rm'.tail
  have r2 := r1.behind
  have el : i + (tS 40 :: us ++ [tS 41]).length = i + 1 + us.length + 1 := by simp; omega
  rw [el]
  exact single_br (cl_of (ev_coming hl' rm') (by omega)) (cl_of (ev_starts hl' rm') (by omega)) (cl_of (h L (i + 1) d e (tS 41 :: rest) hl r1 (fl_sg (by simp) _ _) hq) hm) (cl_of (ev_isnext hl' r2 rfl rfl (by simp)) (by omega)) (cl_of (ev_take hl' r2 rfl rfl (by simp) rfl) (by omega))⟩
theorem s_pair (hn : 3 ≤ n) (ha : RW n q a ua) (hb : RW n q b ub) : RS (n + 1) q (.p .pair a b) (tS 40 :: ua ++ tS 44 :: ub ++ [tS 41]) := ⟨⟨_, _, rfl, rfl⟩, fun L i d e rest hl rm fl hq => EvS.of (n := n) (p := 1) (k := 4) (b := b_Reader_single) rfl rfl rfl fun m hm => by
  have hl' := Nat.le_of_lt hl
  have rm' : Rm L i (tS 40 :: (ua ++ (tS 44 :: (ub ++ (tS 41 :: rest))))) := by simpa using rm
  have r1 := rm'.tail
  have r2 := r1.behind
  have r3 := r2.tail
  have r4 := r3.behind
  have el : i + (tS 40 :: ua ++ tS 44 :: ub ++ [tS 41]).length = i + 1 + ua.length + 1 + ub.length + 1 := by simp; omega
  rw [el]
  exact single_pair (cl_of (ev_coming hl' rm') (by omega)) (cl_of (ev_starts hl' rm') (by omega)) (cl_of (ha L (i + 1) d e _ hl r1 (fl_sg (by simp) _ _) hq) hm) (cl_of (ev_isnext hl' r2 rfl rfl (by simp)) (by omega)) (cl_of (hb L _ d e _ hl r3 (fl_sg (by simp) _ _) hq) hm) (cl_of (ev_take hl' r4 rfl rfl (by simp) rfl) (by omega))⟩
/-! whole -/
theorem w_here (h : RH n q t us) : RW (n + 1) (q + 1) t us := fun L i d e rest hl rm fl hq => EvS.of (n := n) (p := 1) (k := 2) (b := b_Reader_whole) rfl rfl rfl fun m hm => by
  have := h L i (d + 1) e rest hl rm fl (by omega)
  exact whole_run (by omega) (cl_of this hm)
theorem fl_wd {w : Tx} (h : w ∈ [[105, 110], [116, 104, 101, 110], [101, 108, 115, 101]]) (k : Nat) (r : List Tok) : Fl k (tW w :: r) := by
  simp at h
  rcases h with rfl | rfl | rfl <;> exact fl_end rfl (at_all (by decide))
theorem h_let {x : Tx} (hn : 3 ≤ n) (ha : RW n q a ua) (hb : RW n q b ub) : RH (n + 1) q (.bd x a b) (tW [108, 101, 116] :: tN x :: tS 61 :: ua ++ tW [105, 110] :: ub) := fun L i d e rest hl rm fl hq => EvS.of (n := n) (p := 1) (k := 5) (b := b_Reader_whole_here) rfl rfl rfl fun m hm => by
  have hl' := Nat.le_of_lt hl
  have r0 : Rm L i (tW [108, 101, 116] :: tN x :: tS 61 :: (ua ++ (tW [105, 110] :: (ub ++ rest)))) := by simpa using rm
  have r1 := r0.tail
  have r2 := r1.tail
  have r3 := r2.tail
  have r4 := r3.behind
  have r5 := r4.tail
  have el : i + (tW [108, 101, 116] :: tN x :: tS 61 :: ua ++ tW [105, 110] :: ub).length = i + 1 + 1 + 1 + ua.length + 1 + ub.length := by simp; omega
  rw [el]
  exact here_let (cl_of (ev_isnext hl' r0 rfl rfl (by simp)) (by omega)) (cl_of (ev_rname hl' r1) (by omega)) (cl_of (ev_take hl' r2 rfl rfl (by simp) rfl) (by omega)) (cl_of (ha L _ d e _ hl r3 (fl_wd (by simp) _ _) hq) hm) (cl_of (ev_take hl' r4 rfl rfl (by simp) rfl) (by omega)) (cl_of (hb L _ d e _ hl r5 fl hq) hm)
theorem h_if {c : Tr} {uc : List Tok} (hn : 3 ≤ n) (ha : RW n q a ua) (hb : RW n q b ub) (hc : RW n q c uc) : RH (n + 1) q (.t .cond a b c) (tW [105, 102] :: ua ++ tW [116, 104, 101, 110] :: ub ++ tW [101, 108, 115, 101] :: uc) := fun L i d e rest hl rm fl hq => EvS.of (n := n) (p := 1) (k := 5) (b := b_Reader_whole_here) rfl rfl rfl fun m hm => by
  have hl' := Nat.le_of_lt hl
  have r0 : Rm L i (tW [105, 102] :: (ua ++ (tW [116, 104, 101, 110] :: (ub ++ (tW [101, 108, 115, 101] :: (uc ++ rest)))))) := by simpa using rm
  have r1 := r0.tail
  have r2 := r1.behind
  have r3 := r2.tail
  have r4 := r3.behind
  have r5 := r4.tail
  have el : i + (tW [105, 102] :: ua ++ tW [116, 104, 101, 110] :: ub ++ tW [101, 108, 115, 101] :: uc).length = i + 1 + ua.length + 1 + ub.length + 1 + uc.length := by simp; omega
  rw [el]
  exact here_if (cl_of (ev_isnext hl' r0 rfl rfl (by simp)) (by omega)) (cl_of (ev_isnext hl' r0 rfl rfl (by simp)) (by omega)) (cl_of (ha L _ d e _ hl r1 (fl_wd (by simp) _ _) hq) hm) (cl_of (ev_take hl' r2 rfl rfl (by simp) rfl) (by omega)) (cl_of (hb L _ d e _ hl r3 (fl_wd (by simp) _ _) hq) hm) (cl_of (ev_take hl' r4 rfl rfl (by simp) rfl) (by omega)) (cl_of (hc L _ d e _ hl r5 fl hq) hm)
theorem h_fun {x : Tx} (hn : 3 ≤ n) (ha : RW n q a ua) : RH (n + 1) q (.fn x a) (tW [102, 117, 110] :: tN x :: tA :: ua) := fun L i d e rest hl rm fl hq => EvS.of (n := n) (p := 1) (k := 5) (b := b_Reader_whole_here) rfl rfl rfl fun m hm => by
  have hl' := Nat.le_of_lt hl
  have r0 : Rm L i (tW [102, 117, 110] :: tN x :: tA :: (ua ++ rest)) := by simpa using rm
  have r1 := r0.tail
  have r2 := r1.tail
  have r3 := r2.tail
  have el : i + (tW [102, 117, 110] :: tN x :: tA :: ua).length = i + 1 + 1 + 1 + ua.length := by simp; omega
  rw [el]
  exact here_fun (cl_of (ev_isnext hl' r0 rfl rfl (by simp)) (by omega)) (cl_of (ev_isnext hl' r0 rfl rfl (by simp)) (by omega)) (cl_of (ev_isnext hl' r0 rfl rfl (by simp)) (by omega)) (cl_of (ev_rname hl' r1) (by omega)) (cl_of (ev_take hl' r2 rfl rfl (by simp) rfl) (by omega)) (cl_of (ha L _ d e _ hl r3 fl hq) hm)
theorem hdc_no {us rest : List Tok} (h : HdC us) : isN (us ++ rest) [119, 111, 114, 100] [108, 101, 116] = false ∧ isN (us ++ rest) [119, 111, 114, 100] [105, 102] = false ∧ isN (us ++ rest) [119, 111, 114, 100] [102, 117, 110] = false := by
  obtain ⟨t0, r, rfl, h⟩ := h
  show t0.is _ _ = false ∧ t0.is _ _ = false ∧ t0.is _ _ = false
  rcases h with h | ⟨w, hw, rfl⟩
  · have key : ∀ w, t0.is [119, 111, 114, 100] w = true → w = [121, 101, 115] ∨ w = [110, 111] ∨ w = [101, 109, 112, 116, 121] := by
      intro w hw
      obtain ⟨kd, wh, tx⟩ := t0
      simp only [Tok.is, Bool.and_eq_true, beq_iff_eq] at hw
      obtain ⟨h1, h2⟩ := hw
      subst h1
      cases wh with
      | str x =>
        simp at h2
        subst h2
        simp [Tok.st, Tok.is] at h
        rcases h with (h | h) | h
        · exact .inl h
        · exact .inr (.inl h)
        · exact .inr (.inr h)
      | _ => simp at h2
    refine ⟨?_, ?_, ?_⟩
    · cases e : t0.is [119, 111, 114, 100] [108, 101, 116] with
      | false => rfl
      | true => exact absurd (key _ e) (by decide)
    · cases e : t0.is [119, 111, 114, 100] [105, 102] with
      | false => rfl
      | true => exact absurd (key _ e) (by decide)
    · cases e : t0.is [119, 111, 114, 100] [102, 117, 110] with
      | false => rfl
      | true => exact absurd (key _ e) (by decide)
  · revert w; decide
theorem h_level (hn : 2 ≤ n) (h : RL 0 n q t us) : RH (n + 1) q t us := fun L i d e rest hl rm fl hq => EvS.of (n := n) (p := 1) (k := 5) (b := b_Reader_whole_here) rfl rfl rfl fun m hm => by
  have hl' := Nat.le_of_lt hl
  obtain ⟨n1, n2, n3⟩ := hdc_no (rest := rest) h.hd
  have m1 := ev_isnext (e := e) (d := d) hl' rm (k := [119, 111, 114, 100]) (w := [108, 101, 116]) rfl rfl (by simp)
  have m2 := ev_isnext (e := e) (d := d) hl' rm (k := [119, 111, 114, 100]) (w := [105, 102]) rfl rfl (by simp)
  have m3 := ev_isnext (e := e) (d := d) hl' rm (k := [119, 111, 114, 100]) (w := [102, 117, 110]) rfl rfl (by simp)
  rw [n1] at m1
  rw [n2] at m2
  rw [n3] at m3
  exact here_else (cl_of m1 (by omega)) (cl_of m2 (by omega)) (cl_of m3 (by omega)) (cl_of (h.rd L i d e rest hl rm fl hq) hm)
end
end Fp
set_option linter.all false
set_option maxRecDepth 100000
set_option maxHeartbeats 1000000
namespace Fp
open Ft
/-! rules: levels, calls -/
section
variable {n q : Nat} {a b t : Tr} {ua ub us : List Tok}
def RLp (k n q : Nat) (t : Tr) (us : List Tok) : Prop := ∀ (L : List D) (i d : Nat) (e : Int) (rest : List Tok), L.length < LIM → Rm L i (us ++ rest) → Fl (k + 1) rest → d + q ≤ 40 → ∀ m, n ≤ m → ∃ (a0 : D) (j0 z : Nat) (x3 : Sl), z ≤ us.length ∧ Cl (run GG TT m) [82, 101, 97, 100, 101, 114, 46, 108, 101, 118, 101, 108] [.int ((k : Nat) + 1)] (hpR L i e d) a0 (hpR L j0 e d) ∧
  ∀ f, whileL (whT GG (run GG TT m) lvT) (whB GG (run GG TT m) lvB) (f + z) ⟨[.d (.loc 0), .d (.int (k : Nat)), .d a0, .no], hpR L j0 e d⟩ = whileL (whT GG (run GG TT m) lvT) (whB GG (run GG TT m) lvB) f ⟨[.d (.loc 0), .d (.int (k : Nat)), .d t.d, x3], hpR L (i + us.length) e d⟩
theorem lp_base {k : Nat} (h : RL (k + 1) n q t us) : RLp k n q t us := fun L i d e rest hl rm fl hq m hm =>
  ⟨t.d, i + us.length, 0, .no, by omega, cl_of (h.rd L i d e rest hl rm fl hq) hm, fun f => rfl⟩
/-- signs that go on to the left -/
def lefts : List (Nat × Nat) := [(0, 124), (1, 38), (4, 43), (4, 45), (5, 42)]
theorem fl_up {k s : Nat} (h : (k, s) ∈ [(0, 124), (1, 38), (2, 61), (2, 60), (3, 58), (4, 43), (4, 45), (5, 42)]) (r : List Tok) : Fl (k + 1) (tS s :: r) ∧ (tS s).at_ k = true ∧ k < 6 := by
  have key : ∀ p ∈ [(0, 124), (1, 38), (2, 61), (2, 60), (3, 58), (4, 43), (4, 45), (5, 42)], (tS p.2).st = false ∧ (∀ j, j < 6 → p.1 + 1 ≤ j → (tS p.2).at_ j = false) ∧ (tS p.2).at_ p.1 = true ∧ p.1 < 6 := by decide
  obtain ⟨k1, k2, k3, k4⟩ := key _ h
  refine ⟨fun t' r' e => ?_, k3, k4⟩
  cases e
  refine ⟨fun _ => k1, fun j hj => ?_⟩
  by_cases q : j < 6
  · exact k2 j q hj
  · unfold Tok.at_
    rw [levT_six (by omega)]
    simp
theorem lefts_ok : ∀ p ∈ lefts, op2 .eq (.str [p.2]) (.str [58]) = some (.bool false) ∧ op2 .in_ (.str [p.2]) (.tup [.str [61], .str [60]]) = some (.bool false) := by
  intro p hp
  simp only [lefts, List.mem_cons, List.not_mem_nil, or_false] at hp
  rcases hp with rfl | rfl | rfl | rfl | rfl <;> exact ⟨rfl, rfl⟩
theorem lefts_in : ∀ p ∈ lefts, p ∈ [(0, 124), (1, 38), (2, 61), (2, 60), (3, 58), (4, 43), (4, 45), (5, 42)] := by decide
theorem lp_step {k s : Nat} (hs : (k, s) ∈ lefts) (hn : 1 ≤ n) (ha : RLp k n q a ua) (hb : RL (k + 1) n q b ub) : RLp k n q (.two s a b) (ua ++ tS s :: ub) := fun L i d e rest hl rm fl hq m hm => by
  have hl' := Nat.le_of_lt hl
  have rm' : Rm L i (ua ++ (tS s :: (ub ++ rest))) := by simpa using rm
  obtain ⟨f1, f2, f3⟩ := fl_up (lefts_in _ hs) (ub ++ rest)
  obtain ⟨o1, o2⟩ := lefts_ok _ hs
  obtain ⟨a0, j0, z, x3, hz, c1, lp⟩ := ha L i d e _ hl rm' f1 hq m hm
  have r1 := rm'.behind
  have r2 := r1.tail
  refine ⟨a0, j0, z + 1, .d (.str [s]), by simp; omega, c1, fun f => ?_⟩
  rw [show f + (z + 1) = (f + 1) + z by omega, lp (f + 1)]
  have el : i + (ua ++ tS s :: ub).length = i + ua.length + 1 + ub.length := by simp; omega
  rw [el]
  have tt := lv_test (x2 := .d a.d) (x3 := x3) f3 r1.ok (cl_of (ev_coming (e := e) (d := d) hl' r1) (m := m) (by omega))
  rw [show atN (tS s :: (ub ++ rest)) k = true from f2] at tt
  exact while_go tt (lv_left o1 o2 (cl_of (ev_coming (e := e) (d := d) hl' r1) (by omega)) (cl_of (hb.rd L _ d e rest hl r2 fl hq) hm))
theorem lp_done {k : Nat} (hk : k < 6) (hn : 1 ≤ n) (hd : HdC us) (h : RLp k n q t us) : RL k (n + 1) q t us := ⟨hd, fun L i d e rest hl rm fl hq => EvS.of (n := n) (p := 2) (k := 4) (b := b_Reader_level) rfl rfl rfl fun m hm => by
  have hl' := Nat.le_of_lt hl
  obtain ⟨a0, j0, z, x3, hz, c1, lp⟩ := h L i d e rest hl rm (fl.up (by omega)) hq m hm
  have r1 := rm.behind
  have le := rm.le
  simp only [List.length_append] at le
  have at0 : atN rest k = false := by
    cases rest with
    | nil => rfl
    | cons t r => exact (fl t r rfl).2 k (Nat.le_refl _)
  have tt := lv_test (x2 := .d t.d) (x3 := x3) hk r1.ok (cl_of (ev_coming (e := e) (d := d) hl' r1) (m := m) (by omega))
  rw [at0] at tt
  refine level_nx (x3 := x3) (y := .no) (d2 := 0) (by omega) c1 ?_
  obtain ⟨f, hf⟩ : ∃ f, LIM = (f + 1) + z := ⟨LIM - z - 1, by omega⟩
  rw [hf, lp (f + 1)]
  exact while_no tt⟩
theorem l_eq {s : Nat} (hs : s = 61 ∨ s = 60) (hn : 1 ≤ n) (ha : RL 3 n q a ua) (hb : RL 3 n q b ub) : RL 2 (n + 1) q (.two s a b) (ua ++ tS s :: ub) := ⟨ha.hd.app, fun L i d e rest hl rm fl hq => EvS.of (n := n) (p := 2) (k := 4) (b := b_Reader_level) rfl rfl rfl fun m hm => by
  have hl' := Nat.le_of_lt hl
  have rm' : Rm L i (ua ++ (tS s :: (ub ++ rest))) := by simpa using rm
  have hp : (2, s) ∈ [(0, 124), (1, 38), (2, 61), (2, 60), (3, 58), (4, 43), (4, 45), (5, 42)] := by rcases hs with rfl | rfl <;> simp
  obtain ⟨f1, f2, f3⟩ := fl_up hp (ub ++ rest)
  have r1 := rm'.behind
  have r2 := r1.tail
  have o1 : op2 .eq (.str [s]) (.str [58]) = some (.bool false) := by rcases hs with rfl | rfl <;> rfl
  have o2 : op2 .in_ (.str [s]) (.tup [.str [61], .str [60]]) = some (.bool true) := by rcases hs with rfl | rfl <;> rfl
  have el : i + (ua ++ tS s :: ub).length = i + ua.length + 1 + ub.length := by simp; omega
  rw [el]
  have tt := lv_test (x2 := .d a.d) (x3 := .no) f3 r1.ok (cl_of (ev_coming (e := e) (d := d) hl' r1) (m := m) (by omega))
  rw [show atN (tS s :: (ub ++ rest)) 2 = true from f2] at tt
  have bd := lv_eq (a := a.d) (x3 := .no) (k := 2) o1 o2 (cl_of (ev_coming (e := e) (d := d) hl' r1) (m := m) (by omega)) (cl_of (hb.rd L _ d e rest hl r2 (fl.up (by omega)) hq) hm)
  obtain ⟨f, hf⟩ : ∃ f, LIM = f + 1 := ⟨LIM - 1, by decide⟩
  exact level_rt (d2 := 0) (by decide) (cl_of (ha.rd L i d e _ hl rm' f1 hq) hm) (by rw [hf]; exact while_rt tt bd)⟩
theorem l_colon (hn : 1 ≤ n) (ha : RL 4 n q a ua) (hb : RL 3 n q b ub) : RL 3 (n + 1) (q + 1) (.two 58 a b) (ua ++ tS 58 :: ub) := ⟨ha.hd.app, fun L i d e rest hl rm fl hq => EvS.of (n := n) (p := 2) (k := 4) (b := b_Reader_level) rfl rfl rfl fun m hm => by
  have hl' := Nat.le_of_lt hl
  have rm' : Rm L i (ua ++ (tS 58 :: (ub ++ rest))) := by simpa using rm
  obtain ⟨f1, f2, f3⟩ := fl_up (k := 3) (s := 58) (by simp) (ub ++ rest)
  have r1 := rm'.behind
  have r2 := r1.tail
  have el : i + (ua ++ tS 58 :: ub).length = i + ua.length + 1 + ub.length := by simp; omega
  rw [el]
  have tt := lv_test (x2 := .d a.d) (x3 := .no) f3 r1.ok (cl_of (ev_coming (e := e) (d := d) hl' r1) (m := m) (by omega))
  rw [show atN (tS 58 :: (ub ++ rest)) 3 = true from f2] at tt
  have bd := lv_colon (a := a.d) (x3 := .no) (k := 3) (d := (d : Nat)) (by omega) (cl_of (ev_coming (e := e) (d := d) hl' r1) (m := m) (by omega)) (cl_of (hb.rd L _ (d + 1) e rest hl r2 fl (by omega)) hm)
  obtain ⟨f, hf⟩ : ∃ f, LIM = f + 1 := ⟨LIM - 1, by decide⟩
  exact level_rt (d2 := 0) (by decide) (cl_of (ha.rd L i d e _ hl rm' f1 (by omega)) hm) (by rw [hf]; exact while_rt tt bd)⟩
theorem l_six (h : RC n q t us) : RL 6 (n + 1) q t us := ⟨h.hd, fun L i d e rest hl rm fl hq => EvS.of (n := n) (p := 2) (k := 4) (b := b_Reader_level) rfl rfl rfl fun m hm => level_six (cl_of (h.rd L i d e rest hl rm fl hq) hm)⟩
/-- through the levels -/
theorem l_down {k : Nat} (hk : k < 6) (hn : 1 ≤ n) (h : RL (k + 1) n q t us) : RL k (n + 1) q t us := lp_done hk hn h.hd (lp_base h)
/-! called -/
def RCp (n q : Nat) (t : Tr) (us : List Tok) : Prop := ∀ (L : List D) (i d : Nat) (e : Int) (rest : List Tok), L.length < LIM → Rm L i (us ++ rest) → d + q ≤ 40 → ∀ m, n ≤ m → ∃ (a0 : D) (j0 z : Nat) (y1 y2 : Sl), z ≤ us.length ∧
  (∀ (X : D) (z1 z2 z4 : Sl) (j2 : Int), whileL (whT GG (run GG TT m) clT) (whB GG (run GG TT m) clB) LIM ⟨[.d (.loc 0), y1, y2, .d a0, .no], hpR L j0 e d⟩ = .nx ⟨[.d (.loc 0), z1, z2, .d X, z4], hpI L j2 e d⟩ → outX (exs GG (run GG TT m) b_Reader_called ⟨[.d (.loc 0), .no, .no, .no, .no], hpR L i e d⟩) = .ok X false (hpI L j2 e d)) ∧
  ∀ f, whileL (whT GG (run GG TT m) clT) (whB GG (run GG TT m) clB) (f + z) ⟨[.d (.loc 0), y1, y2, .d a0, .no], hpR L j0 e d⟩ = whileL (whT GG (run GG TT m) clT) (whB GG (run GG TT m) clB) f ⟨[.d (.loc 0), y1, y2, .d t.d, .no], hpR L (i + us.length) e d⟩
theorem cp_base (hn : 1 ≤ n) (h : RS n q t us) : RCp n q t us := fun L i d e rest hl rm hq m hm => by
  have hl' := Nat.le_of_lt hl
  obtain ⟨t0, r, e0, st⟩ := h.hd
  have c1 := cl_of (ev_coming (e := e) (d := d) hl' rm) (m := m) (by omega)
  have c2 := cl_of (h.rd L i d e rest hl rm (fl_seven _) hq) hm
  have ok : TkOk t0 := rm.ok t0 (r ++ rest) (by rw [e0]; rfl)
  have eh : hd2 (us ++ rest) = .tup [.str t0.kd, t0.wh] := by rw [e0]; rfl
  rw [eh] at c1
  refine ⟨t.d, i + us.length, 0, .d (.str t0.kd), .d t0.wh, by omega, fun X z1 z2 z4 j2 lp => ?_, fun f => rfl⟩
  cases ok with
  | @word w hw =>
    refine cl_single (v := true) rfl (fun _ => ?_) c1 c2 lp
    have := words_st w hw
    rw [this] at st
    simp at st
    rcases st with rfl | rfl | rfl <;> rfl
  | name _ => exact cl_single (v := false) rfl (fun h => by cases h) c1 c2 lp
  | num _ => exact cl_single (v := false) rfl (fun h => by cases h) c1 c2 lp
  | sign _ => exact cl_single (v := false) rfl (fun h => by cases h) c1 c2 lp
  | arrow => exact cl_single (v := false) rfl (fun h => by cases h) c1 c2 lp
theorem cp_one {w : W1} (hn : 1 ≤ n) (h : RS n q a ua) : RCp n q (.u w a) (tW w.tx :: ua) := fun L i d e rest hl rm hq m hm => by
  have hl' := Nat.le_of_lt hl
  have c1 := cl_of (ev_coming (e := e) (d := d) hl' rm) (m := m) (by omega)
  have c2 := cl_of (h.rd L _ d e rest hl rm.tail (fl_seven _) hq) hm
  have el : i + (tW w.tx :: ua).length = i + 1 + ua.length := by simp; omega
  rw [el]
  refine ⟨(Tr.u w a).d, i + 1 + ua.length, 0, .d (.str [119, 111, 114, 100]), .d (.str w.tx), by omega, fun X z1 z2 z4 j2 lp => ?_, fun f => rfl⟩
  exact cl_one (w := .str w.tx) (by cases w <;> rfl) (by cases w <;> rfl) c1 c2 lp
theorem cp_three {w : W3} (hw : w ≠ .cond) {c : Tr} {uc : List Tok} (hn : 1 ≤ n) (ha : RS n q a ua) (hb : RS n q b ub) (hc : RS n q c uc) : RCp n q (.t w a b c) (tW w.tx :: ua ++ ub ++ uc) := fun L i d e rest hl rm hq m hm => by
  have hl' := Nat.le_of_lt hl
  have rm' : Rm L i (tW w.tx :: (ua ++ (ub ++ (uc ++ rest)))) := by simpa using rm
  have r1 := rm'.tail
  have r2 := r1.behind
  have r3 := r2.behind
  have c1 := cl_of (ev_coming (e := e) (d := d) hl' rm') (m := m) (by omega)
  have el : i + (tW w.tx :: ua ++ ub ++ uc).length = i + 1 + ua.length + ub.length + uc.length := by simp; omega
  rw [el]
  refine ⟨(Tr.t w a b c).d, i + 1 + ua.length + ub.length + uc.length, 0, .d (.str [119, 111, 114, 100]), .d (.str w.tx), by omega, fun X z1 z2 z4 j2 lp => ?_, fun f => rfl⟩
  exact cl_three (w := .str w.tx) (by cases w <;> first | rfl | exact absurd rfl hw) (by cases w <;> first | rfl | exact absurd rfl hw) c1 (cl_of (ha.rd L _ d e _ hl r1 (fl_seven _) hq) hm) (cl_of (hb.rd L _ d e _ hl r2 (fl_seven _) hq) hm) (cl_of (hc.rd L _ d e _ hl r3 (fl_seven _) hq) hm) lp
theorem cp_step (hn : 2 ≤ n) (ha : RCp n q a ua) (hb : RS n q b ub) : RCp n q (.p .call a b) (ua ++ ub) := fun L i d e rest hl rm hq m hm => by
  have hl' := Nat.le_of_lt hl
  have rm' : Rm L i (ua ++ (ub ++ rest)) := by simpa using rm
  obtain ⟨a0, j0, z, y1, y2, hz, c1, lp⟩ := ha L i d e _ hl rm' hq m hm
  have r1 := rm'.behind
  obtain ⟨t0, r, e0, st⟩ := hb.hd
  have l1 : 1 ≤ ub.length := by rw [e0]; simp
  refine ⟨a0, j0, z + 1, y1, y2, by simp; omega, c1, fun f => ?_⟩
  rw [show f + (z + 1) = (f + 1) + z by omega, lp (f + 1)]
  have el : i + (ua ++ ub).length = i + ua.length + ub.length := by simp; omega
  rw [el]
  have s1 := ev_starts (e := e) (d := d) hl' r1
  rw [show stN (ub ++ rest) = true by rw [e0]; exact st] at s1
  exact while_go (cl_test (cl_of s1 (by omega))) (cl_turn (cl_of (hb.rd L _ d e rest hl r1 (fl_seven _) hq) hm))
theorem c_done (hn : 2 ≤ n) (hd : HdC us) (h : RCp n q t us) : RC (n + 1) q t us := ⟨hd, fun L i d e rest hl rm fl hq => EvS.of (n := n) (p := 1) (k := 5) (b := b_Reader_called) rfl rfl rfl fun m hm => by
  have hl' := Nat.le_of_lt hl
  obtain ⟨a0, j0, z, y1, y2, hz, c1, lp⟩ := h L i d e rest hl rm hq m hm
  have r1 := rm.behind
  have le := rm.le
  simp only [List.length_append] at le
  have st0 : stN rest = false := by
    cases rest with
    | nil => rfl
    | cons t r => exact (fl t r rfl).1 (Nat.le_refl _)
  have s1 := ev_starts (e := e) (d := d) hl' r1
  rw [st0] at s1
  refine c1 _ y1 y2 .no _ ?_
  obtain ⟨f, hf⟩ : ∃ f, LIM = (f + 1) + z := ⟨LIM - z - 1, by omega⟩
  rw [hf, lp (f + 1)]
  exact while_no (cl_test (cl_of s1 (by omega)))⟩
/-- single to level k -/
theorem s_called (hn : 2 ≤ n) (h : RS n q t us) : RC (n + 1) q t us := c_done hn h.hd.c (cp_base (by omega) h)
end
end Fp
set_option linter.all false
set_option maxRecDepth 100000
set_option maxHeartbeats 1000000
namespace Fp
open Ft
/-! read -/
theorem Tr.nl' : ∀ t : Tr, t.d.noLoc = true
  | .num _ | .nm _ => rfl
  | .z w => by cases w <;> rfl
  | .fn x b => by simp [Tr.d, D.noLoc, D.noLocL, Tr.nl' b]
  | .bd x a b => by simp [Tr.d, D.noLoc, D.noLocL, Tr.nl' a, Tr.nl' b]
  | .two s a b => by simp [Tr.d, D.noLoc, D.noLocL, Tr.nl' a, Tr.nl' b]
  | .u w a => by simp [Tr.d, D.noLoc, D.noLocL, Tr.nl' a]
  | .p w a b => by simp [Tr.d, D.noLoc, D.noLocL, Tr.nl' a, Tr.nl' b]
  | .t w a b c => by simp [Tr.d, D.noLoc, D.noLocL, Tr.nl' a, Tr.nl' b, Tr.nl' c]
theorem laid_rm {p : Nat} {ts : List Tok} {ps : List Nat} {X : Tx} (h : Laid p ts ps X) : ∀ (L0 : List D), Rm (L0 ++ tksD ts ps) L0.length ts := by
  induction h with
  | nil =>
    intro L0
    have : Rm (L0 ++ tksD [] []) (L0 ++ tksD [] []).length [] := Rm.nil
    simpa [tksD] using this
  | gap _ _ ih => exact ih
  | @tok p t ts ps r ok _ _ ih =>
    intro L0
    refine Rm.cons (p := .int (p : Nat)) (by simp [tksD, tkD]) ok ?_
    have := ih (L0 ++ [tkD t p])
    simpa [tksD] using this
theorem tksD_len {p : Nat} {ts : List Tok} {ps : List Nat} {X : Tx} (h : Laid p ts ps X) : (tksD ts ps).length ≤ X.length := by
  induction h with
  | nil => simp [tksD]
  | gap _ _ ih => simp; omega
  | @tok p t ts ps r ok _ _ ih =>
    obtain ⟨a, r', ne, _⟩ := ok.ne
    have l1 : 1 ≤ t.tx.length := by rw [ne]; simp
    simp [tksD]
    omega
section
variable {c : Oracle} {X : Tx} {L : List D} {j : Int} {t : D}
theorem init_run (hX : X.length ≤ LIM) (c1 : ∀ env hp, callR c [116, 111, 107, 101, 110, 115] [.str X] ⟨env, hp⟩ = .ok (.lst L) ⟨env, hp⟩) :
    outX (exs GG c b_Reader_init__ ⟨[.d (.loc 0), .d (.str X)], [.obj [82, 101, 97, 100, 101, 114] []]⟩) = .ok .none false (hpI L 0 (X.length : Nat) 0) := by
  simp only [hpI]
  simp -implicitDefEqProofs [b_Reader_init__, c1, hX]
theorem read_run {l : Int} (hL : L.length ≤ LIM) (c1 : ∀ env, callR c [82, 101, 97, 100, 101, 114] [.str X] ⟨env, []⟩ = .ok (.loc 0) ⟨env, hpI L 0 j 0⟩) (c2 : Cl c [82, 101, 97, 100, 101, 114, 46, 119, 104, 111, 108, 101] [] (hpI L 0 j 0) t (hpI L (L.length : Nat) j 0)) (c3 : ∀ env hp, callR c [99, 111, 117, 110, 116, 101, 100] [t, .int 300] ⟨env, hp⟩ = .ok (.int l) ⟨env, hp⟩) (h0 : 0 ≤ l) :
    outX (exs GG c b_read ⟨[.d (.str X), .no, .no], []⟩) = .ok t false (hpI L (L.length : Nat) j 0) := by
  have g : lookG gloL [77, 79, 83, 84, 95, 80, 65, 82, 84, 83] = some (.int 300) := rfl
  have q : ¬ (l < 0) := by omega
  simp only [Cl, hpI] at *
  simp -implicitDefEqProofs [b_read, c1, c2, c3, g, q, hL]
end
theorem ev_read {n q : Nat} {X : Tx} {t : Tr} {ts : List Tok} {ps : List Nat} (hn : 5 ≤ n) (hX : X.length < LIM) (la : Laid 0 ts ps X) (h : RW n q t ts) (hq : q ≤ 40) (ok : t.ok) (hs : t.size ≤ 300) (hd : t.dep + 2 ≤ n) : Ev (n + 1) [114, 101, 97, 100] [.str X] t.d := fun m hm => by
  obtain ⟨m, rfl⟩ : ∃ q, m = q + 1 := ⟨m - 1, by omega⟩
  have tl := tksD_len la
  have rm : Rm (tksD ts ps) 0 ts := laid_rm la []
  have le := rm.le
  refine run_gone GG TT m 1 3 [114, 101, 97, 100] b_read [.str X] rfl rfl rfl (Tr.nl' t) (hp' := hpR (tksD ts ps) (tksD ts ps).length (X.length : Nat) 0) ?_ []
  have mk : run GG TT m [82, 101, 97, 100, 101, 114] [.str X] [] = .ok (.loc 0) false (hpR (tksD ts ps) 0 (X.length : Nat) 0) := by
    obtain ⟨m, rfl⟩ : ∃ q, m = q + 1 := ⟨m - 1, by omega⟩
    have e : TT [82, 101, 97, 100, 101, 114] = Option.none := rfl
    have i : EvS 4 [82, 101, 97, 100, 101, 114, 46, 95, 95, 105, 110, 105, 116, 95, 95] [.loc 0, .str X] [.obj [82, 101, 97, 100, 101, 114] []] .none (hpR (tksD ts ps) 0 (X.length : Nat) 0) := EvS.of (n := 3) (p := 2) (k := 2) (b := b_Reader_init__) rfl rfl rfl fun m hm =>
      init_run (Nat.le_of_lt hX) fun env hp => call_ok ((ev_tokens hX la).any rfl rfl m hm (by omega) hp)
    have i := i m (by omega)
    rw [run, e]
    simp only [mkRet, List.length_nil, List.nil_append]
    have k : [82, 101, 97, 100, 101, 114] ++ initT = [82, 101, 97, 100, 101, 114, 46, 95, 95, 105, 110, 105, 116, 95, 95] := rfl
    rw [k, i]
  have w := h (tksD ts ps) 0 0 (X.length : Nat) [] (by omega) (by simpa using rm) Fl.nil (by omega)
  rw [show 0 + ts.length = (tksD ts ps).length by omega] at w
  exact read_run (l := 300 - t.size) (by omega) (fun env => call_ok mk) (cl_of w (by omega)) (fun env hp => call_ok ((ev_counted t.dep t (Nat.le_refl _) ok 300 (by omega)).any rfl (by simp [D.noLocL, Tr.nl', D.noLoc]) m (by omega) (by omega) hp)) (by omega)
end Fp
set_option linter.all false
set_option maxRecDepth 100000
set_option maxHeartbeats 1000000
namespace Fp
open Ft
/-- what stands ahead of the parts -/
def Tr.pre : Tr → List D
  | .num n => [.str [110, 117, 109], .int n]
  | .nm x => [.str [110, 97, 109, 101], .str x]
  | .z w => [.str w.tx]
  | .fn x _ => [.str [102, 117, 110], .str x]
  | .bd x _ _ => [.str [108, 101, 116], .str x]
  | .two s _ _ => [.str [116, 119, 111], .str [s]]
  | .u w _ => [.str w.tx]
  | .p w _ _ => [.str w.tx]
  | .t w _ _ _ => [.str w.tx]
theorem Tr.d_eq (t : Tr) : t.d = .tup (t.pre ++ t.parts.map Tr.d) := by cases t <;> rfl
theorem Tr.pre_no {t : Tr} : ∀ x ∈ t.pre, isTf x = true := by cases t <;> simp [Tr.pre, isTf]
theorem Tr.isT (t : Tr) : isTp t.d = true := by cases t <;> rfl
theorem compL_skips {f : D → St → R (Option D)} {s : St} : ∀ {xs r acc : List D}, (∀ x ∈ xs, f x s = .ok Option.none s) → compL f (xs ++ r) acc s = compL f r acc s
  | [], _, _, _ => rfl
  | x :: xs, r, acc, h => by rw [List.cons_append, compL_skip (h x List.mem_cons_self), compL_skips fun y hy => h y (List.mem_cons_of_mem _ hy)]
theorem forL_skips {f : D → St → X} : ∀ {xs r : List D} {s : St}, (∀ x ∈ xs, ∀ s, s.env.length = 4 → ∃ y, f x s = .nx ⟨s.env.set 3 y, s.hp⟩) → s.env.length = 4 → ∃ y, forL f (xs ++ r) s = forL f r ⟨s.env.set 3 y, s.hp⟩
  | [], r, s, _, hl => by
    have : 3 < s.env.length := by omega
    exact ⟨s.env[3], by simp⟩
  | x :: xs, r, s, h, hl => by
    obtain ⟨y, hy⟩ := h x List.mem_cons_self s hl
    obtain ⟨z, hz⟩ := forL_skips (r := r) (s := ⟨s.env.set 3 y, s.hp⟩) (fun q hq => h q (List.mem_cons_of_mem _ hq)) (by simp [hl])
    refine ⟨z, ?_⟩
    rw [List.cons_append, forL_cons, hy, x_nx, hz]
    simp
end Fp
set_option linter.all false
set_option maxRecDepth 100000
set_option maxHeartbeats 1000000
namespace Fp
open Ft
/-! the tokens of a program, all in brackets -/
theorem Rdr.lift {f : Tx} {xs : List D} {k n q n' q' : Nat} {t : Tr} {us : List Tok} (h : Rdr f xs k n q t us) (hn : n ≤ n') (hq : q ≤ q') : Rdr f xs k n' q' t us := fun L i d e rest hl rm fl hd => (h L i d e rest hl rm fl (by omega)).lift hn
theorem RS.lift {n q n' q' : Nat} {t : Tr} {us : List Tok} (h : RS n q t us) (hn : n ≤ n') (hq : q ≤ q') : RS n' q' t us := ⟨h.hd, h.rd.lift hn hq⟩
theorem RC.lift {n q n' q' : Nat} {t : Tr} {us : List Tok} (h : RC n q t us) (hn : n ≤ n') (hq : q ≤ q') : RC n' q' t us := ⟨h.hd, h.rd.lift hn hq⟩
theorem RL.lift {k n q n' q' : Nat} {t : Tr} {us : List Tok} (h : RL k n q t us) (hn : n ≤ n') (hq : q ≤ q') : RL k n' q' t us := ⟨h.hd, h.rd.lift hn hq⟩
section
variable {n q : Nat} {t : Tr} {us : List Tok}
/-- down from level j -/
theorem l_downs {j : Nat} (hn : 1 ≤ n) : ∀ {k : Nat}, k ≤ j → j ≤ 6 → RL j n q t us → RL k (n + (j - k)) q t us := by
  induction j generalizing n with
  | zero => intro k hk hj h; have : k = 0 := by omega
            subst this; exact h
  | succ j ih =>
    intro k hk hj h
    by_cases e : k = j + 1
    · subst e; simpa using h
    · have := ih (n := n + 1) (by omega) (k := k) (by omega) (by omega) (l_down (by omega) hn h)
      rw [show n + (j + 1 - k) = n + 1 + (j - k) by omega]
      exact this
theorem c_level (h : RC n q t us) {k : Nat} (hk : k ≤ 6) : RL k (n + 1 + (6 - k)) q t us := l_downs (by omega) hk (Nat.le_refl _) (l_six h)
theorem s_level (hn : 2 ≤ n) (h : RS n q t us) {k : Nat} (hk : k ≤ 6) : RL k (n + 8) q t us := (c_level (s_called hn h) hk).lift (by omega) (Nat.le_refl _)
theorem l_whole (hn : 2 ≤ n) {k : Nat} (hk : k ≤ 6) (h : RL k n q t us) : RW (n + 8) (q + 1) t us := (w_here (h_level (by omega) (l_downs (by omega) (Nat.zero_le k) hk h))).lift (by omega) (Nat.le_refl _)
theorem c_whole (hn : 1 ≤ n) (h : RC n q t us) : RW (n + 9) (q + 1) t us := (l_whole (n := n + 1) (by omega) (Nat.le_refl 6) (l_six h)).lift (by omega) (Nat.le_refl _)
theorem s_whole (hn : 2 ≤ n) (h : RS n q t us) : RW (n + 10) (q + 1) t us := (c_whole (n := n + 1) (by omega) (s_called hn h)).lift (by omega) (Nat.le_refl _)
end
def br (us : List Tok) : List Tok := tS 40 :: us ++ [tS 41]
def pcs : Tr → List Tok
  | .num n => [tI n.toNat]
  | .nm x => [tN x]
  | .z w => [tW w.tx]
  | .fn x b => tW [102, 117, 110] :: tN x :: tA :: br (pcs b)
  | .bd x a b => tW [108, 101, 116] :: tN x :: tS 61 :: br (pcs a) ++ tW [105, 110] :: br (pcs b)
  | .two s a b => br (pcs a) ++ tS s :: br (pcs b)
  | .u w a => tW w.tx :: br (pcs a)
  | .p .call a b => br (pcs a) ++ br (pcs b)
  | .p .pair a b => tS 40 :: br (pcs a) ++ tS 44 :: br (pcs b) ++ [tS 41]
  | .t .cond a b c => tW [105, 102] :: br (pcs a) ++ tW [116, 104, 101, 110] :: br (pcs b) ++ tW [101, 108, 115, 101] :: br (pcs c)
  | .t w a b c => tW w.tx :: br (pcs a) ++ br (pcs b) ++ br (pcs c)
theorem w_hdc (w : W1) : HdC (tW w.tx :: us) := ⟨_, _, rfl, .inr ⟨w.tx, by cases w <;> decide, rfl⟩⟩
theorem w_hdc3 {w : W3} (h : w ≠ .cond) : HdC (tW w.tx :: us) := ⟨_, _, rfl, .inr ⟨w.tx, by cases w <;> first | decide | exact absurd rfl h, rfl⟩⟩
theorem two_whole {n q : Nat} {s : Nat} {a b : Tr} {ua ub : List Tok} (hs : s ∈ signsT) (hn : 2 ≤ n) (ha : RS n q a ua) (hb : RS n q b ub) : RW (n + 17) (q + 2) (.two s a b) (ua ++ tS s :: ub) := by
  have la : ∀ k, k ≤ 6 → RL k (n + 8) q a ua := fun k hk => s_level hn ha hk
  have lb : ∀ k, k ≤ 6 → RL k (n + 8) q b ub := fun k hk => s_level hn hb hk
  have left : ∀ k, (k, s) ∈ lefts → k < 6 → RW (n + 17) (q + 2) (.two s a b) (ua ++ tS s :: ub) := fun k hk h6 =>
    (l_whole (by omega) (by omega) (lp_done h6 (by omega) (la 0 (by omega)).hd.app (lp_step hk (by omega) (lp_base (la (k + 1) (by omega))) (lb (k + 1) (by omega))))).lift (by omega) (by omega)
  simp only [signsT, List.mem_cons, List.not_mem_nil, or_false] at hs
  rcases hs with rfl | rfl | rfl | rfl | rfl | rfl | rfl | rfl
  · exact left 0 (by decide) (by omega)
  · exact left 1 (by decide) (by omega)
  · exact (l_whole (by omega) (by omega) (l_eq (.inl rfl) (by omega) (la 3 (by omega)) (lb 3 (by omega)))).lift (by omega) (by omega)
  · exact (l_whole (by omega) (by omega) (l_eq (.inr rfl) (by omega) (la 3 (by omega)) (lb 3 (by omega)))).lift (by omega) (by omega)
  · exact (l_whole (by omega) (by omega) (l_colon (by omega) (la 4 (by omega)) (lb 3 (by omega)))).lift (by omega) (by omega)
  · exact left 4 (by decide) (by omega)
  · exact left 4 (by decide) (by omega)
  · exact left 5 (by decide) (by omega)
theorem pcs_read : ∀ {t : Tr}, t.ok → RW (22 * t.dep) (2 * t.dep) t (pcs t)
  | .num i, h => by
    have e : ((i.toNat : Nat) : Int) = i := by have := h.1; omega
    have := s_whole (by omega) (s_num (q := 0) (k := i.toNat))
    rw [e] at this
    exact this.lift (by simp [Tr.dep]) (by simp [Tr.dep])
  | .nm x, h => (s_whole (by omega) (s_name (q := 0))).lift (by simp [Tr.dep]) (by simp [Tr.dep])
  | .z w, h => (s_whole (by omega) (s_word (q := 0))).lift (by simp [Tr.dep]) (by simp [Tr.dep])
  | .fn x b, h => by
    have ih := pcs_read h.2
    have dp := b.dep_pos
    exact (w_here (h_fun (by omega) (s_whole (by omega) (s_br (by omega) ih)))).lift (by simp only [Tr.dep]; omega) (by simp only [Tr.dep]; omega)
  | .bd x a b, h => by
    have da := a.dep_pos
    have db := b.dep_pos
    have ia := (pcs_read h.2.1).lift (n' := 22 * max a.dep b.dep) (q' := 2 * max a.dep b.dep) (by omega) (by omega)
    have ib := (pcs_read h.2.2).lift (n' := 22 * max a.dep b.dep) (q' := 2 * max a.dep b.dep) (by omega) (by omega)
    exact (w_here (h_let (by omega) (s_whole (by omega) (s_br (by omega) ia)) (s_whole (by omega) (s_br (by omega) ib)))).lift (by simp only [Tr.dep]; omega) (by simp only [Tr.dep]; omega)
  | .two s a b, h => by
    have da := a.dep_pos
    have db := b.dep_pos
    have ia := (pcs_read h.2.1).lift (n' := 22 * max a.dep b.dep) (q' := 2 * max a.dep b.dep) (by omega) (by omega)
    have ib := (pcs_read h.2.2).lift (n' := 22 * max a.dep b.dep) (q' := 2 * max a.dep b.dep) (by omega) (by omega)
    exact (two_whole h.1 (by omega) (s_br (by omega) ia) (s_br (by omega) ib)).lift (by simp only [Tr.dep]; omega) (by simp only [Tr.dep]; omega)
  | .u w a, h => by
    have da := a.dep_pos
    have ia := pcs_read (t := a) h
    exact (c_whole (by omega) (c_done (by omega) (w_hdc w) (cp_one (by omega) (s_br (by omega) ia)))).lift (by simp only [Tr.dep]; omega) (by simp only [Tr.dep]; omega)
  | .p .call a b, h => by
    have da := a.dep_pos
    have db := b.dep_pos
    have ia := (pcs_read h.1).lift (n' := 22 * max a.dep b.dep) (q' := 2 * max a.dep b.dep) (by omega) (by omega)
    have ib := (pcs_read h.2).lift (n' := 22 * max a.dep b.dep) (q' := 2 * max a.dep b.dep) (by omega) (by omega)
    have sa := s_br (by omega) ia
    exact (c_whole (by omega) (c_done (by omega) sa.hd.c.app (cp_step (by omega) (cp_base (by omega) sa) (s_br (by omega) ib)))).lift (by simp only [Tr.dep]; omega) (by simp only [Tr.dep]; omega)
  | .p .pair a b, h => by
    have da := a.dep_pos
    have db := b.dep_pos
    have ia := (pcs_read h.1).lift (n' := 22 * max a.dep b.dep) (q' := 2 * max a.dep b.dep) (by omega) (by omega)
    have ib := (pcs_read h.2).lift (n' := 22 * max a.dep b.dep) (q' := 2 * max a.dep b.dep) (by omega) (by omega)
    exact (s_whole (by omega) (s_pair (by omega) (s_whole (by omega) (s_br (by omega) ia)) (s_whole (by omega) (s_br (by omega) ib)))).lift (by simp only [Tr.dep]; omega) (by simp only [Tr.dep]; omega)
  | .t w a b c, h => by
    have da := a.dep_pos
    have ia := (pcs_read h.1).lift (n' := 22 * max a.dep (max b.dep c.dep)) (q' := 2 * max a.dep (max b.dep c.dep)) (by omega) (by omega)
    have ib := (pcs_read h.2.1).lift (n' := 22 * max a.dep (max b.dep c.dep)) (q' := 2 * max a.dep (max b.dep c.dep)) (by omega) (by omega)
    have ic := (pcs_read h.2.2).lift (n' := 22 * max a.dep (max b.dep c.dep)) (q' := 2 * max a.dep (max b.dep c.dep)) (by omega) (by omega)
    have three : ∀ w : W3, w ≠ .cond → RW (22 * (Tr.t w a b c).dep) (2 * (Tr.t w a b c).dep) (.t w a b c) (tW w.tx :: br (pcs a) ++ br (pcs b) ++ br (pcs c)) := fun w hw =>
      (c_whole (by omega) (c_done (by omega) (w_hdc3 (us := br (pcs a) ++ br (pcs b) ++ br (pcs c)) hw) (cp_three hw (by omega) (s_br (by omega) ia) (s_br (by omega) ib) (s_br (by omega) ic)))).lift (by simp only [Tr.dep]; omega) (by simp only [Tr.dep]; omega)
    cases w with
    | cond => exact (w_here (h_if (by omega) (s_whole (by omega) (s_br (by omega) ia)) (s_whole (by omega) (s_br (by omega) ib)) (s_whole (by omega) (s_br (by omega) ic)))).lift (by simp only [Tr.dep]; omega) (by simp only [Tr.dep]; omega)
    | fold => exact three .fold (by simp)
    | times => exact three .times (by simp)
/-- brackets round it -/
def brs : Nat → List Tok → List Tok
  | 0, us => us
  | n + 1, us => br (brs n us)
theorem brs_read {n q : Nat} {t : Tr} {us : List Tok} (hn : 3 ≤ n) (h : RW n q t us) : ∀ j, RW (n + 11 * j) (q + j) t (brs j us)
  | 0 => h
  | j + 1 => (s_whole (by omega) (s_br (by omega) (brs_read hn h j))).lift (by omega) (by omega)
theorem br_ok {us : List Tok} (h : ∀ t ∈ us, TkOk t) : ∀ t ∈ br us, TkOk t := fun t ht => by
  simp only [br, List.cons_append, List.mem_cons, List.mem_append, List.not_mem_nil, or_false] at ht
  rcases ht with rfl | ht | rfl
  · exact .sign (.inr (by decide))
  · exact h t ht
  · exact .sign (.inr (by decide))
theorem brs_ok {us : List Tok} (h : ∀ t ∈ us, TkOk t) : ∀ j, ∀ t ∈ brs j us, TkOk t
  | 0 => h
  | j + 1 => br_ok (brs_ok h j)
theorem pcs_ok : ∀ {t : Tr}, t.ok → ∀ u ∈ pcs t, TkOk u
  | .num i, h, u, hu => by
    simp only [pcs, List.mem_singleton] at hu
    subst hu
    exact .num (by have := h.1; have := h.2; omega)
  | .nm x, h, u, hu => by
    simp only [pcs, List.mem_singleton] at hu
    subst hu
    exact .name h
  | .z w, h, u, hu => by
    simp only [pcs, List.mem_singleton] at hu
    subst hu
    exact .word (by cases w <;> decide)
  | .fn x b, h, u, hu => by
    have ih := br_ok (pcs_ok h.2) u
    simp only [pcs, List.mem_cons] at hu
    rcases hu with rfl | rfl | rfl | hu
    · exact .word (by decide)
    · exact .name h.1
    · exact .arrow
    · exact ih hu
  | .bd x a b, h, u, hu => by
    have ia := br_ok (pcs_ok h.2.1) u
    have ib := br_ok (pcs_ok h.2.2) u
    simp only [pcs, List.mem_cons, List.cons_append, List.mem_append] at hu
    rcases hu with rfl | rfl | rfl | hu | rfl | hu
    · exact .word (by decide)
    · exact .name h.1
    · exact .sign (.inl (by decide))
    · exact ia hu
    · exact .word (by decide)
    · exact ib hu
  | .two s a b, h, u, hu => by
    have ia := br_ok (pcs_ok h.2.1) u
    have ib := br_ok (pcs_ok h.2.2) u
    simp only [pcs, List.mem_cons, List.mem_append] at hu
    rcases hu with hu | rfl | hu
    · exact ia hu
    · exact .sign (.inl h.1)
    · exact ib hu
  | .u w a, h, u, hu => by
    have ia := br_ok (pcs_ok (t := a) h) u
    simp only [pcs, List.mem_cons] at hu
    rcases hu with rfl | hu
    · exact .word (by cases w <;> decide)
    · exact ia hu
  | .p .call a b, h, u, hu => by
    have ia := br_ok (pcs_ok h.1) u
    have ib := br_ok (pcs_ok h.2) u
    simp only [pcs, List.mem_append] at hu
    exact hu.elim ia ib
  | .p .pair a b, h, u, hu => by
    have ia := br_ok (pcs_ok h.1) u
    have ib := br_ok (pcs_ok h.2) u
    simp only [pcs, List.mem_cons, List.cons_append, List.mem_append, List.not_mem_nil, or_false] at hu
    rcases hu with rfl | ((hu | rfl | hu) | rfl)
    · exact .sign (.inr (by decide))
    · exact ia hu
    · exact .sign (.inr (by decide))
    · exact ib hu
    · exact .sign (.inr (by decide))
  | .t w a b c, h, u, hu => by
    have ia := br_ok (pcs_ok h.1) u
    have ib := br_ok (pcs_ok h.2.1) u
    have ic := br_ok (pcs_ok h.2.2) u
    cases w with
    | cond =>
      simp only [pcs, List.mem_cons, List.cons_append, List.mem_append] at hu
      rcases hu with rfl | ((hu | rfl | hu) | rfl | hu)
      · exact .word (by decide)
      · exact ia hu
      · exact .word (by decide)
      · exact ib hu
      · exact .word (by decide)
      · exact ic hu
    | fold =>
      simp only [pcs, List.mem_cons, List.cons_append, List.mem_append] at hu
      rcases hu with rfl | ((hu | hu) | hu)
      · exact .word (by decide)
      · exact ia hu
      · exact ib hu
      · exact ic hu
    | times =>
      simp only [pcs, List.mem_cons, List.cons_append, List.mem_append] at hu
      rcases hu with rfl | ((hu | hu) | hu)
      · exact .word (by decide)
      · exact ia hu
      · exact ib hu
      · exact ic hu
theorem br_len (us : List Tok) : (br us).length = us.length + 2 := by simp [br]
theorem pcs_len : ∀ t : Tr, (pcs t).length + 2 ≤ 8 * t.size
  | .num _ => by simp [pcs, Tr.size]
  | .nm _ => by simp [pcs, Tr.size]
  | .z _ => by simp [pcs, Tr.size]
  | .fn x b => by have := pcs_len b; simp [pcs, Tr.size, br_len]; omega
  | .bd x a b => by have := pcs_len a; have := pcs_len b; simp [pcs, Tr.size, br_len]; omega
  | .two s a b => by have := pcs_len a; have := pcs_len b; simp [pcs, Tr.size, br_len]; omega
  | .u w a => by have := pcs_len a; simp [pcs, Tr.size, br_len]; omega
  | .p .call a b => by have := pcs_len a; have := pcs_len b; simp [pcs, Tr.size, br_len]; omega
  | .p .pair a b => by have := pcs_len a; have := pcs_len b; simp [pcs, Tr.size, br_len]; omega
  | .t .cond a b c => by have := pcs_len a; have := pcs_len b; have := pcs_len c; simp [pcs, Tr.size, br_len]; omega
  | .t .fold a b c => by have := pcs_len a; have := pcs_len b; have := pcs_len c; simp [pcs, Tr.size, br_len]; omega
  | .t .times a b c => by have := pcs_len a; have := pcs_len b; have := pcs_len c; simp [pcs, Tr.size, br_len]; omega
end Fp
set_option linter.all false
set_option maxRecDepth 100000
set_option maxHeartbeats 1000000
namespace Fp
open Ft
/-! _law_pieces -/
abbrev cpF (c : Oracle) := compF GG c [3] [(.un .isTup (.var 3))] (.bi .add (.bi .add (.lst [(.cst (.str [40]))]) (.call [95, 108, 97, 119, 95, 112, 105, 101, 99, 101, 115] [(.var 3)])) (.lst [(.cst (.str [41]))]))
abbrev st6 (d w : D) : St := ⟨[.d d, .d w, .no, .no, .no, .no], []⟩
abbrev pcR (c : Oracle) (d : D) (r : List D) : Prop := rtv (exs GG c b_law_pieces ⟨[.d d, .no, .no, .no, .no, .no], []⟩) = some (.lst r, false, [])
section
variable {c : Oracle} {A B C : List D} {x : Tx} {a b d w : D}
theorem pc_num {i : Int} {y : Tx} (h : op1 .str_ (.int i) = some (.str y)) (hc : compL (cpF c) [.str [110, 117, 109], .int i] [] (st6 (.tup [.str [110, 117, 109], .int i]) (.str [110, 117, 109])) = .ok [] (st6 (.tup [.str [110, 117, 109], .int i]) (.str [110, 117, 109]))) : pcR c (.tup [.str [110, 117, 109], .int i]) [.str y] := by
  have q2 : op2 .in_ (.str [110, 117, 109]) (.tup [.str [110, 117, 109], .str [110, 97, 109, 101]]) = some (.bool true) := rfl
  simp only [pcR, st6, cpF] at *
  simp -implicitDefEqProofs [b_law_pieces, hc, q2, h]
theorem pc_name (hc : compL (cpF c) [.str [110, 97, 109, 101], .str x] [] (st6 (.tup [.str [110, 97, 109, 101], .str x]) (.str [110, 97, 109, 101])) = .ok [] (st6 (.tup [.str [110, 97, 109, 101], .str x]) (.str [110, 97, 109, 101]))) : pcR c (.tup [.str [110, 97, 109, 101], .str x]) [.str x] := by
  have q2 : op2 .in_ (.str [110, 97, 109, 101]) (.tup [.str [110, 117, 109], .str [110, 97, 109, 101]]) = some (.bool true) := rfl
  have h : op1 .str_ (.str x) = some (.str x) := rfl
  simp only [pcR, st6, cpF] at *
  simp -implicitDefEqProofs [b_law_pieces, hc, q2, h]
theorem pc_fun (hA : A.length + 9 ≤ LIM) (hc : compL (cpF c) [.str [102, 117, 110], .str x, b] [] (st6 (.tup [.str [102, 117, 110], .str x, b]) (.str [102, 117, 110])) = .ok [.lst A] (st6 (.tup [.str [102, 117, 110], .str x, b]) (.str [102, 117, 110]))) : pcR c (.tup [.str [102, 117, 110], .str x, b]) (.str [102, 117, 110] :: .str x :: .str [45, 62] :: A) := by
  have q2 : op2 .in_ (.str [102, 117, 110]) (.tup [.str [110, 117, 109], .str [110, 97, 109, 101]]) = some (.bool false) := rfl
  have h1 : op2 .add (.lst [.str [102, 117, 110], .str x, .str [45, 62]]) (.lst A) = some (.lst (.str [102, 117, 110] :: .str x :: .str [45, 62] :: A)) := o2_addL (by simp; omega)
  simp only [pcR, st6, cpF] at *
  simp -implicitDefEqProofs [b_law_pieces, hc, q2, h1]
theorem pc_let (hA : A.length + B.length + 9 ≤ LIM) (hc : compL (cpF c) [.str [108, 101, 116], .str x, a, b] [] (st6 (.tup [.str [108, 101, 116], .str x, a, b]) (.str [108, 101, 116])) = .ok [.lst A, .lst B] (st6 (.tup [.str [108, 101, 116], .str x, a, b]) (.str [108, 101, 116]))) : pcR c (.tup [.str [108, 101, 116], .str x, a, b]) (.str [108, 101, 116] :: .str x :: .str [61] :: A ++ .str [105, 110] :: B) := by
  have q2 : op2 .in_ (.str [108, 101, 116]) (.tup [.str [110, 117, 109], .str [110, 97, 109, 101]]) = some (.bool false) := rfl
  have h1 : op2 .add (.lst [.str [108, 101, 116], .str x, .str [61]]) (.lst A) = some (.lst (.str [108, 101, 116] :: .str x :: .str [61] :: A)) := o2_addL (by simp; omega)
  have h2 : op2 .add (.lst (.str [108, 101, 116] :: .str x :: .str [61] :: A)) (.lst [.str [105, 110]]) = some (.lst (.str [108, 101, 116] :: .str x :: .str [61] :: (A ++ [.str [105, 110]]))) := o2_addL (by simp; omega)
  have h3 : op2 .add (.lst (.str [108, 101, 116] :: .str x :: .str [61] :: (A ++ [.str [105, 110]]))) (.lst B) = some (.lst (.str [108, 101, 116] :: .str x :: .str [61] :: (A ++ [.str [105, 110]]) ++ B)) := o2_addL (by simp; omega)
  simp only [pcR, st6, cpF] at *
  simp -implicitDefEqProofs [b_law_pieces, hc, q2, h1, h2, h3]
theorem pc_if (hA : A.length + B.length + C.length + 9 ≤ LIM) (hc : compL (cpF c) [.str [105, 102], a, b, d] [] (st6 (.tup [.str [105, 102], a, b, d]) (.str [105, 102])) = .ok [.lst A, .lst B, .lst C] (st6 (.tup [.str [105, 102], a, b, d]) (.str [105, 102]))) : pcR c (.tup [.str [105, 102], a, b, d]) (.str [105, 102] :: A ++ .str [116, 104, 101, 110] :: B ++ .str [101, 108, 115, 101] :: C) := by
  have q2 : op2 .in_ (.str [105, 102]) (.tup [.str [110, 117, 109], .str [110, 97, 109, 101]]) = some (.bool false) := rfl
  have h1 : op2 .add (.lst [.str [105, 102]]) (.lst A) = some (.lst (.str [105, 102] :: A)) := o2_addL (by simp; omega)
  have h2 : op2 .add (.lst (.str [105, 102] :: A)) (.lst [.str [116, 104, 101, 110]]) = some (.lst (.str [105, 102] :: (A ++ [.str [116, 104, 101, 110]]))) := o2_addL (by simp; omega)
  have h3 : op2 .add (.lst (.str [105, 102] :: (A ++ [.str [116, 104, 101, 110]]))) (.lst B) = some (.lst (.str [105, 102] :: (A ++ .str [116, 104, 101, 110] :: B))) := by rw [o2_addL (by simp; omega)]; simp
  have h4 : op2 .add (.lst (.str [105, 102] :: (A ++ .str [116, 104, 101, 110] :: B))) (.lst [.str [101, 108, 115, 101]]) = some (.lst (.str [105, 102] :: (A ++ .str [116, 104, 101, 110] :: (B ++ [.str [101, 108, 115, 101]])))) := by rw [o2_addL (by simp; omega)]; simp
  have h5 : op2 .add (.lst (.str [105, 102] :: (A ++ .str [116, 104, 101, 110] :: (B ++ [.str [101, 108, 115, 101]])))) (.lst C) = some (.lst (.str [105, 102] :: (A ++ .str [116, 104, 101, 110] :: (B ++ .str [101, 108, 115, 101] :: C)))) := by rw [o2_addL (by simp; omega)]; simp
  simp only [pcR, st6, cpF] at *
  simp -implicitDefEqProofs [b_law_pieces, hc, q2, h1, h2, h3, h4, h5]
theorem pc_two {s : Nat} (hA : A.length + B.length + 9 ≤ LIM) (hc : compL (cpF c) [.str [116, 119, 111], .str [s], a, b] [] (st6 (.tup [.str [116, 119, 111], .str [s], a, b]) (.str [116, 119, 111])) = .ok [.lst A, .lst B] (st6 (.tup [.str [116, 119, 111], .str [s], a, b]) (.str [116, 119, 111]))) : pcR c (.tup [.str [116, 119, 111], .str [s], a, b]) (A ++ .str [s] :: B) := by
  have q2 : op2 .in_ (.str [116, 119, 111]) (.tup [.str [110, 117, 109], .str [110, 97, 109, 101]]) = some (.bool false) := rfl
  have h1 : op2 .add (.lst A) (.lst [.str [s]]) = some (.lst (A ++ [.str [s]])) := o2_addL (by simp; omega)
  have h2 : op2 .add (.lst (A ++ [.str [s]])) (.lst B) = some (.lst (A ++ .str [s] :: B)) := by rw [o2_addL (by simp; omega)]; simp
  simp only [pcR, st6, cpF] at *
  simp -implicitDefEqProofs [b_law_pieces, hc, q2, h1, h2]
theorem pc_pair (hA : A.length + B.length + 9 ≤ LIM) (hc : compL (cpF c) [.str [112, 97, 105, 114], a, b] [] (st6 (.tup [.str [112, 97, 105, 114], a, b]) (.str [112, 97, 105, 114])) = .ok [.lst A, .lst B] (st6 (.tup [.str [112, 97, 105, 114], a, b]) (.str [112, 97, 105, 114]))) : pcR c (.tup [.str [112, 97, 105, 114], a, b]) (.str [40] :: A ++ .str [44] :: B ++ [.str [41]]) := by
  have q2 : op2 .in_ (.str [112, 97, 105, 114]) (.tup [.str [110, 117, 109], .str [110, 97, 109, 101]]) = some (.bool false) := rfl
  have h1 : op2 .add (.lst [.str [40]]) (.lst A) = some (.lst (.str [40] :: A)) := o2_addL (by simp; omega)
  have h2 : op2 .add (.lst (.str [40] :: A)) (.lst [.str [44]]) = some (.lst (.str [40] :: (A ++ [.str [44]]))) := o2_addL (by simp; omega)
  have h3 : op2 .add (.lst (.str [40] :: (A ++ [.str [44]]))) (.lst B) = some (.lst (.str [40] :: (A ++ .str [44] :: B))) := by rw [o2_addL (by simp; omega)]; simp
  have h4 : op2 .add (.lst (.str [40] :: (A ++ .str [44] :: B))) (.lst [.str [41]]) = some (.lst (.str [40] :: (A ++ .str [44] :: (B ++ [.str [41]])))) := by rw [o2_addL (by simp; omega)]; simp
  simp only [pcR, st6, cpF] at *
  simp -implicitDefEqProofs [b_law_pieces, hc, q2, h1, h2, h3, h4]
theorem pc_call (hA : A.length + B.length + 9 ≤ LIM) (hc : compL (cpF c) [.str [99, 97, 108, 108], a, b] [] (st6 (.tup [.str [99, 97, 108, 108], a, b]) (.str [99, 97, 108, 108])) = .ok [.lst A, .lst B] (st6 (.tup [.str [99, 97, 108, 108], a, b]) (.str [99, 97, 108, 108]))) : pcR c (.tup [.str [99, 97, 108, 108], a, b]) (A ++ B) := by
  have q2 : op2 .in_ (.str [99, 97, 108, 108]) (.tup [.str [110, 117, 109], .str [110, 97, 109, 101]]) = some (.bool false) := rfl
  have h1 : op2 .add (.lst []) (.lst A) = some (.lst A) := o2_addL (by simp; omega)
  have h2 : op2 .add (.lst A) (.lst B) = some (.lst (A ++ B)) := o2_addL (by omega)
  simp only [pcR, st6, cpF] at *
  simp -implicitDefEqProofs [b_law_pieces, hc, q2, h1, h2, forL]
/-- words that stand ahead -/
def pwT : List Tx := [[121, 101, 115], [110, 111], [101, 109, 112, 116, 121], [102, 105, 114, 115, 116], [115, 101, 99, 111, 110, 100], [102, 111, 108, 100], [116, 105, 109, 101, 115]]
theorem pwT_no : ∀ w ∈ pwT, w.all (fun c => decide (c < 55296)) = true ∧ w ∉ [[110, 117, 109], [110, 97, 109, 101]] ∧ (w == [102, 117, 110]) = false ∧ (w == [108, 101, 116]) = false ∧ (w == [105, 102]) = false ∧ (w == [116, 119, 111]) = false ∧ (w == [112, 97, 105, 114]) = false ∧ (w == [99, 97, 108, 108]) = false := by decide
theorem pc_word {w : Tx} (hw : w ∈ pwT) {ps : List D} {r : List D} (hc : compL (cpF c) (.str w :: ps) [] (st6 (.tup (.str w :: ps)) (.str w)) = .ok r (st6 (.tup (.str w :: ps)) (.str w))) {z : List D} {y5 : Sl}
    (lp : forL (forF GG c [5] [.asg 4 (.bi .add (.var 4) (.var 5))]) r ⟨[.d (.tup (.str w :: ps)), .d (.str w), .d (.lst r), .no, .d (.lst [.str w]), .no], []⟩ = .nx ⟨[.d (.tup (.str w :: ps)), .d (.str w), .d (.lst r), .no, .d (.lst z), y5], []⟩) : pcR c (.tup (.str w :: ps)) z := by
  obtain ⟨n0, n1, n2, n3, n4, n5, n6, n7⟩ := pwT_no w hw
  have q2 : op2 .in_ (.str w) (.tup [.str [110, 117, 109], .str [110, 97, 109, 101]]) = some (.bool false) := by
    have := @o2_inT w [[110, 117, 109], [110, 97, 109, 101]]
    rw [decide_eq_false n1] at this
    exact this
  have e2 : op2 .eq (.str w) (.str [102, 117, 110]) = some (.bool false) := by rw [o2_eqS n0 (by decide), n2]
  have e3 : op2 .eq (.str w) (.str [108, 101, 116]) = some (.bool false) := by rw [o2_eqS n0 (by decide), n3]
  have e4 : op2 .eq (.str w) (.str [105, 102]) = some (.bool false) := by rw [o2_eqS n0 (by decide), n4]
  have e5 : op2 .eq (.str w) (.str [116, 119, 111]) = some (.bool false) := by rw [o2_eqS n0 (by decide), n5]
  have e6 : op2 .eq (.str w) (.str [112, 97, 105, 114]) = some (.bool false) := by rw [o2_eqS n0 (by decide), n6]
  have e7 : op2 .eq (.str w) (.str [99, 97, 108, 108]) = some (.bool false) := by rw [o2_eqS n0 (by decide), n7]
  have ix : op2 .idx (.tup (.str w :: ps)) (.int 0) = some (.str w) := by
    have : at? (D.str w :: ps) ((0 : Nat) : Int) = some (.str w) := at_nat rfl
    exact this
  simp only [pcR, st6, cpF] at *
  simp -implicitDefEqProofs [b_law_pieces, ix, hc, q2, e2, e3, e4, e5, e6, e7, lp]
end
def ptx (us : List Tok) : List D := us.map fun t => .str t.tx
theorem ptx_app (us vs : List Tok) : ptx (us ++ vs) = ptx us ++ ptx vs := List.map_append
theorem ptx_br (us : List Tok) : ptx (br us) = .str [40] :: ptx us ++ [.str [41]] := by simp [ptx, br]
theorem ptx_len (us : List Tok) : (ptx us).length = us.length := by simp [ptx]
theorem ev_pieces : ∀ (n : Nat) (t : Tr), t.dep ≤ n → t.ok → t.size ≤ 400 → Ev n [95, 108, 97, 119, 95, 112, 105, 101, 99, 101, 115] [t.d] (.lst (ptx (pcs t)))
  | 0, t, hn, _, _ => absurd hn (by have := t.dep_pos; omega)
  | n + 1, t, hn, ok, hs => by
    refine Ev.of (n := n) (p := 1) (k := 6) (b := b_law_pieces) rfl rfl fun m hm => ?_
    have ss : t.size = 1 + sumS t.parts := t.size_eq
    have len : t.parts.length ≤ 3 := by cases t <;> simp [Tr.parts]
    have qs : ∀ q ∈ t.parts, q.size ≤ 400 := fun q hq => by
      have : q.size ≤ sumS t.parts := le_sum_mem (List.mem_map.mpr ⟨q, hq, rfl⟩)
      omega
    have pl : ∀ q ∈ t.parts, (pcs q).length ≤ 3200 := fun q hq => by have := pcs_len q; have := qs q hq; omega
    have lL : LIM = 1000000 := rfl
    have cs : ∀ w, compL (cpF (run GG TT m)) (t.pre ++ t.parts.map Tr.d) [] (st6 (.tup (t.pre ++ t.parts.map Tr.d)) w) = .ok (t.parts.map fun q => .lst (ptx (br (pcs q)))) (st6 (.tup (t.pre ++ t.parts.map Tr.d)) w) := fun w => by
      rw [compL_skips]
      · refine compL_map (d := Tr.d) (fun q hq => ?_) (by unfold LIM; omega)
        have c1 := call_ok (env := [.d (.tup (t.pre ++ t.parts.map Tr.d)), .d w, .no, .d q.d, .no, .no]) (ev_pieces n q (by have := Tr.parts_dep q hq; omega) (Tr.parts_ok ok q hq) (qs q hq) m hm)
        have l1 := pl q hq
        have h1 : op2 .add (.lst [.str [40]]) (.lst (ptx (pcs q))) = some (.lst (.str [40] :: ptx (pcs q))) := o2_addL (by simp [ptx_len]; omega)
        have h2 : op2 .add (.lst (.str [40] :: ptx (pcs q))) (.lst [.str [41]]) = some (.lst (.str [40] :: (ptx (pcs q) ++ [.str [41]]))) := o2_addL (by simp [ptx_len]; omega)
        rw [ptx_br]
        generalize ptx (pcs q) = Y at *
        simp -implicitDefEqProofs [q.isT, c1, h1, h2]
      · intro x hx
        simp -implicitDefEqProofs [Tr.pre_no x hx]
    cases t with
    | num i =>
      have e : op1 .str_ (.int i) = some (.str (decN i.toNat)) := by
        have h1 := ok.1
        have h2 := ok.2
        simp only [op1]
        rw [if_pos ⟨h1, by omega⟩]
      exact pc_num e (cs (.str [110, 117, 109]))
    | nm x => exact pc_name (cs (.str [110, 97, 109, 101]))
    | z w =>
      have := pc_word (w := w.tx) (ps := []) (r := []) (z := [.str w.tx]) (y5 := .no) (by cases w <;> decide) (cs (.str w.tx)) rfl
      exact this
    | fn x b =>
      have l1 := pl b (by simp [Tr.parts])
      have := pc_fun (A := ptx (br (pcs b))) (by rw [ptx_len, br_len]; omega) (cs (.str [102, 117, 110]))
      exact this
    | bd x a b =>
      have l1 := pl a (by simp [Tr.parts])
      have l2 := pl b (by simp [Tr.parts])
      have := pc_let (A := ptx (br (pcs a))) (B := ptx (br (pcs b))) (by rw [ptx_len, ptx_len, br_len, br_len]; omega) (cs (.str [108, 101, 116]))
      rw [show ptx (pcs (.bd x a b)) = .str [108, 101, 116] :: .str x :: .str [61] :: ptx (br (pcs a)) ++ .str [105, 110] :: ptx (br (pcs b)) by simp [ptx, pcs]]
      exact this
    | two s a b =>
      have l1 := pl a (by simp [Tr.parts])
      have l2 := pl b (by simp [Tr.parts])
      have := pc_two (A := ptx (br (pcs a))) (B := ptx (br (pcs b))) (by rw [ptx_len, ptx_len, br_len, br_len]; omega) (cs (.str [116, 119, 111]))
      rw [show ptx (pcs (.two s a b)) = ptx (br (pcs a)) ++ .str [s] :: ptx (br (pcs b)) by simp [ptx, pcs]]
      exact this
    | u w a =>
      have l1 := pl a (by simp [Tr.parts])
      have h1 : op2 .add (.lst [.str w.tx]) (.lst (ptx (br (pcs a)))) = some (.lst (.str w.tx :: ptx (br (pcs a)))) := o2_addL (by rw [ptx_len, br_len]; simp; omega)
      refine pc_word (w := w.tx) (ps := [a.d]) (r := [.lst (ptx (br (pcs a)))]) (z := .str w.tx :: ptx (br (pcs a))) (y5 := .d (.lst (ptx (br (pcs a))))) (by cases w <;> decide) (cs (.str w.tx)) ?_
      generalize ptx (br (pcs a)) = A at *
      simp -implicitDefEqProofs [forL, h1]
    | p w a b =>
      have l1 := pl a (by simp [Tr.parts])
      have l2 := pl b (by simp [Tr.parts])
      cases w with
      | call =>
        have := pc_call (A := ptx (br (pcs a))) (B := ptx (br (pcs b))) (by rw [ptx_len, ptx_len, br_len, br_len]; omega) (cs (.str [99, 97, 108, 108]))
        rw [show ptx (pcs (.p .call a b)) = ptx (br (pcs a)) ++ ptx (br (pcs b)) by simp [ptx, pcs]]
        exact this
      | pair =>
        have := pc_pair (A := ptx (br (pcs a))) (B := ptx (br (pcs b))) (by rw [ptx_len, ptx_len, br_len, br_len]; omega) (cs (.str [112, 97, 105, 114]))
        rw [show ptx (pcs (.p .pair a b)) = .str [40] :: ptx (br (pcs a)) ++ .str [44] :: ptx (br (pcs b)) ++ [.str [41]] by simp [ptx, pcs]]
        exact this
    | t w a b d =>
      have l1 := pl a (by simp [Tr.parts])
      have l2 := pl b (by simp [Tr.parts])
      have l3 := pl d (by simp [Tr.parts])
      have three : ∀ w : W3, w ≠ .cond → (∀ v, compL (cpF (run GG TT m)) [.str w.tx, a.d, b.d, d.d] [] (st6 (.tup [.str w.tx, a.d, b.d, d.d]) v) = .ok [.lst (ptx (br (pcs a))), .lst (ptx (br (pcs b))), .lst (ptx (br (pcs d)))] (st6 (.tup [.str w.tx, a.d, b.d, d.d]) v)) → pcR (run GG TT m) (.tup [.str w.tx, a.d, b.d, d.d]) (.str w.tx :: ptx (br (pcs a)) ++ ptx (br (pcs b)) ++ ptx (br (pcs d))) := fun w hw cs => by
        have h1 : op2 .add (.lst [.str w.tx]) (.lst (ptx (br (pcs a)))) = some (.lst (.str w.tx :: ptx (br (pcs a)))) := o2_addL (by rw [ptx_len, br_len]; simp; omega)
        have h2 : op2 .add (.lst (.str w.tx :: ptx (br (pcs a)))) (.lst (ptx (br (pcs b)))) = some (.lst (.str w.tx :: (ptx (br (pcs a)) ++ ptx (br (pcs b))))) := o2_addL (by simp only [List.length_cons, ptx_len, br_len]; omega)
        have h3 : op2 .add (.lst (.str w.tx :: (ptx (br (pcs a)) ++ ptx (br (pcs b))))) (.lst (ptx (br (pcs d)))) = some (.lst (.str w.tx :: ptx (br (pcs a)) ++ ptx (br (pcs b)) ++ ptx (br (pcs d)))) := o2_addL (by simp only [List.length_cons, List.length_append, ptx_len, br_len]; omega)
        refine pc_word (w := w.tx) (ps := [a.d, b.d, d.d]) (y5 := .d (.lst (ptx (br (pcs d))))) (by cases w <;> first | decide | exact absurd rfl hw) (cs (.str w.tx)) ?_
        generalize ptx (br (pcs a)) = A at *
        generalize ptx (br (pcs b)) = B at *
        generalize ptx (br (pcs d)) = C at *
        simp -implicitDefEqProofs [forL, h1, h2, h3]
      cases w with
      | cond =>
        have := pc_if (A := ptx (br (pcs a))) (B := ptx (br (pcs b))) (C := ptx (br (pcs d))) (by rw [ptx_len, ptx_len, ptx_len, br_len, br_len, br_len]; omega) (cs (.str [105, 102]))
        rw [show ptx (pcs (.t .cond a b d)) = .str [105, 102] :: ptx (br (pcs a)) ++ .str [116, 104, 101, 110] :: ptx (br (pcs b)) ++ .str [101, 108, 115, 101] :: ptx (br (pcs d)) by simp [ptx, pcs]]
        exact this
      | fold =>
        have := three .fold (by simp) cs
        rw [show ptx (pcs (.t .fold a b d)) = .str W3.fold.tx :: ptx (br (pcs a)) ++ ptx (br (pcs b)) ++ ptx (br (pcs d)) by simp [ptx, pcs]]
        exact this
      | times =>
        have := three .times (by simp) cs
        rw [show ptx (pcs (.t .times a b d)) = .str W3.times.tx :: ptx (br (pcs a)) ++ ptx (br (pcs b)) ++ ptx (br (pcs d)) by simp [ptx, pcs]]
        exact this
end Fp
set_option linter.all false
set_option maxRecDepth 100000
set_option maxHeartbeats 1000000
namespace Fp
open Ft
/-! _law_laid -/
def bodyL : List Sm := [.asg 6 (.bi .idx (.lst [(.cst (.str [])), (.cst (.str [32])), (.cst (.str [10])), (.cst (.str [32, 32])), (.cst (.str [])), (.cst (.str [32]))]) (.call [95, 108, 97, 119, 95, 112, 105, 99, 107] [(.call [95, 108, 97, 119, 95, 115, 101, 101, 100] [(.var 1), (.var 4)]), (.cst (.int 6))])), .iff (.and_ (.bi .ne (.var 2) (.cst (.str []))) (.and_ (.bi .eq (.var 6) (.cst (.str []))) (.and_ (.mt .isalnum (.bi .idx (.var 2) (.un .neg (.cst (.int 1)))) []) (.mt .isalnum (.bi .idx (.var 5) (.cst (.int 0))) [])))) [.asg 6 (.cst (.str [32]))] [], .asg 2 (.bi .add (.var 2) (.var 6)), .app 3 (.un .len (.var 2)), .asg 2 (.bi .add (.var 2) (.var 5))]
theorem laid_body : b_law_laid = [.asg 2 (.cst (.str [])), .asgO 3 (.lst []), .forr .enum [(.var 0)] [4, 5] bodyL, .share 3, .ret (.tup [(.var 2), (.var 3)])] := rfl
theorem rcv_al {x : Tx} {a : R D} : rcvR .isalnum (.str x) a = a := rfl
theorem mop_al {a : Nat} (h : a < 128) : mop .isalnum (.str [a]) [] = some (.bool (alnumC a)) := by simp only [mop, h, if_true]
def gapsT : List Tx := [[], [32], [10], [32, 32], [], [32]]
theorem gaps_ix {j : Nat} (h : j < 6) : ∃ g ∈ gapsT, op2 .idx (.lst [.str [], .str [32], .str [10], .str [32, 32], .str [], .str [32]]) (.int (j : Nat)) = some (.str g) := by
  have : j = 0 ∨ j = 1 ∨ j = 2 ∨ j = 3 ∨ j = 4 ∨ j = 5 := by omega
  rcases this with rfl | rfl | rfl | rfl | rfl | rfl
  · exact ⟨[], by decide, rfl⟩
  · exact ⟨[32], by decide, rfl⟩
  · exact ⟨[10], by decide, rfl⟩
  · exact ⟨[32, 32], by decide, rfl⟩
  · exact ⟨[], by decide, rfl⟩
  · exact ⟨[32], by decide, rfl⟩
section
variable {c : Oracle} {x0 y4 y5 y6 : Sl} {s v k j : Int} {acc : List D} {g h : Tx}
/-- the first token: nothing ahead -/
theorem lturn_a (h1 : ∀ env, callR c [95, 108, 97, 119, 95, 115, 101, 101, 100] [.int s, .int k] ⟨env, []⟩ = .ok (.int v) ⟨env, []⟩) (h2 : ∀ env, callR c [95, 108, 97, 119, 95, 112, 105, 99, 107] [.int v, .int 6] ⟨env, []⟩ = .ok (.int j) ⟨env, []⟩) (h3 : op2 .idx (.lst [.str [], .str [32], .str [10], .str [32, 32], .str [], .str [32]]) (.int j) = some (.str g)) (hl : g.length + h.length < LIM) (ha : acc.length < LIM) :
    forF GG c [4, 5] bodyL (.tup [.int k, .str h]) ⟨[x0, .d (.int s), .d (.str []), .ol acc, y4, y5, y6], []⟩ = .nx ⟨[x0, .d (.int s), .d (.str (g ++ h)), .ol (acc ++ [.int (g.length : Nat)]), .d (.int k), .d (.str h), .d (.str g)], []⟩ := by
  have q : op2 .ne (.str []) (.str []) = some (.bool false) := rfl
  have a1 : op2 .add (.str []) (.str g) = some (.str g) := o2_addS (by simp; omega)
  have a2 : op2 .add (.str g) (.str h) = some (.str (g ++ h)) := o2_addS (by omega)
  have l1 : g.length ≤ LIM := by omega
  simp -implicitDefEqProofs [bodyL, h1, h2, h3, q, a1, a2, l1, ha]
theorem lturn_b {pre : Tx} (hp : op2 .ne (.str pre) (.str []) = some (.bool true)) (h1 : ∀ env, callR c [95, 108, 97, 119, 95, 115, 101, 101, 100] [.int s, .int k] ⟨env, []⟩ = .ok (.int v) ⟨env, []⟩) (h2 : ∀ env, callR c [95, 108, 97, 119, 95, 112, 105, 99, 107] [.int v, .int 6] ⟨env, []⟩ = .ok (.int j) ⟨env, []⟩) (h3 : op2 .idx (.lst [.str [], .str [32], .str [10], .str [32, 32], .str [], .str [32]]) (.int j) = some (.str g)) (hg : op2 .eq (.str g) (.str []) = some (.bool false)) (hl : pre.length + g.length + h.length < LIM) (ha : acc.length < LIM) :
    forF GG c [4, 5] bodyL (.tup [.int k, .str h]) ⟨[x0, .d (.int s), .d (.str pre), .ol acc, y4, y5, y6], []⟩ = .nx ⟨[x0, .d (.int s), .d (.str (pre ++ g ++ h)), .ol (acc ++ [.int ((pre ++ g).length : Nat)]), .d (.int k), .d (.str h), .d (.str g)], []⟩ := by
  have a1 : op2 .add (.str pre) (.str g) = some (.str (pre ++ g)) := o2_addS (by omega)
  have l1 : (pre ++ g).length ≤ LIM := by simp; omega
  have a2 : op2 .add (.str (pre ++ g)) (.str h) = some (.str (pre ++ g ++ h)) := o2_addS (by simp; omega)
  generalize pre ++ g = pg at *
  simp -implicitDefEqProofs [bodyL, h1, h2, h3, hp, hg, a1, a2, l1, ha]
theorem lturn_c {pre : Tx} {a b : Nat} (hp : op2 .ne (.str pre) (.str []) = some (.bool true)) (h1 : ∀ env, callR c [95, 108, 97, 119, 95, 115, 101, 101, 100] [.int s, .int k] ⟨env, []⟩ = .ok (.int v) ⟨env, []⟩) (h2 : ∀ env, callR c [95, 108, 97, 119, 95, 112, 105, 99, 107] [.int v, .int 6] ⟨env, []⟩ = .ok (.int j) ⟨env, []⟩) (h3 : op2 .idx (.lst [.str [], .str [32], .str [10], .str [32, 32], .str [], .str [32]]) (.int j) = some (.str [])) (i1 : op2 .idx (.str pre) (.int (-1)) = some (.str [a])) (i2 : op2 .idx (.str h) (.int 0) = some (.str [b])) (b1 : a < 128) (b2 : b < 128) (hg : g = if alnumC a && alnumC b then [32] else []) (hl : pre.length + 1 + h.length < LIM) (ha : acc.length < LIM) :
    forF GG c [4, 5] bodyL (.tup [.int k, .str h]) ⟨[x0, .d (.int s), .d (.str pre), .ol acc, y4, y5, y6], []⟩ = .nx ⟨[x0, .d (.int s), .d (.str (pre ++ g ++ h)), .ol (acc ++ [.int ((pre ++ g).length : Nat)]), .d (.int k), .d (.str h), .d (.str g)], []⟩ := by
  have q : op2 .eq (.str []) (.str []) = some (.bool true) := rfl
  have m1 := mop_al b1
  have m2 := mop_al b2
  have gl : g.length ≤ 1 := by rw [hg]; split <;> simp
  have a1 : op2 .add (.str pre) (.str g) = some (.str (pre ++ g)) := o2_addS (by omega)
  have l1 : (pre ++ g).length ≤ LIM := by simp; omega
  have a2 : op2 .add (.str (pre ++ g)) (.str h) = some (.str (pre ++ g ++ h)) := o2_addS (by simp; omega)
  have n1 : op1 .neg (.int 1) = some (.int (-1)) := rfl
  cases e1 : alnumC a with
  | false =>
    rw [e1] at m1 hg
    simp at hg
    subst hg
    generalize pre ++ [] = pg at *
    simp -implicitDefEqProofs [bodyL, h1, h2, h3, hp, q, n1, i1, i2, rcv_al, m1, a1, a2, l1, ha]
  | true =>
    cases e2 : alnumC b with
    | false =>
      rw [e1] at m1 hg
      rw [e2] at m2 hg
      simp at hg
      subst hg
      generalize pre ++ [] = pg at *
      simp -implicitDefEqProofs [bodyL, h1, h2, h3, hp, q, n1, i1, i2, rcv_al, m1, m2, a1, a2, l1, ha]
    | true =>
      rw [e1] at m1 hg
      rw [e2] at m2 hg
      simp at hg
      subst hg
      generalize pre ++ [32] = pg at *
      simp -implicitDefEqProofs [bodyL, h1, h2, h3, hp, q, n1, i1, i2, rcv_al, m1, m2, a1, a2, l1, ha]
end
end Fp
set_option linter.all false
set_option maxRecDepth 100000
set_option maxHeartbeats 1000000
namespace Fp
open Ft
/-! the loop of _law_laid -/
theorem small_al : ∀ c ∈ smallT, alnumC c = true ∧ c < 128 ∧ c ≠ 62 := by decide
theorem fig_al : ∀ c ∈ figT, alnumC c = true ∧ c < 128 ∧ c ≠ 62 := by decide
theorem gaps_ok : ∀ g ∈ gapsT, g.length ≤ 2 ∧ ∀ c ∈ g, c ∈ [32, 10] := by decide
theorem blank_al : ∀ c ∈ [32, 10], alnumC c = false ∧ c < 128 ∧ c ≠ 62 := by decide
theorem sign_al : ∀ c, c ∈ signsT ∨ c ∈ marksT → alnumC c = false ∧ c < 128 ∧ c ≠ 62 := by
  intro c h
  rcases h with h | h
  · revert c; decide
  · revert c; decide
theorem words_few : ∀ w ∈ wordsT, w.length ≤ 6 := by decide
/-- facts of a token's text -/
theorem TkOk.tx {t : Tok} (h : TkOk t) : (∀ c ∈ t.tx, c < 128) ∧ t.tx.length ≤ 6 ∧ (∀ a r, t.tx = a :: r → a ≠ 62) ∧ (t.kd ≠ [115, 105, 103, 110] → ∀ c ∈ t.tx, alnumC c = true) := by
  cases h with
  | @word w h =>
    have q := (words_small w h).1
    exact ⟨fun c hc => (small_al c (q c hc)).2.1, words_few w h, fun a r e => (small_al a (q a (by simp only at e; rw [e]; simp))).2.2, fun _ c hc => (small_al c (q c hc)).1⟩
  | @name x h =>
    exact ⟨fun c hc => (small_al c (h.sm c hc)).2.1, h.few, fun a r e => (small_al a (h.sm a (by simp only at e; rw [e]; simp))).2.2, fun _ c hc => (small_al c (h.sm c hc)).1⟩
  | @num n h =>
    have q : ∀ a ∈ decN n, a ∈ figT := decF_figs _ _
    obtain ⟨_, _, l4, _⟩ := dec_facts h
    exact ⟨fun c hc => (fig_al c (q c hc)).2.1, by simp only; omega, fun a r e => (fig_al a (q a (by simp only at e; rw [e]; simp))).2.2, fun _ c hc => (fig_al c (q c hc)).1⟩
  | @sign c h =>
    have q := sign_al c h
    exact ⟨fun a ha => by simp at ha; subst ha; exact q.2.1, by simp, fun a r e => by cases e; exact q.2.2, fun z => absurd rfl z⟩
  | arrow => exact ⟨by simp, by simp, fun a r e => by cases e; simp, fun z => absurd rfl z⟩
theorem laid_gaps {ts : List Tok} {ps : List Nat} {Y : Tx} : ∀ {g : Tx} {p : Nat}, (∀ c ∈ g, c ∈ [32, 10]) → Laid (p + g.length) ts ps Y → Laid p ts ps (g ++ Y)
  | [], p, _, h => h
  | a :: g, p, hg, h => Laid.gap (hg a (by simp)) (laid_gaps (fun c hc => hg c (by simp [hc])) (by rw [show p + 1 + g.length = p + (a :: g).length by simp; omega]; exact h))
theorem ne_nil {pre : Tx} (h : ∀ c ∈ pre, c < 128) (hn : pre ≠ []) : op2 .ne (.str pre) (.str []) = some (.bool true) := by
  have hd : (D.str pre).dep = some 0 := by
    have : pre.all (fun c => decide (c < 55296)) = true := List.all_eq_true.mpr fun c hc => decide_eq_true (by have := h c hc; omega)
    simp only [D.dep, this, if_true]
  rw [o2_neD (by simp [D.shaped, hd]) (by decide)]
  cases pre with
  | nil => exact absurd rfl hn
  | cons a r => rfl
theorem laid_turn {x0 y4 y5 y6 : Sl} {s : Int} {k : Nat} {acc : List D} {pre : Tx} {t : Tok} (ht : TkOk t) (hp : ∀ c ∈ pre, c < 128) (hl : pre.length + 8 < LIM) (ha : acc.length < LIM) :
    ∃ g : Tx, g.length ≤ 2 ∧ (∀ c ∈ g, c ∈ [32, 10]) ∧ (∀ a r b, g = [] → pre.getLast? = some a → t.tx = b :: r → alnumC a = true → alnumC b = false) ∧ ∃ z6, ∀ m, 1 ≤ m →
      forF GG (run GG TT m) [4, 5] bodyL (.tup [.int (k : Nat), .str t.tx]) ⟨[x0, .d (.int s), .d (.str pre), .ol acc, y4, y5, y6], []⟩ = .nx ⟨[x0, .d (.int s), .d (.str (pre ++ g ++ t.tx)), .ol (acc ++ [.int ((pre ++ g).length : Nat)]), .d (.int (k : Nat)), .d (.str t.tx), z6], []⟩ := by
  obtain ⟨t1, t2, t3, t4⟩ := ht.tx
  have h1 : ∀ m, 1 ≤ m → ∀ env, callR (run GG TT m) [95, 108, 97, 119, 95, 115, 101, 101, 100] [.int s, .int (k : Nat)] ⟨env, []⟩ = .ok (.int (seedF s (k : Nat))) ⟨env, []⟩ := fun m hm env => call_ok (ev_seed s (k : Nat) m hm)
  have h2 : ∀ m, 1 ≤ m → ∀ env, callR (run GG TT m) [95, 108, 97, 119, 95, 112, 105, 99, 107] [.int (seedF s (k : Nat)), .int 6] ⟨env, []⟩ = .ok (.int (seedF s (k : Nat) / 97 % 6)) ⟨env, []⟩ := fun m hm env => call_ok (ev_pick _ 6 (by decide) m hm)
  obtain ⟨j, hj, ej⟩ := mod_nat (seedF s (k : Nat) / 97) 6 (by omega)
  have ej : seedF s (k : Nat) / 97 % 6 = (j : Int) := ej
  rw [ej] at h2
  obtain ⟨g, hg, h3⟩ := gaps_ix hj
  obtain ⟨g1, g2⟩ := gaps_ok g hg
  by_cases e : pre = []
  · subst e
    exact ⟨g, g1, g2, fun a r b _ q => by simp at q, _, fun m hm => lturn_a (g := g) (h1 m hm) (h2 m hm) h3 (by simp at hl; omega) ha⟩
  · have hne := ne_nil hp e
    by_cases eg : g = []
    · subst eg
      obtain ⟨b, r, et, _⟩ := ht.ne
      obtain ⟨q, a, rfl⟩ : ∃ q a, pre = q ++ [a] := ⟨pre.dropLast, pre.getLast e, (List.dropLast_concat_getLast e).symm⟩
      have i1 : op2 .idx (.str (q ++ [a])) (.int (-1)) = some (.str [a]) := by rw [o2_idxS (by omega), at_last]; rfl
      have i2 : op2 .idx (.str t.tx) (.int 0) = some (.str [b]) := by
        have : t.tx[0]? = some b := by rw [et]; rfl
        rw [o2_idxS (by omega), show (0 : Int) = ((0 : Nat) : Int) from rfl, at_nat this]
        rfl
      refine ⟨if alnumC a && alnumC b then [32] else [], by split <;> simp, by split <;> simp, fun a' r' b' h0 h1' h2' h3' => ?_, _, fun m hm => lturn_c hne (h1 m hm) (h2 m hm) h3 i1 i2 (hp a (by simp)) (t1 b (by rw [et]; simp)) rfl (by omega) ha⟩
      simp at h1'
      subst h1'
      rw [et] at h2'
      cases h2'
      cases eb : alnumC b with
      | false => rfl
      | true => rw [h3', eb] at h0; simp at h0
    · have hge : op2 .eq (.str g) (.str []) = some (.bool false) := by
        have : ∀ g ∈ gapsT, g ≠ [] → g = [32] ∨ g = [10] ∨ g = [32, 32] := by decide
        rcases this g hg eg with rfl | rfl | rfl <;> rfl
      exact ⟨g, g1, g2, fun a r b q => absurd q eg, _, fun m hm => lturn_b hne (h1 m hm) (h2 m hm) h3 hge (by omega) ha⟩
theorem laid_loop {x0 : Sl} {s : Int} : ∀ (ts : List Tok) (k : Nat) (pre : Tx) (acc : List D) (y4 y5 y6 : Sl), (∀ t ∈ ts, TkOk t) → (∀ c ∈ pre, c < 128) → pre.length + 8 * ts.length < LIM → acc.length + ts.length < LIM →
    ∃ (Y : Tx) (ps : List Nat) (z4 z5 z6 : Sl), (∀ m, 1 ≤ m → forL (forF GG (run GG TT m) [4, 5] bodyL) (enumD k (ptx ts)) ⟨[x0, .d (.int s), .d (.str pre), .ol acc, y4, y5, y6], []⟩ = .nx ⟨[x0, .d (.int s), .d (.str (pre ++ Y)), .ol (acc ++ ps.map fun p => .int (p : Nat)), z4, z5, z6], []⟩) ∧ Laid pre.length ts ps Y ∧ (∀ c ∈ Y, c < 128) ∧ Y.length ≤ 8 * ts.length ∧ ∀ c r, Y = c :: r → c ≠ 62 ∧ ∀ a, pre.getLast? = some a → alnumC a = true → alnumC c = false
  | [], k, pre, acc, y4, y5, y6, ok, hp, hl, ha => ⟨[], [], y4, y5, y6, fun m hm => by simp [ptx, enumD, forL_nil], .nil, by simp, by simp, fun c r e => by cases e⟩
  | t :: ts, k, pre, acc, y4, y5, y6, ok, hp, hl, ha => by
    have ht := ok t (by simp)
    obtain ⟨t1, t2, t3, t4⟩ := ht.tx
    simp only [List.length_cons] at hl ha
    obtain ⟨g, g1, g2, g3, z6, tn⟩ := laid_turn (x0 := x0) (y4 := y4) (y5 := y5) (y6 := y6) (s := s) (k := k) (acc := acc) (pre := pre) ht hp (by omega) (by omega)
    have gb : ∀ c ∈ g, c < 128 := fun c hc => (blank_al c (g2 c hc)).2.1
    obtain ⟨Y, ps, z4, z5, z6', lp, la, yb, yl, yh⟩ := laid_loop (x0 := x0) (s := s) ts (k + 1) (pre ++ g ++ t.tx) (acc ++ [.int ((pre ++ g).length : Nat)]) (.d (.int (k : Nat))) (.d (.str t.tx)) z6 (fun q hq => ok q (by simp [hq])) (fun c hc => by
      simp only [List.mem_append] at hc
      rcases hc with (hc | hc) | hc
      · exact hp c hc
      · exact gb c hc
      · exact t1 c hc) (by simp only [List.length_append]; omega) (by simp only [List.length_append, List.length_cons, List.length_nil]; omega)
    obtain ⟨b, r, et, _⟩ := ht.ne
    refine ⟨g ++ t.tx ++ Y, (pre ++ g).length :: ps, z4, z5, z6', ?_, ?_, ?_, ?_, ?_⟩
    · intro m hm
      rw [show ptx (t :: ts) = .str t.tx :: ptx ts from rfl, enumD, forL_cons, tn m hm, x_nx, lp m hm]
      simp
    · rw [List.append_assoc]
      refine laid_gaps g2 ?_
      rw [show pre.length + g.length = (pre ++ g).length by simp]
      refine Laid.tok ht (fun c r e => ?_) ?_
      · obtain ⟨n1, n2⟩ := yh c r e
        refine ⟨n1, by have := yb c (by rw [e]; simp); omega, fun hk => ?_⟩
        have tn : t.tx ≠ [] := by rw [et]; simp
        have hl : (pre ++ g ++ t.tx).getLast? = some (t.tx.getLast tn) := by
          rw [List.getLast?_append, List.getLast?_eq_some_getLast tn]
          rfl
        have := n2 _ hl (t4 hk _ (List.getLast_mem tn))
        exact ⟨fun q => (by rw [(small_al c q).1] at this; cases this), fun q => (by rw [(fig_al c q).1] at this; cases this)⟩
      · rw [show (pre ++ g).length + t.tx.length = (pre ++ g ++ t.tx).length by simp only [List.length_append]]
        exact la
    · intro c hc
      simp only [List.mem_append] at hc
      rcases hc with (hc | hc) | hc
      · exact gb c hc
      · exact t1 c hc
      · exact yb c hc
    · simp only [List.length_append, List.length_cons]; omega
    · intro c r' e
      cases eg : g with
      | nil =>
        rw [eg, et] at e
        simp at e
        obtain ⟨rfl, _⟩ := e
        exact ⟨t3 _ _ et, fun a q1 q2 => g3 a r _ eg q1 et q2⟩
      | cons x g' =>
        rw [eg] at e
        simp at e
        obtain ⟨rfl, _⟩ := e
        have := blank_al _ (g2 x (by rw [eg]; simp))
        exact ⟨this.2.2, fun _ _ _ => this.1⟩
theorem ev_laid {ts : List Tok} (s : Int) (ok : ∀ t ∈ ts, TkOk t) (hl : 8 * ts.length + 8 < LIM) : ∃ (X : Tx) (ps : List Nat), Laid 0 ts ps X ∧ X.length ≤ 8 * ts.length ∧ (∀ c ∈ X, c < 128) ∧ Ev 2 [95, 108, 97, 119, 95, 108, 97, 105, 100] [.lst (ptx ts), .int s] (.tup [.str X, .lst (ps.map fun p => .int (p : Nat))]) := by
  obtain ⟨X, ps, z4, z5, z6, lp, la, xb, xl, _⟩ := laid_loop (x0 := .d (.lst (ptx ts))) (s := s) ts 0 [] [] .no .no .no ok (by simp) (by simp; omega) (by simp; omega)
  refine ⟨X, ps, la, xl, xb, Ev.of (n := 1) (p := 2) (k := 7) (b := b_law_laid) rfl rfl fun m hm => ?_⟩
  have lp := lp m hm
  simp only [List.nil_append] at lp
  rw [laid_body]
  generalize ptx ts = T at *
  generalize (ps.map fun p => D.int (p : Nat)) = P at *
  generalize bodyL = B at *
  have me : (T.mapIdx fun k x => D.tup [.int (k : Nat), x]) = enumD 0 T := by
    have := mapIdx_enum 0 T
    simpa using this
  simp -implicitDefEqProofs [me, lp]
theorem lim_big : 1000000 ≤ LIM := by decide
end Fp
set_option linter.all false
set_option maxRecDepth 100000
set_option maxHeartbeats 1000000
namespace Fp
open Ft
/-! the tokens of a program as shown, read -/
def lvS : Nat → Nat
  | 124 => 1 | 38 => 2 | 61 => 3 | 60 => 3 | 58 => 4 | 43 => 5 | 45 => 5 | _ => 6
def Tr.lv : Tr → Nat
  | .fn _ _ | .bd _ _ _ | .t .cond _ _ _ => 0
  | .two s _ _ => lvS s
  | .p .call _ _ | .u _ _ | .t _ _ _ _ => 7
  | _ => 8
def lfS (s : Nat) : Nat := if s = 61 ∨ s = 60 ∨ s = 58 then lvS s + 1 else lvS s
def rtS (s : Nat) : Nat := if s = 58 then lvS s else lvS s + 1
def atl (t : Tr) (us : List Tok) (l : Nat) : List Tok := if t.lv < l then br us else us
def sh : Tr → List Tok
  | .num n => [tI n.toNat]
  | .nm x => [tN x]
  | .z w => [tW w.tx]
  | .fn x b => tW [102, 117, 110] :: tN x :: tA :: sh b
  | .bd x a b => tW [108, 101, 116] :: tN x :: tS 61 :: sh a ++ tW [105, 110] :: sh b
  | .two s a b => atl a (sh a) (lfS s) ++ tS s :: atl b (sh b) (rtS s)
  | .u w a => tW w.tx :: atl a (sh a) 8
  | .p .call a b => atl a (sh a) 7 ++ atl b (sh b) 8
  | .p .pair a b => tS 40 :: sh a ++ tS 44 :: sh b ++ [tS 41]
  | .t .cond a b c => tW [105, 102] :: sh a ++ tW [116, 104, 101, 110] :: sh b ++ tW [101, 108, 115, 101] :: sh c
  | .t w a b c => tW w.tx :: atl a (sh a) 8 ++ atl b (sh b) 8 ++ atl c (sh c) 8
/-- read at a level of writing -/
def G (l n q : Nat) (t : Tr) (us : List Tok) : Prop := match l with
  | 0 => RW (n + 10) (q + 1) t us
  | 7 => HdC us ∧ RCp n q t us
  | 8 => RS n q t us
  | l => RL (l - 1) (n + 9 - l) q t us ∧ ((l = 1 ∨ l = 2 ∨ l = 5 ∨ l = 6) → RLp (l - 1) (n + 8 - l) q t us)
theorem RLp.lift {k n q n' q' : Nat} {t : Tr} {us : List Tok} (h : RLp k n q t us) (hn : n ≤ n') (hq : q ≤ q') : RLp k n' q' t us := fun L i d e rest hl rm fl hd m hm => h L i d e rest hl rm fl (by omega) m (by omega)
theorem RCp.lift {n q n' q' : Nat} {t : Tr} {us : List Tok} (h : RCp n q t us) (hn : n ≤ n') (hq : q ≤ q') : RCp n' q' t us := fun L i d e rest hl rm hd m hm => h L i d e rest hl rm (by omega) m (by omega)
theorem six {l : Nat} (h : 1 ≤ l) (h2 : l ≤ 6) : l = 1 ∨ l = 2 ∨ l = 3 ∨ l = 4 ∨ l = 5 ∨ l = 6 := by omega
section
variable {l n q : Nat} {t : Tr} {us : List Tok}
theorem G.mid (h1 : 1 ≤ l) (h6 : l ≤ 6) : G l n q t us ↔ RL (l - 1) (n + 9 - l) q t us ∧ ((l = 1 ∨ l = 2 ∨ l = 5 ∨ l = 6) → RLp (l - 1) (n + 8 - l) q t us) := by
  rcases six h1 h6 with rfl | rfl | rfl | rfl | rfl | rfl <;> exact Iff.rfl
theorem G.down (hn : 2 ≤ n) (hl : l ≤ 7) (h : G (l + 1) n q t us) : G l n q t us := by
  by_cases e7 : l = 7
  · subst e7
    have h : RS n q t us := h
    exact ⟨h.hd.c, cp_base (by omega) h⟩
  · by_cases e6 : l = 6
    · subst e6
      obtain ⟨hd, h⟩ : HdC us ∧ RCp n q t us := h
      have l6 : RL 6 (n + 2) q t us := l_six (c_done hn hd h)
      refine (G.mid (by omega) (by omega)).mpr ⟨(l_down (by omega) (by omega) l6).lift (by omega) (Nat.le_refl _), fun _ => (lp_base l6).lift (by omega) (Nat.le_refl _)⟩
    · by_cases e0 : l = 0
      · subst e0
        obtain ⟨h, _⟩ := (G.mid (l := 1) (by omega) (by omega)).mp h
        exact (w_here (h_level (by omega) h)).lift (by omega) (Nat.le_refl _)
      · obtain ⟨h, _⟩ := (G.mid (l := l + 1) (by omega) (by omega)).mp h
        obtain ⟨k, rfl⟩ : ∃ k, l = k + 1 := ⟨l - 1, by omega⟩
        have h : RL (k + 1) (n + 9 - (k + 1 + 1)) q t us := h
        refine (G.mid (by omega) (by omega)).mpr ⟨(l_down (k := k) (by omega) (by omega) h).lift (by omega) (Nat.le_refl _), fun _ => (lp_base h).lift (by omega) (Nat.le_refl _)⟩
theorem G.to (hn : 2 ≤ n) : ∀ {l' : Nat}, l ≤ l' → l' ≤ 8 → G l' n q t us → G l n q t us := by
  intro l'
  induction l' with
  | zero => intro h1 h2 h; have : l = 0 := by omega
            subst this; exact h
  | succ k ih =>
    intro h1 h2 h
    by_cases e : l = k + 1
    · subst e; exact h
    · exact ih (by omega) (by omega) (h.down hn (by omega))
theorem G.lift {n' q' : Nat} (hl : l ≤ 8) (h : G l n q t us) (hn : n ≤ n') (hq : q ≤ q') : G l n' q' t us := by
  by_cases e0 : l = 0
  · subst e0; exact Rdr.lift h (by omega) (by omega)
  · by_cases e7 : l = 7
    · subst e7; exact ⟨h.1, h.2.lift hn hq⟩
    · by_cases e8 : l = 8
      · subst e8; exact RS.lift h hn hq
      · obtain ⟨h1, h2⟩ := (G.mid (by omega) (by omega)).mp h
        exact (G.mid (by omega) (by omega)).mpr ⟨h1.lift (by omega) hq, fun z => (h2 z).lift (by omega) hq⟩
theorem Tr.lv_le (t : Tr) : t.lv ≤ 8 := by
  have : ∀ s, lvS s ≤ 6 := fun s => by unfold lvS; split <;> omega
  cases t with
  | two s a b => have := this s; simp only [Tr.lv]; omega
  | p w a b => cases w <;> simp [Tr.lv]
  | t w a b c => cases w <;> simp [Tr.lv]
  | _ => simp [Tr.lv]
theorem G.at (hn : 2 ≤ n) (hl : l ≤ 8) (h : G t.lv n q t us) : G l (n + 11) (q + 1) t (atl t us l) := by
  unfold atl
  split
  · have h0 : RW (n + 10) (q + 1) t us := h.to hn (Nat.zero_le _) t.lv_le
    have h8 : G 8 (n + 11) (q + 1) t (br us) := s_br (by omega) h0
    exact h8.to (by omega) hl (Nat.le_refl _)
  · exact (h.to hn (by omega) t.lv_le).lift hl (by omega) (by omega)
theorem G.w (hn : 2 ≤ n) (h : G t.lv n q t us) : RW (n + 10) (q + 1) t us := h.to hn (Nat.zero_le _) t.lv_le
end
theorem two_G {n q s : Nat} {a b : Tr} {ua ub : List Tok} (hs : s ∈ signsT) (hn : 2 ≤ n) (ha : G (lfS s) n q a ua) (hb : G (rtS s) n q b ub) : G (lvS s) (n + 1) (q + 1) (.two s a b) (ua ++ tS s :: ub) := by
  have left : ∀ k, (k, s) ∈ lefts → k < 6 → (k = 0 ∨ k = 1 ∨ k = 4 ∨ k = 5) → G (k + 1) n q a ua → G (k + 2) n q b ub → G (k + 1) (n + 1) (q + 1) (.two s a b) (ua ++ tS s :: ub) := fun k hk h6 hq ha hb => by
    obtain ⟨a1, a2⟩ := (G.mid (by omega) (by omega)).mp ha
    have a2 : RLp k (n + 8 - (k + 1)) q a ua := a2 (by omega)
    have b1 : RL (k + 1) (n + 9 - (k + 2)) q b ub := by
      by_cases e : k = 5
      · subst e
        obtain ⟨hd, h⟩ : HdC ub ∧ RCp n q b ub := hb
        exact (l_six (c_done hn hd h)).lift (by omega) (Nat.le_refl _)
      · exact ((G.mid (by omega) (by omega)).mp hb).1
    have st := lp_step hk (by omega) a2 (b1.lift (n' := n + 8 - (k + 1)) (by omega) (Nat.le_refl _))
    exact (G.mid (by omega) (by omega)).mpr ⟨(lp_done h6 (by omega) a1.hd.app st).lift (by omega) (by omega), fun _ => st.lift (by omega) (by omega)⟩
  simp only [signsT, List.mem_cons, List.not_mem_nil, or_false] at hs
  rcases hs with rfl | rfl | rfl | rfl | rfl | rfl | rfl | rfl
  · exact left 0 (by decide) (by omega) (by omega) ha hb
  · exact left 1 (by decide) (by omega) (by omega) ha hb
  · obtain ⟨a1, _⟩ := (G.mid (l := 4) (by omega) (by omega)).mp ha
    obtain ⟨b1, _⟩ := (G.mid (l := 4) (by omega) (by omega)).mp hb
    exact (G.mid (l := 3) (by omega) (by omega)).mpr ⟨(l_eq (.inl rfl) (by omega) a1 b1).lift (by omega) (by omega), fun z => by omega⟩
  · obtain ⟨a1, _⟩ := (G.mid (l := 4) (by omega) (by omega)).mp ha
    obtain ⟨b1, _⟩ := (G.mid (l := 4) (by omega) (by omega)).mp hb
    exact (G.mid (l := 3) (by omega) (by omega)).mpr ⟨(l_eq (.inr rfl) (by omega) a1 b1).lift (by omega) (by omega), fun z => by omega⟩
  · obtain ⟨a1, _⟩ := (G.mid (l := 5) (by omega) (by omega)).mp ha
    obtain ⟨b1, _⟩ := (G.mid (l := 4) (by omega) (by omega)).mp hb
    exact (G.mid (l := 4) (by omega) (by omega)).mpr ⟨(l_colon (by omega) (a1.lift (by omega) (Nat.le_refl _)) b1).lift (by omega) (by omega), fun z => by omega⟩
  · exact left 4 (by decide) (by omega) (by omega) ha hb
  · exact left 4 (by decide) (by omega) (by omega) ha hb
  · exact left 5 (by decide) (by omega) (by omega) ha hb
theorem lf_le {s : Nat} (h : s ∈ signsT) : lfS s ≤ 8 ∧ rtS s ≤ 8 := by
  have : ∀ s ∈ signsT, lfS s ≤ 8 ∧ rtS s ≤ 8 := by decide
  exact this s h
theorem sh_read : ∀ {t : Tr}, t.ok → G t.lv (12 * t.dep) (2 * t.dep) t (sh t)
  | .num i, h => by
    have e : ((i.toNat : Nat) : Int) = i := by have := h.1; omega
    have := s_num (q := 0) (k := i.toNat)
    rw [e] at this
    exact this.lift (by simp [Tr.dep]) (by simp [Tr.dep])
  | .nm x, h => (s_name (q := 0)).lift (by simp [Tr.dep]) (by simp [Tr.dep])
  | .z w, h => (s_word (q := 0)).lift (by simp [Tr.dep]) (by simp [Tr.dep])
  | .fn x b, h => by
    have dp := b.dep_pos
    have ih := (sh_read h.2).w (by omega)
    exact (w_here (h_fun (by omega) ih)).lift (by simp only [Tr.dep]; omega) (by simp only [Tr.dep]; omega)
  | .bd x a b, h => by
    have da := a.dep_pos
    have db := b.dep_pos
    have ia := ((sh_read h.2.1).w (by omega)).lift (n' := 12 * max a.dep b.dep + 10) (q' := 2 * max a.dep b.dep + 1) (by omega) (by omega)
    have ib := ((sh_read h.2.2).w (by omega)).lift (n' := 12 * max a.dep b.dep + 10) (q' := 2 * max a.dep b.dep + 1) (by omega) (by omega)
    exact (w_here (h_let (by omega) ia ib)).lift (by simp only [Tr.dep]; omega) (by simp only [Tr.dep]; omega)
  | .two s a b, h => by
    have da := a.dep_pos
    have db := b.dep_pos
    obtain ⟨l1, l2⟩ := lf_le h.1
    have ia := ((sh_read h.2.1).at (l := lfS s) (by omega) l1).lift l1 (n' := 12 * max a.dep b.dep + 11) (q' := 2 * max a.dep b.dep + 1) (by omega) (by omega)
    have ib := ((sh_read h.2.2).at (l := rtS s) (by omega) l2).lift l2 (n' := 12 * max a.dep b.dep + 11) (q' := 2 * max a.dep b.dep + 1) (by omega) (by omega)
    exact (two_G h.1 (by omega) ia ib).lift (Tr.lv_le (.two s a b)) (by simp only [Tr.dep]; omega) (by simp only [Tr.dep]; omega)
  | .u w a, h => by
    have da := a.dep_pos
    have ia : RS _ _ a _ := (sh_read (t := a) h).at (l := 8) (by omega) (by omega)
    exact ⟨w_hdc w, (cp_one (by omega) ia).lift (by simp only [Tr.dep]; omega) (by simp only [Tr.dep]; omega)⟩
  | .p .call a b, h => by
    have da := a.dep_pos
    have db := b.dep_pos
    have ia := ((sh_read h.1).at (l := 7) (by omega) (by omega)).lift (by omega) (n' := 12 * max a.dep b.dep + 11) (q' := 2 * max a.dep b.dep + 1) (by omega) (by omega)
    have ib := ((sh_read h.2).at (l := 8) (by omega) (by omega)).lift (by omega) (n' := 12 * max a.dep b.dep + 11) (q' := 2 * max a.dep b.dep + 1) (by omega) (by omega)
    exact ⟨ia.1.app, (cp_step (by omega) ia.2 ib).lift (by simp only [Tr.dep]; omega) (by simp only [Tr.dep]; omega)⟩
  | .p .pair a b, h => by
    have da := a.dep_pos
    have db := b.dep_pos
    have ia := ((sh_read h.1).w (by omega)).lift (n' := 12 * max a.dep b.dep + 10) (q' := 2 * max a.dep b.dep + 1) (by omega) (by omega)
    have ib := ((sh_read h.2).w (by omega)).lift (n' := 12 * max a.dep b.dep + 10) (q' := 2 * max a.dep b.dep + 1) (by omega) (by omega)
    exact (s_pair (by omega) ia ib).lift (by simp only [Tr.dep]; omega) (by simp only [Tr.dep]; omega)
  | .t w a b c, h => by
    have da := a.dep_pos
    have three : ∀ w : W3, w ≠ .cond → HdC (tW w.tx :: atl a (sh a) 8 ++ atl b (sh b) 8 ++ atl c (sh c) 8) ∧ RCp (12 * (Tr.t w a b c).dep) (2 * (Tr.t w a b c).dep) (.t w a b c) (tW w.tx :: atl a (sh a) 8 ++ atl b (sh b) 8 ++ atl c (sh c) 8) := fun w hw => by
      have ia := ((sh_read h.1).at (l := 8) (by have := a.dep_pos; omega) (by omega)).lift (by omega) (n' := 12 * max a.dep (max b.dep c.dep) + 11) (q' := 2 * max a.dep (max b.dep c.dep) + 1) (by omega) (by omega)
      have ib := ((sh_read h.2.1).at (l := 8) (by have := b.dep_pos; omega) (by omega)).lift (by omega) (n' := 12 * max a.dep (max b.dep c.dep) + 11) (q' := 2 * max a.dep (max b.dep c.dep) + 1) (by omega) (by omega)
      have ic := ((sh_read h.2.2).at (l := 8) (by have := c.dep_pos; omega) (by omega)).lift (by omega) (n' := 12 * max a.dep (max b.dep c.dep) + 11) (q' := 2 * max a.dep (max b.dep c.dep) + 1) (by omega) (by omega)
      exact ⟨w_hdc3 (us := atl a (sh a) 8 ++ atl b (sh b) 8 ++ atl c (sh c) 8) hw, (cp_three hw (by omega) ia ib ic).lift (by simp only [Tr.dep]; omega) (by simp only [Tr.dep]; omega)⟩
    cases w with
    | cond =>
      have ia := ((sh_read h.1).w (by have := a.dep_pos; omega)).lift (n' := 12 * max a.dep (max b.dep c.dep) + 10) (q' := 2 * max a.dep (max b.dep c.dep) + 1) (by omega) (by omega)
      have ib := ((sh_read h.2.1).w (by have := b.dep_pos; omega)).lift (n' := 12 * max a.dep (max b.dep c.dep) + 10) (q' := 2 * max a.dep (max b.dep c.dep) + 1) (by omega) (by omega)
      have ic := ((sh_read h.2.2).w (by have := c.dep_pos; omega)).lift (n' := 12 * max a.dep (max b.dep c.dep) + 10) (q' := 2 * max a.dep (max b.dep c.dep) + 1) (by omega) (by omega)
      exact (w_here (h_if (by omega) ia ib ic)).lift (by simp only [Tr.dep]; omega) (by simp only [Tr.dep]; omega)
    | fold => exact three .fold (by simp)
    | times => exact three .times (by simp)
end Fp
set_option linter.all false
set_option maxRecDepth 100000
set_option maxHeartbeats 1000000
namespace Fp
open Ft
/-! the text of tokens with one blank between -/
def sep (t u : Tok) : Tx := if t.tx = [40] ∨ u.tx = [41] ∨ u.tx = [44] then [] else [32]
def txt : List Tok → Tx
  | [] => []
  | [t] => t.tx
  | t :: u :: r => t.tx ++ sep t u ++ txt (u :: r)
theorem txt_cc {t u : Tok} {r : List Tok} : txt (t :: u :: r) = t.tx ++ sep t u ++ txt (u :: r) := rfl
/-- where two stand side by side -/
def jnt (us vs : List Tok) : Tx := match us.getLast?, vs.head? with
  | some t, some u => sep t u
  | _, _ => []
theorem txt_app : ∀ {us vs : List Tok}, us ≠ [] → vs ≠ [] → txt (us ++ vs) = txt us ++ jnt us vs ++ txt vs
  | [], _, h, _ => absurd rfl h
  | [t], v :: r, _, _ => rfl
  | [t], [], _, h => absurd rfl h
  | t :: u :: us, vs, _, h => by
    have ih := txt_app (us := u :: us) (vs := vs) (by simp) h
    have e : jnt (t :: u :: us) vs = jnt (u :: us) vs := by simp [jnt]
    rw [List.cons_append, List.cons_append, txt_cc, ← List.cons_append, ih, txt_cc, e]
    simp
/-- the first is no mark that shuts, the last none that opens -/
structure Ends (us : List Tok) : Prop where
  hd : ∃ t r, us = t :: r ∧ t.tx ≠ [41] ∧ t.tx ≠ [44]
  lst : ∃ t r, us = r ++ [t] ∧ t.tx ≠ [40]
theorem Ends.ne {us : List Tok} (h : Ends us) : us ≠ [] := by obtain ⟨t, r, rfl, _⟩ := h.hd; simp
theorem Ends.app {us vs : List Tok} (h : Ends us) (h2 : Ends vs) (w : List Tok) : Ends (us ++ w ++ vs) := by
  obtain ⟨t, r, rfl, q⟩ := h.hd
  obtain ⟨t', r', rfl, q'⟩ := h2.lst
  exact ⟨⟨t, r ++ w ++ (r' ++ [t']), by simp, q⟩, ⟨t', t :: r ++ w ++ r', by simp, q'⟩⟩
theorem Ends.one {t : Tok} (h1 : t.tx ≠ [41]) (h2 : t.tx ≠ [44]) (h3 : t.tx ≠ [40]) : Ends [t] := ⟨⟨t, [], rfl, h1, h2⟩, ⟨t, [], rfl, h3⟩⟩
theorem Ends.cons {t : Tok} {us : List Tok} (h1 : t.tx ≠ [41]) (h2 : t.tx ≠ [44]) (h : Ends us) : Ends (t :: us) := by
  obtain ⟨t', r', rfl, q'⟩ := h.lst
  exact ⟨⟨t, _, rfl, h1, h2⟩, ⟨t', t :: r', rfl, q'⟩⟩
theorem Ends.cons2 {t : Tok} {us vs : List Tok} (h1 : t.tx ≠ [41]) (h2 : t.tx ≠ [44]) (h : Ends vs) : Ends (t :: us ++ vs) := by
  obtain ⟨t', r', rfl, q'⟩ := h.lst
  exact ⟨⟨t, us ++ (r' ++ [t']), by simp, h1, h2⟩, ⟨t', t :: us ++ r', by simp, q'⟩⟩
theorem Ends.two {us vs : List Tok} (h : Ends us) (h2 : Ends vs) : Ends (us ++ vs) := by
  have := h.app h2 []
  simpa using this
theorem Ends.br (us : List Tok) : Ends (br us) := ⟨⟨tS 40, us ++ [tS 41], rfl, by simp, by simp⟩, ⟨tS 41, tS 40 :: us, rfl, by simp⟩⟩
theorem Ends.jn {us vs : List Tok} (h : Ends us) (h2 : Ends vs) : jnt us vs = [32] := by
  obtain ⟨t, r, rfl, q⟩ := h.lst
  obtain ⟨t', r', rfl, q', q2⟩ := h2.hd
  simp [jnt, sep, q, q', q2]
theorem txt_two {us vs : List Tok} (h : Ends us) (h2 : Ends vs) : txt (us ++ vs) = txt us ++ [32] ++ txt vs := by rw [txt_app h.ne h2.ne, h.jn h2]
theorem txt_cons {t : Tok} {us : List Tok} (h1 : t.tx ≠ [40]) (h : Ends us) : txt (t :: us) = t.tx ++ [32] ++ txt us := by
  obtain ⟨u, r, rfl, q1, q2⟩ := h.hd
  rw [txt_cc]
  simp [sep, h1, q1, q2]
theorem txt_br {us : List Tok} (h : Ends us) : txt (br us) = [40] ++ txt us ++ [41] := by
  obtain ⟨u, r, rfl, q1, q2⟩ := h.hd
  have e : txt (br (u :: r)) = [40] ++ txt ((u :: r) ++ [tS 41]) := by
    show txt (tS 40 :: u :: (r ++ [tS 41])) = _
    rw [txt_cc]
    simp [sep]
  rw [e, txt_app (by simp) (by simp)]
  have j : jnt (u :: r) [tS 41] = [] := by
    obtain ⟨t, r', e', _⟩ := h.lst
    simp [jnt, e', sep]
  rw [j]
  simp [txt]
theorem nm_no {x : Tx} (h : ∀ c ∈ x, c ∈ smallT) : x ≠ [41] ∧ x ≠ [44] ∧ x ≠ [40] := by
  refine ⟨?_, ?_, ?_⟩ <;> (intro e; have := h _ (by rw [e]; exact List.mem_singleton.mpr rfl); revert this; decide)
theorem fig_no {x : Tx} (h : ∀ c ∈ x, c ∈ figT) : x ≠ [41] ∧ x ≠ [44] ∧ x ≠ [40] := by
  refine ⟨?_, ?_, ?_⟩ <;> (intro e; have := h _ (by rw [e]; exact List.mem_singleton.mpr rfl); revert this; decide)
theorem sg_no {s : Nat} (h : s ∈ signsT) : ([s] : Tx) ≠ [41] ∧ ([s] : Tx) ≠ [44] ∧ ([s] : Tx) ≠ [40] := by
  have : ∀ s ∈ signsT, ([s] : Tx) ≠ [41] ∧ ([s] : Tx) ≠ [44] ∧ ([s] : Tx) ≠ [40] := by decide
  exact this s h
theorem atl_ends {t : Tr} {us : List Tok} {l : Nat} (h : Ends us) : Ends (atl t us l) := by
  unfold atl; split
  · exact Ends.br us
  · exact h
theorem w1_no (w : W1) : w.tx ≠ [41] ∧ w.tx ≠ [44] ∧ w.tx ≠ [40] := by cases w <;> decide
theorem w3_no (w : W3) : w.tx ≠ [41] ∧ w.tx ≠ [44] ∧ w.tx ≠ [40] := by cases w <;> decide
theorem w0_no (w : W0) : w.tx ≠ [41] ∧ w.tx ≠ [44] ∧ w.tx ≠ [40] := by cases w <;> decide
theorem sh_ends : ∀ {t : Tr}, t.ok → Ends (sh t)
  | .num i, h => by
    have q := fig_no (decF_figs (i.toNat + 1) i.toNat)
    exact Ends.one q.1 q.2.1 q.2.2
  | .nm x, h => Ends.one (nm_no h.sm).1 (nm_no h.sm).2.1 (nm_no h.sm).2.2
  | .z w, h => Ends.one (w0_no w).1 (w0_no w).2.1 (w0_no w).2.2
  | .fn x b, h => Ends.cons2 (t := tW [102, 117, 110]) (us := [tN x, tA]) (by decide) (by decide) (sh_ends h.2)
  | .bd x a b, h => by
    have := Ends.cons2 (t := tW [108, 101, 116]) (us := tN x :: tS 61 :: sh a ++ [tW [105, 110]]) (by decide) (by decide) (sh_ends h.2.2)
    simpa [sh] using this
  | .two s a b, h => by
    have := (atl_ends (t := a) (l := lfS s) (sh_ends h.2.1)).app (atl_ends (t := b) (l := rtS s) (sh_ends h.2.2)) [tS s]
    simpa [sh] using this
  | .u w a, h => Ends.cons (w1_no w).1 (w1_no w).2.1 (atl_ends (sh_ends (t := a) h))
  | .p .call a b, h => (atl_ends (sh_ends h.1)).two (atl_ends (sh_ends h.2))
  | .p .pair a b, h => by
    have := Ends.br (sh a ++ tS 44 :: sh b)
    simpa [sh, br] using this
  | .t .cond a b c, h => by
    have := Ends.cons2 (t := tW [105, 102]) (us := sh a ++ tW [116, 104, 101, 110] :: sh b ++ [tW [101, 108, 115, 101]]) (by decide) (by decide) (sh_ends h.2.2)
    simpa [sh] using this
  | .t .fold a b c, h => by
    have := Ends.cons2 (t := tW [102, 111, 108, 100]) (us := atl a (sh a) 8 ++ atl b (sh b) 8) (by decide) (by decide) (atl_ends (t := c) (l := 8) (sh_ends h.2.2))
    simpa [sh, W3.tx] using this
  | .t .times a b c, h => by
    have := Ends.cons2 (t := tW [116, 105, 109, 101, 115]) (us := atl a (sh a) 8 ++ atl b (sh b) 8) (by decide) (by decide) (atl_ends (t := c) (l := 8) (sh_ends h.2.2))
    simpa [sh, W3.tx] using this
theorem atl_ok {t : Tr} {us : List Tok} {l : Nat} (h : ∀ u ∈ us, TkOk u) : ∀ u ∈ atl t us l, TkOk u := by
  unfold atl; split
  · exact br_ok h
  · exact h
theorem sh_ok : ∀ {t : Tr}, t.ok → ∀ u ∈ sh t, TkOk u
  | .num i, h, u, hu => pcs_ok (t := .num i) h u hu
  | .nm x, h, u, hu => pcs_ok (t := .nm x) h u hu
  | .z w, h, u, hu => pcs_ok (t := .z w) h u hu
  | .fn x b, h, u, hu => by
    have ih := sh_ok h.2 u
    simp only [sh, List.mem_cons] at hu
    rcases hu with rfl | rfl | rfl | hu
    · exact .word (by decide)
    · exact .name h.1
    · exact .arrow
    · exact ih hu
  | .bd x a b, h, u, hu => by
    have ia := sh_ok h.2.1 u
    have ib := sh_ok h.2.2 u
    simp only [sh, List.mem_cons, List.cons_append, List.mem_append] at hu
    rcases hu with rfl | rfl | rfl | hu | rfl | hu
    · exact .word (by decide)
    · exact .name h.1
    · exact .sign (.inl (by decide))
    · exact ia hu
    · exact .word (by decide)
    · exact ib hu
  | .two s a b, h, u, hu => by
    have ia := atl_ok (t := a) (l := lfS s) (sh_ok h.2.1) u
    have ib := atl_ok (t := b) (l := rtS s) (sh_ok h.2.2) u
    simp only [sh, List.mem_cons, List.mem_append] at hu
    rcases hu with hu | rfl | hu
    · exact ia hu
    · exact .sign (.inl h.1)
    · exact ib hu
  | .u w a, h, u, hu => by
    have ia := atl_ok (t := a) (l := 8) (sh_ok (t := a) h) u
    simp only [sh, List.mem_cons] at hu
    rcases hu with rfl | hu
    · exact .word (by cases w <;> decide)
    · exact ia hu
  | .p .call a b, h, u, hu => by
    have ia := atl_ok (t := a) (l := 7) (sh_ok h.1) u
    have ib := atl_ok (t := b) (l := 8) (sh_ok h.2) u
    simp only [sh, List.mem_append] at hu
    exact hu.elim ia ib
  | .p .pair a b, h, u, hu => by
    have ia := sh_ok h.1 u
    have ib := sh_ok h.2 u
    simp only [sh, List.mem_cons, List.cons_append, List.mem_append, List.not_mem_nil, or_false] at hu
    rcases hu with rfl | ((hu | rfl | hu) | rfl)
    · exact .sign (.inr (by decide))
    · exact ia hu
    · exact .sign (.inr (by decide))
    · exact ib hu
    · exact .sign (.inr (by decide))
  | .t w a b c, h, u, hu => by
    have ia := sh_ok h.1 u
    have ib := sh_ok h.2.1 u
    have ic := sh_ok h.2.2 u
    have ja := atl_ok (t := a) (l := 8) (sh_ok h.1) u
    have jb := atl_ok (t := b) (l := 8) (sh_ok h.2.1) u
    have jc := atl_ok (t := c) (l := 8) (sh_ok h.2.2) u
    cases w with
    | cond =>
      simp only [sh, List.mem_cons, List.cons_append, List.mem_append] at hu
      rcases hu with rfl | ((hu | rfl | hu) | rfl | hu)
      · exact .word (by decide)
      · exact ia hu
      · exact .word (by decide)
      · exact ib hu
      · exact .word (by decide)
      · exact ic hu
    | fold =>
      simp only [sh, List.mem_cons, List.cons_append, List.mem_append] at hu
      rcases hu with rfl | ((hu | hu) | hu)
      · exact .word (by decide)
      · exact ja hu
      · exact jb hu
      · exact jc hu
    | times =>
      simp only [sh, List.mem_cons, List.cons_append, List.mem_append] at hu
      rcases hu with rfl | ((hu | hu) | hu)
      · exact .word (by decide)
      · exact ja hu
      · exact jb hu
      · exact jc hu
theorem atl_len (t : Tr) (us : List Tok) (l : Nat) : (atl t us l).length ≤ us.length + 2 := by
  unfold atl; split
  · rw [br_len]; omega
  · omega
theorem sh_len : ∀ t : Tr, (sh t).length + 2 ≤ 8 * t.size
  | .num _ => by simp [sh, Tr.size]
  | .nm _ => by simp [sh, Tr.size]
  | .z _ => by simp [sh, Tr.size]
  | .fn x b => by have := sh_len b; simp [sh, Tr.size]; omega
  | .bd x a b => by have := sh_len a; have := sh_len b; simp [sh, Tr.size]; omega
  | .two s a b => by have := sh_len a; have := sh_len b; have := atl_len a (sh a) (lfS s); have := atl_len b (sh b) (rtS s); simp [sh, Tr.size]; omega
  | .u w a => by have := sh_len a; have := atl_len a (sh a) 8; simp [sh, Tr.size]; omega
  | .p .call a b => by have := sh_len a; have := sh_len b; have := atl_len a (sh a) 7; have := atl_len b (sh b) 8; simp [sh, Tr.size]; omega
  | .p .pair a b => by have := sh_len a; have := sh_len b; simp [sh, Tr.size]; omega
  | .t .cond a b c => by have := sh_len a; have := sh_len b; have := sh_len c; simp [sh, Tr.size]; omega
  | .t .fold a b c => by have := sh_len a; have := sh_len b; have := sh_len c; have := atl_len a (sh a) 8; have := atl_len b (sh b) 8; have := atl_len c (sh c) 8; simp [sh, Tr.size]; omega
  | .t .times a b c => by have := sh_len a; have := sh_len b; have := sh_len c; have := atl_len a (sh a) 8; have := atl_len b (sh b) 8; have := atl_len c (sh c) 8; simp [sh, Tr.size]; omega
theorem sep_few (t u : Tok) : (sep t u).length ≤ 1 := by unfold sep; split <;> simp
theorem txt_len : ∀ {us : List Tok}, (∀ u ∈ us, TkOk u) → (txt us).length ≤ 7 * us.length
  | [], _ => by simp [txt]
  | [t], h => by have := (h t (by simp)).tx.2.1; simp [txt]; omega
  | t :: u :: r, h => by
    have h1 := (h t (by simp)).tx.2.1
    have h2 := sep_few t u
    have ih := txt_len (us := u :: r) fun q hq => h q (List.mem_cons_of_mem _ hq)
    simp only [txt, List.length_append, List.length_cons] at ih ⊢
    omega
end Fp
set_option linter.all false
set_option maxRecDepth 100000
set_option maxHeartbeats 1000000
namespace Fp
open Ft
/-! plain: a program's text -/
abbrev pR (c : Oracle) (d : D) (y : Tx) : Prop := rtv (exs GG c b_plain ⟨[.d d, .no, .no], []⟩) = some (.str y, false, [])
section
variable {c : Oracle} {A B C y y1 y2 y3 y4 y5 x : Tx} {a b d : D}
theorem pl_num {i : Int} (h : op1 .str_ (.int i) = some (.str y)) : pR c (.tup [.str [110, 117, 109], .int i]) y := by
  have q2 : op2 .in_ (.str [110, 117, 109]) (.tup [.str [110, 117, 109], .str [110, 97, 109, 101]]) = some (.bool true) := rfl
  simp -implicitDefEqProofs [pR, b_plain, q2, h]
theorem pl_name : pR c (.tup [.str [110, 97, 109, 101], .str x]) x := by
  have q2 : op2 .in_ (.str [110, 97, 109, 101]) (.tup [.str [110, 117, 109], .str [110, 97, 109, 101]]) = some (.bool true) := rfl
  have h : op1 .str_ (.str x) = some (.str x) := rfl
  simp -implicitDefEqProofs [pR, b_plain, q2, h]
theorem pl_fun (k1 : ∀ env, callR c [112, 108, 97, 105, 110] [b] ⟨env, []⟩ = .ok (.str B) ⟨env, []⟩) (a1 : op2 .add (.str [102, 117, 110, 32]) (.str x) = some (.str y1)) (a2 : op2 .add (.str y1) (.str [32, 45, 62, 32]) = some (.str y2)) (a3 : op2 .add (.str y2) (.str B) = some (.str y3)) : pR c (.tup [.str [102, 117, 110], .str x, b]) y3 := by
  have q2 : op2 .in_ (.str [102, 117, 110]) (.tup [.str [110, 117, 109], .str [110, 97, 109, 101]]) = some (.bool false) := rfl
  simp -implicitDefEqProofs [pR, b_plain, q2, k1, a1, a2, a3]
theorem pl_let (k1 : ∀ env, callR c [112, 108, 97, 105, 110] [a] ⟨env, []⟩ = .ok (.str A) ⟨env, []⟩) (k2 : ∀ env, callR c [112, 108, 97, 105, 110] [b] ⟨env, []⟩ = .ok (.str B) ⟨env, []⟩) (a1 : op2 .add (.str [108, 101, 116, 32]) (.str x) = some (.str y1)) (a2 : op2 .add (.str y1) (.str [32, 61, 32]) = some (.str y2)) (a3 : op2 .add (.str y2) (.str A) = some (.str y3)) (a4 : op2 .add (.str y3) (.str [32, 105, 110, 32]) = some (.str y4)) (a5 : op2 .add (.str y4) (.str B) = some (.str y5)) : pR c (.tup [.str [108, 101, 116], .str x, a, b]) y5 := by
  have q2 : op2 .in_ (.str [108, 101, 116]) (.tup [.str [110, 117, 109], .str [110, 97, 109, 101]]) = some (.bool false) := rfl
  simp -implicitDefEqProofs [pR, b_plain, q2, k1, k2, a1, a2, a3, a4, a5]
theorem pl_if (k1 : ∀ env, callR c [112, 108, 97, 105, 110] [a] ⟨env, []⟩ = .ok (.str A) ⟨env, []⟩) (k2 : ∀ env, callR c [112, 108, 97, 105, 110] [b] ⟨env, []⟩ = .ok (.str B) ⟨env, []⟩) (k3 : ∀ env, callR c [112, 108, 97, 105, 110] [d] ⟨env, []⟩ = .ok (.str C) ⟨env, []⟩) (a1 : op2 .add (.str [105, 102, 32]) (.str A) = some (.str y1)) (a2 : op2 .add (.str y1) (.str [32, 116, 104, 101, 110, 32]) = some (.str y2)) (a3 : op2 .add (.str y2) (.str B) = some (.str y3)) (a4 : op2 .add (.str y3) (.str [32, 101, 108, 115, 101, 32]) = some (.str y4)) (a5 : op2 .add (.str y4) (.str C) = some (.str y5)) : pR c (.tup [.str [105, 102], a, b, d]) y5 := by
  have q2 : op2 .in_ (.str [105, 102]) (.tup [.str [110, 117, 109], .str [110, 97, 109, 101]]) = some (.bool false) := rfl
  simp -implicitDefEqProofs [pR, b_plain, q2, k1, k2, k3, a1, a2, a3, a4, a5]
theorem pl_two {s : Nat} (k1 : ∀ env, callR c [112, 108, 97, 105, 110, 95, 116, 119, 111] [.tup [.str [116, 119, 111], .str [s], a, b]] ⟨env, []⟩ = .ok (.str A) ⟨env, []⟩) : pR c (.tup [.str [116, 119, 111], .str [s], a, b]) A := by
  have q2 : op2 .in_ (.str [116, 119, 111]) (.tup [.str [110, 117, 109], .str [110, 97, 109, 101]]) = some (.bool false) := rfl
  simp -implicitDefEqProofs [pR, b_plain, q2, k1]
theorem pl_pair (k1 : ∀ env, callR c [112, 108, 97, 105, 110] [a] ⟨env, []⟩ = .ok (.str A) ⟨env, []⟩) (k2 : ∀ env, callR c [112, 108, 97, 105, 110] [b] ⟨env, []⟩ = .ok (.str B) ⟨env, []⟩) (a1 : op2 .add (.str [40]) (.str A) = some (.str y1)) (a2 : op2 .add (.str y1) (.str [44, 32]) = some (.str y2)) (a3 : op2 .add (.str y2) (.str B) = some (.str y3)) (a4 : op2 .add (.str y3) (.str [41]) = some (.str y4)) : pR c (.tup [.str [112, 97, 105, 114], a, b]) y4 := by
  have q2 : op2 .in_ (.str [112, 97, 105, 114]) (.tup [.str [110, 117, 109], .str [110, 97, 109, 101]]) = some (.bool false) := rfl
  simp -implicitDefEqProofs [pR, b_plain, q2, k1, k2, a1, a2, a3, a4]
theorem pl_call (k1 : ∀ env, callR c [97, 116, 95, 108, 101, 118, 101, 108] [a, .int 7] ⟨env, []⟩ = .ok (.str A) ⟨env, []⟩) (k2 : ∀ env, callR c [97, 116, 95, 108, 101, 118, 101, 108] [b, .int 8] ⟨env, []⟩ = .ok (.str B) ⟨env, []⟩) (a1 : op2 .add (.str A) (.str [32]) = some (.str y1)) (a2 : op2 .add (.str y1) (.str B) = some (.str y2)) : pR c (.tup [.str [99, 97, 108, 108], a, b]) y2 := by
  have q2 : op2 .in_ (.str [99, 97, 108, 108]) (.tup [.str [110, 117, 109], .str [110, 97, 109, 101]]) = some (.bool false) := rfl
  have g1 : lookG gloL [67, 65, 76, 76, 69, 68] = some (.int 7) := rfl
  have g2 : lookG gloL [65, 76, 79, 78, 69] = some (.int 8) := rfl
  simp -implicitDefEqProofs [pR, b_plain, q2, k1, k2, a1, a2, g1, g2]
abbrev pcF (c : Oracle) := compF GG c [2] [] (.call [97, 116, 95, 108, 101, 118, 101, 108] [(.var 2), (.glb [65, 76, 79, 78, 69])])
theorem pl_word {w : Tx} (hw : w ∈ pwT) {ps r : List D} (hs : slice (.tup (.str w :: ps)) (some 1) Option.none = some (.tup ps)) (hc : compL (pcF c) ps [] ⟨[.d (.tup (.str w :: ps)), .d (.str w), .no], []⟩ = .ok r ⟨[.d (.tup (.str w :: ps)), .d (.str w), .no], []⟩) (ha : op2 .add (.lst [.str w]) (.lst r) = some (.lst (.str w :: r))) (hj : mop .join (.str [32]) [.lst (.str w :: r)] = some (.str y)) : pR c (.tup (.str w :: ps)) y := by
  obtain ⟨n0, n1, n2, n3, n4, n5, n6, n7⟩ := pwT_no w hw
  have q2 : op2 .in_ (.str w) (.tup [.str [110, 117, 109], .str [110, 97, 109, 101]]) = some (.bool false) := by
    have := @o2_inT w [[110, 117, 109], [110, 97, 109, 101]]
    rw [decide_eq_false n1] at this
    exact this
  have e2 : op2 .eq (.str w) (.str [102, 117, 110]) = some (.bool false) := by rw [o2_eqS n0 (by decide), n2]
  have e3 : op2 .eq (.str w) (.str [108, 101, 116]) = some (.bool false) := by rw [o2_eqS n0 (by decide), n3]
  have e4 : op2 .eq (.str w) (.str [105, 102]) = some (.bool false) := by rw [o2_eqS n0 (by decide), n4]
  have e5 : op2 .eq (.str w) (.str [116, 119, 111]) = some (.bool false) := by rw [o2_eqS n0 (by decide), n5]
  have e6 : op2 .eq (.str w) (.str [112, 97, 105, 114]) = some (.bool false) := by rw [o2_eqS n0 (by decide), n6]
  have e7 : op2 .eq (.str w) (.str [99, 97, 108, 108]) = some (.bool false) := by rw [o2_eqS n0 (by decide), n7]
  have ix : op2 .idx (.tup (.str w :: ps)) (.int 0) = some (.str w) := by
    have : at? (D.str w :: ps) ((0 : Nat) : Int) = some (.str w) := at_nat rfl
    exact this
  simp only [pcF] at hc
  simp -implicitDefEqProofs [pR, b_plain, ix, q2, e2, e3, e4, e5, e6, e7, hs, hc, ha, hj]
theorem pt_run {s : Nat} {k i1 i2 : Int} {b1 b2 : Bool} (h1 : op2 .idx g_LEVEL (.str [s]) = some (.int k)) (h2 : op2 .in_ (.str [s]) (.tup [.str [61], .str [60], .str [58]]) = some (.bool b1)) (h3 : op1 .int_ (.bool b1) = some (.int i1)) (h4 : op2 .ne (.str [s]) (.str [58]) = some (.bool b2)) (h5 : op1 .int_ (.bool b2) = some (.int i2)) (k1 : ∀ env, callR c [97, 116, 95, 108, 101, 118, 101, 108] [a, .int (k + i1)] ⟨env, []⟩ = .ok (.str A) ⟨env, []⟩) (k2 : ∀ env, callR c [97, 116, 95, 108, 101, 118, 101, 108] [b, .int (k + i2)] ⟨env, []⟩ = .ok (.str B) ⟨env, []⟩)
    (a1 : op2 .add (.str A) (.str [32]) = some (.str y1)) (a2 : op2 .add (.str y1) (.str [s]) = some (.str y2)) (a3 : op2 .add (.str y2) (.str [32]) = some (.str y3)) (a4 : op2 .add (.str y3) (.str B) = some (.str y4)) :
    rtv (exs GG c b_plain_two ⟨[.d (.tup [.str [116, 119, 111], .str [s], a, b]), .no, .no, .no], []⟩) = some (.str y4, false, []) := by
  have g : lookG gloL [76, 69, 86, 69, 76] = some g_LEVEL := rfl
  simp -implicitDefEqProofs [b_plain_two, g, h1, h2, h3, h4, h5, k1, k2, a1, a2, a3, a4]
theorem al_run {l m : Int} (k1 : ∀ env, callR c [108, 101, 118, 101, 108, 95, 111, 102] [a] ⟨env, []⟩ = .ok (.int m) ⟨env, []⟩) (k2 : ∀ env, callR c [112, 108, 97, 105, 110] [a] ⟨env, []⟩ = .ok (.str A) ⟨env, []⟩) (a1 : op2 .add (.str [40]) (.str A) = some (.str y1)) (a2 : op2 .add (.str y1) (.str [41]) = some (.str y2)) :
    rtv (exs GG c b_at_level ⟨[.d a, .d (.int l)], []⟩) = some (.str (if m < l then y2 else A), false, []) := by
  by_cases h : m < l
  · simp -implicitDefEqProofs [b_at_level, k1, k2, a1, a2, h]
  · simp -implicitDefEqProofs [b_at_level, k1, k2, h]
end
theorem ev_levelof {t : Tr} (h : t.ok) : Ev 1 [108, 101, 118, 101, 108, 95, 111, 102] [t.d] (.int (t.lv : Nat)) := by
  refine Ev.mk (p := 1) (k := 1) (b := b_level_of) rfl rfl fun m hm => ⟨[.d t.d], ?_⟩
  cases t with
  | num n => rfl
  | nm x => rfl
  | z w => cases w <;> rfl
  | fn x b => rfl
  | bd x a b => rfl
  | two s a b =>
    have hs := h.1
    simp only [signsT, List.mem_cons, List.not_mem_nil, or_false] at hs
    rcases hs with rfl | rfl | rfl | rfl | rfl | rfl | rfl | rfl <;> rfl
  | u w a => cases w <;> rfl
  | p w a b => cases w <;> rfl
  | t w a b c => cases w <;> rfl
end Fp
set_option linter.all false
set_option maxRecDepth 100000
set_option maxHeartbeats 1000000
namespace Fp
open Ft
/-! plain gives the text of the tokens as shown -/
theorem join_ok {xs : List D} {ys : List Tx} (h : sOf xs = some ys) (hl : (joinTx [32] ys).length + 1 ≤ LIM) : mop .join (.str [32]) [.lst xs] = some (.str (joinTx [32] ys)) := by
  simp only [mop, h, Option.bind_some]
  exact if_pos hl
theorem ev_al {N : Nat} (hN : 1 ≤ N) {t : Tr} (ok : t.ok) (hl : (txt (sh t)).length + 2 ≤ LIM) (h : Ev N [112, 108, 97, 105, 110] [t.d] (.str (txt (sh t)))) (l : Nat) : Ev (N + 1) [97, 116, 95, 108, 101, 118, 101, 108] [t.d, .int (l : Nat)] (.str (txt (atl t (sh t) l))) := by
  refine Ev.of (n := N) (p := 2) (k := 2) (b := b_at_level) rfl rfl fun m hm => ?_
  have r := al_run (l := (l : Nat)) (fun env => call_ok (ev_levelof ok m (by omega))) (fun env => call_ok (h m hm)) (o2_addS (x := [40]) (by simp; omega)) (o2_addS (y := [41]) (by simp; omega))
  have e : (if ((t.lv : Nat) : Int) < (l : Nat) then [40] ++ txt (sh t) ++ [41] else txt (sh t)) = txt (atl t (sh t) l) := by
    unfold atl
    by_cases q : t.lv < l
    · rw [if_pos (by omega), if_pos q, txt_br (sh_ends ok)]
    · rw [if_neg (by omega), if_neg q]
  rw [e] at r
  exact r
theorem sh_few {t : Tr} (ok : t.ok) (hs : t.size ≤ 300) : (txt (sh t)).length ≤ 16800 := by
  have := txt_len (sh_ok ok)
  have := sh_len t
  omega
theorem atl_few {t : Tr} (ok : t.ok) (hs : t.size ≤ 300) (l : Nat) : (txt (atl t (sh t) l)).length ≤ 16802 := by
  have := sh_few ok hs
  unfold atl
  split
  · rw [txt_br (sh_ends ok)]; simp; omega
  · omega
theorem tx_fn {x : Tx} {b : Tr} (hx : Nm x) (hb : b.ok) : txt (sh (.fn x b)) = [102, 117, 110, 32] ++ x ++ [32, 45, 62, 32] ++ txt (sh b) := by
  have eb := sh_ends hb
  obtain ⟨n1, n2, n3⟩ := nm_no hx.sm
  have e1 : Ends (tA :: sh b) := .cons (by decide) (by decide) eb
  have e2 : Ends (tN x :: tA :: sh b) := .cons n1 n2 e1
  rw [sh, txt_cons (by decide) e2, txt_cons n3 e1, txt_cons (by decide) eb]
  simp
theorem tx_bd {x : Tx} {a b : Tr} (hx : Nm x) (ha : a.ok) (hb : b.ok) : txt (sh (.bd x a b)) = [108, 101, 116, 32] ++ x ++ [32, 61, 32] ++ txt (sh a) ++ [32, 105, 110, 32] ++ txt (sh b) := by
  have ea := sh_ends ha
  have eb := sh_ends hb
  obtain ⟨n1, n2, n3⟩ := nm_no hx.sm
  have e1 : Ends (tS 61 :: sh a) := .cons (by decide) (by decide) ea
  have e2 : Ends (tN x :: tS 61 :: sh a) := .cons n1 n2 e1
  have e3 : Ends (tW [108, 101, 116] :: tN x :: tS 61 :: sh a) := .cons (by decide) (by decide) e2
  have e4 : Ends (tW [105, 110] :: sh b) := .cons (by decide) (by decide) eb
  rw [sh, txt_two e3 e4, txt_cons (by decide) e2, txt_cons n3 e1, txt_cons (by decide) ea, txt_cons (by decide) eb]
  simp
theorem tx_if {a b c : Tr} (ha : a.ok) (hb : b.ok) (hc : c.ok) : txt (sh (.t .cond a b c)) = [105, 102, 32] ++ txt (sh a) ++ [32, 116, 104, 101, 110, 32] ++ txt (sh b) ++ [32, 101, 108, 115, 101, 32] ++ txt (sh c) := by
  have ea := sh_ends ha
  have eb := sh_ends hb
  have ec := sh_ends hc
  have e1 : Ends (tW [105, 102] :: sh a) := .cons (by decide) (by decide) ea
  have e2 : Ends (tW [116, 104, 101, 110] :: sh b) := .cons (by decide) (by decide) eb
  have e3 : Ends (tW [101, 108, 115, 101] :: sh c) := .cons (by decide) (by decide) ec
  rw [sh, txt_two (e1.two e2) e3, txt_two e1 e2, txt_cons (by decide) ea, txt_cons (by decide) eb, txt_cons (by decide) ec]
  simp
theorem tx_two {s : Nat} {a b : Tr} (hs : s ∈ signsT) (ha : a.ok) (hb : b.ok) : txt (sh (.two s a b)) = txt (atl a (sh a) (lfS s)) ++ [32] ++ [s] ++ [32] ++ txt (atl b (sh b) (rtS s)) := by
  have ea := atl_ends (t := a) (l := lfS s) (sh_ends ha)
  have eb := atl_ends (t := b) (l := rtS s) (sh_ends hb)
  obtain ⟨n1, n2, n3⟩ := sg_no hs
  have e1 : Ends (tS s :: atl b (sh b) (rtS s)) := .cons n1 n2 eb
  rw [sh, txt_two ea e1, txt_cons n3 eb]
  simp
theorem tx_pair {a b : Tr} (ha : a.ok) (hb : b.ok) : txt (sh (.p .pair a b)) = [40] ++ txt (sh a) ++ [44, 32] ++ txt (sh b) ++ [41] := by
  have ea := sh_ends ha
  have eb := sh_ends hb
  have e : sh (.p .pair a b) = br (sh a ++ tS 44 :: sh b) := by simp [sh, br]
  have en : Ends (sh a ++ tS 44 :: sh b) := by
    have := ea.app eb [tS 44]
    simpa using this
  rw [e, txt_br en, txt_app ea.ne (by simp)]
  have j : jnt (sh a) (tS 44 :: sh b) = [] := by
    obtain ⟨t, r', e', _⟩ := ea.lst
    simp [jnt, e', sep]
  rw [j, txt_cons (by decide) eb]
  simp
theorem tx_call {a b : Tr} (ha : a.ok) (hb : b.ok) : txt (sh (.p .call a b)) = txt (atl a (sh a) 7) ++ [32] ++ txt (atl b (sh b) 8) := by
  rw [sh, txt_two (atl_ends (sh_ends ha)) (atl_ends (sh_ends hb))]
theorem ev_plain : ∀ (n : Nat) (t : Tr), t.dep ≤ n → t.ok → t.size ≤ 300 → Ev (3 * n) [112, 108, 97, 105, 110] [t.d] (.str (txt (sh t)))
  | 0, t, hn, _, _ => absurd hn (by have := t.dep_pos; omega)
  | n + 1, t, hn, ok, hs => by
    have LL := lim_big
    have ss : t.size = 1 + sumS t.parts := t.size_eq
    have qs : ∀ q ∈ t.parts, q.size ≤ 300 := fun q hq => by
      have : q.size ≤ sumS t.parts := le_sum_mem (List.mem_map.mpr ⟨q, hq, rfl⟩)
      omega
    have ih : ∀ q ∈ t.parts, Ev (3 * n) [112, 108, 97, 105, 110] [q.d] (.str (txt (sh q))) := fun q hq => ev_plain n q (by have := Tr.parts_dep q hq; omega) (Tr.parts_ok ok q hq) (qs q hq)
    have ln : ∀ q ∈ t.parts, (txt (sh q)).length ≤ 16800 := fun q hq => sh_few (Tr.parts_ok ok q hq) (qs q hq)
    have la : ∀ q ∈ t.parts, ∀ l, (txt (atl q (sh q) l)).length ≤ 16802 := fun q hq l => atl_few (Tr.parts_ok ok q hq) (qs q hq) l
    have n1 : ∀ q ∈ t.parts, 1 ≤ 3 * n := fun q hq => by have := Tr.parts_dep q hq; have := q.dep_pos; omega
    have al : ∀ q ∈ t.parts, ∀ l : Nat, Ev (3 * n + 1) [97, 116, 95, 108, 101, 118, 101, 108] [q.d, .int (l : Nat)] (.str (txt (atl q (sh q) l))) := fun q hq l => ev_al (n1 q hq) (Tr.parts_ok ok q hq) (by have := ln q hq; omega) (ih q hq) l
    refine Ev.of (n := 3 * n + 2) (p := 1) (k := 3) (b := b_plain) rfl rfl fun m hm => ?_
    have k1 : ∀ q ∈ t.parts, ∀ env, callR (run GG TT m) [112, 108, 97, 105, 110] [q.d] ⟨env, []⟩ = .ok (.str (txt (sh q))) ⟨env, []⟩ := fun q hq env => call_ok (ih q hq m (by omega))
    have k2 : ∀ q ∈ t.parts, ∀ (l : Nat) env, callR (run GG TT m) [97, 116, 95, 108, 101, 118, 101, 108] [q.d, .int (l : Nat)] ⟨env, []⟩ = .ok (.str (txt (atl q (sh q) l))) ⟨env, []⟩ := fun q hq l env => call_ok (al q hq l m (by omega))
    cases t with
    | num i =>
      have e : op1 .str_ (.int i) = some (.str (decN i.toNat)) := by
        have h1 := ok.1
        have h2 := ok.2
        simp only [op1]
        rw [if_pos ⟨h1, by omega⟩]
      exact pl_num e
    | nm x => exact pl_name
    | z w =>
      have j := join_ok (xs := [.str w.tx]) (ys := [w.tx]) rfl (by cases w <;> decide)
      exact pl_word (w := w.tx) (ps := []) (r := []) (by cases w <;> decide) rfl rfl rfl j
    | fn x b =>
      have l1 := ln b (by simp [Tr.parts])
      have lx := ok.1.few
      rw [tx_fn ok.1 ok.2]
      exact pl_fun (k1 b (by simp [Tr.parts])) (o2_addS (by simp; omega)) (o2_addS (by simp; omega)) (o2_addS (by simp; omega))
    | bd x a b =>
      have l1 := ln a (by simp [Tr.parts])
      have l2 := ln b (by simp [Tr.parts])
      have lx := ok.1.few
      rw [tx_bd ok.1 ok.2.1 ok.2.2]
      exact pl_let (k1 a (by simp [Tr.parts])) (k1 b (by simp [Tr.parts])) (o2_addS (by simp; omega)) (o2_addS (by simp; omega)) (o2_addS (by simp; omega)) (o2_addS (by simp; omega)) (o2_addS (by simp; omega))
    | two s a b =>
      have l1 := la a (by simp [Tr.parts]) (lfS s)
      have l2 := la b (by simp [Tr.parts]) (rtS s)
      have pt : Ev (3 * n + 2) [112, 108, 97, 105, 110, 95, 116, 119, 111] [(Tr.two s a b).d] (.str (txt (sh (.two s a b)))) := by
        rw [tx_two ok.1 ok.2.1 ok.2.2]
        refine Ev.of (n := 3 * n + 1) (p := 1) (k := 4) (b := b_plain_two) rfl rfl fun m hm => ?_
        have a1 := al a (by simp [Tr.parts]) (lfS s)
        have a2 := al b (by simp [Tr.parts]) (rtS s)
        have s1 : op2 .add (.str (txt (atl a (sh a) (lfS s)))) (.str [32]) = some (.str (txt (atl a (sh a) (lfS s)) ++ [32])) := o2_addS (by simp; omega)
        have s2 : op2 .add (.str (txt (atl a (sh a) (lfS s)) ++ [32])) (.str [s]) = some (.str (txt (atl a (sh a) (lfS s)) ++ [32] ++ [s])) := o2_addS (by simp; omega)
        have s3 : op2 .add (.str (txt (atl a (sh a) (lfS s)) ++ [32] ++ [s])) (.str [32]) = some (.str (txt (atl a (sh a) (lfS s)) ++ [32] ++ [s] ++ [32])) := o2_addS (by simp; omega)
        have s4 : op2 .add (.str (txt (atl a (sh a) (lfS s)) ++ [32] ++ [s] ++ [32])) (.str (txt (atl b (sh b) (rtS s)))) = some (.str (txt (atl a (sh a) (lfS s)) ++ [32] ++ [s] ++ [32] ++ txt (atl b (sh b) (rtS s)))) := o2_addS (by simp; omega)
        have hs := ok.1
        simp only [signsT, List.mem_cons, List.not_mem_nil, or_false] at hs
        rcases hs with rfl | rfl | rfl | rfl | rfl | rfl | rfl | rfl <;> exact pt_run rfl rfl rfl rfl rfl (fun env => call_ok (a1 m hm)) (fun env => call_ok (a2 m hm)) s1 s2 s3 s4
      exact pl_two fun env => call_ok (pt m (by omega))
    | u w a =>
      have l1 := la a (by simp [Tr.parts]) 8
      have e : txt (sh (.u w a)) = joinTx [32] [w.tx, txt (atl a (sh a) 8)] := by
        rw [sh, txt_cons (w1_no w).2.2 (atl_ends (sh_ends (t := a) ok))]; rfl
      have wl : w.tx.length ≤ 6 := by cases w <;> decide
      rw [e]
      have j := join_ok (xs := [.str w.tx, .str (txt (atl a (sh a) 8))]) (ys := [w.tx, txt (atl a (sh a) 8)]) rfl (by simp [joinTx]; omega)
      have g2 : lookG gloL [65, 76, 79, 78, 69] = some (.int 8) := rfl
      have c1 := k2 a (by simp [Tr.parts]) 8
      refine pl_word (w := w.tx) (ps := [a.d]) (r := [.str (txt (atl a (sh a) 8))]) (by cases w <;> decide) rfl ?_ rfl j
      have l0 : 0 < LIM := by omega
      generalize txt (atl a (sh a) 8) = Y at *
      have c1 : ∀ env, callR (run GG TT m) [97, 116, 95, 108, 101, 118, 101, 108] [a.d, .int 8] ⟨env, []⟩ = .ok (.str Y) ⟨env, []⟩ := c1
      simp -implicitDefEqProofs [pcF, compL, c1, g2, l0]
    | p w a b =>
      cases w with
      | call =>
        have l1 := la a (by simp [Tr.parts]) 7
        have l2 := la b (by simp [Tr.parts]) 8
        rw [tx_call ok.1 ok.2]
        exact pl_call (k2 a (by simp [Tr.parts]) 7) (k2 b (by simp [Tr.parts]) 8) (o2_addS (by simp; omega)) (o2_addS (by simp; omega))
      | pair =>
        have l1 := ln a (by simp [Tr.parts])
        have l2 := ln b (by simp [Tr.parts])
        rw [tx_pair ok.1 ok.2]
        exact pl_pair (k1 a (by simp [Tr.parts])) (k1 b (by simp [Tr.parts])) (o2_addS (by simp; omega)) (o2_addS (by simp; omega)) (o2_addS (by simp; omega)) (o2_addS (by simp; omega))
    | t w a b d =>
      have l1 := ln a (by simp [Tr.parts])
      have l2 := ln b (by simp [Tr.parts])
      have l3 := ln d (by simp [Tr.parts])
      have m1 := la a (by simp [Tr.parts]) 8
      have m2 := la b (by simp [Tr.parts]) 8
      have m3 := la d (by simp [Tr.parts]) 8
      have three : ∀ w : W3, w ≠ .cond → pR (run GG TT m) (.tup [.str w.tx, a.d, b.d, d.d]) (txt (tW w.tx :: atl a (sh a) 8 ++ atl b (sh b) 8 ++ atl d (sh d) 8)) := fun w hw => by
        have ea := atl_ends (t := a) (l := 8) (sh_ends ok.1)
        have eb := atl_ends (t := b) (l := 8) (sh_ends ok.2.1)
        have ed := atl_ends (t := d) (l := 8) (sh_ends ok.2.2)
        have e0 : Ends (tW w.tx :: atl a (sh a) 8) := .cons (w3_no w).1 (w3_no w).2.1 ea
        have e : txt (tW w.tx :: atl a (sh a) 8 ++ atl b (sh b) 8 ++ atl d (sh d) 8) = joinTx [32] [w.tx, txt (atl a (sh a) 8), txt (atl b (sh b) 8), txt (atl d (sh d) 8)] := by
          rw [txt_two (e0.two eb) ed, txt_two e0 eb, txt_cons (w3_no w).2.2 ea]
          simp [joinTx]
        have wl : w.tx.length ≤ 6 := by cases w <;> decide
        rw [e]
        have j := join_ok (xs := [.str w.tx, .str (txt (atl a (sh a) 8)), .str (txt (atl b (sh b) 8)), .str (txt (atl d (sh d) 8))]) (ys := [w.tx, txt (atl a (sh a) 8), txt (atl b (sh b) 8), txt (atl d (sh d) 8)]) rfl (by simp [joinTx]; omega)
        have g2 : lookG gloL [65, 76, 79, 78, 69] = some (.int 8) := rfl
        have c1 := k2 a (by simp [Tr.parts]) 8
        have c2 := k2 b (by simp [Tr.parts]) 8
        have c3 := k2 d (by simp [Tr.parts]) 8
        refine pl_word (w := w.tx) (ps := [a.d, b.d, d.d]) (r := [.str (txt (atl a (sh a) 8)), .str (txt (atl b (sh b) 8)), .str (txt (atl d (sh d) 8))]) (by cases w <;> first | decide | exact absurd rfl hw) rfl ?_ rfl j
        have l0 : 0 < LIM := by omega
        have l1 : 1 < LIM := by omega
        have l2 : 2 < LIM := by omega
        generalize txt (atl a (sh a) 8) = Y at *
        generalize txt (atl b (sh b) 8) = Z at *
        generalize txt (atl d (sh d) 8) = U at *
        have c1 : ∀ env, callR (run GG TT m) [97, 116, 95, 108, 101, 118, 101, 108] [a.d, .int 8] ⟨env, []⟩ = .ok (.str Y) ⟨env, []⟩ := c1
        have c2 : ∀ env, callR (run GG TT m) [97, 116, 95, 108, 101, 118, 101, 108] [b.d, .int 8] ⟨env, []⟩ = .ok (.str Z) ⟨env, []⟩ := c2
        have c3 : ∀ env, callR (run GG TT m) [97, 116, 95, 108, 101, 118, 101, 108] [d.d, .int 8] ⟨env, []⟩ = .ok (.str U) ⟨env, []⟩ := c3
        simp -implicitDefEqProofs [pcF, compL, c1, c2, c3, g2, l0, l1, l2]
      cases w with
      | cond =>
        rw [tx_if ok.1 ok.2.1 ok.2.2]
        exact pl_if (k1 a (by simp [Tr.parts])) (k1 b (by simp [Tr.parts])) (k1 d (by simp [Tr.parts])) (o2_addS (by simp; omega)) (o2_addS (by simp; omega)) (o2_addS (by simp; omega)) (o2_addS (by simp; omega)) (o2_addS (by simp; omega))
      | fold => exact three .fold (by simp)
      | times => exact three .times (by simp)
end Fp
set_option linter.all false
set_option maxRecDepth 100000
set_option maxHeartbeats 1000000
namespace Fp
open Ft
def Tr.dW (t : Tr) (ds : List D) : D := .tup (t.pre ++ ds)
theorem Tr.dW_d (t : Tr) : t.dW (t.parts.map Tr.d) = t.d := t.d_eq.symm
theorem ev_partsW (t : Tr) (ds : List D) (h : ds.length = t.parts.length) : Ev 1 [112, 97, 114, 116, 115, 95, 111, 102] [t.dW ds] (.lst ds) := by
  refine Ev.of (n := 0) (p := 1) (k := 1) (b := b_parts_of) rfl rfl fun m hm => ?_
  cases t with
  | num n => match ds, h with | [], _ => rfl
  | nm x => match ds, h with | [], _ => rfl
  | z w => match ds, h with | [], _ => cases w <;> rfl
  | fn x b => match ds, h with | [_], _ => rfl
  | bd x a b => match ds, h with | [_, _], _ => rfl
  | two s a b => match ds, h with | [_, _], _ => rfl
  | u w a => match ds, h with | [_], _ => cases w <;> rfl
  | p w a b => match ds, h with | [_, _], _ => cases w <;> rfl
  | t w a b c => match ds, h with | [_, _, _], _ => cases w <;> rfl
theorem ev_lookW {t : Tr} (h : t.ok) (ds : List D) (hl : ds.length = t.parts.length) : Ev 2 [104, 97, 115, 95, 108, 111, 111, 107] [t.dW ds] (.bool true) := by
  refine Ev.of (n := 1) (p := 1) (k := 2) (b := b_has_look) rfl rfl fun m hm => ?_
  have gI : lookG gloL [73, 78, 78, 69, 82] = some g_INNER := rfl
  have gP : lookG gloL [80, 82, 73, 77, 69] = some (.int 9973) := rfl
  have gS : lookG gloL [83, 73, 71, 78, 83] = some (.tup ((signsT.map fun c => [c]).map .str)) := rfl
  cases t with
  | num n => match ds, hl with
    | [], _ =>
      have c := fun (env : List Sl) => call_ok (env := env) (ev_within n 0 9972 h.1 h.2 m hm)
      simp only [Tr.dW, Tr.pre, List.append_nil]
      simp -implicitDefEqProofs [b_has_look, gI, gP, g_INNER, look, c]
  | nm x => match ds, hl with
    | [], _ =>
      have c := fun (env : List Sl) => call_ok (env := env) (ev_name h m hm)
      simp only [Tr.dW, Tr.pre, List.append_nil]
      simp -implicitDefEqProofs [b_has_look, gI, gP, g_INNER, look, c]
  | z w => match ds, hl with | [], _ => cases w <;> rfl
  | fn x b => match ds, hl with
    | [e1], _ =>
      have c := fun (env : List Sl) => call_ok (env := env) (ev_name h.1 m hm)
      simp only [Tr.dW, Tr.pre, List.cons_append, List.nil_append]
      simp -implicitDefEqProofs [b_has_look, gI, gP, g_INNER, look, c]
  | bd x a b => match ds, hl with
    | [e1, e2], _ =>
      have c := fun (env : List Sl) => call_ok (env := env) (ev_name h.1 m hm)
      simp only [Tr.dW, Tr.pre, List.cons_append, List.nil_append]
      simp -implicitDefEqProofs [b_has_look, gI, gP, g_INNER, look, c]
  | two s a b => match ds, hl with
    | [e1, e2], _ =>
      have hs : [s] ∈ signsT.map fun c => [c] := List.mem_map.mpr ⟨s, h.1, rfl⟩
      simp only [Tr.dW, Tr.pre, List.cons_append, List.nil_append]
      have e : op2 .in_ (.str [s]) (.tup ((signsT.map fun c => [c]).map .str)) = some (.bool true) := by rw [o2_inT, decide_eq_true hs]
      simp only [List.map_map] at e gS
      simp -implicitDefEqProofs [b_has_look, gI, gP, gS, g_INNER, look, e]
  | u w a => match ds, hl with | [_], _ => cases w <;> rfl
  | p w a b => match ds, hl with | [_, _], _ => cases w <;> rfl
  | t w a b c => match ds, hl with | [_, _, _], _ => cases w <;> rfl
/-- what has no look of a program -/
def NL (x : D) : Prop := Ev 2 [104, 97, 115, 95, 108, 111, 111, 107] [x] (.bool false)
/-- what is none, by the count -/
def BadT (n s : Nat) (x : D) : Prop := ∀ l : Int, (s : Int) ≤ l → Ev n [99, 111, 117, 110, 116, 101, 100] [x, .int l] (.int (-1))
theorem BadT.le {n m s r : Nat} {x : D} (h : BadT n s x) (q : n ≤ m) (k : s ≤ r) : BadT m r x := fun l hl => (h l (by omega)).lift q
theorem NL.bad {x : D} (h : NL x) : BadT 3 0 x := fun l hl => by
  refine Ev.of (n := 2) (p := 2) (k := 3) (b := b_counted) rfl rfl fun m hm => ?_
  have c1 := fun (env : List Sl) => call_ok (env := env) (h m hm)
  by_cases e : l = 0
  · simp -implicitDefEqProofs [b_counted, c1, e]
  · simp -implicitDefEqProofs [b_counted, c1, e]
def bodyC : List Sm := [.asg 1 (.call [99, 111, 117, 110, 116, 101, 100] [.var 2, .var 1]), .iff (.bi .lt (.var 1) (.cst (.int 0))) [.ret (.un .neg (.cst (.int 1)))] []]
theorem loop_cbad {c : Oracle} (x0 : Sl) (x : D) (s : Nat) (rest : List D) (hx : ∀ l : Int, (s : Int) ≤ l → c [99, 111, 117, 110, 116, 101, 100] [x, .int l] [] = .ok (.int (-1)) false []) : ∀ (qs : List Tr) (left : Int) (x2 : Sl), (∀ q ∈ qs, ∀ l : Int, (q.size : Int) ≤ l → c [99, 111, 117, 110, 116, 101, 100] [q.d, .int l] [] = .ok (.int (l - q.size)) false []) → (sumS qs + s : Int) ≤ left →
    ∃ e, forL (forF GG c [2] bodyC) (qs.map Tr.d ++ x :: rest) ⟨[x0, .d (.int left), x2], []⟩ = .rt (.int (-1)) false ⟨e, []⟩
  | [], left, x2, _, hl => by
    have c1 := call_ok (env := [x0, .d (.int left), .d x]) (hx left (by simp [sumS] at hl; omega))
    refine ⟨[x0, .d (.int (-1)), .d x], ?_⟩
    simp -implicitDefEqProofs [bodyC, c1]
  | q :: qs, left, x2, h, hl => by
    have e : sumS (q :: qs) = q.size + sumS qs := by simp [sumS]
    rw [e] at hl
    have h1 := h q List.mem_cons_self left (by omega)
    have c1 := call_ok (env := [x0, .d (.int left), .d q.d]) h1
    obtain ⟨y, ih⟩ := loop_cbad x0 x s rest hx qs (left - q.size) (.d q.d) (fun r hr => h r (List.mem_cons_of_mem _ hr)) (by omega)
    refine ⟨y, ?_⟩
    have p1 : ¬ (left - (q.size : Int) < 0) := by omega
    rw [List.map_cons, List.cons_append, forL_cons, ← ih]
    simp -implicitDefEqProofs [bodyC, c1, p1]
theorem sumS_append (a b : List Tr) : sumS (a ++ b) = sumS a + sumS b := by simp [sumS]
theorem sumS_cons (q : Tr) (b : List Tr) : sumS (q :: b) = q.size + sumS b := by simp [sumS]
theorem node_bad (n : Nat) {t : Tr} (ht : t.ok) (hd : t.dep ≤ n + 1) (as : List Tr) (q : Tr) (bs : List Tr) (e : t.parts = as ++ q :: bs) (x : D) (hx : BadT (n + 2) q.size x) : BadT (n + 3) t.size (t.dW (as.map Tr.d ++ x :: bs.map Tr.d)) := fun l hl => by
  have ss : t.size = 1 + sumS t.parts := t.size_eq
  rw [e, sumS_append, sumS_cons] at ss
  have len : (as.map Tr.d ++ x :: bs.map Tr.d).length = t.parts.length := by rw [e]; simp
  refine Ev.of (n := n + 2) (p := 2) (k := 3) (b := b_counted) rfl rfl fun m hm => ?_
  have c1 := fun (env : List Sl) => call_ok (env := env) (ev_lookW ht _ len m (by omega))
  have c2 := fun (env : List Sl) => call_ok (env := env) (ev_partsW t _ len m (by omega))
  obtain ⟨y, lp⟩ := loop_cbad (c := run GG TT m) (.d (t.dW (as.map Tr.d ++ x :: bs.map Tr.d))) x q.size (bs.map Tr.d) (fun l hl => hx l hl m hm) as (l - 1) .no (fun r hr k hk => by
    have mem : r ∈ t.parts := by rw [e]; simp [hr]
    exact ev_counted n r (by have := Tr.parts_dep r mem; omega) (Tr.parts_ok ht r mem) k hk m hm) (by omega)
  have p1 : ¬ l = 0 := by omega
  generalize as.map Tr.d ++ x :: bs.map Tr.d = ds at *
  unfold bodyC at lp
  simp -implicitDefEqProofs [b_counted, c1, c2, p1, lp]
end Fp
set_option linter.all false
set_option maxRecDepth 100000
set_option maxHeartbeats 1000000
namespace Fp
open Ft
def one (w : Tx) : D := .tup [.str w]
/-- the code of a program -/
def Tr.code : Tr → List Tx → List D
  | .num n, _ => [.tup [.str [110, 117, 109], .int n]]
  | .z w, _ => [one w.tx]
  | .nm x, ns => [.tup [.str [116, 97, 107, 101], .int (posT x ns.reverse)]]
  | .fn x b, ns => [.tup [.str [102, 117, 110], .tup (b.code (ns ++ [x]))]]
  | .bd x a b, ns => a.code ns ++ [one [107, 101, 101, 112]] ++ b.code (ns ++ [x]) ++ [one [100, 114, 111, 112]]
  | .two s a b, ns => a.code ns ++ b.code ns ++ [.tup [.str [116, 119, 111], .str [s]]]
  | .u w a, ns => a.code ns ++ [one w.tx]
  | .p w a b, ns => a.code ns ++ b.code ns ++ [one w.tx]
  | .t .cond a b c, ns => a.code ns ++ [.tup [.str [105, 102], .tup (b.code ns), .tup (c.code ns)]]
  | .t .fold a b c, ns => a.code ns ++ b.code ns ++ c.code ns ++ [one W3.fold.tx]
  | .t .times a b c, ns => a.code ns ++ b.code ns ++ c.code ns ++ [one W3.times.tx]
theorem code_len : ∀ (t : Tr) (ns : List Tx), (t.code ns).length ≤ 2 * t.size
  | .num n, ns => by simp [Tr.code, Tr.size]
  | .z w, ns => by simp [Tr.code, Tr.size]
  | .nm x, ns => by simp [Tr.code, Tr.size]
  | .fn x b, ns => by simp [Tr.code, Tr.size]; omega
  | .bd x a b, ns => by have := code_len a ns; have := code_len b (ns ++ [x]); simp [Tr.code, Tr.size]; omega
  | .two s a b, ns => by have := code_len a ns; have := code_len b ns; simp [Tr.code, Tr.size]; omega
  | .u w a, ns => by have := code_len a ns; simp [Tr.code, Tr.size]; omega
  | .p w a b, ns => by have := code_len a ns; have := code_len b ns; simp [Tr.code, Tr.size]; omega
  | .t .cond a b c, ns => by have := code_len a ns; simp [Tr.code, Tr.size]; omega
  | .t .fold a b c, ns => by have := code_len a ns; have := code_len b ns; have := code_len c ns; simp [Tr.code, Tr.size]; omega
  | .t .times a b c, ns => by have := code_len a ns; have := code_len b ns; have := code_len c ns; simp [Tr.code, Tr.size]; omega
theorem o2_addT {x y : List D} (h : x.length + y.length ≤ LIM) : op2 .add (.tup x) (.tup y) = some (.tup (x ++ y)) := by simp only [op2, h, if_true]
theorem ev_place {x : Tx} {ns : List Tx} (h : x ∈ ns) : Ev 1 [112, 108, 97, 99, 101, 95, 105, 110] [.lst (ns.map .str), .str x] (.int (posT x ns.reverse)) := by
  refine Ev.of (n := 0) (p := 2) (k := 2) (b := b_place_in) rfl rfl fun m hm => ?_
  have e := mop_index (x := x) (l := ns.reverse) (by simpa using h)
  rw [List.map_reverse] at e
  try generalize run GG TT m = cO at *
  simp -implicitDefEqProofs [b_place_in, e]
/-- the free names stand around -/
def ClT (t : Tr) (ns : List Tx) : Prop := ∀ y ∈ t.free, y ∈ ns
theorem ClT.fn {x : Tx} {b : Tr} {ns : List Tx} (h : ClT (.fn x b) ns) : ClT b (ns ++ [x]) := fun y hy => by
  by_cases e : x = y
  · simp [e]
  · have := h y (by simp only [Tr.free, putF_mem]; exact .inr ⟨hy, by simpa using e⟩)
    simp [this]
theorem ClT.bd {x : Tx} {a b : Tr} {ns : List Tx} (h : ClT (.bd x a b) ns) : ClT a ns ∧ ClT b (ns ++ [x]) := ⟨fun y hy => h y (by simp only [Tr.free, putF_mem]; exact .inl (.inr ⟨hy, by simp⟩)), fun y hy => by
  by_cases e : x = y
  · simp [e]
  · have := h y (by simp only [Tr.free, putF_mem]; exact .inr ⟨hy, by simpa using e⟩)
    simp [this]⟩
theorem ClT.two {s : Nat} {a b : Tr} {ns : List Tx} (h : ClT (.two s a b) ns) : ClT a ns ∧ ClT b ns := ⟨fun y hy => h y (by simp only [Tr.free, putF_mem]; exact .inl (.inr ⟨hy, by simp⟩)), fun y hy => h y (by simp only [Tr.free, putF_mem]; exact .inr ⟨hy, by simp⟩)⟩
theorem ClT.u {w : W1} {a : Tr} {ns : List Tx} (h : ClT (.u w a) ns) : ClT a ns := fun y hy => h y (by simp only [Tr.free, putF_mem]; exact .inr ⟨hy, by simp⟩)
theorem ClT.p {w : W2} {a b : Tr} {ns : List Tx} (h : ClT (.p w a b) ns) : ClT a ns ∧ ClT b ns := ⟨fun y hy => h y (by simp only [Tr.free, putF_mem]; exact .inl (.inr ⟨hy, by simp⟩)), fun y hy => h y (by simp only [Tr.free, putF_mem]; exact .inr ⟨hy, by simp⟩)⟩
theorem ClT.t {w : W3} {a b c : Tr} {ns : List Tx} (h : ClT (.t w a b c) ns) : ClT a ns ∧ ClT b ns ∧ ClT c ns := ⟨fun y hy => h y (by simp only [Tr.free, putF_mem]; exact .inl (.inl (.inr ⟨hy, by simp⟩))), fun y hy => h y (by simp only [Tr.free, putF_mem]; exact .inl (.inr ⟨hy, by simp⟩)), fun y hy => h y (by simp only [Tr.free, putF_mem]; exact .inr ⟨hy, by simp⟩)⟩
def bodyD : List Sm := [.asg 3 (.bi .add (.var 3) (.call [99, 111, 100, 101, 95, 105, 110] [.var 4, .var 1]))]
theorem loop_code {c : Oracle} {ns : List Tx} (x0 x2 : Sl) : ∀ (qs : List Tr) (acc : List D) (x4 : Sl), (∀ q ∈ qs, c [99, 111, 100, 101, 95, 105, 110] [q.d, .lst (ns.map .str)] [] = .ok (.tup (q.code ns)) false []) → acc.length + 2 * sumS qs ≤ 10000 →
    ∃ y, forL (forF GG c [4] bodyD) (qs.map Tr.d) ⟨[x0, .d (.lst (ns.map .str)), x2, .d (.tup acc), x4], []⟩ = .nx ⟨[x0, .d (.lst (ns.map .str)), x2, .d (.tup (acc ++ qs.flatMap fun q => q.code ns)), y], []⟩
  | [], acc, x4, _, _ => ⟨x4, by simp [forL_nil]⟩
  | q :: qs, acc, x4, h, hl => by
    have e : sumS (q :: qs) = q.size + sumS qs := by simp [sumS]
    rw [e] at hl
    have l1 := code_len q ns
    have c1 := fun (env : List Sl) => call_ok (env := env) (h q List.mem_cons_self)
    obtain ⟨y, ih⟩ := loop_code x0 x2 qs (acc ++ q.code ns) (.d q.d) (fun r hr => h r (List.mem_cons_of_mem _ hr)) (by rw [List.length_append]; omega)
    refine ⟨y, ?_⟩
    rw [List.map_cons, forL_cons, List.flatMap_cons, ← List.append_assoc, ← ih]
    have a1 := o2_addT (x := acc) (y := q.code ns) (by unfold LIM; omega)
    try generalize run GG TT m = cO at *
    simp -implicitDefEqProofs [bodyD, c1, a1]
theorem in_leaf (w : Tx) : op2 .in_ (.str w) (.tup [.str [121, 101, 115], .str [110, 111], .str [101, 109, 112, 116, 121]]) = some (.bool (decide (w ∈ [[121, 101, 115], [110, 111], [101, 109, 112, 116, 121]]))) := o2_inT (ws := [[121, 101, 115], [110, 111], [101, 109, 112, 116, 121]])
theorem ev_code : ∀ (n : Nat) (t : Tr) (ns : List Tx), t.dep ≤ n → t.ok → t.size ≤ 300 → ClT t ns → ns.length + n ≤ 1000 → Ev (n + 1) [99, 111, 100, 101, 95, 105, 110] [t.d, .lst (ns.map .str)] (.tup (t.code ns))
  | 0, t, _, hn, _, _, _, _ => absurd hn (by have := t.dep_pos; omega)
  | n + 1, t, ns, hn, ht, hs, hc, hl => by
    refine Ev.of (n := n + 1) (p := 2) (k := 5) (b := b_code_in) rfl rfl fun m hm => ?_
    have sz : ∀ q ∈ t.parts, q.size ≤ 300 := fun q hq => by
      have : q.size ≤ sumS t.parts := le_sum_mem (List.mem_map.mpr ⟨q, hq, rfl⟩)
      have s2 : t.size = 1 + sumS t.parts := t.size_eq
      omega
    have ih : ∀ q ∈ t.parts, ∀ ns', ClT q ns' → ns'.length ≤ ns.length + 1 → run GG TT m [99, 111, 100, 101, 95, 105, 110] [q.d, .lst (ns'.map .str)] [] = .ok (.tup (q.code ns')) false [] := fun q hq ns' h1 h2 => by
      have := Tr.parts_dep q hq
      exact ev_code n q ns' (by omega) (Tr.parts_ok ht q hq) (sz q hq) h1 (by omega) m hm
    have other : ∀ (w : Tx) (rest : List D), t.pre ++ t.parts.map Tr.d = .str w :: rest → plainT w → w ∉ [[110, 117, 109], [121, 101, 115], [110, 111], [101, 109, 112, 116, 121], [110, 97, 109, 101], [102, 117, 110], [108, 101, 116], [105, 102]] → (∀ q ∈ t.parts, ClT q ns) →
        (((w == [116, 119, 111]) = true ∧ ∃ s r, rest = .str [s] :: r ∧ t.code ns = (t.parts.flatMap fun q => q.code ns) ++ [.tup [.str [116, 119, 111], .str [s]]]) ∨ ((w == [116, 119, 111]) = false ∧ t.code ns = (t.parts.flatMap fun q => q.code ns) ++ [one w])) →
        rtv (exs GG (run GG TT m) b_code_in ⟨List.map Sl.d [t.d, .lst (ns.map .str)] ++ List.replicate (5 - 2) Sl.no, []⟩) = some (.tup (t.code ns), false, []) := fun w rest hd hw hno hcl hcase => by
      have s2 : t.size = 1 + sumS t.parts := t.size_eq
      simp only [List.mem_cons, List.not_mem_nil, or_false, not_or] at hno
      obtain ⟨n1, n2, n3, n4, n5, n6, n7, n8⟩ := hno
      have eqf : ∀ z : Tx, plainT z → w ≠ z → op2 .eq (.str w) (.str z) = some (.bool false) := fun z hz hne => by rw [o2_eqS hw hz]; simp [hne]
      have e1 := eqf [110, 117, 109] (by decide) n1
      have e2 := eqf [110, 97, 109, 101] (by decide) n5
      have e3 := eqf [102, 117, 110] (by decide) n6
      have e4 := eqf [108, 101, 116] (by decide) n7
      have e5 := eqf [105, 102] (by decide) n8
      have e6 : op2 .in_ (.str w) (.tup [.str [121, 101, 115], .str [110, 111], .str [101, 109, 112, 116, 121]]) = some (.bool false) := by rw [in_leaf]; simp [n2, n3, n4]
      have e7 : op2 .eq (.str w) (.str [116, 119, 111]) = some (.bool (w == [116, 119, 111])) := o2_eqS hw (by decide)
      have i0 : op2 .idx t.d (.int 0) = some (.str w) := by rw [t.d_eq, hd]; exact at_0
      obtain ⟨y, lp⟩ := loop_code (c := run GG TT m) (ns := ns) (.d t.d) (.d (.str w)) t.parts [] .no (fun q hq => ih q hq ns (hcl q hq) (by omega)) (by simp; omega)
      have c1 := fun (env : List Sl) => call_ok (env := env) (ev_parts t m (by omega))
      have ll := code_len t ns
      rw [List.nil_append] at lp
      unfold bodyD at lp
      rcases hcase with ⟨h2, s, r, er, hcd⟩ | ⟨h2, hcd⟩
      · have i1 : op2 .idx t.d (.int 1) = some (.str [s]) := by rw [t.d_eq, hd, er]; exact at_1
        have a1 := o2_addT (x := t.parts.flatMap fun q => q.code ns) (y := [.tup [.str [116, 119, 111], .str [s]]]) (by rw [hcd] at ll; simp [LIM] at ll ⊢; omega)
        rw [hcd]
        rw [h2] at e7
        generalize (t.parts.flatMap fun q => q.code ns) = Y at *
        generalize t.parts.map Tr.d = Z at *
        generalize t.d = td at *
        try generalize run GG TT m = cO at *
        simp -implicitDefEqProofs [b_code_in, i0, i1, e1, e2, e3, e4, e5, e6, e7, c1, lp, a1]
      · have a1 := o2_addT (x := t.parts.flatMap fun q => q.code ns) (y := [one w]) (by rw [hcd] at ll; simp [LIM] at ll ⊢; omega)
        rw [hcd]
        rw [h2] at e7
        unfold one at a1 ⊢
        generalize (t.parts.flatMap fun q => q.code ns) = Y at *
        generalize t.parts.map Tr.d = Z at *
        generalize t.d = td at *
        try generalize run GG TT m = cO at *
        simp -implicitDefEqProofs [b_code_in, i0, e1, e2, e3, e4, e5, e6, e7, c1, lp, a1]
    cases t with
    | num x =>
      simp only [Tr.d, Tr.code]
      try generalize run GG TT m = cO at *
      simp -implicitDefEqProofs [b_code_in]
    | z w => cases w <;> exact rfl
    | nm x =>
      have c1 := fun (env : List Sl) => call_ok (env := env) (ev_place (x := x) (ns := ns) (hc x (by simp [Tr.free])) m (by omega))
      have e6 := in_leaf [110, 97, 109, 101]
      simp only [Tr.d, Tr.code]
      try generalize run GG TT m = cO at *
      simp -implicitDefEqProofs [b_code_in, e6, c1]
    | fn x b =>
      have c1 := fun (env : List Sl) => call_ok (env := env) (ih b (by simp [Tr.parts]) (ns ++ [x]) hc.fn (by simp))
      have a1 := o2_addL (xs := ns.map D.str) (ys := [.str x]) (by simp [LIM]; omega)
      have e6 := in_leaf [102, 117, 110]
      rw [List.map_append] at c1
      simp only [Tr.d, Tr.code, List.map_cons, List.map_nil] at c1 ⊢
      try generalize run GG TT m = cO at *
      simp -implicitDefEqProofs [b_code_in, e6, a1, c1]
    | bd x a b =>
      have c1 := fun (env : List Sl) => call_ok (env := env) (ih b (by simp [Tr.parts]) (ns ++ [x]) hc.bd.2 (by simp))
      have c2 := fun (env : List Sl) => call_ok (env := env) (ih a (by simp [Tr.parts]) ns hc.bd.1 (by omega))
      have a1 := o2_addL (xs := ns.map D.str) (ys := [.str x]) (by simp [LIM]; omega)
      have e6 := in_leaf [108, 101, 116]
      have l1 := code_len a ns
      have l2 := code_len b (ns ++ [x])
      simp only [Tr.size] at hs
      have a2 := o2_addT (x := a.code ns) (y := [one [107, 101, 101, 112]]) (by simp [LIM]; omega)
      have a3 := o2_addT (x := a.code ns ++ [one [107, 101, 101, 112]]) (y := b.code (ns ++ [x])) (by simp [LIM]; omega)
      have a4 := o2_addT (x := a.code ns ++ [one [107, 101, 101, 112]] ++ b.code (ns ++ [x])) (y := [one [100, 114, 111, 112]]) (by simp [LIM]; omega)
      rw [List.map_append] at c1
      simp only [Tr.d, Tr.code, List.map_cons, List.map_nil] at c1 c2 ⊢
      generalize a.code ns = A at *
      generalize b.code (ns ++ [x]) = B at *
      unfold one at a2 a3 a4 ⊢
      simp only [List.append_assoc, List.cons_append, List.nil_append] at a2 a3 a4 ⊢
      try generalize run GG TT m = cO at *
      simp -implicitDefEqProofs [b_code_in, e6, a1, c1, c2, a2, a3, a4]
    | two s a b => exact other _ _ rfl (by decide) (by decide) (fun q hq => by
        simp only [Tr.parts, List.mem_cons, List.not_mem_nil, or_false] at hq
        rcases hq with rfl | rfl
        · exact hc.two.1
        · exact hc.two.2) (.inl ⟨by decide, s, _, rfl, by simp [Tr.code, Tr.parts]⟩)
    | u w a => exact other w.tx _ rfl (by cases w <;> decide) (by cases w <;> decide) (fun q hq => by
        simp only [Tr.parts, List.mem_cons, List.not_mem_nil, or_false] at hq
        rw [hq]
        exact hc.u) (.inr ⟨by cases w <;> decide, by simp [Tr.code, Tr.parts]⟩)
    | p w a b => exact other w.tx _ rfl (by cases w <;> decide) (by cases w <;> decide) (fun q hq => by
        simp only [Tr.parts, List.mem_cons, List.not_mem_nil, or_false] at hq
        rcases hq with rfl | rfl
        · exact hc.p.1
        · exact hc.p.2) (.inr ⟨by cases w <;> decide, by simp [Tr.code, Tr.parts]⟩)
    | t w a b c =>
      have cl : ∀ q ∈ (Tr.t w a b c).parts, ClT q ns := fun q hq => by
        simp only [Tr.parts, List.mem_cons, List.not_mem_nil, or_false] at hq
        rcases hq with rfl | rfl | rfl
        · exact hc.t.1
        · exact hc.t.2.1
        · exact hc.t.2.2
      cases w with
      | fold => exact other _ _ rfl (by decide) (by decide) cl (.inr ⟨by decide, by simp [Tr.code, Tr.parts, W3.tx]⟩)
      | times => exact other _ _ rfl (by decide) (by decide) cl (.inr ⟨by decide, by simp [Tr.code, Tr.parts, W3.tx]⟩)
      | cond =>
        have c1 := fun (env : List Sl) => call_ok (env := env) (ih a (by simp [Tr.parts]) ns hc.t.1 (by omega))
        have c2 := fun (env : List Sl) => call_ok (env := env) (ih b (by simp [Tr.parts]) ns hc.t.2.1 (by omega))
        have c3 := fun (env : List Sl) => call_ok (env := env) (ih c (by simp [Tr.parts]) ns hc.t.2.2 (by omega))
        have e6 := in_leaf [105, 102]
        have l1 := code_len a ns
        simp only [Tr.size] at hs
        have a2 := o2_addT (x := a.code ns) (y := [.tup [.str [105, 102], .tup (b.code ns), .tup (c.code ns)]]) (by simp [LIM]; omega)
        simp only [Tr.d, Tr.code, W3.tx] at c1 c2 c3 ⊢
        generalize a.code ns = A at *
        generalize b.code ns = B at *
        generalize c.code ns = C at *
        try generalize run GG TT m = cO at *
        simp -implicitDefEqProofs [b_code_in, e6, c1, c2, c3, a2]
theorem ev_lookc {t : Tr} (ht : t.ok) (hs : t.size ≤ 300) (hc : ∀ y, y ∉ t.free) : Ev (t.dep + 5) [108, 111, 111, 107, 95, 99, 108, 111, 115, 101, 100] [t.d] .none := fun m hm => by
  obtain ⟨m, rfl⟩ : ∃ q, m = q + 1 := ⟨m - 1, by omega⟩
  refine run_ok GG TT m 1 1 [108, 111, 111, 107, 95, 99, 108, 111, 115, 101, 100] b_look_closed [t.d] rfl rfl ?_
  have c1 := fun (env : List Sl) => call_ok (env := env) (ev_checked ht hs m (by omega))
  have c2 := fun (env : List Sl) => call_ok (env := env) (ev_freeof t.dep t (Nat.le_refl _) ht hs m (by omega))
  have e : t.free = [] := List.eq_nil_iff_forall_not_mem.mpr hc
  rw [e] at c2
  try generalize run GG TT m = cO at *
  simp -implicitDefEqProofs [b_look_closed, c1, c2]
theorem ev_codeof {t : Tr} (ht : t.ok) (hs : t.size ≤ 300) (hd : t.dep ≤ 300) (hc : ∀ y, y ∉ t.free) : Ev (t.dep + 6) [99, 111, 100, 101, 95, 111, 102] [t.d] (.tup (t.code [])) := by
  refine Ev.of (n := t.dep + 5) (p := 1) (k := 1) (b := b_code_of) rfl rfl fun m hm => ?_
  have c1 := fun (env : List Sl) => call_ok (env := env) (ev_lookc ht hs hc m hm)
  have c2 := fun (env : List Sl) => call_ok (env := env) (ev_code t.dep t [] (Nat.le_refl _) ht hs (fun y hy => absurd hy (hc y)) (by simp; omega) m (by omega))
  simp only [List.map_nil] at c2
  try generalize run GG TT m = cO at *
  simp -implicitDefEqProofs [b_code_of, c1, c2]
end Fp
set_option linter.all false
set_option maxRecDepth 100000
set_option maxHeartbeats 1000000
namespace Fp
open Ft
/-! renamed, alike -/
def ownT (k : Nat) : Tx := [97 + k]
/-- a program with names by their places -/
def Tr.ren : Tr → List Tx → Tr
  | .nm x, ns => .nm (ownT (ns.length - 1 - posT x ns.reverse))
  | .num n, _ => .num n
  | .z w, _ => .z w
  | .fn x b, ns => .fn (ownT ns.length) (b.ren (ns ++ [x]))
  | .bd x a b, ns => .bd (ownT ns.length) (a.ren ns) (b.ren (ns ++ [x]))
  | .two s a b, ns => .two s (a.ren ns) (b.ren ns)
  | .u w a, ns => .u w (a.ren ns)
  | .p w a b, ns => .p w (a.ren ns) (b.ren ns)
  | .t w a b c, ns => .t w (a.ren ns) (b.ren ns) (c.ren ns)
theorem small_at : ∀ k < 26, at? smallT ((k : Nat) : Int) = some (97 + k) := by decide
theorem own_idx {k : Nat} (hk : k < 26) : op2 .idx (.str smallT) (.int (k : Nat)) = some (.str (ownT k)) := by
  show (if smallT.length ≤ LIM then (at? smallT ((k : Nat) : Int)).map fun c => D.str [c] else Option.none) = _
  rw [small_at k hk]
  rfl
theorem Tr.shp {t : Tr} (h : t.ok) (hd : t.dep ≤ 64) : t.d.shaped = true := by
  simp only [D.shaped, Tr.dDep h]
  exact decide_eq_true hd
theorem ev_own {k : Nat} (hk : k < 26) : Ev 1 [111, 119, 110, 95, 110, 97, 109, 101] [.int (k : Nat)] (.str (ownT k)) := by
  refine Ev.of (n := 0) (p := 1) (k := 3) (b := b_own_name) rfl rfl fun m hm => ?_
  have p1 : ((k : Nat) : Int) < 26 := by omega
  have i1 := own_idx hk
  unfold smallT at i1
  generalize ((k : Nat) : Int) = kk at *
  generalize run GG TT m = c at *
  simp -implicitDefEqProofs [b_own_name, p1, i1]
theorem ev_with (t : Tr) (ds : List D) (h : ds.length = t.parts.length) : Ev 1 [119, 105, 116, 104, 95, 112, 97, 114, 116, 115] [t.d, .lst ds] (t.dW ds) := by
  refine Ev.of (n := 0) (p := 2) (k := 2) (b := b_with_parts) rfl rfl fun m hm => ?_
  cases t with
  | num n => match ds, h with | [], _ => rfl
  | nm x => match ds, h with | [], _ => rfl
  | z w => match ds, h with | [], _ => cases w <;> rfl
  | fn x b => match ds, h with | [_], _ => rfl
  | bd x a b => match ds, h with | [_, _], _ => rfl
  | two s a b => match ds, h with | [_, _], _ => rfl
  | u w a => match ds, h with | [_], _ => cases w <;> rfl
  | p w a b => match ds, h with | [_, _], _ => cases w <;> rfl
  | t w a b c => match ds, h with | [_, _, _], _ => cases w <;> rfl
/-- the names known by their places -/
def DRo (kvs : List (Ky × D)) (ns : List Tx) : Prop := ∀ x ∈ ns, look kvs (.s x) = some (.str (ownT (ns.length - 1 - posT x ns.reverse)))
theorem pos_new (x : Tx) (ns : List Tx) : posT x (ns ++ [x]).reverse = 0 := by simp [posT]
theorem pos_old {x z : Tx} (ns : List Tx) (h : x ≠ z) : posT z (ns ++ [x]).reverse = posT z ns.reverse + 1 := by simp [posT, h]
theorem DRo.ext {kvs : List (Ky × D)} {ns : List Tx} (h : DRo kvs ns) (x : Tx) : DRo (putK kvs (.s x) (.str (ownT ns.length))) (ns ++ [x]) := fun z hz => by
  rw [look_putK]
  by_cases e : x = z
  · subst e
    rw [pos_new]
    simp
  · have e' : ¬ (Ky.s z = Ky.s x) := fun q => by cases q; exact e rfl
    rw [if_neg e', pos_old ns e, h z (((List.mem_append.mp hz).resolve_right fun q => e (List.mem_singleton.mp q).symm))]
    congr 3
    simp
    omega
theorem renin_nm {c : Oracle} {x own : Tx} {kvs : List (Ky × D)} {M : D} (h : look kvs (.s x) = some (.str own)) : rtv (exs GG c b_renamed_in ⟨[.d (.tup [.str [110, 97, 109, 101], .str x]), .d (.dct kvs), .d M, .no, .no, .no], []⟩) = some (.tup [.str [110, 97, 109, 101], .str own], false, []) := by
  simp -implicitDefEqProofs [b_renamed_in, h]
theorem renin_fn {c : Oracle} {x own : Tx} {kvs : List (Ky × D)} {M : Int} {b r : D} (hl : kvs.length < LIM) (c1 : ∀ env, callR c [111, 119, 110, 95, 110, 97, 109, 101] [.int M] ⟨env, []⟩ = .ok (.str own) ⟨env, []⟩) (c2 : ∀ env, callR c [114, 101, 110, 97, 109, 101, 100, 95, 105, 110] [b, .dct (putK kvs (.s x) (.str own)), .int (M + 1)] ⟨env, []⟩ = .ok r ⟨env, []⟩) :
    rtv (exs GG c b_renamed_in ⟨[.d (.tup [.str [102, 117, 110], .str x, b]), .d (.dct kvs), .d (.int M), .no, .no, .no], []⟩) = some (.tup [.str [102, 117, 110], .str own, r], false, []) := by
  have e6 : op2 .in_ (.str [102, 117, 110]) (.tup [.str [102, 117, 110], .str [108, 101, 116]]) = some (.bool true) := rfl
  generalize hk : putK kvs (.s x) (.str own) = kv2 at *
  simp -implicitDefEqProofs [b_renamed_in, e6, hl, c1, c2, hk]
theorem renin_bd {c : Oracle} {x own : Tx} {kvs : List (Ky × D)} {M : Int} {a b q r : D} (hl : kvs.length < LIM) (c1 : ∀ env, callR c [111, 119, 110, 95, 110, 97, 109, 101] [.int M] ⟨env, []⟩ = .ok (.str own) ⟨env, []⟩) (c2 : ∀ env, callR c [114, 101, 110, 97, 109, 101, 100, 95, 105, 110] [b, .dct (putK kvs (.s x) (.str own)), .int (M + 1)] ⟨env, []⟩ = .ok r ⟨env, []⟩) (c3 : ∀ env, callR c [114, 101, 110, 97, 109, 101, 100, 95, 105, 110] [a, .dct kvs, .int M] ⟨env, []⟩ = .ok q ⟨env, []⟩) :
    rtv (exs GG c b_renamed_in ⟨[.d (.tup [.str [108, 101, 116], .str x, a, b]), .d (.dct kvs), .d (.int M), .no, .no, .no], []⟩) = some (.tup [.str [108, 101, 116], .str own, q, r], false, []) := by
  have e6 : op2 .in_ (.str [108, 101, 116]) (.tup [.str [102, 117, 110], .str [108, 101, 116]]) = some (.bool true) := rfl
  generalize hk : putK kvs (.s x) (.str own) = kv2 at *
  simp -implicitDefEqProofs [b_renamed_in, e6, hl, c1, c2, c3, hk]
theorem in_two (w : Tx) (n2 : ¬ w ∈ [[102, 117, 110], [108, 101, 116]]) : op2 .in_ (.str w) (.tup [.str [102, 117, 110], .str [108, 101, 116]]) = some (.bool false) := by
  have e : op2 .in_ (.str w) (.tup [.str [102, 117, 110], .str [108, 101, 116]]) = some (.bool (decide (w ∈ [[102, 117, 110], [108, 101, 116]]))) := o2_inT (ws := [[102, 117, 110], [108, 101, 116]])
  rw [e, decide_eq_false n2]
theorem renin_gen {c : Oracle} {td own r : D} {w : Tx} {kvs : List (Ky × D)} {M : Int} {Y Z : List D} (i0 : op2 .idx td (.int 0) = some (.str w)) (e1 : op2 .eq (.str w) (.str [110, 97, 109, 101]) = some (.bool false)) (e2 : op2 .in_ (.str w) (.tup [.str [102, 117, 110], .str [108, 101, 116]]) = some (.bool false)) (c1 : ∀ env, callR c [111, 119, 110, 95, 110, 97, 109, 101] [.int M] ⟨env, []⟩ = .ok own ⟨env, []⟩) (c2 : ∀ env, callR c [112, 97, 114, 116, 115, 95, 111, 102] [td] ⟨env, []⟩ = .ok (.lst Y) ⟨env, []⟩)
    (cs : compL (compF GG c [5] [] (.call [114, 101, 110, 97, 109, 101, 100, 95, 105, 110] [.var 5, .var 1, .var 2])) Y [] ⟨[.d td, .d (.dct kvs), .d (.int M), .d own, .no, .no], []⟩ = .ok Z ⟨[.d td, .d (.dct kvs), .d (.int M), .d own, .no, .no], []⟩) (c3 : ∀ env, callR c [119, 105, 116, 104, 95, 112, 97, 114, 116, 115] [td, .lst Z] ⟨env, []⟩ = .ok r ⟨env, []⟩) :
    rtv (exs GG c b_renamed_in ⟨[.d td, .d (.dct kvs), .d (.int M), .no, .no, .no], []⟩) = some (r, false, []) := by
  simp -implicitDefEqProofs [b_renamed_in, i0, e1, e2, c1, c2, cs, c3]
theorem ev_renin : ∀ (n : Nat) (t : Tr) (ns : List Tx) (kvs : List (Ky × D)), t.dep ≤ n → ClT t ns → DRo kvs ns → ns.length + n ≤ 26 → kvs.length + n ≤ 1000 → Ev (n + 1) [114, 101, 110, 97, 109, 101, 100, 95, 105, 110] [t.d, .dct kvs, .int (ns.length : Nat)] (t.ren ns).d
  | 0, t, _, _, hn, _, _, _, _ => absurd hn (by have := t.dep_pos; omega)
  | n + 1, t, ns, kvs, hn, hc, hr, hl, hk => by
    refine Ev.of (n := n + 1) (p := 3) (k := 6) (b := b_renamed_in) rfl rfl fun m hm => ?_
    show rtv (exs GG (run GG TT m) b_renamed_in ⟨[.d t.d, .d (.dct kvs), .d (.int (ns.length : Nat)), .no, .no, .no], []⟩) = _
    have ih : ∀ q ∈ t.parts, ClT q ns → ∀ env, callR (run GG TT m) [114, 101, 110, 97, 109, 101, 100, 95, 105, 110] [q.d, .dct kvs, .int (ns.length : Nat)] ⟨env, []⟩ = .ok (q.ren ns).d ⟨env, []⟩ := fun q hq h1 env => by
      have := Tr.parts_dep q hq
      exact call_ok (ev_renin n q ns kvs (by omega) h1 hr (by omega) (by omega) m hm)
    have ih2 : ∀ q ∈ t.parts, ∀ x, ClT q (ns ++ [x]) → ∀ env, callR (run GG TT m) [114, 101, 110, 97, 109, 101, 100, 95, 105, 110] [q.d, .dct (putK kvs (.s x) (.str (ownT ns.length))), .int ((ns.length : Nat) + 1)] ⟨env, []⟩ = .ok (q.ren (ns ++ [x])).d ⟨env, []⟩ := fun q hq x h1 env => by
      have := Tr.parts_dep q hq
      have pl := putK_len kvs (.s x) (.str (ownT ns.length))
      have e := ev_renin n q (ns ++ [x]) (putK kvs (.s x) (.str (ownT ns.length))) (by omega) h1 (hr.ext x) (by simp; omega) (by omega) m hm
      rw [show (((ns ++ [x]).length : Nat) : Int) = ((ns.length : Nat) : Int) + 1 by simp] at e
      exact call_ok e
    have c1 := fun (env : List Sl) => call_ok (env := env) (ev_own (k := ns.length) (by omega) m (by omega))
    have hkl : kvs.length < LIM := by unfold LIM; omega
    have gen : ∀ (w : Tx) (rest : List D), t.pre ++ t.parts.map Tr.d = .str w :: rest → plainT w → (w == [110, 97, 109, 101]) = false → w ∉ [[102, 117, 110], [108, 101, 116]] → (∀ q ∈ t.parts, ClT q ns) → (t.ren ns).d = t.dW (t.parts.map fun q => (q.ren ns).d) → rtv (exs GG (run GG TT m) b_renamed_in ⟨[.d t.d, .d (.dct kvs), .d (.int (ns.length : Nat)), .no, .no, .no], []⟩) = some ((t.ren ns).d, false, []) := fun w rest hd hw n1 n2 hcl hr' => by
      have i0 : op2 .idx t.d (.int 0) = some (.str w) := by rw [t.d_eq, hd]; exact at_0
      have len : t.parts.length ≤ 3 := by cases t <;> simp [Tr.parts]
      rw [hr']
      refine renin_gen i0 (by rw [o2_eqS hw (by decide), n1]) (in_two w n2) c1 (fun env => call_ok (ev_parts t m (by omega))) ?_ (fun env => call_ok (ev_with t _ (by simp) m (by omega)))
      refine compL_map (d := Tr.d) (fun q hq => ?_) (by unfold LIM; omega)
      have k1 := ih q hq (hcl q hq)
      generalize run GG TT m = c at *
      generalize q.d = qd at *
      generalize t.d = td at *
      simp -implicitDefEqProofs [k1]
    cases t with
    | nm x => exact renin_nm (hr x (hc x (by simp [Tr.free])))
    | num x => exact gen _ _ rfl (by decide) (by decide) (by decide) (by simp [Tr.parts]) rfl
    | z w => exact gen w.tx _ rfl (by cases w <;> decide) (by cases w <;> decide) (by cases w <;> decide) (by simp [Tr.parts]) rfl
    | fn x b => exact renin_fn hkl c1 (ih2 b (by simp [Tr.parts]) x hc.fn)
    | bd x a b => exact renin_bd hkl c1 (ih2 b (by simp [Tr.parts]) x hc.bd.2) (ih a (by simp [Tr.parts]) hc.bd.1)
    | two s a q => exact gen _ _ rfl (by decide) (by decide) (by decide) (by simp only [Tr.parts, List.mem_cons, List.not_mem_nil, or_false]; rintro z (rfl | rfl); exact hc.two.1; exact hc.two.2) rfl
    | u w a => exact gen w.tx _ rfl (by cases w <;> decide) (by cases w <;> decide) (by cases w <;> decide) (by simp only [Tr.parts, List.mem_cons, List.not_mem_nil, or_false]; rintro z rfl; exact hc.u) rfl
    | p w a q => exact gen w.tx _ rfl (by cases w <;> decide) (by cases w <;> decide) (by cases w <;> decide) (by simp only [Tr.parts, List.mem_cons, List.not_mem_nil, or_false]; rintro z (rfl | rfl); exact hc.p.1; exact hc.p.2) rfl
    | t w a q r => exact gen w.tx _ rfl (by cases w <;> decide) (by cases w <;> decide) (by cases w <;> decide) (by simp only [Tr.parts, List.mem_cons, List.not_mem_nil, or_false]; rintro z (rfl | rfl | rfl); exact hc.t.1; exact hc.t.2.1; exact hc.t.2.2) rfl
theorem ren_dep : ∀ (t : Tr) (ns : List Tx), (t.ren ns).dep = t.dep
  | .num _, _ => rfl
  | .nm _, _ => rfl
  | .z _, _ => rfl
  | .fn _ b, ns => by simp [Tr.ren, Tr.dep, ren_dep b]
  | .bd _ a b, ns => by simp [Tr.ren, Tr.dep, ren_dep a, ren_dep b]
  | .two _ a b, ns => by simp [Tr.ren, Tr.dep, ren_dep a, ren_dep b]
  | .u _ a, ns => by simp [Tr.ren, Tr.dep, ren_dep a]
  | .p _ a b, ns => by simp [Tr.ren, Tr.dep, ren_dep a, ren_dep b]
  | .t _ a b c, ns => by simp [Tr.ren, Tr.dep, ren_dep a, ren_dep b, ren_dep c]
theorem own_nm : ∀ k < 26, Nm (ownT k) := fun k hk => by
  refine ⟨by simp [ownT], by simp [ownT], ?_, fun c hc => ?_⟩
  · simp [ownT, wordsT]
  · simp only [ownT, List.mem_singleton] at hc
    subst hc
    have : ∀ k < 26, 97 + k ∈ smallT := by decide
    exact this k hk
theorem ren_ok : ∀ {t : Tr} {ns : List Tx}, t.ok → ClT t ns → ns.length + t.dep ≤ 26 → (t.ren ns).ok
  | .num _, _, h, _, _ => h
  | .nm x, ns, _, hc, hl => by
    have hp' := posT_lt (l := ns.reverse) (by simpa using hc x (by simp [Tr.free]))
    rw [List.length_reverse] at hp'
    simp only [Tr.dep] at hl
    exact own_nm _ (by omega)
  | .z _, _, h, _, _ => h
  | .fn x b, ns, h, hc, hl => by
    simp only [Tr.dep] at hl
    exact ⟨own_nm _ (by omega), ren_ok h.2 hc.fn (by simp; omega)⟩
  | .bd x a b, ns, h, hc, hl => by
    simp only [Tr.dep] at hl
    exact ⟨own_nm _ (by have := a.dep_pos; omega), ren_ok h.2.1 hc.bd.1 (by omega), ren_ok h.2.2 hc.bd.2 (by simp; omega)⟩
  | .two s a b, ns, h, hc, hl => by
    simp only [Tr.dep] at hl
    exact ⟨h.1, ren_ok h.2.1 hc.two.1 (by omega), ren_ok h.2.2 hc.two.2 (by omega)⟩
  | .u w a, ns, h, hc, hl => by
    simp only [Tr.dep] at hl
    exact ren_ok (t := a) h hc.u (by omega)
  | .p w a b, ns, h, hc, hl => by
    simp only [Tr.dep] at hl
    exact ⟨ren_ok h.1 hc.p.1 (by omega), ren_ok h.2 hc.p.2 (by omega)⟩
  | .t w a b c, ns, h, hc, hl => by
    simp only [Tr.dep] at hl
    exact ⟨ren_ok h.1 hc.t.1 (by omega), ren_ok h.2.1 hc.t.2.1 (by omega), ren_ok h.2.2 hc.t.2.2 (by omega)⟩
theorem tr_eq {t : Tr} (ht : t.ok) (hd : t.dep ≤ 64) : op2 .eq t.d t.d = some (.bool true) := by
  rw [o2_eqD (Tr.shp ht hd) (Tr.shp ht hd), Tr.eqv_self]
theorem ev_renamed {t : Tr} (ht : t.ok) (hs : t.size ≤ 300) (hd : t.dep ≤ 26) (hc : ∀ y, y ∉ t.free) : Ev (t.dep + 6) [114, 101, 110, 97, 109, 101, 100] [t.d] (t.ren []).d := by
  refine Ev.of (n := t.dep + 5) (p := 1) (k := 1) (b := b_renamed) rfl rfl fun m hm => ?_
  have c1 := fun (env : List Sl) => call_ok (env := env) (ev_lookc ht hs hc m hm)
  have c2 := fun (env : List Sl) => call_ok (env := env) (ev_renin t.dep t [] [] (Nat.le_refl _) (fun y hy => absurd hy (hc y)) (fun x hx => by simp at hx) (by simpa using hd) (by simp; omega) m (by omega))
  have c2 : ∀ env, callR (run GG TT m) [114, 101, 110, 97, 109, 101, 100, 95, 105, 110] [t.d, .dct [], .int 0] ⟨env, []⟩ = .ok (t.ren []).d ⟨env, []⟩ := c2
  generalize run GG TT m = c at *
  simp -implicitDefEqProofs [b_renamed, c1, c2]
theorem ev_alike {t q : Tr} {r : Bool} (ht : t.ok) (hs : t.size ≤ 300) (hd : t.dep ≤ 26) (hc : ∀ y, y ∉ t.free) (hq : q.ok) (qs : q.size ≤ 300) (qd : q.dep ≤ 26) (qc : ∀ y, y ∉ q.free) (e : op2 .eq (t.ren []).d (q.ren []).d = some (.bool r)) : Ev 34 [97, 114, 101, 95, 97, 108, 105, 107, 101] [t.d, q.d] (.bool r) := by
  refine Ev.of (n := 33) (p := 2) (k := 2) (b := b_are_alike) rfl rfl fun m hm => ?_
  have c1 := fun (env : List Sl) => call_ok (env := env) (ev_checked ht hs m (by omega))
  have c2 := fun (env : List Sl) => call_ok (env := env) (ev_checked hq qs m (by omega))
  have c3 := fun (env : List Sl) => call_ok (env := env) (ev_renamed ht hs hd hc m (by omega))
  have c4 := fun (env : List Sl) => call_ok (env := env) (ev_renamed hq qs qd qc m (by omega))
  generalize run GG TT m = c at *
  generalize (t.ren []).d = d1 at *
  generalize (q.ren []).d = d2 at *
  generalize t.d = d3 at *
  generalize q.d = d4 at *
  simp -implicitDefEqProofs [b_are_alike, c1, c2, c3, c4, e]
end Fp
set_option linter.all false
set_option maxRecDepth 100000
set_option maxHeartbeats 1000000
namespace Fp
open Ft
def Bt (n : Nat) (x : D) : Prop := Ev n [99, 111, 117, 110, 116, 101, 100] [x, .int 300] (.int (-1))
/-- a def raises -/
def Er (n : Nat) (f : Tx) (args : List D) (x : Tx) : Prop := ∀ m, n ≤ m → run GG TT m f args [] = .exn ⟨x, Option.none⟩ []
theorem Er.of {n : Nat} {f : Tx} {args : List D} {x : Tx} {p k : Nat} {b : List Sm} (hT : TT f = some ⟨p, k, b⟩) (hl : args.length = p)
    (h : ∀ m, n ≤ m → outX (exs GG (run GG TT m) b ⟨args.map .d ++ List.replicate (k - p) .no, []⟩) = .exn ⟨x, Option.none⟩ []) : Er (n + 1) f args x := fun m hm => by
  obtain ⟨m, rfl⟩ : ∃ q, m = q + 1 := ⟨m - 1, by omega⟩
  exact run_exn GG TT m p k f b args hT hl (h m (by omega))
theorem Er.lift {n m : Nat} {f : Tx} {args : List D} {x : Tx} (h : Er n f args x) (q : n ≤ m) : Er m f args x := fun k hk => h k (by omega)
abbrev BT : Tx := [66, 97, 100, 84, 114, 101, 101]
theorem tree_no {n : Nat} {x : D} (h : Bt n x) : Ev (n + 1) [105, 115, 95, 116, 114, 101, 101] [x] (.bool false) := by
  refine Ev.of (n := n) (p := 1) (k := 1) (b := b_is_tree) rfl rfl fun m hm => ?_
  have gM : lookG gloL [77, 79, 83, 84, 95, 80, 65, 82, 84, 83] = some (.int 300) := rfl
  have c1 := fun (env : List Sl) => call_ok (env := env) (h m hm)
  simp -implicitDefEqProofs [b_is_tree, gM, c1]
theorem er_checked {n : Nat} {x : D} (h : Bt n x) : Er (n + 2) [99, 104, 101, 99, 107, 101, 100] [x] BT := by
  refine Er.of (n := n + 1) (p := 1) (k := 1) (b := b_checked) rfl rfl fun m hm => ?_
  have c1 := fun (env : List Sl) => call_ok (env := env) (tree_no h m hm)
  simp -implicitDefEqProofs [b_checked, c1]
theorem er_size {n : Nat} {x : D} (h : Bt n x) : Er (n + 3) [115, 105, 122, 101] [x] BT := by
  refine Er.of (n := n + 2) (p := 1) (k := 1) (b := b_size) rfl rfl fun m hm => ?_
  have c1 := fun (env : List Sl) => call_exn (env := env) (er_checked h m (by omega))
  simp -implicitDefEqProofs [b_size, c1]
theorem er_free {n : Nat} {x : D} (h : Bt n x) : Er (n + 3) [102, 114, 101, 101] [x] BT := by
  refine Er.of (n := n + 2) (p := 1) (k := 1) (b := b_free) rfl rfl fun m hm => ?_
  have c1 := fun (env : List Sl) => call_exn (env := env) (er_checked h m (by omega))
  simp -implicitDefEqProofs [b_free, c1]
theorem er_shown {n : Nat} {x : D} (h : Bt n x) : Er (n + 3) [115, 104, 111, 119, 110] [x] BT := by
  refine Er.of (n := n + 2) (p := 1) (k := 1) (b := b_shown) rfl rfl fun m hm => ?_
  have c1 := fun (env : List Sl) => call_exn (env := env) (er_checked h m (by omega))
  simp -implicitDefEqProofs [b_shown, c1]
theorem er_look_closed {n : Nat} {x : D} (h : Bt n x) : Er (n + 3) [108, 111, 111, 107, 95, 99, 108, 111, 115, 101, 100] [x] BT := by
  refine Er.of (n := n + 2) (p := 1) (k := 1) (b := b_look_closed) rfl rfl fun m hm => ?_
  have c1 := fun (env : List Sl) => call_exn (env := env) (er_checked h m (by omega))
  simp -implicitDefEqProofs [b_look_closed, c1]
theorem er_code_of {n : Nat} {x : D} (h : Bt n x) : Er (n + 4) [99, 111, 100, 101, 95, 111, 102] [x] BT := by
  refine Er.of (n := n + 3) (p := 1) (k := 1) (b := b_code_of) rfl rfl fun m hm => ?_
  have c1 := fun (env : List Sl) => call_exn (env := env) (er_look_closed h m (by omega))
  simp -implicitDefEqProofs [b_code_of, c1]
theorem er_renamed {n : Nat} {x : D} (h : Bt n x) : Er (n + 4) [114, 101, 110, 97, 109, 101, 100] [x] BT := by
  refine Er.of (n := n + 3) (p := 1) (k := 1) (b := b_renamed) rfl rfl fun m hm => ?_
  have c1 := fun (env : List Sl) => call_exn (env := env) (er_look_closed h m (by omega))
  simp -implicitDefEqProofs [b_renamed, c1]
theorem er_alike1 {n : Nat} {x y : D} (h : Bt n x) : Er (n + 3) [97, 114, 101, 95, 97, 108, 105, 107, 101] [x, y] BT := by
  refine Er.of (n := n + 2) (p := 2) (k := 2) (b := b_are_alike) rfl rfl fun m hm => ?_
  have c1 := fun (env : List Sl) => call_exn (env := env) (er_checked h m (by omega))
  simp -implicitDefEqProofs [b_are_alike, c1]
theorem er_alike2 {n : Nat} {x : D} (h : Bt n x) : Er (n + 8) [97, 114, 101, 95, 97, 108, 105, 107, 101] [.tup [.str [121, 101, 115]], x] BT := by
  refine Er.of (n := n + 7) (p := 2) (k := 2) (b := b_are_alike) rfl rfl fun m hm => ?_
  have c1 := fun (env : List Sl) => call_exn (env := env) (er_checked h m (by omega))
  have c2 := fun (env : List Sl) => call_ok (env := env) (ev_checked (t := .z .yes) trivial (by decide) m (by simp [Tr.dep]; omega))
  simp only [Tr.d, W0.tx] at c2
  simp -implicitDefEqProofs [b_are_alike, c1, c2]
theorem er_ask0 {n : Nat} {x : D} (h : Bt n x) : Er (n + 12) [95, 108, 97, 119, 95, 97, 115, 107, 115] [.int 0, x] BT := by
  refine Er.of (n := n + 11) (p := 2) (k := 2) (b := b_law_asks) rfl rfl fun m hm => ?_
  have c := fun (env : List Sl) => call_exn (env := env) (er_checked h m (by omega))
  simp -implicitDefEqProofs [b_law_asks, c]
theorem er_ask1 {n : Nat} {x : D} (h : Bt n x) : Er (n + 12) [95, 108, 97, 119, 95, 97, 115, 107, 115] [.int 1, x] BT := by
  refine Er.of (n := n + 11) (p := 2) (k := 2) (b := b_law_asks) rfl rfl fun m hm => ?_
  have c := fun (env : List Sl) => call_exn (env := env) (er_size h m (by omega))
  simp -implicitDefEqProofs [b_law_asks, c]
theorem er_ask2 {n : Nat} {x : D} (h : Bt n x) : Er (n + 12) [95, 108, 97, 119, 95, 97, 115, 107, 115] [.int 2, x] BT := by
  refine Er.of (n := n + 11) (p := 2) (k := 2) (b := b_law_asks) rfl rfl fun m hm => ?_
  have c := fun (env : List Sl) => call_exn (env := env) (er_free h m (by omega))
  simp -implicitDefEqProofs [b_law_asks, c]
theorem er_ask3 {n : Nat} {x : D} (h : Bt n x) : Er (n + 12) [95, 108, 97, 119, 95, 97, 115, 107, 115] [.int 3, x] BT := by
  refine Er.of (n := n + 11) (p := 2) (k := 2) (b := b_law_asks) rfl rfl fun m hm => ?_
  have c := fun (env : List Sl) => call_exn (env := env) (er_shown h m (by omega))
  simp -implicitDefEqProofs [b_law_asks, c]
theorem er_ask9 {n : Nat} {x : D} (h : Bt n x) : Er (n + 12) [95, 108, 97, 119, 95, 97, 115, 107, 115] [.int 9, x] BT := by
  refine Er.of (n := n + 11) (p := 2) (k := 2) (b := b_law_asks) rfl rfl fun m hm => ?_
  have c := fun (env : List Sl) => call_exn (env := env) (er_code_of h m (by omega))
  simp -implicitDefEqProofs [b_law_asks, c]
theorem er_ask10 {n : Nat} {x : D} (h : Bt n x) : Er (n + 12) [95, 108, 97, 119, 95, 97, 115, 107, 115] [.int 10, x] BT := by
  refine Er.of (n := n + 11) (p := 2) (k := 2) (b := b_law_asks) rfl rfl fun m hm => ?_
  have c := fun (env : List Sl) => call_exn (env := env) (er_renamed h m (by omega))
  simp -implicitDefEqProofs [b_law_asks, c]
theorem er_ask11 {n : Nat} {x : D} (h : Bt n x) : Er (n + 12) [95, 108, 97, 119, 95, 97, 115, 107, 115] [.int 11, x] BT := by
  refine Er.of (n := n + 11) (p := 2) (k := 2) (b := b_law_asks) rfl rfl fun m hm => ?_
  have c := fun (env : List Sl) => call_exn (env := env) (er_alike2 h m (by omega))
  simp -implicitDefEqProofs [b_law_asks, c]
theorem er_ask12 {n : Nat} {x : D} (h : Bt n x) : Er (n + 12) [95, 108, 97, 119, 95, 97, 115, 107, 115] [.int 12, x] BT := by
  refine Er.of (n := n + 11) (p := 2) (k := 2) (b := b_law_asks) rfl rfl fun m hm => ?_
  have c := fun (env : List Sl) => call_exn (env := env) (er_alike1 (y := .tup [.str [121, 101, 115]]) h m (by omega))
  simp -implicitDefEqProofs [b_law_asks, c]
end Fp
set_option linter.all false
set_option maxRecDepth 100000
set_option maxHeartbeats 1000000
namespace Fp
open Ft
/-! the law -/
theorem loop_over {c : Oracle} (x0 : Sl) : ∀ (qs : List Tr) (left : Int) (x2 : Sl), 0 ≤ left → (∀ q ∈ qs, ∀ l : Int, 0 ≤ l → c [99, 111, 117, 110, 116, 101, 100] [q.d, .int l] [] = .ok (.int (if (q.size : Int) ≤ l then l - q.size else -1)) false []) → left < (sumS qs : Int) →
    ∃ e, forL (forF GG c [2] bodyC) (qs.map Tr.d) ⟨[x0, .d (.int left), x2], []⟩ = .rt (.int (-1)) false ⟨e, []⟩
  | [], left, x2, h0, _, hl => by simp [sumS] at hl; omega
  | q :: qs, left, x2, h0, h, hl => by
    have e : sumS (q :: qs) = q.size + sumS qs := by simp [sumS]
    rw [e] at hl
    have h1 := h q List.mem_cons_self left h0
    by_cases le : (q.size : Int) ≤ left
    · rw [if_pos le] at h1
      have c1 := call_ok (env := [x0, .d (.int left), .d q.d]) h1
      obtain ⟨y, ih⟩ := loop_over x0 qs (left - q.size) (.d q.d) (by omega) (fun r hr => h r (List.mem_cons_of_mem _ hr)) (by omega)
      refine ⟨y, ?_⟩
      have p1 : ¬ (left - (q.size : Int) < 0) := by omega
      rw [List.map_cons, forL_cons, ← ih]
      simp -implicitDefEqProofs [bodyC, c1, p1]
    · rw [if_neg le] at h1
      have c1 := call_ok (env := [x0, .d (.int left), .d q.d]) h1
      refine ⟨[x0, .d (.int (-1)), .d q.d], ?_⟩
      rw [List.map_cons, forL_cons]
      simp -implicitDefEqProofs [bodyC, c1]
theorem ev_over : ∀ (n : Nat) (t : Tr), t.dep ≤ n → t.ok → ∀ l : Int, 0 ≤ l → Ev (n + 2) [99, 111, 117, 110, 116, 101, 100] [t.d, .int l] (.int (if (t.size : Int) ≤ l then l - t.size else -1))
  | 0, t, hn, _, _, _ => absurd hn (by have := t.dep_pos; omega)
  | n + 1, t, hn, ht, l, hl => by
    by_cases le : (t.size : Int) ≤ l
    · rw [if_pos le]
      exact (ev_counted (n + 1) t hn ht l le)
    · rw [if_neg le]
      refine Ev.of (n := n + 2) (p := 2) (k := 3) (b := b_counted) rfl rfl fun m hm => ?_
      have ss : t.size = 1 + sumS t.parts := t.size_eq
      have c1 := fun (env : List Sl) => call_ok (env := env) (ev_look ht m (by omega))
      have c2 := fun (env : List Sl) => call_ok (env := env) (ev_parts t m (by omega))
      by_cases e0 : l = 0
      · simp -implicitDefEqProofs [b_counted, c1, e0]
      · obtain ⟨e, lp⟩ := loop_over (c := run GG TT m) (.d t.d) t.parts (l - 1) .no (by omega) (fun q hq k hk => ev_over n q (by have := Tr.parts_dep q hq; omega) (Tr.parts_ok ht q hq) k hk m hm) (by omega)
        unfold bodyC at lp
        simp -implicitDefEqProofs [b_counted, c1, c2, e0, lp]
theorem bt_over {t : Tr} (ht : t.ok) (hs : 300 < t.size) : Bt (t.dep + 2) t.d := by
  have := ev_over t.dep t (Nat.le_refl _) ht 300 (by omega)
  rw [if_neg (by omega)] at this
  exact this
theorem parts_a {c : Oracle} {s : Int} : rtv (exs GG c b_law_parts ⟨[.d (.int 1), .d (.int s), .no], []⟩) = some (.tup [.str [110, 117, 109], .int (s % 9973)], false, []) := by
  simp -implicitDefEqProofs [b_law_parts]
theorem parts_b {c : Oracle} {s : Int} : rtv (exs GG c b_law_parts ⟨[.d (.int 2), .d (.int s), .no], []⟩) = some (.tup [.str [102, 105, 114, 115, 116], .tup [.str [110, 117, 109], .int (s % 9973)]], false, []) := by
  simp -implicitDefEqProofs [b_law_parts]
theorem parts_c {c : Oracle} {n h k s : Int} {a b : D} (n1 : n ≠ 1) (n2 : n ≠ 2) (e1 : (n - 1) / 2 = h) (e2 : n - 1 - h = k) (c1 : ∀ env, callR c [95, 108, 97, 119, 95, 112, 97, 114, 116, 115] [.int h, .int s] ⟨env, []⟩ = .ok a ⟨env, []⟩) (c2 : ∀ env, callR c [95, 108, 97, 119, 95, 112, 97, 114, 116, 115] [.int k, .int (s + 1)] ⟨env, []⟩ = .ok b ⟨env, []⟩) :
    rtv (exs GG c b_law_parts ⟨[.d (.int n), .d (.int s), .no], []⟩) = some (.tup [.str [112, 97, 105, 114], a, b], false, []) := by
  simp -implicitDefEqProofs [b_law_parts, n1, n2, e1, e2, c1, c2]
theorem num_ok (s : Int) : (Tr.num (s % 9973)).ok := ⟨Int.emod_nonneg _ (by omega), by have := Int.emod_lt_of_pos s (b := 9973) (by omega); omega⟩
theorem ev_lparts : ∀ (k many : Nat) (s : Int), 1 ≤ many → many < 2 ^ k → ∃ t : Tr, t.ok ∧ t.size = many ∧ t.dep ≤ k ∧ (∀ y, y ∉ t.free) ∧ Ev k [95, 108, 97, 119, 95, 112, 97, 114, 116, 115] [.int (many : Nat), .int s] t.d
  | 0, many, s, h1, h2 => by simp at h2; omega
  | k + 1, many, s, h1, h2 => by
    by_cases e1 : many = 1
    · subst e1
      exact ⟨.num (s % 9973), num_ok s, rfl, by simp [Tr.dep], by simp [Tr.free], Ev.of (n := k) (p := 2) (k := 3) (b := b_law_parts) rfl rfl fun m hm => parts_a⟩
    · by_cases e2 : many = 2
      · subst e2
        have hk : 1 ≤ k := by
          cases k with
          | zero => simp at h2
          | succ k => omega
        refine ⟨.u .first (.num (s % 9973)), num_ok s, rfl, by simp [Tr.dep]; omega, ?_, Ev.of (n := k) (p := 2) (k := 3) (b := b_law_parts) rfl rfl fun m hm => parts_b⟩
        intro y hy
        simp [Tr.free, putF_mem] at hy
      · have hp : 2 ^ (k + 1) = 2 * 2 ^ k := by rw [Nat.pow_succ]; omega
        obtain ⟨a, oa, sa, da, fa, ea⟩ := ev_lparts k ((many - 1) / 2) s (by omega) (by omega)
        obtain ⟨b, ob, sb, db, fb, eb⟩ := ev_lparts k (many - 1 - (many - 1) / 2) (s + 1) (by omega) (by omega)
        refine ⟨.p .pair a b, ⟨oa, ob⟩, ?_, ?_, ?_, Ev.of (n := k) (p := 2) (k := 3) (b := b_law_parts) rfl rfl fun m hm => ?_⟩
        · simp only [Tr.size]; omega
        · simp only [Tr.dep]; omega
        · intro y hy
          simp only [Tr.free, putF_mem] at hy
          rcases hy with (hy | hy) | hy
          · simp at hy
          · exact fa y hy.1
          · exact fb y hy.1
        · exact parts_c (by omega) (by omega) (h := (((many - 1) / 2 : Nat) : Int)) (k := ((many - 1 - (many - 1) / 2 : Nat) : Int)) (by omega) (by omega) (fun env => call_ok (ea m hm)) (fun env => call_ok (eb m hm))
/-! reading what has too many parts -/
theorem read_many {c : Oracle} {X : Tx} {L : List D} {j : Int} {t : D} (hL : L.length ≤ LIM) (c1 : ∀ env, callR c [82, 101, 97, 100, 101, 114] [.str X] ⟨env, []⟩ = .ok (.loc 0) ⟨env, hpI L 0 j 0⟩) (c2 : Cl c [82, 101, 97, 100, 101, 114, 46, 119, 104, 111, 108, 101] [] (hpI L 0 j 0) t (hpI L (L.length : Nat) j 0)) (c3 : ∀ env hp, callR c [99, 111, 117, 110, 116, 101, 100] [t, .int 300] ⟨env, hp⟩ = .ok (.int (-1)) ⟨env, hp⟩) :
    outX (exs GG c b_read ⟨[.d (.str X), .no, .no], []⟩) = .exn ⟨[66, 97, 100, 84, 101, 120, 116], some (.int 0)⟩ (hpI L (L.length : Nat) j 0) := by
  have g : lookG gloL [77, 79, 83, 84, 95, 80, 65, 82, 84, 83] = some (.int 300) := rfl
  simp only [Cl, hpI] at *
  simp -implicitDefEqProofs [b_read, c1, c2, c3, g, hL]
theorem er_read {n q : Nat} {X : Tx} {t : Tr} {ts : List Tok} {ps : List Nat} (hn : 5 ≤ n) (hX : X.length < LIM) (la : Laid 0 ts ps X) (h : RW n q t ts) (hq : q ≤ 40) (ok : t.ok) (hs : 300 < t.size) (hd : t.dep + 2 ≤ n) : ∀ m, n + 1 ≤ m → run GG TT m [114, 101, 97, 100] [.str X] [] = .exn ⟨[66, 97, 100, 84, 101, 120, 116], some (.int 0)⟩ [] := fun m hm => by
  obtain ⟨m, rfl⟩ : ∃ q, m = q + 1 := ⟨m - 1, by omega⟩
  have tl := tksD_len la
  have rm : Rm (tksD ts ps) 0 ts := laid_rm la []
  have le := rm.le
  have mk : run GG TT m [82, 101, 97, 100, 101, 114] [.str X] [] = .ok (.loc 0) false (hpR (tksD ts ps) 0 (X.length : Nat) 0) := by
    obtain ⟨m, rfl⟩ : ∃ q, m = q + 1 := ⟨m - 1, by omega⟩
    have e : TT [82, 101, 97, 100, 101, 114] = Option.none := rfl
    have i : EvS 4 [82, 101, 97, 100, 101, 114, 46, 95, 95, 105, 110, 105, 116, 95, 95] [.loc 0, .str X] [.obj [82, 101, 97, 100, 101, 114] []] .none (hpR (tksD ts ps) 0 (X.length : Nat) 0) := EvS.of (n := 3) (p := 2) (k := 2) (b := b_Reader_init__) rfl rfl rfl fun m hm =>
      init_run (Nat.le_of_lt hX) fun env hp => call_ok ((ev_tokens hX la).any rfl rfl m hm (by omega) hp)
    have i := i m (by omega)
    rw [run, e]
    simp only [mkRet, List.length_nil, List.nil_append]
    have k : [82, 101, 97, 100, 101, 114] ++ initT = [82, 101, 97, 100, 101, 114, 46, 95, 95, 105, 110, 105, 116, 95, 95] := rfl
    rw [k, i]
  have w := h (tksD ts ps) 0 0 (X.length : Nat) [] (by omega) (by simpa using rm) Fl.nil (by omega)
  rw [show 0 + ts.length = (tksD ts ps).length by omega] at w
  have bt : Ev (t.dep + 2) [99, 111, 117, 110, 116, 101, 100] [t.d, .int 300] (.int (-1)) := bt_over ok hs
  have r := read_many (c := run GG TT m) (by omega) (fun env => call_ok mk) (cl_of w (by omega)) (fun env hp => call_ok (bt.any rfl (by simp [D.noLocL, Tr.nl', D.noLoc]) m (by omega) (by omega) hp))
  have e : runFn GG (run GG TT m) ⟨1, 3, b_read⟩ [.str X] [] = .exn ⟨[66, 97, 100, 84, 101, 120, 116], some (.int 0)⟩ (hpI (tksD ts ps) ((tksD ts ps).length : Nat) (X.length : Nat) 0) := by
    simp only [runFn, List.length_cons, List.length_nil, Nat.zero_add, if_true]
    rw [← r]
    show (match exs GG (run GG TT m) b_read ⟨[.d (.str X), .no, .no], []⟩ with | .nx s => _ | .rt d b s => _ | .exn x s => _ | .bad => _) = _
    cases exs GG (run GG TT m) b_read ⟨[.d (.str X), .no, .no], []⟩ <;> rfl
  have hT : TT [114, 101, 97, 100] = some ⟨1, 3, b_read⟩ := rfl
  have hn' : D.noLocL [D.str X] = true := rfl
  simp only [run, hT, hn', if_true, e, Ret.gone]
/-! the asks of good programs -/
theorem ev_shown {t : Tr} (ok : t.ok) (hs : t.size ≤ 300) : Ev (3 * t.dep + 5) [115, 104, 111, 119, 110] [t.d] (.str (txt (sh t))) := by
  refine Ev.of (n := 3 * t.dep + 4) (p := 1) (k := 1) (b := b_shown) rfl rfl fun m hm => ?_
  have c1 := fun (env : List Sl) => call_ok (env := env) (ev_checked ok hs m (by omega))
  have c2 := fun (env : List Sl) => call_ok (env := env) (ev_plain t.dep t (Nat.le_refl _) ok hs m (by omega))
  generalize t.d = d at *
  simp -implicitDefEqProofs [b_shown, c1, c2]
theorem free_yes : ∀ y, y ∉ (Tr.z .yes).free := by simp [Tr.free]
theorem ask_ok {t : Tr} (ok : t.ok) (hs : t.size ≤ 300) (hd : t.dep ≤ 12) (hc : ∀ y, y ∉ t.free) {j : Nat} (hj : j < 8) : ∃ n r, at? [D.int 0, .int 1, .int 2, .int 3, .int 9, .int 10, .int 11, .int 12] (j : Int) = some (.int n) ∧ Ev 80 [95, 108, 97, 119, 95, 97, 115, 107, 115] [.int n, t.d] r := by
  have al : ∀ a b : Tr, a.ok → b.ok → a.dep ≤ 26 → b.dep ≤ 26 → (∀ y, y ∉ a.free) → (∀ y, y ∉ b.free) → ∃ r, op2 .eq (a.ren []).d (b.ren []).d = some (.bool r) := fun a b ha hb da db fa fb => by
    have oa := ren_ok (ns := []) ha (fun y hy => absurd hy (fa y)) (by simpa using da)
    have ob := ren_ok (ns := []) hb (fun y hy => absurd hy (fb y)) (by simpa using db)
    exact ⟨_, o2_eqD (Tr.shp oa (by rw [ren_dep]; omega)) (Tr.shp ob (by rw [ren_dep]; omega))⟩
  have yd : (Tr.z .yes).d = .tup [.str [121, 101, 115]] := rfl
  have : j = 0 ∨ j = 1 ∨ j = 2 ∨ j = 3 ∨ j = 4 ∨ j = 5 ∨ j = 6 ∨ j = 7 := by omega
  rcases this with rfl | rfl | rfl | rfl | rfl | rfl | rfl | rfl
  · refine ⟨0, .lst [t.d, .none], rfl, Ev.of (n := 79) (p := 2) (k := 2) (b := b_law_asks) rfl rfl fun m hm => ?_⟩
    have c1 := fun (env : List Sl) => call_ok (env := env) (ev_checked ok hs m (by omega))
    generalize t.d = d at *
    simp -implicitDefEqProofs [b_law_asks, c1]
  · refine ⟨1, .lst [.int t.size], rfl, Ev.of (n := 79) (p := 2) (k := 2) (b := b_law_asks) rfl rfl fun m hm => ?_⟩
    have c1 := fun (env : List Sl) => call_ok (env := env) (ev_size ok hs m (by omega))
    generalize t.d = d at *
    simp -implicitDefEqProofs [b_law_asks, c1]
  · refine ⟨2, .lst [.lst ((sortTx t.free).map .str)], rfl, Ev.of (n := 79) (p := 2) (k := 2) (b := b_law_asks) rfl rfl fun m hm => ?_⟩
    have c1 := fun (env : List Sl) => call_ok (env := env) (ev_free ok hs m (by omega))
    generalize t.d = d at *
    simp -implicitDefEqProofs [b_law_asks, c1]
  · refine ⟨3, .str (txt (sh t)), rfl, Ev.of (n := 79) (p := 2) (k := 2) (b := b_law_asks) rfl rfl fun m hm => ?_⟩
    have c1 := fun (env : List Sl) => call_ok (env := env) (ev_shown ok hs m (by omega))
    generalize t.d = d at *
    simp -implicitDefEqProofs [b_law_asks, c1]
  · refine ⟨9, .tup (t.code []), rfl, Ev.of (n := 79) (p := 2) (k := 2) (b := b_law_asks) rfl rfl fun m hm => ?_⟩
    have c1 := fun (env : List Sl) => call_ok (env := env) (ev_codeof ok hs (by omega) hc m (by omega))
    generalize t.d = d at *
    simp -implicitDefEqProofs [b_law_asks, c1]
  · refine ⟨10, (t.ren []).d, rfl, Ev.of (n := 79) (p := 2) (k := 2) (b := b_law_asks) rfl rfl fun m hm => ?_⟩
    have c1 := fun (env : List Sl) => call_ok (env := env) (ev_renamed ok hs (by omega) hc m (by omega))
    generalize t.d = d at *
    simp -implicitDefEqProofs [b_law_asks, c1]
  · obtain ⟨r, e⟩ := al (.z .yes) t trivial ok (by simp [Tr.dep]) (by omega) free_yes hc
    refine ⟨11, .bool r, rfl, Ev.of (n := 79) (p := 2) (k := 2) (b := b_law_asks) rfl rfl fun m hm => ?_⟩
    have c1 := fun (env : List Sl) => call_ok (env := env) (ev_alike (t := .z .yes) (q := t) trivial (by decide) (by simp [Tr.dep]) free_yes ok hs (by omega) hc e m (by omega))
    rw [yd] at c1
    generalize t.d = d at *
    simp -implicitDefEqProofs [b_law_asks, c1]
  · obtain ⟨r, e⟩ := al t (.z .yes) ok trivial (by omega) (by simp [Tr.dep]) hc free_yes
    refine ⟨12, .bool r, rfl, Ev.of (n := 79) (p := 2) (k := 2) (b := b_law_asks) rfl rfl fun m hm => ?_⟩
    have c1 := fun (env : List Sl) => call_ok (env := env) (ev_alike (t := t) (q := .z .yes) ok hs (by omega) hc trivial (by decide) (by simp [Tr.dep]) free_yes e m (by omega))
    rw [yd] at c1
    generalize t.d = d at *
    simp -implicitDefEqProofs [b_law_asks, c1]
theorem ask_no {n : Nat} {x : D} (h : Bt n x) {j : Nat} (hj : j < 8) : ∃ i, at? [D.int 0, .int 1, .int 2, .int 3, .int 9, .int 10, .int 11, .int 12] (j : Int) = some (.int i) ∧ Er (n + 12) [95, 108, 97, 119, 95, 97, 115, 107, 115] [.int i, x] BT := by
  have : j = 0 ∨ j = 1 ∨ j = 2 ∨ j = 3 ∨ j = 4 ∨ j = 5 ∨ j = 6 ∨ j = 7 := by omega
  rcases this with rfl | rfl | rfl | rfl | rfl | rfl | rfl | rfl
  · exact ⟨0, rfl, er_ask0 h⟩
  · exact ⟨1, rfl, er_ask1 h⟩
  · exact ⟨2, rfl, er_ask2 h⟩
  · exact ⟨3, rfl, er_ask3 h⟩
  · exact ⟨9, rfl, er_ask9 h⟩
  · exact ⟨10, rfl, er_ask10 h⟩
  · exact ⟨11, rfl, er_ask11 h⟩
  · exact ⟨12, rfl, er_ask12 h⟩
section
variable {c : Oracle} {ns : List Int} {v0 v1 v2 v3 v4 n2 n3 i : Int} {M : Nat} {t ps r : D} {P : List D} {X : Tx}
theorem law_good (g0 : ∀ env, callR c [95, 108, 97, 119, 95, 99, 101, 108, 108] [.scr ns, .int 0] ⟨env, []⟩ = .ok (.int v0) ⟨env, []⟩) (g1 : ∀ env, callR c [95, 108, 97, 119, 95, 99, 101, 108, 108] [.scr ns, .int 1] ⟨env, []⟩ = .ok (.int v1) ⟨env, []⟩) (g2 : ∀ env, callR c [95, 108, 97, 119, 95, 99, 101, 108, 108] [.scr ns, .int 2] ⟨env, []⟩ = .ok (.int v2) ⟨env, []⟩) (g3 : ∀ env, callR c [95, 108, 97, 119, 95, 99, 101, 108, 108] [.scr ns, .int 3] ⟨env, []⟩ = .ok (.int v3) ⟨env, []⟩) (g4 : ∀ env, callR c [95, 108, 97, 119, 95, 99, 101, 108, 108] [.scr ns, .int 4] ⟨env, []⟩ = .ok (.int v4) ⟨env, []⟩)
    (e1 : at? [D.int (290 + v0 % 21), .int 299, .int 300, .int 301] (v1 % 4) = some (.int (M : Nat))) (e2 : v2 % 9973 = n2) (k1 : ∀ env, callR c [95, 108, 97, 119, 95, 112, 97, 114, 116, 115] [.int (M : Nat), .int n2] ⟨env, []⟩ = .ok t ⟨env, []⟩) (k2 : ∀ env, callR c [95, 108, 97, 119, 95, 112, 105, 101, 99, 101, 115] [t] ⟨env, []⟩ = .ok (.lst P) ⟨env, []⟩) (e3 : v3 % 99991 = n3) (k3 : ∀ env, callR c [95, 108, 97, 119, 95, 108, 97, 105, 100] [.lst P, .int n3] ⟨env, []⟩ = .ok (.tup [.str X, ps]) ⟨env, []⟩)
    (e4 : at? [D.int 0, .int 1, .int 2, .int 3, .int 9, .int 10, .int 11, .int 12] (v4 % 8) = some (.int i)) (k4 : ∀ env, callR c [115, 105, 122, 101] [t] ⟨env, []⟩ = .ok (.int (M : Nat)) ⟨env, []⟩) (k5 : ∀ env, callR c [114, 101, 97, 100] [.str X] ⟨env, []⟩ = .ok t ⟨env, []⟩) (ne : op2 .ne t t = some (.bool false)) (k6 : ∀ env, callR c [95, 108, 97, 119, 95, 97, 115, 107, 115] [.int i, t] ⟨env, []⟩ = .ok r ⟨env, []⟩) (hM : ((M : Nat) : Int) ≤ 300) :
    rtv (exs GG c b_law ⟨[.d (.scr ns), .no, .no, .no, .no, .no], []⟩) = some (.bool true, false, []) := by
  have n1 : op2 .ne (.int (M : Nat)) (.int (M : Nat)) = some (.bool false) := by simp [op2, D.shaped, D.dep, D.eqv]
  have q : op2 .eq (.lst []) (.lst []) = some (.bool true) := rfl
  generalize ((M : Nat) : Int) = MM at *
  simp -implicitDefEqProofs [b_law, g0, g1, g2, g3, g4, e1, e2, k1, k2, e3, k3, e4, k4, k5, ne, n1, k6, hM, q]
theorem law_bad (g0 : ∀ env, callR c [95, 108, 97, 119, 95, 99, 101, 108, 108] [.scr ns, .int 0] ⟨env, []⟩ = .ok (.int v0) ⟨env, []⟩) (g1 : ∀ env, callR c [95, 108, 97, 119, 95, 99, 101, 108, 108] [.scr ns, .int 1] ⟨env, []⟩ = .ok (.int v1) ⟨env, []⟩) (g2 : ∀ env, callR c [95, 108, 97, 119, 95, 99, 101, 108, 108] [.scr ns, .int 2] ⟨env, []⟩ = .ok (.int v2) ⟨env, []⟩) (g3 : ∀ env, callR c [95, 108, 97, 119, 95, 99, 101, 108, 108] [.scr ns, .int 3] ⟨env, []⟩ = .ok (.int v3) ⟨env, []⟩) (g4 : ∀ env, callR c [95, 108, 97, 119, 95, 99, 101, 108, 108] [.scr ns, .int 4] ⟨env, []⟩ = .ok (.int v4) ⟨env, []⟩)
    (e1 : at? [D.int (290 + v0 % 21), .int 299, .int 300, .int 301] (v1 % 4) = some (.int (M : Nat))) (e2 : v2 % 9973 = n2) (k1 : ∀ env, callR c [95, 108, 97, 119, 95, 112, 97, 114, 116, 115] [.int (M : Nat), .int n2] ⟨env, []⟩ = .ok t ⟨env, []⟩) (k2 : ∀ env, callR c [95, 108, 97, 119, 95, 112, 105, 101, 99, 101, 115] [t] ⟨env, []⟩ = .ok (.lst P) ⟨env, []⟩) (e3 : v3 % 99991 = n3) (k3 : ∀ env, callR c [95, 108, 97, 119, 95, 108, 97, 105, 100] [.lst P, .int n3] ⟨env, []⟩ = .ok (.tup [.str X, ps]) ⟨env, []⟩)
    (e4 : at? [D.int 0, .int 1, .int 2, .int 3, .int 9, .int 10, .int 11, .int 12] (v4 % 8) = some (.int i)) (k4 : ∀ env, callR c [115, 105, 122, 101] [t] ⟨env, []⟩ = .exn ⟨BT, Option.none⟩ ⟨env, []⟩) (k5 : ∀ env, callR c [114, 101, 97, 100] [.str X] ⟨env, []⟩ = .exn ⟨[66, 97, 100, 84, 101, 120, 116], some (.int 0)⟩ ⟨env, []⟩) (k6 : ∀ env, callR c [95, 108, 97, 119, 95, 97, 115, 107, 115] [.int i, t] ⟨env, []⟩ = .exn ⟨BT, Option.none⟩ ⟨env, []⟩) (hM : ¬ ((M : Nat) : Int) ≤ 300) :
    rtv (exs GG c b_law ⟨[.d (.scr ns), .no, .no, .no, .no, .no], []⟩) = some (.bool true, false, []) := by
  have q : op2 .eq (.lst [.str [116, 114, 101, 101], .str [116, 114, 101, 101], .str [116, 101, 120, 116]]) (.lst [.str [116, 114, 101, 101], .str [116, 114, 101, 101], .str [116, 101, 120, 116]]) = some (.bool true) := rfl
  have z0 : (0 : Nat) < LIM := by decide
  have z1 : (1 : Nat) < LIM := by decide
  have z2 : (2 : Nat) < LIM := by decide
  generalize ((M : Nat) : Int) = MM at *
  simp -implicitDefEqProofs [b_law, g0, g1, g2, g3, g4, e1, e2, k1, k2, e3, k3, e4, k4, k5, k6, hM, q, tryX, exh_cons, subT, z0, z1, z2]
end
theorem runs_true : ∀ ns : List Int, ns.length ≤ 63 → ∃ fr hp, run GG TT (200 + 1) [108, 97, 119] [.scr ns] [] = .ok (.bool true) fr hp := fun ns _ => by
  refine ⟨false, [], ?_⟩
  refine Ev.of (n := 200) (p := 1) (k := 6) (b := b_law) rfl rfl (fun m hm => ?_) 201 (Nat.le_refl _)
  obtain ⟨v0, g0⟩ := ev_cell ns 0
  obtain ⟨v1, g1⟩ := ev_cell ns 1
  obtain ⟨v2, g2⟩ := ev_cell ns 2
  obtain ⟨v3, g3⟩ := ev_cell ns 3
  obtain ⟨v4, g4⟩ := ev_cell ns 4
  have hM : ∃ M : Nat, 290 ≤ M ∧ M ≤ 310 ∧ at? [D.int (290 + v0 % 21), .int 299, .int 300, .int 301] (v1 % 4) = some (.int (M : Nat)) := by
    obtain ⟨u, hu, eu⟩ := mod_nat v1 4 (by omega)
    have eu : v1 % 4 = (u : Int) := eu
    obtain ⟨w, hw, ew⟩ := mod_nat v0 21 (by omega)
    have ew : v0 % 21 = (w : Int) := ew
    rw [eu, ew]
    have : u = 0 ∨ u = 1 ∨ u = 2 ∨ u = 3 := by omega
    rcases this with rfl | rfl | rfl | rfl
    · exact ⟨290 + w, by omega, by omega, by rw [show (290 : Int) + (w : Int) = ((290 + w : Nat) : Int) by omega]; rfl⟩
    · exact ⟨299, by omega, by omega, rfl⟩
    · exact ⟨300, by omega, by omega, rfl⟩
    · exact ⟨301, by omega, by omega, rfl⟩
  obtain ⟨M, m1, m2, e1⟩ := hM
  obtain ⟨t, ok, sz, td, fr, ep⟩ := ev_lparts 9 M (v2 % 9973) (by omega) (by omega)
  have pl := pcs_len t
  have LL := lim_big
  obtain ⟨X, ps, la, xl, xb, el⟩ := ev_laid (ts := pcs t) (v3 % 99991) (pcs_ok ok) (by omega)
  have dp := t.dep_pos
  have rw_ := brs_read (by omega) (pcs_read ok) 0
  obtain ⟨j, hj, ej⟩ := mod_nat v4 8 (by omega)
  have ej : v4 % 8 = (j : Int) := ej
  by_cases le : M ≤ 300
  · obtain ⟨i, r, e4, ka⟩ := ask_ok ok (by omega) (by omega) fr hj
    rw [← ej] at e4
    have r1 := ev_read (by omega) (by omega) la rw_ (by omega) ok (by omega) (by omega)
    have es := ev_size ok (by omega)
    rw [sz] at es
    have ne : op2 .ne t.d t.d = some (.bool false) := by
      rw [o2_neD (Tr.shp ok (by omega)) (Tr.shp ok (by omega)), Tr.eqv_self]
      rfl
    exact law_good (fun env => call_ok (g0 m (by omega))) (fun env => call_ok (g1 m (by omega))) (fun env => call_ok (g2 m (by omega))) (fun env => call_ok (g3 m (by omega))) (fun env => call_ok (g4 m (by omega))) e1 rfl (fun env => call_ok (ep m (by omega))) (fun env => call_ok (ev_pieces t.dep t (Nat.le_refl _) ok (by omega) m (by omega))) rfl (fun env => call_ok (el m (by omega))) e4 (fun env => call_ok (es m (by omega))) (fun env => call_ok (r1 m (by omega))) ne (fun env => call_ok (ka m (by omega))) (by omega)
  · have bt := bt_over ok (by omega)
    obtain ⟨i, e4, ka⟩ := ask_no bt hj
    rw [← ej] at e4
    have r1 := er_read (by omega) (by omega) la rw_ (by omega) ok (by omega) (by omega)
    exact law_bad (fun env => call_ok (g0 m (by omega))) (fun env => call_ok (g1 m (by omega))) (fun env => call_ok (g2 m (by omega))) (fun env => call_ok (g3 m (by omega))) (fun env => call_ok (g4 m (by omega))) e1 rfl (fun env => call_ok (ep m (by omega))) (fun env => call_ok (ev_pieces t.dep t (Nat.le_refl _) ok (by omega) m (by omega))) rfl (fun env => call_ok (el m (by omega))) e4 (fun env => call_exn (er_size bt m (by omega))) (fun env => call_exn (r1 m (by omega))) (fun env => call_exn (ka m (by omega))) (by omega)
end Fp
set_option Elab.async false
set_option maxRecDepth 100000
namespace Ft
open PySem PyProof.Rows L2
theorem c_is_within : cBody (cS 30 30 (qL.cc ["thing", "low", "high"] (defScope (topS 15)) [] [] [] [])) (defBody (topS 15)) = some b_is_within := by kernel_rfl
theorem sc_is_within : FnScope ["thing", "low", "high"] ["thing", "low", "high"] (defScope (topS 15)) := ⟨rfl, rfl, rfl, by decide +kernel, rfl, by decide +kernel, by decide +kernel⟩
theorem c_is_name : cBody (cS 30 30 (qL.cc ["thing", "sign"] (defScope (topS 16)) [] [] [] [])) (defBody (topS 16)) = some b_is_name := by kernel_rfl
theorem sc_is_name : FnScope ["thing", "sign"] ["thing"] (defScope (topS 16)) := ⟨rfl, rfl, rfl, by decide +kernel, rfl, by decide +kernel, by decide +kernel⟩
theorem c_parts_of : cBody (cS 30 30 (qL.cc ["tree"] (defScope (topS 17)) [] [] [] [])) (defBody (topS 17)) = some b_parts_of := by kernel_rfl
theorem sc_parts_of : FnScope ["tree"] ["tree"] (defScope (topS 17)) := ⟨rfl, rfl, rfl, by decide +kernel, rfl, by decide +kernel, by decide +kernel⟩
theorem c_has_look : cBody (cS 30 30 (qL.cc ["thing", "word"] (defScope (topS 18)) [] [] [] [])) (defBody (topS 18)) = some b_has_look := by kernel_rfl
theorem sc_has_look : FnScope ["thing", "word"] ["thing"] (defScope (topS 18)) := ⟨rfl, rfl, rfl, by decide +kernel, rfl, by decide +kernel, by decide +kernel⟩
theorem c_counted : cBody (cS 30 30 (qL.cc ["thing", "left", "part"] (defScope (topS 19)) [] [] [] [])) (defBody (topS 19)) = some b_counted := by kernel_rfl
theorem sc_counted : FnScope ["thing", "left", "part"] ["thing", "left"] (defScope (topS 19)) := ⟨rfl, rfl, rfl, by decide +kernel, rfl, by decide +kernel, by decide +kernel⟩
theorem c_is_tree : cBody (cS 30 30 (qL.cc ["thing"] (defScope (topS 20)) [] [] [] [])) (defBody (topS 20)) = some b_is_tree := by kernel_rfl
theorem sc_is_tree : FnScope ["thing"] ["thing"] (defScope (topS 20)) := ⟨rfl, rfl, rfl, by decide +kernel, rfl, by decide +kernel, by decide +kernel⟩
theorem c_checked : cBody (cS 30 30 (qL.cc ["tree"] (defScope (topS 21)) [] [] [] [])) (defBody (topS 21)) = some b_checked := by kernel_rfl
theorem sc_checked : FnScope ["tree"] ["tree"] (defScope (topS 21)) := ⟨rfl, rfl, rfl, by decide +kernel, rfl, by decide +kernel, by decide +kernel⟩
theorem c_size_of : cBody (cS 30 30 (qL.cc ["tree", "part"] (defScope (topS 22)) [] [] [] [])) (defBody (topS 22)) = some b_size_of := by kernel_rfl
theorem sc_size_of : FnScope ["tree", "part"] ["tree"] (defScope (topS 22)) := ⟨rfl, rfl, rfl, by decide +kernel, rfl, by decide +kernel, by decide +kernel⟩
theorem c_size : cBody (cS 30 30 (qL.cc ["tree"] (defScope (topS 23)) [] [] [] [])) (defBody (topS 23)) = some b_size := by kernel_rfl
theorem sc_size : FnScope ["tree"] ["tree"] (defScope (topS 23)) := ⟨rfl, rfl, rfl, by decide +kernel, rfl, by decide +kernel, by decide +kernel⟩
theorem c_free_of : cBody (cS 30 30 (qL.cc ["tree", "found", "at", "part", "bound", "name"] (defScope (topS 24)) ["found"] [] [] [])) (defBody (topS 24)) = some b_free_of := by kernel_rfl
theorem sc_free_of : FnScope ["tree", "found", "at", "part", "bound", "name"] ["tree"] (defScope (topS 24)) := ⟨rfl, rfl, rfl, by decide +kernel, rfl, by decide +kernel, by decide +kernel⟩
theorem c_free : cBody (cS 30 30 (qL.cc ["tree"] (defScope (topS 25)) [] [] [] [])) (defBody (topS 25)) = some b_free := by kernel_rfl
theorem sc_free : FnScope ["tree"] ["tree"] (defScope (topS 25)) := ⟨rfl, rfl, rfl, by decide +kernel, rfl, by decide +kernel, by decide +kernel⟩
theorem c_with_parts : cBody (cS 30 30 (qL.cc ["tree", "parts"] (defScope (topS 26)) [] [] [] [])) (defBody (topS 26)) = some b_with_parts := by kernel_rfl
theorem sc_with_parts : FnScope ["tree", "parts"] ["tree", "parts"] (defScope (topS 26)) := ⟨rfl, rfl, rfl, by decide +kernel, rfl, by decide +kernel, by decide +kernel⟩
theorem c_look_closed : cBody (cS 30 30 (qL.cc ["tree"] (defScope (topS 33)) [] [] [] [])) (defBody (topS 33)) = some b_look_closed := by kernel_rfl
theorem sc_look_closed : FnScope ["tree"] ["tree"] (defScope (topS 33)) := ⟨rfl, rfl, rfl, by decide +kernel, rfl, by decide +kernel, by decide +kernel⟩
theorem c_place_in : cBody (cS 30 30 (qL.cc ["names", "name"] (defScope (topS 37)) [] [] [] [])) (defBody (topS 37)) = some b_place_in := by kernel_rfl
theorem sc_place_in : FnScope ["names", "name"] ["names", "name"] (defScope (topS 37)) := ⟨rfl, rfl, rfl, by decide +kernel, rfl, by decide +kernel, by decide +kernel⟩
theorem c_code_in : cBody (cS 30 30 (qL.cc ["tree", "names", "word", "found", "part"] (defScope (topS 38)) [] [] [] [])) (defBody (topS 38)) = some b_code_in := by kernel_rfl
theorem sc_code_in : FnScope ["tree", "names", "word", "found", "part"] ["tree", "names"] (defScope (topS 38)) := ⟨rfl, rfl, rfl, by decide +kernel, rfl, by decide +kernel, by decide +kernel⟩
theorem c_code_of : cBody (cS 30 30 (qL.cc ["tree"] (defScope (topS 39)) [] [] [] [])) (defBody (topS 39)) = some b_code_of := by kernel_rfl
theorem sc_code_of : FnScope ["tree"] ["tree"] (defScope (topS 39)) := ⟨rfl, rfl, rfl, by decide +kernel, rfl, by decide +kernel, by decide +kernel⟩
theorem c_own_name : cBody (cS 30 30 (qL.cc ["number", "letters", "found"] (defScope (topS 40)) [] [] [] [])) (defBody (topS 40)) = some b_own_name := by kernel_rfl
theorem sc_own_name : FnScope ["number", "letters", "found"] ["number"] (defScope (topS 40)) := ⟨rfl, rfl, rfl, by decide +kernel, rfl, by decide +kernel, by decide +kernel⟩
theorem c_renamed_in : cBody (cS 30 30 (qL.cc ["tree", "names", "many", "own", "inner", "part"] (defScope (topS 56)) ["inner"] [] [] [])) (defBody (topS 56)) = some b_renamed_in := by kernel_rfl
theorem sc_renamed_in : FnScope ["tree", "names", "many", "own", "inner", "part"] ["tree", "names", "many"] (defScope (topS 56)) := ⟨rfl, rfl, rfl, by decide +kernel, rfl, by decide +kernel, by decide +kernel⟩
theorem c_renamed : cBody (cS 30 30 (qL.cc ["tree"] (defScope (topS 57)) [] [] [] [])) (defBody (topS 57)) = some b_renamed := by kernel_rfl
theorem sc_renamed : FnScope ["tree"] ["tree"] (defScope (topS 57)) := ⟨rfl, rfl, rfl, by decide +kernel, rfl, by decide +kernel, by decide +kernel⟩
theorem c_are_alike : cBody (cS 30 30 (qL.cc ["one", "other"] (defScope (topS 58)) [] [] [] [])) (defBody (topS 58)) = some b_are_alike := by kernel_rfl
theorem sc_are_alike : FnScope ["one", "other"] ["one", "other"] (defScope (topS 58)) := ⟨rfl, rfl, rfl, by decide +kernel, rfl, by decide +kernel, by decide +kernel⟩
theorem c_run_at : cBody (cS 30 30 (qL.cc ["text", "at", "some", "end"] (defScope (topS 72)) [] [] [] [])) (defBody (topS 72)) = some b_run_at := by kernel_rfl
theorem sc_run_at : FnScope ["text", "at", "some", "end"] ["text", "at", "some"] (defScope (topS 72)) := ⟨rfl, rfl, rfl, by decide +kernel, rfl, by decide +kernel, by decide +kernel⟩
theorem c_token_at : cBody (cS 30 30 (qL.cc ["text", "at", "end", "word"] (defScope (topS 73)) [] [] [] [])) (defBody (topS 73)) = some b_token_at := by kernel_rfl
theorem sc_token_at : FnScope ["text", "at", "end", "word"] ["text", "at"] (defScope (topS 73)) := ⟨rfl, rfl, rfl, by decide +kernel, rfl, by decide +kernel, by decide +kernel⟩
theorem c_tokens : cBody (cS 30 30 (qL.cc ["text", "found", "at", "token"] (defScope (topS 74)) ["found"] [] [] [])) (defBody (topS 74)) = some b_tokens := by kernel_rfl
theorem sc_tokens : FnScope ["text", "found", "at", "token"] ["text"] (defScope (topS 74)) := ⟨rfl, rfl, rfl, by decide +kernel, rfl, by decide +kernel, by decide +kernel⟩
theorem c_read : cBody (cS 30 30 (qL.cc ["text", "reader", "found"] (defScope (topS 80)) [] [("reader", "Reader")] [] [])) (defBody (topS 80)) = some b_read := by kernel_rfl
theorem sc_read : FnScope ["text", "reader", "found"] ["text"] (defScope (topS 80)) := ⟨rfl, rfl, rfl, by decide +kernel, rfl, by decide +kernel, by decide +kernel⟩
theorem c_level_of : cBody (cS 30 30 (qL.cc ["tree"] (defScope (topS 91)) [] [] [] [])) (defBody (topS 91)) = some b_level_of := by kernel_rfl
theorem sc_level_of : FnScope ["tree"] ["tree"] (defScope (topS 91)) := ⟨rfl, rfl, rfl, by decide +kernel, rfl, by decide +kernel, by decide +kernel⟩
theorem c_at_level : cBody (cS 30 30 (qL.cc ["tree", "level"] (defScope (topS 92)) [] [] [] [])) (defBody (topS 92)) = some b_at_level := by kernel_rfl
theorem sc_at_level : FnScope ["tree", "level"] ["tree", "level"] (defScope (topS 92)) := ⟨rfl, rfl, rfl, by decide +kernel, rfl, by decide +kernel, by decide +kernel⟩
theorem c_plain_two : cBody (cS 30 30 (qL.cc ["tree", "level", "left", "right"] (defScope (topS 93)) [] [] [] [])) (defBody (topS 93)) = some b_plain_two := by kernel_rfl
theorem sc_plain_two : FnScope ["tree", "level", "left", "right"] ["tree"] (defScope (topS 93)) := ⟨rfl, rfl, rfl, by decide +kernel, rfl, by decide +kernel, by decide +kernel⟩
theorem c_plain : cBody (cS 30 30 (qL.cc ["tree", "word", "part"] (defScope (topS 94)) [] [] [] [])) (defBody (topS 94)) = some b_plain := by kernel_rfl
theorem sc_plain : FnScope ["tree", "word", "part"] ["tree"] (defScope (topS 94)) := ⟨rfl, rfl, rfl, by decide +kernel, rfl, by decide +kernel, by decide +kernel⟩
theorem c_shown : cBody (cS 30 30 (qL.cc ["tree"] (defScope (topS 95)) [] [] [] [])) (defBody (topS 95)) = some b_shown := by kernel_rfl
theorem sc_shown : FnScope ["tree"] ["tree"] (defScope (topS 95)) := ⟨rfl, rfl, rfl, by decide +kernel, rfl, by decide +kernel, by decide +kernel⟩
theorem c_law_cell : cBody (cS 30 30 (qL.cc ["script", "k"] (defScope (topS 97)) [] [] [] [])) (defBody (topS 97)) = some b_law_cell := by kernel_rfl
theorem sc_law_cell : FnScope ["script", "k"] ["script", "k"] (defScope (topS 97)) := ⟨rfl, rfl, rfl, by decide +kernel, rfl, by decide +kernel, by decide +kernel⟩
theorem c_law_seed : cBody (cS 30 30 (qL.cc ["seed", "k"] (defScope (topS 98)) [] [] [] [])) (defBody (topS 98)) = some b_law_seed := by kernel_rfl
theorem sc_law_seed : FnScope ["seed", "k"] ["seed", "k"] (defScope (topS 98)) := ⟨rfl, rfl, rfl, by decide +kernel, rfl, by decide +kernel, by decide +kernel⟩
theorem c_law_pick : cBody (cS 30 30 (qL.cc ["seed", "many"] (defScope (topS 99)) [] [] [] [])) (defBody (topS 99)) = some b_law_pick := by kernel_rfl
theorem sc_law_pick : FnScope ["seed", "many"] ["seed", "many"] (defScope (topS 99)) := ⟨rfl, rfl, rfl, by decide +kernel, rfl, by decide +kernel, by decide +kernel⟩
theorem c_law_asks : cBody (cS 30 30 (qL.cc ["number", "tree"] (defScope (topS 100)) [] [] [] [])) (defBody (topS 100)) = some b_law_asks := by kernel_rfl
theorem sc_law_asks : FnScope ["number", "tree"] ["number", "tree"] (defScope (topS 100)) := ⟨rfl, rfl, rfl, by decide +kernel, rfl, by decide +kernel, by decide +kernel⟩
theorem c_law_parts : cBody (cS 30 30 (qL.cc ["many", "seed", "half"] (defScope (topS 101)) [] [] [] [])) (defBody (topS 101)) = some b_law_parts := by kernel_rfl
theorem sc_law_parts : FnScope ["many", "seed", "half"] ["many", "seed"] (defScope (topS 101)) := ⟨rfl, rfl, rfl, by decide +kernel, rfl, by decide +kernel, by decide +kernel⟩
theorem c_law_pieces : cBody (cS 30 30 (qL.cc ["tree", "word", "some", "part", "found", "one"] (defScope (topS 102)) [] [] [] [])) (defBody (topS 102)) = some b_law_pieces := by kernel_rfl
theorem sc_law_pieces : FnScope ["tree", "word", "some", "part", "found", "one"] ["tree"] (defScope (topS 102)) := ⟨rfl, rfl, rfl, by decide +kernel, rfl, by decide +kernel, by decide +kernel⟩
theorem c_law_laid : cBody (cS 30 30 (qL.cc ["pieces", "seed", "text", "places", "k", "piece", "gap"] (defScope (topS 103)) ["places"] [] [] [])) (defBody (topS 103)) = some b_law_laid := by kernel_rfl
theorem sc_law_laid : FnScope ["pieces", "seed", "text", "places", "k", "piece", "gap"] ["pieces", "seed"] (defScope (topS 103)) := ⟨rfl, rfl, rfl, by decide +kernel, rfl, by decide +kernel, by decide +kernel⟩
theorem c_law : cBody (cS 30 30 (qL.cc ["script", "many", "tree", "text", "number", "caught"] (defScope (topS 104)) ["caught"] [] [] [])) (defBody (topS 104)) = some b_law := by kernel_rfl
theorem sc_law : FnScope ["script", "many", "tree", "text", "number", "caught"] ["script"] (defScope (topS 104)) := ⟨rfl, rfl, rfl, by decide +kernel, rfl, by decide +kernel, by decide +kernel⟩
theorem c_BadText_init__ : cBody (cS 30 30 (qL.cc ["self", "text", "at"] (defScope (inClass (topS 3) 0)) [] [] [] [])) (defBody (inClass (topS 3) 0)) = some b_BadText_init__ := by kernel_rfl
theorem sc_BadText_init__ : FnScope ["self", "text", "at"] ["self", "text", "at"] (defScope (inClass (topS 3) 0)) := ⟨rfl, rfl, rfl, by decide +kernel, rfl, by decide +kernel, by decide +kernel⟩
theorem c_Reader_init__ : cBody (cS 30 30 (qL.cc ["self", "text"] (defScope (inClass (topS 79) 0)) [] [("self", "Reader")] [] [])) (defBody (inClass (topS 79) 0)) = some b_Reader_init__ := by kernel_rfl
theorem sc_Reader_init__ : FnScope ["self", "text"] ["self", "text"] (defScope (inClass (topS 79) 0)) := ⟨rfl, rfl, rfl, by decide +kernel, rfl, by decide +kernel, by decide +kernel⟩
theorem c_Reader_coming : cBody (cS 30 30 (qL.cc ["self"] (defScope (inClass (topS 79) 1)) [] [("self", "Reader")] [] [])) (defBody (inClass (topS 79) 1)) = some b_Reader_coming := by kernel_rfl
theorem sc_Reader_coming : FnScope ["self"] ["self"] (defScope (inClass (topS 79) 1)) := ⟨rfl, rfl, rfl, by decide +kernel, rfl, by decide +kernel, by decide +kernel⟩
theorem c_Reader_place : cBody (cS 30 30 (qL.cc ["self"] (defScope (inClass (topS 79) 2)) [] [("self", "Reader")] [] [])) (defBody (inClass (topS 79) 2)) = some b_Reader_place := by kernel_rfl
theorem sc_Reader_place : FnScope ["self"] ["self"] (defScope (inClass (topS 79) 2)) := ⟨rfl, rfl, rfl, by decide +kernel, rfl, by decide +kernel, by decide +kernel⟩
theorem c_Reader_is_next : cBody (cS 30 30 (qL.cc ["self", "kind", "what"] (defScope (inClass (topS 79) 3)) [] [("self", "Reader")] [] [])) (defBody (inClass (topS 79) 3)) = some b_Reader_is_next := by kernel_rfl
theorem sc_Reader_is_next : FnScope ["self", "kind", "what"] ["self", "kind", "what"] (defScope (inClass (topS 79) 3)) := ⟨rfl, rfl, rfl, by decide +kernel, rfl, by decide +kernel, by decide +kernel⟩
theorem c_Reader_take : cBody (cS 30 30 (qL.cc ["self", "kind", "what"] (defScope (inClass (topS 79) 4)) [] [("self", "Reader")] [] [])) (defBody (inClass (topS 79) 4)) = some b_Reader_take := by kernel_rfl
theorem sc_Reader_take : FnScope ["self", "kind", "what"] ["self", "kind", "what"] (defScope (inClass (topS 79) 4)) := ⟨rfl, rfl, rfl, by decide +kernel, rfl, by decide +kernel, by decide +kernel⟩
theorem c_Reader_name : cBody (cS 30 30 (qL.cc ["self"] (defScope (inClass (topS 79) 5)) [] [("self", "Reader")] [] [])) (defBody (inClass (topS 79) 5)) = some b_Reader_name := by kernel_rfl
theorem sc_Reader_name : FnScope ["self"] ["self"] (defScope (inClass (topS 79) 5)) := ⟨rfl, rfl, rfl, by decide +kernel, rfl, by decide +kernel, by decide +kernel⟩
theorem c_Reader_whole : cBody (cS 30 30 (qL.cc ["self", "found"] (defScope (inClass (topS 79) 6)) [] [("self", "Reader")] [] [])) (defBody (inClass (topS 79) 6)) = some b_Reader_whole := by kernel_rfl
theorem sc_Reader_whole : FnScope ["self", "found"] ["self"] (defScope (inClass (topS 79) 6)) := ⟨rfl, rfl, rfl, by decide +kernel, rfl, by decide +kernel, by decide +kernel⟩
theorem c_Reader_whole_here : cBody (cS 30 30 (qL.cc ["self", "name", "what", "asked", "one"] (defScope (inClass (topS 79) 7)) [] [("self", "Reader")] [] [])) (defBody (inClass (topS 79) 7)) = some b_Reader_whole_here := by kernel_rfl
theorem sc_Reader_whole_here : FnScope ["self", "name", "what", "asked", "one"] ["self"] (defScope (inClass (topS 79) 7)) := ⟨rfl, rfl, rfl, by decide +kernel, rfl, by decide +kernel, by decide +kernel⟩
theorem c_Reader_level : cBody (cS 30 30 (qL.cc ["self", "number", "found", "sign"] (defScope (inClass (topS 79) 8)) [] [("self", "Reader")] [] [])) (defBody (inClass (topS 79) 8)) = some b_Reader_level := by kernel_rfl
theorem sc_Reader_level : FnScope ["self", "number", "found", "sign"] ["self", "number"] (defScope (inClass (topS 79) 8)) := ⟨rfl, rfl, rfl, by decide +kernel, rfl, by decide +kernel, by decide +kernel⟩
theorem c_Reader_called : cBody (cS 30 30 (qL.cc ["self", "kind", "what", "found", "part"] (defScope (inClass (topS 79) 9)) [] [("self", "Reader")] [] [])) (defBody (inClass (topS 79) 9)) = some b_Reader_called := by kernel_rfl
theorem sc_Reader_called : FnScope ["self", "kind", "what", "found", "part"] ["self"] (defScope (inClass (topS 79) 9)) := ⟨rfl, rfl, rfl, by decide +kernel, rfl, by decide +kernel, by decide +kernel⟩
theorem c_Reader_starts_single : cBody (cS 30 30 (qL.cc ["self", "kind", "what"] (defScope (inClass (topS 79) 10)) [] [("self", "Reader")] [] [])) (defBody (inClass (topS 79) 10)) = some b_Reader_starts_single := by kernel_rfl
theorem sc_Reader_starts_single : FnScope ["self", "kind", "what"] ["self"] (defScope (inClass (topS 79) 10)) := ⟨rfl, rfl, rfl, by decide +kernel, rfl, by decide +kernel, by decide +kernel⟩
theorem c_Reader_single : cBody (cS 30 30 (qL.cc ["self", "kind", "what", "found"] (defScope (inClass (topS 79) 11)) [] [("self", "Reader")] [] [])) (defBody (inClass (topS 79) 11)) = some b_Reader_single := by kernel_rfl
theorem sc_Reader_single : FnScope ["self", "kind", "what", "found"] ["self"] (defScope (inClass (topS 79) 11)) := ⟨rfl, rfl, rfl, by decide +kernel, rfl, by decide +kernel, by decide +kernel⟩
end Ft
set_option Elab.async false
set_option maxRecDepth 100000
namespace Ft
open PySem PyProof.Rows L2
theorem o_is_within : FD.Ok (lookT tabL) qL d_is_within := ⟨sc_is_within, c_is_within, by kernel_rfl, fun _ _ _ _ _ _ us hl => match us, hl with | [_, _, _], _ => by kernel_rfl⟩
theorem o_is_name : FD.Ok (lookT tabL) qL d_is_name := ⟨sc_is_name, c_is_name, by kernel_rfl, fun _ _ _ _ _ _ us hl => match us, hl with | [_], _ => by kernel_rfl⟩
theorem o_parts_of : FD.Ok (lookT tabL) qL d_parts_of := ⟨sc_parts_of, c_parts_of, by kernel_rfl, fun _ _ _ _ _ _ us hl => match us, hl with | [_], _ => by kernel_rfl⟩
theorem o_has_look : FD.Ok (lookT tabL) qL d_has_look := ⟨sc_has_look, c_has_look, by kernel_rfl, fun _ _ _ _ _ _ us hl => match us, hl with | [_], _ => by kernel_rfl⟩
theorem o_counted : FD.Ok (lookT tabL) qL d_counted := ⟨sc_counted, c_counted, by kernel_rfl, fun _ _ _ _ _ _ us hl => match us, hl with | [_, _], _ => by kernel_rfl⟩
theorem o_is_tree : FD.Ok (lookT tabL) qL d_is_tree := ⟨sc_is_tree, c_is_tree, by kernel_rfl, fun _ _ _ _ _ _ us hl => match us, hl with | [_], _ => by kernel_rfl⟩
theorem o_checked : FD.Ok (lookT tabL) qL d_checked := ⟨sc_checked, c_checked, by kernel_rfl, fun _ _ _ _ _ _ us hl => match us, hl with | [_], _ => by kernel_rfl⟩
theorem o_size_of : FD.Ok (lookT tabL) qL d_size_of := ⟨sc_size_of, c_size_of, by kernel_rfl, fun _ _ _ _ _ _ us hl => match us, hl with | [_], _ => by kernel_rfl⟩
theorem o_size : FD.Ok (lookT tabL) qL d_size := ⟨sc_size, c_size, by kernel_rfl, fun _ _ _ _ _ _ us hl => match us, hl with | [_], _ => by kernel_rfl⟩
theorem o_free_of : FD.Ok (lookT tabL) qL d_free_of := ⟨sc_free_of, c_free_of, by kernel_rfl, fun _ _ _ _ _ _ us hl => match us, hl with | [_], _ => by kernel_rfl⟩
theorem o_free : FD.Ok (lookT tabL) qL d_free := ⟨sc_free, c_free, by kernel_rfl, fun _ _ _ _ _ _ us hl => match us, hl with | [_], _ => by kernel_rfl⟩
theorem o_with_parts : FD.Ok (lookT tabL) qL d_with_parts := ⟨sc_with_parts, c_with_parts, by kernel_rfl, fun _ _ _ _ _ _ us hl => match us, hl with | [_, _], _ => by kernel_rfl⟩
theorem o_look_closed : FD.Ok (lookT tabL) qL d_look_closed := ⟨sc_look_closed, c_look_closed, by kernel_rfl, fun _ _ _ _ _ _ us hl => match us, hl with | [_], _ => by kernel_rfl⟩
theorem o_place_in : FD.Ok (lookT tabL) qL d_place_in := ⟨sc_place_in, c_place_in, by kernel_rfl, fun _ _ _ _ _ _ us hl => match us, hl with | [_, _], _ => by kernel_rfl⟩
theorem o_code_in : FD.Ok (lookT tabL) qL d_code_in := ⟨sc_code_in, c_code_in, by kernel_rfl, fun _ _ _ _ _ _ us hl => match us, hl with | [_, _], _ => by kernel_rfl⟩
theorem o_code_of : FD.Ok (lookT tabL) qL d_code_of := ⟨sc_code_of, c_code_of, by kernel_rfl, fun _ _ _ _ _ _ us hl => match us, hl with | [_], _ => by kernel_rfl⟩
theorem o_own_name : FD.Ok (lookT tabL) qL d_own_name := ⟨sc_own_name, c_own_name, by kernel_rfl, fun _ _ _ _ _ _ us hl => match us, hl with | [_], _ => by kernel_rfl⟩
theorem o_renamed_in : FD.Ok (lookT tabL) qL d_renamed_in := ⟨sc_renamed_in, c_renamed_in, by kernel_rfl, fun _ _ _ _ _ _ us hl => match us, hl with | [_, _, _], _ => by kernel_rfl⟩
theorem o_renamed : FD.Ok (lookT tabL) qL d_renamed := ⟨sc_renamed, c_renamed, by kernel_rfl, fun _ _ _ _ _ _ us hl => match us, hl with | [_], _ => by kernel_rfl⟩
theorem o_are_alike : FD.Ok (lookT tabL) qL d_are_alike := ⟨sc_are_alike, c_are_alike, by kernel_rfl, fun _ _ _ _ _ _ us hl => match us, hl with | [_, _], _ => by kernel_rfl⟩
theorem o_run_at : FD.Ok (lookT tabL) qL d_run_at := ⟨sc_run_at, c_run_at, by kernel_rfl, fun _ _ _ _ _ _ us hl => match us, hl with | [_, _, _], _ => by kernel_rfl⟩
theorem o_token_at : FD.Ok (lookT tabL) qL d_token_at := ⟨sc_token_at, c_token_at, by kernel_rfl, fun _ _ _ _ _ _ us hl => match us, hl with | [_, _], _ => by kernel_rfl⟩
theorem o_tokens : FD.Ok (lookT tabL) qL d_tokens := ⟨sc_tokens, c_tokens, by kernel_rfl, fun _ _ _ _ _ _ us hl => match us, hl with | [_], _ => by kernel_rfl⟩
theorem o_read : FD.Ok (lookT tabL) qL d_read := ⟨sc_read, c_read, by kernel_rfl, fun _ _ _ _ _ _ us hl => match us, hl with | [_], _ => by kernel_rfl⟩
theorem o_level_of : FD.Ok (lookT tabL) qL d_level_of := ⟨sc_level_of, c_level_of, by kernel_rfl, fun _ _ _ _ _ _ us hl => match us, hl with | [_], _ => by kernel_rfl⟩
theorem o_at_level : FD.Ok (lookT tabL) qL d_at_level := ⟨sc_at_level, c_at_level, by kernel_rfl, fun _ _ _ _ _ _ us hl => match us, hl with | [_, _], _ => by kernel_rfl⟩
theorem o_plain_two : FD.Ok (lookT tabL) qL d_plain_two := ⟨sc_plain_two, c_plain_two, by kernel_rfl, fun _ _ _ _ _ _ us hl => match us, hl with | [_], _ => by kernel_rfl⟩
theorem o_plain : FD.Ok (lookT tabL) qL d_plain := ⟨sc_plain, c_plain, by kernel_rfl, fun _ _ _ _ _ _ us hl => match us, hl with | [_], _ => by kernel_rfl⟩
theorem o_shown : FD.Ok (lookT tabL) qL d_shown := ⟨sc_shown, c_shown, by kernel_rfl, fun _ _ _ _ _ _ us hl => match us, hl with | [_], _ => by kernel_rfl⟩
theorem o_law_cell : FD.Ok (lookT tabL) qL d_law_cell := ⟨sc_law_cell, c_law_cell, by kernel_rfl, fun _ _ _ _ _ _ us hl => match us, hl with | [_, _], _ => by kernel_rfl⟩
theorem o_law_seed : FD.Ok (lookT tabL) qL d_law_seed := ⟨sc_law_seed, c_law_seed, by kernel_rfl, fun _ _ _ _ _ _ us hl => match us, hl with | [_, _], _ => by kernel_rfl⟩
theorem o_law_pick : FD.Ok (lookT tabL) qL d_law_pick := ⟨sc_law_pick, c_law_pick, by kernel_rfl, fun _ _ _ _ _ _ us hl => match us, hl with | [_, _], _ => by kernel_rfl⟩
theorem o_law_asks : FD.Ok (lookT tabL) qL d_law_asks := ⟨sc_law_asks, c_law_asks, by kernel_rfl, fun _ _ _ _ _ _ us hl => match us, hl with | [_, _], _ => by kernel_rfl⟩
theorem o_law_parts : FD.Ok (lookT tabL) qL d_law_parts := ⟨sc_law_parts, c_law_parts, by kernel_rfl, fun _ _ _ _ _ _ us hl => match us, hl with | [_, _], _ => by kernel_rfl⟩
theorem o_law_pieces : FD.Ok (lookT tabL) qL d_law_pieces := ⟨sc_law_pieces, c_law_pieces, by kernel_rfl, fun _ _ _ _ _ _ us hl => match us, hl with | [_], _ => by kernel_rfl⟩
theorem o_law_laid : FD.Ok (lookT tabL) qL d_law_laid := ⟨sc_law_laid, c_law_laid, by kernel_rfl, fun _ _ _ _ _ _ us hl => match us, hl with | [_, _], _ => by kernel_rfl⟩
theorem o_law : FD.Ok (lookT tabL) qL d_law := ⟨sc_law, c_law, by kernel_rfl, fun _ _ _ _ _ _ us hl => match us, hl with | [_], _ => by kernel_rfl⟩
theorem o_BadText_init__ : FD.Ok (lookT tabL) qL d_BadText_init__ := ⟨sc_BadText_init__, c_BadText_init__, by kernel_rfl, fun _ _ _ _ _ _ us hl => match us, hl with | [_, _, _], _ => by kernel_rfl⟩
theorem o_Reader_init__ : FD.Ok (lookT tabL) qL d_Reader_init__ := ⟨sc_Reader_init__, c_Reader_init__, by kernel_rfl, fun _ _ _ _ _ _ us hl => match us, hl with | [_, _], _ => by kernel_rfl⟩
theorem o_Reader_coming : FD.Ok (lookT tabL) qL d_Reader_coming := ⟨sc_Reader_coming, c_Reader_coming, by kernel_rfl, fun _ _ _ _ _ _ us hl => match us, hl with | [_], _ => by kernel_rfl⟩
theorem o_Reader_place : FD.Ok (lookT tabL) qL d_Reader_place := ⟨sc_Reader_place, c_Reader_place, by kernel_rfl, fun _ _ _ _ _ _ us hl => match us, hl with | [_], _ => by kernel_rfl⟩
theorem o_Reader_is_next : FD.Ok (lookT tabL) qL d_Reader_is_next := ⟨sc_Reader_is_next, c_Reader_is_next, by kernel_rfl, fun _ _ _ _ _ _ us hl => match us, hl with | [_, _, _], _ => by kernel_rfl⟩
theorem o_Reader_take : FD.Ok (lookT tabL) qL d_Reader_take := ⟨sc_Reader_take, c_Reader_take, by kernel_rfl, fun _ _ _ _ _ _ us hl => match us, hl with | [_, _, _], _ => by kernel_rfl⟩
theorem o_Reader_name : FD.Ok (lookT tabL) qL d_Reader_name := ⟨sc_Reader_name, c_Reader_name, by kernel_rfl, fun _ _ _ _ _ _ us hl => match us, hl with | [_], _ => by kernel_rfl⟩
theorem o_Reader_whole : FD.Ok (lookT tabL) qL d_Reader_whole := ⟨sc_Reader_whole, c_Reader_whole, by kernel_rfl, fun _ _ _ _ _ _ us hl => match us, hl with | [_], _ => by kernel_rfl⟩
theorem o_Reader_whole_here : FD.Ok (lookT tabL) qL d_Reader_whole_here := ⟨sc_Reader_whole_here, c_Reader_whole_here, by kernel_rfl, fun _ _ _ _ _ _ us hl => match us, hl with | [_], _ => by kernel_rfl⟩
theorem o_Reader_level : FD.Ok (lookT tabL) qL d_Reader_level := ⟨sc_Reader_level, c_Reader_level, by kernel_rfl, fun _ _ _ _ _ _ us hl => match us, hl with | [_, _], _ => by kernel_rfl⟩
theorem o_Reader_called : FD.Ok (lookT tabL) qL d_Reader_called := ⟨sc_Reader_called, c_Reader_called, by kernel_rfl, fun _ _ _ _ _ _ us hl => match us, hl with | [_], _ => by kernel_rfl⟩
theorem o_Reader_starts_single : FD.Ok (lookT tabL) qL d_Reader_starts_single := ⟨sc_Reader_starts_single, c_Reader_starts_single, by kernel_rfl, fun _ _ _ _ _ _ us hl => match us, hl with | [_], _ => by kernel_rfl⟩
theorem o_Reader_single : FD.Ok (lookT tabL) qL d_Reader_single := ⟨sc_Reader_single, c_Reader_single, by kernel_rfl, fun _ _ _ _ _ _ us hl => match us, hl with | [_], _ => by kernel_rfl⟩
theorem ok_all : ∀ d ∈ datL, FD.Ok (lookT tabL) qL d := fm_cons o_is_within (fm_cons o_is_name (fm_cons o_parts_of (fm_cons o_has_look (fm_cons o_counted (fm_cons o_is_tree (fm_cons o_checked (fm_cons o_size_of (fm_cons o_size (fm_cons o_free_of (fm_cons o_free (fm_cons o_with_parts (fm_cons o_look_closed (fm_cons o_place_in (fm_cons o_code_in (fm_cons o_code_of (fm_cons o_own_name (fm_cons o_renamed_in (fm_cons o_renamed (fm_cons o_are_alike (fm_cons o_run_at (fm_cons o_token_at (fm_cons o_tokens (fm_cons o_read (fm_cons o_level_of (fm_cons o_at_level (fm_cons o_plain_two (fm_cons o_plain (fm_cons o_shown (fm_cons o_law_cell (fm_cons o_law_seed (fm_cons o_law_pick (fm_cons o_law_asks (fm_cons o_law_parts (fm_cons o_law_pieces (fm_cons o_law_laid (fm_cons o_law (fm_cons o_BadText_init__ (fm_cons o_Reader_init__ (fm_cons o_Reader_coming (fm_cons o_Reader_place (fm_cons o_Reader_is_next (fm_cons o_Reader_take (fm_cons o_Reader_name (fm_cons o_Reader_whole (fm_cons o_Reader_whole_here (fm_cons o_Reader_level (fm_cons o_Reader_called (fm_cons o_Reader_starts_single (fm_cons o_Reader_single (fm_nil))))))))))))))))))))))))))))))))))))))))))))))))))
theorem law_in : d_law ∈ datL := List.Mem.tail _ (List.Mem.tail _ (List.Mem.tail _ (List.Mem.tail _ (List.Mem.tail _ (List.Mem.tail _ (List.Mem.tail _ (List.Mem.tail _ (List.Mem.tail _ (List.Mem.tail _ (List.Mem.tail _ (List.Mem.tail _ (List.Mem.tail _ (List.Mem.tail _ (List.Mem.tail _ (List.Mem.tail _ (List.Mem.tail _ (List.Mem.tail _ (List.Mem.tail _ (List.Mem.tail _ (List.Mem.tail _ (List.Mem.tail _ (List.Mem.tail _ (List.Mem.tail _ (List.Mem.tail _ (List.Mem.tail _ (List.Mem.tail _ (List.Mem.tail _ (List.Mem.tail _ (List.Mem.tail _ (List.Mem.tail _ (List.Mem.tail _ (List.Mem.tail _ (List.Mem.tail _ (List.Mem.tail _ (List.Mem.tail _ (List.Mem.head _))))))))))))))))))))))))))))))))))))
theorem it_BadText : InitT (inClass (topS 3) 0) "TongueError" := ⟨by kernel_rfl, sc_BadText_init__, by kernel_rfl, by kernel_rfl, by kernel_rfl, by kernel_rfl, by kernel_rfl⟩
theorem q_ok : qL.Ok (lookT tabL) datL gloL := ⟨by decide +kernel, by decide +kernel, by decide +kernel, by decide +kernel, by decide +kernel, fm_cons ⟨d_BadText_init__, List.Mem.tail _ (List.Mem.tail _ (List.Mem.tail _ (List.Mem.tail _ (List.Mem.tail _ (List.Mem.tail _ (List.Mem.tail _ (List.Mem.tail _ (List.Mem.tail _ (List.Mem.tail _ (List.Mem.tail _ (List.Mem.tail _ (List.Mem.tail _ (List.Mem.tail _ (List.Mem.tail _ (List.Mem.tail _ (List.Mem.tail _ (List.Mem.tail _ (List.Mem.tail _ (List.Mem.tail _ (List.Mem.tail _ (List.Mem.tail _ (List.Mem.tail _ (List.Mem.tail _ (List.Mem.tail _ (List.Mem.tail _ (List.Mem.tail _ (List.Mem.tail _ (List.Mem.tail _ (List.Mem.tail _ (List.Mem.tail _ (List.Mem.tail _ (List.Mem.tail _ (List.Mem.tail _ (List.Mem.tail _ (List.Mem.tail _ (List.Mem.tail _ (List.Mem.head _))))))))))))))))))))))))))))))))))))), rfl, rfl, rfl, rfl, it_BadText⟩ (fm_nil)⟩
end Ft
open PySem PySem.W PySem.Calls PyProof.Rows Ft
set_option maxHeartbeats 0 in
theorem PySem.Challenge.cw_foldtongue_k03_three_hundred_holds : PySem.Challenge.rw_foldtongue_k03_three_hundred.Holds := by
  refine Ft.headL ?hc
  case hc => exact Ft.law_walkH (l := PySem.Challenge.rw_foldtongue_k03_three_hundred) (n := 5) (q := Ft.qL) (dat := Ft.datL) (glo := gloL) (T := lookT tabL) (lev := 200) (rk := 72) (dl := Ft.d_law) rfl (by kernel_rfl) (by kernel_rfl) (by decide) ⟨rfl, by decide, by decide⟩ Ft.ok_all Ft.q_ok Ft.law_in rfl rfl rfl Fp.runs_true
